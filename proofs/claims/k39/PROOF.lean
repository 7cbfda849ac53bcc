import PyProof.Rows.All
import Wide.All
import OpenK.AllK
import Wide.FinOn
import HandS.ForMost
import HandS.Wide
import HandS.WideBits
import HandS.IsInst
import HandS.Deep
import HandS.Style
import HandS.TupAny
import KE.KTupSum
import KE.GoesEnum
import PySem.Challenge.RW_healwires_k39_whole_mendings
import HandS.Dict
import KE.SortData
import KE.KRevSl
import KE.OsSort
set_option Elab.async false
set_option linter.all false
set_option maxRecDepth 100000
set_option maxHeartbeats 1000000
/-! HwA: data in the abstract heap, worlds (what is hidden), what a reading comes to. -/
namespace Hw
open PySem PySem.Spec L2

/-! ### data -/
mutual
inductive Dt (K : PySem.W.Frag) (M : Hp) : V → PyData → Prop
  | non : Dt K M .non .none
  | bl (b : Bool) : Dt K M (.bl b) (.bool b)
  | int (i : Int) : Dt K M (.int i) (.int i)
  | str (x : Str) : Dt K M (.str x) (.str x)
  | lst {a : Addr} {xs : List V} {ds : List PyData} (h : SqL K M a xs) (hs : Dts K M xs ds) : Dt K M (.ref a) (.list ds)
  | tup {a : Addr} {xs : List V} {ds : List PyData} (h : SqT K M a xs) (hs : Dts K M xs ds) : Dt K M (.ref a) (.tuple ds)
  | dct {a : Addr} (h : M a = some (.dK [])) : Dt K M (.ref a) (.dict [])
inductive Dts (K : PySem.W.Frag) (M : Hp) : List V → List PyData → Prop
  | nil : Dts K M [] []
  | cons {v : V} {vs : List V} {d : PyData} {ds : List PyData} (h : Dt K M v d) (hs : Dts K M vs ds) : Dts K M (v :: vs) (d :: ds)
end

theorem same_rd {M N : Hp} {a : Addr} {u : HO} (e : Same M N) (h : Rd M a u) : Rd N a u := by
  rcases h with h | ⟨o, h⟩
  · exact .inl (e _ _ h)
  · exact .inr ⟨o, e _ _ h⟩
theorem same_t {K : PySem.W.Frag} {M N : Hp} {a : Addr} {xs : List V} (e : Same M N) (h : SqT K M a xs) : SqT K N a xs := by
  rcases h with h | h
  · exact .inl (same_rd e h)
  · exact .inr h
mutual
theorem Dt.mono {K : PySem.W.Frag} {M N : Hp} (e : Same M N) : ∀ {v : V} {d : PyData}, Dt K M v d → Dt K N v d
  | _, _, .non => .non
  | _, _, .bl b => .bl b
  | _, _, .int i => .int i
  | _, _, .str x => .str x
  | _, _, .lst h hs => .lst (e.seq h) (Dts.mono e hs)
  | _, _, .tup h hs => .tup (same_t e h) (Dts.mono e hs)
  | _, _, .dct h => .dct (e _ _ h)
theorem Dts.mono {K : PySem.W.Frag} {M N : Hp} (e : Same M N) : ∀ {vs : List V} {ds : List PyData}, Dts K M vs ds → Dts K N vs ds
  | _, _, .nil => .nil
  | _, _, .cons h hs => .cons (Dt.mono e h) (Dts.mono e hs)
end
theorem Dts.length {K : PySem.W.Frag} {M : Hp} : ∀ {vs : List V} {ds : List PyData}, Dts K M vs ds → vs.length = ds.length
  | _, _, .nil => rfl
  | _, _, .cons _ hs => by rw [List.length_cons, List.length_cons, Dts.length hs]
theorem Dts.get {K : PySem.W.Frag} {M : Hp} : ∀ {vs : List V} {ds : List PyData} {i : Nat} {d : PyData}, Dts K M vs ds → ds[i]? = some d → ∃ v, vs[i]? = some v ∧ Dt K M v d
  | _, _, _, _, .nil, e => by simp at e
  | _, _, 0, _, .cons h _, e => by
    simp at e
    subst e
    exact ⟨_, rfl, h⟩
  | _, _, i + 1, _, .cons _ hs, e => Dts.get (i := i) hs (by simpa using e)
theorem Dts.getV {K : PySem.W.Frag} {M : Hp} : ∀ {vs : List V} {ds : List PyData} {i : Nat} {v : V}, Dts K M vs ds → vs[i]? = some v → ∃ d, ds[i]? = some d ∧ Dt K M v d
  | _, _, _, _, .nil, e => by simp at e
  | _, _, 0, _, .cons h _, e => by
    simp at e
    subst e
    exact ⟨_, rfl, h⟩
  | _, _, i + 1, _, .cons _ hs, e => Dts.getV (i := i) hs (by simpa using e)
theorem Dts.append {K : PySem.W.Frag} {M : Hp} : ∀ {vs ws : List V} {ds es : List PyData}, Dts K M vs ds → Dts K M ws es → Dts K M (vs ++ ws) (ds ++ es)
  | _, _, _, _, .nil, h => h
  | _, _, _, _, .cons a as, h => .cons a (Dts.append as h)
theorem Dts.take {K : PySem.W.Frag} {M : Hp} : ∀ {vs : List V} {ds : List PyData} (n : Nat), Dts K M vs ds → Dts K M (vs.take n) (ds.take n)
  | _, _, 0, _ => .nil
  | _, _, _ + 1, .nil => .nil
  | _, _, n + 1, .cons a as => .cons a (Dts.take n as)
theorem Dts.drop {K : PySem.W.Frag} {M : Hp} : ∀ {vs : List V} {ds : List PyData} (n : Nat), Dts K M vs ds → Dts K M (vs.drop n) (ds.drop n)
  | _, _, 0, h => h
  | _, _, _ + 1, .nil => .nil
  | _, _, n + 1, .cons _ as => Dts.drop n as
theorem Dts.rev {K : PySem.W.Frag} {M : Hp} : ∀ {vs : List V} {ds : List PyData}, Dts K M vs ds → Dts K M vs.reverse ds.reverse
  | _, _, .nil => .nil
  | _, _, .cons a as => by
    rw [List.reverse_cons, List.reverse_cons]
    exact Dts.append (Dts.rev as) (.cons a .nil)
theorem Dts.ints {K : PySem.W.Frag} {M : Hp} : ∀ {ns : List Int} {vs : List V}, Dts K M vs (ns.map .int) → vs = ns.map V.int
  | [], _, h => by
    rw [List.map_nil] at h
    cases h
    rfl
  | n :: r, _, h => by
    rw [List.map_cons] at h
    cases h with
    | cons a as =>
      cases a
      rw [Dts.ints as, List.map_cons]
theorem dts_ints {K : PySem.W.Frag} {M : Hp} : ∀ ns : List Int, Dts K M (ns.map V.int) (ns.map .int)
  | [] => .nil
  | n :: r => .cons (.int n) (dts_ints r)
theorem Dts.strs {K : PySem.W.Frag} {M : Hp} : ∀ {ns : List Str} {vs : List V}, Dts K M vs (ns.map .str) → vs = ns.map V.str
  | [], _, h => by
    rw [List.map_nil] at h
    cases h
    rfl
  | n :: r, _, h => by
    rw [List.map_cons] at h
    cases h with
    | cons a as =>
      cases a
      rw [Dts.strs as, List.map_cons]
theorem dts_strs {K : PySem.W.Frag} {M : Hp} : ∀ ns : List Str, Dts K M (ns.map V.str) (ns.map .str)
  | [] => .nil
  | n :: r => .cons (.str n) (dts_strs r)

/-! without dicts: the layer's own data -/
mutual
theorem Dt.dp {K : PySem.W.Frag} {M : Hp} : ∀ {v : V} {d : PyData}, Dt K M v d → d.canLay0 = true → Dp K M v d
  | _, _, .non, _ => .non
  | _, _, .bl b, _ => .bl b
  | _, _, .int i, _ => .int i
  | _, _, .str x, _ => .str x
  | _, _, .lst h hs, c => .lst h (Dts.dp hs (by simpa [PyData.canLay0] using c))
  | _, _, .tup h hs, c => .tup h (Dts.dp hs (by simpa [PyData.canLay0] using c))
  | _, _, .dct h, c => by simp [PyData.canLay0] at c
theorem Dts.dp {K : PySem.W.Frag} {M : Hp} : ∀ {vs : List V} {ds : List PyData}, Dts K M vs ds → PyData.canLayAll0 ds = true → DpAll K M vs ds
  | _, _, .nil, _ => .nil
  | _, _, .cons h hs, c => by
    have c' := Bool.and_eq_true_iff.mp (show (PyData.canLay0 _ && PyData.canLayAll0 _) = true by simpa only [PyData.canLayAll0] using c)
    exact .cons (Dt.dp h c'.1) (Dts.dp hs c'.2)
end

/-! ### worlds -/
def big : Nat := 1000000000
def GenAt (H : Hp) (g : Addr) (n : Nat) : Prop := ∃ a b c : Int, H g = some (.lst [.int a, .int b, .int c]) ∧ c.natAbs ≤ n
/-- what is hidden: the generator, lists in the making (as they stand) -/
structure Wld where
  g : Option Addr
  ps : List (Addr × HO)
def Wld.hid (Z : Wld) (a : Addr) : Bool := (Z.g == some a) || Z.ps.any fun p => p.1 == a
def Wld.vis (Z : Wld) (H : Hp) : Hp := fun a => if Z.hid a = true then none else H a
structure Wld.ok (Z : Wld) (n : Nat) (H : Hp) : Prop where
  gen : ∀ a, Z.g = some a → GenAt H a n
  pin : ∀ p ∈ Z.ps, H p.1 = some p.2
  ne : ∀ a, Z.g = some a → ∀ p ∈ Z.ps, p.1 ≠ a
section
variable {Z : Wld} {n m : Nat} {H H' M : Hp} {p a : Addr} {o : HO}
theorem GenAt.mono (h : GenAt H a n) (e : n ≤ m) : GenAt H a m := let ⟨x, y, z, q, l⟩ := h; ⟨x, y, z, q, Nat.le_trans l e⟩
theorem Wld.ok.mono (h : Z.ok n H) (e : n ≤ m) : Z.ok m H := ⟨fun a q => (h.gen a q).mono e, h.pin, h.ne⟩
theorem vis_same : Same (Z.vis H) H := fun b o e => by
  unfold Wld.vis at e
  split at e
  · cases e
  · exact e
theorem vis_of (h : Z.hid p = false) : Z.vis H p = H p := by
  unfold Wld.vis
  rw [h]
  exact if_neg Bool.false_ne_true
theorem hid_cases (h : Z.hid p = true) : Z.g = some p ∨ ∃ o, (p, o) ∈ Z.ps := by
  unfold Wld.hid at h
  rcases Bool.or_eq_true_iff.mp h with h | h
  · exact .inl (by simpa using h)
  · obtain ⟨q, hq, e⟩ := List.any_eq_true.mp h
    have e' : q.1 = p := by simpa using e
    exact .inr ⟨q.2, by rw [← e']; exact hq⟩
theorem Wld.ok.free (h : Z.ok n H) (hp : H p = none) : Z.hid p = false := by
  cases q : Z.hid p with
  | false => rfl
  | true =>
    rcases hid_cases q with g | ⟨o, m⟩
    · obtain ⟨x, y, z, e, _⟩ := h.gen p g
      rw [hp] at e
      cases e
    · have e := h.pin _ m
      rw [show (p, o).1 = p from rfl, hp] at e
      cases e
theorem vis_upd (h : Z.hid p = false) : Z.vis (upd H p o) = upd (Z.vis H) p o := by
  funext b
  by_cases hb : b = p
  · subst hb
    rw [vis_of h, upd_same, upd_same]
  · rw [upd_ne hb]
    unfold Wld.vis
    rw [upd_ne hb]
theorem vis_hid (h : Z.hid p = true) : Z.vis (upd H p o) = Z.vis H := by
  funext b
  by_cases hb : b = p
  · subst hb
    unfold Wld.vis
    rw [if_pos h, if_pos h]
  · unfold Wld.vis
    rw [upd_ne hb]
theorem same_new (h : M p = none) : Same M (upd M p o) := fun b x e => by
  rw [upd_ne (ne_of_none e h)]
  exact e
theorem Wld.ok.new (h : Z.ok n H) (hp : H p = none) : Z.ok n (upd H p o) :=
  ⟨fun a q => by
    obtain ⟨x, y, z, e, l⟩ := h.gen a q
    exact ⟨x, y, z, by rw [upd_ne (ne_of_none e hp)]; exact e, l⟩, fun q hq => by
    rw [upd_ne (ne_of_none (h.pin q hq) hp)]
    exact h.pin q hq, h.ne⟩
theorem vis_none (hp : H p = none) : Z.vis H p = none := by
  unfold Wld.vis
  split
  · rfl
  · exact hp
/-- a new object -/
theorem Wld.ok.same_new (h : Z.ok n H) (hp : H p = none) : Same (Z.vis H) (Z.vis (upd H p o)) := by
  rw [vis_upd (h.free hp)]
  exact Hw.same_new (vis_none hp)
theorem Wld.ok.at_new (h : Z.ok n H) (hp : H p = none) : Z.vis (upd H p o) p = some o := by
  rw [vis_upd (h.free hp), upd_same]
/-- the generator turns -/
theorem Wld.ok.turn {x y z : Int} (h : Z.ok n H) (hg : Z.g = some a) (hz : z.natAbs ≤ m) : Z.ok m (upd H a (.lst [.int x, .int y, .int z])) :=
  ⟨fun b q => by
    rw [hg] at q
    cases q
    exact ⟨x, y, z, upd_same, hz⟩, fun q hq => by
    rw [upd_ne (h.ne a hg q hq)]
    exact h.pin q hq, h.ne⟩
theorem hid_gen (hg : Z.g = some a) : Z.hid a = true := by
  unfold Wld.hid
  rw [hg]
  simp
end

/-! ### what a reading comes to, in any world -/
def Ev (K : PySem.W.Frag) (Z : Wld) (te : TE) (σ : St) (M : Hp) (d : PyData) : Prop :=
  ∀ n H, Same M (Z.vis H) → Z.ok n H → ∀ Q : VK, (∀ v H', Same (Z.vis H) (Z.vis H') → Z.ok n H' → Dt K (Z.vis H') v d → Q v H') → te σ H Q
def EvT (Z : Wld) (tt : TT) (σ : St) (M : Hp) (b : Bool) : Prop :=
  ∀ n H, Same M (Z.vis H) → Z.ok n H → ∀ Q : Bool → Hp → Prop, (∀ H', Same (Z.vis H) (Z.vis H') → Z.ok n H' → Q b H') → tt σ H Q
def EvA (K : PySem.W.Frag) (Z : Wld) (ta : TA) (σ : St) (M : Hp) (ds : List PyData) : Prop :=
  ∀ n H, Same M (Z.vis H) → Z.ok n H → ∀ Q : List V → Hp → Prop, (∀ vs H', Same (Z.vis H) (Z.vis H') → Z.ok n H' → Dts K (Z.vis H') vs ds → Q vs H') → ta σ H Q
/-- an operator of values -/
def RV (K : PySem.W.Frag) (Z : Wld) (r : R2) (d e f : PyData) : Prop :=
  ∀ n H x y, Z.ok n H → Dt K (Z.vis H) x d → Dt K (Z.vis H) y e → ∀ Q : VK, (∀ v H', Same (Z.vis H) (Z.vis H') → Z.ok n H' → Dt K (Z.vis H') v f → Q v H') → r x y H Q
def RC (K : PySem.W.Frag) (Z : Wld) (r : List V → Hp → VK → Prop) (ds : List PyData) (f : PyData) : Prop :=
  ∀ n H vs, Z.ok n H → Dts K (Z.vis H) vs ds → ∀ Q : VK, (∀ v H', Same (Z.vis H) (Z.vis H') → Z.ok n H' → Dt K (Z.vis H') v f → Q v H') → r vs H Q
section
variable {K : PySem.W.Frag} {Z : Wld} {σ : St} {M N H : Hp} {ta tb te tx : TE} {t u : TT} {v : V} {d e f : PyData} {r : R2} {ds es : List PyData} {tr : TA} {b c : Bool}
theorem Ev.mono (s : Same M N) (h : Ev K Z te σ M d) : Ev K Z te σ N d := fun n H q => h n H (s.trans q)
theorem EvT.mono (s : Same M N) (h : EvT Z t σ M b) : EvT Z t σ N b := fun n H q => h n H (s.trans q)
theorem EvA.mono (s : Same M N) (h : EvA K Z tr σ M ds) : EvA K Z tr σ N ds := fun n H q => h n H (s.trans q)
theorem ev_var {i : Nat} (h : σ[i]? = some (some v)) (hd : Dt K M v d) : Ev K Z (tVar i) σ M d := fun n H s k Q q =>
  ⟨v, h, q v H (Same.refl _) k (hd.mono s)⟩
theorem ev_c (h : ∀ M, Dt K M v d) : Ev K Z (tC v) σ M d := fun n H s k Q q => q v H (Same.refl _) k (h _)
theorem ev_int {i : Int} : Ev K Z (tC (.int i)) σ M (.int i) := ev_c fun _ => .int i
theorem ev_bl : Ev K Z (tC (.bl b)) σ M (.bool b) := ev_c fun _ => .bl b
theorem ev_non : Ev K Z (tC .non) σ M .none := ev_c fun _ => .non
theorem ev_str {x : Str} : Ev K Z (tC (.str x)) σ M (.str x) := ev_c fun _ => .str x
theorem ev_op (hr : RV K Z r d e f) (ha : Ev K Z ta σ M d) (hb : Ev K Z tb σ M e) : Ev K Z (tOp r ta tb) σ M f := fun n H s k Q q =>
  ha n H s k _ fun x H1 s1 k1 d1 => hb n H1 (s.trans s1) k1 _ fun y H2 s2 k2 d2 => hr n H2 x y k2 (d1.mono s2) d2 Q fun z H3 s3 k3 d3 => q z H3 ((s1.trans s2).trans s3) k3 d3
theorem ea_nil : EvA K Z tNil σ M [] := fun n H s k Q q => q [] H (Same.refl _) k .nil
theorem ea_cons (ha : Ev K Z ta σ M d) (hr : EvA K Z tr σ M ds) : EvA K Z (tCons ta tr) σ M (d :: ds) := fun n H s k Q q =>
  ha n H s k _ fun x H1 s1 k1 d1 => hr n H1 (s.trans s1) k1 _ fun xs H2 s2 k2 d2 => q (x :: xs) H2 (s1.trans s2) k2 (.cons (d1.mono s2) d2)
theorem ev_tup (h : EvA K Z tr σ M ds) (hz : ds.length ≤ 100000) : Ev K Z (tTup tr) σ M (.tuple ds) := fun n H s k Q q =>
  h n H s k _ fun xs H1 s1 k1 d1 => ⟨by rw [d1.length]; exact Nat.le_trans hz (by rw [sizeLine_eq]; decide), fun p hp =>
    q (.ref p) _ (s1.trans (k1.same_new hp)) (k1.new hp) (.tup (.of (k1.at_new hp)) (d1.mono (k1.same_new hp)))⟩
theorem ev_lst (h : EvA K Z tr σ M ds) (hz : ds.length ≤ 100000) : Ev K Z (tLst tr) σ M (.list ds) := fun n H s k Q q =>
  h n H s k _ fun xs H1 s1 k1 d1 => ⟨by rw [d1.length]; exact Nat.le_trans hz (by rw [sizeLine_eq]; decide), fun p hp =>
    q (.ref p) _ (s1.trans (k1.same_new hp)) (k1.new hp) (.lst (.of (k1.at_new hp)) (d1.mono (k1.same_new hp)))⟩
theorem ev_cb {r : List V → Hp → VK → Prop} (hr : RC K Z r ds f) (h : EvA K Z tr σ M ds) : Ev K Z (tCB r tr) σ M f := fun n H s k Q q =>
  h n H s k _ fun vs H1 s1 k1 d1 => hr n H1 vs k1 d1 Q fun z H2 s2 k2 d2 => q z H2 (s1.trans s2) k2 d2
theorem ev_eq (h : Ev K Z te σ M d) (e : d = f) : Ev K Z te σ M f := e ▸ h

/-! tests -/
theorem et_val (h : Ev K Z te σ M (.bool b)) : EvT Z (tB te) σ M b := fun n H s k Q q =>
  h n H s k _ fun v H1 s1 k1 d1 => by
    cases d1
    exact ⟨b, rfl, q H1 s1 k1⟩
theorem et_cmp (h : Ev K Z te σ M (.bool b)) : EvT Z (tTest te) σ M b := fun n H s k Q q =>
  h n H s k _ fun v H1 s1 k1 d1 => by
    cases d1
    exact ⟨b, rfl, q H1 s1 k1⟩
theorem et_not (h : EvT Z t σ M b) : EvT Z (tNot t) σ M (!b) := fun n H s k Q q => h n H s k _ fun H1 s1 k1 => q H1 s1 k1
theorem et_and (h : EvT Z t σ M b) (h2 : b = true → EvT Z u σ M c) : EvT Z (tAnd t u) σ M (b && c) := fun n H s k Q q => h n H s k _ fun H1 s1 k1 => by
  cases b with
  | true =>
    show u σ H1 Q
    exact h2 rfl n H1 (s.trans s1) k1 Q fun H2 s2 k2 => q H2 (s1.trans s2) k2
  | false =>
    show Q false H1
    exact q H1 s1 k1
theorem et_or (h : EvT Z t σ M b) (h2 : b = false → EvT Z u σ M c) : EvT Z (tOr t u) σ M (b || c) := fun n H s k Q q => h n H s k _ fun H1 s1 k1 => by
  cases b with
  | true =>
    show Q true H1
    exact q H1 s1 k1
  | false =>
    show u σ H1 Q
    exact h2 rfl n H1 (s.trans s1) k1 Q fun H2 s2 k2 => q H2 (s1.trans s2) k2
theorem et_is (h : EvT Z t σ M b) (e : b = c) : EvT Z t σ M c := e ▸ h
theorem ev_and (h : Ev K Z ta σ M (.bool b)) (h2 : b = true → Ev K Z tb σ M (.bool c)) : Ev K Z (tAndV ta tb) σ M (.bool (b && c)) := fun n H s k Q q => h n H s k _ fun v H1 s1 k1 d1 => by
  cases d1
  refine ⟨b, rfl, ?_⟩
  cases b with
  | true =>
    show tb σ H1 Q
    exact h2 rfl n H1 (s.trans s1) k1 Q fun v H2 s2 k2 d2 => q v H2 (s1.trans s2) k2 d2
  | false =>
    show Q (.bl false) H1
    exact q _ H1 s1 k1 (.bl false)
theorem ev_or (h : Ev K Z ta σ M (.bool b)) (h2 : b = false → Ev K Z tb σ M (.bool c)) : Ev K Z (tOrV ta tb) σ M (.bool (b || c)) := fun n H s k Q q => h n H s k _ fun v H1 s1 k1 d1 => by
  cases d1
  refine ⟨b, rfl, ?_⟩
  cases b with
  | true =>
    show Q (.bl true) H1
    exact q _ H1 s1 k1 (.bl true)
  | false =>
    show tb σ H1 Q
    exact h2 rfl n H1 (s.trans s1) k1 Q fun v H2 s2 k2 d2 => q v H2 (s1.trans s2) k2 d2
theorem ev_not (h : Ev K Z ta σ M (.bool b)) : Ev K Z (tNotV ta) σ M (.bool (!b)) := fun n H s k Q q => h n H s k _ fun v H1 s1 k1 d1 => by
  cases d1
  exact ⟨b, rfl, q _ H1 s1 k1 (.bl _)⟩
theorem ev_if (h : EvT Z t σ M b) (h1 : b = true → Ev K Z ta σ M d) (h2 : b = false → Ev K Z tb σ M d) : Ev K Z (tIf t ta tb) σ M d := fun n H s k Q q => h n H s k _ fun H1 s1 k1 => by
  cases b with
  | true =>
    show ta σ H1 Q
    exact h1 rfl n H1 (s.trans s1) k1 Q fun v H2 s2 k2 d2 => q v H2 (s1.trans s2) k2 d2
  | false =>
    show tb σ H1 Q
    exact h2 rfl n H1 (s.trans s1) k1 Q fun v H2 s2 k2 d2 => q v H2 (s1.trans s2) k2 d2

/-! operators -/
theorem rv_I0 {g : Int → Int → Int} {i j : Int} : RV K Z (rI0 fun i j => .int (g i j)) (.int i) (.int j) (.int (g i j)) := fun n H x y k hx hy Q q => by
  cases hx
  cases hy
  exact ⟨i, j, rfl, rfl, q _ H (Same.refl _) k (.int _)⟩
theorem rv_B0 {g : Int → Int → Bool} {i j : Int} : RV K Z (rI0 fun i j => .bl (g i j)) (.int i) (.int j) (.bool (g i j)) := fun n H x y k hx hy Q q => by
  cases hx
  cases hy
  exact ⟨i, j, rfl, rfl, q _ H (Same.refl _) k (.bl _)⟩
theorem rv_I {C : Int → Int → Prop} {g : Int → Int → Int} {i j : Int} (hc : C i j) : RV K Z (rI C fun i j => .int (g i j)) (.int i) (.int j) (.int (g i j)) := fun n H x y k hx hy Q q => by
  cases hx
  cases hy
  exact ⟨i, j, rfl, rfl, hc, q _ H (Same.refl _) k (.int _)⟩
theorem rv_eq (h1 : SeqAt.shaped d = true) (h2 : SeqAt.shaped e = true) : RV K Z (rEqD K) d e (.bool (PyData.eqv d e)) := fun n H x y k hx hy Q q =>
  ⟨d, e, (hx.mono vis_same).dp (SeqAt.canLay_of_shaped h1), (hy.mono vis_same).dp (SeqAt.canLay_of_shaped h2), h1, h2, q _ H (Same.refl _) k (.bl _)⟩
theorem rv_ne (h1 : SeqAt.shaped d = true) (h2 : SeqAt.shaped e = true) : RV K Z (rNeD K) d e (.bool (!PyData.eqv d e)) := fun n H x y k hx hy Q q =>
  ⟨d, e, (hx.mono vis_same).dp (SeqAt.canLay_of_shaped h1), (hy.mono vis_same).dp (SeqAt.canLay_of_shaped h2), h1, h2, q _ H (Same.refl _) k (.bl _)⟩
theorem rv_in (h1 : SeqAt.shaped d = true) (h2 : SeqAt.shaped (.list ds) = true) : RV K Z (rInD K) d (.list ds) (.bool (ds.any fun z => PyData.eqv z d)) := fun n H x y k hx hy Q q =>
  ⟨d, ds, (hx.mono vis_same).dp (SeqAt.canLay_of_shaped h1), (hy.mono vis_same).dp (SeqAt.canLay_of_shaped h2), h1, h2, q _ H (Same.refl _) k (.bl _)⟩
theorem rv_notIn (h1 : SeqAt.shaped d = true) (h2 : SeqAt.shaped (.list ds) = true) : RV K Z (rNotInD K) d (.list ds) (.bool (!ds.any fun z => PyData.eqv z d)) := fun n H x y k hx hy Q q =>
  ⟨d, ds, (hx.mono vis_same).dp (SeqAt.canLay_of_shaped h1), (hy.mono vis_same).dp (SeqAt.canLay_of_shaped h2), h1, h2, q _ H (Same.refl _) k (.bl _)⟩
def isN : PyData → Bool
  | .none => true
  | _ => false
theorem Dt.isN {x : V} (h : Dt K M x d) : decide (x = .non) = Hw.isN d := by
  cases h <;> simp [Hw.isN]
theorem rv_isN : RV K Z (fun x y H Q => y = .non ∧ Q (.bl (decide (x = .non))) H) d .none (.bool (isN d)) := fun n H x y k hx hy Q q => by
  cases hy
  refine ⟨rfl, ?_⟩
  rw [hx.isN]
  exact q _ H (Same.refl _) k (.bl _)
theorem rv_notB {a b : Bool} : RV K Z rNotB (.bool a) (.bool b) (.bool (!decide (a = b))) := fun n H x y k hx hy Q q => by
  cases hx
  cases hy
  exact ⟨a, b, rfl, rfl, q _ H (Same.refl _) k (.bl _)⟩
theorem atI_dts {vs : List V} {i : Int} (hs : Dts K M vs ds) (h : atI ds i = some d) : ∃ v, atI vs i = some v ∧ Dt K M v d := by
  unfold atI at h ⊢
  rw [hs.length]
  cases e : ixN ds.length i with
  | none =>
    rw [e] at h
    cases h
  | some j =>
    rw [e] at h
    exact hs.get h
theorem rv_ixT {i : Int} (h : atI ds i = some d) : RV K Z (rIx K) (.tuple ds) (.int i) d := fun n H x y k hx hy Q q => by
  cases hy
  cases hx with
  | tup hq hs =>
    obtain ⟨v, hv, dv⟩ := atI_dts hs h
    exact .inr (.inl ⟨_, _, i, v, rfl, rfl, same_t vis_same hq, hv, q v H (Same.refl _) k dv⟩)
theorem rv_ixL {i : Int} (h : atI ds i = some d) : RV K Z (rIx K) (.list ds) (.int i) d := fun n H x y k hx hy Q q => by
  cases hy
  cases hx with
  | lst hq hs =>
    obtain ⟨v, hv, dv⟩ := atI_dts hs h
    exact .inl ⟨_, _, i, v, rfl, rfl, vis_same.seq hq, hv, q v H (Same.refl _) k dv⟩

/-! calls of built-ins -/
def tyOf : PyData → String
  | .none => "NoneType"
  | .bool _ => "bool"
  | .int _ => "int"
  | .str _ => "str"
  | .list _ => "list"
  | .tuple _ => "tuple"
  | .dict _ => "dict"
theorem TyX.of_l {a : Addr} {xs : List V} (h : SqL K H a xs) : TyX K H (.ref a) (.type "list") := by
  rcases h with (h | ⟨o, h⟩) | ⟨o, its, n, h, c, _⟩
  · exact .base (.lst h)
  · exact .base (.frz h)
  · exact .kList h c
theorem TyX.of_t {a : Addr} {xs : List V} (h : SqT K H a xs) : TyX K H (.ref a) (.type "tuple") := by
  rcases h with (h | ⟨o, h⟩) | ⟨o, its, n, h, c, _⟩
  · exact .base (.tup h)
  · exact .fTuple h
  · exact .kTuple h c
theorem Dt.tyx {x : V} (h : Dt K M x d) (s : Same M H) : TyX K H x (.type (tyOf d)) := by
  cases h with
  | non => exact .base .non
  | bl b => exact .base (.bl b)
  | int i => exact .base (.int i)
  | str y => exact .base (.str y)
  | lst h _ => exact TyX.of_l (s.seq h)
  | tup h _ => exact TyX.of_t (same_t s h)
  | dct h => exact .base (.dK (s _ _ h))
theorem rc_isi {T : String} (h : kitB (tyOf d) T = some b) : ∀ n H vs x, Z.ok n H → vs = [x, V.ty T] → Dt K (Z.vis H) x d → ∀ Q : VK, (∀ H', Same (Z.vis H) (Z.vis H') → Z.ok n H' → Q (.bl b) H') → rIsi K vs H Q :=
  fun n H vs x k e hx Q q => ⟨x, .ty T, .type (tyOf d), .type T, b, e, .ty T, hx.tyx vis_same, kit_ty h, q H (Same.refl _) k⟩
theorem ev_isi {T : String} (h : kitB (tyOf d) T = some b) (ha : Ev K Z ta σ M d) : Ev K Z (tCB (rIsi K) (tCons ta (tCons (tC (.ty T)) tNil))) σ M (.bool b) := fun n H s k Q q =>
  ha n H s k _ fun x H1 s1 k1 d1 => rc_isi h n H1 _ x k1 rfl d1 Q fun H2 s2 k2 => q _ H2 (s1.trans s2) k2 (.bl _)
def rLenS (K : PySem.W.Frag) : List V → Hp → VK → Prop := fun xs H Q => ∃ p ys, xs = [.ref p] ∧ (SqL K H p ys ∨ SqT K H p ys) ∧ Q (.int ys.length) H
theorem rc_lenL : RC K Z (rLenS K) [.list ds] (.int ds.length) := fun n H vs k hs Q q => by
  cases hs with
  | cons h hn =>
    cases hn
    cases h with
    | lst h1 h2 => exact ⟨_, _, rfl, .inl (vis_same.seq h1), by rw [h2.length]; exact q _ H (Same.refl _) k (.int _)⟩
theorem rc_lenT : RC K Z (rLenS K) [.tuple ds] (.int ds.length) := fun n H vs k hs Q q => by
  cases hs with
  | cons h hn =>
    cases hn
    cases h with
    | tup h1 h2 => exact ⟨_, _, rfl, .inr (same_t vis_same h1), by rw [h2.length]; exact q _ H (Same.refl _) k (.int _)⟩
end
end Hw

set_option maxHeartbeats 1000000
/-! HwB: bodies, promises of pure defs, comprehensions. -/
namespace Hw
open PySem PySem.Spec L2

/-! ### bodies that return -/
def Bd (K : PySem.W.Frag) (Z : Wld) (t : TS) (σ : St) (M : Hp) (r : PyData) : Prop :=
  ∀ n H, Same M (Z.vis H) → Z.ok n H → ∀ D : Ends, (∀ v H', Same (Z.vis H) (Z.vis H') → Z.ok n H' → Dt K (Z.vis H') v r → D.rt v H') → t D σ H
/-- .. that go on, the slots as they were -/
def Bn (Z : Wld) (t : TS) (σ : St) (M : Hp) : Prop :=
  ∀ n H, Same M (Z.vis H) → Z.ok n H → ∀ D : Ends, (∀ H', Same (Z.vis H) (Z.vis H') → Z.ok n H' → D.nx σ H') → t D σ H
section
variable {K : PySem.W.Frag} {Z : Wld} {σ : St} {M N H : Hp} {ta tb te tx : TE} {t u : TS} {c : TT} {v : V} {d e f r : PyData} {ds es : List PyData} {tr : TA} {b : Bool} {i : Nat}
theorem bd_ret (h : Ev K Z te σ M r) : Bd K Z (tRet te) σ M r := fun n H s k D q => h n H s k _ q
theorem bd_if (h : EvT Z c σ M b) (h1 : b = true → Bd K Z t σ M r) (h2 : b = false → Bd K Z u σ M r) : Bd K Z (tIfS c t u) σ M r := fun n H s k D q => h n H s k _ fun H1 s1 k1 => by
  cases b with
  | true =>
    show t D σ H1
    exact h1 rfl n H1 (s.trans s1) k1 D fun v H2 s2 k2 d2 => q v H2 (s1.trans s2) k2 d2
  | false =>
    show u D σ H1
    exact h2 rfl n H1 (s.trans s1) k1 D fun v H2 s2 k2 d2 => q v H2 (s1.trans s2) k2 d2
/-- if c: (returns); the rest -/
theorem bd_when (h : EvT Z c σ M b) (h1 : b = true → Bd K Z t σ M r) (h2 : b = false → Bd K Z u σ M r) : Bd K Z (tSeq (tIfS c t tNext) u) σ M r := fun n H s k D q => h n H s k _ fun H1 s1 k1 => by
  cases b with
  | true =>
    show t { D with nx := u D } σ H1
    exact h1 rfl n H1 (s.trans s1) k1 { D with nx := u D } fun v H2 s2 k2 d2 => q v H2 (s1.trans s2) k2 d2
  | false =>
    show u D σ H1
    exact h2 rfl n H1 (s.trans s1) k1 D fun v H2 s2 k2 d2 => q v H2 (s1.trans s2) k2 d2
theorem bd_asg (h : Ev K Z te σ M d) (h1 : ∀ v N, Same M N → Dt K N v d → Bd K Z u (σ.set i (some v)) N r) : Bd K Z (tSeq (tAsg te (gName i)) u) σ M r := fun n H s k D q =>
  h n H s k _ fun v H1 s1 k1 d1 => h1 v (Z.vis H1) (s.trans s1) d1 n H1 (Same.refl _) k1 D fun w H2 s2 k2 d2 => q w H2 (s1.trans s2) k2 d2
theorem bd_seq (h : Bn Z t σ M) (h1 : Bd K Z u σ M r) : Bd K Z (tSeq t u) σ M r := fun n H s k D q =>
  h n H s k { D with nx := u D } fun H1 s1 k1 => h1 n H1 (s.trans s1) k1 D fun w H2 s2 k2 d2 => q w H2 (s1.trans s2) k2 d2
theorem bn_seq (h : Bn Z t σ M) (h1 : Bn Z u σ M) : Bn Z (tSeq t u) σ M := fun n H s k D q =>
  h n H s k { D with nx := u D } fun H1 s1 k1 => h1 n H1 (s.trans s1) k1 D fun H2 s2 k2 => q H2 (s1.trans s2) k2
theorem bn_skip (h : EvT Z c σ M false) : Bn Z (tIfS c t tNext) σ M := fun n H s k D q => h n H s k _ fun H1 s1 k1 => by
  show D.nx σ H1
  exact q H1 s1 k1
theorem bn_drop (h : Ev K Z te σ M d) : Bn Z (tDrop te) σ M := fun n H s k D q => h n H s k _ fun v H1 s1 k1 _ => q H1 s1 k1
theorem Bd.mono (s : Same M N) (h : Bd K Z t σ M r) : Bd K Z t σ N r := fun n H q => h n H (s.trans q)

/-! ### the promise of a pure def -/
def spR (K : PySem.W.Frag) (R : List PyData → PyData → Prop) : Sp := fun vs H Q _ =>
  ∃ (Z : Wld) (n : Nat) (ds : List PyData) (r : PyData), Z.ok n H ∧ Dts K (Z.vis H) vs ds ∧ R ds r ∧ ∀ v H', Same (Z.vis H) (Z.vis H') → Z.ok n H' → Dt K (Z.vis H') v r → Q v H'
theorem ev_call {R : List PyData → PyData → Prop} {E : XK} (hR : R ds r) (h : EvA K Z tr σ M ds) : Ev K Z (tCall (spR K R) [] E tr) σ M r := fun n H s k Q q =>
  h n H s k _ fun vs H1 s1 k1 d1 => ⟨Z, n, ds, r, k1, by rw [List.append_nil]; exact d1, hR, fun v H2 s2 k2 d2 => q v H2 (s1.trans s2) k2 d2⟩
theorem ev_callK {R : List PyData → PyData → Prop} {E : XK} {g : List V → List V → List V} {ks : TA} {gD : List PyData} (hR : R gD r) (h : EvA K Z ks σ M ds) (hg : ∀ vs M, Dts K M vs ds → Dts K M (g [] vs) gD) : Ev K Z (tCallK (spR K R) g E tNil ks) σ M r := fun n H s k Q q =>
  h n H s k _ fun vs H1 s1 k1 d1 => ⟨Z, n, gD, r, k1, hg vs _ d1, hR, fun v H2 s2 k2 d2 => q v H2 (s1.trans s2) k2 d2⟩
end
section
variable {P : Program} {w : World} {K : PySem.W.Frag} {mg : Str → Option Value} {base : Heap} {x qual : Str} {st : Stmt} {f : Addr} {fd : FuncData} {N ps : List Str} {k : Nat} {R : List PyData → PyData → Prop}
/-- the context of a def's body -/
abbrev cx (P : Program) (w : World) (K : PySem.W.Frag) (mg : Str → Option Value) (base : Heap) (N : List Str) (qual : Str) (st : Stmt) (f : Addr) (cdv : Value) (A : Around) (outer : List Env) (s : Shared) (H : Hp) (E : XK) : Cx :=
  (cxOf CX0 P w K mg base N qual (defScope st) f cdv A outer s H E).nox
theorem fn_pure (F : Fun K x qual st f fd) (S : FnScope N ps (defScope st)) (hl : ∀ ds r, R ds r → ds.length = ps.length)
    (body : ∀ (cdv : Value) (A : Around) (outer : List Env) (s : Shared) (H : Hp) (E : XK), Room k (A.deeper (PyProof.Rows.envOfC qual (defScope st) s.heap.objs.size f cdv)) →
      ∃ t, PSs (cx P w K mg base N qual st f cdv A outer s H E) (defBody st) t ∧ ∀ (ds : List PyData) (r : PyData), R ds r → ∀ (Z : Wld) (vs : List V) (M : Hp), Dts K M vs ds → Bd K Z t (start N vs) M r) :
    FnOk P w K mg base CX0 (k + 1) f fd ps (spR K R) := by
  refine F.ok S (fun vs H Q E h => ?_) (fun cdv A outer s H vs Q E hr h => ?_)
  · obtain ⟨Z, n, ds, r, _, hd, hR, _⟩ := h
    rw [hd.length]
    exact hl ds r hR
  · obtain ⟨Z, n, ds, r, hk, hd, hR, q⟩ := h
    obtain ⟨t, ht, hb⟩ := body cdv A outer s H E hr
    exact ⟨t, ht, hb ds r hR Z vs _ hd n H (Same.refl _) hk _ q⟩
/-- .. that returns nothing -/
theorem fn_none (F : Fun K x qual st f fd) (S : FnScope N ps (defScope st)) (hl : ∀ ds r, R ds r → ds.length = ps.length ∧ r = .none)
    (body : ∀ (cdv : Value) (A : Around) (outer : List Env) (s : Shared) (H : Hp) (E : XK), Room k (A.deeper (PyProof.Rows.envOfC qual (defScope st) s.heap.objs.size f cdv)) →
      ∃ t, PSs (cx P w K mg base N qual st f cdv A outer s H E) (defBody st) t ∧ ∀ (ds : List PyData) (r : PyData), R ds r → ∀ (Z : Wld) (vs : List V) (M : Hp), Dts K M vs ds → Bn Z t (start N vs) M) :
    FnOk P w K mg base CX0 (k + 1) f fd ps (spR K R) := by
  refine F.ok S (fun vs H Q E h => ?_) (fun cdv A outer s H vs Q E hr h => ?_)
  · obtain ⟨Z, n, ds, r, _, hd, hR, _⟩ := h
    rw [hd.length]
    exact (hl ds r hR).1
  · obtain ⟨Z, n, ds, r, hk, hd, hR, q⟩ := h
    obtain ⟨t, ht, hb⟩ := body cdv A outer s H E hr
    refine ⟨t, ht, hb ds r hR Z vs _ hd n H (Same.refl _) hk _ fun H' s' k' => ?_⟩
    exact q .non H' s' k' (by rw [(hl ds r hR).2]; exact .non)
end

/-! ### comprehensions -/
section
variable {K : PySem.W.Frag} {Z : Wld} {σ : St} {M N H : Hp} {tl te : TE} {tt : TT} {v : V} {d e f r : PyData} {ds es : List PyData} {tr : TA} {b : Bool} {j : Nat}
theorem wipe1 (σ : St) (j : Nat) (x : V) : wipe ((wipe σ [j]).set j (some x)) [j] = wipe σ [j] := by
  show ((σ.set j none).set j (some x)).set j none = σ.set j none
  rw [List.set_set, List.set_set]
theorem wipe_at {σ : St} {j : Nat} (x : V) (h : j < σ.length) : ((wipe σ [j]).set j (some x))[j]? = some (some x) := by
  show ((σ.set j none).set j (some x))[j]? = _
  rw [List.getElem?_set_self (by rw [List.length_set]; exact h)]
theorem filter_take {ds : List PyData} {g : PyData → Bool} {i : Nat} {d : PyData} (h : ds[i]? = some d) : (ds.take (i + 1)).filter g = (ds.take i).filter g ++ (if g d = true then [d] else []) := by
  rw [List.take_add_one, h, List.filter_append]
  show _ ++ List.filter g [d] = _
  rw [List.filter_cons]
  rfl
theorem len_filter_take (ds : List PyData) (g : PyData → Bool) (i : Nat) : ((ds.take i).filter g).length ≤ i := by
  refine Nat.le_trans (List.length_filter_le _ _) ?_
  rw [List.length_take]
  exact Nat.min_le_left _ _
/-- the list in the making, filled from the items that pass -/
structure Fl (K : PySem.W.Frag) (Z : Wld) (n : Nat) (N : Hp) (D : Addr) (es : List PyData) (H : Hp) : Prop where
  same : Same N (Z.vis H)
  ok : Z.ok n H
  at_ : ∃ acc, H D = some (.lst acc) ∧ Dts K N acc es
theorem Fl.turn {n : Nat} {D : Addr} {H : Hp} {x : V} {g : PyData → Bool} {σ2 : St} {te : TE} {i : Nat} (p : Fl K Z n N D ((ds.take i).filter g) H) (hD : N D = none) (hZ : Z.hid D = false) (hx : Dt K N x d) (hi : ds[i]? = some d) (hsz : ds.length ≤ 100000)
    (ht : EvT Z tt σ2 N (g d)) (hte : ∀ n H, Z.ok n H → ∀ Q : VK, Q x H → te σ2 H Q) :
    tt σ2 H fun b H3 => if b = true then te σ2 H3 fun y H4 => ∃ acc, H4 D = some (.lst acc) ∧ acc.length < sizeLine ∧ Fl K Z n N D ((ds.take (i + 1)).filter g) (upd H4 D (.lst (acc ++ [y]))) else Fl K Z n N D ((ds.take (i + 1)).filter g) H3 := by
  obtain ⟨s, k, acc, hacc, ha⟩ := p
  refine ht n H s k _ fun H3 s3 k3 => ?_
  have hv : Z.vis H D = some (.lst acc) := by rw [vis_of hZ]; exact hacc
  have h3 : H3 D = some (.lst acc) := vis_same _ _ (s3 _ _ hv)
  rw [filter_take hi]
  cases hg : g d with
  | true =>
    show te σ2 H3 fun y H4 => ∃ acc, H4 D = some (.lst acc) ∧ acc.length < sizeLine ∧ Fl K Z n N D ((ds.take i).filter g ++ [d]) (upd H4 D (.lst (acc ++ [y])))
    refine hte n H3 k3 _ ⟨acc, h3, ?_, ?_⟩
    · rw [ha.length]
      have h1 := len_filter_take ds g i
      have h2 := (List.getElem?_eq_some_iff.mp hi).1
      have h3 : sizeLine = 16777216 := sizeLine_eq
      omega
    · have hnD : ∀ b o, N b = some o → b ≠ D := fun b o e => ne_of_none e hD
      refine ⟨fun b o e => ?_, ⟨fun a q => ?_, fun p hp => ?_, k3.ne⟩, acc ++ [x], upd_same, ha.append (.cons hx .nil)⟩
      · rw [vis_upd hZ, upd_ne (hnD b o e)]
        exact s3 _ _ (s _ _ e)
      · have na : a ≠ D := fun z => by
          subst z
          rw [hid_gen q] at hZ
          cases hZ
        obtain ⟨x, y, z, e, l⟩ := k3.gen a q
        exact ⟨x, y, z, by rw [upd_ne na]; exact e, l⟩
      · have na : p.1 ≠ D := fun z => by
          have : Z.hid D = true := by
            unfold Wld.hid
            rw [Bool.or_eq_true_iff]
            exact .inr (List.any_eq_true.mpr ⟨p, hp, by simp [z]⟩)
          rw [this] at hZ
          cases hZ
        rw [upd_ne na]
        exact k3.pin p hp
  | false =>
    show Fl K Z n N D ((ds.take i).filter g ++ []) H3
    rw [List.append_nil]
    exact ⟨s.trans s3, k3, acc, h3, ha⟩
theorem Fl.fin {n : Nat} {D : Addr} {H : Hp} (p : Fl K Z n N D es H) (hZ : Z.hid D = false) : Dt K (Z.vis H) (.ref D) (.list es) := by
  obtain ⟨s, k, acc, hacc, ha⟩ := p
  exact .lst (.of (by rw [vis_of hZ]; exact hacc)) (ha.mono s)
theorem Fl.start {n : Nat} {D : Addr} {H : Hp} (k : Z.ok n H) (hD : H D = none) : Fl K Z n (Z.vis H) D [] (upd H D (.lst [])) :=
  ⟨k.same_new hD, k.new hD, [], upd_same, .nil⟩
theorem te_item {j : Nat} {σ : St} {x : V} (h : j < σ.length) : ∀ n H, Z.ok n H → ∀ Q : VK, Q x H → tVar j ((wipe σ [j]).set j (some x)) H Q := fun n H k Q q => ⟨x, wipe_at x h, q⟩
theorem ev_filterT (g : PyData → Bool) (h : Ev K Z tl σ M (.tuple ds)) (hj : j < σ.length) (hsz : ds.length ≤ 100000)
    (ht : ∀ (d : PyData) (x : V) (N : Hp), d ∈ ds → Same M N → Dt K N x d → EvT Z tt ((wipe σ [j]).set j (some x)) N (g d)) : Ev K Z (tLc (iTup K tl) (gName j) tt (tVar j) [j]) σ M (.list (ds.filter g)) := fun n H s k Q q =>
  h n H s k _ fun v H1 s1 k1 d1 => by
    cases d1 with
    | @tup a xs _ hq hs =>
      refine ⟨a, rfl, ⟨xs, same_t vis_same hq⟩, fun D hD => ?_⟩
      have hZ := k1.free hD
      have hN : Z.vis H1 D = none := vis_none hD
      refine lc_tup (xs := xs) (fun i H' => Fl K Z n (Z.vis H1) D ((ds.take i).filter g) H') (Fl.start k1 hD) (fun i H' _ p => same_t (p.same.trans vis_same) hq) (fun i x H' hi p => ?_) (fun H' p => ?_)
      · obtain ⟨d, hd, dx⟩ := hs.getV hi
        refine ⟨wipe1 σ j x, ?_⟩
        exact p.turn hN hZ dx hd hsz (ht d x _ (List.mem_of_getElem? hd) (s.trans s1) dx) (te_item hj)
      · rw [hs.length, List.take_length] at p
        exact q _ H' (s1.trans p.same) p.ok (p.fin hZ)
theorem ev_filterL (g : PyData → Bool) (h : Ev K Z tl σ M (.list ds)) (hj : j < σ.length) (hsz : ds.length ≤ 100000)
    (ht : ∀ (d : PyData) (x : V) (N : Hp), d ∈ ds → Same M N → Dt K N x d → EvT Z tt ((wipe σ [j]).set j (some x)) N (g d)) : Ev K Z (tLc (iList K tl) (gName j) tt (tVar j) [j]) σ M (.list (ds.filter g)) := fun n H s k Q q =>
  h n H s k _ fun v H1 s1 k1 d1 => by
    cases d1 with
    | @lst a xs _ hq hs =>
      refine ⟨a, rfl, ⟨xs, vis_same.seq hq⟩, fun D hD => ?_⟩
      have hZ := k1.free hD
      have hN : Z.vis H1 D = none := vis_none hD
      refine lc_list (xs := xs) (fun i H' => Fl K Z n (Z.vis H1) D ((ds.take i).filter g) H') (Fl.start k1 hD) (fun i H' _ p => (p.same.trans vis_same).seq hq) (fun i x H' hi p => ?_) (fun H' p => ?_)
      · obtain ⟨d, hd, dx⟩ := hs.getV hi
        refine ⟨wipe1 σ j x, ?_⟩
        exact p.turn hN hZ dx hd hsz (ht d x _ (List.mem_of_getElem? hd) (s.trans s1) dx) (te_item hj)
      · rw [hs.length, List.take_length] at p
        exact q _ H' (s1.trans p.same) p.ok (p.fin hZ)
/-- over range(n) -/
theorem ev_filterR {m : Nat} (g : PyData → Bool) (h : EvA K Z tr σ M [.int (m : Int)]) (hj : j < σ.length) (hsz : m ≤ 100000)
    (ht : ∀ (i : Nat) (N : Hp), i < m → Same M N → EvT Z tt ((wipe σ [j]).set j (some (.int (i : Int)))) N (g (.int (i : Int)))) :
    Ev K Z (tLc (iRng1 tr) (gName j) tt (tVar j) [j]) σ M (.list (((List.range m).map fun (i : Nat) => PyData.int (i : Int)).filter g)) := fun n H s k Q q =>
  h n H s k _ fun vs H1 s1 k1 d1 => by
    cases d1 with
    | cons d1 dn =>
      cases dn
      cases d1
      refine ⟨(m : Int), rfl, by omega, by omega, fun D hD => ?_⟩
      have hZ := k1.free hD
      have hN : Z.vis H1 D = none := vis_none hD
      rw [Int.toNat_natCast]
      refine lc_range (lo := 0) (n := m) (fun i H' => Fl K Z n (Z.vis H1) D ((((List.range m).map fun (i : Nat) => PyData.int (i : Int)).take i).filter g) H') (Fl.start k1 hD) (fun i H' hi p => ?_) (fun H' p => ?_)
      · have e : (0 : Int) + (i : Int) = (i : Int) := by omega
        rw [e]
        have hd : ((List.range m).map fun (i : Nat) => PyData.int (i : Int))[i]? = some (.int (i : Int)) := by
          rw [List.getElem?_map, List.getElem?_range hi]
          rfl
        refine ⟨wipe1 σ j (.int (i : Int)), ?_⟩
        exact p.turn hN hZ (.int _) hd (by simpa using hsz) (ht i _ hi (s.trans s1)) (te_item hj)
      · rw [List.take_of_length_le (by simp)] at p
        exact q _ H' (s1.trans p.same) p.ok (p.fin hZ)
end
end Hw

set_option maxHeartbeats 1000000
/-! HwX: further rules of values. -/
namespace Hw
open PySem PySem.Spec L2
section
variable {X : Cx}
/-- sum of a list or a tuple of ints -/
def rSumX (K : PySem.W.Frag) : List V → Hp → VK → Prop := fun vs H Q => ∃ (a : Addr) (ns : List Int), vs = [V.ref a] ∧ (SqL K H a (ns.map V.int) ∨ SqT K H a (ns.map V.int)) ∧ Q (.int ns.sum) H
theorem sum_tup {its : List Value} {ns : List Int} {t : Addr} {prog : Program} {w : World} {A : Around} {E : Value → Shared → Prop} {s : Shared} {Q : Value → Shared → Prop} (hh : A.handled = none) (ht : s.heap.IsTuple t its.toArray) (hi : PyProof.Rows.IntsAre its ns)
    (h : ∀ h' tk t', (∀ b o, s.heap.get? b = some o → h'.get? b = some o) → Q (.int ns.sum t') { s with heap := h', toks := tk }) : wpAny (model prog w) A (call (.builtin "sum") [.ref t]) Q E s := by
  obtain ⟨xs, e⟩ := hi.allInts.items
  have hn := hi.numsOf
  rw [show its = its.toArray.toList from rfl, e, nums_intItems] at hn
  rw [e] at ht
  refine PySem.W.ktm_sumG hh ht fun h' tk t' hk => ?_
  have q := h h' tk t' hk
  rw [← hn] at q
  rw [preSum_eq, List.take_of_length_le (by simp)]
  exact q
theorem call_sumX (hc : X.calm = true) : CallR X (.builtin "sum") (rSumX X.K) := by
  intro pins s σ H xs us Q I r h
  obtain ⟨a, ns, rfl, hq, q⟩ := h
  obtain ⟨u, rfl, ru⟩ := vals1 r
  cases ru
  rcases hq with hq | hq
  · exact cr_sum hc pins s σ H [.ref a] [.ref a] Q I (.cons rfl .nil) ⟨a, ns, rfl, hq, q⟩
  · obtain ⟨its, rv, ht, _⟩ := I.tuple hq
    exact sum_tup (I.ok.hd hc) ht rv.ints fun h' tk t' hk => ⟨.int ns.sum, H, I.kept hk, ⟨_, rfl⟩, q⟩
end
section
variable {K : PySem.W.Frag} {Z : Wld}
theorem rc_sumT {ns : List Int} : RC K Z (rSumX K) [.tuple (ns.map .int)] (.int ns.sum) := fun n H vs k hs Q q => by
  cases hs with
  | cons h hn =>
    cases hn
    cases h with
    | tup h1 h2 =>
      rw [h2.ints] at h1
      exact ⟨_, ns, rfl, .inr (same_t vis_same h1), q _ H (Same.refl _) k (.int _)⟩
theorem rc_sumL {ns : List Int} : RC K Z (rSumX K) [.list (ns.map .int)] (.int ns.sum) := fun n H vs k hs Q q => by
  cases hs with
  | cons h hn =>
    cases hn
    cases h with
    | lst h1 h2 =>
      rw [h2.ints] at h1
      exact ⟨_, ns, rfl, .inl (vis_same.seq h1), q _ H (Same.refl _) k (.int _)⟩
end

/-! taken apart -/
theorem Dts.c1 {K : PySem.W.Frag} {M : Hp} {vs : List V} {a : PyData} (h : Dts K M vs [a]) : ∃ v1, vs = [v1] ∧ Dt K M v1 a := by
  cases h with
  | cons h1 h => cases h; exact ⟨_, rfl, h1⟩
theorem Dts.c2 {K : PySem.W.Frag} {M : Hp} {vs : List V} {a b : PyData} (h : Dts K M vs [a, b]) : ∃ v1 v2, vs = [v1, v2] ∧ Dt K M v1 a ∧ Dt K M v2 b := by
  cases h with
  | cons h1 h => obtain ⟨v2, rfl, h2⟩ := h.c1; exact ⟨_, _, rfl, h1, h2⟩
theorem Dts.c3 {K : PySem.W.Frag} {M : Hp} {vs : List V} {a b c : PyData} (h : Dts K M vs [a, b, c]) : ∃ v1 v2 v3, vs = [v1, v2, v3] ∧ Dt K M v1 a ∧ Dt K M v2 b ∧ Dt K M v3 c := by
  cases h with
  | cons h1 h => obtain ⟨v2, v3, rfl, h2, h3⟩ := h.c2; exact ⟨_, _, _, rfl, h1, h2, h3⟩
theorem Dts.c4 {K : PySem.W.Frag} {M : Hp} {vs : List V} {a b c d : PyData} (h : Dts K M vs [a, b, c, d]) : ∃ v1 v2 v3 v4, vs = [v1, v2, v3, v4] ∧ Dt K M v1 a ∧ Dt K M v2 b ∧ Dt K M v3 c ∧ Dt K M v4 d := by
  cases h with
  | cons h1 h => obtain ⟨v2, v3, v4, rfl, h2, h3, h4⟩ := h.c3; exact ⟨_, _, _, _, rfl, h1, h2, h3, h4⟩
theorem Dt.tupE {K : PySem.W.Frag} {M : Hp} {v : V} {ds : List PyData} (h : Dt K M v (.tuple ds)) : ∃ p xs, v = .ref p ∧ SqT K M p xs ∧ Dts K M xs ds := by
  cases h with
  | tup h hs => exact ⟨_, _, rfl, h, hs⟩
theorem Dt.lstE {K : PySem.W.Frag} {M : Hp} {v : V} {ds : List PyData} (h : Dt K M v (.list ds)) : ∃ p xs, v = .ref p ∧ SqL K M p xs ∧ Dts K M xs ds := by
  cases h with
  | lst h hs => exact ⟨_, _, rfl, h, hs⟩
theorem Dt.intE {K : PySem.W.Frag} {M : Hp} {v : V} {i : Int} (h : Dt K M v (.int i)) : v = .int i := by cases h; rfl
theorem Dt.blE {K : PySem.W.Frag} {M : Hp} {v : V} {i : Bool} (h : Dt K M v (.bool i)) : v = .bl i := by cases h; rfl
theorem Dt.strE {K : PySem.W.Frag} {M : Hp} {v : V} {i : Str} (h : Dt K M v (.str i)) : v = .str i := by cases h; rfl

/-! shapes -/
theorem sh_of {d : PyData} (h1 : d.canLay0 = true) (h2 : d.depth ≤ 64) : SeqAt.shaped d = true := by
  show (d.canLay0 && decide (d.depth ≤ 64)) = true
  rw [h1, decide_eq_true h2]
  rfl
theorem sh_int (i : Int) : SeqAt.shaped (.int i) = true := sh_of (by simp [PyData.canLay0]) (by simp [PyData.depth])
theorem sh_bool (b : Bool) : SeqAt.shaped (.bool b) = true := sh_of (by simp [PyData.canLay0]) (by simp [PyData.depth])
theorem sh_nil : SeqAt.shaped (.list []) = true := sh_of (by simp [PyData.canLay0, PyData.canLayAll0]) (by simp [PyData.depth, PyData.depthAll])
theorem sh_none : SeqAt.shaped .none = true := sh_of (by simp [PyData.canLay0]) (by simp [PyData.depth])
theorem eqv_int (i j : Int) : PyData.eqv (.int i) (.int j) = (i == j) := by simp [PyData.eqv]
theorem eqv_str (i j : Str) : PyData.eqv (.str i) (.str j) = (i == j) := by simp [PyData.eqv]
theorem eqv_nil (xs : List PyData) : PyData.eqv (.list xs) (.list []) = xs.isEmpty := by
  cases xs <;> simp [PyData.eqv, PyData.eqvAll]
end Hw

set_option maxHeartbeats 4000000
/-! HwE: enumerate of a tuple, calls by keywords alone, tuple of a list. -/
namespace Hw
open PySem PySem.Spec L2
theorem meets_enumT {v : Value} {o : Obj} {G : Heap → Prop} (B : Begins v o G) :
    Meets (Builtin.«enumerate.__new__» ⟨[.type "enumerate", v], []⟩) (fun _ R s => G s.heap ∧
      R (.ok (.ret (.ref (s.heap.push o).objs.size))) { s with heap := (s.heap.push o).push { cls := .type "enumerate", data := .fields #[.none, .bool false, .ref s.heap.objs.size, rawInt 0, .none, .none] } }) :=
  .of_wp fun prog w A R s h => by
    obtain ⟨hp, g, d, tk, os⟩ := s
    obtain ⟨h1, h⟩ := h
    have hsub := sub_enumerate
    have q1 : ∀ {A' : Around} {E : Value → Shared → Prop} {Q : Value → Shared → Prop}, Q (.ref hp.objs.size) ⟨hp.push o, g, d, tk, os⟩ → wpAny (model prog w) A' (pyIter v) Q E ⟨hp, g, d, tk, os⟩ :=
      fun q => B.iter prog w _ _ ⟨hp, g, d, tk, os⟩ _ h1 q
    wp_walk using q1
    refine wpAny_stack_any fun st => wpAny_pure ?_
    split <;> first
      | (rename_i c _ _ _ _ _
         cases (c == Value.type "enumerate") <;> (wp_walk using q1; exact ⟨_, rfl, h⟩))
      | (wp_walk using q1; exact ⟨_, rfl, h⟩)
section
variable {prog : Program} {w : World} {A : Around} {E : Value → Shared → Prop} {s : Shared}
theorem call_enumT {v : Value} {o : Obj} {G : Heap → Prop} {Q : Value → Shared → Prop} (B : Begins v o G) (h1 : G s.heap)
    (h : ∀ h', IsEnum h' (s.heap.objs.size + 1) s.heap.objs.size 0 .none → h'.get? s.heap.objs.size = some o →
      (∀ b o, s.heap.get? b = some o → h'.get? b = some o) → Q (.ref (s.heap.objs.size + 1)) { s with heap := h' }) :
    wpAny (model prog w) A (call (.type "enumerate") [v]) Q E s := by
  refine callType_new F.called_enumerate (by decide) (F.typeCall_enumerate_1 _) (F.newCall_enumerate_1 _) (fun obj => F.args_object_init_2 obj _) F.entry_enumerate_new (meets_enumT B) ⟨h1, ?_⟩
  have hz : (s.heap.push o).objs.size = s.heap.objs.size + 1 := Heap.size_push ..
  show _ ∧ _
  rw [hz]
  have he : IsEnum ((s.heap.push o).push { cls := .type "enumerate", data := .fields #[.none, .bool false, .ref s.heap.objs.size, rawInt 0, .none, .none] }) (s.heap.objs.size + 1) s.heap.objs.size 0 .none := by
    have q := Heap.get?_push_size (s.heap.push o) (o := { cls := .type "enumerate", data := .fields #[.none, .bool false, .ref s.heap.objs.size, rawInt 0, .none, .none] }) rfl
    rwa [hz] at q
  exact ⟨⟨_, he, rfl⟩, h _ he (Heap.get?_push_of_some _ (Heap.get?_push_size _ B.free)) fun b u x => Heap.get?_push_of_some _ (Heap.get?_push_of_some _ x)⟩
end
/-- the tuple at a, each item in a new pair with its place -/
def Iten (K : PySem.W.Frag) (a : Addr) : It :=
  ⟨fun i H => ∃ (xs : List V) (x : V), SqT K H a xs ∧ xs[i]? = some x, fun i H v H' => ∃ T x, v = .ref T ∧ H T = none ∧ H' = upd H T (.tup [.int (i : Nat), x]) ∧ ∀ xs, SqT K H a xs → xs[i]? = some x, fun i H => ∃ xs : List V, SqT K H a xs ∧ xs.length = i⟩
theorem turn_enumT {P : Program} {w : World} {K : PySem.W.Frag} {elts : List Expr} {kk : Nat} {tpos : Pos} (a e it : Addr) :
    Turn P w K (.Tuple elts kk tpos) (Iten K a) [e, it] e (fun i h => (∃ old, IsEnum h e it ((i : Nat) : Int) old) ∧ h.IsTupleIter it a i ∧ e ≠ it ∧ e ≠ a ∧ a ≠ it) where
  mem := by simp
  obj := fun i h st b hb => by
    obtain ⟨⟨old, he⟩, ⟨o, ho, hc, hd⟩, _⟩ := st
    have e' : b = e ∨ b = it := by simpa using hb
    rcases e' with z | z
    · subst z
      exact ⟨_, he, fun v q => nomatch q⟩
    · subst z
      exact ⟨o, ho, fun v q => by
        rw [hd] at q
        cases q⟩
  keep := fun i h h' st k => let ⟨⟨old, he⟩, hi, hne⟩ := st; ⟨⟨old, k e (by simp) _ he⟩, hi.at fun o q => k it (by simp) o q, hne⟩
  item := by
    intro X hP hw hK hc i pins s σ H E I hf st hg
    subst hP hw hK
    obtain ⟨⟨old, he⟩, hit, hne, hea, hai⟩ := st
    obtain ⟨xs, x, hq, hx⟩ := hg
    obtain ⟨its, rv, p, hz⟩ := I.tuple hq
    obtain ⟨u, hu, ru⟩ := rv.get hx
    have p' : s.heap.IsTuple a its.toArray := p
    have hlt : i < its.toArray.size := by
      have := (List.getElem?_eq_some_iff.mp hu).1
      simpa using this
    have hel : e < s.heap.objs.size := Heap.lt_size he
    have hil : it < s.heap.objs.size := by
      obtain ⟨_, q, _⟩ := hit
      exact Heap.lt_size q
    have Dr := Draws.tuple (prog := X.prog) (w := X.w) (A := X.A.in1) (I.ok.hd hc) it a hai its.toArray
    refine wpAny_pyNext_enum_itemD Dr he ⟨hit, p'⟩ hlt hne (by simp [hne, hea]) fun y h' tk hy ho hst hT hsz hk => ?_
    have ey : y = u := by
      have q : its.toArray[i]? = some u := by simpa using hu
      rw [q] at hy
      exact (Option.some.inj hy).symm
    subst ey
    refine ⟨_, rfl, wpAny_letOwnedTupleGo_enum (s := { s with heap := h', toks := tk + 1 }) ho fun h'' he' sb => ?_⟩
    have hT2 : h''.get? s.heap.objs.size = some { cls := .type "tuple", data := .seq #[.int i tk, y] } := (sb.2 _ (Nat.ne_of_gt hel)).trans hT
    have new : ObjOk X.prog X.w (upd H s.heap.objs.size (.tup [.int (i : Nat), x])) h'' s.heap.objs.size (.tup [.int (i : Nat), x]) :=
      ⟨by show 2 ≤ sizeLine; decide, [.int i tk, y], .cons ⟨_, rfl⟩ (.cons ru .nil), ⟨_, hT2, rfl, _, rfl⟩⟩
    have I1 : Inv X pins σ (upd H s.heap.objs.size (.tup [.int (i : Nat), x])) { s with heap := h'', toks := tk + 1 } :=
      I.turnedNew (ch := [e, it]) (fun b ob hb q => (sb.2 b (fun z => hb (by simp [z]))).trans (hk b ob (fun z => hb (by simp [z])) (fun z => hb (by simp [z])) q)) hf (Nat.le_refl _) new
    refine ⟨.ref s.heap.objs.size, _, I1, rfl, ⟨_, x, rfl, I.hok.fresh (Nat.le_refl _), rfl, fun ys hys => ?_⟩, ⟨⟨y, ?_⟩, hst.1.at fun o q => (sb.2 it (Ne.symm hne)).trans q, hne, hea, hai⟩, fun b hb => ?_⟩
    · rw [I.tuple_inj hys hq]
      exact hx
    · have e1 : ((i + 1 : Nat) : Int) = (i : Int) + 1 := by omega
      rw [e1]
      exact he'
    · have hb' : b < s.heap.objs.size := by
        have e' : b = e ∨ b = it := by simpa using hb
        rcases e' with z | z
        · subst z; exact hel
        · subst z; exact hil
      rw [upd_ne (Nat.ne_of_lt hb')]
      exact (hf b hb).1
  done := by
    intro X hP hw hK hc i pins s σ H E I hf st hg
    subst hP hw hK
    obtain ⟨⟨old, he⟩, hit, hne, hea, hai⟩ := st
    obtain ⟨xs, hq, hx⟩ := hg
    obtain ⟨its, rv, p, hz⟩ := I.tuple hq
    obtain ⟨f0, f1, f2, f3, f4, f5⟩ := hf it (by simp)
    have hl := rv.length
    have p' : s.heap.IsTuple a its.toArray := p
    have Dr := Draws.tuple (prog := X.prog) (w := X.w) (A := X.A.in1) (I.ok.hd hc) it a hai its.toArray
    have ei : i = its.toArray.size := by
      rw [List.size_toArray, ← hl, hx]
    subst ei
    exact wpAny_pyNext_enum_endD Dr he ⟨hit, p'⟩ fun h' eb => ⟨rfl, I.turned (t' := s.toks) (fun b o hb q => eb b o hb q) f0 f1 f3 f4 f5⟩
  self := fun A i s Q E st h => let ⟨⟨_, he⟩, _⟩ := st; wpAny_pyIter_enum he h
def iEnumT (K : PySem.W.Frag) (ta : TA) : TI := fun σ H R => ta σ H fun vs H1 => ∃ a xs, vs = [.ref a] ∧ SqT K H1 a xs ∧ R (Iten K a) H1
theorem pi_enumT {X : Cx} {e : Expr} {ta : TA} {p pos tpos : Pos} {elts : List Expr} {kk : Nat} (hg : Gl X "enumerate") (hm : X.mg "enumerate" = none) (ha : PA X [e] ta) (hs : starEach [e] X.env = [(false, eval e X.env)] := by rfl) :
    PI X (.Tuple elts kk tpos) (.Call (.Name "enumerate" p) [e] [] pos) (iEnumT X.K ta) := by
  refine ⟨fun pins s σ H R I h => ?_⟩
  refine PyProof.Rows.Call_ (ld_blt I hg hm PyProof.Rows.boot_enumerate (PyProof.Rows.callWith_type1 (thn (ha.run pos pins s σ H _ I h) fun us s1 ⟨vs, H1, I1, r1, q1⟩ => ?_) hs rfl))
  obtain ⟨a, xs, ex, hq, q⟩ := q1
  subst ex
  obtain ⟨u, rfl, r⟩ := vals1 r1
  cases r
  obtain ⟨its, rv, p', hz⟩ := I1.tuple hq
  have p2 : s1.heap.IsTuple a its.toArray := p'
  have hal : a < s1.heap.objs.size := by
    obtain ⟨_, ho, _⟩ := p2
    exact Heap.lt_size ho
  refine call_enumT (begins_tuple a its.toArray) p2 fun h' he hit hk => wpAny_pyIter_enum he ?_
  have I2 : Inv X pins σ H1 { s1 with heap := h' } := I1.kept (t' := s1.toks) hk
  refine ⟨s1.heap.objs.size + 1, [s1.heap.objs.size + 1, s1.heap.objs.size], _, _, H1, rfl, I2, turn_enumT a (s1.heap.objs.size + 1) s1.heap.objs.size, ⟨⟨.none, he⟩, ⟨_, hit, rfl, rfl⟩, Nat.succ_ne_self _, Nat.ne_of_gt (Nat.lt_succ_of_lt hal), Nat.ne_of_lt hal⟩, fun b hb => ?_, q⟩
  have hle : s1.heap.objs.size ≤ b := by
    have e' : b = s1.heap.objs.size + 1 ∨ b = s1.heap.objs.size := by simpa using hb
    rcases e' with z | z
    · subst z; exact Nat.le_add_right _ _
    · subst z; exact Nat.le_refl _
  exact I1.fpOk hle (I1.hok.fresh hle)

/-! ### calls by keywords alone -/
section
variable {X : Cx} {CX : CXT} {k : Nat} {f : Addr} {fd : FuncData} {ps ks : List Str} {sp : Sp} {E : XK} {x : Str} {p pos : Pos} {kws : List Keyword} {tk : TA} {g : List Value → List Value → List Value} {gV : List V → List V → List V}
theorem pe_callK0 (F : FnOk X.prog X.w X.K X.mg X.base CX k f fd ps sp) (hr : Room k X.A) (hg : Gl X x) (hm : X.mg x = some (.ref f)) (hk : PySem.W.keepIn X.K (.ref f) = true) (hb : KBinds X.K fd ps ks g gV) (hx : Passes CX X E)
    (hkw : PK X kws tk) (hall : (backToKw pos (keywordEach kws X.env)).all (·.1.isSome) = true := by rfl) (hks : (backToKw pos (keywordEach kws X.env)).filterMap (·.1) = ks := by rfl)
    (hdb : (x == ("__debug__" : Str)) = false := by decide) (hpl : ((backTo pos (starEach [] X.env)).any (·.1) || (backToKw pos (keywordEach kws X.env)).any (·.1.isNone)) = false := by rfl) :
    PE X (.Call (.Name x p) [] kws pos) (tCallK sp gV E tNil tk) := by
  refine ⟨fun pins s σ H Q I h => ?_⟩
  refine wpAny_Call_Name_kw (ld_glob I hg hm ?_ hdb)
  refine PySem.W.callWith_KW0 (h₀ := X.base) I.ok.mod.kin hk hall ?_ hpl
  refine thn (hkw.run pos pins s σ H _ I h) fun ws s2 ⟨zs, H2, I2, rz, q2⟩ => ⟨I2.kIn, ?_⟩
  rw [hks]
  exact run_fnk (us := []) F hr hb hx I2 .nil rz q2
end
theorem ix_seqK {X : Cx} (K : PySem.W.Frag) (h : X.K = K := by rfl) : IxR X (rIx K) := h ▸ ix_seq
theorem call_isiX {X : Cx} (K : PySem.W.Frag) (h : X.K = K := by rfl) : CallR X (.builtin "isinstance") (rIsi K) := h ▸ call_isi
/-! tuple(xs), list(t) -/
section
variable {K : PySem.W.Frag} {Z : Wld} {ds : List PyData}
def rTupOf (K : PySem.W.Frag) : List V → Hp → VK → Prop := fun xs H Q => ∃ p ys, xs = [.ref p] ∧ ((SqL K H p ys ∧ ∀ l, H l = none → Q (.ref l) (upd H l (.tup ys))) ∨ (SqT K H p ys ∧ Q (.ref p) H))
def rLstOf (K : PySem.W.Frag) : List V → Hp → VK → Prop := fun xs H Q => ∃ p ys, xs = [.ref p] ∧ (SqL K H p ys ∨ SqT K H p ys) ∧ ∀ l, H l = none → Q (.ref l) (upd H l (.lst ys))
theorem rc_tupOf : RC K Z (rTupOf K) [.list ds] (.tuple ds) := fun n H vs k hs Q q => by
  obtain ⟨v, rfl, h⟩ := hs.c1
  obtain ⟨p, xs, rfl, hq, hd⟩ := h.lstE
  exact ⟨p, xs, rfl, .inl ⟨vis_same.seq hq, fun l hl => q _ _ (k.same_new hl) (k.new hl) (.tup (.of (k.at_new hl)) (hd.mono (k.same_new hl)))⟩⟩
theorem rc_lstOf : RC K Z (rLstOf K) [.tuple ds] (.list ds) := fun n H vs k hs Q q => by
  obtain ⟨v, rfl, h⟩ := hs.c1
  obtain ⟨p, xs, rfl, hq, hd⟩ := h.tupE
  exact ⟨p, xs, rfl, .inr (same_t vis_same hq), fun l hl => q _ _ (k.same_new hl) (k.new hl) (.lst (.of (k.at_new hl)) (hd.mono (k.same_new hl)))⟩
end
end Hw

set_option maxHeartbeats 4000000
/-! HwC: the program's kinds. -/
namespace Hw
open PySem PySem.Spec L2
def topS (i : Nat) : Stmt := PySem.Challenge.pw_healwires_k39_whole_mendings.main.body.getD i (.Pass ⟨0, 0, 0, 0⟩)
theorem bt_isinstance : bootBuiltins "isinstance" = some (.builtin "isinstance") := by decide +kernel
theorem bt_len : bootBuiltins "len" = some (.builtin "len") := by decide +kernel
theorem bt_sum : bootBuiltins "sum" = some (.builtin "sum") := by decide +kernel
theorem bt_int : bootBuiltins "int" = some (.type "int") := by decide +kernel
theorem bt_bool : bootBuiltins "bool" = some (.type "bool") := by decide +kernel
theorem bt_str : bootBuiltins "str" = some (.type "str") := by decide +kernel
theorem bt_tuple : bootBuiltins "tuple" = some (.type "tuple") := by decide +kernel
theorem bt_list : bootBuiltins "list" = some (.type "list") := by decide +kernel
theorem bt_max : bootBuiltins "max" = some (.builtin "max") := by decide +kernel
theorem bt_min : bootBuiltins "min" = some (.builtin "min") := by decide +kernel
theorem bt_sorted : bootBuiltins "sorted" = some (.builtin "sorted") := by decide +kernel
theorem bt_repr : bootBuiltins "repr" = some (.builtin "repr") := by decide +kernel
/-- the module's names that are the built-ins' own -/
structure Txt (mg : Str → Option Value) : Prop where
  m_isinstance : mg "isinstance" = none
  m_len : mg "len" = none
  m_sum : mg "sum" = none
  m_int : mg "int" = none
  m_bool : mg "bool" = none
  m_str : mg "str" = none
  m_tuple : mg "tuple" = none
  m_list : mg "list" = none
  m_max : mg "max" = none
  m_min : mg "min" = none
  m_sorted : mg "sorted" = none
  m_repr : mg "repr" = none
  m_range : mg "range" = none
  m_enumerate : mg "enumerate" = none
/-- a def that may be called by its name -/
structure Cal (P : Program) (w : World) (K : PySem.W.Frag) (mg : Str → Option Value) (base : Heap) (k : Nat) (name : Str) (ps : List Str) (f : Addr) (fd : FuncData) (sp : Sp) : Prop where
  g : mg name = some (.ref f)
  kp : PySem.W.keepIn K (.ref f) = true
  b : Binds K fd ps []
  ok : FnOk P w K mg base CX0 k f fd ps sp
abbrev s_is_whole : Stmt := topS 6
abbrev N_is_whole : List Str := ["value"]
abbrev ps_is_whole : List Str := ["value"]
theorem sc_is_whole : FnScope N_is_whole ps_is_whole (defScope s_is_whole) := ⟨rfl, rfl, rfl, by decide +kernel, rfl, by decide +kernel, by decide +kernel⟩
abbrev s_is_between : Stmt := topS 7
abbrev N_is_between : List Str := ["value", "low", "high"]
abbrev ps_is_between : List Str := ["value", "low", "high"]
theorem sc_is_between : FnScope N_is_between ps_is_between (defScope s_is_between) := ⟨rfl, rfl, rfl, by decide +kernel, rfl, by decide +kernel, by decide +kernel⟩
abbrev s_link_fits : Stmt := topS 8
abbrev N_link_fits : List Str := ["value", "item"]
abbrev ps_link_fits : List Str := ["value"]
theorem sc_link_fits : FnScope N_link_fits ps_link_fits (defScope s_link_fits) := ⟨rfl, rfl, rfl, by decide +kernel, rfl, by decide +kernel, by decide +kernel⟩
abbrev s_check_link : Stmt := topS 9
abbrev N_check_link : List Str := ["link"]
abbrev ps_check_link : List Str := ["link"]
theorem sc_check_link : FnScope N_check_link ps_check_link (defScope s_check_link) := ⟨rfl, rfl, rfl, by decide +kernel, rfl, by decide +kernel, by decide +kernel⟩
abbrev s_bit_fits : Stmt := topS 10
abbrev N_bit_fits : List Str := ["value"]
abbrev ps_bit_fits : List Str := ["value"]
theorem sc_bit_fits : FnScope N_bit_fits ps_bit_fits (defScope s_bit_fits) := ⟨rfl, rfl, rfl, by decide +kernel, rfl, by decide +kernel, by decide +kernel⟩
abbrev s_counts_fit : Stmt := topS 11
abbrev N_counts_fit : List Str := ["value", "size", "most", "item"]
abbrev ps_counts_fit : List Str := ["value", "size", "most"]
theorem sc_counts_fit : FnScope N_counts_fit ps_counts_fit (defScope s_counts_fit) := ⟨rfl, rfl, rfl, by decide +kernel, rfl, by decide +kernel, by decide +kernel⟩
abbrev s_lot_fits : Stmt := topS 12
abbrev N_lot_fits : List Str := ["link", "value", "alike"]
abbrev ps_lot_fits : List Str := ["link", "value", "alike"]
theorem sc_lot_fits : FnScope N_lot_fits ps_lot_fits (defScope s_lot_fits) := ⟨rfl, rfl, rfl, by decide +kernel, rfl, by decide +kernel, by decide +kernel⟩
abbrev s_hosts_fit : Stmt := topS 13
abbrev N_hosts_fit : List Str := ["link", "sender", "receiver"]
abbrev ps_hosts_fit : List Str := ["link", "sender", "receiver"]
theorem sc_hosts_fit : FnScope N_hosts_fit ps_hosts_fit (defScope s_hosts_fit) := ⟨rfl, rfl, rfl, by decide +kernel, rfl, by decide +kernel, by decide +kernel⟩
abbrev s_contents_fit : Stmt := topS 14
abbrev N_contents_fit : List Str := ["link", "value"]
abbrev ps_contents_fit : List Str := ["link", "value"]
theorem sc_contents_fit : FnScope N_contents_fit ps_contents_fit (defScope s_contents_fit) := ⟨rfl, rfl, rfl, by decide +kernel, rfl, by decide +kernel, by decide +kernel⟩
abbrev s_check_contents : Stmt := topS 15
abbrev N_check_contents : List Str := ["link", "contents"]
abbrev ps_check_contents : List Str := ["link", "contents"]
theorem sc_check_contents : FnScope N_check_contents ps_check_contents (defScope s_check_contents) := ⟨rfl, rfl, rfl, by decide +kernel, rfl, by decide +kernel, by decide +kernel⟩
abbrev s_old_of : Stmt := topS 16
abbrev N_old_of : List Str := ["contents", "bit"]
abbrev ps_old_of : List Str := ["contents", "bit"]
theorem sc_old_of : FnScope N_old_of ps_old_of (defScope s_old_of) := ⟨rfl, rfl, rfl, by decide +kernel, rfl, by decide +kernel, by decide +kernel⟩
abbrev s_answers_of : Stmt := topS 17
abbrev N_answers_of : List Str := ["contents", "bit"]
abbrev ps_answers_of : List Str := ["contents", "bit"]
theorem sc_answers_of : FnScope N_answers_of ps_answers_of (defScope s_answers_of) := ⟨rfl, rfl, rfl, by decide +kernel, rfl, by decide +kernel, by decide +kernel⟩

section
variable {P : Program} {w : World} {K : PySem.W.Frag} {mg : Str → Option Value} {base : Heap}

/-! ### is_whole, is_between -/
def isI : PyData → Bool
  | .int _ => true
  | .bool _ => true
  | _ => false
def isB : PyData → Bool
  | .bool _ => true
  | _ => false
def isS : PyData → Bool
  | .str _ => true
  | _ => false
def isL : PyData → Bool
  | .list _ => true
  | _ => false
def isU : PyData → Bool
  | .tuple _ => true
  | _ => false
def isW : PyData → Bool
  | .int _ => true
  | _ => false
theorem kit_int : ∀ d : PyData, kitB (tyOf d) "int" = some (isI d)
  | .none => (show kitB "NoneType" "int" = some false by decide +kernel)
  | .bool _ => (show kitB "bool" "int" = some true by decide +kernel)
  | .int _ => (show kitB "int" "int" = some true by decide +kernel)
  | .str _ => (show kitB "str" "int" = some false by decide +kernel)
  | .list _ => (show kitB "list" "int" = some false by decide +kernel)
  | .tuple _ => (show kitB "tuple" "int" = some false by decide +kernel)
  | .dict _ => (show kitB "dict" "int" = some false by decide +kernel)
theorem kit_bool : ∀ d : PyData, kitB (tyOf d) "bool" = some (isB d)
  | .none => (show kitB "NoneType" "bool" = some false by decide +kernel)
  | .bool _ => (show kitB "bool" "bool" = some true by decide +kernel)
  | .int _ => (show kitB "int" "bool" = some false by decide +kernel)
  | .str _ => (show kitB "str" "bool" = some false by decide +kernel)
  | .list _ => (show kitB "list" "bool" = some false by decide +kernel)
  | .tuple _ => (show kitB "tuple" "bool" = some false by decide +kernel)
  | .dict _ => (show kitB "dict" "bool" = some false by decide +kernel)
theorem kit_str : ∀ d : PyData, kitB (tyOf d) "str" = some (isS d)
  | .none => (show kitB "NoneType" "str" = some false by decide +kernel)
  | .bool _ => (show kitB "bool" "str" = some false by decide +kernel)
  | .int _ => (show kitB "int" "str" = some false by decide +kernel)
  | .str _ => (show kitB "str" "str" = some true by decide +kernel)
  | .list _ => (show kitB "list" "str" = some false by decide +kernel)
  | .tuple _ => (show kitB "tuple" "str" = some false by decide +kernel)
  | .dict _ => (show kitB "dict" "str" = some false by decide +kernel)
theorem kit_list : ∀ d : PyData, kitB (tyOf d) "list" = some (isL d)
  | .none => (show kitB "NoneType" "list" = some false by decide +kernel)
  | .bool _ => (show kitB "bool" "list" = some false by decide +kernel)
  | .int _ => (show kitB "int" "list" = some false by decide +kernel)
  | .str _ => (show kitB "str" "list" = some false by decide +kernel)
  | .list _ => (show kitB "list" "list" = some true by decide +kernel)
  | .tuple _ => (show kitB "tuple" "list" = some false by decide +kernel)
  | .dict _ => (show kitB "dict" "list" = some false by decide +kernel)
theorem kit_tuple : ∀ d : PyData, kitB (tyOf d) "tuple" = some (isU d)
  | .none => (show kitB "NoneType" "tuple" = some false by decide +kernel)
  | .bool _ => (show kitB "bool" "tuple" = some false by decide +kernel)
  | .int _ => (show kitB "int" "tuple" = some false by decide +kernel)
  | .str _ => (show kitB "str" "tuple" = some false by decide +kernel)
  | .list _ => (show kitB "list" "tuple" = some false by decide +kernel)
  | .tuple _ => (show kitB "tuple" "tuple" = some true by decide +kernel)
  | .dict _ => (show kitB "dict" "tuple" = some false by decide +kernel)
def leHi (i : Int) : Option Int → Bool
  | none => true
  | some h => decide (i ≤ h)
def btw (d : PyData) (lo : Int) (hi : Option Int) : Bool := match d with
  | .int i => decide (lo ≤ i) && leHi i hi
  | _ => false
def hiD : Option Int → PyData
  | none => .none
  | some h => .int h
def R_is_whole : List PyData → PyData → Prop := fun ds r => ∃ d, ds = [d] ∧ r = .bool (isW d)
theorem ok_is_whole {f : Addr} {fd : FuncData} (F : Fun K "is_whole" "is_whole" s_is_whole f fd) (T : Txt mg) : FnOk P w K mg base CX0 1 f fd ps_is_whole (spR K R_is_whole) := by
  refine fn_pure F sc_is_whole (fun ds r h => ?_) (fun cdv A outer s H E hr => ⟨_, (pss_one (ps_ret (pe_and (pe_callB (call_isiX K) (by rfl) T.m_isinstance bt_isinstance (pa_cons (pv 0) (pa_cons (pe_bltn (v := .ty "int") (by rfl) T.m_int bt_int rfl) pa_nil))) (pe_one (pe_not (pe_callB (call_isiX K) (by rfl) T.m_isinstance bt_isinstance (pa_cons (pv 0) (pa_cons (pe_bltn (v := .ty "bool") (by rfl) T.m_bool bt_bool rfl) pa_nil)))))))), ?_⟩)
  · obtain ⟨d, rfl, _⟩ := h
    rfl
  · rintro ds r ⟨d, rfl, rfl⟩ Z vs M hd
    cases hd with
    | cons h1 hn =>
      cases hn
      refine bd_ret (ev_eq (ev_and (ev_isi (kit_int d) (ev_var rfl h1)) (fun _ => ev_not (ev_isi (kit_bool d) (ev_var rfl h1)))) ?_)
      cases d <;> rfl
def R_is_between : List PyData → PyData → Prop := fun ds r => ∃ d lo hi, ds = [d, .int lo, hiD hi] ∧ r = .bool (btw d lo hi)
theorem ok_is_between {f f1 : Addr} {fd fd1 : FuncData} (F : Fun K "is_between" "is_between" s_is_between f fd) (T : Txt mg) (C_is_whole : Cal P w K mg base 1 "is_whole" ps_is_whole f1 fd1 (spR K R_is_whole)) :
    FnOk P w K mg base CX0 2 f fd ps_is_between (spR K R_is_between) := by
  refine fn_pure F sc_is_between (fun ds r h => ?_) (fun cdv A outer s H E hr => ⟨_, (pss_cons (ps_if (pt_not (pt_val (pe_call C_is_whole.ok (hr.mono (by decide)) (by rfl) C_is_whole.g C_is_whole.kp C_is_whole.b .nil pass0 (pa_cons (pv 0) pa_nil)))) (pss_one (ps_ret pe_bl)) pss_nil)
      (pss_one (ps_ret (pe_and (pe_or (pe_cmpR op_isN (pv 1) pe_non (nomark _)) (pe_one (pe_cmpR op_ge (pv 0) (pv 1) (nomark _)))) (pe_one (pe_or (pe_cmpR op_isN (pv 2) pe_non (nomark _)) (pe_one (pe_cmpR op_le (pv 0) (pv 2) (nomark _))))))))), ?_⟩)
  · obtain ⟨d, lo, hi, rfl, _⟩ := h
    rfl
  · rintro ds r ⟨d, lo, hi, rfl, rfl⟩ Z vs M hd
    cases hd with
    | cons h1 hd =>
      cases hd with
      | cons h2 hd =>
        cases hd with
        | cons h3 hn =>
          cases hn
          refine bd_when (et_not (et_val (ev_call ⟨d, rfl, rfl⟩ (ea_cons (ev_var rfl h1) ea_nil)))) (fun e => ?_) (fun e => ?_)
          · refine bd_ret (ev_eq ev_bl ?_)
            cases d <;> first | rfl | (cases e)
          · cases d with
            | int i =>
              refine bd_ret (ev_eq (ev_and (ev_or (ev_op rv_isN (ev_var rfl h2) ev_non) (fun _ => ev_op rv_B0 (ev_var rfl h1) (ev_var rfl h2)))
                (c := leHi i hi) (fun _ => ?_)) rfl)
              cases hi with
              | none => exact ev_eq (ev_or (c := true) (ev_op rv_isN (ev_var rfl h3) ev_non) (fun e => by cases e)) rfl
              | some h => exact ev_eq (ev_or (ev_op rv_isN (ev_var rfl h3) ev_non) (fun _ => ev_op rv_B0 (ev_var rfl h1) (ev_var rfl h3))) rfl
            | _ => cases e

/-! ### links and contents, as the law makes them -/
structure Lnk where
  c : Int
  d : Int
  p : Int
  q : Int
def Lnk.D (l : Lnk) : PyData := .tuple [.int l.c, .int l.d, .int l.p, .int l.q]
structure Lnk.ok (l : Lnk) : Prop where
  c1 : 1 ≤ l.c
  d1 : 1 ≤ l.d
  p1 : 1 ≤ l.p
  q1 : 1 ≤ l.q
  c2 : l.c ≤ 10 ^ 30
  d2 : l.d ≤ 10 ^ 30
  p2 : l.p ≤ 10 ^ 30
  q2 : l.q ≤ 10 ^ 30
structure Cts where
  bit : Int
  heard : Int
  other : Int
  lot : Option (Bool × Int)
  done : Bool
  nw : Int
  zs : Int
  os : Int
  lo : Int
  hi : Int
def sortT (b : Bool) : Str := if b then "new" else "old"
def lotD : Option (Bool × Int) → PyData
  | none => .none
  | some (b, m) => .tuple [.str (sortT b), .int m]
def Cts.S (x : Cts) : PyData := .tuple [.int x.bit, .int x.heard]
def Cts.R (x : Cts) : PyData := .tuple [.int x.other, lotD x.lot, .bool x.done]
def Cts.T (x : Cts) : PyData := .tuple [.int x.nw, .int x.zs, .int x.os]
def Cts.B (x : Cts) : PyData := .tuple [.int x.lo, .int x.hi]
def Cts.D (x : Cts) : PyData := .tuple [x.S, x.R, x.T, x.B]
def lotOk (l : Lnk) (alike : Bool) : Option (Bool × Int) → Prop
  | none => True
  | some (b, m) => (b = true → alike = false) ∧ 1 ≤ m ∧ m ≤ l.p - 1
structure Cts.ok (l : Lnk) (x : Cts) : Prop where
  b0 : 0 ≤ x.bit
  b1 : x.bit ≤ 1
  h0 : 0 ≤ x.heard
  h1 : x.heard ≤ l.q - 1
  o0 : 0 ≤ x.other
  o1 : x.other ≤ 1
  lt : lotOk l (x.bit == x.other) x.lot
  n0 : 0 ≤ x.nw
  z0 : 0 ≤ x.zs
  s0 : 0 ≤ x.os
  t1 : x.nw + x.zs + x.os ≤ l.c
  l0 : 0 ≤ x.lo
  u0 : 0 ≤ x.hi
  u1 : x.lo + x.hi ≤ l.d
theorem ltn {a b : Nat} (h : Nat.blt a b = true) : a < b := Nat.lt_of_lt_of_le (Nat.lt_succ_self a) (Nat.le_of_ble_eq_true h)
theorem btw_int {i lo : Int} {hi : Option Int} (h : lo ≤ i) (h2 : leHi i hi = true) : btw (.int i) lo hi = true := by
  show (decide (lo ≤ i) && leHi i hi) = true
  rw [decide_eq_true h, h2]
  rfl

/-! ### link_fits, check_link, bit_fits -/
def R_link_fits : List PyData → PyData → Prop := fun ds r => ∃ l : Lnk, l.ok ∧ ds = [l.D] ∧ r = .bool true
theorem ok_link_fits {f f1 : Addr} {fd fd1 : FuncData} (F : Fun K "link_fits" "link_fits" s_link_fits f fd) (T : Txt mg) (C_is_between : Cal P w K mg base 2 "is_between" ps_is_between f1 fd1 (spR K R_is_between)) :
    FnOk P w K mg base CX0 3 f fd ps_link_fits (spR K R_link_fits) := by
  refine fn_pure F sc_link_fits (fun ds r h => ?_) (fun cdv A outer s H E hr => ⟨_, (pss_cons (ps_if (PW.pt (pw_or (pt_not (pt_val (pe_callB (call_isiX K) (by rfl) T.m_isinstance bt_isinstance (pa_cons (pv 0) (pa_cons (pe_bltn (v := .ty "tuple") (by rfl) T.m_tuple bt_tuple rfl) pa_nil))))) (pw_or1 (pt_cmpR (op_neD hr.units) (pe_callB call_len_seq (by rfl) T.m_len bt_len (pa_cons (pv 0) pa_nil)) pe_int (nomark _))))) (pss_one (ps_ret pe_bl)) pss_nil)
      (pss_one (ps_ret (pe_cmpR (op_eqD hr.units) (pe_lc (own := [("item", 1)]) (g := gName 1) rfl sc_link_fits.nd (pi_tup (pv 0)) (blkOk_by (N := N_link_fits) (sc := defScope s_link_fits) (by decide +kernel)) (fun _ _ _ _ _ => pg_name (i := 1) sc_link_fits.nd rfl (Or.inl rfl)) (fun _ _ _ _ _ => (pts_one (pt_not (pt_val (pe_call C_is_between.ok (hr.mono (by decide)) (by rfl) C_is_between.g C_is_between.kp C_is_between.b .nil pass0 (pa_cons (pv 1) (pa_cons pe_int (pa_cons pe_non pa_nil)))))))) (fun _ _ _ _ _ => (pv 1))) (pe_lst pa_nil) (nomark _))))), ?_⟩)
  · obtain ⟨l, _, rfl, _⟩ := h
    rfl
  · rintro ds r ⟨l, hl, rfl, rfl⟩ Z vs M hd
    cases hd with
    | cons h1 hn =>
      cases hn
      refine bd_when (b := false) (et_or (b := false) (et_is (et_not (et_val (ev_isi (kit_tuple _) (ev_var rfl h1)))) rfl) (fun _ => et_is (et_cmp (ev_op (rv_ne (sh_int _) (sh_int _)) (ev_cb rc_lenT (ea_cons (ev_var rfl h1) ea_nil)) ev_int)) (by rw [eqv_int]; rfl))) (fun e => by cases e) (fun _ => ?_)
      have hb : ∀ d ∈ ([.int l.c, .int l.d, .int l.p, .int l.q] : List PyData), btw d 1 none = true := fun d hd => by
        simp only [List.mem_cons, List.not_mem_nil, or_false] at hd
        rcases hd with rfl | rfl | rfl | rfl
        · exact btw_int hl.c1 rfl
        · exact btw_int hl.d1 rfl
        · exact btw_int hl.p1 rfl
        · exact btw_int hl.q1 rfl
      refine bd_ret (ev_eq (ev_op (rv_eq sh_nil sh_nil) (ev_eq (ev_filterT (fun d => !btw d 1 none) (ev_var rfl h1) (ltn rfl) (by simp) (fun d x N hm s hx => ?_)) ?_) (ev_lst ea_nil (by decide))) (by rw [eqv_nil]; rfl))
      · exact et_not (et_val (ev_call ⟨d, 1, none, rfl, rfl⟩ (ea_cons (ev_var rfl hx) (ea_cons ev_int (ea_cons ev_non ea_nil)))))
      · refine congrArg PyData.list (List.filter_eq_nil_iff.mpr fun d hm => ?_)
        rw [hb d hm]
        decide
def R_check_link : List PyData → PyData → Prop := fun ds r => ∃ l : Lnk, l.ok ∧ ds = [l.D] ∧ r = .none
theorem ok_check_link {f f1 : Addr} {fd fd1 : FuncData} (F : Fun K "check_link" "check_link" s_check_link f fd) (C_link_fits : Cal P w K mg base 3 "link_fits" ps_link_fits f1 fd1 (spR K R_link_fits)) :
    FnOk P w K mg base CX0 4 f fd ps_check_link (spR K R_check_link) := by
  refine fn_none F sc_check_link (fun ds r h => ?_) (fun cdv A outer s H E hr => ⟨_, (pss_one (ps_if (pt_not (pt_val (pe_call C_link_fits.ok (hr.mono (by decide)) (by rfl) C_link_fits.g C_link_fits.kp C_link_fits.b .nil pass0 (pa_cons (pv 0) pa_nil)))) (pss_one ps_never) pss_nil)), ?_⟩)
  · obtain ⟨l, _, rfl, rfl⟩ := h
    exact ⟨rfl, rfl⟩
  · rintro ds r ⟨l, hl, rfl, rfl⟩ Z vs M hd
    cases hd with
    | cons h1 hn =>
      cases hn
      exact bn_skip (et_is (et_not (et_val (b := true) (ev_call (R := R_link_fits) ⟨l, hl, rfl, rfl⟩ (ea_cons (ev_var rfl h1) ea_nil)))) rfl)
def R_bit_fits : List PyData → PyData → Prop := fun ds r => ∃ d, ds = [d] ∧ r = .bool (btw d 0 (some 1))
theorem ok_bit_fits {f f1 : Addr} {fd fd1 : FuncData} (F : Fun K "bit_fits" "bit_fits" s_bit_fits f fd) (C_is_between : Cal P w K mg base 2 "is_between" ps_is_between f1 fd1 (spR K R_is_between)) :
    FnOk P w K mg base CX0 3 f fd ps_bit_fits (spR K R_bit_fits) := by
  refine fn_pure F sc_bit_fits (fun ds r h => ?_) (fun cdv A outer s H E hr => ⟨_, (pss_one (ps_ret (pe_call C_is_between.ok (hr.mono (by decide)) (by rfl) C_is_between.g C_is_between.kp C_is_between.b .nil pass0 (pa_cons (pv 0) (pa_cons pe_int (pa_cons pe_int pa_nil)))))), ?_⟩)
  · obtain ⟨d, rfl, _⟩ := h
    rfl
  · rintro ds r ⟨d, rfl, rfl⟩ Z vs M hd
    cases hd with
    | cons h1 hn =>
      cases hn
      exact bd_ret (ev_call ⟨d, 0, some 1, rfl, rfl⟩ (ea_cons (ev_var rfl h1) (ea_cons ev_int (ea_cons ev_int ea_nil))))

/-! ### counts_fit -/
def R_counts_fit : List PyData → PyData → Prop := fun ds r => ∃ (ns : List Int) (most : Int), (∀ n ∈ ns, 0 ≤ n) ∧ ns.sum ≤ most ∧ ns.length ≤ 10 ∧ ds = [.tuple (ns.map .int), .int (ns.length : Int), .int most] ∧ r = .bool true
theorem ok_counts_fit {f f1 : Addr} {fd fd1 : FuncData} (F : Fun K "counts_fit" "counts_fit" s_counts_fit f fd) (T : Txt mg) (C_is_between : Cal P w K mg base 2 "is_between" ps_is_between f1 fd1 (spR K R_is_between)) :
    FnOk P w K mg base CX0 3 f fd ps_counts_fit (spR K R_counts_fit) := by
  refine fn_pure F sc_counts_fit (fun ds r h => ?_) (fun cdv A outer s H E hr => ⟨_, (pss_cons (ps_if (PW.pt (pw_or (pt_not (pt_val (pe_callB (call_isiX K) (by rfl) T.m_isinstance bt_isinstance (pa_cons (pv 0) (pa_cons (pe_bltn (v := .ty "tuple") (by rfl) T.m_tuple bt_tuple rfl) pa_nil))))) (pw_or1 (pt_cmpR (op_neD hr.units) (pe_callB call_len_seq (by rfl) T.m_len bt_len (pa_cons (pv 0) pa_nil)) (pv 1) (nomark _))))) (pss_one (ps_ret pe_bl)) pss_nil)
      (pss_cons (ps_if (pt_cmpR (op_neD hr.units) (pe_lc (own := [("item", 3)]) (g := gName 3) rfl sc_counts_fit.nd (pi_tup (pv 0)) (blkOk_by (N := N_counts_fit) (sc := defScope s_counts_fit) (by decide +kernel)) (fun _ _ _ _ _ => pg_name (i := 3) sc_counts_fit.nd rfl (Or.inl rfl)) (fun _ _ _ _ _ => (pts_one (pt_not (pt_val (pe_call C_is_between.ok (hr.mono (by decide)) (by rfl) C_is_between.g C_is_between.kp C_is_between.b .nil pass0 (pa_cons (pv 3) (pa_cons pe_int (pa_cons pe_non pa_nil)))))))) (fun _ _ _ _ _ => (pv 3))) (pe_lst pa_nil) (nomark _)) (pss_one (ps_ret pe_bl)) pss_nil)
      (pss_one (ps_ret (pe_cmpR op_le (pe_callB (call_sumX rfl) (by rfl) T.m_sum bt_sum (pa_cons (pv 0) pa_nil)) (pv 2) (nomark _)))))), ?_⟩)
  · obtain ⟨ns, most, _, _, _, rfl, _⟩ := h
    rfl
  · rintro ds r ⟨ns, most, h0, hs, hl, rfl, rfl⟩ Z vs M hd
    cases hd with
    | cons h1 hd =>
      cases hd with
      | cons h2 hd =>
        cases hd with
        | cons h3 hn =>
          cases hn
          refine bd_when (b := false) (et_or (b := false) (et_is (et_not (et_val (ev_isi (kit_tuple _) (ev_var rfl h1)))) rfl)
            (fun _ => et_is (et_cmp (ev_op (rv_ne (sh_int _) (sh_int _)) (ev_cb rc_lenT (ea_cons (ev_var rfl h1) ea_nil)) (ev_var rfl h2))) (by rw [eqv_int, List.length_map]; simp))) (fun e => by cases e) (fun _ => ?_)
          refine bd_when (b := false) (et_is (et_cmp (ev_op (rv_ne sh_nil sh_nil) (ev_eq (ev_filterT (fun d => !btw d 0 none) (ev_var rfl h1) (ltn rfl) (by rw [List.length_map]; omega) (fun d x N hm s hx => ?_)) ?_) (ev_lst ea_nil (by decide)))) (by rw [eqv_nil]; rfl)) (fun e => by cases e) (fun _ => ?_)
          · exact et_not (et_val (ev_call ⟨d, 0, none, rfl, rfl⟩ (ea_cons (ev_var rfl hx) (ea_cons ev_int (ea_cons ev_non ea_nil)))))
          · refine congrArg PyData.list (List.filter_eq_nil_iff.mpr fun d hm => ?_)
            obtain ⟨n, hn, rfl⟩ := List.mem_map.mp hm
            rw [btw_int (h0 n hn) rfl]
            decide
          · exact bd_ret (ev_eq (ev_op rv_B0 (ev_cb rc_sumT (ea_cons (ev_var rfl h1) ea_nil)) (ev_var rfl h3)) (by rw [decide_eq_true hs]))
end
end Hw

set_option maxHeartbeats 4000000
/-! HwD: contents_fit and what it calls. -/
namespace Hw
open PySem PySem.Spec L2
theorem hu65 {A : Around} {k : Nat} (hr : Room k A) : A.units + 65 < cLine := by
  have := hr.un
  omega
theorem btw_in {i lo h : Int} (h1 : lo ≤ i) (h2 : i ≤ h) : btw (.int i) lo (some h) = true := btw_int h1 (decide_eq_true h2)
theorem sh_sort (b : Bool) : SeqAt.shaped (.str (sortT b)) = true := by cases b <;> decide +kernel
theorem sh_sorts : SeqAt.shaped (.list [.str "new", .str "old"]) = true := by decide +kernel
theorem sh_new : SeqAt.shaped (.str "new") = true := by decide +kernel
theorem sort_in (b : Bool) : ([PyData.str "new", .str "old"].any fun z => PyData.eqv z (.str (sortT b))) = true := by
  cases b <;> decide +kernel
theorem sort_new (b : Bool) : PyData.eqv (.str (sortT b)) (.str "new") = b := by cases b <;> decide +kernel
section
variable {P : Program} {w : World} {K : PySem.W.Frag} {mg : Str → Option Value} {base : Heap}
def R_lot_fits : List PyData → PyData → Prop := fun ds r => ∃ (l : Lnk) (alike : Bool) (lot : Option (Bool × Int)), l.ok ∧ lotOk l alike lot ∧ ds = [l.D, lotD lot, .bool alike] ∧ r = .bool true
theorem ok_lot_fits {f f1 : Addr} {fd fd1 : FuncData} (F : Fun K "lot_fits" "lot_fits" s_lot_fits f fd) (T : Txt mg) (C_is_between : Cal P w K mg base 2 "is_between" ps_is_between f1 fd1 (spR K R_is_between)) :
    FnOk P w K mg base CX0 3 f fd ps_lot_fits (spR K R_lot_fits) := by
  refine fn_pure F sc_lot_fits (fun ds r h => ?_) (fun cdv A outer s H E hr => ⟨_, (pss_cons (ps_if (pt_cmpR op_isN (pv 1) pe_non (nomark _)) (pss_one (ps_ret pe_bl)) pss_nil)
      (pss_cons (ps_if (PW.pt (pw_or (pt_not (pt_val (pe_callB (call_isiX K) (by rfl) T.m_isinstance bt_isinstance (pa_cons (pv 1) (pa_cons (pe_bltn (v := .ty "tuple") (by rfl) T.m_tuple bt_tuple rfl) pa_nil))))) (pw_or (pt_cmpR (op_neD hr.units) (pe_callB call_len_seq (by rfl) T.m_len bt_len (pa_cons (pv 1) pa_nil)) pe_int (nomark _)) (pw_or1 (pt_not (pt_val (pe_callB (call_isiX K) (by rfl) T.m_isinstance bt_isinstance (pa_cons (pe_ix (ix_seqK K) (pv 1) pe_int (fun _ _ => rfl)) (pa_cons (pe_bltn (v := .ty "str") (by rfl) T.m_str bt_str rfl) pa_nil))))))))) (pss_one (ps_ret pe_bl)) pss_nil)
      (pss_cons (ps_if (PW.pt (pw_or (pt_cmpR (op_notInD (hu65 hr)) (pe_ix (ix_seqK K) (pv 1) pe_int (fun _ _ => rfl)) (pe_lst (pa_cons pe_str (pa_cons pe_str pa_nil))) (by rfl)) (pw_or1 (PW.pt (pw_and (pt_cmpR (op_eqD hr.units) (pe_ix (ix_seqK K) (pv 1) pe_int (fun _ _ => rfl)) pe_str (nomark _)) (pw_and1 (pt_val (pv 2)))))))) (pss_one (ps_ret pe_bl)) pss_nil)
      (pss_one (ps_ret (pe_call C_is_between.ok (hr.mono (by decide)) (by rfl) C_is_between.g C_is_between.kp C_is_between.b .nil pass0 (pa_cons (pe_ix (ix_seqK K) (pv 1) pe_int (fun _ _ => rfl)) (pa_cons pe_int (pa_cons (pe_op op_sub (pe_ix (ix_seqK K) (pv 0) pe_int (fun _ _ => rfl)) pe_int) pa_nil))))))))), ?_⟩)
  · obtain ⟨l, a, t, _, _, rfl, _⟩ := h
    rfl
  · rintro ds r ⟨l, alike, lot, hl, ht, rfl, rfl⟩ Z vs M hd
    obtain ⟨v1, v2, v3, rfl, h1, h2, h3⟩ := hd.c3
    cases lot with
    | none => exact bd_when (et_cmp (ev_op rv_isN (ev_var rfl h2) ev_non)) (fun _ => bd_ret ev_bl) (fun e => by cases e)
    | some t =>
      obtain ⟨b, m⟩ := t
      obtain ⟨g1, g2, g3⟩ := ht
      have h0 : Ev K Z (tOp (rIx K) (tVar 1) (tC (.int 0))) (start N_lot_fits [v1, v2, v3]) M (.str (sortT b)) := ev_op (rv_ixT (atI_nat (j := 0) rfl)) (ev_var rfl h2) ev_int
      refine bd_when (b := false) (et_is (et_cmp (ev_op rv_isN (ev_var rfl h2) ev_non)) rfl) (fun e => by cases e) (fun _ => ?_)
      refine bd_when (b := false) (et_or (b := false) (et_is (et_not (et_val (ev_isi (kit_tuple _) (ev_var rfl h2)))) rfl) (fun _ => et_or (b := false) (c := false)
        (et_is (et_cmp (ev_op (rv_ne (sh_int _) (sh_int _)) (ev_cb rc_lenT (ea_cons (ev_var rfl h2) ea_nil)) ev_int)) (by rw [eqv_int]; rfl))
        (fun _ => et_is (et_not (et_val (ev_isi (kit_str _) h0))) rfl))) (fun e => by cases e) (fun _ => ?_)
      refine bd_when (b := false) (et_or (b := false) (c := false) (et_is (et_cmp (ev_op (rv_notIn (sh_sort b) sh_sorts) h0 (ev_lst (ea_cons ev_str (ea_cons ev_str ea_nil)) (by simp)))) (by rw [sort_in b]; rfl))
        (fun _ => et_is (et_and (et_cmp (ev_op (rv_eq (sh_sort b) sh_new) h0 ev_str)) (fun _ => et_val (ev_var rfl h3))) ?_)) (fun e => by cases e) (fun _ => ?_)
      · rw [sort_new]
        cases b with
        | false => rfl
        | true => rw [g1 rfl]; rfl
      · refine bd_ret (ev_call ⟨.int m, 1, some (l.p - 1), rfl, ?_⟩ (ea_cons (ev_op (rv_ixT (atI_nat (j := 1) rfl)) (ev_var rfl h2) ev_int) (ea_cons ev_int (ea_cons (ev_op rv_I0 (ev_op (rv_ixT (atI_nat (j := 2) rfl)) (ev_var rfl h1) ev_int) ev_int) ea_nil))))
        rw [btw_in g2 g3]

/-! ### hosts_fit, contents_fit, check_contents -/
def R_hosts_fit : List PyData → PyData → Prop := fun ds r => ∃ (l : Lnk) (x : Cts), l.ok ∧ x.ok l ∧ ds = [l.D, x.S, x.R] ∧ r = .bool true
theorem ok_hosts_fit {f f1 f2 f3 : Addr} {fd fd1 fd2 fd3 : FuncData} (F : Fun K "hosts_fit" "hosts_fit" s_hosts_fit f fd) (T : Txt mg) (C_is_between : Cal P w K mg base 2 "is_between" ps_is_between f1 fd1 (spR K R_is_between))
    (C_bit_fits : Cal P w K mg base 3 "bit_fits" ps_bit_fits f2 fd2 (spR K R_bit_fits)) (C_lot_fits : Cal P w K mg base 3 "lot_fits" ps_lot_fits f3 fd3 (spR K R_lot_fits)) :
    FnOk P w K mg base CX0 4 f fd ps_hosts_fit (spR K R_hosts_fit) := by
  refine fn_pure F sc_hosts_fit (fun ds r h => ?_) (fun cdv A outer s H E hr => ⟨_, (pss_cons (ps_if (PW.pt (pw_or (pt_not (pt_val (pe_callB (call_isiX K) (by rfl) T.m_isinstance bt_isinstance (pa_cons (pv 1) (pa_cons (pe_bltn (v := .ty "tuple") (by rfl) T.m_tuple bt_tuple rfl) pa_nil))))) (pw_or (pt_cmpR (op_neD hr.units) (pe_callB call_len_seq (by rfl) T.m_len bt_len (pa_cons (pv 1) pa_nil)) pe_int (nomark _)) (pw_or (pt_not (pt_val (pe_callB (call_isiX K) (by rfl) T.m_isinstance bt_isinstance (pa_cons (pv 2) (pa_cons (pe_bltn (v := .ty "tuple") (by rfl) T.m_tuple bt_tuple rfl) pa_nil))))) (pw_or1 (pt_cmpR (op_neD hr.units) (pe_callB call_len_seq (by rfl) T.m_len bt_len (pa_cons (pv 2) pa_nil)) pe_int (nomark _))))))) (pss_one (ps_ret pe_bl)) pss_nil)
      (pss_cons (ps_if (PW.pt (pw_or (pt_not (pt_val (pe_call C_bit_fits.ok (hr.mono (by decide)) (by rfl) C_bit_fits.g C_bit_fits.kp C_bit_fits.b .nil pass0 (pa_cons (pe_ix (ix_seqK K) (pv 1) pe_int (fun _ _ => rfl)) pa_nil)))) (pw_or1 (pt_not (pt_val (pe_call C_is_between.ok (hr.mono (by decide)) (by rfl) C_is_between.g C_is_between.kp C_is_between.b .nil pass0 (pa_cons (pe_ix (ix_seqK K) (pv 1) pe_int (fun _ _ => rfl)) (pa_cons pe_int (pa_cons (pe_op op_sub (pe_ix (ix_seqK K) (pv 0) pe_int (fun _ _ => rfl)) pe_int) pa_nil))))))))) (pss_one (ps_ret pe_bl)) pss_nil)
      (pss_cons (ps_if (PW.pt (pw_or (pt_not (pt_val (pe_call C_bit_fits.ok (hr.mono (by decide)) (by rfl) C_bit_fits.g C_bit_fits.kp C_bit_fits.b .nil pass0 (pa_cons (pe_ix (ix_seqK K) (pv 2) pe_int (fun _ _ => rfl)) pa_nil)))) (pw_or1 (pt_not (pt_val (pe_callB (call_isiX K) (by rfl) T.m_isinstance bt_isinstance (pa_cons (pe_ix (ix_seqK K) (pv 2) pe_int (fun _ _ => rfl)) (pa_cons (pe_bltn (v := .ty "bool") (by rfl) T.m_bool bt_bool rfl) pa_nil)))))))) (pss_one (ps_ret pe_bl)) pss_nil)
      (pss_one (ps_ret (pe_call C_lot_fits.ok (hr.mono (by decide)) (by rfl) C_lot_fits.g C_lot_fits.kp C_lot_fits.b .nil pass0 (pa_cons (pv 0) (pa_cons (pe_ix (ix_seqK K) (pv 2) pe_int (fun _ _ => rfl)) (pa_cons (pe_cmpR (op_eqD hr.units) (pe_ix (ix_seqK K) (pv 1) pe_int (fun _ _ => rfl)) (pe_ix (ix_seqK K) (pv 2) pe_int (fun _ _ => rfl)) (nomark _)) pa_nil))))))))), ?_⟩)
  · obtain ⟨l, x, _, _, rfl, _⟩ := h
    rfl
  · rintro ds r ⟨l, x, hl, hx, rfl, rfl⟩ Z vs M hd
    obtain ⟨v1, v2, v3, rfl, h1, h2, h3⟩ := hd.c3
    have s0 : Ev K Z (tOp (rIx K) (tVar 1) (tC (.int 0))) (start N_hosts_fit [v1, v2, v3]) M (.int x.bit) := ev_op (rv_ixT (atI_nat (j := 0) rfl)) (ev_var rfl h2) ev_int
    have s1 : Ev K Z (tOp (rIx K) (tVar 1) (tC (.int 1))) (start N_hosts_fit [v1, v2, v3]) M (.int x.heard) := ev_op (rv_ixT (atI_nat (j := 1) rfl)) (ev_var rfl h2) ev_int
    have r0 : Ev K Z (tOp (rIx K) (tVar 2) (tC (.int 0))) (start N_hosts_fit [v1, v2, v3]) M (.int x.other) := ev_op (rv_ixT (atI_nat (j := 0) rfl)) (ev_var rfl h3) ev_int
    have r1 : Ev K Z (tOp (rIx K) (tVar 2) (tC (.int 1))) (start N_hosts_fit [v1, v2, v3]) M (lotD x.lot) := ev_op (rv_ixT (atI_nat (j := 1) rfl)) (ev_var rfl h3) ev_int
    have r2 : Ev K Z (tOp (rIx K) (tVar 2) (tC (.int 2))) (start N_hosts_fit [v1, v2, v3]) M (.bool x.done) := ev_op (rv_ixT (atI_nat (j := 2) rfl)) (ev_var rfl h3) ev_int
    have l3 : Ev K Z (tOp (rIx K) (tVar 0) (tC (.int 3))) (start N_hosts_fit [v1, v2, v3]) M (.int l.q) := ev_op (rv_ixT (atI_nat (j := 3) rfl)) (ev_var rfl h1) ev_int
    refine bd_when (b := false) (et_or (b := false) (c := false) (et_is (et_not (et_val (ev_isi (kit_tuple _) (ev_var rfl h2)))) rfl) (fun _ => et_or (b := false) (c := false)
      (et_is (et_cmp (ev_op (rv_ne (sh_int _) (sh_int _)) (ev_cb rc_lenT (ea_cons (ev_var rfl h2) ea_nil)) ev_int)) (by rw [eqv_int]; rfl))
      (fun _ => et_or (b := false) (c := false) (et_is (et_not (et_val (ev_isi (kit_tuple _) (ev_var rfl h3)))) rfl)
        (fun _ => et_is (et_cmp (ev_op (rv_ne (sh_int _) (sh_int _)) (ev_cb rc_lenT (ea_cons (ev_var rfl h3) ea_nil)) ev_int)) (by rw [eqv_int]; rfl))))) (fun e => by cases e) (fun _ => ?_)
    refine bd_when (b := false) (et_or (b := false) (c := false) (et_is (et_not (et_val (b := true) (ev_call (R := R_bit_fits) ⟨.int x.bit, rfl, by rw [btw_in hx.b0 hx.b1]⟩ (ea_cons s0 ea_nil)))) rfl)
      (fun _ => et_is (et_not (et_val (b := true) (ev_call (R := R_is_between) ⟨.int x.heard, 0, some (l.q - 1), rfl, by rw [btw_in hx.h0 hx.h1]⟩ (ea_cons s1 (ea_cons ev_int (ea_cons (ev_op rv_I0 l3 ev_int) ea_nil)))))) rfl)) (fun e => by cases e) (fun _ => ?_)
    refine bd_when (b := false) (et_or (b := false) (c := false) (et_is (et_not (et_val (b := true) (ev_call (R := R_bit_fits) ⟨.int x.other, rfl, by rw [btw_in hx.o0 hx.o1]⟩ (ea_cons r0 ea_nil)))) rfl)
      (fun _ => et_is (et_not (et_val (ev_isi (kit_bool _) r2))) rfl)) (fun e => by cases e) (fun _ => ?_)
    exact bd_ret (ev_call (R := R_lot_fits) ⟨l, x.bit == x.other, x.lot, hl, hx.lt, rfl, rfl⟩ (ea_cons (ev_var rfl h1) (ea_cons r1 (ea_cons (ev_eq (ev_op (rv_eq (sh_int _) (sh_int _)) s0 r0) (by rw [eqv_int])) ea_nil))))
def R_contents_fit : List PyData → PyData → Prop := fun ds r => ∃ (l : Lnk) (x : Cts), l.ok ∧ x.ok l ∧ ds = [l.D, x.D] ∧ r = .bool true
theorem ok_contents_fit {f f1 f2 : Addr} {fd fd1 fd2 : FuncData} (F : Fun K "contents_fit" "contents_fit" s_contents_fit f fd) (T : Txt mg) (C_hosts_fit : Cal P w K mg base 4 "hosts_fit" ps_hosts_fit f1 fd1 (spR K R_hosts_fit))
    (C_counts_fit : Cal P w K mg base 3 "counts_fit" ps_counts_fit f2 fd2 (spR K R_counts_fit)) :
    FnOk P w K mg base CX0 5 f fd ps_contents_fit (spR K R_contents_fit) := by
  refine fn_pure F sc_contents_fit (fun ds r h => ?_) (fun cdv A outer s H E hr => ⟨_, (pss_cons (ps_if (PW.pt (pw_or (pt_not (pt_val (pe_callB (call_isiX K) (by rfl) T.m_isinstance bt_isinstance (pa_cons (pv 1) (pa_cons (pe_bltn (v := .ty "tuple") (by rfl) T.m_tuple bt_tuple rfl) pa_nil))))) (pw_or (pt_cmpR (op_neD hr.units) (pe_callB call_len_seq (by rfl) T.m_len bt_len (pa_cons (pv 1) pa_nil)) pe_int (nomark _)) (pw_or1 (pt_not (pt_val (pe_call C_hosts_fit.ok (hr.mono (by decide)) (by rfl) C_hosts_fit.g C_hosts_fit.kp C_hosts_fit.b .nil pass0 (pa_cons (pv 0) (pa_cons (pe_ix (ix_seqK K) (pv 1) pe_int (fun _ _ => rfl)) (pa_cons (pe_ix (ix_seqK K) (pv 1) pe_int (fun _ _ => rfl)) pa_nil)))))))))) (pss_one (ps_ret pe_bl)) pss_nil)
      (pss_one (ps_ret (pe_and (pe_call C_counts_fit.ok (hr.mono (by decide)) (by rfl) C_counts_fit.g C_counts_fit.kp C_counts_fit.b .nil pass0 (pa_cons (pe_ix (ix_seqK K) (pv 1) pe_int (fun _ _ => rfl)) (pa_cons pe_int (pa_cons (pe_ix (ix_seqK K) (pv 0) pe_int (fun _ _ => rfl)) pa_nil)))) (pe_one (pe_call C_counts_fit.ok (hr.mono (by decide)) (by rfl) C_counts_fit.g C_counts_fit.kp C_counts_fit.b .nil pass0 (pa_cons (pe_ix (ix_seqK K) (pv 1) pe_int (fun _ _ => rfl)) (pa_cons pe_int (pa_cons (pe_ix (ix_seqK K) (pv 0) pe_int (fun _ _ => rfl)) pa_nil))))))))), ?_⟩)
  · obtain ⟨l, x, _, _, rfl, _⟩ := h
    rfl
  · rintro ds r ⟨l, x, hl, hx, rfl, rfl⟩ Z vs M hd
    obtain ⟨v1, v2, rfl, h1, h2⟩ := hd.c2
    have s0 : Ev K Z (tOp (rIx K) (tVar 1) (tC (.int 0))) (start N_contents_fit [v1, v2]) M x.S := ev_op (rv_ixT (atI_nat (j := 0) rfl)) (ev_var rfl h2) ev_int
    have s1 : Ev K Z (tOp (rIx K) (tVar 1) (tC (.int 1))) (start N_contents_fit [v1, v2]) M x.R := ev_op (rv_ixT (atI_nat (j := 1) rfl)) (ev_var rfl h2) ev_int
    have s2 : Ev K Z (tOp (rIx K) (tVar 1) (tC (.int 2))) (start N_contents_fit [v1, v2]) M x.T := ev_op (rv_ixT (atI_nat (j := 2) rfl)) (ev_var rfl h2) ev_int
    have s3 : Ev K Z (tOp (rIx K) (tVar 1) (tC (.int 3))) (start N_contents_fit [v1, v2]) M x.B := ev_op (rv_ixT (atI_nat (j := 3) rfl)) (ev_var rfl h2) ev_int
    have l0 : Ev K Z (tOp (rIx K) (tVar 0) (tC (.int 0))) (start N_contents_fit [v1, v2]) M (.int l.c) := ev_op (rv_ixT (atI_nat (j := 0) rfl)) (ev_var rfl h1) ev_int
    have l1 : Ev K Z (tOp (rIx K) (tVar 0) (tC (.int 1))) (start N_contents_fit [v1, v2]) M (.int l.d) := ev_op (rv_ixT (atI_nat (j := 1) rfl)) (ev_var rfl h1) ev_int
    refine bd_when (b := false) (et_or (b := false) (c := false) (et_is (et_not (et_val (ev_isi (kit_tuple _) (ev_var rfl h2)))) rfl) (fun _ => et_or (b := false) (c := false)
      (et_is (et_cmp (ev_op (rv_ne (sh_int _) (sh_int _)) (ev_cb rc_lenT (ea_cons (ev_var rfl h2) ea_nil)) ev_int)) (by rw [eqv_int]; rfl))
      (fun _ => et_is (et_not (et_val (b := true) (ev_call (R := R_hosts_fit) ⟨l, x, hl, hx, rfl, rfl⟩ (ea_cons (ev_var rfl h1) (ea_cons s0 (ea_cons s1 ea_nil)))))) rfl))) (fun e => by cases e) (fun _ => ?_)
    have hn0 := hx.n0
    have hz0 := hx.z0
    have hs0 := hx.s0
    have hl0 := hx.l0
    have hu0 := hx.u0
    have ht1 := hx.t1
    have hu1 := hx.u1
    refine bd_ret (ev_eq (ev_and (b := true) (c := true) (ev_call (R := R_counts_fit) ⟨[x.nw, x.zs, x.os], l.c, ?_, ?_, by simp, rfl, rfl⟩ (ea_cons s2 (ea_cons ev_int (ea_cons l0 ea_nil))))
      (fun _ => ev_call (R := R_counts_fit) ⟨[x.lo, x.hi], l.d, ?_, ?_, by simp, rfl, rfl⟩ (ea_cons s3 (ea_cons ev_int (ea_cons l1 ea_nil))))) rfl)
    · intro n hn
      simp only [List.mem_cons, List.not_mem_nil, or_false] at hn
      omega
    · simp only [List.sum_cons, List.sum_nil]
      omega
    · intro n hn
      simp only [List.mem_cons, List.not_mem_nil, or_false] at hn
      omega
    · simp only [List.sum_cons, List.sum_nil]
      omega
def R_check_contents : List PyData → PyData → Prop := fun ds r => ∃ (l : Lnk) (x : Cts), l.ok ∧ x.ok l ∧ ds = [l.D, x.D] ∧ r = .none
theorem ok_check_contents {f f1 f2 : Addr} {fd fd1 fd2 : FuncData} (F : Fun K "check_contents" "check_contents" s_check_contents f fd) (C_check_link : Cal P w K mg base 4 "check_link" ps_check_link f1 fd1 (spR K R_check_link))
    (C_contents_fit : Cal P w K mg base 5 "contents_fit" ps_contents_fit f2 fd2 (spR K R_contents_fit)) :
    FnOk P w K mg base CX0 6 f fd ps_check_contents (spR K R_check_contents) := by
  refine fn_none F sc_check_contents (fun ds r h => ?_) (fun cdv A outer s H E hr => ⟨_, (pss_cons (ps_expr (pe_call C_check_link.ok (hr.mono (by decide)) (by rfl) C_check_link.g C_check_link.kp C_check_link.b .nil pass0 (pa_cons (pv 0) pa_nil)))
      (pss_one (ps_if (pt_not (pt_val (pe_call C_contents_fit.ok (hr.mono (by decide)) (by rfl) C_contents_fit.g C_contents_fit.kp C_contents_fit.b .nil pass0 (pa_cons (pv 0) (pa_cons (pv 1) pa_nil))))) (pss_one ps_never) pss_nil))), ?_⟩)
  · obtain ⟨l, x, _, _, rfl, rfl⟩ := h
    exact ⟨rfl, rfl⟩
  · rintro ds r ⟨l, x, hl, hx, rfl, rfl⟩ Z vs M hd
    obtain ⟨v1, v2, rfl, h1, h2⟩ := hd.c2
    refine bn_seq (bn_drop (ev_call (R := R_check_link) (r := .none) ⟨l, hl, rfl, rfl⟩ (ea_cons (ev_var rfl h1) ea_nil))) ?_
    exact bn_skip (et_is (et_not (et_val (b := true) (ev_call (R := R_contents_fit) ⟨l, x, hl, hx, rfl, rfl⟩ (ea_cons (ev_var rfl h1) (ea_cons (ev_var rfl h2) ea_nil))))) rfl)

/-! ### old_of, answers_of -/
def R_old_of : List PyData → PyData → Prop := fun ds r => ∃ (x : Cts) (b : Bool), ds = [x.D, .int (if b then 1 else 0)] ∧ r = .int (if b then x.os else x.zs)
theorem ok_old_of {f : Addr} {fd : FuncData} (F : Fun K "old_of" "old_of" s_old_of f fd) : FnOk P w K mg base CX0 1 f fd ps_old_of (spR K R_old_of) := by
  refine fn_pure F sc_old_of (fun ds r h => ?_) (fun cdv A outer s H E hr => ⟨_, (pss_one (ps_ret (pe_ix (ix_seqK K) (pe_ix (ix_seqK K) (pv 0) pe_int (fun _ _ => rfl)) (pe_op op_add pe_int (pv 1)) (fun _ _ => rfl)))), ?_⟩)
  · obtain ⟨x, b, rfl, _⟩ := h
    rfl
  · rintro ds r ⟨x, b, rfl, rfl⟩ Z vs M hd
    obtain ⟨v1, v2, rfl, h1, h2⟩ := hd.c2
    refine bd_ret (ev_op (rv_ixT (i := 1 + (if b then 1 else 0)) (ds := [.int x.nw, .int x.zs, .int x.os]) ?_) (ev_op (rv_ixT (atI_nat (j := 2) rfl)) (ev_var rfl h1) ev_int) (ev_op rv_I0 ev_int (ev_var rfl h2)))
    cases b with
    | true => exact atI_nat (j := 2) rfl
    | false => exact atI_nat (j := 1) rfl
def R_answers_of : List PyData → PyData → Prop := fun ds r => ∃ (x : Cts) (b : Bool), ds = [x.D, .int (if b then 1 else 0)] ∧ r = .int (if b then x.hi else x.lo)
theorem ok_answers_of {f : Addr} {fd : FuncData} (F : Fun K "answers_of" "answers_of" s_answers_of f fd) : FnOk P w K mg base CX0 1 f fd ps_answers_of (spR K R_answers_of) := by
  refine fn_pure F sc_answers_of (fun ds r h => ?_) (fun cdv A outer s H E hr => ⟨_, (pss_one (ps_ret (pe_ix (ix_seqK K) (pe_ix (ix_seqK K) (pv 0) pe_int (fun _ _ => rfl)) (pv 1) (fun _ _ => rfl)))), ?_⟩)
  · obtain ⟨x, b, rfl, _⟩ := h
    rfl
  · rintro ds r ⟨x, b, rfl, rfl⟩ Z vs M hd
    obtain ⟨v1, v2, rfl, h1, h2⟩ := hd.c2
    refine bd_ret (ev_op (rv_ixT (i := (if b then 1 else 0)) (ds := [.int x.lo, .int x.hi]) ?_) (ev_op (rv_ixT (atI_nat (j := 3) rfl)) (ev_var rfl h1) ev_int) (ev_var rfl h2))
    cases b with
    | true => exact atI_nat (j := 1) rfl
    | false => exact atI_nat (j := 0) rfl
end
end Hw

set_option maxHeartbeats 4000000
/-! HwF: the program's mendings. -/
namespace Hw
open PySem PySem.Spec L2
section
variable {K : PySem.W.Frag} {Z : Wld} {σ : St} {M N H : Hp} {te : TE} {tt : TT} {t u : TS} {c : TT} {v : V} {d e r : PyData} {ds es : List PyData} {ta : TA} {b : Bool} {i j : Nat} {g : TG}
theorem Fl.new {n : Nat} {D T : Addr} {H : Hp} {o : HO} (p : Fl K Z n N D es H) (hT : H T = none) : Fl K Z n N D es (upd H T o) := by
  obtain ⟨s, k, acc, hacc, ha⟩ := p
  exact ⟨s.trans (k.same_new hT), k.new hT, acc, by rw [upd_ne (ne_of_none hacc hT)]; exact hacc, ha⟩
/-- [at for at, most in enumerate(t) if ..] -/
theorem ev_filterE (g : PyData → Bool) (h : EvA K Z ta σ M [.tuple ds]) (hw : ∀ x y, wipe (((wipe σ [i, j]).set i (some x)).set j (some y)) [i, j] = wipe σ [i, j])
    (hi : ∀ x y, (((wipe σ [i, j]).set i (some x)).set j (some y))[i]? = some (some x)) (hsz : ds.length ≤ 100000)
    (ht : ∀ (m : Nat) (d : PyData) (x : V) (N : Hp), ds[m]? = some d → Same M N → Dt K N x d → EvT Z tt (((wipe σ [i, j]).set i (some (.int (m : Int)))).set j (some x)) N (g (.int (m : Int)))) :
    Ev K Z (tLc (iEnumT K ta) (gTup K 2 (gCons (gName i) (gCons (gName j) gNil))) tt (tVar i) [i, j]) σ M (.list (((List.range ds.length).map fun (m : Nat) => PyData.int (m : Int)).filter g)) := fun n H s k Q q =>
  h n H s k _ fun vs H1 s1 k1 d1 => by
    obtain ⟨v, rfl, e1⟩ := d1.c1
    obtain ⟨a, xs, rfl, hq, hs⟩ := e1.tupE
    refine ⟨a, xs, rfl, same_t vis_same hq, fun D hD => ?_⟩
    have hZ := k1.free hD
    have hN : Z.vis H1 D = none := vis_none hD
    have hlen := hs.length
    refine ⟨fun m c H' => c = xs.length - m ∧ m ≤ xs.length ∧ Fl K Z n (Z.vis H1) D ((((List.range ds.length).map fun (m : Nat) => PyData.int (m : Int)).take m).filter g) H', ⟨xs.length, rfl, Nat.zero_le _, Fl.start k1 hD⟩, ?_⟩
    rintro m c H' ⟨rfl, hm, p⟩
    have hq' : SqT K H' a xs := same_t (p.same.trans vis_same) hq
    by_cases hlt : m < xs.length
    · refine .inr ⟨⟨xs, xs[m], hq', List.getElem?_eq_getElem hlt⟩, fun H' => Fl K Z n (Z.vis H1) D ((((List.range ds.length).map fun (m : Nat) => PyData.int (m : Int)).take (m + 1)).filter g) H', fun H2 p' => ⟨xs.length - (m + 1), by omega, rfl, hlt, p'⟩, fun y H2 hy => ?_⟩
      obtain ⟨T, x, rfl, hT, rfl, hx⟩ := hy
      have hx' := hx xs hq'
      obtain ⟨d, hd, dx⟩ := hs.getV hx'
      refine ⟨T, [.int (m : Nat), x], rfl, .of upd_same, rfl, _, _, rfl, _, _, rfl, rfl, ?_⟩
      refine ⟨hw _ _, ?_⟩
      have hb : ((List.range ds.length).map fun (m : Nat) => PyData.int (m : Int))[m]? = some (.int (m : Int)) := by
        rw [List.getElem?_map, List.getElem?_range (by omega)]
        rfl
      exact (p.new hT).turn hN hZ (.int _) hb (by simpa using hsz) (ht m d x _ hd (s.trans s1) dx) (fun _ _ _ _ q => ⟨_, hi _ _, q⟩)
    · have e : m = xs.length := by omega
      subst e
      refine .inl ⟨⟨xs, hq', rfl⟩, ?_⟩
      rw [List.take_of_length_le (by simp [hlen])] at p
      exact q _ H' (s1.trans p.same) p.ok (p.fin hZ)
/-- a target that takes data apart -/
theorem bd_un (h : Ev K Z te σ M d) (k : ∀ v N, Same M N → Dt K N v d → ∃ σ', (∀ H Q, Same N (Z.vis H) → Q σ' H → g v σ H Q) ∧ Bd K Z u σ' N r) : Bd K Z (tSeq (tAsg te g) u) σ M r := fun n H s k1 D q =>
  h n H s k1 _ fun v H1 s1 k1 d1 => by
    obtain ⟨σ', hg, hb⟩ := k v (Z.vis H1) (s.trans s1) d1
    refine hg H1 _ (Same.refl _) ?_
    exact hb n H1 (Same.refl _) k1 D fun w H2 s2 k2 d2 => q w H2 (s1.trans s2) k2 d2
theorem bd_par (h : EvA K Z ta σ M [d, e]) (k : ∀ v w N, Same M N → Dt K N v d → Dt K N w e → Bd K Z u ((σ.set i (some v)).set j (some w)) N r) : Bd K Z (tSeq (tPar i j ta) u) σ M r := fun n H s k1 D q =>
  h n H s k1 _ fun vs H1 s1 k1 d1 => by
    obtain ⟨v, w, rfl, dv, dw⟩ := d1.c2
    exact ⟨v, w, rfl, k v w _ (s.trans s1) dv dw n H1 (Same.refl _) k1 D fun w H2 s2 k2 d2 => q w H2 (s1.trans s2) k2 d2⟩
/-- if c: x = e -/
theorem bd_ifAsg (h : EvT Z c σ M b) (h1 : b = true → Ev K Z te σ M d) (h2 : b = false → ∃ v, σ[i]? = some (some v) ∧ Dt K M v d) (k : ∀ v N, Same M N → Dt K N v d → Bd K Z u (σ.set i (some v)) N r) :
    Bd K Z (tSeq (tIfS c (tAsg te (gName i)) tNext) u) σ M r := fun n H s k1 D q => h n H s k1 _ fun H1 s1 k1 => by
  cases b with
  | true =>
    show te σ H1 _
    exact h1 rfl n H1 (s.trans s1) k1 _ fun v H2 s2 k2 d2 => k v _ ((s.trans s1).trans s2) d2 n H2 (Same.refl _) k2 D fun w H3 s3 k3 d3 => q w H3 ((s1.trans s2).trans s3) k3 d3
  | false =>
    obtain ⟨v, hv, dv⟩ := h2 rfl
    have e : σ.set i (some v) = σ := by
      obtain ⟨hl, he⟩ := List.getElem?_eq_some_iff.mp hv
      rw [← he]
      exact List.set_getElem_self hl
    have hb := k v _ (s.trans s1) (dv.mono (s.trans s1))
    rw [e] at hb
    exact hb n H1 (Same.refl _) k1 D fun w H3 s3 k3 d3 => q w H3 (s1.trans s3) k3 d3
end

/-! ### good values -/
structure Gd (d : PyData) : Prop where
  can : d.canLay0 = true
  dep : d.depth ≤ 20
  wt : d.weight ≤ 100000
def Gv (d : PyData) : Prop := Gd d ∨ d = .dict []
theorem wt_len : ∀ xs : List PyData, xs.length ≤ PyData.weightAll xs
  | [] => Nat.zero_le _
  | x :: xs => by
    have h := wt_len xs
    simp only [List.length_cons, PyData.weightAll]
    omega
theorem mem_wt : ∀ {xs : List PyData} {x : PyData}, x ∈ xs → x.weight ≤ PyData.weightAll xs ∧ x.depth ≤ PyData.depthAll xs
  | [], _, h => absurd h List.not_mem_nil
  | y :: xs, x, h => by
    simp only [PyData.weightAll, PyData.depthAll]
    rcases List.mem_cons.mp h with rfl | h
    · omega
    · have := mem_wt h
      omega
theorem mem_can : ∀ {xs : List PyData} {x : PyData}, PyData.canLayAll0 xs = true → x ∈ xs → x.canLay0 = true
  | [], _, _, h => absurd h List.not_mem_nil
  | y :: xs, x, c, h => by
    have c' := Bool.and_eq_true_iff.mp (show (y.canLay0 && PyData.canLayAll0 xs) = true by simpa only [PyData.canLayAll0] using c)
    rcases List.mem_cons.mp h with rfl | h
    · exact c'.1
    · exact mem_can c'.2 h
theorem Gd.memL {xs : List PyData} {x : PyData} (g : Gd (.list xs)) (h : x ∈ xs) : Gd x := by
  obtain ⟨g1, g2, g3⟩ := g
  have h1 := mem_wt h
  refine ⟨mem_can (by simpa only [PyData.canLay0] using g1) h, ?_, ?_⟩
  · simp only [PyData.depth] at g2
    omega
  · simp only [PyData.weight] at g3
    omega
theorem Gd.memT {xs : List PyData} {x : PyData} (g : Gd (.tuple xs)) (h : x ∈ xs) : Gd x := by
  obtain ⟨g1, g2, g3⟩ := g
  have h1 := mem_wt h
  refine ⟨mem_can (by simpa only [PyData.canLay0] using g1) h, ?_, ?_⟩
  · simp only [PyData.depth] at g2
    omega
  · simp only [PyData.weight] at g3
    omega
theorem Gd.sh {d : PyData} (g : Gd d) : SeqAt.shaped d = true := sh_of g.can (Nat.le_trans g.dep (by decide))
theorem Gd.lenL {xs : List PyData} (g : Gd (.list xs)) : xs.length ≤ 100000 := by
  have h := g.wt
  simp only [PyData.weight] at h
  exact Nat.le_trans (wt_len xs) h
theorem Gd.toT {xs : List PyData} (g : Gd (.list xs)) : Gd (.tuple xs) := by
  obtain ⟨g1, g2, g3⟩ := g
  exact ⟨by simpa only [PyData.canLay0] using g1, by simpa only [PyData.depth] using g2, by simpa only [PyData.weight] using g3⟩
theorem gd_sub : ∀ {xs : List PyData} (g : PyData → Bool), PyData.canLayAll0 xs = true → PyData.canLayAll0 (xs.filter g) = true ∧ PyData.depthAll (xs.filter g) ≤ PyData.depthAll xs ∧ PyData.weightAll (xs.filter g) ≤ PyData.weightAll xs
  | [], _, _ => by simp [PyData.canLayAll0]
  | x :: xs, g, c => by
    have c' := Bool.and_eq_true_iff.mp (show (x.canLay0 && PyData.canLayAll0 xs) = true by simpa only [PyData.canLayAll0] using c)
    obtain ⟨h1, h2, h3⟩ := gd_sub g c'.2
    rw [List.filter_cons]
    split
    · simp only [PyData.canLayAll0, PyData.depthAll, PyData.weightAll, c'.1, h1, Bool.true_and]
      exact ⟨trivial, by omega, by omega⟩
    · simp only [PyData.depthAll, PyData.weightAll]
      exact ⟨h1, by omega, by omega⟩
theorem Gd.filter {xs : List PyData} (g : Gd (.list xs)) (f : PyData → Bool) : Gd (.list (xs.filter f)) := by
  obtain ⟨g1, g2, g3⟩ := g
  obtain ⟨h1, h2, h3⟩ := gd_sub f (by simpa only [PyData.canLay0] using g1)
  simp only [PyData.depth] at g2
  simp only [PyData.weight] at g3
  exact ⟨by simpa only [PyData.canLay0] using h1, by simp only [PyData.depth]; omega, by simp only [PyData.weight]; omega⟩
theorem filter_empty (xs : List PyData) (f : PyData → Bool) : (xs.filter fun d => !f d).isEmpty = xs.all f := by
  induction xs with
  | nil => rfl
  | cons x xs ih =>
    rw [List.filter_cons, List.all_cons]
    cases f x with
    | true => simpa using ih
    | false => rfl

abbrev s_words_fit : Stmt := topS 20
abbrev N_words_fit : List Str := ["value", "item"]
abbrev ps_words_fit : List Str := ["value"]
theorem sc_words_fit : FnScope N_words_fit ps_words_fit (defScope s_words_fit) := ⟨rfl, rfl, rfl, by decide +kernel, rfl, by decide +kernel, by decide +kernel⟩
abbrev s_takable : Stmt := topS 21
abbrev N_takable : List Str := ["contents"]
abbrev ps_takable : List Str := ["contents"]
theorem sc_takable : FnScope N_takable ps_takable (defScope s_takable) := ⟨rfl, rfl, rfl, by decide +kernel, rfl, by decide +kernel, by decide +kernel⟩
abbrev s_taking_fits : Stmt := topS 22
abbrev N_taking_fits : List Str := ["contents", "value", "at", "most"]
abbrev ps_taking_fits : List Str := ["contents", "value"]
theorem sc_taking_fits : FnScope N_taking_fits ps_taking_fits (defScope s_taking_fits) := ⟨rfl, rfl, rfl, by decide +kernel, rfl, by decide +kernel, by decide +kernel⟩
abbrev s_mending_fits : Stmt := topS 23
abbrev N_mending_fits : List Str := ["contents", "value"]
abbrev ps_mending_fits : List Str := ["contents", "value"]
theorem sc_mending_fits : FnScope N_mending_fits ps_mending_fits (defScope s_mending_fits) := ⟨rfl, rfl, rfl, by decide +kernel, rfl, by decide +kernel, by decide +kernel⟩
abbrev s_mended_in : Stmt := topS 24
abbrev N_mended_in : List Str := ["contents", "mending", "other", "words", "taking", "lot", "there", "back", "bit", "heard", "done", "new", "zeros", "ones", "low", "high"]
abbrev ps_mended_in : List Str := ["contents", "mending"]
theorem sc_mended_in : FnScope N_mended_in ps_mended_in (defScope s_mended_in) := ⟨rfl, rfl, rfl, by decide +kernel, rfl, by decide +kernel, by decide +kernel⟩
abbrev s_cost_in : Stmt := topS 25
abbrev N_cost_in : List Str := ["mending"]
abbrev ps_cost_in : List Str := ["mending"]
theorem sc_cost_in : FnScope N_cost_in ps_cost_in (defScope s_cost_in) := ⟨rfl, rfl, rfl, by decide +kernel, rfl, by decide +kernel, by decide +kernel⟩
abbrev s_is_mending : Stmt := topS 26
abbrev N_is_mending : List Str := ["link", "contents", "value"]
abbrev ps_is_mending : List Str := ["link", "contents", "value"]
theorem sc_is_mending : FnScope N_is_mending ps_is_mending (defScope s_is_mending) := ⟨rfl, rfl, rfl, by decide +kernel, rfl, by decide +kernel, by decide +kernel⟩
abbrev s_check_mending : Stmt := topS 27
abbrev N_check_mending : List Str := ["link", "contents", "mending"]
abbrev ps_check_mending : List Str := ["link", "contents", "mending"]
theorem sc_check_mending : FnScope N_check_mending ps_check_mending (defScope s_check_mending) := ⟨rfl, rfl, rfl, by decide +kernel, rfl, by decide +kernel, by decide +kernel⟩
abbrev s_mended : Stmt := topS 28
abbrev N_mended : List Str := ["link", "contents", "mending"]
abbrev ps_mended : List Str := ["link", "contents", "mending"]
theorem sc_mended : FnScope N_mended ps_mended (defScope s_mended) := ⟨rfl, rfl, rfl, by decide +kernel, rfl, by decide +kernel, by decide +kernel⟩
abbrev s_cost_of : Stmt := topS 29
abbrev N_cost_of : List Str := ["link", "contents", "mending"]
abbrev ps_cost_of : List Str := ["link", "contents", "mending"]
theorem sc_cost_of : FnScope N_cost_of ps_cost_of (defScope s_cost_of) := ⟨rfl, rfl, rfl, by decide +kernel, rfl, by decide +kernel, by decide +kernel⟩
def WL : List PyData := [.tuple [], .tuple [.str "clear"], .tuple [.str "clear", .str "forget"], .tuple [.str "clear", .str "forget", .str "turn"], .tuple [.str "clear", .str "turn"], .tuple [.str "forget"],
  .tuple [.str "forget", .str "turn"], .tuple [.str "turn"]]
theorem sh_WL : SeqAt.shaped (.list WL) = true := by decide +kernel
def wfit : PyData → Bool
  | .list xs => xs.all isS && WL.any fun z => PyData.eqv z (.tuple xs)
  | _ => false
def tfit (x : Cts) : PyData → Bool
  | .tuple [a, b, c, d] => btw a 0 (some x.zs) && (btw b 0 (some x.os) && (btw c 0 (some x.lo) && btw d 0 (some x.hi)))
  | _ => false
def mfit (x : Cts) : PyData → Bool
  | .tuple [w, t] => wfit w && tfit x t
  | _ => false
section
variable {P : Program} {w : World} {K : PySem.W.Frag} {mg : Str → Option Value} {base : Heap}
def R_words_fit : List PyData → PyData → Prop := fun ds r => ∃ d, Gv d ∧ ds = [d] ∧ r = .bool (wfit d)
theorem ok_words_fit {f aW : Addr} {fd : FuncData} (F : Fun K "words_fit" "words_fit" s_words_fit f fd) (T : Txt mg) (gWL : mg "WORD_LISTS" = some (.ref aW)) (dWL : ∀ M, Dt K M (.ref aW) (.list WL)) :
    FnOk P w K mg base CX0 1 f fd ps_words_fit (spR K R_words_fit) := by
  refine fn_pure F sc_words_fit (fun ds r h => ?_) (fun cdv A outer s H E hr => ⟨_, (pss_cons (ps_if (PW.pt (pw_or (pt_not (pt_val (pe_callB (call_isiX K) (by rfl) T.m_isinstance bt_isinstance (pa_cons (pv 0) (pa_cons (pe_bltn (v := .ty "list") (by rfl) T.m_list bt_list rfl) pa_nil))))) (pw_or1 (pt_cmpR (op_neD hr.units) (pe_lc (own := [("item", 1)]) (g := gName 1) rfl sc_words_fit.nd (pi_list (pv 0)) (blkOk_by (N := N_words_fit) (sc := defScope s_words_fit) (by decide +kernel)) (fun _ _ _ _ _ => pg_name (i := 1) sc_words_fit.nd rfl (Or.inl rfl)) (fun _ _ _ _ _ => (pts_one (pt_not (pt_val (pe_callB (call_isiX K) (by rfl) T.m_isinstance bt_isinstance (pa_cons (pv 1) (pa_cons (pe_bltn (v := .ty "str") (by rfl) T.m_str bt_str rfl) pa_nil))))))) (fun _ _ _ _ _ => (pv 1))) (pe_lst pa_nil) (nomark _))))) (pss_one (ps_ret pe_bl)) pss_nil)
      (pss_one (ps_ret (pe_cmpR (op_inD (hu65 hr)) (pe_callTy call_tuple_of (by rfl) T.m_tuple bt_tuple (pa_cons (pv 0) pa_nil)) (pe_glob (v := .ref aW) (by rfl) gWL rfl) (by rfl))))), ?_⟩)
  · obtain ⟨d, _, rfl, _⟩ := h
    rfl
  · rintro ds r ⟨d, hd, rfl, rfl⟩ Z vs M hds
    obtain ⟨v1, rfl, h1⟩ := hds.c1
    have no : isL d = false → wfit d = false := fun e => by cases d <;> first | rfl | cases e
    cases hL : isL d with
    | false =>
      refine bd_when (b := true) (et_or (c := true) (b := true) (et_is (et_not (et_val (ev_isi (kit_list _) (ev_var rfl h1)))) (by rw [hL]; rfl)) (fun e => by cases e)) (fun _ => bd_ret (ev_eq ev_bl (by rw [no hL]))) (fun e => by cases e)
    | true =>
      cases d with
      | list xs =>
        have g : Gd (.list xs) := by
          rcases hd with g | g
          · exact g
          · cases g
        refine bd_when (b := !xs.all isS) (et_is (et_or (b := false) (et_is (et_not (et_val (ev_isi (kit_list _) (ev_var rfl h1)))) rfl) (fun _ => et_cmp (ev_op (rv_ne (g.filter _).sh sh_nil)
          (ev_filterL (fun d => !isS d) (ev_var rfl h1) (ltn rfl) g.lenL (fun d x N hm s hx => et_not (et_val (ev_isi (kit_str _) (ev_var rfl hx))))) (ev_lst ea_nil (by decide))))) ?_) (fun e => ?_) (fun e => ?_)
        · rw [eqv_nil, filter_empty]
          rfl
        · refine bd_ret (ev_eq ev_bl ?_)
          have e' : xs.all isS = false := by simpa using e
          show PyData.bool false = .bool (xs.all isS && _)
          rw [e']
          rfl
        · have e' : xs.all isS = true := by simpa using e
          refine bd_ret (ev_eq (ev_op (rv_in g.toT.sh sh_WL) (ev_cb rc_tupOf (ea_cons (ev_var rfl h1) ea_nil)) (ev_c dWL)) ?_)
          show _ = PyData.bool (xs.all isS && _)
          rw [e']
          rfl
      | _ => cases hL
def R_takable : List PyData → PyData → Prop := fun ds r => ∃ x : Cts, ds = [x.D] ∧ r = .tuple [.int x.zs, .int x.os, .int x.lo, .int x.hi]
theorem ok_takable {f f1 f2 : Addr} {fd fd1 fd2 : FuncData} (F : Fun K "takable" "takable" s_takable f fd) (C_old_of : Cal P w K mg base 1 "old_of" ps_old_of f1 fd1 (spR K R_old_of))
    (C_answers_of : Cal P w K mg base 1 "answers_of" ps_answers_of f2 fd2 (spR K R_answers_of)) : FnOk P w K mg base CX0 2 f fd ps_takable (spR K R_takable) := by
  refine fn_pure F sc_takable (fun ds r h => ?_) (fun cdv A outer s H E hr => ⟨_, (pss_one (ps_ret (pe_tup (pa_cons (pe_call C_old_of.ok (hr.mono (by decide)) (by rfl) C_old_of.g C_old_of.kp C_old_of.b .nil pass0 (pa_cons (pv 0) (pa_cons pe_int pa_nil))) (pa_cons (pe_call C_old_of.ok (hr.mono (by decide)) (by rfl) C_old_of.g C_old_of.kp C_old_of.b .nil pass0 (pa_cons (pv 0) (pa_cons pe_int pa_nil))) (pa_cons (pe_call C_answers_of.ok (hr.mono (by decide)) (by rfl) C_answers_of.g C_answers_of.kp C_answers_of.b .nil pass0 (pa_cons (pv 0) (pa_cons pe_int pa_nil))) (pa_cons (pe_call C_answers_of.ok (hr.mono (by decide)) (by rfl) C_answers_of.g C_answers_of.kp C_answers_of.b .nil pass0 (pa_cons (pv 0) (pa_cons pe_int pa_nil))) pa_nil))))))), ?_⟩)
  · obtain ⟨x, rfl, _⟩ := h
    rfl
  · rintro ds r ⟨x, rfl, rfl⟩ Z vs M hds
    obtain ⟨v1, rfl, h1⟩ := hds.c1
    exact bd_ret (ev_tup (ea_cons (ev_call (R := R_old_of) ⟨x, false, rfl, rfl⟩ (ea_cons (ev_var rfl h1) (ea_cons ev_int ea_nil))) (ea_cons (ev_call (R := R_old_of) ⟨x, true, rfl, rfl⟩ (ea_cons (ev_var rfl h1) (ea_cons ev_int ea_nil)))
      (ea_cons (ev_call (R := R_answers_of) ⟨x, false, rfl, rfl⟩ (ea_cons (ev_var rfl h1) (ea_cons ev_int ea_nil))) (ea_cons (ev_call (R := R_answers_of) ⟨x, true, rfl, rfl⟩ (ea_cons (ev_var rfl h1) (ea_cons ev_int ea_nil))) ea_nil)))) (by simp))
def R_taking_fits : List PyData → PyData → Prop := fun ds r => ∃ (x : Cts) (d : PyData), Gv d ∧ ds = [x.D, d] ∧ r = .bool (tfit x d)
theorem ok_taking_fits {f f1 f2 : Addr} {fd fd1 fd2 : FuncData} (F : Fun K "taking_fits" "taking_fits" s_taking_fits f fd) (T : Txt mg) (C_takable : Cal P w K mg base 2 "takable" ps_takable f1 fd1 (spR K R_takable))
    (C_is_between : Cal P w K mg base 2 "is_between" ps_is_between f2 fd2 (spR K R_is_between)) : FnOk P w K mg base CX0 3 f fd ps_taking_fits (spR K R_taking_fits) := by
  refine fn_pure F sc_taking_fits (fun ds r h => ?_) (fun cdv A outer s H E hr => ⟨_, (pss_cons (ps_if (PW.pt (pw_or (pt_not (pt_val (pe_callB (call_isiX K) (by rfl) T.m_isinstance bt_isinstance (pa_cons (pv 1) (pa_cons (pe_bltn (v := .ty "tuple") (by rfl) T.m_tuple bt_tuple rfl) pa_nil))))) (pw_or1 (pt_cmpR (op_neD hr.units) (pe_callB call_len_seq (by rfl) T.m_len bt_len (pa_cons (pv 1) pa_nil)) pe_int (nomark _))))) (pss_one (ps_ret pe_bl)) pss_nil)
      (pss_one (ps_ret (pe_cmpR (op_eqD hr.units) (pe_lc (own := [("at", 2), ("most", 3)]) (g := gTup K 2 (gCons (gName 2) (gCons (gName 3) gNil))) rfl sc_taking_fits.nd (pi_enumT (by rfl) T.m_enumerate (pa_cons (pe_call C_takable.ok (hr.mono (by decide)) (by rfl) C_takable.g C_takable.kp C_takable.b .nil pass0 (pa_cons (pv 0) pa_nil)) pa_nil)) (blkOk_by (N := N_taking_fits) (sc := defScope s_taking_fits) (by decide +kernel)) (fun _ _ _ _ _ => (pg_tup (by rfl) (pgs_cons (pg_name (i := 2) sc_taking_fits.nd rfl (Or.inl rfl)) (pgs_cons (pg_name (i := 3) sc_taking_fits.nd rfl (Or.inl rfl)) pgs_nil)))) (fun _ _ _ _ _ => (pts_one (pt_not (pt_val (pe_call C_is_between.ok (hr.mono (by decide)) (by rfl) C_is_between.g C_is_between.kp C_is_between.b .nil pass0 (pa_cons (pe_ix (ix_seqK K) (pv 1) (pv 2) (fun _ _ => rfl)) (pa_cons pe_int (pa_cons (pv 3) pa_nil)))))))) (fun _ _ _ _ _ => (pv 2))) (pe_lst pa_nil) (nomark _))))), ?_⟩)
  · obtain ⟨x, d, _, rfl, _⟩ := h
    rfl
  · rintro ds r ⟨x, d, hd, rfl, rfl⟩ Z vs M hds
    obtain ⟨v1, v2, rfl, h1, h2⟩ := hds.c2
    have no : isU d = false → tfit x d = false := fun e => by cases d <;> first | rfl | cases e
    cases hU : isU d with
    | false =>
      refine bd_when (b := true) (et_or (c := true) (b := true) (et_is (et_not (et_val (ev_isi (kit_tuple _) (ev_var rfl h2)))) (by rw [hU]; rfl)) (fun e => by cases e)) (fun _ => bd_ret (ev_eq ev_bl (by rw [no hU]))) (fun e => by cases e)
    | true =>
      cases d with
      | tuple xs =>
        refine bd_when (b := !((xs.length : Int) == 4)) (et_is (et_or (b := false) (et_is (et_not (et_val (ev_isi (kit_tuple _) (ev_var rfl h2)))) rfl) (fun _ => et_cmp (ev_op (rv_ne (sh_int _) (sh_int _)) (ev_cb rc_lenT (ea_cons (ev_var rfl h2) ea_nil)) ev_int)))
          (by rw [eqv_int]; rfl)) (fun e => ?_) (fun e => ?_)
        · refine bd_ret (ev_eq ev_bl ?_)
          match xs, e with
          | [], _ => rfl
          | [_], _ => rfl
          | [_, _], _ => rfl
          | [_, _, _], _ => rfl
          | [_, _, _, _], e => simp at e
          | _ :: _ :: _ :: _ :: _ :: _, _ => rfl
        · match xs, e with
          | [], e => simp at e
          | [_], e => simp at e
          | [_, _], e => simp at e
          | [_, _, _], e => simp at e
          | _ :: _ :: _ :: _ :: _ :: r, e => simp at e; omega
          | [a, b, c, d], _ =>
            have key : ∀ (m : Nat) (q : PyData), ([.int x.zs, .int x.os, .int x.lo, .int x.hi] : List PyData)[m]? = some q → ∃ (y : PyData) (h : Int), ([a, b, c, d] : List PyData)[m]? = some y ∧ q = .int h ∧
                (match (m : Int) with | 0 => btw a 0 (some x.zs) | 1 => btw b 0 (some x.os) | 2 => btw c 0 (some x.lo) | 3 => btw d 0 (some x.hi) | _ => false) = btw y 0 (some h) := fun m q e => by
              match m, e with
              | 0, e => cases e; exact ⟨_, _, rfl, rfl, rfl⟩
              | 1, e => cases e; exact ⟨_, _, rfl, rfl, rfl⟩
              | 2, e => cases e; exact ⟨_, _, rfl, rfl, rfl⟩
              | 3, e => cases e; exact ⟨_, _, rfl, rfl, rfl⟩
              | m + 4, e => simp at e
            let G : PyData → Bool := fun q => match q with
              | .int z => !(match z with | 0 => btw a 0 (some x.zs) | 1 => btw b 0 (some x.os) | 2 => btw c 0 (some x.lo) | 3 => btw d 0 (some x.hi) | _ => false)
              | _ => false
            have hG : ((List.range 4).map fun (m : Nat) => PyData.int (m : Int)) = [.int 0, .int 1, .int 2, .int 3] := rfl
            refine bd_ret (ev_eq (ev_op (rv_eq (e := .list []) ?_ sh_nil) (ev_filterE (ds := [.int x.zs, .int x.os, .int x.lo, .int x.hi]) G (ea_cons (ev_call (R := R_takable) ⟨x, rfl, rfl⟩ (ea_cons (ev_var rfl h1) ea_nil)) ea_nil) (fun _ _ => rfl) (fun _ _ => rfl) (by simp) (fun m q y N hm s hy => ?_)) (ev_lst ea_nil (by decide))) ?_)
            · show SeqAt.shaped (.list ((([.int 0, .int 1, .int 2, .int 3] : List PyData)).filter G)) = true
              have g4 : Gd (.list [.int 0, .int 1, .int 2, .int 3]) := ⟨by decide +kernel, by decide +kernel, by decide +kernel⟩
              exact (g4.filter G).sh
            · obtain ⟨y', h, e1, rfl, e2⟩ := key m q hm
              refine et_is (et_not (et_val (ev_call (R := R_is_between) ⟨y', 0, some h, rfl, rfl⟩ (ea_cons (ev_op (rv_ixT (atI_nat e1)) (ev_var rfl (h2.mono s)) (ev_var rfl (.int _))) (ea_cons ev_int (ea_cons (ev_var rfl hy) ea_nil)))))) ?_
              show _ = !_
              rw [e2]
            · show PyData.bool (PyData.eqv (.list ((([.int 0, .int 1, .int 2, .int 3] : List PyData)).filter G)) (.list [])) = _
              rw [eqv_nil]
              show PyData.bool ((([.int 0, .int 1, .int 2, .int 3] : List PyData)).filter (fun d => G d)).isEmpty = PyData.bool (btw a 0 (some x.zs) && (btw b 0 (some x.os) && (btw c 0 (some x.lo) && btw d 0 (some x.hi))))
              have f0 : G (.int 0) = !btw a 0 (some x.zs) := rfl
              have f1 : G (.int 1) = !btw b 0 (some x.os) := rfl
              have f2 : G (.int 2) = !btw c 0 (some x.lo) := rfl
              have f3 : G (.int 3) = !btw d 0 (some x.hi) := rfl
              simp only [List.filter_cons, List.filter_nil, f0, f1, f2, f3]
              cases btw a 0 (some x.zs) <;> cases btw b 0 (some x.os) <;> cases btw c 0 (some x.lo) <;> cases btw d 0 (some x.hi) <;> rfl
      | _ => cases hU
end
end Hw

set_option maxHeartbeats 1000000
/-! HwG: mending_fits, mended_in, cost_in and the program's own front. -/
namespace Hw
open PySem PySem.Spec L2
def hasW (ws : List Str) (x : Str) : Bool := ws.any fun y => y == x
theorem any_str (ws : List Str) (x : Str) : ((ws.map PyData.str).any fun z => PyData.eqv z (.str x)) = hasW ws x := by
  unfold hasW
  rw [List.any_map]
  exact congrArg (fun p : Str → Bool => ws.any p) (funext fun y => eqv_str y x)
def mD (ws : List Str) (a b c d : Int) : PyData := .tuple [.list (ws.map .str), .tuple [.int a, .int b, .int c, .int d]]
def mend (x : Cts) (ws : List Str) (a b c d : Int) : Cts where
  bit := x.bit
  heard := if hasW ws "forget" = true then 0 else x.heard
  other := if hasW ws "turn" = true then 1 - x.other else x.other
  lot := if (hasW ws "clear" || hasW ws "turn") = true then none else x.lot
  done := x.done
  nw := x.nw
  zs := x.zs - a
  os := x.os - b
  lo := x.lo - c
  hi := x.hi - d
theorem sh_clear : SeqAt.shaped (.str "clear") = true := by decide +kernel
theorem sh_turn : SeqAt.shaped (.str "turn") = true := by decide +kernel
theorem sh_forget : SeqAt.shaped (.str "forget") = true := by decide +kernel
section
variable {P : Program} {w : World} {K : PySem.W.Frag} {mg : Str → Option Value} {base : Heap}
def R_mending_fits : List PyData → PyData → Prop := fun ds r => ∃ (x : Cts) (d : PyData), Gv d ∧ ds = [x.D, d] ∧ r = .bool (mfit x d)
theorem ok_mending_fits {f f1 f2 : Addr} {fd fd1 fd2 : FuncData} (F : Fun K "mending_fits" "mending_fits" s_mending_fits f fd) (T : Txt mg) (C_words_fit : Cal P w K mg base 1 "words_fit" ps_words_fit f1 fd1 (spR K R_words_fit))
    (C_taking_fits : Cal P w K mg base 3 "taking_fits" ps_taking_fits f2 fd2 (spR K R_taking_fits)) : FnOk P w K mg base CX0 4 f fd ps_mending_fits (spR K R_mending_fits) := by
  refine fn_pure F sc_mending_fits (fun ds r h => ?_) (fun cdv A outer s H E hr => ⟨_, (pss_cons (ps_if (PW.pt (pw_or (pt_not (pt_val (pe_callB (call_isiX K) (by rfl) T.m_isinstance bt_isinstance (pa_cons (pv 1) (pa_cons (pe_bltn (v := .ty "tuple") (by rfl) T.m_tuple bt_tuple rfl) pa_nil))))) (pw_or1 (pt_cmpR (op_neD hr.units) (pe_callB call_len_seq (by rfl) T.m_len bt_len (pa_cons (pv 1) pa_nil)) pe_int (nomark _))))) (pss_one (ps_ret pe_bl)) pss_nil)
      (pss_one (ps_ret (pe_and (pe_call C_words_fit.ok (hr.mono (by decide)) (by rfl) C_words_fit.g C_words_fit.kp C_words_fit.b .nil pass0 (pa_cons (pe_ix (ix_seqK K) (pv 1) pe_int (fun _ _ => rfl)) pa_nil)) (pe_one (pe_call C_taking_fits.ok (hr.mono (by decide)) (by rfl) C_taking_fits.g C_taking_fits.kp C_taking_fits.b .nil pass0 (pa_cons (pv 0) (pa_cons (pe_ix (ix_seqK K) (pv 1) pe_int (fun _ _ => rfl)) pa_nil)))))))), ?_⟩)
  · obtain ⟨x, d, _, rfl, _⟩ := h
    rfl
  · rintro ds r ⟨x, d, hd, rfl, rfl⟩ Z vs M hds
    obtain ⟨v1, v2, rfl, h1, h2⟩ := hds.c2
    have no : isU d = false → mfit x d = false := fun e => by cases d <;> first | rfl | cases e
    cases hU : isU d with
    | false =>
      refine bd_when (b := true) (et_or (c := true) (b := true) (et_is (et_not (et_val (ev_isi (kit_tuple _) (ev_var rfl h2)))) (by rw [hU]; rfl)) (fun e => by cases e)) (fun _ => bd_ret (ev_eq ev_bl (by rw [no hU]))) (fun e => by cases e)
    | true =>
      cases d with
      | tuple xs =>
        have g : Gd (.tuple xs) := by
          rcases hd with g | g
          · exact g
          · cases g
        refine bd_when (b := !((xs.length : Int) == 2)) (et_is (et_or (b := false) (et_is (et_not (et_val (ev_isi (kit_tuple _) (ev_var rfl h2)))) rfl) (fun _ => et_cmp (ev_op (rv_ne (sh_int _) (sh_int _)) (ev_cb rc_lenT (ea_cons (ev_var rfl h2) ea_nil)) ev_int)))
          (by rw [eqv_int]; rfl)) (fun e => ?_) (fun e => ?_)
        · refine bd_ret (ev_eq ev_bl ?_)
          match xs, e with
          | [], _ => rfl
          | [_], _ => rfl
          | [_, _], e => simp at e
          | _ :: _ :: _ :: _, _ => rfl
        · match xs, e with
          | [], e => simp at e
          | [_], e => simp at e
          | _ :: _ :: _ :: r, e => simp at e; omega
          | [a, b], _ =>
            refine bd_ret (ev_eq (ev_and (ev_call (R := R_words_fit) ⟨a, .inl (g.memT (by simp)), rfl, rfl⟩ (ea_cons (ev_op (rv_ixT (atI_nat (j := 0) rfl)) (ev_var rfl h2) ev_int) ea_nil))
              (fun _ => ev_call (R := R_taking_fits) ⟨x, b, .inl (g.memT (by simp)), rfl, rfl⟩ (ea_cons (ev_var rfl h1) (ea_cons (ev_op (rv_ixT (atI_nat (j := 1) rfl)) (ev_var rfl h2) ev_int) ea_nil)))) rfl)
      | _ => cases hU
def R_mended_in : List PyData → PyData → Prop := fun ds r => ∃ (x : Cts) (ws : List Str) (a b c d : Int), Gd (.list (ws.map .str)) ∧ ds = [x.D, mD ws a b c d] ∧ r = (mend x ws a b c d).D
theorem ok_mended_in {f : Addr} {fd : FuncData} (F : Fun K "mended_in" "mended_in" s_mended_in f fd) : FnOk P w K mg base CX0 1 f fd ps_mended_in (spR K R_mended_in) := by
  refine fn_pure F sc_mended_in (fun ds r h => ?_) (fun cdv A outer s H E hr => ⟨_, (pss_cons (ps_asg (pv 1) (pg_tup (by rfl) (pgs_cons (pg_name (i := 3) sc_mended_in.nd rfl (Or.inl rfl)) (pgs_cons (pg_name (i := 4) sc_mended_in.nd rfl (Or.inl rfl)) pgs_nil))))
      (pss_cons (ps_asg (pv 0) (pg_tup (by rfl) (pgs_cons (pg_tup (by rfl) (pgs_cons (pg_name (i := 8) sc_mended_in.nd rfl (Or.inl rfl)) (pgs_cons (pg_name (i := 9) sc_mended_in.nd rfl (Or.inl rfl)) pgs_nil))) (pgs_cons (pg_tup (by rfl) (pgs_cons (pg_name (i := 2) sc_mended_in.nd rfl (Or.inl rfl)) (pgs_cons (pg_name (i := 5) sc_mended_in.nd rfl (Or.inl rfl)) (pgs_cons (pg_name (i := 10) sc_mended_in.nd rfl (Or.inl rfl)) pgs_nil)))) (pgs_cons (pg_tup (by rfl) (pgs_cons (pg_name (i := 11) sc_mended_in.nd rfl (Or.inl rfl)) (pgs_cons (pg_name (i := 12) sc_mended_in.nd rfl (Or.inl rfl)) (pgs_cons (pg_name (i := 13) sc_mended_in.nd rfl (Or.inl rfl)) pgs_nil)))) (pgs_cons (pg_tup (by rfl) (pgs_cons (pg_name (i := 14) sc_mended_in.nd rfl (Or.inl rfl)) (pgs_cons (pg_name (i := 15) sc_mended_in.nd rfl (Or.inl rfl)) pgs_nil))) pgs_nil))))))
      (pss_cons (ps_if (PW.pt (pw_or (pt_cmpR (op_inD (hu65 hr)) pe_str (pv 3) (by rfl)) (pw_or1 (pt_cmpR (op_inD (hu65 hr)) pe_str (pv 3) (by rfl))))) (pss_one (ps_set (i := 5) sc_mended_in.nd rfl (.inl rfl) pe_non)) pss_nil)
      (pss_cons (ps_set (i := 2) sc_mended_in.nd rfl (.inl rfl) (pe_ifExp (pt_cmpR (op_inD (hu65 hr)) pe_str (pv 3) (by rfl)) (pe_op op_sub pe_int (pv 2)) (pv 2)))
      (pss_cons (ps_par (i := 6) (j := 7) (by rfl) sc_mended_in.nd rfl rfl (by decide) rfl rfl (pa_cons (pe_tup (pa_cons (pv 11) (pa_cons (pe_op op_sub (pv 12) (pe_ix (ix_seqK K) (pv 4) pe_int (fun _ _ => rfl))) (pa_cons (pe_op op_sub (pv 13) (pe_ix (ix_seqK K) (pv 4) pe_int (fun _ _ => rfl))) pa_nil)))) (pa_cons (pe_tup (pa_cons (pe_op op_sub (pv 14) (pe_ix (ix_seqK K) (pv 4) pe_int (fun _ _ => rfl))) (pa_cons (pe_op op_sub (pv 15) (pe_ix (ix_seqK K) (pv 4) pe_int (fun _ _ => rfl))) pa_nil))) pa_nil)) (by rfl))
      (pss_one (ps_ret (pe_tup (pa_cons (pe_tup (pa_cons (pv 8) (pa_cons (pe_ifExp (pt_cmpR (op_inD (hu65 hr)) pe_str (pv 3) (by rfl)) pe_int (pv 9)) pa_nil))) (pa_cons (pe_tup (pa_cons (pv 2) (pa_cons (pv 5) (pa_cons (pv 10) pa_nil)))) (pa_cons (pv 6) (pa_cons (pv 7) pa_nil)))))))))))), ?_⟩)
  · obtain ⟨x, ws, a, b, c, d, _, rfl, _⟩ := h
    rfl
  · rintro ds r ⟨x, ws, a, b, c, d, hg, rfl, rfl⟩ Z vs M hds
    obtain ⟨v1, v2, rfl, h1, h2⟩ := hds.c2
    have inw : ∀ (τ : St) (N : Hp) (vw : V) (y : Str), SeqAt.shaped (.str y) = true → τ[3]? = some (some vw) → Dt K N vw (.list (ws.map .str)) → EvT Z (tTest (tOp (rInD K) (tC (.str y)) (tVar 3))) τ N (hasW ws y) := fun τ N vw y sy e hw =>
      et_is (et_cmp (ev_op (rv_in sy hg.sh) ev_str (ev_var e hw))) (any_str ws y)
    -- words, taking = mending
    refine bd_un (ev_var rfl h2) fun v N s1 dv => ?_
    obtain ⟨p, xs, rfl, hq, hs⟩ := dv.tupE
    obtain ⟨vw, vt, rfl, dw, dt⟩ := hs.c2
    refine ⟨[some v1, some v2, none, some vw, some vt, none, none, none, none, none, none, none, none, none, none, none], fun H Q s' q => ⟨p, _, rfl, same_t (s'.trans vis_same) hq, rfl, _, _, rfl, _, _, rfl, rfl, q⟩, ?_⟩
    -- the contents
    refine bd_un (ev_var rfl (h1.mono s1)) fun v N2 s2 dv => ?_
    obtain ⟨p0, xs, rfl, hq0, hs⟩ := dv.tupE
    obtain ⟨w1, w2, w3, w4, rfl, d1, d2, d3, d4⟩ := hs.c4
    obtain ⟨p1, xs, rfl, hq1, hs⟩ := d1.tupE
    obtain ⟨x1, x2, rfl, e1, e2⟩ := hs.c2
    obtain ⟨p2, xs, rfl, hq2, hs⟩ := d2.tupE
    obtain ⟨x3, x4, x5, rfl, e3, e4, e5⟩ := hs.c3
    obtain ⟨p3, xs, rfl, hq3, hs⟩ := d3.tupE
    obtain ⟨x6, x7, x8, rfl, e6, e7, e8⟩ := hs.c3
    obtain ⟨p4, xs, rfl, hq4, hs⟩ := d4.tupE
    obtain ⟨x9, x10, rfl, e9, e10⟩ := hs.c2
    refine ⟨[some v1, some v2, some x3, some vw, some vt, some x4, none, none, some x1, some x2, some x5, some x6, some x7, some x8, some x9, some x10], fun H Q s' q => ⟨p0, _, rfl, same_t (s'.trans vis_same) hq0, rfl, _, _, rfl, ⟨p1, _, rfl, same_t (s'.trans vis_same) hq1, rfl, _, _, rfl, _, _, rfl, rfl, _, _, rfl, ⟨p2, _, rfl, same_t (s'.trans vis_same) hq2, rfl, _, _, rfl, _, _, rfl, _, _, rfl, rfl,
      _, _, rfl, ⟨p3, _, rfl, same_t (s'.trans vis_same) hq3, rfl, _, _, rfl, _, _, rfl, _, _, rfl, rfl, _, _, rfl, ⟨p4, _, rfl, same_t (s'.trans vis_same) hq4, rfl, _, _, rfl, _, _, rfl, rfl, rfl, q⟩⟩⟩⟩⟩, ?_⟩
    have dw2 := dw.mono s2
    have dt2 := dt.mono s2
    -- if "clear" in words or "turn" in words: lot = None
    refine bd_ifAsg (d := lotD (mend x ws a b c d).lot) (et_or (inw _ _ vw "clear" sh_clear rfl dw2) (fun _ => inw _ _ vw "turn" sh_turn rfl dw2)) (fun e => ev_eq ev_non ?_) (fun e => ⟨x4, rfl, ?_⟩) fun v N3 s3 dl => ?_
    · show _ = lotD (if (hasW ws "clear" || hasW ws "turn") = true then none else x.lot)
      rw [if_pos e]
      rfl
    · show Dt K N2 x4 (lotD (if (hasW ws "clear" || hasW ws "turn") = true then none else x.lot))
      rw [e]
      exact e4
    -- other
    show Bd K Z _ [some v1, some v2, some x3, some vw, some vt, some v, none, none, some x1, some x2, some x5, some x6, some x7, some x8, some x9, some x10] N3 _
    refine bd_asg (d := .int (mend x ws a b c d).other) (ev_if (inw _ _ vw "turn" sh_turn rfl (dw2.mono s3)) (fun e => ev_eq (ev_op rv_I0 ev_int (ev_var rfl (e3.mono s3))) ?_) (fun e => ev_eq (ev_var rfl (e3.mono s3)) ?_)) fun vo N4 s4 dvo => ?_
    · show _ = PyData.int (if hasW ws "turn" = true then 1 - x.other else x.other)
      rw [if_pos e]
    · show _ = PyData.int (if hasW ws "turn" = true then 1 - x.other else x.other)
      rw [e]
      rfl
    have s34 := s3.trans s4
    show Bd K Z _ [some v1, some v2, some vo, some vw, some vt, some v, none, none, some x1, some x2, some x5, some x6, some x7, some x8, some x9, some x10] N4 _
    refine bd_par (ea_cons (ev_tup (ea_cons (ev_var rfl (e6.mono s34)) (ea_cons (ev_op rv_I0 (ev_var rfl (e7.mono s34)) (ev_op (rv_ixT (atI_nat (j := 0) rfl)) (ev_var rfl (dt2.mono s34)) ev_int)) (ea_cons (ev_op rv_I0 (ev_var rfl (e8.mono s34)) (ev_op (rv_ixT (atI_nat (j := 1) rfl)) (ev_var rfl (dt2.mono s34)) ev_int)) ea_nil))) (by simp))
      (ea_cons (ev_tup (ea_cons (ev_op rv_I0 (ev_var rfl (e9.mono s34)) (ev_op (rv_ixT (atI_nat (j := 2) rfl)) (ev_var rfl (dt2.mono s34)) ev_int)) (ea_cons (ev_op rv_I0 (ev_var rfl (e10.mono s34)) (ev_op (rv_ixT (atI_nat (j := 3) rfl)) (ev_var rfl (dt2.mono s34)) ev_int)) ea_nil)) (by simp)) ea_nil)) fun va vb N5 s5 da db => ?_
    have s35 := s34.trans s5
    show Bd K Z _ [some v1, some v2, some vo, some vw, some vt, some v, some va, some vb, some x1, some x2, some x5, some x6, some x7, some x8, some x9, some x10] N5 _
    refine bd_ret (ev_tup (ea_cons (ev_tup (ea_cons (ev_var rfl (e1.mono s35)) (ea_cons (d := .int (mend x ws a b c d).heard) (ev_if (inw _ _ vw "forget" sh_forget rfl (dw2.mono s35)) (fun e => ev_eq ev_int ?_) (fun e => ev_eq (ev_var rfl (e2.mono s35)) ?_)) ea_nil)) (by simp))
      (ea_cons (ev_tup (ea_cons (ev_var rfl (dvo.mono s5)) (ea_cons (ev_var rfl (dl.mono (s4.trans s5))) (ea_cons (ev_var rfl (e5.mono s35)) ea_nil))) (by simp)) (ea_cons (ev_var rfl da) (ea_cons (ev_var rfl db) ea_nil)))) (by simp))
    · show _ = PyData.int (if hasW ws "forget" = true then 0 else x.heard)
      rw [if_pos e]
    · show _ = PyData.int (if hasW ws "forget" = true then 0 else x.heard)
      rw [e]
      rfl

/-! ### cost_in, is_mending, check_mending, mended, cost_of -/
def R_cost_in : List PyData → PyData → Prop := fun ds r => ∃ (ws : List Str) (a b c d : Int), ds = [mD ws a b c d] ∧ r = .int ((ws.length : Int) + (a + b + c + d))
theorem ok_cost_in {f : Addr} {fd : FuncData} (F : Fun K "cost_in" "cost_in" s_cost_in f fd) (T : Txt mg) : FnOk P w K mg base CX0 1 f fd ps_cost_in (spR K R_cost_in) := by
  refine fn_pure F sc_cost_in (fun ds r h => ?_) (fun cdv A outer s H E hr => ⟨_, (pss_one (ps_ret (pe_op op_add (pe_callB call_len_seq (by rfl) T.m_len bt_len (pa_cons (pe_ix (ix_seqK K) (pv 0) pe_int (fun _ _ => rfl)) pa_nil)) (pe_callB (call_sumX rfl) (by rfl) T.m_sum bt_sum (pa_cons (pe_ix (ix_seqK K) (pv 0) pe_int (fun _ _ => rfl)) pa_nil))))), ?_⟩)
  · obtain ⟨ws, a, b, c, d, rfl, _⟩ := h
    rfl
  · rintro ds r ⟨ws, a, b, c, d, rfl, rfl⟩ Z vs M hds
    obtain ⟨v1, rfl, h1⟩ := hds.c1
    refine bd_ret (ev_eq (ev_op rv_I0 (ev_cb rc_lenL (ea_cons (ev_op (rv_ixT (atI_nat (j := 0) rfl)) (ev_var rfl h1) ev_int) ea_nil))
      (ev_cb (rc_sumT (ns := [a, b, c, d])) (ea_cons (ev_op (rv_ixT (atI_nat (j := 1) rfl)) (ev_var rfl h1) ev_int) ea_nil))) ?_)
    rw [List.length_map]
    simp only [List.sum_cons, List.sum_nil]
    congr 1
    omega
def R_is_mending : List PyData → PyData → Prop := fun ds r => ∃ (l : Lnk) (x : Cts) (d : PyData), l.ok ∧ x.ok l ∧ Gv d ∧ ds = [l.D, x.D, d] ∧ r = .bool (mfit x d)
theorem ok_is_mending {f f1 f2 : Addr} {fd fd1 fd2 : FuncData} (F : Fun K "is_mending" "is_mending" s_is_mending f fd) (C_check_contents : Cal P w K mg base 6 "check_contents" ps_check_contents f1 fd1 (spR K R_check_contents))
    (C_mending_fits : Cal P w K mg base 4 "mending_fits" ps_mending_fits f2 fd2 (spR K R_mending_fits)) : FnOk P w K mg base CX0 7 f fd ps_is_mending (spR K R_is_mending) := by
  refine fn_pure F sc_is_mending (fun ds r h => ?_) (fun cdv A outer s H E hr => ⟨_, (pss_cons (ps_expr (pe_call C_check_contents.ok (hr.mono (by decide)) (by rfl) C_check_contents.g C_check_contents.kp C_check_contents.b .nil pass0 (pa_cons (pv 0) (pa_cons (pv 1) pa_nil))))
      (pss_one (ps_ret (pe_call C_mending_fits.ok (hr.mono (by decide)) (by rfl) C_mending_fits.g C_mending_fits.kp C_mending_fits.b .nil pass0 (pa_cons (pv 1) (pa_cons (pv 2) pa_nil)))))), ?_⟩)
  · obtain ⟨l, x, d, _, _, _, rfl, _⟩ := h
    rfl
  · rintro ds r ⟨l, x, d, hl, hx, hd, rfl, rfl⟩ Z vs M hds
    obtain ⟨v1, v2, v3, rfl, h1, h2, h3⟩ := hds.c3
    exact bd_seq (bn_drop (ev_call (R := R_check_contents) (r := .none) ⟨l, x, hl, hx, rfl, rfl⟩ (ea_cons (ev_var rfl h1) (ea_cons (ev_var rfl h2) ea_nil))))
      (bd_ret (ev_call (R := R_mending_fits) ⟨x, d, hd, rfl, rfl⟩ (ea_cons (ev_var rfl h2) (ea_cons (ev_var rfl h3) ea_nil))))
def R_check_mending : List PyData → PyData → Prop := fun ds r => ∃ (l : Lnk) (x : Cts) (d : PyData), l.ok ∧ x.ok l ∧ Gv d ∧ mfit x d = true ∧ ds = [l.D, x.D, d] ∧ r = .none
theorem ok_check_mending {f f1 f2 : Addr} {fd fd1 fd2 : FuncData} (F : Fun K "check_mending" "check_mending" s_check_mending f fd) (C_check_contents : Cal P w K mg base 6 "check_contents" ps_check_contents f1 fd1 (spR K R_check_contents))
    (C_mending_fits : Cal P w K mg base 4 "mending_fits" ps_mending_fits f2 fd2 (spR K R_mending_fits)) : FnOk P w K mg base CX0 7 f fd ps_check_mending (spR K R_check_mending) := by
  refine fn_none F sc_check_mending (fun ds r h => ?_) (fun cdv A outer s H E hr => ⟨_, (pss_cons (ps_expr (pe_call C_check_contents.ok (hr.mono (by decide)) (by rfl) C_check_contents.g C_check_contents.kp C_check_contents.b .nil pass0 (pa_cons (pv 0) (pa_cons (pv 1) pa_nil))))
      (pss_one (ps_if (pt_not (pt_val (pe_call C_mending_fits.ok (hr.mono (by decide)) (by rfl) C_mending_fits.g C_mending_fits.kp C_mending_fits.b .nil pass0 (pa_cons (pv 1) (pa_cons (pv 2) pa_nil))))) (pss_one ps_never) pss_nil))), ?_⟩)
  · obtain ⟨l, x, d, _, _, _, _, rfl, rfl⟩ := h
    exact ⟨rfl, rfl⟩
  · rintro ds r ⟨l, x, d, hl, hx, hd, hm, rfl, rfl⟩ Z vs M hds
    obtain ⟨v1, v2, v3, rfl, h1, h2, h3⟩ := hds.c3
    refine bn_seq (bn_drop (ev_call (R := R_check_contents) (r := .none) ⟨l, x, hl, hx, rfl, rfl⟩ (ea_cons (ev_var rfl h1) (ea_cons (ev_var rfl h2) ea_nil)))) ?_
    exact bn_skip (et_is (et_not (et_val (b := true) (ev_call (R := R_mending_fits) ⟨x, d, hd, rfl, by rw [hm]⟩ (ea_cons (ev_var rfl h2) (ea_cons (ev_var rfl h3) ea_nil))))) rfl)
def R_mended : List PyData → PyData → Prop := fun ds r => ∃ (l : Lnk) (x : Cts) (ws : List Str) (a b c d : Int), l.ok ∧ x.ok l ∧ Gd (mD ws a b c d) ∧ mfit x (mD ws a b c d) = true ∧ ds = [l.D, x.D, mD ws a b c d] ∧ r = (mend x ws a b c d).D
theorem ok_mended {f f1 f2 : Addr} {fd fd1 fd2 : FuncData} (F : Fun K "mended" "mended" s_mended f fd) (C_check_mending : Cal P w K mg base 7 "check_mending" ps_check_mending f1 fd1 (spR K R_check_mending))
    (C_mended_in : Cal P w K mg base 1 "mended_in" ps_mended_in f2 fd2 (spR K R_mended_in)) : FnOk P w K mg base CX0 8 f fd ps_mended (spR K R_mended) := by
  refine fn_pure F sc_mended (fun ds r h => ?_) (fun cdv A outer s H E hr => ⟨_, (pss_cons (ps_expr (pe_call C_check_mending.ok (hr.mono (by decide)) (by rfl) C_check_mending.g C_check_mending.kp C_check_mending.b .nil pass0 (pa_cons (pv 0) (pa_cons (pv 1) (pa_cons (pv 2) pa_nil)))))
      (pss_one (ps_ret (pe_call C_mended_in.ok (hr.mono (by decide)) (by rfl) C_mended_in.g C_mended_in.kp C_mended_in.b .nil pass0 (pa_cons (pv 1) (pa_cons (pv 2) pa_nil)))))), ?_⟩)
  · obtain ⟨l, x, ws, a, b, c, d, _, _, _, _, rfl, _⟩ := h
    rfl
  · rintro ds r ⟨l, x, ws, a, b, c, d, hl, hx, hd, hm, rfl, rfl⟩ Z vs M hds
    obtain ⟨v1, v2, v3, rfl, h1, h2, h3⟩ := hds.c3
    exact bd_seq (bn_drop (ev_call (R := R_check_mending) (r := .none) ⟨l, x, _, hl, hx, .inl hd, hm, rfl, rfl⟩ (ea_cons (ev_var rfl h1) (ea_cons (ev_var rfl h2) (ea_cons (ev_var rfl h3) ea_nil)))))
      (bd_ret (ev_call (R := R_mended_in) ⟨x, ws, a, b, c, d, hd.memT (List.mem_cons_self ..), rfl, rfl⟩ (ea_cons (ev_var rfl h2) (ea_cons (ev_var rfl h3) ea_nil))))
def R_cost_of : List PyData → PyData → Prop := fun ds r => ∃ (l : Lnk) (x : Cts) (ws : List Str) (a b c d : Int), l.ok ∧ x.ok l ∧ Gd (mD ws a b c d) ∧ mfit x (mD ws a b c d) = true ∧ ds = [l.D, x.D, mD ws a b c d] ∧ r = .int ((ws.length : Int) + (a + b + c + d))
theorem ok_cost_of {f f1 f2 : Addr} {fd fd1 fd2 : FuncData} (F : Fun K "cost_of" "cost_of" s_cost_of f fd) (C_check_mending : Cal P w K mg base 7 "check_mending" ps_check_mending f1 fd1 (spR K R_check_mending))
    (C_cost_in : Cal P w K mg base 1 "cost_in" ps_cost_in f2 fd2 (spR K R_cost_in)) : FnOk P w K mg base CX0 8 f fd ps_cost_of (spR K R_cost_of) := by
  refine fn_pure F sc_cost_of (fun ds r h => ?_) (fun cdv A outer s H E hr => ⟨_, (pss_cons (ps_expr (pe_call C_check_mending.ok (hr.mono (by decide)) (by rfl) C_check_mending.g C_check_mending.kp C_check_mending.b .nil pass0 (pa_cons (pv 0) (pa_cons (pv 1) (pa_cons (pv 2) pa_nil)))))
      (pss_one (ps_ret (pe_call C_cost_in.ok (hr.mono (by decide)) (by rfl) C_cost_in.g C_cost_in.kp C_cost_in.b .nil pass0 (pa_cons (pv 2) pa_nil))))), ?_⟩)
  · obtain ⟨l, x, ws, a, b, c, d, _, _, _, _, rfl, _⟩ := h
    rfl
  · rintro ds r ⟨l, x, ws, a, b, c, d, hl, hx, hd, hm, rfl, rfl⟩ Z vs M hds
    obtain ⟨v1, v2, v3, rfl, h1, h2, h3⟩ := hds.c3
    exact bd_seq (bn_drop (ev_call (R := R_check_mending) (r := .none) ⟨l, x, _, hl, hx, .inl hd, hm, rfl, rfl⟩ (ea_cons (ev_var rfl h1) (ea_cons (ev_var rfl h2) (ea_cons (ev_var rfl h3) ea_nil)))))
      (bd_ret (ev_call (R := R_cost_in) ⟨ws, a, b, c, d, rfl, rfl⟩ (ea_cons (ev_var rfl h3) ea_nil)))
end
end Hw

set_option maxHeartbeats 1000000
/-! HwH: the law's draws. -/
namespace Hw
open PySem PySem.Spec L2
/-! ### slices, powers, int(..), max, min -/
def CPowW (i j : Int) : Prop := 0 ≤ j ∧ (Builtin.Int.intBits i : Int) * j ≤ 2 ^ 27
theorem op_powW {X : Cx} : OpR X (binaryOp .Pow) (rI CPowW fun i j => .int (i ^ j.toNat)) := opI fun _ _ _ _ _ _ _ hc q => PyProof.Rows.pow_int hc.1 hc.2 q
def cutD (ds : List PyData) (lo hi : Option Int) : List PyData := (ds.drop (HT.sIx ds.length 0 lo)).take (HT.sIx ds.length ds.length hi - HT.sIx ds.length 0 lo)
def EvO (Z : Wld) (to : TO) (σ : St) (M : Hp) (o : Option Int) : Prop :=
  ∀ n H, Same M (Z.vis H) → Z.ok n H → ∀ Q : Option Int → Hp → Prop, (∀ H', Same (Z.vis H) (Z.vis H') → Z.ok n H' → Q o H') → to σ H Q
section
variable {K : PySem.W.Frag} {Z : Wld} {σ : St} {M N H : Hp} {te : TE} {tl th : TO} {ds : List PyData} {o lo hi : Option Int} {i j : Int}
theorem eo_none : EvO Z tNoPart σ M none := fun n H s k Q q => q H (Same.refl _) k
theorem eo_some (h : Ev K Z te σ M (.int i)) : EvO Z (tPart te) σ M (some i) := fun n H s k Q q => h n H s k _ fun v H1 s1 k1 d1 => ⟨i, d1.intE, q H1 s1 k1⟩
theorem Dts.cut {vs : List V} (h : Dts K M vs ds) : Dts K M (cutV vs lo hi) (cutD ds lo hi) := by
  unfold cutV cutD
  rw [h.length]
  exact (h.drop _).take _
theorem ev_slL (h : Ev K Z te σ M (.list ds)) (h1 : EvO Z tl σ M lo) (h2 : EvO Z th σ M hi) : Ev K Z (tSl (rSlL K) te tl th) σ M (.list (cutD ds lo hi)) := fun n H s k Q q =>
  h n H s k _ fun v H1 s1 k1 d1 => h1 n H1 (s.trans s1) k1 _ fun H2 s2 k2 => h2 n H2 ((s.trans s1).trans s2) k2 _ fun H3 s3 k3 => by
    obtain ⟨p, xs, rfl, hq, hs⟩ := (d1.mono (s2.trans s3)).lstE
    exact ⟨p, xs, rfl, vis_same.seq hq, fun l hl => q _ _ (((s1.trans s2).trans s3).trans (k3.same_new hl)) (k3.new hl) (.lst (.of (k3.at_new hl)) (hs.cut.mono (k3.same_new hl)))⟩
theorem ev_slT (h : Ev K Z te σ M (.tuple ds)) (h1 : EvO Z tl σ M lo) (h2 : EvO Z th σ M hi) : Ev K Z (tSl (rSlA K) te tl th) σ M (.tuple (cutD ds lo hi)) := fun n H s k Q q =>
  h n H s k _ fun v H1 s1 k1 d1 => h1 n H1 (s.trans s1) k1 _ fun H2 s2 k2 => h2 n H2 ((s.trans s1).trans s2) k2 _ fun H3 s3 k3 => by
    obtain ⟨p, xs, rfl, hq, hs⟩ := (d1.mono (s2.trans s3)).tupE
    refine ⟨p, xs, rfl, same_t vis_same hq, fun e => ?_, fun _ l hl => q _ _ (((s1.trans s2).trans s3).trans (k3.same_new hl)) (k3.new hl) (.tup (.of (k3.at_new hl)) (hs.cut.mono (k3.same_new hl)))⟩
    have ec : cutD ds lo hi = ds := by
      unfold cutD
      rw [← hs.length, e.1, e.2]
      show ds.take (xs.length - 0) = ds
      rw [Nat.sub_zero, hs.length]
      exact List.take_length
    rw [ec] at q
    exact q _ _ ((s1.trans s2).trans s3) k3 (.tup hq hs)
def rInt1 : List V → Hp → VK → Prop := fun xs H Q => (∃ i, xs = [.int i] ∧ Q (.int i) H) ∨ ∃ k, xs = [.bl k] ∧ Q (.int (if k then 1 else 0)) H
theorem rc_int : RC K Z rInt1 [.int i] (.int i) := fun n H vs k hs Q q => by
  obtain ⟨v, rfl, h⟩ := hs.c1
  rw [h.intE]
  exact .inl ⟨i, rfl, q _ H (Same.refl _) k (.int _)⟩
def rMx2 : List V → Hp → VK → Prop := fun xs H Q => ∃ i j, xs = [.int i, .int j] ∧ Q (.int (if j > i then j else i)) H
def rMn2 : List V → Hp → VK → Prop := fun xs H Q => ∃ i j, xs = [.int i, .int j] ∧ Q (.int (if j < i then j else i)) H
theorem rc_max : RC K Z rMx2 [.int i, .int j] (.int (if j > i then j else i)) := fun n H vs k hs Q q => by
  obtain ⟨v, w, rfl, h, h'⟩ := hs.c2
  rw [h.intE, h'.intE]
  exact ⟨i, j, rfl, q _ H (Same.refl _) k (.int _)⟩
theorem rc_min : RC K Z rMn2 [.int i, .int j] (.int (if j < i then j else i)) := fun n H vs k hs Q q => by
  obtain ⟨v, w, rfl, h, h'⟩ := hs.c2
  rw [h.intE, h'.intE]
  exact ⟨i, j, rfl, q _ H (Same.refl _) k (.int _)⟩
end

/-! ### small steps -/
section
variable {u : TS} {D : Ends} {σ : St} {H : Hp} {v : V} {i : Nat}
theorem c_set (h : u D (σ.set i (some v)) H) : tSeq (tAsg (tC v) (gName i)) u D σ H := h
theorem c_nx (h : D.nx σ H) : tNext D σ H := h
end
/-! ### the promise of a def that draws -/
def spG (K : PySem.W.Frag) (c : Nat) (Pre : List PyData → Prop) (R : List PyData → PyData → Prop) : Sp := fun vs H Q _ =>
  ∃ (Z : Wld) (n : Nat) (g : Addr) (vs' : List V) (ds : List PyData), vs = .ref g :: vs' ∧ Z.g = some g ∧ Z.ok n H ∧ n + c ≤ big ∧ Dts K (Z.vis H) vs' ds ∧ Pre ds ∧
    ∀ r v H', R ds r → Same (Z.vis H) (Z.vis H') → Z.ok (n + c) H' → Dt K (Z.vis H') v r → Q v H'
section
variable {P : Program} {w : World} {K : PySem.W.Frag} {mg : Str → Option Value} {base : Heap} {x qual : Str} {st : Stmt} {f : Addr} {fd : FuncData} {N ps : List Str} {k c : Nat} {Pre : List PyData → Prop} {R : List PyData → PyData → Prop}
theorem fn_gen (F : Fun K x qual st f fd) (S : FnScope N ps (defScope st)) (hl : ∀ ds, Pre ds → ds.length + 1 = ps.length)
    (body : ∀ (cdv : Value) (A : Around) (outer : List Env) (s : Shared) (H : Hp) (E : XK), Room k (A.deeper (PyProof.Rows.envOfC qual (defScope st) s.heap.objs.size f cdv)) →
      ∃ t, PSs (cx P w K mg base N qual st f cdv A outer s H E) (defBody st) t ∧ ∀ (ds : List PyData), Pre ds → ∀ (Z : Wld) (n : Nat) (g : Addr) (vs : List V) (H : Hp), Z.g = some g → Z.ok n H → n + c ≤ big → Dts K (Z.vis H) vs ds →
        ∀ D : Ends, (∀ r v H', R ds r → Same (Z.vis H) (Z.vis H') → Z.ok (n + c) H' → Dt K (Z.vis H') v r → D.rt v H') → t D (start N (.ref g :: vs)) H) :
    FnOk P w K mg base CX0 (k + 1) f fd ps (spG K c Pre R) := by
  refine F.ok S (fun vs H Q E h => ?_) (fun cdv A outer s H vs Q E hr h => ?_)
  · obtain ⟨Z, n, g, vs', ds, rfl, _, _, _, hd, hP, _⟩ := h
    rw [← hl ds hP, List.length_cons, hd.length]
  · obtain ⟨Z, n, g, vs', ds, rfl, hg, hk, hn, hd, hP, q⟩ := h
    obtain ⟨t, ht, hb⟩ := body cdv A outer s H E hr
    exact ⟨t, ht, hb ds hP Z n g vs' H hg hk hn hd _ q⟩
/-- a draw within a reading: the arguments behind the generator by data -/
theorem cg_call {Z : Wld} {σ : St} {H : Hp} {n : Nat} {g : Addr} {i : Nat} {ta : TA} {ds : List PyData} {E : XK} {Q : VK} (hg : Z.g = some g) (hi : σ[i]? = some (some (.ref g))) (hk : Z.ok n H) (hn : n + c ≤ big) (ha : EvA K Z ta σ (Z.vis H) ds) (hP : Pre ds)
    (q : ∀ r v H', R ds r → Same (Z.vis H) (Z.vis H') → Z.ok (n + c) H' → Dt K (Z.vis H') v r → Q v H') : tCall (spG K c Pre R) [] E (tCons (tVar i) ta) σ H Q :=
  ⟨_, hi, ha n H (Same.refl _) hk _ fun vs H1 s1 k1 d1 => ⟨Z, n, g, vs, ds, by rw [List.append_nil], hg, k1, hn, d1, hP, fun r v H' hR s2 k2 d2 => q r v H' hR (s1.trans s2) k2 d2⟩⟩
end
abbrev s_l_cell : Stmt := topS 31
abbrev N_l_cell : List Str := ["_law_script", "_law_index"]
abbrev ps_l_cell : List Str := ["_law_script", "_law_index"]
theorem sc_l_cell : FnScope N_l_cell ps_l_cell (defScope s_l_cell) := ⟨rfl, rfl, rfl, by decide +kernel, rfl, by decide +kernel, by decide +kernel⟩
abbrev s_l_hash : Stmt := topS 32
abbrev N_l_hash : List Str := ["_law_seed", "_law_index", "_law_mixed"]
abbrev ps_l_hash : List Str := ["_law_seed", "_law_index"]
theorem sc_l_hash : FnScope N_l_hash ps_l_hash (defScope s_l_hash) := ⟨rfl, rfl, rfl, by decide +kernel, rfl, by decide +kernel, by decide +kernel⟩
abbrev s_l_generator : Stmt := topS 33
abbrev N_l_generator : List Str := ["_law_script", "_law_index", "_law_seed"]
abbrev ps_l_generator : List Str := ["_law_script", "_law_index"]
theorem sc_l_generator : FnScope N_l_generator ps_l_generator (defScope s_l_generator) := ⟨rfl, rfl, rfl, by decide +kernel, rfl, by decide +kernel, by decide +kernel⟩
abbrev s_l_random : Stmt := topS 34
abbrev N_l_random : List Str := ["_law_generator_here", "_law_limit", "_law_drawn", "_law_turn"]
abbrev ps_l_random : List Str := ["_law_generator_here", "_law_limit"]
theorem sc_l_random : FnScope N_l_random ps_l_random (defScope s_l_random) := ⟨rfl, rfl, rfl, by decide +kernel, rfl, by decide +kernel, by decide +kernel⟩
abbrev s_l_link : Stmt := topS 35
abbrev N_l_link : List Str := ["_law_generator_here", "_law_most", "_law_places", "_law_back"]
abbrev ps_l_link : List Str := ["_law_generator_here", "_law_most"]
theorem sc_l_link : FnScope N_l_link ps_l_link (defScope s_l_link) := ⟨rfl, rfl, rfl, by decide +kernel, rfl, by decide +kernel, by decide +kernel⟩
abbrev s_l_great : Stmt := topS 36
abbrev N_l_great : List Str := ["_law_generator_here", "_law_more", "_law_places", "_law_back"]
abbrev ps_l_great : List Str := ["_law_generator_here"]
theorem sc_l_great : FnScope N_l_great ps_l_great (defScope s_l_great) := ⟨rfl, rfl, rfl, by decide +kernel, rfl, by decide +kernel, by decide +kernel⟩
abbrev s_l_few : Stmt := topS 37
abbrev N_l_few : List Str := ["_law_generator_here", "_law_most", "_law_menu"]
abbrev ps_l_few : List Str := ["_law_generator_here", "_law_most"]
theorem sc_l_few : FnScope N_l_few ps_l_few (defScope s_l_few) := ⟨rfl, rfl, rfl, by decide +kernel, rfl, by decide +kernel, by decide +kernel⟩
abbrev s_l_contents : Stmt := topS 38
abbrev N_l_contents : List Str := ["_law_generator_here", "_law_link_here", "_law_first", "_law_second", "_law_third", "_law_there", "_law_low", "_law_high", "_law_places", "_law_back", "_law_copies", "_law_answers", "_law_bit", "_law_other", "_law_heard", "_law_lot", "_law_sort"]
abbrev ps_l_contents : List Str := ["_law_generator_here", "_law_link_here"]
theorem sc_l_contents : FnScope N_l_contents ps_l_contents (defScope s_l_contents) := ⟨rfl, rfl, rfl, by decide +kernel, rfl, by decide +kernel, by decide +kernel⟩
section
variable {P : Program} {w : World} {K : PySem.W.Frag} {mg : Str → Option Value} {base : Heap}
/-! ### cell, hash, generator -/
def cellF (ns : List Int) (i : Nat) : Int := match ns[i]? with
  | some z => z
  | none => (ns.take 1).sum % 1000003
def R_cell : List PyData → PyData → Prop := fun ds r => ∃ (ns : List Int) (i : Nat), ds = [.list (ns.map .int), .int (i : Int)] ∧ r = .int (cellF ns i)
theorem ok_l_cell {f : Addr} {fd : FuncData} (F : Fun K "_law_cell" "_law_cell" s_l_cell f fd) (T : Txt mg) : FnOk P w K mg base CX0 1 f fd ps_l_cell (spR K R_cell) := by
  refine fn_pure F sc_l_cell (fun ds r h => ?_) (fun cdv A outer s H E hr => ⟨_, (pss_cons (ps_if (pt_cmpR op_lt (pv 1) (pe_callB call_len_seq (by rfl) T.m_len bt_len (pa_cons (pv 0) pa_nil)) (nomark _)) (pss_one (ps_ret (pe_ix (ix_seqK K) (pv 0) (pv 1) (fun _ _ => rfl)))) pss_nil)
      (pss_one (ps_ret (pe_op op_mod (pe_callB (call_sumX rfl) (by rfl) T.m_sum bt_sum (pa_cons (pe_slice sl_list (pv 0) po_none (po_some pe_int)) pa_nil)) pe_int)))), ?_⟩)
  · obtain ⟨ns, i, rfl, _⟩ := h
    rfl
  · rintro ds r ⟨ns, i, rfl, rfl⟩ Z vs M hds
    obtain ⟨v1, v2, rfl, h1, h2⟩ := hds.c2
    refine bd_when (b := decide ((i : Int) < (ns.length : Int))) (et_is (et_cmp (ev_op rv_B0 (ev_var rfl h2) (ev_cb rc_lenL (ea_cons (ev_var rfl h1) ea_nil)))) (by rw [List.length_map])) (fun e => ?_) (fun e => ?_)
    · have hi : i < ns.length := by
        have := of_decide_eq_true e
        omega
      refine bd_ret (ev_eq (ev_op (rv_ixL (d := .int ns[i]) (atI_nat (by rw [List.getElem?_map, List.getElem?_eq_getElem hi]; rfl))) (ev_var rfl h1) (ev_var rfl h2)) ?_)
      unfold cellF
      rw [List.getElem?_eq_getElem hi]
    · have hi : ns.length ≤ i := by
        have := of_decide_eq_false e
        omega
      refine bd_ret (ev_eq (ev_op (rv_I (show (0 : Int) < 1000003 by decide)) (ev_cb (rc_sumL (ns := ns.take 1)) (ea_cons (ev_eq (ev_slL (ev_var rfl h1) eo_none (eo_some (K := K) ev_int)) ?_) ea_nil)) ev_int) ?_)
      · unfold cutD
        rw [show HT.sIx (ns.map PyData.int).length (ns.map PyData.int).length (some 1) = min 1 (ns.map PyData.int).length from HT.sIx_nat _ _ 1, HT.sIx_none, List.drop_zero, List.map_take]
        congr 1
        rw [List.take_eq_take_iff]
        omega
      · unfold cellF
        rw [List.getElem?_eq_none hi]
def hashF (a i : Int) : Int :=
  ((((((a * 1140671 + 27644437 * i * i + 131 * i + 19) % 2147483629) * ((a * 1140671 + 27644437 * i * i + 131 * i + 19) % 2147483629) + 62089 * i + 32416187) % 2147483587) * 48271) % 2147483647)
def R_hash : List PyData → PyData → Prop := fun ds r => ∃ (a i : Int), i.natAbs ≤ big ∧ ds = [.int a, .int i] ∧ r = .int (hashF a i)
theorem cmL {i j : Int} (h1 : -(2 ^ 64) < i) (h2 : i < 2 ^ 64) : CMul i j := .inl ⟨h1, h2⟩
theorem cmR {i j : Int} (h1 : -(2 ^ 64) < j) (h2 : j < 2 ^ 64) : CMul i j := .inr ⟨h1, h2⟩
theorem ok_l_hash {f : Addr} {fd : FuncData} (F : Fun K "_law_hash" "_law_hash" s_l_hash f fd) (T : Txt mg) : FnOk P w K mg base CX0 1 f fd ps_l_hash (spR K R_hash) := by
  refine fn_pure F sc_l_hash (fun ds r h => ?_) (fun cdv A outer s H E hr => ⟨_, (pss_cons (ps_set (i := 2) sc_l_hash.nd rfl (.inl rfl) (pe_op op_mod (pe_callTy call_int1 (by rfl) T.m_int bt_int (pa_cons (pe_op op_add (pe_op op_add (pe_op op_add (pe_op op_mul (pv 0) pe_int) (pe_op op_mul (pe_op op_mul pe_int (pv 1)) (pv 1))) (pe_op op_mul pe_int (pv 1))) pe_int) pa_nil)) pe_int))
      (pss_cons (ps_set (i := 2) sc_l_hash.nd rfl (.inl rfl) (pe_op op_mod (pe_callTy call_int1 (by rfl) T.m_int bt_int (pa_cons (pe_op op_add (pe_op op_add (pe_op op_mul (pv 2) (pv 2)) (pe_op op_mul pe_int (pv 1))) pe_int) pa_nil)) pe_int))
      (pss_one (ps_ret (pe_op op_mod (pe_callTy call_int1 (by rfl) T.m_int bt_int (pa_cons (pe_op op_mul (pv 2) pe_int) pa_nil)) pe_int))))), ?_⟩)
  · obtain ⟨a, i, _, rfl, _⟩ := h
    rfl
  · rintro ds r ⟨a, i, hi, rfl, rfl⟩ Z vs M hds
    obtain ⟨v1, v2, rfl, h1, h2⟩ := hds.c2
    have hb : big = 1000000000 := rfl
    have e1 := Int.emod_nonneg (a * 1140671 + 27644437 * i * i + 131 * i + 19) (show (2147483629 : Int) ≠ 0 by decide)
    have e2 := Int.emod_lt_of_pos (a * 1140671 + 27644437 * i * i + 131 * i + 19) (show (0 : Int) < 2147483629 by decide)
    refine bd_asg (ev_op (rv_I (show (0 : Int) < 2147483629 by decide)) (ev_cb rc_int (ea_cons (ev_op rv_I0 (ev_op rv_I0 (ev_op rv_I0 (ev_op (rv_I (cmR (by decide) (by decide))) (ev_var rfl h1) ev_int)
      (ev_op (rv_I (cmR (by omega) (by omega))) (ev_op (rv_I (cmL (by decide) (by decide))) ev_int (ev_var rfl h2)) (ev_var rfl h2))) (ev_op (rv_I (cmL (by decide) (by decide))) ev_int (ev_var rfl h2))) ev_int) ea_nil)) ev_int) fun v N s dv => ?_
    refine bd_asg (ev_op (rv_I (show (0 : Int) < 2147483587 by decide)) (ev_cb rc_int (ea_cons (ev_op rv_I0 (ev_op rv_I0 (ev_op (rv_I (cmL (by omega) (by omega))) (ev_var rfl dv) (ev_var rfl dv))
      (ev_op (rv_I (cmL (by decide) (by decide))) ev_int (ev_var rfl (h2.mono s)))) ev_int) ea_nil)) ev_int) fun v' N' s' dv' => ?_
    exact bd_ret (ev_op (rv_I (show (0 : Int) < 2147483647 by decide)) (ev_cb rc_int (ea_cons (ev_op (rv_I (cmR (by decide) (by decide))) (ev_var rfl dv') ev_int) ea_nil)) ev_int)
def R_generator : List PyData → PyData → Prop := fun ds r => ∃ (ns : List Int) (i : Nat), ds = [.list (ns.map .int), .int (i : Int)] ∧ ∃ a b : Int, r = .list [.int a, .int b, .int (1000 * (i : Int))] ∧
  a = (if 0 > cellF ns i - 10 ^ 18 then 0 else cellF ns i - 10 ^ 18) % (10 ^ 60) ^ 10 ∧ b = cellF ns i % 2147483647
theorem pow_one : (0 : Int) < (10 ^ 60) ^ 10 := by decide
theorem ok_l_generator {f f1 : Addr} {fd fd1 : FuncData} (F : Fun K "_law_generator" "_law_generator" s_l_generator f fd) (T : Txt mg) (C_l_cell : Cal P w K mg base 1 "_law_cell" ps_l_cell f1 fd1 (spR K R_cell)) :
    FnOk P w K mg base CX0 2 f fd ps_l_generator (spR K R_generator) := by
  refine fn_pure F sc_l_generator (fun ds r h => ?_) (fun cdv A outer s H E hr => ⟨_, (pss_cons (ps_set (i := 2) sc_l_generator.nd rfl (.inl rfl) (pe_call C_l_cell.ok (hr.mono (by decide)) (by rfl) C_l_cell.g C_l_cell.kp C_l_cell.b .nil pass0 (pa_cons (pv 0) (pa_cons (pv 1) pa_nil))))
      (pss_one (ps_ret (pe_lst (pa_cons (pe_op op_mod (pe_callTy call_int1 (by rfl) T.m_int bt_int (pa_cons (pe_callB (call_max2 rfl) (by rfl) T.m_max bt_max (pa_cons (pe_op op_sub (pv 2) (pe_op op_powW pe_int pe_int)) (pa_cons pe_int pa_nil))) pa_nil)) (pe_op op_powW (pe_op op_powW pe_int pe_int) pe_int)) (pa_cons (pe_op op_mod (pe_callTy call_int1 (by rfl) T.m_int bt_int (pa_cons (pv 2) pa_nil)) pe_int) (pa_cons (pe_op op_mul pe_int (pv 1)) pa_nil))))))), ?_⟩)
  · obtain ⟨ns, i, rfl, _⟩ := h
    rfl
  · rintro ds r ⟨ns, i, rfl, a, b, rfl, rfl, rfl⟩ Z vs M hds
    obtain ⟨v1, v2, rfl, h1, h2⟩ := hds.c2
    refine bd_asg (ev_call (R := R_cell) ⟨ns, i, rfl, rfl⟩ (ea_cons (ev_var rfl h1) (ea_cons (ev_var rfl h2) ea_nil))) fun v N s dv => ?_
    exact bd_ret (ev_lst (ea_cons (ev_op (rv_I pow_one) (ev_cb rc_int (ea_cons (ev_cb rc_max (ea_cons (ev_op rv_I0 (ev_var rfl dv) (ev_op (rv_I (g := fun i j => i ^ j.toNat) ⟨by decide, by decide +kernel⟩) ev_int ev_int)) (ea_cons ev_int ea_nil))) ea_nil))
        (ev_op (rv_I (g := fun i j => i ^ j.toNat) ⟨by decide, by decide +kernel⟩) (ev_op (rv_I (g := fun i j => i ^ j.toNat) ⟨by decide, by decide +kernel⟩) ev_int ev_int) ev_int))
      (ea_cons (ev_op (rv_I (show (0 : Int) < 2147483647 by decide)) (ev_cb rc_int (ea_cons (ev_var rfl dv) ea_nil)) ev_int)
        (ea_cons (ev_op (rv_I (cmL (by decide) (by decide))) ev_int (ev_var rfl (h2.mono s))) ea_nil))) (by simp))

/-! ### random -/
def P_rnd : List PyData → Prop := fun ds => ∃ lim : Int, 1 ≤ lim ∧ lim < 2 ^ 110 ∧ ds = [.int lim]
def R_rnd : List PyData → PyData → Prop := fun ds r => ∃ lim z : Int, ds = [.int lim] ∧ 0 ≤ z ∧ z < lim ∧ r = .int z
theorem bits_le {x : Int} (h0 : 1 ≤ x) (h : x < 2 ^ 110) : Builtin.Int.intBits x ≤ 110 := by
  have h1 : x.natAbs.log2 < 110 := Nat.log2_lt (by omega) |>.mpr (by omega)
  unfold Builtin.Int.intBits
  split <;> omega
theorem ok_l_random {f f1 : Addr} {fd fd1 : FuncData} (F : Fun K "_law_random" "_law_random" s_l_random f fd) (T : Txt mg) (C_l_hash : Cal P w K mg base 1 "_law_hash" ps_l_hash f1 fd1 (spR K R_hash)) :
    FnOk P w K mg base CX0 2 f fd ps_l_random (spG K 5 P_rnd R_rnd) := by
  refine fn_gen F sc_l_random (fun ds h => ?_) (fun cdv A outer s H E hr => ⟨_, (pss_cons (ps_if (pt_cmpR op_gt (pe_ix (ix_seqK K) (pv 0) pe_int (fun _ _ => rfl)) pe_int (nomark _)) (pss_cons (ps_set (i := 2) sc_l_random.nd rfl (.inl rfl) (pe_op op_mod (pe_callTy call_int1 (by rfl) T.m_int bt_int (pa_cons (pe_ix (ix_seqK K) (pv 0) pe_int (fun _ _ => rfl)) pa_nil)) (pv 1)))
      (pss_cons (ps_asg (pe_op op_fdivW (pe_ix (ix_seqK K) (pv 0) pe_int (fun _ _ => rfl)) (pv 1)) (pg_sub (pv 0) pe_int set_list))
      (pss_one (ps_ret (pv 2))))) pss_nil)
      (pss_cons (ps_set (i := 2) sc_l_random.nd rfl (.inl rfl) pe_int)
      (pss_cons (ps_for PassesOwn.never rfl (pi_range1 (by rfl) T.m_range (pa_cons (pe_op op_add pe_int (pe_op op_fdivW (pe_bits (pv 1)) pe_int)) pa_nil)) (pg_name (i := 3) sc_l_random.nd rfl (Or.inl rfl)) (pss_cons (ps_asg (pe_op op_add (pe_ix (ix_seqK K) (pv 0) pe_int (fun _ _ => rfl)) pe_int) (pg_sub (pv 0) pe_int set_list))
      (pss_one (ps_set (i := 2) sc_l_random.nd rfl (.inl rfl) (pe_op op_add (pe_op op_mul (pv 2) pe_int) (pe_call C_l_hash.ok (hr.mono (by decide)) (by rfl) C_l_hash.g C_l_hash.kp C_l_hash.b .nil pass0 (pa_cons (pe_ix (ix_seqK K) (pv 0) pe_int (fun _ _ => rfl)) (pa_cons (pe_ix (ix_seqK K) (pv 0) pe_int (fun _ _ => rfl)) pa_nil))))))))
      (pss_one (ps_ret (pe_op op_mod (pe_callTy call_int1 (by rfl) T.m_int bt_int (pa_cons (pv 2) pa_nil)) (pv 1))))))), ?_⟩)
  · obtain ⟨lim, _, _, rfl⟩ := h
    rfl
  · rintro ds ⟨lim, l1, l2, rfl⟩ Z n g vs H hg hk hn hd D q
    obtain ⟨v2, rfl, e2⟩ := hd.c1
    cases e2
    obtain ⟨a, b, c, hG, hc⟩ := hk.gen g hg
    have hb := bits_le l1 l2
    refine ⟨_, rfl, .inl ⟨g, _, 0, .int a, rfl, rfl, .of hG, atI_nat (j := 0) rfl, a, 0, rfl, rfl, _, rfl, ite2 (fun e => ?_) (fun e => ?_)⟩⟩
    · -- from the state itself
      refine ⟨_, rfl, .inl ⟨g, _, 0, .int a, rfl, rfl, .of hG, atI_nat (j := 0) rfl, .inl ⟨a, rfl, _, rfl, a, lim, rfl, rfl, (show (0 : Int) < lim by omega), ?_⟩⟩⟩
      refine ⟨_, rfl, .inl ⟨g, _, 0, .int a, rfl, rfl, .of hG, atI_nat (j := 0) rfl, _, rfl, a, lim, rfl, rfl, wide_div (b := 110) (by omega) (by omega) (by decide) (by decide), ?_⟩⟩
      refine ⟨_, rfl, g, _, 0, 0, rfl, rfl, hG, rfl, ?_⟩
      refine ⟨_, rfl, ?_⟩
      have hv : Z.vis (upd H g (.lst [.int (a / lim), .int b, .int c])) = Z.vis H := vis_hid (hid_gen hg)
      exact q (.int (a % lim)) _ _ ⟨lim, _, rfl, Int.emod_nonneg _ (by omega), Int.emod_lt_of_pos _ (by omega), rfl⟩ (by show Same _ (Z.vis (upd H g (.lst [.int (a / lim), .int b, .int c]))); rw [hv]; exact Same.refl _)
        (hk.turn (x := a / lim) (y := b) (m := n + 5) hg (by omega)) (.int _)
    · -- by the hash
      have hj : ((Builtin.Int.intBits lim : Nat) : Int) / 30 ≤ 3 := by omega
      have hj0 : 0 ≤ ((Builtin.Int.intBits lim : Nat) : Int) / 30 := by omega
      refine ⟨_, rfl, lim, rfl, _, 30, rfl, rfl, ⟨by decide, by decide +kernel⟩, 1, _, rfl, rfl, _, rfl, by omega, by omega, ?_⟩
      refine for_range (lo := 0) (fun i σ' H' => ∃ (dr : Int) (y3 : Option V), σ' = [some (.ref g), some (.int lim), some (.int dr), y3] ∧ Same (Z.vis H) (Z.vis H') ∧ Z.ok (n + i) H') ⟨0, none, rfl, Same.refl _, hk⟩ ?_ ?_
      · rintro i σ' H' hi ⟨dr, y3, rfl, s', k'⟩
        have hi' : i < 5 := by omega
        obtain ⟨a, b, c, hG, hc⟩ := k'.gen g hg
        show tSeq _ _ _ [some (.ref g), some (.int lim), some (.int dr), some (.int (0 + (i : Int)))] H'
        refine ⟨_, rfl, .inl ⟨g, _, 2, .int c, rfl, rfl, .of hG, atI_nat (j := 2) rfl, c, 1, rfl, rfl, ?_⟩⟩
        refine ⟨_, rfl, g, _, 2, 2, rfl, rfl, hG, rfl, ?_⟩
        have hv : Z.vis (upd H' g (.lst [.int a, .int b, .int (c + 1)])) = Z.vis H' := vis_hid (hid_gen hg)
        have k2 : Z.ok (n + (i + 1)) (upd H' g (.lst [.int a, .int b, .int (c + 1)])) := k'.turn hg (by omega)
        have hG2 : upd H' g (.lst [.int a, .int b, .int (c + 1)]) g = some (.lst [.int a, .int b, .int (c + 1)]) := upd_same
        refine ⟨_, rfl, _, 2147483587, rfl, rfl, cmR (by decide) (by decide), ?_⟩
        refine ⟨_, rfl, .inl ⟨g, _, 1, .int b, rfl, rfl, .of hG2, atI_nat (j := 1) rfl, _, rfl, .inl ⟨g, _, 2, .int (c + 1), rfl, rfl, .of hG2, atI_nat (j := 2) rfl, ?_⟩⟩⟩
        refine ⟨Z, _, [.int b, .int (c + 1)], _, k2, .cons (.int _) (.cons (.int _) .nil), ⟨b, c + 1, by omega, rfl, rfl⟩, fun v H2 s2 k3 d2 => ?_⟩
        cases d2
        refine ⟨_, _, rfl, rfl, _, _, rfl, ?_, k3⟩
        exact s'.trans (by rw [← hv]; exact s2)
      · rintro σ' H' ⟨dr, y3, rfl, s', k'⟩
        refine ⟨_, rfl, .inl ⟨dr, rfl, _, rfl, dr, lim, rfl, rfl, (show (0 : Int) < lim by omega), ?_⟩⟩
        exact q (.int (dr % lim)) _ _ ⟨lim, _, rfl, Int.emod_nonneg _ (by omega), Int.emod_lt_of_pos _ (by omega), rfl⟩ s' (k'.mono (by omega)) (.int _)
end
end Hw

set_option maxHeartbeats 1000000
/-! HwI: links and contents drawn. -/
namespace Hw
open PySem PySem.Spec L2
section
variable {K : PySem.W.Frag} {Z : Wld} {u t : TS} {D : Ends} {σ : St} {H M : Hp} {v : V} {i j n : Nat} {ta tr : TA} {te tb : TE} {r : R2} {Q : VK} {QL : List V → Hp → Prop} {d : PyData}
theorem c_par (h : ta σ H fun vs H1 => ∃ v w, vs = [v, w] ∧ u D ((σ.set i (some v)).set j (some w)) H1) : tSeq (tPar i j ta) u D σ H := h
theorem c_cons (h : te σ H fun x H1 => tr σ H1 fun xs H2 => QL (x :: xs) H2) : tCons te tr σ H QL := h
theorem c_op (h : te σ H fun x H1 => tb σ H1 fun y H2 => r x y H2 Q) : tOp r te tb σ H Q := h
theorem c_c (h : Q v H) : tC v σ H Q := h
theorem c_v (e : σ[i]? = some (some v)) (h : Q v H) : tVar i σ H Q := ⟨v, e, h⟩
theorem c_asg (h : te σ H fun x H1 => u D (σ.set i (some x)) H1) : tSeq (tAsg te (gName i)) u D σ H := h
theorem c_asg1 (h : te σ H fun x H1 => D.nx (σ.set i (some x)) H1) : tAsg te (gName i) D σ H := h
theorem c_ret (h : te σ H D.rt) : tRet te D σ H := h
theorem c_tup (h : tr σ H fun xs H1 => xs.length ≤ sizeLine ∧ ∀ p, H1 p = none → Q (.ref p) (upd H1 p (.tup xs))) : tTup tr σ H Q := h
theorem c_lst (h : tr σ H fun xs H1 => xs.length ≤ sizeLine ∧ ∀ p, H1 p = none → Q (.ref p) (upd H1 p (.lst xs))) : tLst tr σ H Q := h
theorem c_cb {rc : List V → Hp → VK → Prop} (h : tr σ H fun vs H1 => rc vs H1 Q) : tCB rc tr σ H Q := h
theorem c_ev (h : Ev K Z te σ M d) (s : Same M (Z.vis H)) (k : Z.ok n H) (q : ∀ v H', Same (Z.vis H) (Z.vis H') → Z.ok n H' → Dt K (Z.vis H') v d → Q v H') : te σ H Q := h n H s k Q q
theorem c_seq (h : t { D with nx := u D } σ H) : tSeq t u D σ H := h
/-- a statement, a word between, the rest -/
def tMid (t u : TS) : TS := fun D σ H => ∃ W : St → Hp → Prop, t { D with nx := W } σ H ∧ ∀ σ' H', W σ' H' → u D σ' H'
theorem pss_mid {X : Cx} {st : Stmt} {rest : List Stmt} {t u : TS} (h1 : PS X st t) (h2 : PSs X rest u) : PSs X (st :: rest) (tMid t u) :=
  ⟨fun pins s σ H D I h => by
    obtain ⟨W, a, b⟩ := h
    refine wpAny_execs_cons (thn (h1.run pins s σ H { D with nx := W } I a) fun f s1 q => ?_)
    cases f with
    | next =>
      obtain ⟨σ', H', I', q'⟩ := q
      exact h2.run pins s1 σ' H' D I' (b σ' H' q')
    | ret _ => exact q
    | brk => exact q
    | cont => exact q⟩
end
theorem sz {n : Nat} (h : n ≤ 100000) : n ≤ sizeLine := Nat.le_trans h (by rw [sizeLine_eq]; decide)
section
variable {P : Program} {w : World} {K : PySem.W.Frag} {mg : Str → Option Value} {base : Heap}
theorem rnd_E {lim z0 : Int} {r : PyData} (h : R_rnd [.int lim] r) : ∃ z : Int, 0 ≤ z ∧ z < lim ∧ r = .int z := by
  obtain ⟨l, z, e, h0, h1, rfl⟩ := h
  cases e
  exact ⟨z, h0, h1, rfl⟩
/-! ### link, great -/
def P_link : List PyData → Prop := fun ds => ∃ m : Int, 1 ≤ m ∧ m ≤ 10 ^ 28 ∧ ds = [.int m]
def R_link : List PyData → PyData → Prop := fun _ r => ∃ l : Lnk, l.ok ∧ r = l.D
theorem ok_l_link {f f1 : Addr} {fd fd1 : FuncData} (F : Fun K "_law_link" "_law_link" s_l_link f fd) (C_l_random : Cal P w K mg base 2 "_law_random" ps_l_random f1 fd1 (spG K 5 P_rnd R_rnd)) :
    FnOk P w K mg base CX0 3 f fd ps_l_link (spG K 20 P_link R_link) := by
  refine fn_gen F sc_l_link (fun ds h => ?_) (fun cdv A outer s H E hr => ⟨_, (pss_cons (ps_par (i := 2) (j := 3) (by rfl) sc_l_link.nd rfl rfl (by decide) rfl rfl (pa_cons (pe_op op_add pe_int (pe_call C_l_random.ok (hr.mono (by decide)) (by rfl) C_l_random.g C_l_random.kp C_l_random.b .nil pass0 (pa_cons (pv 0) (pa_cons (pv 1) pa_nil)))) (pa_cons (pe_op op_add pe_int (pe_call C_l_random.ok (hr.mono (by decide)) (by rfl) C_l_random.g C_l_random.kp C_l_random.b .nil pass0 (pa_cons (pv 0) (pa_cons (pv 1) pa_nil)))) pa_nil)) (by rfl))
      (pss_one (ps_ret (pe_tup (pa_cons (pv 2) (pa_cons (pv 3) (pa_cons (pe_op op_add (pv 2) (pe_call C_l_random.ok (hr.mono (by decide)) (by rfl) C_l_random.g C_l_random.kp C_l_random.b .nil pass0 (pa_cons (pv 0) (pa_cons pe_int pa_nil)))) (pa_cons (pe_op op_add (pv 3) (pe_call C_l_random.ok (hr.mono (by decide)) (by rfl) C_l_random.g C_l_random.kp C_l_random.b .nil pass0 (pa_cons (pv 0) (pa_cons pe_int pa_nil)))) pa_nil)))))))), ?_⟩)
  · obtain ⟨m, _, _, rfl⟩ := h
    rfl
  · rintro ds ⟨m, m1, m2, rfl⟩ Z n g vs H hg hk hn hd D q
    obtain ⟨v1, rfl, e1⟩ := hd.c1
    refine c_par (c_cons (c_op (c_c (cg_call (n := n) hg rfl hk (by omega) (ea_cons (ev_var rfl e1) ea_nil) ⟨m, m1, by omega, rfl⟩ fun r v H1 hR s1 k1 d1 => ?_))))
    obtain ⟨z1, a0, a1, rfl⟩ := rnd_E (z0 := 0) hR
    cases d1
    refine ⟨1, z1, rfl, rfl, c_cons (c_op (c_c (cg_call (n := n + 5) hg rfl k1 (by omega) (ea_cons (ev_var rfl (e1.mono s1)) ea_nil) ⟨m, m1, by omega, rfl⟩ fun r v H2 hR s2 k2 d2 => ?_)))⟩
    obtain ⟨z2, b0, b1, rfl⟩ := rnd_E (z0 := 0) hR
    cases d2
    refine ⟨1, z2, rfl, rfl, _, _, rfl, ?_⟩
    refine c_ret (c_tup (c_cons (c_v rfl (c_cons (c_v rfl (c_cons (c_op (c_v rfl (cg_call (n := n + 5 + 5) hg rfl k2 (by omega) (ea_cons ev_int ea_nil) ⟨2, by decide, by decide, rfl⟩ fun r v H3 hR s3 k3 d3 => ?_)))))))))
    obtain ⟨z3, c0, c1, rfl⟩ := rnd_E (z0 := 0) hR
    cases d3
    refine ⟨1 + z1, z3, rfl, rfl, c_cons (c_op (c_v rfl (cg_call (n := n + 5 + 5 + 5) hg rfl k3 (by omega) (ea_cons ev_int ea_nil) ⟨2, by decide, by decide, rfl⟩ fun r v H4 hR s4 k4 d4 => ?_)))⟩
    obtain ⟨z4, f0, f1, rfl⟩ := rnd_E (z0 := 0) hR
    cases d4
    refine ⟨1 + z2, z4, rfl, rfl, sz (by simp), fun p hp => ?_⟩
    exact q _ (.ref p) _ ⟨⟨1 + z1, 1 + z2, 1 + z1 + z3, 1 + z2 + z4⟩, ⟨by show 1 ≤ 1 + z1; omega, by show 1 ≤ 1 + z2; omega, by show 1 ≤ 1 + z1 + z3; omega, by show 1 ≤ 1 + z2 + z4; omega, by show 1 + z1 ≤ _; omega, by show 1 + z2 ≤ _; omega, by show 1 + z1 + z3 ≤ _; omega, by show 1 + z2 + z4 ≤ _; omega⟩, rfl⟩
      ((((s1.trans s2).trans s3).trans s4).trans (k4.same_new hp)) (k4.new hp) (.tup (.of (k4.at_new hp)) (.cons (.int _) (.cons (.int _) (.cons (.int _) (.cons (.int _) .nil)))))
def P_none : List PyData → Prop := fun ds => ds = []
theorem ok_l_great {f f1 : Addr} {fd fd1 : FuncData} (F : Fun K "_law_great" "_law_great" s_l_great f fd) (C_l_random : Cal P w K mg base 2 "_law_random" ps_l_random f1 fd1 (spG K 5 P_rnd R_rnd)) :
    FnOk P w K mg base CX0 3 f fd ps_l_great (spG K 20 P_none R_link) := by
  refine fn_gen F sc_l_great (fun ds h => ?_) (fun cdv A outer s H E hr => ⟨_, (pss_cons (ps_par (i := 2) (j := 3) (by rfl) sc_l_great.nd rfl rfl (by decide) rfl rfl (pa_cons (pe_op op_add pe_int (pe_call C_l_random.ok (hr.mono (by decide)) (by rfl) C_l_random.g C_l_random.kp C_l_random.b .nil pass0 (pa_cons (pv 0) (pa_cons (pe_op op_powW pe_int pe_int) pa_nil)))) (pa_cons (pe_op op_add pe_int (pe_call C_l_random.ok (hr.mono (by decide)) (by rfl) C_l_random.g C_l_random.kp C_l_random.b .nil pass0 (pa_cons (pv 0) (pa_cons (pe_op op_powW pe_int pe_int) pa_nil)))) pa_nil)) (by rfl))
      (pss_cons (ps_set (i := 1) sc_l_great.nd rfl (.inl rfl) (pe_lst (pa_cons pe_int (pa_cons pe_int (pa_cons (pe_op op_powW pe_int pe_int) pa_nil)))))
      (pss_one (ps_ret (pe_tup (pa_cons (pv 2) (pa_cons (pv 3) (pa_cons (pe_op op_add (pv 2) (pe_ix (ix_seqK K) (pv 1) (pe_call C_l_random.ok (hr.mono (by decide)) (by rfl) C_l_random.g C_l_random.kp C_l_random.b .nil pass0 (pa_cons (pv 0) (pa_cons pe_int pa_nil))) (fun _ _ => rfl))) (pa_cons (pe_op op_add (pv 3) (pe_ix (ix_seqK K) (pv 1) (pe_call C_l_random.ok (hr.mono (by decide)) (by rfl) C_l_random.g C_l_random.kp C_l_random.b .nil pass0 (pa_cons (pv 0) (pa_cons pe_int pa_nil))) (fun _ _ => rfl))) pa_nil))))))))), ?_⟩)
  · obtain rfl := h
    rfl
  · rintro ds rfl Z n g vs H hg hk hn hd D q
    cases hd
    have pw : ∀ (σ : St) (M : Hp), Ev K Z (tOp (rI CPowW fun i j => .int (i ^ j.toNat)) (tC (.int 10)) (tC (.int 28))) σ M (.int (10 ^ 28)) := fun σ M => ev_op (rv_I (g := fun i j => i ^ j.toNat) ⟨by decide, by decide +kernel⟩) ev_int ev_int
    refine c_par (c_cons (c_op (c_c (cg_call (n := n) hg rfl hk (by omega) (ea_cons (pw _ _) ea_nil) ⟨10 ^ 28, by decide, by decide, rfl⟩ fun r v H1 hR s1 k1 d1 => ?_))))
    obtain ⟨z1, a0, a1, rfl⟩ := rnd_E (z0 := 0) hR
    cases d1
    refine ⟨1, z1, rfl, rfl, c_cons (c_op (c_c (cg_call (n := n + 5) hg rfl k1 (by omega) (ea_cons (pw _ _) ea_nil) ⟨10 ^ 28, by decide, by decide, rfl⟩ fun r v H2 hR s2 k2 d2 => ?_)))⟩
    obtain ⟨z2, b0, b1, rfl⟩ := rnd_E (z0 := 0) hR
    cases d2
    refine ⟨1, z2, rfl, rfl, _, _, rfl, ?_⟩
    refine c_asg (c_ev (K := K) (d := .list [.int 0, .int 1, .int (10 ^ 27)]) (ev_lst (ea_cons ev_int (ea_cons ev_int (ea_cons (ev_op (rv_I (g := fun i j => i ^ j.toNat) ⟨by decide, by decide +kernel⟩) ev_int ev_int) ea_nil))) (by simp)) (Same.refl _) k2 fun vm H3 s3 k3 dm => ?_)
    have pick : ∀ (z : Int) (H' : Hp), 0 ≤ z → z < 3 → Same (Z.vis H3) (Z.vis H') → ∀ Q : VK, (∀ y : Int, 0 ≤ y → y ≤ 10 ^ 27 → Q (.int y) H') → rIx K vm (.int z) H' Q := fun z H' h0 h1 s' Q q' => by
      obtain ⟨p, xs, rfl, hq, hs⟩ := dm.lstE
      obtain ⟨x1, x2, x3, rfl, g1, g2, g3⟩ := hs.c3
      cases g1
      cases g2
      cases g3
      have hl : SqL K H' p [.int 0, .int 1, .int (10 ^ 27)] := (s'.trans vis_same).seq hq
      have hz : z = 0 ∨ z = 1 ∨ z = 2 := by omega
      rcases hz with rfl | rfl | rfl
      · exact .inl ⟨p, _, 0, _, rfl, rfl, hl, atI_nat (j := 0) rfl, q' 0 (by decide) (by decide)⟩
      · exact .inl ⟨p, _, 1, _, rfl, rfl, hl, atI_nat (j := 1) rfl, q' 1 (by decide) (by decide)⟩
      · exact .inl ⟨p, _, 2, _, rfl, rfl, hl, atI_nat (j := 2) rfl, q' _ (by decide) (by decide)⟩
    refine c_ret (c_tup (c_cons (c_v rfl (c_cons (c_v rfl (c_cons (c_op (c_v rfl (c_op (c_v rfl (cg_call (n := n + 5 + 5) hg rfl k3 (by omega) (ea_cons ev_int ea_nil) ⟨3, by decide, by decide, rfl⟩ fun r v H4 hR s4 k4 d4 => ?_)))))))))))
    obtain ⟨z3, c0, c1, rfl⟩ := rnd_E (z0 := 0) hR
    cases d4
    refine pick z3 H4 c0 c1 s4 _ fun y3 y30 y31 => ?_
    refine ⟨1 + z1, y3, rfl, rfl, c_cons (c_op (c_v rfl (c_op (c_v rfl (cg_call (n := n + 5 + 5 + 5) hg rfl k4 (by omega) (ea_cons ev_int ea_nil) ⟨3, by decide, by decide, rfl⟩ fun r v H5 hR s5 k5 d5 => ?_)))))⟩
    obtain ⟨z4, f0, f1, rfl⟩ := rnd_E (z0 := 0) hR
    cases d5
    refine pick z4 H5 f0 f1 (s4.trans s5) _ fun y4 y40 y41 => ?_
    refine ⟨1 + z2, y4, rfl, rfl, sz (by simp), fun p hp => ?_⟩
    exact q _ (.ref p) _ ⟨⟨1 + z1, 1 + z2, 1 + z1 + y3, 1 + z2 + y4⟩, ⟨by show 1 ≤ 1 + z1; omega, by show 1 ≤ 1 + z2; omega, by show 1 ≤ 1 + z1 + y3; omega, by show 1 ≤ 1 + z2 + y4; omega, by show 1 + z1 ≤ _; omega, by show 1 + z2 ≤ _; omega, by show 1 + z1 + y3 ≤ _; omega, by show 1 + z2 + y4 ≤ _; omega⟩, rfl⟩
      (((((s1.trans s2).trans s3).trans s4).trans s5).trans (k5.same_new hp)) (k5.new hp) (.tup (.of (k5.at_new hp)) (.cons (.int _) (.cons (.int _) (.cons (.int _) (.cons (.int _) .nil)))))

/-! ### few -/
def P_few : List PyData → Prop := fun ds => ∃ m : Int, 0 ≤ m ∧ m ≤ 10 ^ 30 ∧ ds = [.int m]
def R_few : List PyData → PyData → Prop := fun ds r => ∃ m z : Int, ds = [.int m] ∧ 0 ≤ z ∧ z ≤ m ∧ r = .int z
theorem few_E {m : Int} {r : PyData} (h : R_few [.int m] r) : ∃ z : Int, 0 ≤ z ∧ z ≤ m ∧ r = .int z := by
  obtain ⟨l, z, e, h0, h1, rfl⟩ := h
  cases e
  exact ⟨z, h0, h1, rfl⟩
theorem ok_l_few {f f1 : Addr} {fd fd1 : FuncData} (F : Fun K "_law_few" "_law_few" s_l_few f fd) (T : Txt mg) (C_l_random : Cal P w K mg base 2 "_law_random" ps_l_random f1 fd1 (spG K 5 P_rnd R_rnd)) :
    FnOk P w K mg base CX0 3 f fd ps_l_few (spG K 10 P_few R_few) := by
  refine fn_gen F sc_l_few (fun ds h => ?_) (fun cdv A outer s H E hr => ⟨_, (pss_cons (ps_set (i := 2) sc_l_few.nd rfl (.inl rfl) (pe_lst (pa_cons pe_int (pa_cons pe_int (pa_cons (pe_op op_sub (pv 1) pe_int) (pa_cons (pv 1) (pa_cons (pe_call C_l_random.ok (hr.mono (by decide)) (by rfl) C_l_random.g C_l_random.kp C_l_random.b .nil pass0 (pa_cons (pv 0) (pa_cons (pe_op op_add (pv 1) pe_int) pa_nil))) pa_nil)))))))
      (pss_one (ps_ret (pe_callB (call_min2 rfl) (by rfl) T.m_min bt_min (pa_cons (pe_callB (call_max2 rfl) (by rfl) T.m_max bt_max (pa_cons (pe_ix (ix_seqK K) (pv 2) (pe_call C_l_random.ok (hr.mono (by decide)) (by rfl) C_l_random.g C_l_random.kp C_l_random.b .nil pass0 (pa_cons (pv 0) (pa_cons pe_int pa_nil))) (fun _ _ => rfl)) (pa_cons pe_int pa_nil))) (pa_cons (pv 1) pa_nil)))))), ?_⟩)
  · obtain ⟨m, _, _, rfl⟩ := h
    rfl
  · rintro ds ⟨m, m0, m1, rfl⟩ Z n g vs H hg hk hn hd D q
    obtain ⟨v1, rfl, e1⟩ := hd.c1
    cases e1
    refine c_asg (c_lst (c_cons (c_c (c_cons (c_c (c_cons (c_op (c_v rfl (c_c ⟨m, 1, rfl, rfl, c_cons (c_v rfl (c_cons (cg_call (n := n) hg rfl hk (by omega) (ea_cons (ev_op rv_I0 (ev_var rfl (.int m)) ev_int) ea_nil) ⟨m + 1, by omega, by omega, rfl⟩ fun r v H1 hR s1 k1 d1 => ?_)))⟩)))))))))
    obtain ⟨z1, a0, a1, rfl⟩ := rnd_E (z0 := 0) hR
    cases d1
    refine ⟨sz (by simp), fun p hp => ?_⟩
    have k2 := k1.new (o := .lst [.int 0, .int 1, .int (m - 1), .int m, .int z1]) hp
    have s2 := k1.same_new (o := .lst [.int 0, .int 1, .int (m - 1), .int m, .int z1]) hp
    have hp2 : Z.vis (upd H1 p (.lst [.int 0, .int 1, .int (m - 1), .int m, .int z1])) p = some (.lst [.int 0, .int 1, .int (m - 1), .int m, .int z1]) := k1.at_new hp
    refine c_ret (c_cb (c_cons (c_cb (c_cons (c_op (c_v rfl (cg_call (n := n + 5) hg rfl k2 (by omega) (ea_cons ev_int ea_nil) ⟨5, by decide, by decide, rfl⟩ fun r v H3 hR s3 k3 d3 => ?_)))))))
    obtain ⟨z2, b0, b1, rfl⟩ := rnd_E (z0 := 0) hR
    cases d3
    have hl : SqL K H3 p [.int 0, .int 1, .int (m - 1), .int m, .int z1] := .of (vis_same _ _ (s3 _ _ hp2))
    have key : ∃ y : Int, atI [V.int 0, .int 1, .int (m - 1), .int m, .int z1] z2 = some (.int y) := by
      have hz : z2 = 0 ∨ z2 = 1 ∨ z2 = 2 ∨ z2 = 3 ∨ z2 = 4 := by omega
      rcases hz with rfl | rfl | rfl | rfl | rfl
      · exact ⟨_, atI_nat (j := 0) rfl⟩
      · exact ⟨_, atI_nat (j := 1) rfl⟩
      · exact ⟨_, atI_nat (j := 2) rfl⟩
      · exact ⟨_, atI_nat (j := 3) rfl⟩
      · exact ⟨_, atI_nat (j := 4) rfl⟩
    obtain ⟨y, hy⟩ := key
    refine .inl ⟨p, _, z2, _, rfl, rfl, hl, hy, y, 0, rfl, _, rfl, _, m, rfl, ?_⟩
    refine q _ _ H3 ⟨m, _, rfl, ?_, ?_, rfl⟩ ((s1.trans s2).trans s3) k3 (.int _)
    · split <;> split <;> omega
    · split <;> split <;> omega
end
end Hw

set_option maxHeartbeats 1000000
/-! HwJ: contents drawn. -/
namespace Hw
open PySem PySem.Spec L2
section
variable {K : PySem.W.Frag} {Z : Wld} {u t : TS} {D : Ends} {σ τ : St} {H M : Hp} {v : V} {te : TE} {QB : Bool → Hp → Prop}
theorem c_is (τ : St) (e : σ = τ) (h : u D τ H) : u D σ H := e ▸ h
theorem c_tst (h : te σ H fun x H' => ∃ k, x = .bl k ∧ QB k H') : tTest te σ H QB := h
/-- an item of a list of data -/
theorem pick_L {ds : List PyData} {p : Addr} {xs : List V} {z : Int} {d : PyData} {Q : VK} {H : Hp} (hq : SqL K M p xs) (hs : Dts K M xs ds) (s : Same M H) (h : atI ds z = some d) (q : ∀ x, Dt K M x d → Q x H) : rIx K (.ref p) (.int z) H Q := by
  obtain ⟨x, hx, dx⟩ := atI_dts hs h
  exact .inl ⟨p, xs, z, x, rfl, rfl, s.seq hq, hx, q x dx⟩
end
section
variable {P : Program} {w : World} {K : PySem.W.Frag} {mg : Str → Option Value} {base : Heap}
def P_contents : List PyData → Prop := fun ds => ∃ l : Lnk, l.ok ∧ ds = [l.D]
def R_contents : List PyData → PyData → Prop := fun ds r => ∃ (l : Lnk) (x : Cts), x.ok l ∧ ds = [l.D] ∧ r = x.D
theorem Lnk.inj {l m : Lnk} (h : l.D = m.D) : l = m := by
  obtain ⟨a, b, c, d⟩ := l
  obtain ⟨a', b', c', d'⟩ := m
  simp only [Lnk.D, PyData.tuple.injEq, List.cons.injEq, PyData.int.injEq] at h
  obtain ⟨rfl, rfl, rfl, rfl, _⟩ := h
  rfl
theorem ok_l_contents {f f1 f2 : Addr} {fd fd1 fd2 : FuncData} (F : Fun K "_law_contents" "_law_contents" s_l_contents f fd) (T : Txt mg) (C_l_random : Cal P w K mg base 2 "_law_random" ps_l_random f1 fd1 (spG K 5 P_rnd R_rnd))
    (C_l_few : Cal P w K mg base 3 "_law_few" ps_l_few f2 fd2 (spG K 10 P_few R_few)) :
    FnOk P w K mg base CX0 4 f fd ps_l_contents (spG K 110 P_contents R_contents) := by
  refine fn_gen F sc_l_contents (fun ds h => ?_) (fun cdv A outer s H E hr => ⟨_, (pss_cons (ps_asg (pv 1) (pg_tup (by rfl) (pgs_cons (pg_name (i := 8) sc_l_contents.nd rfl (Or.inl rfl)) (pgs_cons (pg_name (i := 9) sc_l_contents.nd rfl (Or.inl rfl)) (pgs_cons (pg_name (i := 10) sc_l_contents.nd rfl (Or.inl rfl)) (pgs_cons (pg_name (i := 11) sc_l_contents.nd rfl (Or.inl rfl)) pgs_nil))))))
      (pss_cons (ps_par (i := 12) (j := 13) (by rfl) sc_l_contents.nd rfl rfl (by decide) rfl rfl (pa_cons (pe_call C_l_random.ok (hr.mono (by decide)) (by rfl) C_l_random.g C_l_random.kp C_l_random.b .nil pass0 (pa_cons (pv 0) (pa_cons pe_int pa_nil))) (pa_cons (pe_call C_l_random.ok (hr.mono (by decide)) (by rfl) C_l_random.g C_l_random.kp C_l_random.b .nil pass0 (pa_cons (pv 0) (pa_cons pe_int pa_nil))) pa_nil)) (by rfl))
      (pss_cons (ps_par (i := 14) (j := 15) (by rfl) sc_l_contents.nd rfl rfl (by decide) rfl rfl (pa_cons (pe_call C_l_few.ok (hr.mono (by decide)) (by rfl) C_l_few.g C_l_few.kp C_l_few.b .nil pass0 (pa_cons (pv 0) (pa_cons (pe_op op_sub (pv 11) pe_int) pa_nil))) (pa_cons pe_non pa_nil)) (by rfl))
      (pss_mid (ps_if (PW.pt (pw_and (pt_cmpR op_gt (pv 10) pe_int (nomark _)) (pw_and1 (pt_cmpR op_gt (pe_call C_l_random.ok (hr.mono (by decide)) (by rfl) C_l_random.g C_l_random.kp C_l_random.b .nil pass0 (pa_cons (pv 0) (pa_cons pe_int pa_nil))) pe_int (nomark _))))) (pss_cons (ps_set (i := 16) sc_l_contents.nd rfl (.inl rfl) (pe_ifExp (PW.pt (pw_or (pt_cmpR (op_eqD hr.units) (pv 12) (pv 13) (nomark _)) (pw_or1 (pt_cmpR op_gt (pe_call C_l_random.ok (hr.mono (by decide)) (by rfl) C_l_random.g C_l_random.kp C_l_random.b .nil pass0 (pa_cons (pv 0) (pa_cons pe_int pa_nil))) pe_int (nomark _))))) pe_str pe_str))
      (pss_one (ps_set (i := 15) sc_l_contents.nd rfl (.inl rfl) (pe_tup (pa_cons (pv 16) (pa_cons (pe_callB (call_max2 rfl) (by rfl) T.m_max bt_max (pa_cons pe_int (pa_cons (pe_call C_l_few.ok (hr.mono (by decide)) (by rfl) C_l_few.g C_l_few.kp C_l_few.b .nil pass0 (pa_cons (pv 0) (pa_cons (pe_op op_sub (pv 10) pe_int) pa_nil))) pa_nil))) pa_nil)))))) pss_nil)
      (pss_cons (ps_set (i := 2) sc_l_contents.nd rfl (.inl rfl) (pe_call C_l_few.ok (hr.mono (by decide)) (by rfl) C_l_few.g C_l_few.kp C_l_few.b .nil pass0 (pa_cons (pv 0) (pa_cons (pv 8) pa_nil))))
      (pss_cons (ps_set (i := 3) sc_l_contents.nd rfl (.inl rfl) (pe_call C_l_few.ok (hr.mono (by decide)) (by rfl) C_l_few.g C_l_few.kp C_l_few.b .nil pass0 (pa_cons (pv 0) (pa_cons (pe_op op_sub (pv 8) (pv 2)) pa_nil))))
      (pss_cons (ps_set (i := 4) sc_l_contents.nd rfl (.inl rfl) (pe_call C_l_few.ok (hr.mono (by decide)) (by rfl) C_l_few.g C_l_few.kp C_l_few.b .nil pass0 (pa_cons (pv 0) (pa_cons (pe_op op_sub (pe_op op_sub (pv 8) (pv 2)) (pv 3)) pa_nil))))
      (pss_cons (ps_set (i := 5) sc_l_contents.nd rfl (.inl rfl) (pe_ix (ix_seqK K) (pe_lst (pa_cons (pe_tup (pa_cons (pv 4) (pa_cons (pv 2) (pa_cons (pv 3) pa_nil)))) (pa_cons (pe_tup (pa_cons (pv 4) (pa_cons (pv 3) (pa_cons (pv 2) pa_nil)))) (pa_cons (pe_tup (pa_cons (pv 2) (pa_cons (pv 3) (pa_cons (pv 4) pa_nil)))) pa_nil)))) (pe_call C_l_random.ok (hr.mono (by decide)) (by rfl) C_l_random.g C_l_random.kp C_l_random.b .nil pass0 (pa_cons (pv 0) (pa_cons pe_int pa_nil))) (fun _ _ => rfl)))
      (pss_cons (ps_set (i := 6) sc_l_contents.nd rfl (.inl rfl) (pe_call C_l_few.ok (hr.mono (by decide)) (by rfl) C_l_few.g C_l_few.kp C_l_few.b .nil pass0 (pa_cons (pv 0) (pa_cons (pv 9) pa_nil))))
      (pss_cons (ps_set (i := 7) sc_l_contents.nd rfl (.inl rfl) (pe_call C_l_few.ok (hr.mono (by decide)) (by rfl) C_l_few.g C_l_few.kp C_l_few.b .nil pass0 (pa_cons (pv 0) (pa_cons (pe_op op_sub (pv 9) (pv 6)) pa_nil))))
      (pss_one (ps_ret (pe_tup (pa_cons (pe_tup (pa_cons (pv 12) (pa_cons (pv 14) pa_nil))) (pa_cons (pe_tup (pa_cons (pv 13) (pa_cons (pv 15) (pa_cons (pe_cmpR (op_eqD hr.units) (pe_call C_l_random.ok (hr.mono (by decide)) (by rfl) C_l_random.g C_l_random.kp C_l_random.b .nil pass0 (pa_cons (pv 0) (pa_cons pe_int pa_nil))) pe_int (nomark _)) pa_nil)))) (pa_cons (pv 5) (pa_cons (pe_ix (ix_seqK K) (pe_lst (pa_cons (pe_tup (pa_cons (pv 6) (pa_cons (pv 7) pa_nil))) (pa_cons (pe_tup (pa_cons (pv 7) (pa_cons (pv 6) pa_nil))) pa_nil))) (pe_call C_l_random.ok (hr.mono (by decide)) (by rfl) C_l_random.g C_l_random.kp C_l_random.b .nil pass0 (pa_cons (pv 0) (pa_cons pe_int pa_nil))) (fun _ _ => rfl)) pa_nil))))))))))))))))), ?_⟩)
  · obtain ⟨l, _, rfl⟩ := h
    rfl
  · rintro ds ⟨l, hl, rfl⟩ Z n g vs H hg hk hn hd D q
    obtain ⟨v1, rfl, e1⟩ := hd.c1
    obtain ⟨lp, xs, rfl, hq, hs⟩ := e1.tupE
    obtain ⟨x1, x2, x3, x4, rfl, g1, g2, g3, g4⟩ := hs.c4
    cases g1
    cases g2
    cases g3
    cases g4
    have lc1 := hl.c1
    have ld1 := hl.d1
    have lp1 := hl.p1
    have lq1 := hl.q1
    have lc2 := hl.c2
    have ld2 := hl.d2
    have lp2 := hl.p2
    have lq2 := hl.q2
    refine ⟨_, rfl, lp, _, rfl, same_t vis_same hq, rfl, _, _, rfl, _, _, rfl, _, _, rfl, _, _, rfl, rfl, ?_⟩
    refine c_is [some (.ref g), some (.ref lp), none, none, none, none, none, none, some (.int l.c), some (.int l.d), some (.int l.p), some (.int l.q), none, none, none, none, none] rfl ?_
    -- bit, other
    refine c_par (c_cons (cg_call (n := n) hg rfl hk (by omega) (ea_cons ev_int ea_nil) ⟨2, by decide, by decide, rfl⟩ fun r v H1 hR s1 k1 d1 => ?_))
    obtain ⟨bi, b0, b1, rfl⟩ := rnd_E (z0 := 0) hR
    cases d1
    refine c_cons (cg_call (n := n + 5) hg rfl k1 (by omega) (ea_cons ev_int ea_nil) ⟨2, by decide, by decide, rfl⟩ fun r v H2 hR s2 k2 d2 => ?_)
    obtain ⟨ot, o0, o1, rfl⟩ := rnd_E (z0 := 0) hR
    cases d2
    refine ⟨_, _, rfl, ?_⟩
    refine c_is [some (.ref g), some (.ref lp), none, none, none, none, none, none, some (.int l.c), some (.int l.d), some (.int l.p), some (.int l.q), some (.int bi), some (.int ot), none, none, none] rfl ?_
    -- heard, lot
    refine c_par (c_cons (cg_call (n := n + 5 + 5) hg rfl k2 (by omega) (ea_cons (ev_op rv_I0 (ev_var rfl (.int l.q)) ev_int) ea_nil) ⟨l.q - 1, by omega, by omega, rfl⟩ fun r v H3 hR s3 k3 d3 => ?_))
    obtain ⟨he, h0, h1, rfl⟩ := few_E hR
    cases d3
    refine c_cons (c_c ⟨_, _, rfl, ?_⟩)
    refine c_is [some (.ref g), some (.ref lp), none, none, none, none, none, none, some (.int l.c), some (.int l.d), some (.int l.p), some (.int l.q), some (.int bi), some (.int ot), some (.int he), some .non, none] rfl ?_
    have s03 := (s1.trans s2).trans s3
    -- the lot
    refine ⟨fun σ' H' => ∃ (lot : Option (Bool × Int)) (vl : V) (y : Option V), σ' = [some (.ref g), some (.ref lp), none, none, none, none, none, none, some (.int l.c), some (.int l.d), some (.int l.p), some (.int l.q), some (.int bi), some (.int ot), some (.int he), some vl, y] ∧
      Same (Z.vis H3) (Z.vis H') ∧ Z.ok (n + 40) H' ∧ Dt K (Z.vis H') vl (lotD lot) ∧ lotOk l (bi == ot) lot, ?_, ?_⟩
    · have none_ : ∀ (H' : Hp) (m : Nat), m ≤ n + 40 → Same (Z.vis H3) (Z.vis H') → Z.ok m H' → ∃ (lot : Option (Bool × Int)) (vl : V) (y : Option V), ([some (.ref g), some (.ref lp), none, none, none, none, none, none, some (.int l.c), some (.int l.d), some (.int l.p), some (.int l.q), some (.int bi), some (.int ot), some (.int he), some .non, none] : L2.St) = [some (.ref g), some (.ref lp), none, none, none, none, none, none, some (.int l.c), some (.int l.d), some (.int l.p), some (.int l.q), some (.int bi), some (.int ot), some (.int he), some vl, y] ∧
          Same (Z.vis H3) (Z.vis H') ∧ Z.ok (n + 40) H' ∧ Dt K (Z.vis H') vl (lotD lot) ∧ lotOk l (bi == ot) lot := fun H' m hm s' k' => ⟨Option.none, .non, Option.none, rfl, s', k'.mono hm, .non, trivial⟩
      refine ⟨_, rfl, l.p, 1, rfl, rfl, _, rfl, ite2 (fun e => ?_) (fun e => iteF (none_ H3 _ (by omega) (Same.refl _) k3))⟩
      have hp1 : 1 < l.p := of_decide_eq_true e
      refine c_tst (c_op (cg_call (n := n + 5 + 5 + 10) hg rfl k3 (by omega) (ea_cons ev_int ea_nil) ⟨3, by decide, by decide, rfl⟩ fun r v H4 hR s4 k4 d4 => ?_))
      obtain ⟨z4, a0, a1, rfl⟩ := rnd_E (z0 := 0) hR
      cases d4
      refine ⟨z4, 0, rfl, rfl, _, rfl, ite2 (fun e => ?_) (fun e => none_ H4 _ (by omega) s4 k4)⟩
      have fin : ∀ (sn : Bool) (H5 : Hp) (m : Nat), m ≤ n + 30 → (sn = true → (bi == ot) = false) → Same (Z.vis H3) (Z.vis H5) → Z.ok m H5 →
          tAsg (tTup (tCons (tVar 16) (tCons (tCB (fun xs H Q => ∃ i j, xs = [V.int i, V.int j] ∧ Q (V.int (if j > i then j else i)) H) (tCons (tC (.int 1)) (tCons (tCall (spG K 10 P_few R_few) [] E0 (tCons (tVar 0) (tCons (tOp (rI0 fun i j => .int (i - j)) (tVar 10) (tC (.int 1))) tNil))) tNil))) tNil))) (gName 15)
            { nx := fun σ' H' => ∃ (lot : Option (Bool × Int)) (vl : V) (y : Option V), σ' = [some (.ref g), some (.ref lp), none, none, none, none, none, none, some (.int l.c), some (.int l.d), some (.int l.p), some (.int l.q), some (.int bi), some (.int ot), some (.int he), some vl, y] ∧
              Same (Z.vis H3) (Z.vis H') ∧ Z.ok (n + 40) H' ∧ Dt K (Z.vis H') vl (lotD lot) ∧ lotOk l (bi == ot) lot, rt := D.rt, bk := D.bk, ct := D.ct }
            [some (.ref g), some (.ref lp), none, none, none, none, none, none, some (.int l.c), some (.int l.d), some (.int l.p), some (.int l.q), some (.int bi), some (.int ot), some (.int he), some .non, some (.str (sortT sn))] H5 := fun sn H5 m hm hsn s5 k5 => by
        refine c_asg1 (c_tup (c_cons (c_v rfl (c_cons (c_cb (c_cons (c_c (c_cons (cg_call (n := n + 30) hg rfl (k5.mono hm) (by omega) (ea_cons (ev_op rv_I0 (ev_var rfl (.int l.p)) ev_int) ea_nil) ⟨l.p - 1, by omega, by omega, rfl⟩ fun r v H6 hR s6 k6 d6 => ?_)))))))))
        obtain ⟨z6, f0, f1, rfl⟩ := few_E hR
        cases d6
        refine ⟨1, z6, rfl, sz (by simp), fun p hp => ?_⟩
        refine ⟨some (sn, if z6 > 1 then z6 else 1), .ref p, _, rfl, (s5.trans s6).trans (k6.same_new hp), k6.new hp, .tup (.of (k6.at_new hp)) (.cons (.str _) (.cons (.int _) .nil)), hsn, ?_, ?_⟩
        · split <;> omega
        · split <;> omega
      refine ⟨_, rfl, _, rfl, .int bi, .int ot, .int _, .int _, sh_int _, sh_int _, _, rfl, ite2 (fun e => ?_) (fun e => ?_)⟩
      · exact iteT (fin false H4 _ (by omega) (fun z => by cases z) s4 k4)
      · have hne : (bi == ot) = false := by
          rw [eqv_int] at e
          simpa using e
        refine c_tst (c_op (cg_call (n := n + 5 + 5 + 10 + 5) hg rfl k4 (by omega) (ea_cons ev_int ea_nil) ⟨3, by decide, by decide, rfl⟩ fun r v H5 hR s5 k5 d5 => ?_))
        obtain ⟨z5, c0, c1, rfl⟩ := rnd_E (z0 := 0) hR
        cases d5
        refine ⟨z5, 0, rfl, rfl, _, rfl, ite2 (fun e => ?_) (fun e => ?_)⟩
        · exact fin false H5 _ (by omega) (fun z => by cases z) (s4.trans s5) k5
        · exact fin true H5 _ (by omega) (fun _ => hne) (s4.trans s5) k5
    · rintro σ' H4 ⟨lot, vl, y, rfl, s4, k4, dl, hlot⟩
      -- first, second, third
      refine c_asg (cg_call (n := n + 40) hg rfl k4 (by omega) (ea_cons (ev_var rfl (.int l.c)) ea_nil) ⟨l.c, by omega, by omega, rfl⟩ fun r v H5 hR s5 k5 d5 => ?_)
      obtain ⟨fi, f0, f1, rfl⟩ := few_E hR
      cases d5
      refine c_asg (cg_call (n := n + 40 + 10) hg rfl k5 (by omega) (ea_cons (ev_op rv_I0 (ev_var rfl (.int l.c)) (ev_var rfl (.int fi))) ea_nil) ⟨l.c - fi, by omega, by omega, rfl⟩ fun r v H6 hR s6 k6 d6 => ?_)
      obtain ⟨se, e0, e1', rfl⟩ := few_E hR
      cases d6
      refine c_asg (cg_call (n := n + 40 + 10 + 10) hg rfl k6 (by omega) (ea_cons (ev_op rv_I0 (ev_op rv_I0 (ev_var rfl (.int l.c)) (ev_var rfl (.int fi))) (ev_var rfl (.int se))) ea_nil) ⟨l.c - fi - se, by omega, by omega, rfl⟩ fun r v H7 hR s7 k7 d7 => ?_)
      obtain ⟨th, t0, t1, rfl⟩ := few_E hR
      cases d7
      refine c_is [some (.ref g), some (.ref lp), some (.int fi), some (.int se), some (.int th), none, none, none, some (.int l.c), some (.int l.d), some (.int l.p), some (.int l.q), some (.int bi), some (.int ot), some (.int he), some vl, y] rfl ?_
      -- there
      refine c_asg (c_op (c_ev (K := K) (d := .list [.tuple [.int th, .int fi, .int se], .tuple [.int th, .int se, .int fi], .tuple [.int fi, .int se, .int th]])
        (ev_lst (ea_cons (ev_tup (ea_cons (ev_var rfl (.int th)) (ea_cons (ev_var rfl (.int fi)) (ea_cons (ev_var rfl (.int se)) ea_nil))) (by simp)) (ea_cons (ev_tup (ea_cons (ev_var rfl (.int th)) (ea_cons (ev_var rfl (.int se)) (ea_cons (ev_var rfl (.int fi)) ea_nil))) (by simp))
          (ea_cons (ev_tup (ea_cons (ev_var rfl (.int fi)) (ea_cons (ev_var rfl (.int se)) (ea_cons (ev_var rfl (.int th)) ea_nil))) (by simp)) ea_nil))) (by simp)) (Same.refl _) k7 fun va H8 s8 k8 da =>
        cg_call (n := n + 40 + 10 + 10 + 10) hg rfl k8 (by omega) (ea_cons ev_int ea_nil) ⟨3, by decide, by decide, rfl⟩ fun r v H9 hR s9 k9 d9 => ?_))
      obtain ⟨z9, w0, w1, rfl⟩ := rnd_E (z0 := 0) hR
      cases d9
      obtain ⟨pa, xa, rfl, hqa, hsa⟩ := da.lstE
      have pk : ∃ a b c : Int, atI ([.tuple [.int th, .int fi, .int se], .tuple [.int th, .int se, .int fi], .tuple [.int fi, .int se, .int th]] : List PyData) z9 = some (.tuple [.int a, .int b, .int c]) ∧ 0 ≤ a ∧ 0 ≤ b ∧ 0 ≤ c ∧ a + b + c ≤ l.c := by
        have hz : z9 = 0 ∨ z9 = 1 ∨ z9 = 2 := by omega
        rcases hz with rfl | rfl | rfl
        · exact ⟨_, _, _, atI_nat (j := 0) rfl, by omega, by omega, by omega, by omega⟩
        · exact ⟨_, _, _, atI_nat (j := 1) rfl, by omega, by omega, by omega, by omega⟩
        · exact ⟨_, _, _, atI_nat (j := 2) rfl, by omega, by omega, by omega, by omega⟩
      obtain ⟨nw, zs, os, hpk, nw0, zs0, os0, hsum⟩ := pk
      refine pick_L hqa hsa (s9.trans vis_same) hpk fun vt dt => ?_
      refine c_is [some (.ref g), some (.ref lp), some (.int fi), some (.int se), some (.int th), some vt, none, none, some (.int l.c), some (.int l.d), some (.int l.p), some (.int l.q), some (.int bi), some (.int ot), some (.int he), some vl, y] rfl ?_
      -- low, high
      refine c_asg (cg_call (n := n + 40 + 10 + 10 + 10 + 5) hg rfl k9 (by omega) (ea_cons (ev_var rfl (.int l.d)) ea_nil) ⟨l.d, by omega, by omega, rfl⟩ fun r v H10 hR s10 k10 d10 => ?_)
      obtain ⟨lo, lo0, lo1, rfl⟩ := few_E hR
      cases d10
      refine c_asg (cg_call (n := n + 40 + 10 + 10 + 10 + 5 + 10) hg rfl k10 (by omega) (ea_cons (ev_op rv_I0 (ev_var rfl (.int l.d)) (ev_var rfl (.int lo))) ea_nil) ⟨l.d - lo, by omega, by omega, rfl⟩ fun r v H11 hR s11 k11 d11 => ?_)
      obtain ⟨hi, hi0, hi1, rfl⟩ := few_E hR
      cases d11
      refine c_is [some (.ref g), some (.ref lp), some (.int fi), some (.int se), some (.int th), some vt, some (.int lo), some (.int hi), some (.int l.c), some (.int l.d), some (.int l.p), some (.int l.q), some (.int bi), some (.int ot), some (.int he), some vl, y] rfl ?_
      have sl := (((((s5.trans s6).trans s7).trans s8).trans s9).trans s10).trans s11
      have st := (s9.trans s10).trans s11
      -- the answer
      refine c_ret (c_tup (c_cons (c_ev (K := K) (d := .tuple [.int bi, .int he]) (ev_tup (ea_cons (ev_var rfl (.int bi)) (ea_cons (ev_var rfl (.int he)) ea_nil)) (by simp)) (Same.refl _) k11 fun vS H12 s12 k12 dS => c_cons (c_tup (c_cons (c_v rfl (c_cons (c_v rfl (c_cons (c_op
        (cg_call (n := n + 40 + 10 + 10 + 10 + 5 + 10 + 10) hg rfl k12 (by omega) (ea_cons ev_int ea_nil) ⟨2, by decide, by decide, rfl⟩ fun r v H13 hR s13 k13 d13 => ?_)))))))))))
      obtain ⟨zd, zd0, zd1, rfl⟩ := rnd_E (z0 := 0) hR
      cases d13
      refine ⟨.int zd, .int 0, .int _, .int _, sh_int _, sh_int _, sz (by simp), fun pR hpR => ?_⟩
      generalize hdone : PyData.eqv (.int zd) (.int 0) = done at hpR ⊢
      have k14 := k13.new (o := .tup [.int ot, vl, .bl done]) hpR
      have s14 := k13.same_new (o := .tup [.int ot, vl, .bl done]) hpR
      have a14 := k13.at_new (o := .tup [.int ot, vl, .bl done]) hpR
      generalize upd H13 pR (.tup [.int ot, vl, .bl done]) = H14 at k14 s14 a14 ⊢
      refine c_cons (c_v rfl (c_cons (c_op (c_ev (K := K) (d := .list [.tuple [.int lo, .int hi], .tuple [.int hi, .int lo]]) (ev_lst (ea_cons (ev_tup (ea_cons (ev_var rfl (.int lo)) (ea_cons (ev_var rfl (.int hi)) ea_nil)) (by simp)) (ea_cons (ev_tup (ea_cons (ev_var rfl (.int hi)) (ea_cons (ev_var rfl (.int lo)) ea_nil)) (by simp)) ea_nil)) (by simp)) (Same.refl _) k14 fun vb H15 s15 k15 db =>
        cg_call (n := n + 40 + 10 + 10 + 10 + 5 + 10 + 10 + 5) hg rfl k15 (by omega) (ea_cons ev_int ea_nil) ⟨2, by decide, by decide, rfl⟩ fun r v H16 hR s16 k16 d16 => ?_))))
      obtain ⟨zb, zb0, zb1, rfl⟩ := rnd_E (z0 := 0) hR
      cases d16
      obtain ⟨pb, xb, rfl, hqb, hsb⟩ := db.lstE
      have pk2 : ∃ a b : Int, atI ([.tuple [.int lo, .int hi], .tuple [.int hi, .int lo]] : List PyData) zb = some (.tuple [.int a, .int b]) ∧ 0 ≤ a ∧ 0 ≤ b ∧ a + b ≤ l.d := by
        have hz : zb = 0 ∨ zb = 1 := by omega
        rcases hz with rfl | rfl
        · exact ⟨_, _, atI_nat (j := 0) rfl, by omega, by omega, by omega⟩
        · exact ⟨_, _, atI_nat (j := 1) rfl, by omega, by omega, by omega⟩
      obtain ⟨ba, bb, hpk2, ba0, bb0, hsum2⟩ := pk2
      refine pick_L hqb hsb (s16.trans vis_same) hpk2 fun vB dB => ?_
      refine ⟨sz (by simp), fun pT hpT => ?_⟩
      have s17 := k16.same_new (o := .tup [vS, .ref pR, vt, vB]) hpT
      refine q _ (.ref pT) _ ⟨l, ⟨bi, he, ot, lot, done, nw, zs, os, ba, bb⟩, ⟨b0, by show bi ≤ 1; omega, h0, h1, o0, by show ot ≤ 1; omega, hlot, nw0, zs0, os0, hsum, ba0, bb0, hsum2⟩, rfl, rfl⟩ ?_ ((k16.new hpT).mono (by omega)) ?_
      · exact (((((((s03.trans s4).trans sl).trans s12).trans s13).trans s14).trans s15).trans s16).trans s17
      · refine .tup (.of (k16.at_new hpT)) (.cons (dS.mono ((((s13.trans s14).trans s15).trans s16).trans s17)) (.cons (.tup (.of (((s15.trans s16).trans s17) _ _ a14)) (.cons (.int _) (.cons (dl.mono ((((((sl.trans s12).trans s13).trans s14).trans s15).trans s16).trans s17)) (.cons (.bl _) .nil))))
          (.cons (dt.mono ((((((st.trans s12).trans s13).trans s14).trans s15).trans s16).trans s17)) (.cons (dB.mono (s16.trans s17)) .nil))))
end
end Hw

set_option maxHeartbeats 1000000
/-! HwK: list + list, a tuple backwards, sorted, repr of data. -/
namespace Hw
open PySem PySem.Spec L2

/-! ### list + list -/
section
variable {X : Cx}
def rCatX (K : PySem.W.Frag) : R2 := fun x y H Q => ∃ l b xs zs, x = .ref l ∧ y = .ref b ∧ SqL K H l xs ∧ SqL K H b zs ∧ xs.length + zs.length ≤ sizeLine ∧ ∀ p, H p = none → Q (.ref p) (upd H p (.lst (xs ++ zs)))
theorem op_catX : OpR X (binaryOp .Add) (rCatX X.K) := by
  intro pins s σ H x y v u Q I rx ry h
  obtain ⟨l, b, xs, zs, rfl, rfl, hx, hz', hz, q⟩ := h
  cases rx
  cases ry
  obtain ⟨its, r, ⟨⟨cls, dd, data, sl⟩, n, ho, hc, hd, hs⟩, _⟩ := I.list hx
  obtain ⟨its2, r2, ⟨⟨cls2, dd2, data2, sl2⟩, n2, ho2, hc2, hd2, hs2⟩, _⟩ := I.list hz'
  simp only at hc hd hs hc2 hd2 hs2
  subst hc hd hs hc2 hd2 hs2
  have hl := r.length
  have hl2 := r2.length
  refine concat_meets ⟨_, ho, rfl⟩ ⟨_, ho2, rfl⟩ noFill_list_add seq_list_add PySem.F.slot_list_add PySem.F.entry_list_add (PySem.F.args_list_add_2 _ _)
    (PyProof.Rows.list_addW l b its.toArray its2.toArray n n2 none none sl sl2 (by rw [List.size_toArray, List.size_toArray]; omega)) ⟨ho, ho2, ?_⟩
  have ea : its.toArray ++ its2.toArray = (its ++ its2).toArray := by simp
  rw [ea]
  exact ⟨.ref _, _, I.lnew (t' := s.toks) (r.append r2) (by rw [List.length_append]; omega), rfl, q _ I.fresh⟩
end

/-! ### t[::-1] of a tuple -/
section
open PyProof.Rows
variable {prog : Program} {w : World} {A : Around} {E : Value → Shared → Prop} {s : Shared}
theorem adjust_rev (n : Nat) : Builtin.Slice.sliceAdjust none none (-1) (n : Int) = ((n : Int) - 1, -1) := by
  unfold Builtin.Slice.sliceAdjust
  simp
theorem places_rev (n : Nat) : Builtin.Slice.slicePlaces ((n : Int) - 1) (-1) (-1) = n := by
  unfold Builtin.Slice.slicePlaces
  have h1 : ¬ ((-1 : Int) > 0) := by decide
  simp only [h1, if_false, show (- -1 : Int) = 1 by decide, Int.ediv_one]
  split <;> omega
theorem sliceApplied_rev {sl : Addr} {vs : Value} {n : Nat} {Q : Int × Int × Nat → Shared → Prop} (hs : s.heap.IsSliceOf sl .none .none vs) (ps : IsPart vs (some (-1)))
    (h : Q ((n : Int) - 1, -1, n) s) : wpAny (model prog w) A (Builtin.Slice.sliceApplied (.ref sl) (pure (n : Int))) Q E s := by
  obtain ⟨os, hos, hcs, hds⟩ := id hs
  unfold Builtin.Slice.sliceApplied Builtin.Slice.sliceFields
  refine wpAny_bind (wpAny_bind (wpAny_field hos hds (x := .none) rfl (wpAny_bind (wpAny_field hos hds (x := .none) rfl (wpAny_bind (wpAny_field hos hds (x := vs) rfl (wpAny_pure ?_)))))))
  refine wpAny_bind (HT.slicePart_ ps ?_)
  show wpAny _ _ (if ((-1 : Int) == 0) = true then _ else _) _ _ s
  rw [if_neg (by decide)]
  refine wpAny_bind (HT.slicePart_ .none (wpAny_bind (HT.slicePart_ .none (wpAny_bind (wpAny_pure ?_)))))
  show wpAny _ _ (match Builtin.Slice.sliceAdjust none none (-1) (n : Int) with | (lo, hi) => pure (lo, (-1 : Int), Builtin.Slice.slicePlaces lo hi (-1))) _ _ s
  rw [adjust_rev n]
  show wpAny _ _ (pure ((n : Int) - 1, (-1 : Int), Builtin.Slice.slicePlaces ((n : Int) - 1) (-1) (-1))) _ _ s
  rw [places_rev]
  exact wpAny_pure h
theorem pick_rev (xs : Array Value) : ((List.range xs.size).filterMap fun (m : Nat) => xs[((xs.size : Int) - 1 + (m : Int) * (-1)).toNat]?).toArray = xs.toList.reverse.toArray := by
  have h := PySem.W.krv_pick xs
  unfold PySem.slicePick at h
  rw [PySem.W.krv_bounds] at h
  have h' : ((PySem.sliceRange ((xs.size : Int) - 1) (-1) (-1)).filterMap (xs[·]?)).toArray = xs.toList.reverse.toArray := h
  rw [PySem.W.krv_sliceRange, List.filterMap_map] at h'
  rw [← h']
  have e : (fun (m : Nat) => xs[((xs.size : Int) - 1 + (m : Int) * (-1)).toNat]?) = ((fun x => xs[x]?) ∘ fun k => xs.size - 1 - k) := by
    funext m
    have : ((xs.size : Int) - 1 + (m : Int) * (-1)).toNat = xs.size - 1 - m := by omega
    show xs[_]? = xs[xs.size - 1 - m]?
    rw [this]
  rw [e]
theorem getItem_tuple_rev {t sl : Addr} {items : Array Value} {vs : Value} {Q : Value → Shared → Prop} (ht : IsTup s.heap t items) (hs : s.heap.IsSliceOf sl .none .none vs) (ps : IsPart vs (some (-1)))
    (h : Q (.ref s.heap.objs.size) { s with heap := s.heap.push { cls := .type "tuple", data := .seq items.toList.reverse.toArray } })
    (hsz : items.size ≤ sizeLine) : wpAny (model prog w) A (getItem (.ref t) (.ref sl)) Q E s := by
  have htake : sizeOk (.seq items.toList.reverse.toArray) := by
    show items.toList.reverse.toArray.size ≤ sizeLine
    rw [List.size_toArray, List.length_reverse, Array.length_toList]
    exact hsz
  obtain ⟨os, hos, hcs, hds⟩ := id hs
  have hTs : s.TypeIs (.ref sl) "slice" := ⟨os, hos, hcs⟩
  unfold getItem
  try with_reducible refine wpAny_holding ?_
  first | refine wpAny_bind (wpAny_pure ?_) | skip
  refine wpAny_bind (wpAny_sequenceKey ht.typeIs (by decide) ?_)
  refine wpAny_bind (wpAny_callSpecial?_slot (name := Str.ofString "__getitem__") ht.typeIs PyProof.Rows.slot_tuple_getitem
    (wpAny_call_entry PyProof.Rows.slot_tuple_getitem ht.typeIs PyProof.Rows.entry_tuple_getitem ?_ (PyProof.Rows.args_tuple_getitem _ _)))
  show wpAny _ _ (Builtin.Tuple.tupleItemsOf (.ref t) >>= _) _ _ s
  refine wpAny_bind (PyProof.Rows.tupleItemsOf_ ht ?_)
  refine wpAny_bind (wpAny_typeOf hTs ?_)
  rw [if_pos (by decide)]
  refine wpAny_bind (sliceApplied_rev hs ps ?_)
  have hno : ¬ (((((items.size : Int) - 1) == 0) && ((-1 : Int) == 1) && (items.size == items.size)) = true) := by
    simp
  show wpAny _ _ (if ((((items.size : Int) - 1) == 0) && ((-1 : Int) == 1) && (items.size == items.size)) = true then _ else _) _ _ s
  rw [if_neg hno, pick_rev]
  first
    | exact wpAny_bind (m := Builtin.Tuple.tupleExact _) (wpAny_newObj_type (wpAny_pure ⟨_, rfl, wpAny_pure h⟩) htake)
    | exact wpAny_bind (m := Builtin.Tuple.tupleExact _) (wpAny_newObj_type (wpAny_bind (wpAny_pure (wpAny_pure ⟨_, rfl, wpAny_pure h⟩))) htake)
    | exact wpAny_bind (wpAny_bind (m := Builtin.Tuple.tupleExact _) (wpAny_newObj_type (wpAny_pure (wpAny_pure ⟨_, rfl, wpAny_pure h⟩)) htake))
    | exact wpAny_bind (wpAny_bind (m := Builtin.Tuple.tupleExact _) (wpAny_newObj_type (wpAny_pure ⟨_, rfl, wpAny_pure h⟩) htake))
end
section
open PyProof.Rows
variable {X : Cx}
def tRevT (K : PySem.W.Frag) (te : TE) : TE := fun σ H Q => te σ H fun x H1 => ∃ a xs, x = .ref a ∧ SqT K H1 a xs ∧ ∀ p, H1 p = none → Q (.ref p) (upd H1 p (.tup xs.reverse))
theorem pe_revT {e : Expr} {te : TE} {k : Nat} {p1 p2 p3 pos : Pos} (he : PE X e te) : PE X (.Subscript e (.Slice none none (some (.UnaryOp .USub (.Constant (.int 1) k p1) p2)) p3) pos) (tRevT X.K te) := by
  refine ⟨fun pins s σ H Q I h => ?_⟩
  refine PyProof.Rows.Subscript_ (thn (he.run pins s σ H _ I h) fun v s1 ⟨x, H1, I1, r1, q1⟩ => ?_)
  obtain ⟨a, xs, ex, hx, q⟩ := q1
  subst ex
  cases r1
  have hst : PO X (some (.UnaryOp .USub (.Constant (.int 1) k p1) p2)) (tPart (tUn (rU fun i => .int (-i)) (tC (.int 1)))) := po_some (pe_un un_neg pe_int)
  refine wpAny_Slice (thn (po_none.run pins s1 σ H1 (fun o H2 => o = none ∧ H2 = H1) I1 ⟨rfl, rfl⟩) fun vl s2 ⟨l, H2, I2, pl, el, e2⟩ => ?_)
  subst el e2
  refine thn (po_none.run pins s2 σ H2 (fun o H3 => o = none ∧ H3 = H2) I2 ⟨rfl, rfl⟩) fun vu s3 ⟨u, H3, I3, pu, eu, e3⟩ => ?_
  subst eu e3
  refine thn (hst.run pins s3 σ H3 (fun o H4 => o = some (-1) ∧ H4 = H3) I3 ⟨1, rfl, -1, rfl, rfl, rfl⟩) fun vs s4 ⟨o, H4, I4, ps, eo, e4⟩ => ?_
  subst eo e4
  have I5 : Inv X pins σ H4 { s4 with heap := s4.heap.push { cls := .type "slice", data := .fields #[vl, vu, vs] } } := I4.kept (t' := s4.toks) fun b ob q => Heap.get?_push_of_some _ q
  obtain ⟨its, r, ht, hz⟩ := I5.tuple hx
  have hlen := r.length
  have hvl : vl = .none := by cases pl; rfl
  have hvu : vu = .none := by cases pu; rfl
  subst hvl hvu
  show wpAny (model X.prog X.w) X.A (subscriptTail e (.Slice none none (some (.UnaryOp .USub (.Constant (.int 1) k p1) p2)) p3) (.ref a) (.ref s4.heap.objs.size)) (EP X pins σ Q) X.xe { s4 with heap := s4.heap.push { cls := .type "slice", data := .fields #[.none, .none, vs] } }
  refine PyProof.Rows.tail_any (ops := [.ref a, .ref s4.heap.objs.size]) ht.typeIs PyProof.Rows.slot_tuple_getitem.lookup ?_ (by with_unfolding_all rfl)
  refine getItem_tuple_rev ht (Heap.IsSliceOf.new _ .none .none vs) ps ?_ (by rw [List.size_toArray]; omega)
  refine ⟨.ref _, _, I5.laid (t' := s4.toks) (o := .tup xs.reverse) (fun b ob q => Heap.get?_push_of_some _ q) (Nat.le_refl _) ?_, rfl, q _ (I5.hok.fresh (Nat.le_refl _))⟩
  exact ⟨by rw [List.length_reverse]; exact hz, _, r.reverse, PyProof.Rows.IsTup.new _ _⟩
end

/-! ### repr of data -/
structure Shw (d : PyData) : Prop where
  can : d.canLay0 = true ∨ d = .dict []
  sh : d.showable = true
  dep : d.depth ≤ 20
  len : d.shown.length ≤ sizeLine
section
variable {X : Cx} {pins : List (Addr × Obj)} {σ : St} {H : Hp} {s : Shared}
theorem Dt.reads {v : V} {d : PyData} {u : Value} (I : Inv X pins σ H s) (h : Dt X.K H v d) (c : d.canLay0 = true ∨ d = .dict []) (r : RelV v u) : ∃ as, Reads s.heap u d as ∧ (d.hasDict = true → sysModules ∉ as) := by
  rcases c with c | rfl
  · obtain ⟨as, q⟩ := Dp.reads I d v u (h.dp c) r
    refine ⟨as, q, fun e => ?_⟩
    rw [PyData.hasDict_of_canLay d c] at e
    cases e
  · cases h with
    | @dct a h =>
      cases r
      obtain ⟨_, hn, vs, kv, o, es, ep, ho, hc, hd, _, hp, _⟩ := I.hok _ _ h
      cases kv
      have e0 : es = #[] := by
        cases es with
        | mk l =>
          cases hp
          rfl
      subst e0
      exact ⟨_, .dict ho hc.1 hd .nil .nil, fun _ m => by
        have e : sysModules = a := by simpa using m
        subst e
        simp at hn⟩
def rRepr (K : PySem.W.Frag) : List V → Hp → VK → Prop := fun vs H Q => ∃ v d, vs = [v] ∧ Dt K H v d ∧ Shw d ∧ Q (.str d.shown) H
theorem call_reprX {k : Nat} (hg : X.A.guards = some []) (hr : Room k X.A) : CallR X (.builtin "repr") (rRepr X.K) := by
  intro pins s σ H xs us Q I r h
  obtain ⟨v, d, rfl, hd, sh, q⟩ := h
  obtain ⟨u, rfl, ru⟩ := vals1 r
  have hu := hr.units
  have hdep := sh.dep
  have ref : ∀ a : Addr, v = .ref a → wpAny (model X.prog X.w) X.A (call (.builtin "repr") [u]) (EP X pins σ Q) X.xe s := fun a e => by
    subst e
    obtain rfl : u = Value.ref a := ru
    obtain ⟨as, rd, hs⟩ := hd.reads I sh.can rfl
    exact repr_of_reads' rd sh.sh hs hg (by omega) (fun _ _ e => e) (fun h' t tk hk => ⟨.str d.shown, H, I.kept hk, ⟨_, rfl⟩, q⟩) sh.len
  cases hd with
  | non =>
    cases ru
    simp only [PyData.shown] at q
    exact P.repr_of_none ⟨.str "None", H, I.tok _, ⟨_, rfl⟩, q⟩
  | bl b =>
    cases ru
    simp only [PyData.shown] at q
    exact P.repr_of_bool ⟨.str (if b then "True" else "False"), H, I.tok _, ⟨_, rfl⟩, q⟩
  | int i =>
    obtain ⟨t, rfl⟩ := ru
    have h1 := sh.sh
    simp only [PyData.showable, decide_eq_true_eq] at h1
    simp only [PyData.shown] at q
    exact P.repr_of_int h1 ⟨.str (toString i), H, I.tok _, ⟨_, rfl⟩, q⟩
  | str x =>
    obtain ⟨t, rfl⟩ := ru
    have hl := sh.len
    simp only [PyData.shown] at q hl
    exact P.repr_of_str ⟨.str (reprText x), H, I.tok _, ⟨_, rfl⟩, q⟩ hl
  | @lst a _ _ _ _ => exact ref a rfl
  | @tup a _ _ _ _ => exact ref a rfl
  | @dct a _ => exact ref a rfl
end
end Hw

set_option maxHeartbeats 1000000
/-! HwL: more rules of data; the law's pure defs. -/
namespace Hw
open PySem PySem.Spec L2
section
variable {K : PySem.W.Frag} {Z : Wld} {σ : St} {M N H : Hp} {ta tb te tx tl : TE} {t u : TS} {v : V} {d e f r : PyData} {ds es : List PyData} {j n : Nat} {p : Addr} {xs ys : List V}
theorem rv_catL (hz : ds.length + es.length ≤ 100000) : RV K Z (rCatX K) (.list ds) (.list es) (.list (ds ++ es)) := fun n H x y k hx hy Q q => by
  obtain ⟨a, xs, rfl, h1, h2⟩ := hx.lstE
  obtain ⟨b, ys, rfl, h3, h4⟩ := hy.lstE
  exact ⟨a, b, xs, ys, rfl, rfl, vis_same.seq h1, vis_same.seq h3, by rw [h2.length, h4.length]; exact sz hz, fun p hp => q _ _ (k.same_new hp) (k.new hp) (.lst (.of (k.at_new hp)) ((h2.append h4).mono (k.same_new hp)))⟩
theorem rv_catT (hz : ds.length + es.length ≤ 100000) : RV K Z (rCatA K) (.tuple ds) (.tuple es) (.tuple (ds ++ es)) := fun n H x y k hx hy Q q => by
  obtain ⟨a, xs, rfl, h1, h2⟩ := hx.tupE
  obtain ⟨b, ys, rfl, h3, h4⟩ := hy.tupE
  refine ⟨a, b, xs, ys, rfl, rfl, same_t vis_same h1, same_t vis_same h3, by rw [h2.length, h4.length]; exact sz hz, fun e => ?_, fun _ e => ?_, fun _ _ p hp => q _ _ (k.same_new hp) (k.new hp) (.tup (.of (k.at_new hp)) ((h2.append h4).mono (k.same_new hp)))⟩
  · subst e
    cases h2
    exact q _ H (Same.refl _) k (.tup h3 h4)
  · subst e
    cases h4
    rw [List.append_nil] at q
    exact q _ H (Same.refl _) k (.tup h1 h2)
theorem rv_neS {x : Str} : RV K Z rNe (.str x) (.str x) (.bool false) := fun n H v w k hx hy Q q => by
  rw [hx.strE, hy.strE]
  refine ⟨rfl, ?_⟩
  have e : (!decide (V.str x = V.str x)) = false := by simp
  rw [e]
  exact q _ H (Same.refl _) k (.bl false)
theorem rc_repr (h : Shw d) : RC K Z (rRepr K) [d] (.str d.shown) := fun n H vs k hs Q q => by
  obtain ⟨v, rfl, hd⟩ := hs.c1
  exact ⟨v, d, rfl, hd.mono vis_same, h, q _ H (Same.refl _) k (.str _)⟩
theorem ev_chain {g g' : Int → Int → Bool} {tc : TE} {i l m : Int} (ha : Ev K Z ta σ M (.int i)) (hb : Ev K Z tb σ M (.int l)) (hc : Ev K Z tc σ M (.int m)) :
    Ev K Z (tChain (rI0 fun i j => .bl (g i j)) (rI0 fun i j => .bl (g' i j)) ta tb tc) σ M (.bool (g i l && g' l m)) := fun n H s k Q q =>
  ha n H s k _ fun x H1 s1 k1 d1 => hb n H1 (s.trans s1) k1 _ fun y H2 s2 k2 d2 => by
    refine ⟨i, l, d1.intE, d2.intE, g i l, rfl, ?_⟩
    revert q
    cases g i l with
    | false => exact fun q => q (.bl false) H2 (s1.trans s2) k2 (.bl _)
    | true =>
      intro q
      refine hc n H2 ((s.trans s1).trans s2) k2 _ fun z H3 s3 k3 d3 => ⟨l, m, d2.intE, d3.intE, ?_⟩
      exact q _ H3 ((s1.trans s2).trans s3) k3 (.bl _)
theorem ev_dict : Ev K Z tDNewK σ M (.dict []) := fun n H s k Q q => fun p hp => q _ _ (k.same_new hp) (k.new hp) (.dct (k.at_new hp))
theorem ev_revL (h : Ev K Z te σ M (.list ds)) : Ev K Z (tRevL K te) σ M (.list ds.reverse) := fun n H s k Q q =>
  h n H s k _ fun v H1 s1 k1 d1 => by
    obtain ⟨a, xs, rfl, h1, h2⟩ := d1.lstE
    exact ⟨a, xs, rfl, vis_same.seq h1, fun p hp => q _ _ (s1.trans (k1.same_new hp)) (k1.new hp) (.lst (.of (k1.at_new hp)) (h2.rev.mono (k1.same_new hp)))⟩
theorem ev_revT (h : Ev K Z te σ M (.tuple ds)) : Ev K Z (tRevT K te) σ M (.tuple ds.reverse) := fun n H s k Q q =>
  h n H s k _ fun v H1 s1 k1 d1 => by
    obtain ⟨a, xs, rfl, h1, h2⟩ := d1.tupE
    exact ⟨a, xs, rfl, same_t vis_same h1, fun p hp => q _ _ (s1.trans (k1.same_new hp)) (k1.new hp) (.tup (.of (k1.at_new hp)) (h2.rev.mono (k1.same_new hp)))⟩

/-! ### a list in the making, hidden -/
def Wld.pin (Z : Wld) (p : Addr) (xs : List V) : Wld := ⟨Z.g, (p, .lst xs) :: Z.ps⟩
theorem pin_hid : (Z.pin p xs).hid p = true := by
  unfold Wld.hid Wld.pin
  simp
theorem pin_hid_of {a : Addr} (h : Z.hid a = true) : (Z.pin p xs).hid a = true := by
  unfold Wld.hid at h ⊢
  show ((Z.g == some a) || ((p == a) || Z.ps.any fun q => q.1 == a)) = true
  rcases Bool.or_eq_true_iff.mp h with h | h
  · rw [h]; rfl
  · rw [h]; simp
theorem pin_hid_ne {a : Addr} (h : Z.hid a = false) (e : a ≠ p) : (Z.pin p xs).hid a = false := by
  unfold Wld.hid at h ⊢
  show ((Z.g == some a) || ((p == a) || Z.ps.any fun q => q.1 == a)) = false
  have h' := Bool.or_eq_false_iff.mp h
  rw [h'.1, h'.2]
  simp [Ne.symm e]
theorem pin_out_same : Same ((Z.pin p xs).vis H) (Z.vis H) := fun b o e => by
  unfold Wld.vis at e ⊢
  split at e
  · cases e
  · rename_i h
    have : ¬ Z.hid b = true := fun q => h (pin_hid_of q)
    rw [if_neg this]
    exact e
theorem pin_vis : (Z.pin p xs).vis H = (Z.pin p ys).vis H := rfl
theorem Wld.ok.pin_new (k : Z.ok n H) (hp : H p = none) : (Z.pin p xs).ok n (upd H p (.lst xs)) ∧ Same (Z.vis H) ((Z.pin p xs).vis (upd H p (.lst xs))) := by
  have k2 := k.new (o := .lst xs) hp
  refine ⟨⟨k2.gen, fun q hq => ?_, fun a e q hq => ?_⟩, fun b o e => ?_⟩
  · rcases List.mem_cons.mp hq with rfl | hq
    · exact upd_same
    · exact k2.pin q hq
  · rcases List.mem_cons.mp hq with rfl | hq
    · rintro rfl
      obtain ⟨x, y, z, h, _⟩ := k.gen _ e
      rw [show H p = none from hp] at h
      cases h
    · exact k.ne a e q hq
  · have nb : b ≠ p := ne_of_none (vis_same b o e) hp
    have hb : Z.hid b = false := by
      cases q : Z.hid b with
      | false => rfl
      | true =>
        unfold Wld.vis at e
        rw [if_pos q] at e
        cases e
    rw [vis_of (pin_hid_ne hb nb), upd_ne nb]
    exact vis_same b o e
theorem Wld.ok.pin_set (k : (Z.pin p xs).ok n H) (hZ : Z.hid p = false) : (Z.pin p ys).ok n (upd H p (.lst ys)) ∧ (Z.pin p ys).vis (upd H p (.lst ys)) = (Z.pin p xs).vis H := by
  refine ⟨⟨fun a e => ?_, fun q hq => ?_, fun a e q hq => ?_⟩, ?_⟩
  · obtain ⟨x, y, z, h, l⟩ := k.gen a e
    exact ⟨x, y, z, by rw [upd_ne (Ne.symm (k.ne a e (p, .lst xs) (List.mem_cons_self ..)))]; exact h, l⟩
  · rcases List.mem_cons.mp hq with rfl | hq
    · exact upd_same
    · have nq : q.1 ≠ p := fun z => by
        have : Z.hid p = true := by
          unfold Wld.hid
          rw [Bool.or_eq_true_iff]
          exact .inr (List.any_eq_true.mpr ⟨q, hq, by simp [z]⟩)
        rw [this] at hZ
        cases hZ
      rw [upd_ne nq]
      exact k.pin q (List.mem_cons_of_mem _ hq)
  · rcases List.mem_cons.mp hq with rfl | hq
    · exact k.ne a e (p, .lst xs) (List.mem_cons_self ..)
    · exact k.ne a e q (List.mem_cons_of_mem _ hq)
  · rw [vis_hid pin_hid]
    rfl
theorem Wld.ok.pin_at (k : (Z.pin p xs).ok n H) : H p = some (.lst xs) := k.pin (p, .lst xs) (List.mem_cons_self ..)
theorem Wld.ok.pin_out (k : (Z.pin p xs).ok n H) : Z.ok n H := ⟨k.gen, fun q hq => k.pin q (List.mem_cons_of_mem _ hq), fun a e q hq => k.ne a e q (List.mem_cons_of_mem _ hq)⟩

/-- the list in the making, of new items -/
structure Mk (K : PySem.W.Frag) (Z : Wld) (n : Nat) (N : Hp) (D : Addr) (es : List PyData) (H : Hp) : Prop where
  at_ : ∃ acc, (Z.pin D acc).ok n H ∧ Same N ((Z.pin D acc).vis H) ∧ Dts K ((Z.pin D acc).vis H) acc es
theorem Mk.start {n : Nat} {D : Addr} {H : Hp} (k : Z.ok n H) (hD : H D = none) : Mk K Z n (Z.vis H) D [] (upd H D (.lst [])) :=
  ⟨[], (k.pin_new hD).1, (k.pin_new hD).2, .nil⟩
theorem Mk.same {D : Addr} (p : Mk K Z n N D es H) : Same N (Z.vis H) := let ⟨_, _, s, _⟩ := p.at_; s.trans pin_out_same
theorem Mk.ok {D : Addr} (p : Mk K Z n N D es H) : Z.ok n H := let ⟨_, k, _, _⟩ := p.at_; k.pin_out
theorem Mk.fin {D : Addr} (p : Mk K Z n N D es H) (hZ : Z.hid D = false) : Dt K (Z.vis H) (.ref D) (.list es) := by
  obtain ⟨acc, k, s, a⟩ := p.at_
  exact .lst (.of (by rw [vis_of hZ]; exact k.pin_at)) (a.mono pin_out_same)
theorem Mk.add {D : Addr} {acc : List V} (hZ : Z.hid D = false) (k : (Z.pin D acc).ok n H) (s : Same N ((Z.pin D acc).vis H)) (a : Dts K ((Z.pin D acc).vis H) acc es) (hv : Dt K ((Z.pin D acc).vis H) v d) : Mk K Z n N D (es ++ [d]) (upd H D (.lst (acc ++ [v]))) := by
  obtain ⟨k2, e⟩ := k.pin_set (ys := acc ++ [v]) hZ
  refine ⟨acc ++ [v], k2, ?_, ?_⟩
  · rw [e]
    exact s
  · rw [e]
    exact a.append (.cons hv .nil)
theorem map_take {ds : List PyData} {f : PyData → PyData} {i : Nat} {d : PyData} (h : ds[i]? = some d) : (ds.take (i + 1)).map f = (ds.take i).map f ++ [f d] := by
  rw [List.take_add_one, h, List.map_append]
  rfl
/-- [e for x in xs], new items -/
theorem ev_mapL (f : PyData → PyData) (h : Ev K Z tl σ M (.list ds)) (hsz : ds.length ≤ 100000)
    (he : ∀ (Y : Wld) (d : PyData) (x : V) (N : Hp), d ∈ ds → Same M N → Dt K N x d → Ev K Y te ((wipe σ [j]).set j (some x)) N (f d)) : Ev K Z (tLc (iList K tl) (gName j) tYes te [j]) σ M (.list (ds.map f)) := fun n H s k Q q =>
  h n H s k _ fun v H1 s1 k1 d1 => by
    cases d1 with
    | @lst a xs _ hq hs =>
      refine ⟨a, rfl, ⟨xs, vis_same.seq hq⟩, fun D hD => ?_⟩
      have hZ := k1.free hD
      refine lc_list (xs := xs) (fun i H' => Mk K Z n (Z.vis H1) D ((ds.take i).map f) H') (Mk.start k1 hD) (fun i H' _ p => (p.same.trans vis_same).seq hq) (fun i x H' hi p => ?_) (fun H' p => ?_)
      · obtain ⟨d, hd, dx⟩ := hs.getV hi
        refine ⟨wipe1 σ j x, ?_⟩
        obtain ⟨acc, k2, s2, a2⟩ := p.at_
        show te ((wipe σ [j]).set j (some x)) H' fun y H4 => ∃ acc, H4 D = some (.lst acc) ∧ acc.length < sizeLine ∧ Mk K Z n (Z.vis H1) D ((ds.take (i + 1)).map f) (upd H4 D (.lst (acc ++ [y])))
        refine he (Z.pin D acc) d x (Z.vis H1) (List.mem_of_getElem? hd) (s.trans s1) dx n H' s2 k2 _ fun y H4 s4 k4 d4 => ?_
        refine ⟨acc, k4.pin_at, ?_, ?_⟩
        · have h1 := (List.getElem?_eq_some_iff.mp hd).1
          have h2 := a2.length
          rw [List.length_map, List.length_take] at h2
          have h3 : sizeLine = 16777216 := sizeLine_eq
          omega
        · rw [map_take hd]
          exact Mk.add hZ k4 (s2.trans s4) (a2.mono s4) d4
      · rw [hs.length, List.take_length] at p
        exact q _ H' (s1.trans p.same) p.ok (p.fin hZ)

theorem op_catXK {X : Cx} (K : PySem.W.Frag) (h : X.K = K := by rfl) : OpR X (binaryOp .Add) (rCatX K) := h ▸ op_catX
theorem op_catAK {X : Cx} (K : PySem.W.Frag) (h : X.K = K := by rfl) : OpR X (binaryOp .Add) (rCatA K) := h ▸ op_catA
/-! ### statements that go on -/
def Bs (Z : Wld) (t : TS) (σ : St) (M : Hp) (Po : St → Hp → Prop) : Prop :=
  ∀ n H, Same M (Z.vis H) → Z.ok n H → ∀ D : Ends, (∀ σ2 H2, Same (Z.vis H) (Z.vis H2) → Z.ok n H2 → Po σ2 (Z.vis H2) → D.nx σ2 H2) → t D σ H
theorem bs_asg {i : Nat} {Po : St → Hp → Prop} (h : Ev K Z te σ M d) (q : ∀ v N, Same M N → Dt K N v d → Po (σ.set i (some v)) N) : Bs Z (tAsg te (gName i)) σ M Po := fun n H s k D q' =>
  h n H s k _ fun v H1 s1 k1 d1 => q' _ H1 s1 k1 (q v _ (s.trans s1) d1)
theorem bd_forL {i : Nat} {Po : Nat → St → Hp → Prop} (h : Ev K Z tl σ M (.list ds)) (h0 : ∀ N, Same M N → Po 0 σ N)
    (hs : ∀ (m : Nat) (d : PyData) (x : V) (σ' : St) (N : Hp), ds[m]? = some d → Dt K N x d → Same M N → Po m σ' N → Bs Z t (σ'.set i (some x)) N (Po (m + 1)))
    (hf : ∀ (σ' : St) (N : Hp), Same M N → Po ds.length σ' N → Bd K Z u σ' N r) : Bd K Z (tSeq (tFor (iList K tl) (gName i) t) u) σ M r := fun n H s k D q =>
  h n H s k _ fun v H1 s1 k1 d1 => by
    cases d1 with
    | @lst a xs _ hq hqs =>
      refine ⟨a, rfl, ⟨xs, vis_same.seq hq⟩, ?_⟩
      refine for_list (xs := xs) (fun m σ' H' => Same (Z.vis H1) (Z.vis H') ∧ Z.ok n H' ∧ Po m σ' (Z.vis H')) ⟨Same.refl _, k1, h0 _ (s.trans s1)⟩ (fun m σ' H' _ p => (p.1.trans vis_same).seq hq) (fun m x σ' H' hm p => ?_) (fun σ' H' p => ?_)
      · obtain ⟨d, hd, dx⟩ := hqs.getV hm
        exact hs m d x σ' (Z.vis H') hd (dx.mono p.1) ((s.trans s1).trans p.1) p.2.2 n H' (Same.refl _) p.2.1 _ fun σ2 H2 s2 k2 p2 => ⟨p.1.trans s2, k2, p2⟩
      · rw [hqs.length] at p
        exact hf σ' (Z.vis H') ((s.trans s1).trans p.1) p.2.2 n H' (Same.refl _) p.2.1 D fun w H2 s2 k2 d2 => q w H2 ((s1.trans p.1).trans s2) k2 d2
end

theorem c_isB {K : PySem.W.Frag} {Z : Wld} {σ : St} {M : Hp} {u : TS} {r : PyData} (τ : St) (e : σ = τ) (h : Bd K Z u τ M r) : Bd K Z u σ M r := e ▸ h
/-! ### sorted -/
theorem each_of {K : PySem.W.Frag} {M : Hp} : ∀ {xs : List V} {bs : List PyData} {us : List Value}, Dts K M xs bs → Vals xs us → PySem.W.EachIs (fun u d => ∃ x, RelV x u ∧ Dt K M x d) us bs
  | _, _, _, .nil, .nil => .nil
  | _, _, _, .cons h hs, .cons r rs => .cons ⟨_, r, h⟩ (each_of hs rs)
theorem each_to {K : PySem.W.Frag} {M : Hp} : ∀ {us : List Value} {bs : List PyData}, PySem.W.EachIs (fun u d => ∃ x, RelV x u ∧ Dt K M x d) us bs → ∃ xs, Vals xs us ∧ Dts K M xs bs
  | _, _, .nil => ⟨[], .nil, .nil⟩
  | _, _, .cons ⟨x, r, h⟩ t => let ⟨xs, a, b⟩ := each_to t; ⟨x :: xs, .cons r a, .cons h b⟩
def rSortedX (K : PySem.W.Frag) : List V → Hp → VK → Prop := fun vs H Q => ∃ (a : Addr) (xs : List V) (bs : List PyData) (M : Hp), vs = [V.ref a] ∧ SqL K H a xs ∧ Same M H ∧ Dts K M xs bs ∧ (∀ b ∈ bs, b.canLay0 = true ∧ b.depth ≤ 60) ∧
  PySem.W.AllAlike bs ∧ PySem.W.Sortable bs ∧ ∀ ys p, Dts K M ys (bs.mergeSort (PySem.W.dataLe false id)) → H p = none → Q (.ref p) (upd H p (.lst ys))
section
variable {X : Cx}
theorem dts_dp {K : PySem.W.Frag} {M : Hp} : ∀ {xs : List V} {bs : List PyData}, Dts K M xs bs → (∀ b ∈ bs, b.canLay0 = true ∧ b.depth ≤ 60) → DpAll K M xs bs
  | _, _, .nil, _ => .nil
  | _, _, .cons h hs, c => .cons (h.dp (c _ (List.mem_cons_self ..)).1) (dts_dp hs fun b m => c b (List.mem_cons_of_mem _ m))
theorem each_reads {pins : List (Addr × Obj)} {s : Shared} {σ : St} {H : Hp} (I : Inv X pins σ H s) : ∀ {xs : List V} {bs : List PyData} {us : List Value}, DpAll X.K H xs bs → Vals xs us → PySem.W.EachIs (fun u d => ∃ as, Reads s.heap u d as) us bs
  | _, _, _, .nil, .nil => .nil
  | _, _, _, .cons h hs, .cons r rs => .cons (Dp.reads I _ _ _ h r) (each_reads I hs rs)
theorem each_len {α β : Type} {R : α → β → Prop} : ∀ {as : List α} {bs : List β}, PySem.W.EachIs R as bs → as.length = bs.length
  | _, _, .nil => rfl
  | _, _, .cons _ t => by rw [List.length_cons, List.length_cons, each_len t]
theorem call_sortedX {k : Nat} (hr : Room k X.A) : CallR X (.builtin "sorted") (rSortedX X.K) := by
  intro pins s σ H vs us Q I r h
  obtain ⟨a, xs, bs, M, rfl, hs, hM, hd, hc, hal, hso, q⟩ := h
  obtain ⟨its, rv, hl, hz⟩ := I.list hs
  obtain ⟨u, rfl, ru⟩ := vals1 r
  obtain rfl : u = Value.ref a := ru
  have hlen := rv.length
  have hlen2 := hd.length
  have hu := hr.units
  refine PySem.W.sorted_data (enc := id) (R := fun u d => ∃ x, RelV x u ∧ Dt X.K M x d) hl.isList (each_of hd rv) (each_reads I (dts_dp (hd.mono hM) hc) rv) (by rw [List.map_id]; exact hal) (by rw [List.map_id]; exact hso) (by omega)
    (fun b m => by have := (hc b m).2; show X.A.units + 2 + b.depth < cLine; omega) fun out ho he => ?_
  obtain ⟨ys, hv, hy⟩ := each_to he
  obtain ⟨e, hat⟩ := PyProof.Rows.sortedAll_at s.heap its out.toArray
  refine ⟨.ref (s.heap.objs.size + 1), _, I.laid (t' := s.toks) (o := .lst ys) (fun _ _ => PyProof.Rows.sortedAll_old) (Nat.le_succ _) ⟨?_, out, e, hv, hat⟩, rfl, q ys _ hy (I.hok.fresh (Nat.le_succ _))⟩
  have := hv.length
  omega
end
theorem rc_sorted {K : PySem.W.Frag} {Z : Wld} {bs cs : List PyData} (hc : ∀ b ∈ bs, b.canLay0 = true ∧ b.depth ≤ 60) (hal : PySem.W.AllAlike bs) (hso : PySem.W.Sortable bs) (e : bs.mergeSort (PySem.W.dataLe false id) = cs) : RC K Z (rSortedX K) [.list bs] (.list cs) := fun n H vs k hs Q q => by
  obtain ⟨v, rfl, h⟩ := hs.c1
  obtain ⟨a, xs, rfl, h1, h2⟩ := h.lstE
  exact ⟨a, xs, bs, Z.vis H, rfl, vis_same.seq h1, vis_same, h2, hc, hal, hso, fun ys p hy hp => q _ _ (k.same_new hp) (k.new hp) (.lst (.of (k.at_new hp)) ((e ▸ hy).mono (k.same_new hp)))⟩
end Hw

set_option maxHeartbeats 2000000
/-! HwM: the law's own mending, the lists of words, what fits. -/
namespace Hw
open PySem PySem.Spec L2
abbrev s_l_mended : Stmt := topS 39
abbrev N_l_mended : List Str := ["_law_contents_here", "_law_words", "_law_taking", "_law_heard", "_law_there", "_law_back", "_law_other", "_law_lot", "_law_bit", "_law_done"]
abbrev ps_l_mended : List Str := ["_law_contents_here", "_law_words", "_law_taking"]
theorem sc_l_mended : FnScope N_l_mended ps_l_mended (defScope s_l_mended) := ⟨rfl, rfl, rfl, by decide +kernel, rfl, by decide +kernel, by decide +kernel⟩
abbrev s_l_word_lists : Stmt := topS 40
abbrev N_l_word_lists : List Str := ["_law_found", "_law_word", "_law_words"]
abbrev ps_l_word_lists : List Str := []
theorem sc_l_word_lists : FnScope N_l_word_lists ps_l_word_lists (defScope s_l_word_lists) := ⟨rfl, rfl, rfl, by decide +kernel, rfl, by decide +kernel, by decide +kernel⟩
abbrev s_l_fits : Stmt := topS 41
abbrev N_l_fits : List Str := ["_law_contents_here", "_law_value", "_law_bounds", "_law_words", "_law_taking", "_law_count", "_law_at", "_law_word"]
abbrev ps_l_fits : List Str := ["_law_contents_here", "_law_value"]
theorem sc_l_fits : FnScope N_l_fits ps_l_fits (defScope s_l_fits) := ⟨rfl, rfl, rfl, by decide +kernel, rfl, by decide +kernel, by decide +kernel⟩
def WLL : List PyData := [.list [], .list [.str "clear"], .list [.str "clear", .str "forget"], .list [.str "clear", .str "forget", .str "turn"], .list [.str "clear", .str "turn"], .list [.str "forget"],
  .list [.str "forget", .str "turn"], .list [.str "turn"]]
section
variable {P : Program} {w : World} {K : PySem.W.Frag} {mg : Str → Option Value} {base : Heap}
def R_l_mended : List PyData → PyData → Prop := fun ds r => ∃ (x : Cts) (ws : List Str) (a b c d : Int), Gd (.list (ws.map .str)) ∧ ds = [x.D, .list (ws.map .str), .tuple [.int a, .int b, .int c, .int d]] ∧ r = (mend x ws a b c d).D
theorem ok_l_mended {f : Addr} {fd : FuncData} (F : Fun K "_law_mended" "_law_mended" s_l_mended f fd) : FnOk P w K mg base CX0 1 f fd ps_l_mended (spR K R_l_mended) := by
  refine fn_pure F sc_l_mended (fun ds r h => ?_) (fun cdv A outer s H E hr => ⟨_, (pss_cons (ps_asg (pv 0) (pg_tup (by rfl) (pgs_cons (pg_tup (by rfl) (pgs_cons (pg_name (i := 8) sc_l_mended.nd rfl (Or.inl rfl)) (pgs_cons (pg_name (i := 3) sc_l_mended.nd rfl (Or.inl rfl)) pgs_nil))) (pgs_cons (pg_tup (by rfl) (pgs_cons (pg_name (i := 6) sc_l_mended.nd rfl (Or.inl rfl)) (pgs_cons (pg_name (i := 7) sc_l_mended.nd rfl (Or.inl rfl)) (pgs_cons (pg_name (i := 9) sc_l_mended.nd rfl (Or.inl rfl)) pgs_nil)))) (pgs_cons (pg_name (i := 4) sc_l_mended.nd rfl (Or.inl rfl)) (pgs_cons (pg_name (i := 5) sc_l_mended.nd rfl (Or.inl rfl)) pgs_nil))))))
      (pss_cons (ps_if (pt_cmpR (op_inD (hu65 hr)) pe_str (pv 1) (by rfl)) (pss_one (ps_set (i := 6) sc_l_mended.nd rfl (.inl rfl) (pe_op op_sub pe_int (pv 6)))) pss_nil)
      (pss_cons (ps_if (PW.pt (pw_or (pt_cmpR (op_inD (hu65 hr)) pe_str (pv 1) (by rfl)) (pw_or1 (pt_cmpR (op_inD (hu65 hr)) pe_str (pv 1) (by rfl))))) (pss_one (ps_set (i := 7) sc_l_mended.nd rfl (.inl rfl) pe_non)) pss_nil)
      (pss_cons (ps_set (i := 3) sc_l_mended.nd rfl (.inl rfl) (pe_ifExp (pt_cmpR (op_inD (hu65 hr)) pe_str (pv 1) (by rfl)) pe_int (pv 3)))
      (pss_cons (ps_set (i := 4) sc_l_mended.nd rfl (.inl rfl) (pe_tup (pa_cons (pe_ix (ix_seqK K) (pv 4) pe_int (fun _ _ => rfl)) (pa_cons (pe_op op_sub (pe_ix (ix_seqK K) (pv 4) pe_int (fun _ _ => rfl)) (pe_ix (ix_seqK K) (pv 2) pe_int (fun _ _ => rfl))) (pa_cons (pe_op op_sub (pe_ix (ix_seqK K) (pv 4) pe_int (fun _ _ => rfl)) (pe_ix (ix_seqK K) (pv 2) pe_int (fun _ _ => rfl))) pa_nil)))))
      (pss_one (ps_ret (pe_tup (pa_cons (pe_tup (pa_cons (pv 8) (pa_cons (pv 3) pa_nil))) (pa_cons (pe_tup (pa_cons (pv 6) (pa_cons (pv 7) (pa_cons (pv 9) pa_nil)))) (pa_cons (pv 4) (pa_cons (pe_tup (pa_cons (pe_op op_sub (pe_ix (ix_seqK K) (pv 5) pe_int (fun _ _ => rfl)) (pe_ix (ix_seqK K) (pv 2) pe_int (fun _ _ => rfl))) (pa_cons (pe_op op_sub (pe_ix (ix_seqK K) (pv 5) pe_int (fun _ _ => rfl)) (pe_ix (ix_seqK K) (pv 2) pe_int (fun _ _ => rfl))) pa_nil))) pa_nil)))))))))))), ?_⟩)
  · obtain ⟨x, ws, a, b, c, d, _, rfl, _⟩ := h
    rfl
  · rintro ds r ⟨x, ws, a, b, c, d, hg, rfl, rfl⟩ Z vs M hds
    obtain ⟨v1, v2, v3, rfl, h1, h2, h3⟩ := hds.c3
    have inw : ∀ (τ : St) (N : Hp) (y : Str), SeqAt.shaped (.str y) = true → τ[1]? = some (some v2) → Dt K N v2 (.list (ws.map .str)) → EvT Z (tTest (tOp (rInD K) (tC (.str y)) (tVar 1))) τ N (hasW ws y) := fun τ N y sy e hw =>
      et_is (et_cmp (ev_op (rv_in sy hg.sh) ev_str (ev_var e hw))) (any_str ws y)
    refine bd_un (ev_var rfl h1) fun v N s1 dv => ?_
    obtain ⟨p0, xs, rfl, hq0, hs⟩ := dv.tupE
    obtain ⟨w1, w2, w3, w4, rfl, d1, d2, d3, d4⟩ := hs.c4
    obtain ⟨p1, xs, rfl, hq1, hs⟩ := d1.tupE
    obtain ⟨x1, x2, rfl, e1, e2⟩ := hs.c2
    obtain ⟨p2, xs, rfl, hq2, hs⟩ := d2.tupE
    obtain ⟨x3, x4, x5, rfl, e3, e4, e5⟩ := hs.c3
    refine ⟨[some v1, some v2, some v3, some x2, some w3, some w4, some x3, some x4, some x1, some x5], fun H Q s' q => ⟨p0, _, rfl, same_t (s'.trans vis_same) hq0, rfl, _, _, rfl, ⟨p1, _, rfl, same_t (s'.trans vis_same) hq1, rfl, _, _, rfl, _, _, rfl, rfl, _, _, rfl, ⟨p2, _, rfl, same_t (s'.trans vis_same) hq2, rfl, _, _, rfl, _, _, rfl, _, _, rfl, rfl,
      _, _, rfl, _, _, rfl, rfl, q⟩⟩⟩, ?_⟩
    have g2 := h2.mono s1
    have g3 := h3.mono s1
    -- other
    refine bd_ifAsg (d := .int (mend x ws a b c d).other) (inw _ _ "turn" sh_turn rfl g2) (fun e => ev_eq (ev_op rv_I0 ev_int (ev_var rfl e3)) ?_) (fun e => ⟨x3, rfl, ?_⟩) fun vo N2 s2 dvo => ?_
    · show _ = PyData.int (if hasW ws "turn" = true then 1 - x.other else x.other)
      rw [if_pos e]
    · show Dt K N x3 (.int (if hasW ws "turn" = true then 1 - x.other else x.other))
      rw [e]
      exact e3
    show Bd K Z _ [some v1, some v2, some v3, some x2, some w3, some w4, some vo, some x4, some x1, some x5] N2 _
    -- lot
    refine bd_ifAsg (d := lotD (mend x ws a b c d).lot) (et_or (inw _ _ "turn" sh_turn rfl (g2.mono s2)) (fun _ => inw _ _ "clear" sh_clear rfl (g2.mono s2))) (fun e => ev_eq ev_non ?_) (fun e => ⟨x4, rfl, ?_⟩) fun vl N3 s3 dl => ?_
    · show _ = lotD (if (hasW ws "clear" || hasW ws "turn") = true then none else x.lot)
      rw [if_pos (by rw [Bool.or_comm]; exact e)]
      rfl
    · show Dt K N2 x4 (lotD (if (hasW ws "clear" || hasW ws "turn") = true then none else x.lot))
      rw [if_neg (by rw [Bool.or_comm, e]; exact Bool.false_ne_true)]
      exact e4.mono s2
    show Bd K Z _ [some v1, some v2, some v3, some x2, some w3, some w4, some vo, some vl, some x1, some x5] N3 _
    have s23 := s2.trans s3
    -- heard
    refine bd_asg (d := .int (mend x ws a b c d).heard) (ev_if (inw _ _ "forget" sh_forget rfl (g2.mono s23)) (fun e => ev_eq ev_int ?_) (fun e => ev_eq (ev_var rfl (e2.mono s23)) ?_)) fun vh N4 s4 dh => ?_
    · show _ = PyData.int (if hasW ws "forget" = true then 0 else x.heard)
      rw [if_pos e]
    · show _ = PyData.int (if hasW ws "forget" = true then 0 else x.heard)
      rw [e]
      rfl
    show Bd K Z _ [some v1, some v2, some v3, some vh, some w3, some w4, some vo, some vl, some x1, some x5] N4 _
    have s24 := s23.trans s4
    have gT : Dt K N4 w3 (.tuple [.int x.nw, .int x.zs, .int x.os]) := d3.mono s24
    have gB : Dt K N4 w4 (.tuple [.int x.lo, .int x.hi]) := d4.mono s24
    have gk := g3.mono s24
    refine bd_asg (d := (mend x ws a b c d).T) (ev_tup (ea_cons (ev_op (rv_ixT (atI_nat (j := 0) rfl)) (ev_var rfl gT) ev_int) (ea_cons (ev_op rv_I0 (ev_op (rv_ixT (atI_nat (j := 1) rfl)) (ev_var rfl gT) ev_int) (ev_op (rv_ixT (atI_nat (j := 0) rfl)) (ev_var rfl gk) ev_int))
      (ea_cons (ev_op rv_I0 (ev_op (rv_ixT (atI_nat (j := 2) rfl)) (ev_var rfl gT) ev_int) (ev_op (rv_ixT (atI_nat (j := 1) rfl)) (ev_var rfl gk) ev_int)) ea_nil))) (by simp)) fun vt N5 s5 dt => ?_
    show Bd K Z _ [some v1, some v2, some v3, some vh, some vt, some w4, some vo, some vl, some x1, some x5] N5 _
    have s25 := s24.trans s5
    exact bd_ret (ev_tup (ea_cons (ev_tup (ea_cons (ev_var rfl (e1.mono s25)) (ea_cons (ev_var rfl (dh.mono s5)) ea_nil)) (by simp)) (ea_cons (ev_tup (ea_cons (ev_var rfl (dvo.mono ((s3.trans s4).trans s5))) (ea_cons (ev_var rfl (dl.mono (s4.trans s5))) (ea_cons (ev_var rfl (e5.mono s25)) ea_nil))) (by simp))
      (ea_cons (ev_var rfl dt) (ea_cons (ev_tup (ea_cons (ev_op rv_I0 (ev_op (rv_ixT (atI_nat (j := 0) rfl)) (ev_var rfl (gB.mono s5)) ev_int) (ev_op (rv_ixT (atI_nat (j := 2) rfl)) (ev_var rfl (gk.mono s5)) ev_int))
        (ea_cons (ev_op rv_I0 (ev_op (rv_ixT (atI_nat (j := 1) rfl)) (ev_var rfl (gB.mono s5)) ev_int) (ev_op (rv_ixT (atI_nat (j := 3) rfl)) (ev_var rfl (gk.mono s5)) ev_int)) ea_nil)) (by simp)) ea_nil)))) (by simp))

/-! ### the lists of words -/
def fnd : Nat → List (List Str)
  | 0 => [[]]
  | 1 => [[], ["clear"]]
  | 2 => [[], ["clear"], ["forget"], ["clear", "forget"]]
  | _ => [[], ["clear"], ["forget"], ["clear", "forget"], ["turn"], ["clear", "turn"], ["forget", "turn"], ["clear", "forget", "turn"]]
def enW (ws : List Str) : PyData := .list (ws.map .str)
theorem fnd_step (m : Nat) (y : Str) (h : ([.str "clear", .str "forget", .str "turn"] : List PyData)[m]? = some (.str y)) : (fnd m).map enW ++ ((fnd m).map fun ws => enW (ws ++ [y])) = (fnd (m + 1)).map enW := by
  match m, h with
  | 0, h => cases h; rfl
  | 1, h => cases h; rfl
  | 2, h => cases h; rfl
  | _ + 3, h => cases h
theorem fnd_small (m : Nat) : ((fnd m).map enW).length ≤ 8 := by
  match m with
  | 0 => decide
  | 1 => decide
  | 2 => decide
  | _ + 3 => show 8 ≤ 8; decide
theorem fnd_len (m : Nat) : ∀ ws ∈ fnd m, ws.length ≤ 10 := by
  match m with
  | 0 => decide
  | 1 => decide
  | 2 => decide
  | _ + 3 => exact (by decide : ∀ ws ∈ fnd 3, ws.length ≤ 10)
def apW (y : Str) : PyData → PyData
  | .list xs => .list (xs ++ [.str y])
  | d => d
def R_word_lists : List PyData → PyData → Prop := fun ds r => ds = [] ∧ r = .list WLL
def nsW : List Int := [0, 1, 5, 2, 7, 4, 6, 3]
def fW (i : Int) : PyData := WLL.getD i.toNat .none
theorem wl_1 : (fnd 3).map enW = nsW.map fW := rfl
theorem wl_2 : ∀ a ∈ nsW, ∀ b ∈ nsW, (fun (x y : Int) => decide (x ≤ y)) a b = PySem.W.dataLe false id (fW a) (fW b) := by decide +kernel
theorem wl_3 : ([0, 1, 2, 3, 4, 5, 6, 7] : List Int) = nsW.mergeSort (fun x y => decide (x ≤ y)) := PySem.W.os_sorted_mergeSort (by decide) (by decide)
theorem wl_sorted : ((fnd 3).map enW).mergeSort (PySem.W.dataLe false id) = WLL := by
  rw [wl_1, ← PySem.W.sort_maps fW wl_2, ← wl_3]
  rfl
theorem ok_l_word_lists {f : Addr} {fd : FuncData} (F : Fun K "_law_word_lists" "_law_word_lists" s_l_word_lists f fd) (T : Txt mg) : FnOk P w K mg base CX0 1 f fd ps_l_word_lists (spR K R_word_lists) := by
  refine fn_pure F sc_l_word_lists (fun ds r h => ?_) (fun cdv A outer s H E hr => ⟨_, (pss_cons (ps_set (i := 0) sc_l_word_lists.nd rfl (.inl rfl) (pe_lst (pa_cons (pe_lst pa_nil) pa_nil)))
      (pss_cons (ps_for PassesOwn.never rfl (pi_list (pe_lst (pa_cons pe_str (pa_cons pe_str (pa_cons pe_str pa_nil))))) (pg_name (i := 1) sc_l_word_lists.nd rfl (Or.inr rfl)) (pss_one (ps_set (i := 0) sc_l_word_lists.nd rfl (.inl rfl) (pe_op (op_catXK K) (pv 0) (pe_lc (own := [("_law_words", 2)]) (g := gName 2) rfl sc_l_word_lists.nd (pi_list (pv 0)) (blkOk_by (N := N_l_word_lists) (sc := defScope s_l_word_lists) (by decide +kernel)) (fun _ _ _ _ _ => pg_name (i := 2) sc_l_word_lists.nd rfl (Or.inl rfl)) (fun _ _ _ _ _ => pts_nil) (fun _ _ _ _ _ => (pe_op (op_catXK K) (pv 2) (pe_lst (pa_cons (pv 1) pa_nil)))))))))
      (pss_one (ps_ret (pe_callB (call_sortedX hr) (by rfl) T.m_sorted bt_sorted (pa_cons (pv 0) pa_nil)))))), ?_⟩)
  · obtain ⟨rfl, _⟩ := h
    rfl
  · rintro ds r ⟨rfl, rfl⟩ Z vs M hds
    cases hds
    refine bd_asg (d := .list ((fnd 0).map enW)) (ev_lst (ea_cons (ev_lst ea_nil (by decide)) ea_nil) (by decide)) fun vf N s1 df => ?_
    refine c_isB [some vf, none, none] rfl ?_
    refine bd_forL (ds := [.str "clear", .str "forget", .str "turn"]) (Po := fun m σ' N' => ∃ (vf : V) (y : Option V), σ' = [some vf, y, none] ∧ Dt K N' vf (.list ((fnd m).map enW))) (ev_lst (ea_cons ev_str (ea_cons ev_str (ea_cons ev_str ea_nil))) (by simp))
      (fun N' s' => ⟨vf, none, rfl, df.mono s'⟩) (fun m d x σ' N' hd dx s' p => ?_) (fun σ' N' s' p => ?_)
    · obtain ⟨vf', y0, rfl, df'⟩ := p
      obtain ⟨y, rfl⟩ : ∃ y : Str, d = .str y := by
        match m, hd with
        | 0, h => exact ⟨_, (Option.some.inj h).symm⟩
        | 1, h => exact ⟨_, (Option.some.inj h).symm⟩
        | 2, h => exact ⟨_, (Option.some.inj h).symm⟩
        | _ + 3, h => cases h
      show Bs Z _ [some vf', some x, none] N' _
      have e := fnd_step m y hd
      have hl := fnd_small m
      have em : ((fnd m).map enW).map (apW y) = (fnd m).map fun ws => enW (ws ++ [y]) := by
        rw [List.map_map]
        refine List.map_congr_left fun ws _ => ?_
        show PyData.list (ws.map .str ++ [.str y]) = .list ((ws ++ [y]).map .str)
        rw [List.map_append]
        rfl
      refine bs_asg (d := .list ((fnd (m + 1)).map enW)) (ev_eq (ev_op (rv_catL (by rw [List.length_map (as := (fnd m).map enW)]; omega)) (ev_var rfl df') (ev_mapL (apW y) (ev_var rfl df') (by omega) fun Y d' x' N2 hm s2 dx' => ?_)) (by rw [em, e])) fun v N2 s2 dv => ⟨v, some x, rfl, dv⟩
      obtain ⟨ws, hws, rfl⟩ := List.mem_map.mp hm
      refine ev_op (rv_catL ?_) (ev_var rfl dx') (ev_lst (ea_cons (ev_var rfl (dx.mono s2)) ea_nil) (by simp))
      have := fnd_len m ws hws
      rw [List.length_map]
      simp only [List.length_cons, List.length_nil]
      omega
    · obtain ⟨vf', y0, rfl, df'⟩ := p
      refine bd_ret (ev_cb (rc_sorted (bs := (fnd 3).map enW) ?_ ?_ ?_ wl_sorted) (ea_cons (ev_var rfl df') ea_nil))
      · decide +kernel
      · show ∀ d ∈ (fnd 3).map enW, ∀ d' ∈ (fnd 3).map enW, PySem.W.alike d d' = true
        decide +kernel
      · refine .inr fun d hd => ?_
        obtain ⟨ws, _, rfl⟩ := List.mem_map.mp hd
        exact ⟨(fun h => nomatch h), (fun xs h => nomatch h)⟩

/-! ### what fits -/
theorem nt1 {b : Bool} (h : (!b) = true) : b = false := by cases b <;> first | rfl | cases h
theorem nt2 {b : Bool} (h : (!b) = false) : b = true := by cases b <;> first | rfl | cases h
theorem sh_WLL : SeqAt.shaped (.list WLL) = true := by decide +kernel
theorem any_WLL (xs : List PyData) : (WLL.any fun z => PyData.eqv z (.list xs)) = WL.any fun z => PyData.eqv z (.tuple xs) := by
  simp only [WLL, WL, List.any_cons, List.any_nil, PyData.eqv]
def R_l_fits : List PyData → PyData → Prop := fun ds r => ∃ (x : Cts) (d : PyData), Gv d ∧ ds = [x.D, d] ∧ r = .bool (mfit x d)
theorem ok_l_fits {f f1 : Addr} {fd fd1 : FuncData} (F : Fun K "_law_fits" "_law_fits" s_l_fits f fd) (T : Txt mg) (C_l_word_lists : Cal P w K mg base 1 "_law_word_lists" ps_l_word_lists f1 fd1 (spR K R_word_lists)) :
    FnOk P w K mg base CX0 2 f fd ps_l_fits (spR K R_l_fits) := by
  refine fn_pure F sc_l_fits (fun ds r h => ?_) (fun cdv A outer s H E hr => ⟨_, (pss_cons (ps_if (PW.pt (pw_or (pt_not (pt_val (pe_callB (call_isiX K) (by rfl) T.m_isinstance bt_isinstance (pa_cons (pv 1) (pa_cons (pe_bltn (v := .ty "tuple") (by rfl) T.m_tuple bt_tuple rfl) pa_nil))))) (pw_or1 (pt_cmpR (op_neD hr.units) (pe_callB call_len_seq (by rfl) T.m_len bt_len (pa_cons (pv 1) pa_nil)) pe_int (nomark _))))) (pss_one (ps_ret pe_bl)) pss_nil)
      (pss_cons (ps_asg (pv 1) (pg_tup (by rfl) (pgs_cons (pg_name (i := 3) sc_l_fits.nd rfl (Or.inl rfl)) (pgs_cons (pg_name (i := 4) sc_l_fits.nd rfl (Or.inr rfl)) pgs_nil))))
      (pss_cons (ps_if (PW.pt (pw_or (pt_not (pt_val (pe_callB (call_isiX K) (by rfl) T.m_isinstance bt_isinstance (pa_cons (pv 3) (pa_cons (pe_bltn (v := .ty "list") (by rfl) T.m_list bt_list rfl) pa_nil))))) (pw_or (pt_cmpR (op_neD hr.units) (pe_lc (own := [("_law_word", 7)]) (g := gName 7) rfl sc_l_fits.nd (pi_list (pv 3)) (blkOk_by (N := N_l_fits) (sc := defScope s_l_fits) (by decide +kernel)) (fun _ _ _ _ _ => pg_name (i := 7) sc_l_fits.nd rfl (Or.inl rfl)) (fun _ _ _ _ _ => (pts_one (pt_not (pt_val (pe_callB (call_isiX K) (by rfl) T.m_isinstance bt_isinstance (pa_cons (pv 7) (pa_cons (pe_bltn (v := .ty "str") (by rfl) T.m_str bt_str rfl) pa_nil))))))) (fun _ _ _ _ _ => (pv 7))) (pe_lst pa_nil) (nomark _)) (pw_or1 (pt_cmpR (op_notInD (hu65 hr)) (pv 3) (pe_call0 C_l_word_lists.ok (hr.mono (by decide)) (by rfl) C_l_word_lists.g C_l_word_lists.kp C_l_word_lists.b .nil pass0) (by rfl)))))) (pss_one (ps_ret pe_bl)) pss_nil)
      (pss_cons (ps_if (PW.pt (pw_or (pt_not (pt_val (pe_callB (call_isiX K) (by rfl) T.m_isinstance bt_isinstance (pa_cons (pv 4) (pa_cons (pe_bltn (v := .ty "tuple") (by rfl) T.m_tuple bt_tuple rfl) pa_nil))))) (pw_or1 (pt_cmpR (op_neD hr.units) (pe_callB call_len_seq (by rfl) T.m_len bt_len (pa_cons (pv 4) pa_nil)) pe_int (nomark _))))) (pss_one (ps_ret pe_bl)) pss_nil)
      (pss_cons (ps_if (pt_cmpR (op_neD hr.units) (pe_lc (own := [("_law_count", 5)]) (g := gName 5) rfl sc_l_fits.nd (pi_tup (pv 4)) (blkOk_by (N := N_l_fits) (sc := defScope s_l_fits) (by decide +kernel)) (fun _ _ _ _ _ => pg_name (i := 5) sc_l_fits.nd rfl (Or.inl rfl)) (fun _ _ _ _ _ => (pts_one (PW.pt (pw_or (pt_not (pt_val (pe_callB (call_isiX K) (by rfl) T.m_isinstance bt_isinstance (pa_cons (pv 5) (pa_cons (pe_bltn (v := .ty "int") (by rfl) T.m_int bt_int rfl) pa_nil))))) (pw_or1 (pt_val (pe_callB (call_isiX K) (by rfl) T.m_isinstance bt_isinstance (pa_cons (pv 5) (pa_cons (pe_bltn (v := .ty "bool") (by rfl) T.m_bool bt_bool rfl) pa_nil))))))))) (fun _ _ _ _ _ => (pv 5))) (pe_lst pa_nil) (nomark _)) (pss_one (ps_ret pe_bl)) pss_nil)
      (pss_cons (ps_set (i := 2) sc_l_fits.nd rfl (.inr rfl) (pe_lst (pa_cons (pe_ix (ix_seqK K) (pe_ix (ix_seqK K) (pv 0) pe_int (fun _ _ => rfl)) pe_int (fun _ _ => rfl)) (pa_cons (pe_ix (ix_seqK K) (pe_ix (ix_seqK K) (pv 0) pe_int (fun _ _ => rfl)) pe_int (fun _ _ => rfl)) (pa_cons (pe_ix (ix_seqK K) (pe_ix (ix_seqK K) (pv 0) pe_int (fun _ _ => rfl)) pe_int (fun _ _ => rfl)) (pa_cons (pe_ix (ix_seqK K) (pe_ix (ix_seqK K) (pv 0) pe_int (fun _ _ => rfl)) pe_int (fun _ _ => rfl)) pa_nil))))))
      (pss_one (ps_ret (pe_cmpR (op_eqD hr.units) (pe_lc (own := [("_law_at", 6)]) (g := gName 6) rfl sc_l_fits.nd (pi_range1 (by rfl) T.m_range (pa_cons pe_int pa_nil)) (blkOk_by (N := N_l_fits) (sc := defScope s_l_fits) (by decide +kernel)) (fun _ _ _ _ _ => pg_name (i := 6) sc_l_fits.nd rfl (Or.inl rfl)) (fun _ _ _ _ _ => (pts_one (pt_not (pt_chain op_le op_le pe_int (pe_ix (ix_seqK K) (pv 4) (pv 6) (fun _ _ => rfl)) (pe_ix (ix_seqK K) (pv 2) (pv 6) (fun _ _ => rfl)))))) (fun _ _ _ _ _ => (pv 6))) (pe_lst pa_nil) (nomark _)))))))))), ?_⟩)
  · obtain ⟨x, d, _, rfl, _⟩ := h
    rfl
  · rintro ds r ⟨x, d, hd, rfl, rfl⟩ Z vs M hds
    obtain ⟨v1, v2, rfl, h1, h2⟩ := hds.c2
    have no : isU d = false → mfit x d = false := fun e => by cases d <;> first | rfl | cases e
    cases hU : isU d with
    | false =>
      refine bd_when (b := true) (et_or (c := true) (b := true) (et_is (et_not (et_val (ev_isi (kit_tuple _) (ev_var rfl h2)))) (by rw [hU]; rfl)) (fun e => by cases e)) (fun _ => bd_ret (ev_eq ev_bl (by rw [no hU]))) (fun e => by cases e)
    | true =>
      cases d with
      | tuple xs =>
        have g : Gd (.tuple xs) := by
          rcases hd with g | g
          · exact g
          · cases g
        refine bd_when (b := !((xs.length : Int) == 2)) (et_is (et_or (b := false) (et_is (et_not (et_val (ev_isi (kit_tuple _) (ev_var rfl h2)))) rfl) (fun _ => et_cmp (ev_op (rv_ne (sh_int _) (sh_int _)) (ev_cb rc_lenT (ea_cons (ev_var rfl h2) ea_nil)) ev_int)))
          (by rw [eqv_int]; rfl)) (fun e => ?_) (fun e => ?_)
        · refine bd_ret (ev_eq ev_bl ?_)
          match xs, e with
          | [], _ => rfl
          | [_], _ => rfl
          | [_, _], e => simp at e
          | _ :: _ :: _ :: _, _ => rfl
        · match xs, e with
          | [], e => simp at e
          | [_], e => simp at e
          | _ :: _ :: _ :: r, e => simp at e; omega
          | [a, b], _ =>
            have ga : Gd a := g.memT (by simp)
            have gb : Gd b := g.memT (by simp)
            -- words, taking = value
            refine bd_un (ev_var rfl h2) fun v N s1 dv => ?_
            obtain ⟨p0, xs, rfl, hq0, hs⟩ := dv.tupE
            obtain ⟨w1, w2, rfl, d1, d2⟩ := hs.c2
            refine ⟨[some v1, some v2, none, some w1, some w2, none, none, none], fun H Q s' q => ⟨p0, _, rfl, same_t (s'.trans vis_same) hq0, rfl, _, _, rfl, _, _, rfl, rfl, q⟩, ?_⟩
            have tw : EvT Z (tOr (tNot (tB (tCB (rIsi K) (tCons (tVar 3) (tCons (tC (.ty "list")) tNil))))) (tOr (tTest (tOp (rNeD K) (tLc (iList K (tVar 3)) (gName 7) (tNot (tB (tCB (rIsi K) (tCons (tVar 7) (tCons (tC (.ty "str")) tNil))))) (tVar 7) [7]) (tLst tNil)))
                (tTest (tOp (rNotInD K) (tVar 3) (tCall (spR K R_word_lists) [] E0 tNil))))) [some v1, some v2, none, some w1, some w2, none, none, none] N (!wfit a) := by
              have noL : isL a = false → wfit a = false := fun e => by cases a <;> first | rfl | cases e
              cases hL : isL a with
              | false => exact et_is (et_or (c := true) (b := true) (et_is (et_not (et_val (ev_isi (kit_list _) (ev_var rfl d1)))) (by rw [hL]; rfl)) (fun e => by cases e)) (by rw [noL hL]; rfl)
              | true =>
                cases a with
                | list xs =>
                  refine et_is (et_or (b := false) (et_is (et_not (et_val (ev_isi (kit_list _) (ev_var rfl d1)))) rfl) (fun _ => et_or (b := !xs.all isS) (c := !(WLL.any fun z => PyData.eqv z (.list xs))) (et_is (et_cmp (ev_op (rv_ne (ga.filter _).sh sh_nil)
                    (ev_filterL (fun d => !isS d) (ev_var rfl d1) (ltn rfl) ga.lenL (fun d x N hm s hx => et_not (et_val (ev_isi (kit_str _) (ev_var rfl hx))))) (ev_lst ea_nil (by decide)))) ?_)
                      (fun _ => et_cmp (ev_op (rv_notIn ga.sh sh_WLL) (ev_var rfl d1) (ev_call (R := R_word_lists) ⟨rfl, rfl⟩ ea_nil))))) ?_
                  · rw [eqv_nil, filter_empty]
                  · rw [any_WLL]
                    show (false || (!xs.all isS || !(WL.any fun z => PyData.eqv z (.tuple xs)))) = !(xs.all isS && WL.any fun z => PyData.eqv z (.tuple xs))
                    cases xs.all isS <;> rfl
                | _ => cases hL
            refine bd_when tw (fun e => bd_ret (ev_eq ev_bl ?_)) (fun e => ?_)
            · have e' : wfit a = false := by simpa using e
              show PyData.bool false = .bool (wfit a && tfit x b)
              rw [e']
              rfl
            have hw : wfit a = true := by simpa using e
            have hm : mfit x (.tuple [a, b]) = tfit x b := by
              show (wfit a && tfit x b) = _
              rw [hw]
              rfl
            rw [hm]
            have noB : isU b = false → tfit x b = false := fun e => by cases b <;> first | rfl | cases e
            cases hB : isU b with
            | false =>
              refine bd_when (b := true) (et_or (c := true) (b := true) (et_is (et_not (et_val (ev_isi (kit_tuple _) (ev_var rfl d2)))) (by rw [hB]; rfl)) (fun e => by cases e)) (fun _ => bd_ret (ev_eq ev_bl (by rw [noB hB]))) (fun e => by cases e)
            | true =>
              cases b with
              | tuple ys =>
                refine bd_when (b := !((ys.length : Int) == 4)) (et_is (et_or (b := false) (et_is (et_not (et_val (ev_isi (kit_tuple _) (ev_var rfl d2)))) rfl) (fun _ => et_cmp (ev_op (rv_ne (sh_int _) (sh_int _)) (ev_cb rc_lenT (ea_cons (ev_var rfl d2) ea_nil)) ev_int)))
                  (by rw [eqv_int]; rfl)) (fun e => ?_) (fun e => ?_)
                · refine bd_ret (ev_eq ev_bl ?_)
                  match ys, e with
                  | [], _ => rfl
                  | [_], _ => rfl
                  | [_, _], _ => rfl
                  | [_, _, _], _ => rfl
                  | [_, _, _, _], e => simp at e
                  | _ :: _ :: _ :: _ :: _ :: _, _ => rfl
                · match ys, e with
                  | [], e => simp at e
                  | [_], e => simp at e
                  | [_, _], e => simp at e
                  | [_, _, _], e => simp at e
                  | _ :: _ :: _ :: _ :: _ :: r, e => simp at e; omega
                  | [y0, y1, y2, y3], _ =>
                    have gl : Gd (.list [y0, y1, y2, y3]) := by
                      obtain ⟨q1, q2, q3⟩ := gb
                      exact ⟨by simpa only [PyData.canLay0] using q1, by simpa only [PyData.depth] using q2, by simpa only [PyData.weight] using q3⟩
                    refine bd_when (b := !([y0, y1, y2, y3] : List PyData).all isW) (et_is (et_cmp (ev_op (rv_ne (gl.filter _).sh sh_nil) (ev_filterT (fun d => !isW d) (ev_var rfl d2) (ltn rfl) (by simp) (fun d x N hm s hx => ?_)) (ev_lst ea_nil (by decide)))) ?_) (fun e => ?_) (fun e => ?_)
                    · refine et_is (et_or (et_not (et_val (ev_isi (kit_int _) (ev_var rfl hx)))) (fun _ => et_val (ev_isi (kit_bool _) (ev_var rfl hx)))) ?_
                      cases d <;> rfl
                    · rw [eqv_nil, filter_empty]
                    · refine bd_ret (ev_eq ev_bl ?_)
                      have nb : ∀ (d : PyData) (hi : Option Int), isW d = false → btw d 0 hi = false := fun d hi e => by cases d <;> first | rfl | cases e
                      have e' : (isW y0 && (isW y1 && (isW y2 && (isW y3 && true)))) = false := nt1 e
                      show PyData.bool false = .bool (btw y0 0 (some x.zs) && (btw y1 0 (some x.os) && (btw y2 0 (some x.lo) && btw y3 0 (some x.hi))))
                      cases h0 : isW y0 with
                      | false => rw [nb y0 _ h0]; rfl
                      | true =>
                        cases h1 : isW y1 with
                        | false => rw [nb y1 _ h1]; cases btw y0 0 (some x.zs) <;> rfl
                        | true =>
                          cases h2 : isW y2 with
                          | false => rw [nb y2 _ h2]; cases btw y0 0 (some x.zs) <;> cases btw y1 0 (some x.os) <;> rfl
                          | true =>
                            cases h3 : isW y3 with
                            | false => rw [nb y3 _ h3]; cases btw y0 0 (some x.zs) <;> cases btw y1 0 (some x.os) <;> cases btw y2 0 (some x.lo) <;> rfl
                            | true =>
                              rw [h0, h1, h2, h3] at e'
                              cases e'
                    · have e' : (isW y0 && (isW y1 && (isW y2 && (isW y3 && true)))) = true := nt2 e
                      have ow : ∀ d : PyData, isW d = true → ∃ i : Int, d = .int i := fun d e => by cases d <;> first | exact ⟨_, rfl⟩ | cases e
                      simp only [Bool.and_eq_true] at e'
                      obtain ⟨i0, rfl⟩ := ow _ e'.1
                      obtain ⟨i1, rfl⟩ := ow _ e'.2.1
                      obtain ⟨i2, rfl⟩ := ow _ e'.2.2.1
                      obtain ⟨i3, rfl⟩ := ow _ e'.2.2.2.1
                      have c1 : Dt K N v1 (.tuple [x.S, x.R, .tuple [.int x.nw, .int x.zs, .int x.os], .tuple [.int x.lo, .int x.hi]]) := h1.mono s1
                      refine bd_asg (d := .list [.int x.zs, .int x.os, .int x.lo, .int x.hi]) (ev_lst (ea_cons (ev_op (rv_ixT (atI_nat (j := 1) rfl)) (ev_op (rv_ixT (atI_nat (j := 2) rfl)) (ev_var rfl c1) ev_int) ev_int) (ea_cons (ev_op (rv_ixT (atI_nat (j := 2) rfl)) (ev_op (rv_ixT (atI_nat (j := 2) rfl)) (ev_var rfl c1) ev_int) ev_int)
                        (ea_cons (ev_op (rv_ixT (atI_nat (j := 0) rfl)) (ev_op (rv_ixT (atI_nat (j := 3) rfl)) (ev_var rfl c1) ev_int) ev_int) (ea_cons (ev_op (rv_ixT (atI_nat (j := 1) rfl)) (ev_op (rv_ixT (atI_nat (j := 3) rfl)) (ev_var rfl c1) ev_int) ev_int) ea_nil)))) (by simp)) fun vb N2 s2 db => ?_
                      refine c_isB [some v1, some v2, some vb, some w1, some w2, none, none, none] rfl ?_
                      let G : PyData → Bool := fun q => match q with
                        | .int z => !(match z with | 0 => btw (.int i0) 0 (some x.zs) | 1 => btw (.int i1) 0 (some x.os) | 2 => btw (.int i2) 0 (some x.lo) | 3 => btw (.int i3) 0 (some x.hi) | _ => false)
                        | _ => false
                      have key : ∀ m : Nat, m < 4 → ∃ y h : Int, ([.int i0, .int i1, .int i2, .int i3] : List PyData)[m]? = some (.int y) ∧ ([.int x.zs, .int x.os, .int x.lo, .int x.hi] : List PyData)[m]? = some (.int h) ∧ G (.int (m : Int)) = !(decide (0 ≤ y) && decide (y ≤ h)) := fun m hm => by
                        match m, hm with
                        | 0, _ => exact ⟨_, _, rfl, rfl, rfl⟩
                        | 1, _ => exact ⟨_, _, rfl, rfl, rfl⟩
                        | 2, _ => exact ⟨_, _, rfl, rfl, rfl⟩
                        | 3, _ => exact ⟨_, _, rfl, rfl, rfl⟩
                      refine bd_ret (ev_eq (ev_op (rv_eq (e := .list []) ?_ sh_nil) (ev_filterR (m := 4) G (ea_cons ev_int ea_nil) (ltn rfl) (by decide) (fun m N3 hm s3 => ?_)) (ev_lst ea_nil (by decide))) ?_)
                      · show SeqAt.shaped (.list ((([.int 0, .int 1, .int 2, .int 3] : List PyData)).filter G)) = true
                        have g4 : Gd (.list [.int 0, .int 1, .int 2, .int 3]) := ⟨by decide +kernel, by decide +kernel, by decide +kernel⟩
                        exact (g4.filter G).sh
                      · obtain ⟨y, h, e1, e2, e3⟩ := key m hm
                        rw [e3]
                        exact et_not (et_cmp (ev_chain (g := fun i j => decide (i ≤ j)) (g' := fun i j => decide (i ≤ j)) ev_int (ev_op (rv_ixT (atI_nat e1)) (ev_var rfl (d2.mono (s2.trans s3))) (ev_var rfl (.int _))) (ev_op (rv_ixL (atI_nat e2)) (ev_var rfl (db.mono s3)) (ev_var rfl (.int _)))))
                      · show PyData.bool (PyData.eqv (.list ((([.int 0, .int 1, .int 2, .int 3] : List PyData)).filter G)) (.list [])) = _
                        rw [eqv_nil]
                        show PyData.bool ((([.int 0, .int 1, .int 2, .int 3] : List PyData)).filter (fun d => G d)).isEmpty = PyData.bool (btw (.int i0) 0 (some x.zs) && (btw (.int i1) 0 (some x.os) && (btw (.int i2) 0 (some x.lo) && btw (.int i3) 0 (some x.hi))))
                        have f0 : G (.int 0) = !btw (.int i0) 0 (some x.zs) := rfl
                        have f1 : G (.int 1) = !btw (.int i1) 0 (some x.os) := rfl
                        have f2 : G (.int 2) = !btw (.int i2) 0 (some x.lo) := rfl
                        have f3 : G (.int 3) = !btw (.int i3) 0 (some x.hi) := rfl
                        simp only [List.filter_cons, List.filter_nil, f0, f1, f2, f3]
                        cases btw (.int i0) 0 (some x.zs) <;> cases btw (.int i1) 0 (some x.os) <;> cases btw (.int i2) 0 (some x.lo) <;> cases btw (.int i3) 0 (some x.hi) <;> rfl
              | _ => cases hB
      | _ => cases hU
end
end Hw

set_option maxHeartbeats 2000000
/-! HwN: small data, the law's bent values. -/
namespace Hw
open PySem PySem.Spec L2
/-! ### small data -/
def wcap : Nat → Nat
  | 0 => 110
  | k + 1 => 7 * wcap k
theorem wcap_pos : ∀ k, 110 ≤ wcap k
  | 0 => Nat.le_refl _
  | k + 1 => by
    have := wcap_pos k
    show 110 ≤ 7 * wcap k
    omega
structure G (k : Nat) (d : PyData) : Prop where
  can : d.canLay0 = true
  dep : d.depth ≤ k
  wt : d.weight ≤ wcap k
  sh : d.intsShort 40 = true
  show_ : d.showable = true
theorem G.up {k : Nat} {d : PyData} (g : G k d) : G (k + 1) d := ⟨g.can, Nat.le_succ_of_le g.dep, Nat.le_trans g.wt (by show wcap k ≤ 7 * wcap k; omega), g.sh, g.show_⟩
theorem G.none {k : Nat} : G k .none := ⟨by simp only [PyData.canLay0], by simp [PyData.depth], by simp [PyData.weight], by simp only [PyData.intsShort], by simp only [PyData.showable]⟩
theorem G.bool {k : Nat} {b : Bool} : G k (.bool b) := ⟨by simp only [PyData.canLay0], by simp [PyData.depth], by simp [PyData.weight], by simp only [PyData.intsShort], by simp only [PyData.showable]⟩
theorem log_le {n : Nat} (h : n < 10 ^ 32) : n.log2 ≤ 106 := by
  by_cases h0 : n = 0
  · subst h0
    decide
  · have : n.log2 < 107 := (Nat.log2_lt h0).mpr (Nat.lt_of_lt_of_le h (by decide))
    omega
theorem G.int {k : Nat} {i : Int} (h : i.natAbs < 10 ^ 32) : G k (.int i) := by
  have hl := log_le h
  have hw := wcap_pos k
  refine ⟨by simp only [PyData.canLay0], by simp [PyData.depth], ?_, ?_, ?_⟩
  · simp only [PyData.weight]
    split <;> omega
  · simp only [PyData.intsShort, decide_eq_true_eq]
    have e := int_text_length_le10 (a := i) (k := 32) (by decide) h
    have e2 : (PyData.shown (.int i)).length = (toString i).length := by
      simp only [PyData.shown]
      show (Str.ofString (toString i)).length = _
      exact ofString_length _
    omega
  · simp only [PyData.showable, decide_eq_true_eq]
    omega
theorem G.str {k : Nat} {x : Str} (h : PyData.strOk x = true) (hl : x.cps.size ≤ 100) : G k (.str x) := by
  have hw := wcap_pos k
  exact ⟨by simp only [PyData.canLay0]; exact h, by simp [PyData.depth], by simp only [PyData.weight]; omega, by simp only [PyData.intsShort], by simp only [PyData.showable]⟩
theorem G.all {k : Nat} : ∀ {xs : List PyData}, (∀ x ∈ xs, G k x) → PyData.canLayAll0 xs = true ∧ PyData.depthAll xs ≤ k ∧ PyData.weightAll xs ≤ xs.length * (wcap k + 1) ∧ PyData.intsShortAll 40 xs = true ∧ PyData.showableAll xs = true
  | [], _ => ⟨by simp only [PyData.canLayAll0], by simp [PyData.depthAll], by simp [PyData.weightAll], by simp only [PyData.intsShortAll], by simp only [PyData.showableAll]⟩
  | x :: xs, h => by
    obtain ⟨a, b, c, d, e⟩ := G.all fun y m => h y (List.mem_cons_of_mem _ m)
    obtain ⟨a', b', c', d', e'⟩ := h x (List.mem_cons_self ..)
    refine ⟨by simp only [PyData.canLayAll0, a, a', Bool.and_self], by simp only [PyData.depthAll]; omega, ?_, by simp only [PyData.intsShortAll, d, d', Bool.and_self], by simp only [PyData.showableAll, e, e', Bool.and_self]⟩
    simp only [PyData.weightAll, List.length_cons, Nat.add_mul]
    omega
theorem capL {k n : Nat} {w : Nat} (h : w ≤ n * (wcap k + 1)) (hn : n ≤ 6) : w ≤ wcap (k + 1) := by
  have h1 := wcap_pos k
  have h2 : n * (wcap k + 1) ≤ 6 * (wcap k + 1) := Nat.mul_le_mul_right _ hn
  show w ≤ 7 * wcap k
  omega
theorem G.list {k : Nat} {xs : List PyData} (h : ∀ x ∈ xs, G k x) (hl : xs.length ≤ 6) : G (k + 1) (.list xs) := by
  obtain ⟨a, b, c, d, e⟩ := G.all h
  exact ⟨by simp only [PyData.canLay0]; exact a, by simp only [PyData.depth]; omega, by simp only [PyData.weight]; exact capL c hl, by simp only [PyData.intsShort]; exact d, by simp only [PyData.showable]; exact e⟩
theorem G.tup {k : Nat} {xs : List PyData} (h : ∀ x ∈ xs, G k x) (hl : xs.length ≤ 6) : G (k + 1) (.tuple xs) := by
  obtain ⟨a, b, c, d, e⟩ := G.all h
  exact ⟨by simp only [PyData.canLay0]; exact a, by simp only [PyData.depth]; omega, by simp only [PyData.weight]; exact capL c hl, by simp only [PyData.intsShort]; exact d, by simp only [PyData.showable]; exact e⟩
theorem all0 {p : PyData → Prop} : ∀ x ∈ ([] : List PyData), p x := fun x h => nomatch h
theorem allC {p : PyData → Prop} {d : PyData} {ds : List PyData} (h : p d) (hs : ∀ x ∈ ds, p x) : ∀ x ∈ d :: ds, p x := fun x m => by
  rcases List.mem_cons.mp m with rfl | m
  · exact h
  · exact hs x m
theorem allA {p : PyData → Prop} {ds es : List PyData} (h : ∀ x ∈ ds, p x) (hs : ∀ x ∈ es, p x) : ∀ x ∈ ds ++ es, p x := fun x m => by
  rcases List.mem_append.mp m with m | m
  · exact h x m
  · exact hs x m
def Gw (d : PyData) : Prop := G 3 d ∨ d = .dict []
theorem G.gd {d : PyData} (g : G 3 d) : Gd d := ⟨g.can, Nat.le_trans g.dep (by decide), Nat.le_trans g.wt (by decide)⟩
theorem Gw.gv {d : PyData} (g : Gw d) : Gv d := g.imp G.gd id
theorem G.shw {k : Nat} {d : PyData} (g : G k d) (hk : k ≤ 4) : Shw d := by
  have hw : wcap k ≤ 264110 := by
    match k, hk with
    | 0, _ => decide
    | 1, _ => decide
    | 2, _ => decide
    | 3, _ => decide
    | 4, _ => decide
  refine ⟨.inl g.can, g.show_, Nat.le_trans g.dep (by omega), ?_⟩
  have h := PyData.shown_le 40 (by decide) d (PyData.leavesShort_of_canLay0 40 d g.can g.sh)
  have h2 : (40 + 2) * d.weight ≤ 42 * 264110 := Nat.mul_le_mul (by decide) (Nat.le_trans g.wt hw)
  have h3 : sizeLine = 16777216 := sizeLine_eq
  omega
theorem Gw.shw {d : PyData} (g : Gw d) : Shw d := by
  rcases g with g | rfl
  · exact g.shw (by decide)
  · refine ⟨.inr rfl, by simp only [PyData.showable, PyData.showableKv], by simp [PyData.depth, PyData.depthKv], ?_⟩
    simp only [PyData.shown, PyData.shownKv]
    rw [sizeLine_eq]
    decide

/-! ### fresh lists, in the making -/
section
variable {K : PySem.W.Frag} {Z : Wld} {σ : St} {M N H : Hp} {ta tb te tx tl : TE} {t u : TS} {v : V} {d e f r : PyData} {ds es : List PyData} {j n : Nat} {p : Addr} {xs ys : List V} {tr : TA} {Q : VK}
theorem Mk.base {D : Addr} (s : Same M N) (p : Mk K Z n N D es H) : Mk K Z n M D es H := let ⟨acc, k, s2, a⟩ := p.at_; ⟨acc, k, s.trans s2, a⟩
theorem Mk.of {p : Addr} {xs : List V} (k : Z.ok n H) (hp : H p = none) (h : Dts K (Z.vis H) xs ds) : Mk K Z n (Z.vis H) p ds (upd H p (.lst xs)) :=
  ⟨xs, (k.pin_new hp).1, (k.pin_new hp).2, h.mono (k.pin_new hp).2⟩
theorem c_lstF (h : EvA K Z tr σ M ds) (hz : ds.length ≤ 100000) (s : Same M (Z.vis H)) (k : Z.ok n H) (q : ∀ p H', Z.hid p = false → Mk K Z n (Z.vis H) p ds H' → Q (.ref p) H') : tLst tr σ H Q :=
  h n H s k _ fun vs H1 s1 k1 d1 => ⟨by rw [d1.length]; exact sz hz, fun p hp => q p _ (k1.free hp) ((Mk.of k1 hp d1).base s1)⟩
theorem c_catF (ha : Ev K Z ta σ M (.list ds)) (hb : Ev K Z tb σ M (.list es)) (hz : ds.length + es.length ≤ 100000) (s : Same M (Z.vis H)) (k : Z.ok n H) (q : ∀ p H', Z.hid p = false → Mk K Z n (Z.vis H) p (ds ++ es) H' → Q (.ref p) H') : tOp (rCatX K) ta tb σ H Q :=
  ha n H s k _ fun x H1 s1 k1 d1 => hb n H1 (s.trans s1) k1 _ fun y H2 s2 k2 d2 => by
    obtain ⟨a, xs, rfl, h1, h2⟩ := (d1.mono s2).lstE
    obtain ⟨b, ys, rfl, h3, h4⟩ := d2.lstE
    exact ⟨a, b, xs, ys, rfl, rfl, vis_same.seq h1, vis_same.seq h3, by rw [h2.length, h4.length]; exact sz hz, fun p hp => q p _ (k2.free hp) ((Mk.of k2 hp (h2.append h4)).base (s1.trans s2))⟩
theorem c_nm {i : Nat} {x : V} {QQ : St → Hp → Prop} (τ : St) (e : σ.set i (some x) = τ) (h : QQ τ H) : gName i x σ H QQ := by
  subst e
  exact h
/-- a loop over a list, the rest behind it -/
theorem c_forL {g : TG} {D : Ends} (h : tl σ H fun x H1 => ∃ a, x = .ref a ∧ (∃ xs, SqL K H1 a xs) ∧ ∃ W : Nat → Nat → St → Hp → Prop, (∃ m, W 0 m σ H1) ∧ ∀ i m σ H, W i m σ H →
    ((Itl K a).stop i H ∧ ({ D with nx := u D } : Ends).nx σ H) ∨ ((Itl K a).go i H ∧ ∃ N : St → Hp → Prop, (∀ σ' H', N σ' H' → ∃ m', m' < m ∧ W (i + 1) m' σ' H') ∧ ∀ x H', (Itl K a).yld i H x H' → g x σ H' fun σ2 H2 => t { ({ D with nx := u D } : Ends) with nx := N, ct := N, bk := ({ D with nx := u D } : Ends).nx } σ2 H2)) :
    tSeq (tFor (iList K tl) g t) u D σ H := h
theorem ev_neg {i : Int} (h : Ev K Z te σ M (.int i)) : Ev K Z (tUn (rU fun i => .int (-i)) te) σ M (.int (-i)) := fun n H s k Q q =>
  h n H s k _ fun v H1 s1 k1 d1 => ⟨i, d1.intE, q _ H1 s1 k1 (.int _)⟩
end
theorem pick4 {a b c d z : Int} (h0 : 0 ≤ z) (h1 : z < 4) {p : Int → Prop} (pa : p a) (pb : p b) (pc : p c) (pd : p d) : ∃ y, atI ([.int a, .int b, .int c, .int d] : List PyData) z = some (.int y) ∧ p y := by
  have hz : z = 0 ∨ z = 1 ∨ z = 2 ∨ z = 3 := by omega
  rcases hz with rfl | rfl | rfl | rfl
  · exact ⟨a, atI_nat (j := 0) rfl, pa⟩
  · exact ⟨b, atI_nat (j := 1) rfl, pb⟩
  · exact ⟨c, atI_nat (j := 2) rfl, pc⟩
  · exact ⟨d, atI_nat (j := 3) rfl, pd⟩
theorem cut_mem {ds : List PyData} {lo hi : Option Int} {x : PyData} (h : x ∈ cutD ds lo hi) : x ∈ ds := List.mem_of_mem_drop (List.mem_of_mem_take h)
theorem cut_len {ds : List PyData} {lo hi : Option Int} : (cutD ds lo hi).length ≤ ds.length := by
  unfold cutD
  rw [List.length_take, List.length_drop]
  omega
theorem cut4 {a b c d : PyData} {z : Int} (h0 : 0 ≤ z) (h1 : z < 4) : (cutD [a, b, c, d] none (some z)).length + (cutD [a, b, c, d] (some (z + 1)) none).length ≤ 4 := by
  have hz : z = 0 ∨ z = 1 ∨ z = 2 ∨ z = 3 := by omega
  rcases hz with rfl | rfl | rfl | rfl
  · exact (by decide : (0 + 3 : Nat) ≤ 4)
  · exact (by decide : (1 + 2 : Nat) ≤ 4)
  · exact (by decide : (2 + 1 : Nat) ≤ 4)
  · exact (by decide : (3 + 0 : Nat) ≤ 4)
abbrev s_l_bent : Stmt := topS 42
abbrev N_l_bent : List Str := ["_law_generator_here", "_law_contents_here", "_law_mending", "_law_found", "_law_item", "_law_words", "_law_taking", "_law_at", "_law_count"]
abbrev ps_l_bent : List Str := ["_law_generator_here", "_law_contents_here", "_law_mending"]
theorem sc_l_bent : FnScope N_l_bent ps_l_bent (defScope s_l_bent) := ⟨rfl, rfl, rfl, by decide +kernel, rfl, by decide +kernel, by decide +kernel⟩
section
variable {P : Program} {w : World} {K : PySem.W.Frag} {mg : Str → Option Value} {base : Heap}
structure WOk (ws : List Str) : Prop where
  len : ws.length ≤ 3
  all : ∀ y ∈ ws, PyData.strOk y = true ∧ y.cps.size ≤ 100
def SI (i : Int) : Prop := i.natAbs < 10 ^ 31
theorem SI.g {k : Nat} {i : Int} (h : SI i) : G k (.int i) := G.int (Nat.lt_of_lt_of_le h (by decide))
theorem WOk.g {ws : List Str} (h : WOk ws) : ∀ x ∈ ws.map PyData.str, G 0 x := fun x m => by
  obtain ⟨y, hy, rfl⟩ := List.mem_map.mp m
  exact G.str (h.all y hy).1 (h.all y hy).2
def P_bent : List PyData → Prop := fun ds => ∃ (e : PyData) (ws : List Str) (a b c d : Int), WOk ws ∧ SI a ∧ SI b ∧ SI c ∧ SI d ∧ ds = [e, mD ws a b c d]
def R_bent : List PyData → PyData → Prop := fun _ r => ∃ vs : List PyData, r = .list vs ∧ (∀ v ∈ vs, Gw v) ∧ vs.length ≤ 1000
theorem ok_l_bent {f f1 : Addr} {fd fd1 : FuncData} (F : Fun K "_law_bent" "_law_bent" s_l_bent f fd) (T : Txt mg) (C_l_random : Cal P w K mg base 2 "_law_random" ps_l_random f1 fd1 (spG K 5 P_rnd R_rnd)) :
    FnOk P w K mg base CX0 3 f fd ps_l_bent (spG K 10 P_bent R_bent) := by
  refine fn_gen F sc_l_bent (fun ds h => ?_) (fun cdv A outer s H E hr => ⟨_, (pss_cons (ps_asg (pv 2) (pg_tup (by rfl) (pgs_cons (pg_name (i := 5) sc_l_bent.nd rfl (Or.inl rfl)) (pgs_cons (pg_name (i := 6) sc_l_bent.nd rfl (Or.inl rfl)) pgs_nil))))
      (pss_cons (ps_par (i := 7) (j := 8) (by rfl) sc_l_bent.nd rfl rfl (by decide) rfl rfl (pa_cons (pe_call C_l_random.ok (hr.mono (by decide)) (by rfl) C_l_random.g C_l_random.kp C_l_random.b .nil pass0 (pa_cons (pv 0) (pa_cons pe_int pa_nil))) (pa_cons (pe_call C_l_random.ok (hr.mono (by decide)) (by rfl) C_l_random.g C_l_random.kp C_l_random.b .nil pass0 (pa_cons (pv 0) (pa_cons pe_int pa_nil))) pa_nil)) (by rfl))
      (pss_cons (ps_set (i := 3) sc_l_bent.nd rfl (.inl rfl) (pe_lst (pa_cons pe_non (pa_cons (pe_tup pa_nil) (pa_cons (pe_lst pa_nil) (pa_cons pe_dnewK (pa_cons pe_int (pa_cons pe_str (pa_cons (pv 5) (pa_cons (pv 6) (pa_cons (pe_lst (pa_cons (pv 5) (pa_cons (pv 6) pa_nil))) (pa_cons (pe_tup (pa_cons (pv 6) (pa_cons (pv 5) pa_nil))) (pa_cons (pe_tup (pa_cons (pv 5) pa_nil)) (pa_cons (pe_tup (pa_cons (pv 5) (pa_cons (pv 6) (pa_cons pe_int pa_nil)))) (pa_cons (pe_tup (pa_cons (pe_callTy call_tuple_of (by rfl) T.m_tuple bt_tuple (pa_cons (pv 5) pa_nil)) (pa_cons (pv 6) pa_nil))) (pa_cons (pe_tup (pa_cons (pv 5) (pa_cons (pe_callTy call_list_of (by rfl) T.m_list bt_list (pa_cons (pv 6) pa_nil)) pa_nil))) pa_nil))))))))))))))))
      (pss_cons (ps_for PassesOwn.never rfl (pi_list (pe_lst (pa_cons pe_str (pa_cons pe_str (pa_cons pe_str (pa_cons pe_non (pa_cons pe_int (pa_cons (pe_lst (pa_cons pe_str pa_nil)) (pa_cons pe_str pa_nil))))))))) (pg_name (i := 4) sc_l_bent.nd rfl (Or.inl rfl)) (pss_one (ps_set (i := 3) sc_l_bent.nd rfl (.inl rfl) (pe_op (op_catXK K) (pv 3) (pe_lst (pa_cons (pe_tup (pa_cons (pe_op (op_catXK K) (pv 5) (pe_lst (pa_cons (pv 4) pa_nil))) (pa_cons (pv 6) pa_nil))) (pa_cons (pe_tup (pa_cons (pe_op (op_catXK K) (pe_lst (pa_cons (pv 4) pa_nil)) (pv 5)) (pa_cons (pv 6) pa_nil))) pa_nil)))))))
      (pss_cons (ps_for PassesOwn.never rfl (pi_list (pe_lst (pa_cons pe_non (pa_cons (pe_un un_neg pe_int) (pa_cons pe_bl (pa_cons pe_bl (pa_cons pe_str (pa_cons (pe_lst (pa_cons pe_int pa_nil)) (pa_cons (pe_op op_powW pe_int pe_int) (pa_cons (pe_op op_add (pe_ix (ix_seqK K) (pv 6) (pv 7) (fun _ _ => rfl)) pe_int) (pa_cons (pv 8) pa_nil))))))))))) (pg_name (i := 4) sc_l_bent.nd rfl (Or.inl rfl)) (pss_one (ps_expr (pe_bm PySem.F.plainAttrs_list PySem.F.slot_list_append PySem.F.type_list_append mt_append (pv 3) (pa_cons (pe_tup (pa_cons (pv 5) (pa_cons (pe_op (op_catAK K) (pe_op (op_catAK K) (pe_slice sl_tupA (pv 6) po_none (po_some (pv 7))) (pe_tup (pa_cons (pv 4) pa_nil))) (pe_slice sl_tupA (pv 6) (po_some (pe_op op_add (pv 7) pe_int)) po_none)) pa_nil))) pa_nil)))))
      (pss_one (ps_ret (pe_op (op_catXK K) (pv 3) (pe_lst (pa_cons (pe_tup (pa_cons (pe_revL (pv 5)) (pa_cons (pv 6) pa_nil))) (pa_cons (pe_tup (pa_cons (pe_slice sl_list (pv 5) (po_some pe_int) po_none) (pa_cons (pv 6) pa_nil))) (pa_cons (pe_tup (pa_cons (pe_op (op_catXK K) (pv 5) (pv 5)) (pa_cons (pv 6) pa_nil))) (pa_cons (pe_tup (pa_cons (pv 5) (pa_cons (pe_slice sl_tupA (pv 6) po_none (po_some pe_int)) pa_nil))) (pa_cons (pe_tup (pa_cons (pv 5) (pa_cons (pe_op (op_catAK K) (pv 6) (pe_tup (pa_cons pe_int pa_nil))) pa_nil))) (pa_cons (pe_tup (pa_cons (pv 5) (pa_cons (pe_revT (pv 6)) pa_nil))) pa_nil))))))))))))))), ?_⟩)
  · obtain ⟨_, _, _, _, _, _, _, _, _, _, _, rfl⟩ := h
    rfl
  · rintro ds ⟨e0, ws, a, b, c, d, hw, ha, hb, hc, hd, rfl⟩ Z n g vs H hg hk hn hds D q
    obtain ⟨v1, v2, rfl, h1, h2⟩ := hds.c2
    obtain ⟨p0, xs, rfl, hq0, hs⟩ := h2.tupE
    obtain ⟨vw, vt, rfl, dw, dt⟩ := hs.c2
    refine ⟨_, rfl, p0, _, rfl, same_t vis_same hq0, rfl, _, _, rfl, _, _, rfl, rfl, ?_⟩
    refine c_is [some (.ref g), some v1, some (.ref p0), none, none, some vw, some vt, none, none] rfl ?_
    refine c_par (c_cons (cg_call (n := n) hg rfl hk (by omega) (ea_cons ev_int ea_nil) ⟨4, by decide, by decide, rfl⟩ fun r v H1 hR s1 k1 d1 => ?_))
    obtain ⟨z, z0, z1, rfl⟩ := rnd_E (z0 := 0) hR
    cases d1
    refine c_cons (cg_call (n := n + 5) hg rfl k1 (by omega) (ea_cons ev_int ea_nil) ⟨5, by decide, by decide, rfl⟩ fun r v H2 hR s2 k2 d2 => ?_)
    obtain ⟨cnt, c0, c1, rfl⟩ := rnd_E (z0 := 0) hR
    cases d2
    refine ⟨_, _, rfl, ?_⟩
    refine c_is [some (.ref g), some v1, some (.ref p0), none, none, some vw, some vt, some (.int z), some (.int cnt)] rfl ?_
    have s12 := s1.trans s2
    have gW : ∀ {k : Nat}, G (k + 1) (.list (ws.map .str)) := fun {k} => by
      induction k with
      | zero => exact G.list hw.g (by rw [List.length_map]; have := hw.len; omega)
      | succ k ih => exact ih.up
    have gi : ∀ {k : Nat}, ∀ x ∈ ([.int a, .int b, .int c, .int d] : List PyData), G k x := fun {k} => allC ha.g (allC hb.g (allC hc.g (allC hd.g all0)))
    have gT : ∀ {k : Nat}, G (k + 1) (.tuple [.int a, .int b, .int c, .int d]) := G.tup gi (by simp)
    have lw := hw.len
    have lw' : (ws.map PyData.str).length ≤ 3 := by rw [List.length_map]; exact lw
    -- the first values
    refine c_asg (c_lstF (M := Z.vis H2) (ea_cons ev_non (ea_cons (ev_tup ea_nil (by simp)) (ea_cons (ev_lst ea_nil (by simp)) (ea_cons ev_dict (ea_cons ev_int (ea_cons ev_str (ea_cons (ev_var rfl (dw.mono s12)) (ea_cons (ev_var rfl (dt.mono s12)) (ea_cons (ev_lst (ea_cons (ev_var rfl (dw.mono s12)) (ea_cons (ev_var rfl (dt.mono s12)) ea_nil)) (by simp))
      (ea_cons (ev_tup (ea_cons (ev_var rfl (dt.mono s12)) (ea_cons (ev_var rfl (dw.mono s12)) ea_nil)) (by simp)) (ea_cons (ev_tup (ea_cons (ev_var rfl (dw.mono s12)) ea_nil) (by simp)) (ea_cons (ev_tup (ea_cons (ev_var rfl (dw.mono s12)) (ea_cons (ev_var rfl (dt.mono s12)) (ea_cons ev_int ea_nil))) (by simp))
        (ea_cons (ev_tup (ea_cons (ev_cb rc_tupOf (ea_cons (ev_var rfl (dw.mono s12)) ea_nil)) (ea_cons (ev_var rfl (dt.mono s12)) ea_nil)) (by simp)) (ea_cons (ev_tup (ea_cons (ev_var rfl (dw.mono s12)) (ea_cons (ev_cb rc_lstOf (ea_cons (ev_var rfl (dt.mono s12)) ea_nil)) ea_nil)) (by simp)) ea_nil))))))))))))))
      (by simp) (Same.refl _) k2 fun p H3 hp m3 => ?_)
    refine c_is [some (.ref g), some v1, some (.ref p0), some (.ref p), none, some vw, some vt, some (.int z), some (.int cnt)] rfl ?_
    have g0 : ∀ x ∈ _, Gw x := allC (.inl G.none) (allC (.inl (G.tup all0 (by simp))) (allC (.inl (G.list all0 (by simp))) (allC (.inr rfl) (allC (.inl (G.int (i := 5) (by decide))) (allC (.inl (G.str (x := "turn") (by decide +kernel) (by decide +kernel))) (allC (.inl gW) (allC (.inl gT) (allC (.inl (G.list (allC gW (allC gT all0)) (by simp)))
      (allC (.inl (G.tup (allC gT (allC gW all0)) (by simp))) (allC (.inl (G.tup (allC gW all0) (by simp))) (allC (.inl (G.tup (allC gW (allC gT (allC (G.int (i := 0) (by decide)) all0))) (by simp))) (allC (.inl (G.tup (allC (G.tup (k := 1) (fun x m => (hw.g x m).up) (by omega)) (allC gT all0)) (by simp)))
        (allC (.inl (G.tup (allC gW (allC (G.list (k := 1) gi (by simp)) all0)) (by simp))) all0)))))))))))))
    obtain ⟨acc, ka, sa, aa⟩ := m3.at_
    -- bent words
    refine c_forL (K := K) ((ev_lst (K := K) (Z := Z.pin p acc) (M := (Z.pin p acc).vis H3) (ea_cons ev_str (ea_cons ev_str (ea_cons ev_str (ea_cons ev_non (ea_cons ev_int (ea_cons (ev_lst (ea_cons ev_str ea_nil) (by simp)) (ea_cons ev_str ea_nil))))))) (by simp)) _ H3 (Same.refl _) ka _ fun vl H4 s4 k4 dl => ?_)
    obtain ⟨la, lxs, rfl, hql, hsl⟩ := dl.lstE
    have gl : ∀ x ∈ _, G 1 x := allC (G.str (x := "turn") (by decide +kernel) (by decide +kernel)) (allC (G.str (x := "Turn") (by decide +kernel) (by decide +kernel)) (allC (G.str (x := "") (by decide +kernel) (by decide +kernel)) (allC G.none (allC (G.int (i := 0) (by decide)) (allC (G.list (allC (G.str (x := "turn") (by decide +kernel) (by decide +kernel)) all0) (by simp)) (allC (G.str (x := "send") (by decide +kernel) (by decide +kernel)) all0))))))
    have sN1 : Same (Z.vis H) ((Z.pin p acc).vis H4) := (s12.trans sa).trans s4
    generalize hN1 : (Z.pin p acc).vis H4 = N1 at sN1 hql hsl
    have m4 : Mk K Z (n + 5 + 5) N1 p _ H4 := ⟨acc, k4, by rw [hN1]; exact Same.refl _, aa.mono s4⟩
    refine ⟨la, rfl, ⟨lxs, by rw [← hN1] at hql; exact vis_same.seq hql⟩, ?_⟩
    refine for_list (xs := lxs) (fun i σ' H' => ∃ (p : Addr) (es : List PyData) (y : Option V), σ' = [some (.ref g), some v1, some (.ref p0), some (.ref p), y, some vw, some vt, some (.int z), some (.int cnt)] ∧ Z.hid p = false ∧ Mk K Z (n + 5 + 5) N1 p es H' ∧ (∀ x ∈ es, Gw x) ∧ es.length ≤ 14 + 2 * i)
      ⟨p, _, none, rfl, hp, m4, g0, by simp⟩ (fun i σ' H' _ ⟨p, es, y, _, _, m, _⟩ => (m.same.trans vis_same).seq hql) ?_ ?_
    · rintro i x σ' H' hx ⟨p, es, y, rfl, hp, m, ge, le⟩
      obtain ⟨d', hd', dx⟩ := hsl.getV hx
      have hi : i < 7 := (List.getElem?_eq_some_iff.mp hd').1
      have gd := gl d' (List.mem_of_getElem? hd')
      refine c_nm [some (.ref g), some v1, some (.ref p0), some (.ref p), some x, some vw, some vt, some (.int z), some (.int cnt)] rfl ?_
      have dw' := dw.mono (sN1.trans m.same)
      have dt' := dt.mono (sN1.trans m.same)
      have dx' := dx.mono m.same
      refine c_asg1 (c_catF (M := Z.vis H') (ev_var rfl (m.fin hp)) (ev_lst (ea_cons (ev_tup (ea_cons (ev_op (rv_catL (by simp; omega)) (ev_var rfl dw') (ev_lst (ea_cons (ev_var rfl dx') ea_nil) (by simp))) (ea_cons (ev_var rfl dt') ea_nil)) (by simp))
        (ea_cons (ev_tup (ea_cons (ev_op (rv_catL (by simp; omega)) (ev_lst (ea_cons (ev_var rfl dx') ea_nil) (by simp)) (ev_var rfl dw')) (ea_cons (ev_var rfl dt') ea_nil)) (by simp)) ea_nil)) (by simp)) (by simp; omega) (Same.refl _) m.ok fun p' H'' hp' m' => ?_)
      refine ⟨p', _, some x, rfl, hp', m'.base m.same, allA ge (allC (.inl (G.tup (allC (G.list (k := 1) (allA (fun x m => (hw.g x m).up) (allC gd all0)) (by simp; omega)) (allC gT all0)) (by simp))) (allC (.inl (G.tup (allC (G.list (k := 1) (allA (allC gd all0) (fun x m => (hw.g x m).up)) (by simp; omega)) (allC gT all0)) (by simp))) all0)), by simp; omega⟩
    · rintro σ' H5 ⟨p, es, y, rfl, hp, m, ge, le⟩
      have le' : es.length ≤ 28 := by
        have := hsl.length
        simp at this
        omega
      obtain ⟨acc2, kb, sb, ab⟩ := m.at_
      obtain ⟨ya, hya, gya⟩ := pick4 (p := SI) z0 z1 ha hb hc hd
      have dt5 := dt.mono (sN1.trans sb)
      -- bent taking
      refine c_forL (K := K) ((ev_lst (K := K) (Z := Z.pin p acc2) (M := (Z.pin p acc2).vis H5) (ea_cons ev_non (ea_cons (ev_neg ev_int) (ea_cons ev_bl (ea_cons ev_bl (ea_cons ev_str (ea_cons (ev_lst (ea_cons ev_int ea_nil) (by simp)) (ea_cons (ev_op (rv_I (g := fun i j => i ^ j.toNat) ⟨by decide, by decide +kernel⟩) ev_int ev_int)
        (ea_cons (ev_op rv_I0 (ev_op (rv_ixT hya) (ev_var rfl dt5) (ev_var rfl (.int z))) ev_int) (ea_cons (ev_var rfl (.int cnt)) ea_nil))))))))) (by simp)) _ H5 (Same.refl _) kb _ fun vl H6 s6 k6 dl => ?_)
      obtain ⟨ka2, kxs, rfl, hqk, hsk⟩ := dl.lstE
      have gk : ∀ x ∈ _, G 1 x := allC G.none (allC (G.int (i := -1) (by decide)) (allC (G.bool (b := true)) (allC (G.bool (b := false)) (allC (G.str (x := "0") (by decide +kernel) (by decide +kernel)) (allC (G.list (allC (G.int (i := 0) (by decide)) all0) (by simp)) (allC (G.int (i := 10 ^ 29) (by decide +kernel)) (allC (G.int (i := ya + 1) (by unfold SI at gya; omega)) (allC (G.int (i := cnt) (by omega)) all0))))))))
      have sN2 : Same (Z.vis H) ((Z.pin p acc2).vis H6) := (sN1.trans sb).trans s6
      generalize hN2 : (Z.pin p acc2).vis H6 = N2 at sN2 hqk hsk
      have m6 : Mk K Z (n + 5 + 5) N2 p es H6 := ⟨acc2, k6, by rw [hN2]; exact Same.refl _, ab.mono s6⟩
      refine ⟨ka2, rfl, ⟨kxs, by rw [← hN2] at hqk; exact vis_same.seq hqk⟩, ?_⟩
      refine for_list (xs := kxs) (fun i σ' H' => ∃ (es : List PyData) (y : Option V), σ' = [some (.ref g), some v1, some (.ref p0), some (.ref p), y, some vw, some vt, some (.int z), some (.int cnt)] ∧ Mk K Z (n + 5 + 5) N2 p es H' ∧ (∀ x ∈ es, Gw x) ∧ es.length ≤ 28 + i)
        ⟨es, y, rfl, m6, ge, le'⟩ (fun i σ' H' _ ⟨es, y, _, m, _⟩ => (m.same.trans vis_same).seq hqk) ?_ ?_
      · rintro i x σ' H' hx ⟨es, y, rfl, m, ge, le⟩
        obtain ⟨d', hd', dx⟩ := hsk.getV hx
        have hi : i < 9 := (List.getElem?_eq_some_iff.mp hd').1
        have gd := gk d' (List.mem_of_getElem? hd')
        obtain ⟨acc3, k3, s3, a3⟩ := m.at_
        refine c_nm [some (.ref g), some v1, some (.ref p0), some (.ref p), some x, some vw, some vt, some (.int z), some (.int cnt)] rfl ?_
        have hc4 := cut4 (a := .int a) (b := .int b) (c := .int c) (d := .int d) z0 z1
        refine ⟨_, rfl, .inl ⟨rfl, acc3, .of k3.pin_at⟩, c_cons (c_ev (K := K) (Z := Z.pin p acc3) (ev_tup (ea_cons (ev_var rfl (dw.mono sN2)) (ea_cons (ev_op (rv_catT ?_) (ev_op (rv_catT ?_) (ev_slT (ev_var rfl (dt.mono sN2)) eo_none (eo_some (K := K) (ev_var rfl (.int z)))) (ev_tup (ea_cons (ev_var rfl dx) ea_nil) (by simp)))
          (ev_slT (ev_var rfl (dt.mono sN2)) (eo_some (K := K) (ev_op rv_I0 (ev_var rfl (.int z)) ev_int)) eo_none)) ea_nil)) (by simp)) s3 k3 fun v H7 s7 k7 d7 => ?_)⟩
        · rw [List.length_append]
          simp only [List.length_cons, List.length_nil]
          omega
        · simp only [List.length_cons, List.length_nil]
          omega
        refine ⟨p, acc3, v, rfl, rfl, k7.pin_at, ?_, _, some x, rfl, Mk.add hp k7 (s3.trans s7) (a3.mono s7) d7, allA ge (allC (.inl (G.tup (allC gW (allC (G.tup (k := 1) (allA (allA (fun x m => gi x (cut_mem m)) (allC gd all0)) (fun x m => gi x (cut_mem m))) ?_) all0)) (by simp))) all0), by simp; omega⟩
        · have := a3.length
          have h3 : sizeLine = 16777216 := sizeLine_eq
          omega
        · rw [List.length_append, List.length_append]
          simp only [List.length_cons, List.length_nil]
          omega
      · rintro σ' H7 ⟨es, y, rfl, m, ge, le⟩
        have le' : es.length ≤ 40 := by
          have := hsk.length
          simp at this
          omega
        have dw7 := dw.mono (sN2.trans m.same)
        have dt7 := dt.mono (sN2.trans m.same)
        have lc : ∀ {lo hi : Option Int}, (cutD (ws.map PyData.str) lo hi).length ≤ 3 := Nat.le_trans cut_len lw'
        have lt : ∀ {lo hi : Option Int}, (cutD ([.int a, .int b, .int c, .int d] : List PyData) lo hi).length ≤ 4 := cut_len
        refine c_ret (c_ev (K := K) (ev_op (rv_catL ?_) (ev_var rfl (m.fin hp)) (ev_lst (ea_cons (ev_tup (ea_cons (ev_revL (ev_var rfl dw7)) (ea_cons (ev_var rfl dt7) ea_nil)) (by simp)) (ea_cons (ev_tup (ea_cons (ev_slL (ev_var rfl dw7) (eo_some (K := K) ev_int) eo_none) (ea_cons (ev_var rfl dt7) ea_nil)) (by simp))
          (ea_cons (ev_tup (ea_cons (ev_op (rv_catL (by omega)) (ev_var rfl dw7) (ev_var rfl dw7)) (ea_cons (ev_var rfl dt7) ea_nil)) (by simp)) (ea_cons (ev_tup (ea_cons (ev_var rfl dw7) (ea_cons (ev_slT (ev_var rfl dt7) eo_none (eo_some (K := K) ev_int)) ea_nil)) (by simp))
            (ea_cons (ev_tup (ea_cons (ev_var rfl dw7) (ea_cons (ev_op (rv_catT (by simp)) (ev_var rfl dt7) (ev_tup (ea_cons ev_int ea_nil) (by simp))) ea_nil)) (by simp)) (ea_cons (ev_tup (ea_cons (ev_var rfl dw7) (ea_cons (ev_revT (ev_var rfl dt7)) ea_nil)) (by simp)) ea_nil)))))) (by simp))) (Same.refl _) m.ok fun v H8 s8 k8 d8 => ?_)
        · simp only [List.length_cons, List.length_nil]
          omega
        refine q _ v H8 ⟨_, rfl, allA ge (allC (.inl (G.tup (allC (G.list (k := 1) (fun x m => (hw.g x (List.mem_reverse.mp m)).up) (by rw [List.length_reverse]; omega)) (allC gT all0)) (by simp))) (allC (.inl (G.tup (allC (G.list (k := 1) (fun x m => (hw.g x (cut_mem m)).up) (Nat.le_trans lc (by decide))) (allC gT all0)) (by simp)))
          (allC (.inl (G.tup (allC (G.list (k := 1) (allA (fun x m => (hw.g x m).up) (fun x m => (hw.g x m).up)) (by rw [List.length_append]; omega)) (allC gT all0)) (by simp))) (allC (.inl (G.tup (allC gW (allC (G.tup (k := 1) (fun x m => gi x (cut_mem m)) (Nat.le_trans lt (by decide))) all0)) (by simp)))
            (allC (.inl (G.tup (allC gW (allC (G.tup (k := 1) (allA gi (allC (G.int (i := 0) (by decide)) all0)) (by simp)) all0)) (by simp))) (allC (.inl (G.tup (allC gW (allC (G.tup (k := 1) (fun x m => gi x (List.mem_reverse.mp m)) (by simp)) all0)) (by simp))) all0)))))), ?_⟩ ((sN2.trans m.same).trans s8) (k8.mono (by omega)) d8
        rw [List.length_append]
        simp only [List.length_cons, List.length_nil]
        omega
end
end Hw

set_option maxHeartbeats 2000000
/-! HwO: promises of defs that call repr (no repr is under way around them); the generator as a new list; draws of counts. -/
namespace Hw
open PySem PySem.Spec L2

/-! ### no repr under way -/
/-- a promise kept where no repr is under way -/
structure FnG (P : Program) (w : World) (K : PySem.W.Frag) (mg : Str → Option Value) (base : Heap) (k : Nat) (f : Addr) (fd : FuncData) (ps : List Str) (sp : Sp) : Prop where
  len : ∀ vs H Q E, sp vs H Q E → vs.length = ps.length
  run : ∀ (A : Around) (outer : List Env) (s : Shared) (H : Hp) (args : Args) (us : List Value) (vs : List V) (Q : VK) (E : XK), Room k A → A.guards = some [] → Env0 P w K mg base A outer s H → BindsTo s fd args (ps.zip us) → Vals vs us → sp vs H Q E →
    codeAny (model P w) A (.call (.ref f) args) (CR CX0 outer P w H s Q E) s
section
variable {P : Program} {w : World} {K : PySem.W.Frag} {mg : Str → Option Value} {base : Heap}
open PyProof.Rows in
theorem fnG_ok {x qual : Str} {st : Stmt} {f : Addr} {fd : FuncData} {N ps : List Str} {k : Nat} {sp : Sp} (F : Fun K x qual st f fd) (S : FnScope N ps (defScope st)) (len : ∀ vs H Q E, sp vs H Q E → vs.length = ps.length)
    (body : ∀ (cdv : Value) (A : Around) (outer : List Env) (s : Shared) (H : Hp) (E : XK), Room k (A.deeper (envOfC qual (defScope st) s.heap.objs.size f cdv)) → (A.deeper (envOfC qual (defScope st) s.heap.objs.size f cdv)).guards = some [] →
      ∃ t, PSs (cx P w K mg base N qual st f cdv A outer s H E) (defBody st) t ∧ ∀ (vs : List V) (Q : VK), sp vs H Q E → t { nx := fun _ H' => Q .non H', rt := Q } (start N vs) H) : FnG P w K mg base (k + 1) f fd ps sp := by
  obtain ⟨oc, od, kV, doc, pm, an, cdv, ct, osl, rfl, lk, hcd⟩ := F.ex
  constructor
  · exact len
  intro A outer s H args us vs Q E room quiet env hb rel hsp
  have below : ∀ b o, base.get? b = some o → s.heap.get? b = some o := fun b o q => (env.bs b o q).1
  have inK : K.In s.heap := env.mod.kin.keeps below
  have many : vs.length = ps.length := len _ _ _ _ hsp
  refine codeAny_call_function room.depth (inK _ _ lk) rfl S.co S.gen rfl (PySem.W.codeRec_of inK hcd) (hb _ _ _ _ ?_)
  refine wpAny_newFunctionEnv_cells S.kind (fun y hy => ?_) fun e he s1 st1 => ?_
  · cases S.par y.1 (List.of_mem_zip (show (y.1, y.2) ∈ _ from hy)).1 with
    | inl q => exact .inl q
    | inr q => exact .inr ⟨q, PySem.W.cellsFrom_some _ _ _ (.inl q)⟩
  subst he
  refine ⟨(env.mod.nolimit.keeps below).keeps st1.toInCall.keep, codeAny_func ?_⟩
  obtain ⟨t, ht, hq⟩ := body cdv A outer s H E (room.deeper _) quiet
  have J0 : Inv (cxOf CX0 P w K mg base N qual (defScope st) f cdv A outer s H E) [] (start N vs) H s1 := inv_start S room.hd env many rel st1
  refine wpAny_mono (ht.nox.run [] s1 (start N vs) H _ J0 (hq vs Q hsp)) (fun fl s' hs => ?_) fun _ _ hs => hs
  cases fl with
  | next =>
    obtain ⟨σ', H', J, q⟩ := hs
    exact ⟨V.non, H', J.os, J.bare, J.base, J.hok, rfl, q⟩
  | ret u =>
    obtain ⟨v, σ', H', J, rv, q⟩ := hs
    exact ⟨v, H', J.os, J.bare, J.base, J.hok, rv, q⟩
  | brk =>
    obtain ⟨_, _, _, q⟩ := hs
    exact q.elim
  | cont =>
    obtain ⟨_, _, _, q⟩ := hs
    exact q.elim
theorem pe_callG {X : Cx} {k : Nat} {f : Addr} {fd : FuncData} {ps : List Str} {sp : Sp} {x : Str} {p pos : Pos} {e : Expr} {es : List Expr} {t : TA} (F : FnG X.prog X.w X.K X.mg X.base k f fd ps sp) (hr : Room k X.A) (hgd : X.A.guards = some []) (hg : Gl X x) (hm : X.mg x = some (.ref f)) (hk : PySem.W.keepIn X.K (.ref f) = true)
    (hb : Binds X.K fd ps []) (ha : PA X (e :: es) t) (hdb : (x == ("__debug__" : Str)) = false := by decide) (he : starEach (e :: es) X.env = (false, eval e X.env) :: starEach es X.env := by rfl) (hpl : (backTo pos (starEach es X.env)).any (·.1) = false := by rfl) :
    PE X (.Call (.Name x p) (e :: es) [] pos) (tCall sp [] E0 t) := by
  refine ⟨fun pins s σ H Q I h => wpAny_Call_Name_kw (ld_glob I hg hm ?_ hdb)⟩
  refine PySem.W.callWith_K (h₀ := X.base) I.ok.mod.kin hk (thn (ha.run pos pins s σ H _ I h) fun us s1 ⟨vs, H1, J, r, q⟩ => ⟨J.kIn, ?_⟩) he hpl
  have q' : sp vs H1 Q E0 := by rw [← List.append_nil vs]; exact q
  have many : us.length = ps.length := by rw [← r.length]; exact F.len _ _ _ _ q'
  have b := hb s1 us J.kIn (by rw [List.append_nil]; exact many)
  rw [List.append_nil] at b
  refine wpAny_call (codeAny_mono (F.run X.A X.stack s1 H1 ⟨us, []⟩ us vs Q E0 hr hgd J.env0 b r q') fun rs s' hq => ?_)
  cases rs with
  | error _ => exact (show False from hq).elim
  | ok fl =>
    cases fl with
    | ret u => exact J.after hq
    | next => exact (show False from hq).elim
    | brk => exact (show False from hq).elim
    | cont => exact (show False from hq).elim
theorem fnG_gen {x qual : Str} {st : Stmt} {f : Addr} {fd : FuncData} {N ps : List Str} {k c : Nat} {Pre : List PyData → Prop} {R : List PyData → PyData → Prop} (F : Fun K x qual st f fd) (S : FnScope N ps (defScope st)) (hl : ∀ ds, Pre ds → ds.length + 1 = ps.length)
    (body : ∀ (cdv : Value) (A : Around) (outer : List Env) (s : Shared) (H : Hp) (E : XK), Room k (A.deeper (PyProof.Rows.envOfC qual (defScope st) s.heap.objs.size f cdv)) → (A.deeper (PyProof.Rows.envOfC qual (defScope st) s.heap.objs.size f cdv)).guards = some [] →
      ∃ t, PSs (cx P w K mg base N qual st f cdv A outer s H E) (defBody st) t ∧ ∀ (ds : List PyData), Pre ds → ∀ (Z : Wld) (n : Nat) (g : Addr) (vs : List V) (H : Hp), Z.g = some g → Z.ok n H → n + c ≤ big → Dts K (Z.vis H) vs ds →
        ∀ D : Ends, (∀ r v H', R ds r → Same (Z.vis H) (Z.vis H') → Z.ok (n + c) H' → Dt K (Z.vis H') v r → D.rt v H') → t D (start N (.ref g :: vs)) H) :
    FnG P w K mg base (k + 1) f fd ps (spG K c Pre R) := by
  refine fnG_ok F S (fun vs H Q E h => ?_) (fun cdv A outer s H E hr hgd => ?_)
  · obtain ⟨Z, n, g, vs', ds, rfl, _, _, _, hd, hP, _⟩ := h
    rw [← hl ds hP, List.length_cons, hd.length]
  · obtain ⟨t, ht, hb⟩ := body cdv A outer s H E hr hgd
    refine ⟨t, ht, fun vs Q h => ?_⟩
    obtain ⟨Z, n, g, vs', ds, rfl, hg, hk, hn, hd, hP, q⟩ := h
    exact hb ds hP Z n g vs' H hg hk hn hd _ q
end
/-- a def of the text that may be called where no repr is under way -/
structure CalG (P : Program) (w : World) (K : PySem.W.Frag) (mg : Str → Option Value) (base : Heap) (k : Nat) (name : Str) (ps : List Str) (f : Addr) (fd : FuncData) (sp : Sp) : Prop where
  g : mg name = some (.ref f)
  kp : PySem.W.keepIn K (.ref f) = true
  b : Binds K fd ps []
  ok : FnG P w K mg base k f fd ps sp

/-! ### small steps -/
section
variable {K : PySem.W.Frag} {Z : Wld} {u t : TS} {D : Ends} {σ : St} {H M : Hp} {n : Nat} {c : TT}
theorem c_evA {tr : TA} {ds : List PyData} {QL : List V → Hp → Prop} (h : EvA K Z tr σ M ds) (s : Same M (Z.vis H)) (k : Z.ok n H) (q : ∀ vs H', Same (Z.vis H) (Z.vis H') → Z.ok n H' → Dts K (Z.vis H') vs ds → QL vs H') : tr σ H QL := h n H s k QL q
theorem c_skip (h : EvT Z c σ M false) (s : Same M (Z.vis H)) (k : Z.ok n H) (q : ∀ H', Same (Z.vis H) (Z.vis H') → Z.ok n H' → u D σ H') : tSeq (tIfS c t tNext) u D σ H :=
  h n H s k _ fun H1 s1 k1 => iteF (q H1 s1 k1)
theorem c_skip1 (h : EvT Z c σ M false) (s : Same M (Z.vis H)) (k : Z.ok n H) (q : ∀ H', Same (Z.vis H) (Z.vis H') → Z.ok n H' → D.nx σ H') : tIfS c t tNext D σ H :=
  h n H s k _ fun H1 s1 k1 => iteF (q H1 s1 k1)
theorem c_forR {ta : TA} {g : TG} (h : ta σ H fun vs H1 => ∃ j : Int, vs = [.int j] ∧ -(2 ^ 62) ≤ j ∧ j < 2 ^ 62 ∧ ∃ W : Nat → Nat → St → Hp → Prop, (∃ m, W 0 m σ H1) ∧ ∀ i m σ H, W i m σ H →
    ((Itr 0 j.toNat).stop i H ∧ ({ D with nx := u D } : Ends).nx σ H) ∨ ((Itr 0 j.toNat).go i H ∧ ∃ N : St → Hp → Prop, (∀ σ' H', N σ' H' → ∃ m', m' < m ∧ W (i + 1) m' σ' H') ∧ ∀ x H', (Itr 0 j.toNat).yld i H x H' → g x σ H' fun σ2 H2 => t { ({ D with nx := u D } : Ends) with nx := N, ct := N, bk := ({ D with nx := u D } : Ends).nx } σ2 H2)) :
    tSeq (tFor (iRng1 ta) g t) u D σ H := h
theorem c_par3 {i j l : Nat} {ta : TA} (h : ta σ H fun vs H1 => ∃ v w x, vs = [v, w, x] ∧ u D (((σ.set i (some v)).set j (some w)).set l (some x)) H1) : tSeq (tPar3 i j l ta) u D σ H := h
end

/-! ### counts drawn under bounds -/
def Below : List Int → List Int → Prop
  | [], [] => True
  | z :: zs, b :: bs => (0 ≤ z ∧ z ≤ b) ∧ Below zs bs
  | _, _ => False
theorem Below.len : ∀ {zs bs : List Int}, Below zs bs → zs.length = bs.length
  | [], [], _ => rfl
  | _ :: _, _ :: _, h => by rw [List.length_cons, List.length_cons, Below.len h.2]
  | [], _ :: _, h => False.elim h
  | _ :: _, [], h => False.elim h
theorem Below.add {z b : Int} (h0 : 0 ≤ z) (h1 : z ≤ b) : ∀ {zs bs : List Int}, Below zs bs → Below (zs ++ [z]) (bs ++ [b])
  | [], [], _ => ⟨⟨h0, h1⟩, trivial⟩
  | _ :: _, _ :: _, h => ⟨h.1, Below.add h0 h1 h.2⟩
  | [], _ :: _, h => False.elim h
  | _ :: _, [], h => False.elim h
section
variable {K : PySem.W.Frag} {Z : Wld} {σ : St} {H : Hp} {n j i0 l0 : Nat} {g : Addr} {Q : VK} {bs : List Int} {vb : V}
theorem c_draws (hg : Z.g = some g) (hk : Z.ok n H) (hn : n + 10 * bs.length ≤ big) (hl : bs.length ≤ 100) (hb : ∀ b ∈ bs, 0 ≤ b ∧ b ≤ 10 ^ 30) (hl0 : σ[l0]? = some (some vb)) (hd : Dt K (Z.vis H) vb (.list (bs.map .int)))
    (hi : ∀ x, ((wipe σ [j]).set j (some x))[i0]? = some (some (.ref g))) (hj : j < σ.length)
    (q : ∀ p zs H', Same (Z.vis H) (Z.vis H') → Z.ok (n + 10 * bs.length) H' → Below zs bs → Dt K (Z.vis H') (.ref p) (.list (zs.map .int)) → Q (.ref p) H') :
    tLc (iList K (tVar l0)) (gName j) tYes (tCall (spG K 10 P_few R_few) [] E0 (tCons (tVar i0) (tCons (tVar j) tNil))) [j] σ H Q := by
  obtain ⟨a, xs, rfl, hq, hs⟩ := hd.lstE
  refine ⟨_, hl0, a, rfl, ⟨xs, vis_same.seq hq⟩, fun D hD => ?_⟩
  have hZ := hk.free hD
  have hxs := hs.ints
  refine lc_list (xs := xs) (fun i H' => ∃ zs : List Int, Mk K Z (n + 10 * i) (Z.vis H) D (zs.map .int) H' ∧ Below zs (bs.take i)) ⟨[], Mk.start hk hD, trivial⟩ (fun i H' _ ⟨zs, p, _⟩ => (p.same.trans vis_same).seq hq) (fun i x H' hx ⟨zs, p, hB⟩ => ?_) (fun H' ⟨zs, p, hB⟩ => ?_)
  · refine ⟨wipe1 σ j x, ?_⟩
    obtain ⟨b, hbi, rfl⟩ : ∃ b, bs[i]? = some b ∧ x = .int b := by
      rw [hxs, List.getElem?_map] at hx
      cases e : bs[i]? with
      | none => rw [e] at hx; cases hx
      | some b => rw [e] at hx; exact ⟨b, rfl, (Option.some.inj hx).symm⟩
    have hlt := (List.getElem?_eq_some_iff.mp hbi).1
    have hbb := hb b (List.mem_of_getElem? hbi)
    obtain ⟨acc, k2, s2, a2⟩ := p.at_
    show tCall (spG K 10 P_few R_few) [] E0 (tCons (tVar i0) (tCons (tVar j) tNil)) ((wipe σ [j]).set j (some (.int b))) H' fun y H4 => ∃ acc, H4 D = some (.lst acc) ∧ acc.length < sizeLine ∧ ∃ zs : List Int, Mk K Z (n + 10 * (i + 1)) (Z.vis H) D (zs.map .int) (upd H4 D (.lst (acc ++ [y]))) ∧ Below zs (bs.take (i + 1))
    refine cg_call (Z := Z.pin D acc) (n := n + 10 * i) hg (hi _) k2 (by omega) (ea_cons (ev_var (wipe_at _ hj) (.int b)) ea_nil) ⟨b, hbb.1, hbb.2, rfl⟩ fun r v H4 hR s4 k4 d4 => ?_
    obtain ⟨z, z0, z1, rfl⟩ := few_E hR
    have hlen := a2.length
    refine ⟨acc, k4.pin_at, ?_, zs ++ [z], ?_, ?_⟩
    · have h2 := hB.len
      have h3 : sizeLine = 16777216 := sizeLine_eq
      rw [List.length_map, h2, List.length_take] at hlen
      omega
    · have m := Mk.add (n := n + 10 * i + 10) hZ k4 (s2.trans s4) (a2.mono s4) d4
      rw [show n + 10 * (i + 1) = n + 10 * i + 10 by omega, List.map_append]
      exact m
    · rw [List.take_add_one, hbi]
      exact hB.add z0 z1
  · have e : xs.length = bs.length := by rw [hxs, List.length_map]
    rw [e] at p hB
    rw [List.take_length] at hB
    exact q D zs H' p.same p.ok hB (p.fin hZ)
end

/-! ### the generator, a new list -/
section
variable {P : Program} {w : World} {K : PySem.W.Frag} {mg : Str → Option Value} {base : Heap}
/-- it gives a new list of three ints, the last of them a thousand times the index -/
def spNew (K : PySem.W.Frag) : Sp := fun vs H Q _ => ∃ (Z : Wld) (n : Nat) (ns : List Int) (i : Nat), Z.ok n H ∧ Dts K (Z.vis H) vs [.list (ns.map .int), .int (i : Int)] ∧
  ∀ (p : Addr) (H' : Hp) (a b : Int), Same (Z.vis H) (Z.vis H') → Z.ok n H' → H' p = none → Q (.ref p) (upd H' p (.lst [.int a, .int b, .int (1000 * (i : Int))]))
theorem ok_l_generatorN {f f1 : Addr} {fd fd1 : FuncData} (F : Fun K "_law_generator" "_law_generator" s_l_generator f fd) (T : Txt mg) (C_l_cell : Cal P w K mg base 1 "_law_cell" ps_l_cell f1 fd1 (spR K R_cell)) :
    FnOk P w K mg base CX0 2 f fd ps_l_generator (spNew K) := by
  refine F.ok sc_l_generator (fun vs H Q E h => ?_) (fun cdv A outer s H vs Q E hr h => ⟨_, (pss_cons (ps_set (i := 2) sc_l_generator.nd rfl (.inl rfl) (pe_call C_l_cell.ok (hr.mono (by decide)) (by rfl) C_l_cell.g C_l_cell.kp C_l_cell.b .nil pass0 (pa_cons (pv 0) (pa_cons (pv 1) pa_nil))))
      (pss_one (ps_ret (pe_lst (pa_cons (pe_op op_mod (pe_callTy call_int1 (by rfl) T.m_int bt_int (pa_cons (pe_callB (call_max2 rfl) (by rfl) T.m_max bt_max (pa_cons (pe_op op_sub (pv 2) (pe_op op_powW pe_int pe_int)) (pa_cons pe_int pa_nil))) pa_nil)) (pe_op op_powW (pe_op op_powW pe_int pe_int) pe_int)) (pa_cons (pe_op op_mod (pe_callTy call_int1 (by rfl) T.m_int bt_int (pa_cons (pv 2) pa_nil)) pe_int) (pa_cons (pe_op op_mul pe_int (pv 1)) pa_nil))))))), ?_⟩)
  · obtain ⟨Z, n, ns, i, _, hd, _⟩ := h
    exact hd.length
  · obtain ⟨Z, n, ns, i, hk, hds, q⟩ := h
    obtain ⟨v1, v2, rfl, h1, h2⟩ := hds.c2
    refine c_asg (c_ev (K := K) (ev_call (R := R_cell) ⟨ns, i, rfl, rfl⟩ (ea_cons (ev_var rfl h1) (ea_cons (ev_var rfl h2) ea_nil))) (Same.refl _) hk fun v H1 s1 k1 dv => ?_)
    refine c_ret (c_lst (c_evA (K := K) (M := Z.vis H1) (ea_cons (ev_op (rv_I pow_one) (ev_cb rc_int (ea_cons (ev_cb rc_max (ea_cons (ev_op rv_I0 (ev_var rfl dv) (ev_op (rv_I (g := fun i j => i ^ j.toNat) ⟨by decide, by decide +kernel⟩) ev_int ev_int)) (ea_cons ev_int ea_nil))) ea_nil))
        (ev_op (rv_I (g := fun i j => i ^ j.toNat) ⟨by decide, by decide +kernel⟩) (ev_op (rv_I (g := fun i j => i ^ j.toNat) ⟨by decide, by decide +kernel⟩) ev_int ev_int) ev_int))
      (ea_cons (ev_op (rv_I (show (0 : Int) < 2147483647 by decide)) (ev_cb rc_int (ea_cons (ev_var rfl dv) ea_nil)) ev_int)
        (ea_cons (ev_op (rv_I (cmL (by decide) (by decide))) ev_int (ev_var rfl (h2.mono s1))) ea_nil))) (Same.refl _) k1 fun vs H2 s2 k2 d2 => ?_))
    obtain ⟨x1, x2, x3, rfl, g1, g2, g3⟩ := d2.c3
    cases g1
    cases g2
    cases g3
    exact ⟨sz (by simp), fun p hp => q p H2 _ _ (s1.trans s2) k2 hp⟩
end
end Hw

set_option maxHeartbeats 4000000
/-! HwP: one turn of the law. -/
namespace Hw
open PySem PySem.Spec L2
theorem si_of {i : Int} (h0 : 0 ≤ i) (h1 : i ≤ 10 ^ 30) : SI i := by
  unfold SI
  omega
theorem lnk_G {l : Lnk} (h : l.ok) : G 1 l.D := by
  obtain ⟨a, b, c, d, e, f, g, i⟩ := h
  exact G.tup (allC (si_of (by omega) e).g (allC (si_of (by omega) f).g (allC (si_of (by omega) g).g (allC (si_of (by omega) i).g all0)))) (by simp)
/-- contents of small counts -/
structure Cts.sm (x : Cts) : Prop where
  bit : SI x.bit
  heard : SI x.heard
  other : SI x.other
  lot : ∀ b m, x.lot = some (b, m) → SI m
  nw : SI x.nw
  zs : SI x.zs
  os : SI x.os
  lo : SI x.lo
  hi : SI x.hi
theorem sort_G {k : Nat} (b : Bool) : G k (.str (sortT b)) := by
  cases b
  · exact G.str (x := "old") (by decide +kernel) (by decide +kernel)
  · exact G.str (x := "new") (by decide +kernel) (by decide +kernel)
theorem Cts.sm.G {x : Cts} (h : x.sm) : Hw.G 3 x.D := by
  have gl : Hw.G 1 (lotD x.lot) := by
    cases e : x.lot with
    | none => exact G.none
    | some p =>
      obtain ⟨b, m⟩ := p
      exact G.tup (allC (sort_G b) (allC (h.lot b m e).g all0)) (by simp)
  exact G.tup (allC (G.up (G.tup (allC h.bit.g (allC h.heard.g all0)) (by simp))) (allC (G.tup (allC h.other.g (allC gl (allC G.bool all0))) (by simp)) (allC (G.up (G.tup (allC h.nw.g (allC h.zs.g (allC h.os.g all0))) (by simp))) (allC (G.up (G.tup (allC h.lo.g (allC h.hi.g all0)) (by simp))) all0)))) (by simp)
theorem Cts.ok.sm {l : Lnk} {x : Cts} (hl : l.ok) (h : x.ok l) : x.sm := by
  obtain ⟨a, b, c, d, e, f, g, i⟩ := hl
  obtain ⟨b0, b1, h0, h1, o0, o1, lt, n0, z0, s0, t1, l0, u0, u1⟩ := h
  refine ⟨si_of b0 (by omega), si_of h0 (by omega), si_of o0 (by omega), fun t m e => ?_, si_of n0 (by omega), si_of z0 (by omega), si_of s0 (by omega), si_of l0 (by omega), si_of u0 (by omega)⟩
  rw [e] at lt
  exact si_of (by have := lt.2.1; omega) (by have := lt.2.2; omega)
theorem mend_sm {l : Lnk} {x : Cts} (hl : l.ok) (h : x.ok l) (ws : List Str) {a b c d : Int} (a0 : 0 ≤ a) (a1 : a ≤ x.zs) (b0 : 0 ≤ b) (b1 : b ≤ x.os) (c0 : 0 ≤ c) (c1 : c ≤ x.lo) (d0 : 0 ≤ d) (d1 : d ≤ x.hi) : (mend x ws a b c d).sm := by
  have s := Cts.ok.sm hl h
  obtain ⟨p, q, r, t, u, v, w, y⟩ := hl
  obtain ⟨b0', b1', h0, h1, o0, o1, lt, n0, z0, s0, t1, l0, u0, u1⟩ := h
  refine ⟨s.bit, ?_, ?_, fun t m e => ?_, s.nw, si_of (show 0 ≤ x.zs - a by omega) (by show x.zs - a ≤ _; omega), si_of (show 0 ≤ x.os - b by omega) (by show x.os - b ≤ _; omega), si_of (show 0 ≤ x.lo - c by omega) (by show x.lo - c ≤ _; omega), si_of (show 0 ≤ x.hi - d by omega) (by show x.hi - d ≤ _; omega)⟩
  · show SI (if hasW ws "forget" = true then 0 else x.heard)
    split
    · exact si_of (by decide) (by decide)
    · exact s.heard
  · show SI (if hasW ws "turn" = true then 1 - x.other else x.other)
    split
    · exact si_of (by omega) (by omega)
    · exact s.other
  · have e' : (if (hasW ws "clear" || hasW ws "turn") = true then none else x.lot) = some (t, m) := e
    split at e'
    · cases e'
    · exact s.lot t m e'
theorem wl_pick {z : Int} (h0 : 0 ≤ z) (h1 : z < 8) : ∃ ws : List Str, atI WLL z = some (enW ws) ∧ WOk ws ∧ wfit (enW ws) = true := by
  have hz : z = 0 ∨ z = 1 ∨ z = 2 ∨ z = 3 ∨ z = 4 ∨ z = 5 ∨ z = 6 ∨ z = 7 := by omega
  rcases hz with rfl | rfl | rfl | rfl | rfl | rfl | rfl | rfl
  · exact ⟨[], atI_nat (j := 0) rfl, ⟨by decide, by decide +kernel⟩, by decide +kernel⟩
  · exact ⟨["clear"], atI_nat (j := 1) rfl, ⟨by decide, by decide +kernel⟩, by decide +kernel⟩
  · exact ⟨["clear", "forget"], atI_nat (j := 2) rfl, ⟨by decide, by decide +kernel⟩, by decide +kernel⟩
  · exact ⟨["clear", "forget", "turn"], atI_nat (j := 3) rfl, ⟨by decide, by decide +kernel⟩, by decide +kernel⟩
  · exact ⟨["clear", "turn"], atI_nat (j := 4) rfl, ⟨by decide, by decide +kernel⟩, by decide +kernel⟩
  · exact ⟨["forget"], atI_nat (j := 5) rfl, ⟨by decide, by decide +kernel⟩, by decide +kernel⟩
  · exact ⟨["forget", "turn"], atI_nat (j := 6) rfl, ⟨by decide, by decide +kernel⟩, by decide +kernel⟩
  · exact ⟨["turn"], atI_nat (j := 7) rfl, ⟨by decide, by decide +kernel⟩, by decide +kernel⟩
theorem below4 {zs : List Int} {p q r s : Int} (h : Below zs [p, q, r, s]) : ∃ a b c d, zs = [a, b, c, d] ∧ (0 ≤ a ∧ a ≤ p) ∧ (0 ≤ b ∧ b ≤ q) ∧ (0 ≤ c ∧ c ≤ r) ∧ 0 ≤ d ∧ d ≤ s := by
  match zs, h with
  | [a, b, c, d], h => exact ⟨a, b, c, d, rfl, h.1, h.2.1, h.2.2.1, h.2.2.2.1⟩
  | [], h => exact False.elim h
  | [_], h => exact False.elim h.2
  | [_, _], h => exact False.elim h.2.2
  | [_, _, _], h => exact False.elim h.2.2.2
  | _ :: _ :: _ :: _ :: _ :: _, h => exact False.elim h.2.2.2.2
theorem btw_ok {i h : Int} (h0 : 0 ≤ i) (h1 : i ≤ h) : btw (.int i) 0 (some h) = true := btw_int h0 (decide_eq_true h1)
theorem neq_self {d : PyData} (h : d.canLay0 = true) : (!PyData.eqv d d) = false := by
  rw [PySem.SeqAt.eqv_refl d h]
  rfl
section
variable {K : PySem.W.Frag} {Z : Wld} {t : TS} {D : Ends} {σ : St} {H : Hp} {tl : TE} {g : TG}
theorem c_nil {QL : List V → Hp → Prop} (h : QL [] H) : tNil σ H QL := h
theorem c_forL1 (h : tl σ H fun x H1 => ∃ a, x = .ref a ∧ (∃ xs, SqL K H1 a xs) ∧ ∃ W : Nat → Nat → St → Hp → Prop, (∃ m, W 0 m σ H1) ∧ ∀ i m σ H, W i m σ H →
    ((Itl K a).stop i H ∧ D.nx σ H) ∨ ((Itl K a).go i H ∧ ∃ N : St → Hp → Prop, (∀ σ' H', N σ' H' → ∃ m', m' < m ∧ W (i + 1) m' σ' H') ∧ ∀ x H', (Itl K a).yld i H x H' → g x σ H' fun σ2 H2 => t { D with nx := N, ct := N, bk := D.nx } σ2 H2)) :
    tFor (iList K tl) g t D σ H := h
end
theorem c_drawT {K : PySem.W.Frag} {Z : Wld} {σ : St} {H : Hp} {n j i0 l0 : Nat} {g : Addr} {Q : VK} {bs : List Int} {vb : V} (hg : Z.g = some g) (hk : Z.ok n H) (hn : n + 10 * bs.length ≤ big) (hl : bs.length ≤ 100) (hb : ∀ b ∈ bs, 0 ≤ b ∧ b ≤ 10 ^ 30) (hl0 : σ[l0]? = some (some vb)) (hd : Dt K (Z.vis H) vb (.list (bs.map .int)))
    (hi : ∀ x, ((wipe σ [j]).set j (some x))[i0]? = some (some (.ref g))) (hj : j < σ.length)
    (q : ∀ v zs H', Same (Z.vis H) (Z.vis H') → Z.ok (n + 10 * bs.length) H' → Below zs bs → Dt K (Z.vis H') v (.tuple (zs.map .int)) → Q v H') :
    tCB (rTupOf K) (tCons (tLc (iList K (tVar l0)) (gName j) tYes (tCall (spG K 10 P_few R_few) [] E0 (tCons (tVar i0) (tCons (tVar j) tNil))) [j]) tNil) σ H Q :=
  c_cb (c_cons (c_draws hg hk hn hl hb hl0 hd hi hj fun p zs H' s k hB d => c_nil (rc_tupOf (K := K) (Z := Z) _ H' _ k (.cons d .nil) Q fun v H2 s2 k2 d2 => q v zs H2 (s.trans s2) k2 hB d2)))
abbrev s_l_right : Stmt := topS 43
abbrev N_l_right : List Str := ["_law_generator_here", "_law_link_here", "_law_contents_here", "_law_turn", "_law_bounds", "_law_lists", "_law_kept", "_law_words", "_law_taking", "_law_mending", "_law_value", "_law_given", "_law_due", "_law_before", "_law_fits_here", "_law_bound"]
abbrev ps_l_right : List Str := ["_law_generator_here", "_law_link_here"]
theorem sc_l_right : FnScope N_l_right ps_l_right (defScope s_l_right) := ⟨rfl, rfl, rfl, by decide +kernel, rfl, by decide +kernel, by decide +kernel⟩
section
variable {P : Program} {w : World} {K : PySem.W.Frag} {mg : Str → Option Value} {base : Heap}
def ksV : List Str := ["value", "contents", "link"]
def ksM : List Str := ["mending", "contents", "link"]
def gK : List Value → List Value → List Value := fun us ws => us ++ ws.reverse
def gV : List V → List V → List V := fun us ws => us ++ ws.reverse
def P_right : List PyData → Prop := fun ds => ∃ l : Lnk, l.ok ∧ ds = [l.D]
def R_right : List PyData → PyData → Prop := fun _ r => r = .bool true
theorem ok_l_right {f f1 f2 f3 f4 f5 f6 f7 f8 f9 f10 : Addr} {fd fd1 fd2 fd3 fd4 fd5 fd6 fd7 fd8 fd9 fd10 : FuncData} (F : Fun K "_law_right" "_law_right" s_l_right f fd) (T : Txt mg)
    (C_l_random : Cal P w K mg base 2 "_law_random" ps_l_random f1 fd1 (spG K 5 P_rnd R_rnd)) (C_l_few : Cal P w K mg base 3 "_law_few" ps_l_few f2 fd2 (spG K 10 P_few R_few))
    (C_l_contents : Cal P w K mg base 4 "_law_contents" ps_l_contents f3 fd3 (spG K 110 P_contents R_contents)) (C_l_word_lists : Cal P w K mg base 1 "_law_word_lists" ps_l_word_lists f4 fd4 (spR K R_word_lists))
    (C_l_mended : Cal P w K mg base 1 "_law_mended" ps_l_mended f5 fd5 (spR K R_l_mended)) (C_l_fits : Cal P w K mg base 2 "_law_fits" ps_l_fits f6 fd6 (spR K R_l_fits))
    (C_l_bent : Cal P w K mg base 3 "_law_bent" ps_l_bent f7 fd7 (spG K 10 P_bent R_bent)) (C_is_mending : Cal P w K mg base 7 "is_mending" ps_is_mending f8 fd8 (spR K R_is_mending))
    (C_mended : Cal P w K mg base 8 "mended" ps_mended f9 fd9 (spR K R_mended)) (C_cost_of : Cal P w K mg base 8 "cost_of" ps_cost_of f10 fd10 (spR K R_cost_of))
    (BK_is_mending : KBinds K fd8 ps_is_mending ksV gK gV) (BK_mended : KBinds K fd9 ps_mended ksM gK gV) (BK_cost_of : KBinds K fd10 ps_cost_of ksM gK gV) :
    FnG P w K mg base 9 f fd ps_l_right (spG K 400 P_right R_right) := by
  refine fnG_gen F sc_l_right (fun ds h => ?_) (fun cdv A outer s H E hr hgd => ⟨_, (pss_cons (ps_set (i := 2) sc_l_right.nd rfl (.inl rfl) (pe_call C_l_contents.ok (hr.mono (by decide)) (by rfl) C_l_contents.g C_l_contents.kp C_l_contents.b .nil pass0 (pa_cons (pv 0) (pa_cons (pv 1) pa_nil))))
      (pss_cons (ps_par3 (i := 4) (j := 5) (l := 6) (by rfl) sc_l_right.nd rfl rfl rfl (by decide) (by decide) (by decide) rfl rfl rfl (pa_cons (pe_lst (pa_cons (pe_ix (ix_seqK K) (pe_ix (ix_seqK K) (pv 2) pe_int (fun _ _ => rfl)) pe_int (fun _ _ => rfl)) (pa_cons (pe_ix (ix_seqK K) (pe_ix (ix_seqK K) (pv 2) pe_int (fun _ _ => rfl)) pe_int (fun _ _ => rfl)) (pa_cons (pe_ix (ix_seqK K) (pe_ix (ix_seqK K) (pv 2) pe_int (fun _ _ => rfl)) pe_int (fun _ _ => rfl)) (pa_cons (pe_ix (ix_seqK K) (pe_ix (ix_seqK K) (pv 2) pe_int (fun _ _ => rfl)) pe_int (fun _ _ => rfl)) pa_nil))))) (pa_cons (pe_call0 C_l_word_lists.ok (hr.mono (by decide)) (by rfl) C_l_word_lists.g C_l_word_lists.kp C_l_word_lists.b .nil pass0) (pa_cons (pe_callB (call_reprX hgd hr) (by rfl) T.m_repr bt_repr (pa_cons (pe_lst (pa_cons (pv 1) (pa_cons (pv 2) pa_nil))) pa_nil)) pa_nil))) (by rfl))
      (pss_cons (ps_for PassesOwn.never rfl (pi_range1 (by rfl) T.m_range (pa_cons pe_int pa_nil)) (pg_name (i := 3) sc_l_right.nd rfl (Or.inl rfl)) (pss_cons (ps_set (i := 7) sc_l_right.nd rfl (.inl rfl) (pe_ix (ix_seqK K) (pv 5) (pe_call C_l_random.ok (hr.mono (by decide)) (by rfl) C_l_random.g C_l_random.kp C_l_random.b .nil pass0 (pa_cons (pv 0) (pa_cons pe_int pa_nil))) (fun _ _ => rfl)))
      (pss_cons (ps_set (i := 8) sc_l_right.nd rfl (.inl rfl) (pe_callTy call_tuple_of (by rfl) T.m_tuple bt_tuple (pa_cons (pe_lc (own := [("_law_bound", 15)]) (g := gName 15) rfl sc_l_right.nd (pi_list (pv 4)) (blkOk_by (N := N_l_right) (sc := defScope s_l_right) (by decide +kernel)) (fun _ _ _ _ _ => pg_name (i := 15) sc_l_right.nd rfl (Or.inl rfl)) (fun _ _ _ _ _ => pts_nil) (fun _ _ _ _ _ => (pe_call C_l_few.ok (hr.mono (by decide)) (by rfl) C_l_few.g C_l_few.kp C_l_few.b .nil pass0 (pa_cons (pv 0) (pa_cons (pv 15) pa_nil))))) pa_nil)))
      (pss_cons (ps_set (i := 9) sc_l_right.nd rfl (.inl rfl) (pe_tup (pa_cons (pv 7) (pa_cons (pv 8) pa_nil))))
      (pss_cons (ps_par (i := 11) (j := 12) (by rfl) sc_l_right.nd rfl rfl (by decide) rfl rfl (pa_cons (pe_callB (call_reprX hgd hr) (by rfl) T.m_repr bt_repr (pa_cons (pv 9) pa_nil)) (pa_cons (pe_call C_l_mended.ok (hr.mono (by decide)) (by rfl) C_l_mended.g C_l_mended.kp C_l_mended.b .nil pass0 (pa_cons (pv 2) (pa_cons (pv 7) (pa_cons (pv 8) pa_nil)))) pa_nil)) (by rfl))
      (pss_cons (ps_if (PW.pt (pw_or (pt_cmpR op_notBl (pe_call C_is_mending.ok (hr.mono (by decide)) (by rfl) C_is_mending.g C_is_mending.kp C_is_mending.b .nil pass0 (pa_cons (pv 1) (pa_cons (pv 2) (pa_cons (pv 9) pa_nil)))) pe_bl (nomark _)) (pw_or1 (pt_cmpR op_ne (pe_callB (call_reprX hgd hr) (by rfl) T.m_repr bt_repr (pa_cons (pe_call C_mended.ok (hr.mono (by decide)) (by rfl) C_mended.g C_mended.kp C_mended.b .nil pass0 (pa_cons (pv 1) (pa_cons (pv 2) (pa_cons (pv 9) pa_nil)))) pa_nil)) (pe_callB (call_reprX hgd hr) (by rfl) T.m_repr bt_repr (pa_cons (pv 12) pa_nil)) (nomark _))))) (pss_one (ps_ret pe_bl)) pss_nil)
      (pss_cons (ps_if (PW.pt (pw_or (pt_cmpR (op_neD hr.units) (pe_callK0 C_mended.ok (hr.mono (by decide)) (by rfl) C_mended.g C_mended.kp BK_mended pass0 (pk_cons (pv 9) (pk_cons (pv 2) (pk_cons (pv 1) pk_nil)))) (pv 12) (nomark _)) (pw_or1 (pt_cmpR op_ne (pe_callB (call_reprX hgd hr) (by rfl) T.m_repr bt_repr (pa_cons (pe_call C_cost_of.ok (hr.mono (by decide)) (by rfl) C_cost_of.g C_cost_of.kp C_cost_of.b .nil pass0 (pa_cons (pv 1) (pa_cons (pv 2) (pa_cons (pv 9) pa_nil)))) pa_nil)) (pe_callB (call_reprX hgd hr) (by rfl) T.m_repr bt_repr (pa_cons (pe_op op_add (pe_callB call_len_seq (by rfl) T.m_len bt_len (pa_cons (pv 7) pa_nil)) (pe_callB (call_sumX rfl) (by rfl) T.m_sum bt_sum (pa_cons (pv 8) pa_nil))) pa_nil)) (nomark _))))) (pss_one (ps_ret pe_bl)) pss_nil)
      (pss_cons (ps_if (PW.pt (pw_or (pt_cmpR (op_neD hr.units) (pe_callK0 C_cost_of.ok (hr.mono (by decide)) (by rfl) C_cost_of.g C_cost_of.kp BK_cost_of pass0 (pk_cons (pv 9) (pk_cons (pv 2) (pk_cons (pv 1) pk_nil)))) (pe_op op_add (pe_callB call_len_seq (by rfl) T.m_len bt_len (pa_cons (pv 7) pa_nil)) (pe_callB (call_sumX rfl) (by rfl) T.m_sum bt_sum (pa_cons (pv 8) pa_nil))) (nomark _)) (pw_or (pt_cmpR op_ne (pe_callB (call_reprX hgd hr) (by rfl) T.m_repr bt_repr (pa_cons (pe_lst (pa_cons (pv 1) (pa_cons (pv 2) pa_nil))) pa_nil)) (pv 6) (nomark _)) (pw_or1 (pt_cmpR op_ne (pe_callB (call_reprX hgd hr) (by rfl) T.m_repr bt_repr (pa_cons (pv 9) pa_nil)) (pv 11) (nomark _)))))) (pss_one (ps_ret pe_bl)) pss_nil)
      (pss_one (ps_for PassesOwn.never rfl (pi_list (pe_call C_l_bent.ok (hr.mono (by decide)) (by rfl) C_l_bent.g C_l_bent.kp C_l_bent.b .nil pass0 (pa_cons (pv 0) (pa_cons (pv 2) (pa_cons (pv 9) pa_nil))))) (pg_name (i := 10) sc_l_right.nd rfl (Or.inl rfl)) (pss_cons (ps_par (i := 13) (j := 14) (by rfl) sc_l_right.nd rfl rfl (by decide) rfl rfl (pa_cons (pe_callB (call_reprX hgd hr) (by rfl) T.m_repr bt_repr (pa_cons (pv 10) pa_nil)) (pa_cons (pe_call C_l_fits.ok (hr.mono (by decide)) (by rfl) C_l_fits.g C_l_fits.kp C_l_fits.b .nil pass0 (pa_cons (pv 2) (pa_cons (pv 10) pa_nil))) pa_nil)) (by rfl))
      (pss_one (ps_if (PW.pt (pw_or (pt_cmpR op_ne (pe_callB (call_reprX hgd hr) (by rfl) T.m_repr bt_repr (pa_cons (pe_call C_is_mending.ok (hr.mono (by decide)) (by rfl) C_is_mending.g C_is_mending.kp C_is_mending.b .nil pass0 (pa_cons (pv 1) (pa_cons (pv 2) (pa_cons (pv 10) pa_nil)))) pa_nil)) (pe_callB (call_reprX hgd hr) (by rfl) T.m_repr bt_repr (pa_cons (pv 14) pa_nil)) (nomark _)) (pw_or (pt_cmpR (op_neD hr.units) (pe_callK0 C_is_mending.ok (hr.mono (by decide)) (by rfl) C_is_mending.g C_is_mending.kp BK_is_mending pass0 (pk_cons (pv 10) (pk_cons (pv 2) (pk_cons (pv 1) pk_nil)))) (pv 14) (nomark _)) (pw_or1 (pt_cmpR op_ne (pe_callB (call_reprX hgd hr) (by rfl) T.m_repr bt_repr (pa_cons (pv 10) pa_nil)) (pv 13) (nomark _)))))) (pss_one (ps_ret pe_bl)) pss_nil)))))))))))))
      (pss_one (ps_ret pe_bl))))), ?_⟩)
  · obtain ⟨l, _, rfl⟩ := h
    rfl
  · rintro ds ⟨l, hl, rfl⟩ Z n g vs H hg hk hn hds D q
    obtain ⟨vl, rfl, dl⟩ := hds.c1
    refine c_asg (cg_call (n := n) hg rfl hk (by omega) (ea_cons (ev_var rfl dl) ea_nil) ⟨l, hl, rfl⟩ fun r vc H1 hR s1 k1 dc => ?_)
    obtain ⟨l', x, hx, e, rfl⟩ := hR
    have e' : l' = l := (Lnk.inj (List.cons.inj e).1).symm
    subst e'
    refine c_is [some (.ref g), some vl, some vc, none, none, none, none, none, none, none, none, none, none, none, none, none] rfl ?_
    have gl := lnk_G hl
    have gx := (Cts.ok.sm hl hx).G
    have shK : Shw (.list [l'.D, x.D]) := G.shw (k := 4) (G.list (allC gl.up.up (allC gx all0)) (by simp)) (by decide)
    have dc1 : Dt K (Z.vis H1) vc (.tuple [x.S, x.R, .tuple [.int x.nw, .int x.zs, .int x.os], .tuple [.int x.lo, .int x.hi]]) := dc
    refine c_par3 (c_evA (K := K) (M := Z.vis H1) (ea_cons (d := .list ([x.zs, x.os, x.lo, x.hi].map .int)) (ev_lst (ea_cons (ev_op (rv_ixT (atI_nat (j := 1) rfl)) (ev_op (rv_ixT (atI_nat (j := 2) rfl)) (ev_var rfl dc1) ev_int) ev_int) (ea_cons (ev_op (rv_ixT (atI_nat (j := 2) rfl)) (ev_op (rv_ixT (atI_nat (j := 2) rfl)) (ev_var rfl dc1) ev_int) ev_int)
        (ea_cons (ev_op (rv_ixT (atI_nat (j := 0) rfl)) (ev_op (rv_ixT (atI_nat (j := 3) rfl)) (ev_var rfl dc1) ev_int) ev_int) (ea_cons (ev_op (rv_ixT (atI_nat (j := 1) rfl)) (ev_op (rv_ixT (atI_nat (j := 3) rfl)) (ev_var rfl dc1) ev_int) ev_int) ea_nil)))) (by simp))
      (ea_cons (ev_call (R := R_word_lists) ⟨rfl, rfl⟩ ea_nil) (ea_cons (ev_cb (rc_repr shK) (ea_cons (ev_lst (ea_cons (ev_var rfl (dl.mono s1)) (ea_cons (ev_var rfl dc) ea_nil)) (by simp)) ea_nil)) ea_nil))) (Same.refl _) k1 fun vs H2 s2 k2 d2 => ?_)
    obtain ⟨vb, vls, vk, rfl, db, dls, dk⟩ := d2.c3
    have ek := dk.strE
    subst ek
    refine ⟨_, _, _, rfl, ?_⟩
    refine c_is [some (.ref g), some vl, some vc, none, some vb, some vls, some (.str (PyData.list [l'.D, x.D]).shown), none, none, none, none, none, none, none, none, none] rfl ?_
    have hz : ∀ b ∈ [x.zs, x.os, x.lo, x.hi], 0 ≤ b ∧ b ≤ 10 ^ 30 := by
      obtain ⟨a, b, c, d, e, f, g, i⟩ := hl
      obtain ⟨b0', b1', h0, h1, o0, o1, lt, n0, z0, s0, t1, l0, u0, u1⟩ := hx
      intro b hb
      simp only [List.mem_cons, List.not_mem_nil, or_false] at hb
      rcases hb with rfl | rfl | rfl | rfl <;> omega
    obtain ⟨pl, xl, rfl, hql, hsl⟩ := dls.lstE
    have dl2 := dl.mono (s1.trans s2)
    have dc2 := dc.mono s2
    have s12 := s1.trans s2
    refine c_forR ⟨4, rfl, by decide, by decide, ?_⟩
    refine for_range (lo := 0) (fun i σ' H' => ∃ y3 y7 y8 y9 y10 y11 y12 y13 y14 y15 : Option V, σ' = [some (.ref g), some vl, some vc, y3, some vb, some (.ref pl), some (.str (PyData.list [l'.D, x.D]).shown), y7, y8, y9, y10, y11, y12, y13, y14, y15] ∧ Same (Z.vis H2) (Z.vis H') ∧ Z.ok (n + 110 + 60 * i) H')
      ⟨none, none, none, none, none, none, none, none, none, none, rfl, Same.refl _, k2⟩ ?_ ?_
    · rintro i σ' H3 hi ⟨y3, y7, y8, y9, y10, y11, y12, y13, y14, y15, rfl, s3, k3⟩
      have hi' : i < 4 := hi
      refine c_nm [some (.ref g), some vl, some vc, some (.int (0 + (i : Int))), some vb, some (.ref pl), some (.str (PyData.list [l'.D, x.D]).shown), y7, y8, y9, y10, y11, y12, y13, y14, y15] rfl ?_
      -- words
      refine c_asg (c_op (c_v rfl (cg_call (n := n + 110 + 60 * i) hg rfl k3 (by omega) (ea_cons ev_int ea_nil) ⟨8, by decide, by decide, rfl⟩ fun r v H4 hR s4 k4 d4 => ?_)))
      obtain ⟨z, z0, z1, rfl⟩ := rnd_E (z0 := 0) hR
      cases d4
      obtain ⟨ws, hws, wok, wf⟩ := wl_pick z0 z1
      refine pick_L hql hsl ((s3.trans s4).trans vis_same) hws fun vw dw => ?_
      refine c_is [some (.ref g), some vl, some vc, some (.int (0 + (i : Int))), some vb, some (.ref pl), some (.str (PyData.list [l'.D, x.D]).shown), some vw, y8, y9, y10, y11, y12, y13, y14, y15] rfl ?_
      -- taking
      refine c_asg (c_drawT (bs := [x.zs, x.os, x.lo, x.hi]) (n := n + 110 + 60 * i + 5) hg k4 (by simp only [List.length_cons, List.length_nil]; omega) (by simp) hz rfl (db.mono (s3.trans s4)) (fun _ => rfl) (ltn rfl) fun vt zs H6 s6 k6 hB d6 => ?_)
      obtain ⟨a, b, c, d, rfl, ⟨a0, a1⟩, ⟨b0, b1⟩, ⟨c0, c1⟩, d0, d1⟩ := below4 hB
      have dt : Dt K (Z.vis H6) vt (.tuple [.int a, .int b, .int c, .int d]) := d6
      refine c_is [some (.ref g), some vl, some vc, some (.int (0 + (i : Int))), some vb, some (.ref pl), some (.str (PyData.list [l'.D, x.D]).shown), some vw, some vt, y9, y10, y11, y12, y13, y14, y15] rfl ?_
      have k6' : Z.ok (n + 110 + 60 * i + 45) H6 := k6
      clear k6
      have sA : Same (Z.vis H2) (Z.vis H6) := (s3.trans s4).trans s6
      have dw6 : Dt K (Z.vis H6) vw (.list (ws.map .str)) := dw.mono sA
      have dl6 := dl2.mono sA
      have dc6 := dc2.mono sA
      -- what is known of the mending
      have xs_ := Cts.ok.sm hl hx
      have sia : SI a := si_of a0 (by have := (hz x.zs (by simp)).2; omega)
      have sib : SI b := si_of b0 (by have := (hz x.os (by simp)).2; omega)
      have sic : SI c := si_of c0 (by have := (hz x.lo (by simp)).2; omega)
      have sid : SI d := si_of d0 (by have := (hz x.hi (by simp)).2; omega)
      have wlen := wok.len
      have gW : G 1 (.list (ws.map .str)) := G.list wok.g (by rw [List.length_map]; omega)
      have gM : G 2 (mD ws a b c d) := G.tup (allC gW (allC (G.tup (allC sia.g (allC sib.g (allC sic.g (allC sid.g all0)))) (by simp)) all0)) (by simp)
      have gdM : Gd (mD ws a b c d) := gM.up.gd
      have gdW : Gd (.list (ws.map .str)) := gW.up.up.gd
      have shM : Shw (mD ws a b c d) := gM.shw (by decide)
      have hm : mfit x (mD ws a b c d) = true := by
        show (wfit (.list (ws.map .str)) && (btw (.int a) 0 (some x.zs) && (btw (.int b) 0 (some x.os) && (btw (.int c) 0 (some x.lo) && btw (.int d) 0 (some x.hi))))) = true
        rw [show wfit (.list (ws.map .str)) = true from wf, btw_ok a0 a1, btw_ok b0 b1, btw_ok c0 c1, btw_ok d0 d1]
        rfl
      have gD : G 3 (mend x ws a b c d).D := (mend_sm hl hx ws a0 a1 b0 b1 c0 c1 d0 d1).G
      have shD : Shw (mend x ws a b c d).D := gD.shw (by decide)
      have eC : ((ws.length : Int) + (a + b + c + d)) = (((ws.map PyData.str).length : Int) + ([a, b, c, d] : List Int).sum) := by
        rw [List.length_map]
        simp only [List.sum_cons, List.sum_nil]
        omega
      have gC : G 0 (.int ((ws.length : Int) + (a + b + c + d))) := G.int (by unfold SI at sia sib sic sid; omega)
      have shC : Shw (.int ((ws.length : Int) + (a + b + c + d))) := gC.shw (by decide)
      -- mending
      refine c_asg (c_ev (K := K) (d := mD ws a b c d) (ev_tup (ea_cons (ev_var rfl dw6) (ea_cons (ev_var rfl dt) ea_nil)) (by simp)) (Same.refl _) k6' fun vm H7 s7 k7 dm => ?_)
      refine c_is [some (.ref g), some vl, some vc, some (.int (0 + (i : Int))), some vb, some (.ref pl), some (.str (PyData.list [l'.D, x.D]).shown), some vw, some vt, some vm, y10, y11, y12, y13, y14, y15] rfl ?_
      have dw7 := dw6.mono s7
      have dt7 := dt.mono s7
      have dl7 := dl6.mono s7
      have dc7 := dc6.mono s7
      -- given, due
      refine c_par (c_evA (K := K) (M := Z.vis H7) (ea_cons (ev_cb (rc_repr shM) (ea_cons (ev_var rfl dm) ea_nil)) (ea_cons (ev_call (R := R_l_mended) ⟨x, ws, a, b, c, d, gdW, rfl, rfl⟩ (ea_cons (ev_var rfl dc7) (ea_cons (ev_var rfl dw7) (ea_cons (ev_var rfl dt7) ea_nil)))) ea_nil)) (Same.refl _) k7 fun vs H8 s8 k8 d8 => ?_)
      obtain ⟨vg, vd, rfl, dg, dd⟩ := d8.c2
      have eg := dg.strE
      subst eg
      refine ⟨_, _, rfl, ?_⟩
      refine c_is [some (.ref g), some vl, some vc, some (.int (0 + (i : Int))), some vb, some (.ref pl), some (.str (PyData.list [l'.D, x.D]).shown), some vw, some vt, some vm, y10, some (.str (mD ws a b c d).shown), some vd, y13, y14, y15] rfl ?_
      have dm8 := dm.mono s8
      have dw8 := dw7.mono s8
      have dt8 := dt7.mono s8
      have dl8 := dl7.mono s8
      have dc8 := dc7.mono s8
      -- the first check
      refine c_skip (M := Z.vis H8) (et_or (b := false) (c := false) (et_is (et_cmp (ev_op rv_notB (ev_call (R := R_is_mending) (r := .bool true) ⟨l', x, _, hl, hx, .inl gdM, rfl, by rw [hm]⟩ (ea_cons (ev_var rfl dl8) (ea_cons (ev_var rfl dc8) (ea_cons (ev_var rfl dm8) ea_nil)))) ev_bl)) rfl)
        (fun _ => et_cmp (ev_op rv_neS (ev_cb (rc_repr shD) (ea_cons (ev_call (R := R_mended) ⟨l', x, ws, a, b, c, d, hl, hx, gdM, hm, rfl, rfl⟩ (ea_cons (ev_var rfl dl8) (ea_cons (ev_var rfl dc8) (ea_cons (ev_var rfl dm8) ea_nil)))) ea_nil)) (ev_cb (rc_repr shD) (ea_cons (ev_var rfl dd) ea_nil))))) (Same.refl _) k8 fun H9 s9 k9 => ?_
      have cost : ∀ (N : Hp) (τ : St), τ[7]? = some (some vw) → τ[8]? = some (some vt) → Same (Z.vis H8) N → Ev K Z (tOp (rI0 fun i j => .int (i + j)) (tCB (rLenS K) (tCons (tVar 7) tNil)) (tCB (rSumX K) (tCons (tVar 8) tNil))) τ N (.int ((ws.length : Int) + (a + b + c + d))) := fun N τ e7 e8 s => by
        rw [eC]
        exact ev_op rv_I0 (ev_cb rc_lenL (ea_cons (ev_var e7 (dw8.mono s)) ea_nil)) (ev_cb (rc_sumT (ns := [a, b, c, d])) (ea_cons (ev_var e8 (dt8.mono s)) ea_nil))
      -- the second
      refine c_skip (M := Z.vis H9) (et_or (b := false) (c := false) (et_is (et_cmp (ev_op (rv_ne gD.gd.sh gD.gd.sh) (ev_callK (R := R_mended) (gD := [l'.D, x.D, mD ws a b c d]) ⟨l', x, ws, a, b, c, d, hl, hx, gdM, hm, rfl, rfl⟩ (ea_cons (ev_var rfl (dm8.mono s9)) (ea_cons (ev_var rfl (dc8.mono s9)) (ea_cons (ev_var rfl (dl8.mono s9)) ea_nil))) (fun vs M h => h.rev)) (ev_var rfl (dd.mono s9)))) (neq_self gD.can))
        (fun _ => et_cmp (ev_op rv_neS (ev_cb (rc_repr shC) (ea_cons (ev_call (R := R_cost_of) ⟨l', x, ws, a, b, c, d, hl, hx, gdM, hm, rfl, rfl⟩ (ea_cons (ev_var rfl (dl8.mono s9)) (ea_cons (ev_var rfl (dc8.mono s9)) (ea_cons (ev_var rfl (dm8.mono s9)) ea_nil)))) ea_nil)) (ev_cb (rc_repr shC) (ea_cons (cost _ _ rfl rfl s9) ea_nil))))) (Same.refl _) k9 fun H10 s10 k10 => ?_
      have s810 := s9.trans s10
      -- the third
      refine c_skip (M := Z.vis H10) (et_or (b := false) (c := false) (et_is (et_cmp (ev_op (rv_ne (sh_int _) (sh_int _)) (ev_callK (R := R_cost_of) (gD := [l'.D, x.D, mD ws a b c d]) ⟨l', x, ws, a, b, c, d, hl, hx, gdM, hm, rfl, rfl⟩ (ea_cons (ev_var rfl (dm8.mono s810)) (ea_cons (ev_var rfl (dc8.mono s810)) (ea_cons (ev_var rfl (dl8.mono s810)) ea_nil))) (fun vs M h => h.rev)) (cost _ _ rfl rfl s810))) (neq_self gC.can))
        (fun _ => et_or (b := false) (c := false) (et_cmp (ev_op rv_neS (ev_cb (rc_repr shK) (ea_cons (ev_lst (ea_cons (ev_var rfl (dl8.mono s810)) (ea_cons (ev_var rfl (dc8.mono s810)) ea_nil)) (by simp)) ea_nil)) (ev_var rfl (.str _)))) (fun _ => et_cmp (ev_op rv_neS (ev_cb (rc_repr shM) (ea_cons (ev_var rfl (dm8.mono s810)) ea_nil)) (ev_var rfl (.str _)))))) (Same.refl _) k10 fun H11 s11 k11 => ?_
      have s811 := s810.trans s11
      -- the bent values
      refine c_forL1 (cg_call (n := n + 110 + 60 * i + 45) hg rfl k11 (by omega) (ea_cons (ev_var rfl (dc8.mono s811)) (ea_cons (ev_var rfl (dm8.mono s811)) ea_nil)) ⟨x.D, ws, a, b, c, d, wok, sia, sib, sic, sid, rfl⟩ fun r v H12 hR s12' k12 d12 => ?_)
      obtain ⟨vs, rfl, gv, lv⟩ := hR
      obtain ⟨pv, xv, rfl, hqv, hsv⟩ := d12.lstE
      refine ⟨pv, rfl, ⟨xv, vis_same.seq hqv⟩, ?_⟩
      have s812 := s811.trans s12'
      refine for_list (xs := xv) (fun j σ' H' => ∃ y10 y13 y14 : Option V, σ' = [some (.ref g), some vl, some vc, some (.int (0 + (i : Int))), some vb, some (.ref pl), some (.str (PyData.list [l'.D, x.D]).shown), some vw, some vt, some vm, y10, some (.str (mD ws a b c d).shown), some vd, y13, y14, y15] ∧ Same (Z.vis H12) (Z.vis H') ∧ Z.ok (n + 110 + 60 * i + 45 + 10) H')
        ⟨y10, y13, y14, rfl, Same.refl _, k12⟩ (fun j σ' H' _ ⟨_, _, _, _, s, _⟩ => (s.trans vis_same).seq hqv) ?_ ?_
      · rintro j y σ' H13 hy ⟨y10, y13, y14, rfl, s13, k13⟩
        obtain ⟨dv, hdv, dy⟩ := hsv.getV hy
        have gw := gv dv (List.mem_of_getElem? hdv)
        have dy13 := dy.mono s13
        have s813 := s812.trans s13
        refine c_nm [some (.ref g), some vl, some vc, some (.int (0 + (i : Int))), some vb, some (.ref pl), some (.str (PyData.list [l'.D, x.D]).shown), some vw, some vt, some vm, some y, some (.str (mD ws a b c d).shown), some vd, y13, y14, y15] rfl ?_
        refine c_par (c_evA (K := K) (M := Z.vis H13) (ea_cons (ev_cb (rc_repr gw.shw) (ea_cons (ev_var rfl dy13) ea_nil)) (ea_cons (ev_call (R := R_l_fits) ⟨x, dv, gw.gv, rfl, rfl⟩ (ea_cons (ev_var rfl (dc8.mono s813)) (ea_cons (ev_var rfl dy13) ea_nil))) ea_nil)) (Same.refl _) k13 fun vs' H14 s14 k14 d14 => ?_)
        obtain ⟨vbf, vf, rfl, dbf, df⟩ := d14.c2
        have ebf := dbf.strE
        subst ebf
        refine ⟨_, _, rfl, ?_⟩
        refine c_is [some (.ref g), some vl, some vc, some (.int (0 + (i : Int))), some vb, some (.ref pl), some (.str (PyData.list [l'.D, x.D]).shown), some vw, some vt, some vm, some y, some (.str (mD ws a b c d).shown), some vd, some (.str dv.shown), some vf, y15] rfl ?_
        have s814 := s813.trans s14
        have shB : Shw (.bool (mfit x dv)) := (G.bool (k := 0)).shw (by decide)
        refine c_skip1 (M := Z.vis H14) (et_or (b := false) (c := false) (et_cmp (ev_op rv_neS (ev_cb (rc_repr shB) (ea_cons (ev_call (R := R_is_mending) ⟨l', x, dv, hl, hx, gw.gv, rfl, rfl⟩ (ea_cons (ev_var rfl (dl8.mono s814)) (ea_cons (ev_var rfl (dc8.mono s814)) (ea_cons (ev_var rfl (dy13.mono s14)) ea_nil)))) ea_nil)) (ev_cb (rc_repr shB) (ea_cons (ev_var rfl df) ea_nil))))
          (fun _ => et_or (b := false) (c := false) (et_is (et_cmp (ev_op (rv_ne (sh_bool _) (sh_bool _)) (ev_callK (R := R_is_mending) (gD := [l'.D, x.D, dv]) ⟨l', x, dv, hl, hx, gw.gv, rfl, rfl⟩ (ea_cons (ev_var rfl (dy13.mono s14)) (ea_cons (ev_var rfl (dc8.mono s814)) (ea_cons (ev_var rfl (dl8.mono s814)) ea_nil))) (fun vs M h => h.rev)) (ev_var rfl df))) (neq_self (by simp only [PyData.canLay0])))
            (fun _ => et_cmp (ev_op rv_neS (ev_cb (rc_repr gw.shw) (ea_cons (ev_var rfl (dy13.mono s14)) ea_nil)) (ev_var rfl (.str _)))))) (Same.refl _) k14 fun H15 s15 k15 => ?_
        exact ⟨some y, some (.str dv.shown), some vf, rfl, (s13.trans s14).trans s15, k15⟩
      · rintro σ' H13 ⟨y10, y13, y14, rfl, s13, k13⟩
        exact ⟨_, _, _, _, _, _, _, _, _, _, rfl, ((((sA.trans s7).trans s8).trans s812).trans s13), k13.mono (by omega)⟩
    · rintro σ' H3 ⟨y3, y7, y8, y9, y10, y11, y12, y13, y14, y15, rfl, s3, k3⟩
      have k4 : Z.ok (n + 110 + 60 * 4) H3 := k3
      show D.rt (.bl true) H3
      exact q (.bool true) _ H3 rfl ((s1.trans s2).trans s3) (k4.mono (by omega)) (.bl true)
end
end Hw

set_option maxHeartbeats 4000000
/-! HwQ: the law's def. -/
namespace Hw
open PySem PySem.Spec L2
section
variable {K : PySem.W.Frag} {Z : Wld} {σ : St} {H M : Hp} {n : Nat} {c : TT} {b : Bool} {QB : Bool → Hp → Prop}
theorem c_evT (h : EvT Z c σ M b) (s : Same M (Z.vis H)) (k : Z.ok n H) (q : ∀ H', Same (Z.vis H) (Z.vis H') → Z.ok n H' → QB b H') : c σ H QB := h n H s k QB q
end
theorem c_bd {K : PySem.W.Frag} {Z : Wld} {σ : St} {H M : Hp} {n : Nat} {t : TS} {D : Ends} {r : PyData} (h : Bd K Z t σ M r) (s : Same M (Z.vis H)) (k : Z.ok n H) (q : ∀ v H', Same (Z.vis H) (Z.vis H') → Z.ok n H' → Dt K (Z.vis H') v r → D.rt v H') : t D σ H := h n H s k D q
/-- nothing hidden -/
def Z0 : Wld := ⟨none, []⟩
theorem Z0_vis (H : Hp) : Z0.vis H = H := by
  funext b
  exact vis_of rfl
theorem Z0_ok (n : Nat) (H : Hp) : Z0.ok n H := ⟨(fun _ e => nomatch e), (fun _ m => nomatch m), (fun _ e => nomatch e)⟩
def Zg (p : Addr) : Wld := ⟨some p, []⟩
theorem Zg_hid {p b : Addr} (h : b ≠ p) : (Zg p).hid b = false := by
  unfold Wld.hid Zg
  simp [Ne.symm h]
theorem Zg_ok {H : Hp} {p : Addr} {a b c : Int} {n : Nat} (h : c.natAbs ≤ n) : (Zg p).ok n (upd H p (.lst [.int a, .int b, .int c])) :=
  ⟨fun q e => by
    cases e
    exact ⟨a, b, c, upd_same, h⟩, (fun _ m => nomatch m), (fun _ _ _ m => nomatch m)⟩
theorem Zg_same {H : Hp} {p : Addr} {o : HO} (hp : H p = none) : Same H ((Zg p).vis (upd H p o)) := fun b u e => by
  have nb : b ≠ p := ne_of_none e hp
  rw [vis_of (Zg_hid nb), upd_ne nb]
  exact e
abbrev s_law : Stmt := topS 44
abbrev N_law : List Str := ["_law_script", "_law_index", "_law_bad", "_law_loose", "_law_zeros", "_law_generator_here"]
abbrev ps_law : List Str := ["_law_script"]
theorem sc_law : FnScope N_law ps_law (defScope s_law) := ⟨rfl, rfl, rfl, by decide +kernel, rfl, by decide +kernel, by decide +kernel⟩
section
variable {P : Program} {w : World} {K : PySem.W.Frag} {mg : Str → Option Value} {base : Heap}
def spLaw (K : PySem.W.Frag) : Sp := fun vs H Q _ => ∃ (a : Addr) (ns : List Int), vs = [.ref a] ∧ SqL K H a (ns.map V.int) ∧ ∀ H', Q (.bl true) H'
/-- the three written cases -/
def badL : Lnk := ⟨3, 3, 3, 3⟩
def badX : Cts := ⟨0, 2, 0, some (false, 2), false, 0, 1, 2, 2, 1⟩
def looseL : Lnk := ⟨1, 1, 2, 1⟩
def looseX : Cts := ⟨0, 0, 1, some (true, 1), true, 1, 0, 0, 0, 1⟩
def zerosL : Lnk := ⟨3, 1, 1, 1⟩
def zerosX : Cts := ⟨0, 0, 0, none, true, 0, 3, 0, 0, 0⟩
theorem badL_ok : badL.ok := ⟨by decide, by decide, by decide, by decide, by decide, by decide, by decide, by decide⟩
theorem looseL_ok : looseL.ok := ⟨by decide, by decide, by decide, by decide, by decide, by decide, by decide, by decide⟩
theorem zerosL_ok : zerosL.ok := ⟨by decide, by decide, by decide, by decide, by decide, by decide, by decide, by decide⟩
theorem badX_ok : badX.ok badL := ⟨by decide, by decide, by decide, by decide, by decide, by decide, ⟨(fun h => nomatch h), by decide, by decide⟩, by decide, by decide, by decide, by decide, by decide, by decide, by decide⟩
theorem looseX_ok : looseX.ok looseL := ⟨by decide, by decide, by decide, by decide, by decide, by decide, ⟨fun _ => rfl, by decide, by decide⟩, by decide, by decide, by decide, by decide, by decide, by decide, by decide⟩
theorem zerosX_ok : zerosX.ok zerosL := ⟨by decide, by decide, by decide, by decide, by decide, by decide, trivial, by decide, by decide, by decide, by decide, by decide, by decide, by decide⟩
theorem ok_law {f f1 f2 f3 f4 f5 f6 : Addr} {fd fd1 fd2 fd3 fd4 fd5 fd6 : FuncData} (F : Fun K "law" "law" s_law f fd) (T : Txt mg)
    (C_l_generator : Cal P w K mg base 2 "_law_generator" ps_l_generator f1 fd1 (spNew K)) (C_l_link : Cal P w K mg base 3 "_law_link" ps_l_link f2 fd2 (spG K 20 P_link R_link))
    (C_l_great : Cal P w K mg base 3 "_law_great" ps_l_great f3 fd3 (spG K 20 P_none R_link)) (C_l_right : CalG P w K mg base 9 "_law_right" ps_l_right f4 fd4 (spG K 400 P_right R_right))
    (C_mended : Cal P w K mg base 8 "mended" ps_mended f5 fd5 (spR K R_mended)) (C_cost_of : Cal P w K mg base 8 "cost_of" ps_cost_of f6 fd6 (spR K R_cost_of)) :
    FnG P w K mg base 10 f fd ps_law (spLaw K) := by
  refine fnG_ok F sc_law (fun vs H Q E h => ?_) (fun cdv A outer s H E hr hgd => ⟨_, (pss_cons (ps_for PassesOwn.never rfl (pi_range1 (by rfl) T.m_range (pa_cons pe_int pa_nil)) (pg_name (i := 1) sc_law.nd rfl (Or.inl rfl)) (pss_cons (ps_set (i := 5) sc_law.nd rfl (.inl rfl) (pe_call C_l_generator.ok (hr.mono (by decide)) (by rfl) C_l_generator.g C_l_generator.kp C_l_generator.b .nil pass0 (pa_cons (pv 0) (pa_cons (pv 1) pa_nil))))
      (pss_one (ps_if (pt_not (pt_val (pe_callG C_l_right.ok (hr.mono (by decide)) hgd (by rfl) C_l_right.g C_l_right.kp C_l_right.b (pa_cons (pv 5) (pa_cons (pe_ifExp (pt_cmpR (op_eqD hr.units) (pv 1) pe_int (nomark _)) (pe_call C_l_great.ok (hr.mono (by decide)) (by rfl) C_l_great.g C_l_great.kp C_l_great.b .nil pass0 (pa_cons (pv 5) pa_nil)) (pe_call C_l_link.ok (hr.mono (by decide)) (by rfl) C_l_link.g C_l_link.kp C_l_link.b .nil pass0 (pa_cons (pv 5) (pa_cons pe_int pa_nil)))) pa_nil))))) (pss_one (ps_ret pe_bl)) pss_nil))))
      (pss_cons (ps_set (i := 2) sc_law.nd rfl (.inl rfl) (pe_tup (pa_cons (pe_tup (pa_cons pe_int (pa_cons pe_int pa_nil))) (pa_cons (pe_tup (pa_cons pe_int (pa_cons (pe_tup (pa_cons pe_str (pa_cons pe_int pa_nil))) (pa_cons pe_bl pa_nil)))) (pa_cons (pe_tup (pa_cons pe_int (pa_cons pe_int (pa_cons pe_int pa_nil)))) (pa_cons (pe_tup (pa_cons pe_int (pa_cons pe_int pa_nil))) pa_nil))))))
      (pss_cons (ps_if (pt_cmpR (op_neD hr.units) (pe_call C_mended.ok (hr.mono (by decide)) (by rfl) C_mended.g C_mended.kp C_mended.b .nil pass0 (pa_cons (pe_tup (pa_cons pe_int (pa_cons pe_int (pa_cons pe_int (pa_cons pe_int pa_nil))))) (pa_cons (pv 2) (pa_cons (pe_tup (pa_cons (pe_lst (pa_cons pe_str pa_nil)) (pa_cons (pe_tup (pa_cons pe_int (pa_cons pe_int (pa_cons pe_int (pa_cons pe_int pa_nil))))) pa_nil))) pa_nil)))) (pe_tup (pa_cons (pe_tup (pa_cons pe_int (pa_cons pe_int pa_nil))) (pa_cons (pe_tup (pa_cons pe_int (pa_cons pe_non (pa_cons pe_bl pa_nil)))) (pa_cons (pe_tup (pa_cons pe_int (pa_cons pe_int (pa_cons pe_int pa_nil)))) (pa_cons (pe_tup (pa_cons pe_int (pa_cons pe_int pa_nil))) pa_nil))))) (nomark _)) (pss_one (ps_ret pe_bl)) pss_nil)
      (pss_cons (ps_set (i := 3) sc_law.nd rfl (.inl rfl) (pe_tup (pa_cons (pe_tup (pa_cons pe_int (pa_cons pe_int pa_nil))) (pa_cons (pe_tup (pa_cons pe_int (pa_cons (pe_tup (pa_cons pe_str (pa_cons pe_int pa_nil))) (pa_cons pe_bl pa_nil)))) (pa_cons (pe_tup (pa_cons pe_int (pa_cons pe_int (pa_cons pe_int pa_nil)))) (pa_cons (pe_tup (pa_cons pe_int (pa_cons pe_int pa_nil))) pa_nil))))))
      (pss_cons (ps_if (pt_cmpR (op_neD hr.units) (pe_call C_mended.ok (hr.mono (by decide)) (by rfl) C_mended.g C_mended.kp C_mended.b .nil pass0 (pa_cons (pe_tup (pa_cons pe_int (pa_cons pe_int (pa_cons pe_int (pa_cons pe_int pa_nil))))) (pa_cons (pv 3) (pa_cons (pe_tup (pa_cons (pe_lst (pa_cons pe_str pa_nil)) (pa_cons (pe_tup (pa_cons pe_int (pa_cons pe_int (pa_cons pe_int (pa_cons pe_int pa_nil))))) pa_nil))) pa_nil)))) (pe_tup (pa_cons (pe_tup (pa_cons pe_int (pa_cons pe_int pa_nil))) (pa_cons (pe_tup (pa_cons pe_int (pa_cons pe_non (pa_cons pe_bl pa_nil)))) (pa_cons (pe_tup (pa_cons pe_int (pa_cons pe_int (pa_cons pe_int pa_nil)))) (pa_cons (pe_tup (pa_cons pe_int (pa_cons pe_int pa_nil))) pa_nil))))) (nomark _)) (pss_one (ps_ret pe_bl)) pss_nil)
      (pss_cons (ps_set (i := 4) sc_law.nd rfl (.inl rfl) (pe_tup (pa_cons (pe_tup (pa_cons pe_int (pa_cons pe_int pa_nil))) (pa_cons (pe_tup (pa_cons pe_int (pa_cons pe_non (pa_cons pe_bl pa_nil)))) (pa_cons (pe_tup (pa_cons pe_int (pa_cons pe_int (pa_cons pe_int pa_nil)))) (pa_cons (pe_tup (pa_cons pe_int (pa_cons pe_int pa_nil))) pa_nil))))))
      (pss_cons (ps_if (pt_cmpR (op_neD hr.units) (pe_call C_mended.ok (hr.mono (by decide)) (by rfl) C_mended.g C_mended.kp C_mended.b .nil pass0 (pa_cons (pe_tup (pa_cons pe_int (pa_cons pe_int (pa_cons pe_int (pa_cons pe_int pa_nil))))) (pa_cons (pv 4) (pa_cons (pe_tup (pa_cons (pe_lst pa_nil) (pa_cons (pe_tup (pa_cons pe_int (pa_cons pe_int (pa_cons pe_int (pa_cons pe_int pa_nil))))) pa_nil))) pa_nil)))) (pe_tup (pa_cons (pe_tup (pa_cons pe_int (pa_cons pe_int pa_nil))) (pa_cons (pe_tup (pa_cons pe_int (pa_cons pe_non (pa_cons pe_bl pa_nil)))) (pa_cons (pe_tup (pa_cons pe_int (pa_cons pe_int (pa_cons pe_int pa_nil)))) (pa_cons (pe_tup (pa_cons pe_int (pa_cons pe_int pa_nil))) pa_nil))))) (nomark _)) (pss_one (ps_ret pe_bl)) pss_nil)
      (pss_one (ps_ret (pe_cmpR (op_eqD hr.units) (pe_call C_cost_of.ok (hr.mono (by decide)) (by rfl) C_cost_of.g C_cost_of.kp C_cost_of.b .nil pass0 (pa_cons (pe_tup (pa_cons pe_int (pa_cons pe_int (pa_cons pe_int (pa_cons pe_int pa_nil))))) (pa_cons (pv 3) (pa_cons (pe_tup (pa_cons (pe_lst (pa_cons pe_str (pa_cons pe_str (pa_cons pe_str pa_nil)))) (pa_cons (pe_tup (pa_cons pe_int (pa_cons pe_int (pa_cons pe_int (pa_cons pe_int pa_nil))))) pa_nil))) pa_nil)))) pe_int (nomark _))))))))))), ?_⟩)
  · obtain ⟨a, ns, rfl, _⟩ := h
    rfl
  · rintro vs Q ⟨a, ns, rfl, hsq, q⟩
    refine c_forR ⟨3, rfl, by decide, by decide, ?_⟩
    have ds : ∀ {H' : Hp}, Same H H' → Dt K (Z0.vis H') (.ref a) (.list (ns.map .int)) := fun {H'} s => by
      rw [Z0_vis]
      exact .lst (s.seq hsq) (dts_ints ns)
    refine for_range (lo := 0) (fun i σ' H' => ∃ y1 y5 : Option V, σ' = [some (.ref a), y1, none, none, none, y5] ∧ Same H H') ⟨none, none, rfl, Same.refl _⟩ ?_ ?_
    · rintro i σ' H1 hi ⟨y1, y5, rfl, s1⟩
      have hi' : i < 3 := hi
      rw [show (0 : Int) + (i : Int) = (i : Int) by omega]
      refine c_nm [some (.ref a), some (.int (i : Int)), none, none, none, y5] rfl ?_
      refine c_asg ⟨_, rfl, _, rfl, Z0, 0, ns, i, Z0_ok 0 H1, .cons (ds s1) (.cons (.int _) .nil), fun p H2 x y s2 _ hp => ?_⟩
      rw [Z0_vis, Z0_vis] at s2
      refine c_is [some (.ref a), some (.int (i : Int)), none, none, none, some (.ref p)] rfl ?_
      have s12 := s1.trans s2
      have k2 : (Zg p).ok 2000 (upd H2 p (.lst [.int x, .int y, .int (1000 * (i : Int))])) := Zg_ok (by omega)
      have sv := Zg_same (o := .lst [.int x, .int y, .int (1000 * (i : Int))]) hp
      generalize upd H2 p (.lst [.int x, .int y, .int (1000 * (i : Int))]) = H3 at k2 sv
      have hbig : (2000 : Nat) + 420 ≤ big := by decide
      have fin : ∀ (r : PyData) (v : V) (H4 : Hp), R_link [] r → Same ((Zg p).vis H3) ((Zg p).vis H4) → (Zg p).ok 2020 H4 → Dt K ((Zg p).vis H4) v r → ∀ QQ : VK, (∀ H5, Same H H5 → QQ (.bl true) H5) → spG K 400 P_right R_right [.ref p, v] H4 QQ E0 := fun r v H4 hR s4 k4 d4 QQ qq => by
        obtain ⟨l, hl, rfl⟩ := hR
        refine ⟨Zg p, 2020, p, [v], [l.D], rfl, rfl, k4, by omega, .cons d4 .nil, ⟨l, hl, rfl⟩, fun r v H5 hr s5 k5 d5 => ?_⟩
        obtain rfl := hr
        have ev := d5.blE
        subst ev
        exact qq H5 (((s12.trans sv).trans (s4.trans s5)).trans vis_same)
      have fin2 : ∀ (H5 : Hp), Same H H5 → ∃ y1 y5 : Option V, ([some (.ref a), some (.int (i : Int)), none, none, none, some (.ref p)] : L2.St) = [some (.ref a), y1, none, none, none, y5] ∧ Same H H5 := fun H5 s5 => ⟨_, _, rfl, s5⟩
      refine ⟨_, rfl, ?_⟩
      refine c_evT (Z := Zg p) (M := (Zg p).vis H3) (n := 2000) (et_cmp (ev_op (K := K) (rv_eq (sh_int _) (sh_int _)) (ev_var rfl (.int _)) ev_int)) (Same.refl _) k2 fun H4 s4 k4 => ?_
      refine ite2 (fun e => ?_) (fun e => ?_)
      · refine cg_call (Z := Zg p) (n := 2000) rfl rfl k4 (by omega) ea_nil rfl fun r v H5 hR s5 k5 d5 => ?_
        exact fin r v H5 hR (s4.trans s5) k5 d5 _ fun H6 s6 => ⟨true, rfl, iteF (fin2 H6 s6)⟩
      · refine cg_call (Z := Zg p) (n := 2000) rfl rfl k4 (by omega) (ea_cons ev_int ea_nil) ⟨3, by decide, by decide, rfl⟩ fun r v H5 hR s5 k5 d5 => ?_
        exact fin r v H5 hR (s4.trans s5) k5 d5 _ fun H6 s6 => ⟨true, rfl, iteF (fin2 H6 s6)⟩
    · rintro σ' H1 ⟨y1, y5, rfl, s1⟩
      show tSeq _ _ _ [some (.ref a), y1, none, none, none, y5] H1
      refine c_bd (K := K) (Z := Z0) (M := Z0.vis H1) (r := .bool true) ?_ (Same.refl _) (Z0_ok 0 H1) fun v H2 _ _ d => by
        have ev := d.blE
        subst ev
        exact q H2
      -- a bad bit
      refine bd_asg (d := badX.D) (ev_tup (ea_cons (ev_tup (ea_cons ev_int (ea_cons ev_int ea_nil)) (by simp)) (ea_cons (ev_tup (ea_cons ev_int (ea_cons (ev_tup (ea_cons ev_str (ea_cons ev_int ea_nil)) (by simp)) (ea_cons ev_bl ea_nil))) (by simp))
        (ea_cons (ev_tup (ea_cons ev_int (ea_cons ev_int (ea_cons ev_int ea_nil))) (by simp)) (ea_cons (ev_tup (ea_cons ev_int (ea_cons ev_int ea_nil)) (by simp)) ea_nil)))) (by simp)) fun vb N s db => ?_
      refine c_isB [some (.ref a), y1, some vb, none, none, y5] rfl ?_
      refine bd_when (b := false) (et_is (et_cmp (ev_op (rv_ne (d := (mend badX ["clear"] 0 1 0 1).D) (e := (mend badX ["clear"] 0 1 0 1).D) (by decide +kernel) (by decide +kernel)) (ev_call (R := R_mended) ⟨badL, badX, ["clear"], 0, 1, 0, 1, badL_ok, badX_ok, ⟨by decide +kernel, by decide +kernel, by decide +kernel⟩, by decide +kernel, rfl, rfl⟩
        (ea_cons (ev_tup (ea_cons ev_int (ea_cons ev_int (ea_cons ev_int (ea_cons ev_int ea_nil)))) (by simp)) (ea_cons (ev_var rfl db) (ea_cons (ev_tup (ea_cons (ev_lst (ea_cons ev_str ea_nil) (by simp)) (ea_cons (ev_tup (ea_cons ev_int (ea_cons ev_int (ea_cons ev_int (ea_cons ev_int ea_nil)))) (by simp)) ea_nil)) (by simp)) ea_nil))))
        (ev_tup (ea_cons (ev_tup (ea_cons ev_int (ea_cons ev_int ea_nil)) (by simp)) (ea_cons (ev_tup (ea_cons ev_int (ea_cons ev_non (ea_cons ev_bl ea_nil))) (by simp)) (ea_cons (ev_tup (ea_cons ev_int (ea_cons ev_int (ea_cons ev_int ea_nil))) (by simp)) (ea_cons (ev_tup (ea_cons ev_int (ea_cons ev_int ea_nil)) (by simp)) ea_nil)))) (by simp)))) (by decide +kernel))
        (fun e => by cases e) (fun _ => ?_)
      -- loose
      refine bd_asg (d := looseX.D) (ev_tup (ea_cons (ev_tup (ea_cons ev_int (ea_cons ev_int ea_nil)) (by simp)) (ea_cons (ev_tup (ea_cons ev_int (ea_cons (ev_tup (ea_cons ev_str (ea_cons ev_int ea_nil)) (by simp)) (ea_cons ev_bl ea_nil))) (by simp))
        (ea_cons (ev_tup (ea_cons ev_int (ea_cons ev_int (ea_cons ev_int ea_nil))) (by simp)) (ea_cons (ev_tup (ea_cons ev_int (ea_cons ev_int ea_nil)) (by simp)) ea_nil)))) (by simp)) fun vo N2 s2 dlo => ?_
      refine c_isB [some (.ref a), y1, some vb, some vo, none, y5] rfl ?_
      refine bd_when (b := false) (et_is (et_cmp (ev_op (rv_ne (d := (mend looseX ["turn"] 0 0 0 1).D) (e := (mend looseX ["turn"] 0 0 0 1).D) (by decide +kernel) (by decide +kernel)) (ev_call (R := R_mended) ⟨looseL, looseX, ["turn"], 0, 0, 0, 1, looseL_ok, looseX_ok, ⟨by decide +kernel, by decide +kernel, by decide +kernel⟩, by decide +kernel, rfl, rfl⟩
        (ea_cons (ev_tup (ea_cons ev_int (ea_cons ev_int (ea_cons ev_int (ea_cons ev_int ea_nil)))) (by simp)) (ea_cons (ev_var rfl dlo) (ea_cons (ev_tup (ea_cons (ev_lst (ea_cons ev_str ea_nil) (by simp)) (ea_cons (ev_tup (ea_cons ev_int (ea_cons ev_int (ea_cons ev_int (ea_cons ev_int ea_nil)))) (by simp)) ea_nil)) (by simp)) ea_nil))))
        (ev_tup (ea_cons (ev_tup (ea_cons ev_int (ea_cons ev_int ea_nil)) (by simp)) (ea_cons (ev_tup (ea_cons ev_int (ea_cons ev_non (ea_cons ev_bl ea_nil))) (by simp)) (ea_cons (ev_tup (ea_cons ev_int (ea_cons ev_int (ea_cons ev_int ea_nil))) (by simp)) (ea_cons (ev_tup (ea_cons ev_int (ea_cons ev_int ea_nil)) (by simp)) ea_nil)))) (by simp)))) (by decide +kernel))
        (fun e => by cases e) (fun _ => ?_)
      -- zeros
      refine bd_asg (d := zerosX.D) (ev_tup (ea_cons (ev_tup (ea_cons ev_int (ea_cons ev_int ea_nil)) (by simp)) (ea_cons (ev_tup (ea_cons ev_int (ea_cons ev_non (ea_cons ev_bl ea_nil))) (by simp))
        (ea_cons (ev_tup (ea_cons ev_int (ea_cons ev_int (ea_cons ev_int ea_nil))) (by simp)) (ea_cons (ev_tup (ea_cons ev_int (ea_cons ev_int ea_nil)) (by simp)) ea_nil)))) (by simp)) fun vz N3 s3 dz => ?_
      refine c_isB [some (.ref a), y1, some vb, some vo, some vz, y5] rfl ?_
      refine bd_when (b := false) (et_is (et_cmp (ev_op (rv_ne (d := (mend zerosX [] 3 0 0 0).D) (e := (mend zerosX [] 3 0 0 0).D) (by decide +kernel) (by decide +kernel)) (ev_call (R := R_mended) ⟨zerosL, zerosX, [], 3, 0, 0, 0, zerosL_ok, zerosX_ok, ⟨by decide +kernel, by decide +kernel, by decide +kernel⟩, by decide +kernel, rfl, rfl⟩
        (ea_cons (ev_tup (ea_cons ev_int (ea_cons ev_int (ea_cons ev_int (ea_cons ev_int ea_nil)))) (by simp)) (ea_cons (ev_var rfl dz) (ea_cons (ev_tup (ea_cons (ev_lst ea_nil (by simp)) (ea_cons (ev_tup (ea_cons ev_int (ea_cons ev_int (ea_cons ev_int (ea_cons ev_int ea_nil)))) (by simp)) ea_nil)) (by simp)) ea_nil))))
        (ev_tup (ea_cons (ev_tup (ea_cons ev_int (ea_cons ev_int ea_nil)) (by simp)) (ea_cons (ev_tup (ea_cons ev_int (ea_cons ev_non (ea_cons ev_bl ea_nil))) (by simp)) (ea_cons (ev_tup (ea_cons ev_int (ea_cons ev_int (ea_cons ev_int ea_nil))) (by simp)) (ea_cons (ev_tup (ea_cons ev_int (ea_cons ev_int ea_nil)) (by simp)) ea_nil)))) (by simp)))) (by decide +kernel))
        (fun e => by cases e) (fun _ => ?_)
      -- the cost
      exact bd_ret (ev_eq (ev_op (rv_eq (d := .int 4) (sh_int _) (sh_int _)) (ev_call (R := R_cost_of) (r := .int 4) ⟨looseL, looseX, ["clear", "forget", "turn"], 0, 0, 0, 1, looseL_ok, looseX_ok, ⟨by decide +kernel, by decide +kernel, by decide +kernel⟩, by decide +kernel, rfl, rfl⟩
        (ea_cons (ev_tup (ea_cons ev_int (ea_cons ev_int (ea_cons ev_int (ea_cons ev_int ea_nil)))) (by simp)) (ea_cons (ev_var rfl (dlo.mono s3)) (ea_cons (ev_tup (ea_cons (ev_lst (ea_cons ev_str (ea_cons ev_str (ea_cons ev_str ea_nil))) (by simp)) (ea_cons (ev_tup (ea_cons ev_int (ea_cons ev_int (ea_cons ev_int (ea_cons ev_int ea_nil)))) (by simp)) ea_nil)) (by simp)) ea_nil)))) ev_int) (by rw [eqv_int]; rfl))
end
end Hw

set_option maxHeartbeats 4000000
/-! HwR: the call of the law at the top, where no repr is under way. -/
namespace Hw
open PySem PySem.Spec PyProof.Rows L2
section
variable {P : Program} {w : World} {K : PySem.W.Frag} {mg mb : Str → Option Value} {k : Nat} {fa a : Addr} {fd : FuncData} {x : Str} {sp : Sp} {s₁ : Shared} {vs : List Value} {ns : List Int} {H : Hp}
/-- what stands in the heap beside the script stands in the base -/
theorem base_dict (ha : s₁.heap.get? a = some { cls := .type "list", data := .seq vs.toArray }) (hA : ∀ b, H b ≠ none → b = a) {b : Addr} {o : Obj} {es : Array DictEntry} {ep : Nat} (e : s₁.heap.get? b = some o) (d : o.data = .dict es ep) : H b = none := by
  cases q : H b with
  | none => rfl
  | some u =>
    have ea := hA b (by rw [q]; exact fun z => nomatch z)
    rw [ea, ha] at e
    cases e
    cases d
theorem base_ns (ha : s₁.heap.get? a = some { cls := .type "list", data := .seq vs.toArray }) (hA : ∀ b, H b ≠ none → b = a) {b : Addr} {m : Str → Option Value} (h : s₁.heap.Ns b m) : (hidT s₁.heap H).Ns b m :=
  let ⟨o, es, ep, e, d, r⟩ := h
  ⟨o, es, ep, hidT_get e (base_dict ha hA e d), d, r⟩
/-- the law run from an abstract heap in which nothing but the script may be tracked -/
theorem law_from (KX : K.In s₁.heap) (hns : s₁.heap.Ns mainGlobals mg) (hb : s₁.heap.Ns builtinsNs mb) (hbb : ∀ x : Str, x ≠ "__name__" → mb x = bootBuiltins x) (hlim : s₁.heap.NoLimit) (hg : s₁.gens = #[])
    (ha : s₁.heap.get? a = some { cls := .type "list", data := .seq vs.toArray }) (hr : Room k callerA)
    (F : ∀ base : Heap, K.In base → base.Ns mainGlobals mg → FnG P w K mg base k fa fd [x] sp) (hbind : ∀ (s : Shared) (u : Value), BindsTo s fd ⟨[u], []⟩ [(x, u)])
    (hO : Only H) (hok : HOk P w H s₁.heap) (hA : ∀ b, H b ≠ none → b = a) (hK : H a ≠ none → K.lookup a = none) (hsp : sp [.ref a] H (fun v _ => v = .bl true) fun _ _ _ => False) :
    codeAny (model P w) callerA (.call (.ref fa) ⟨[.ref a], []⟩) (fun r s' => r = .ok (.ret (.bool true)) ∧ OldK s₁.heap s'.heap ∧ s'.os = s₁.os ∧ AllBare s'.gens) s₁ := by
  have inB : K.In (hidT s₁.heap H) := fun b o e => hidT_get (KX b o e) (by
    cases q : H b with
    | none => rfl
    | some u =>
      have ne : H b ≠ none := by rw [q]; exact fun z => nomatch z
      have ea := hA b ne
      subst ea
      rw [hK ne] at e
      cases e)
  obtain ⟨mc, l1, l2⟩ := hlim
  have md : Mod K mg (hidT s₁.heap H) := ⟨inB, base_ns ha hA hns, ⟨mb, base_ns ha hA hb, hbb⟩, ⟨mc, base_ns ha hA l1, l2⟩⟩
  have env : Env0 P w K mg (hidT s₁.heap H) callerA [] s₁ H := ⟨rfl, md, fun b o e => of_hidT e, Nat.le_of_eq (hidT_size _ _), trivial, (fun b h => by cases h), hok, .of_eq hg⟩
  refine codeAny_mono ((F _ inB (base_ns ha hA hns)).run callerA [] s₁ H ⟨[.ref a], []⟩ [.ref a] [.ref a] _ _ hr rfl env (hbind s₁ (.ref a)) (.cons rfl .nil) hsp) fun r s' h => ?_
  cases r with
  | error e => exact (show False from h).elim
  | ok fl =>
    cases fl with
    | next => exact (show False from h).elim
    | brk => exact (show False from h).elim
    | cont => exact (show False from h).elim
    | ret u =>
      obtain ⟨v, H', os, bare, un, hok', rv, q⟩ := h
      have q' : v = .bl true := q
      subst q'
      have eu : u = Value.bool true := rv
      subst eu
      refine ⟨rfl, OldK.of_keep fun b o e => ?_, os, bare⟩
      cases q : H b with
      | none => exact un.keep b o e q (by intro z; cases z) (by simp)
      | some t =>
        rcases hO b with z | ⟨ob, xs, z⟩
        · rw [q] at z
          cases z
        · have z2 := un.frzs b ob _ z
          obtain ⟨e1, _⟩ := hok b _ z
          obtain ⟨e2, _⟩ := hok' b _ z2
          rw [e] at e1
          cases e1
          exact e2
theorem law_callG (KX : K.In s₁.heap) (hns : s₁.heap.Ns mainGlobals mg) (hb : s₁.heap.Ns builtinsNs mb) (hbb : ∀ x : Str, x ≠ "__name__" → mb x = bootBuiltins x) (hlim : s₁.heap.NoLimit) (hg : s₁.gens = #[])
    (ha : s₁.heap.get? a = some { cls := .type "list", data := .seq vs.toArray }) (hi : IntsAre vs ns) (hl : ns.length ≤ sizeLine) (hr : Room k callerA)
    (F : ∀ base : Heap, K.In base → base.Ns mainGlobals mg → FnG P w K mg base k fa fd [x] sp) (hbind : ∀ (s : Shared) (u : Value), BindsTo s fd ⟨[u], []⟩ [(x, u)])
    (hsp : ∀ H : Hp, Only H → SqL K H a (ns.map V.int) → sp [.ref a] H (fun v _ => v = .bl true) fun _ _ _ => False) :
    codeAny (model P w) callerA (.call (.ref fa) ⟨[.ref a], []⟩) (fun r s' => r = .ok (.ret (.bool true)) ∧ OldK s₁.heap s'.heap ∧ s'.os = s₁.os ∧ AllBare s'.gens) s₁ := by
  have rv := vals_ints hi
  have lenV := hi.length
  cases hk : K.lookup a with
  | some o =>
    have e := KX a o hk
    rw [ha] at e
    cases e
    have none_ : ∀ (b : Addr) (u : HO), ¬ ((fun _ => Option.none : Hp) b = some u) := fun b u z => nomatch z
    exact law_from KX hns hb hbb hlim hg ha hr F hbind (H := fun _ => Option.none) (fun _ => .inl rfl) (fun b u z => (none_ b u z).elim) (fun b z => absurd rfl z) (fun z => absurd rfl z)
      (hsp _ (fun _ => .inl rfl) (.inr ⟨_, vs.toArray, _, hk, rfl, rfl, rfl, by rw [List.size_toArray, lenV]; exact hl, by simpa using rv⟩))
  | none =>
    let T : Hp := fun b => if b = a then some (.frz { cls := .type "list", data := .seq vs.toArray } (.lst (ns.map V.int))) else Option.none
    have tA : T a = some (.frz { cls := .type "list", data := .seq vs.toArray } (.lst (ns.map V.int))) := if_pos rfl
    have tN : ∀ b, b ≠ a → T b = Option.none := fun b hb => if_neg hb
    have only : Only T := fun b => by
      by_cases hb : b = a
      · subst hb
        exact .inr ⟨_, _, tA⟩
      · exact .inl (tN b hb)
    refine law_from KX hns hb hbb hlim hg ha hr F hbind (H := T) only (fun b u z => ?_) (fun b z => ?_) (fun _ => hk) (hsp T only (.inl (.inr ⟨_, tA⟩)))
    · by_cases hb : b = a
      · subst hb
        rw [tA] at z
        cases z
        exact ⟨ha, by rw [List.length_map]; exact hl, vs, _, rv, ha⟩
      · rw [tN b hb] at z
        cases z
    · by_cases hb : b = a
      · exact hb
      · exact absurd (tN b hb) z
end
/-- the goal that the head leaves, from the law's promise -/
theorem walk_ofG {l : PySem.W.OpenLaw} {n k : Nat} {q : Program} {loose : List Str} {XP : (Str → Option Value) → Heap → Prop} {YP : World → Heap → Prop} {d : DefRec} {K : Params → PySem.W.Frag} {sp : World → Sp} {x : Str}
    (hn : l.most = some n) (hn2 : n ≤ sizeLine) (hdf : d.params.defaults = []) (hr : Room k callerA) (hY : ∀ (w : World) (h : Heap), YP w h → (K w.params).In h)
    (F : ∀ (w : World) (mg : Str → Option Value) (fa : Addr) (h : Heap), (K w.params).In h → h.Ns mainGlobals mg → mg d.name = some (.ref fa) →
      ∃ fd : FuncData, (∀ (s : Shared) (u : Value), BindsTo s fd ⟨[u], []⟩ [(x, u)]) ∧ ∀ base : Heap, (K w.params).In base → base.Ns mainGlobals mg → FnG l.prog w (K w.params) mg base k fa fd [x] (sp w))
    (hsp : ∀ (w : World) (H : Hp) (a : Addr) (ns : List Int), ns.length ≤ n → Only H → SqL (K w.params) H a (ns.map V.int) → sp w [.ref a] H (fun v _ => v = .bl true) fun _ _ _ => False) :
    PySem.W.WalkO q loose XP YP l.row.toRowW d [] (fun f vs => PySem.call f vs) := by
  refine Att.attach_call hn hdf fun w s₀ s₁ mg mb fa o pm cd doc a vs ns G Y ho hd hcd hmg hobj hints hlen hg => ?_
  obtain ⟨fd, hb, hF⟩ := F w mg fa _ (hY w _ Y) G.T.g hmg
  exact law_callG (hY w _ Y) G.T.g G.T.b G.T.builtins G.T.nolimit hg hobj hints (Nat.le_trans hlen hn2) hr hF hb fun H hO hS => hsp w H a ns hlen hO hS
end Hw

set_option maxHeartbeats 4000000
/-! HwS: what the top has written. -/
namespace Hw
open PySem PySem.Spec L2
/-- a def of the text, found by its name -/
def Has (K : PySem.W.Frag) (x : Str) (st : Stmt) : Prop := ∃ (f : Addr) (fd : FuncData), PySem.W.nsIn K mainGlobals x = some (some (.ref f)) ∧ Fun K x x st f fd
theorem has_mk {K : PySem.W.Frag} {x : Str} {st : Stmt} {f : Addr} {oc kV dc pm cd ct : Value} {od an : Option Addr} {sl : Array (Option Value)} (a : PySem.W.nsIn K mainGlobals x = some (some (.ref f)))
    (l : K.lookup f = some ⟨oc, od, .func (PySem.W.fnOf x x (defArgs st) (defBody st) (defScope st) .none kV dc pm an cd ct), sl⟩) (c : PySem.W.codeIn K cd x = true) (k : PySem.W.keepIn K (.ref f) = true) : Has K x st :=
  ⟨f, _, a, fun_mk l c k⟩
/-- the built-ins' names are the built-ins' own -/
structure TxtK (K : PySem.W.Frag) : Prop where
  m_isinstance : PySem.W.nsIn K mainGlobals "isinstance" = some none
  m_len : PySem.W.nsIn K mainGlobals "len" = some none
  m_sum : PySem.W.nsIn K mainGlobals "sum" = some none
  m_int : PySem.W.nsIn K mainGlobals "int" = some none
  m_bool : PySem.W.nsIn K mainGlobals "bool" = some none
  m_str : PySem.W.nsIn K mainGlobals "str" = some none
  m_tuple : PySem.W.nsIn K mainGlobals "tuple" = some none
  m_list : PySem.W.nsIn K mainGlobals "list" = some none
  m_max : PySem.W.nsIn K mainGlobals "max" = some none
  m_min : PySem.W.nsIn K mainGlobals "min" = some none
  m_sorted : PySem.W.nsIn K mainGlobals "sorted" = some none
  m_repr : PySem.W.nsIn K mainGlobals "repr" = some none
  m_range : PySem.W.nsIn K mainGlobals "range" = some none
  m_enumerate : PySem.W.nsIn K mainGlobals "enumerate" = some none
theorem TxtK.txt {K : PySem.W.Frag} {h : Heap} {mg : Str → Option Value} (t : TxtK K) (X : K.In h) (G : h.Ns mainGlobals mg) : Txt mg := by
  constructor
  · exact PySem.W.mg_none_of X G t.m_isinstance
  · exact PySem.W.mg_none_of X G t.m_len
  · exact PySem.W.mg_none_of X G t.m_sum
  · exact PySem.W.mg_none_of X G t.m_int
  · exact PySem.W.mg_none_of X G t.m_bool
  · exact PySem.W.mg_none_of X G t.m_str
  · exact PySem.W.mg_none_of X G t.m_tuple
  · exact PySem.W.mg_none_of X G t.m_list
  · exact PySem.W.mg_none_of X G t.m_max
  · exact PySem.W.mg_none_of X G t.m_min
  · exact PySem.W.mg_none_of X G t.m_sorted
  · exact PySem.W.mg_none_of X G t.m_repr
  · exact PySem.W.mg_none_of X G t.m_range
  · exact PySem.W.mg_none_of X G t.m_enumerate
/-- the list of words stands as written -/
def HasWL (K : PySem.W.Frag) : Prop := ∃ aW : Addr, PySem.W.nsIn K mainGlobals "WORD_LISTS" = some (some (.ref aW)) ∧ ∀ M, Dt K M (.ref aW) (.list WL)
theorem tup_K {K : PySem.W.Frag} {t n : Nat} {od : Option Addr} {sl : Array (Option Value)} {its : Array Value} {xs : List V} {ds : List PyData} {M : Hp} (l : K.lookup t = some ⟨.type "tuple", od, .seq its n, sl⟩) (hz : its.size ≤ sizeLine) (r : Vals xs its.toList) (d : Dts K M xs ds) : Dt K M (.ref t) (.tuple ds) :=
  .tup (.inr ⟨_, its, n, l, rfl, rfl, hz, r⟩) d
theorem wl_mk {K : PySem.W.Frag} {aW t0 t1 t2 t3 t4 t5 t6 t7 n n0 n1 n2 n3 n4 n5 n6 n7 a1 b1 b2 c1 c2 c3 d1 d2 e1 f1 f2 g1 : Nat} {o0 o1 o2 o3 o4 o5 o6 o7 : Option Addr} {sl s0 s1 s2 s3 s4 s5 s6 s7 : Array (Option Value)}
    (h : PySem.W.nsIn K mainGlobals "WORD_LISTS" = some (some (.ref aW))) (l : K.lookup aW = some ⟨.type "list", none, .seq #[.ref t0, .ref t1, .ref t2, .ref t3, .ref t4, .ref t5, .ref t6, .ref t7] n, sl⟩)
    (l0 : K.lookup t0 = some ⟨.type "tuple", o0, .seq #[] n0, s0⟩) (l1 : K.lookup t1 = some ⟨.type "tuple", o1, .seq #[.str "clear" a1] n1, s1⟩) (l2 : K.lookup t2 = some ⟨.type "tuple", o2, .seq #[.str "clear" b1, .str "forget" b2] n2, s2⟩)
    (l3 : K.lookup t3 = some ⟨.type "tuple", o3, .seq #[.str "clear" c1, .str "forget" c2, .str "turn" c3] n3, s3⟩) (l4 : K.lookup t4 = some ⟨.type "tuple", o4, .seq #[.str "clear" d1, .str "turn" d2] n4, s4⟩) (l5 : K.lookup t5 = some ⟨.type "tuple", o5, .seq #[.str "forget" e1] n5, s5⟩)
    (l6 : K.lookup t6 = some ⟨.type "tuple", o6, .seq #[.str "forget" f1, .str "turn" f2] n6, s6⟩) (l7 : K.lookup t7 = some ⟨.type "tuple", o7, .seq #[.str "turn" g1] n7, s7⟩) : HasWL K := by
  refine ⟨aW, h, fun M => ?_⟩
  have z : ∀ m : Nat, m ≤ 10 → m ≤ sizeLine := fun m e => sz (by omega)
  refine .lst (xs := [.ref t0, .ref t1, .ref t2, .ref t3, .ref t4, .ref t5, .ref t6, .ref t7]) (.inr ⟨_, _, n, l, rfl, rfl, rfl, z _ (by simp), .cons rfl (.cons rfl (.cons rfl (.cons rfl (.cons rfl (.cons rfl (.cons rfl (.cons rfl .nil)))))))⟩) ?_
  refine .cons (tup_K (xs := []) l0 (z _ (by simp)) .nil .nil) (.cons (tup_K (xs := [.str "clear"]) l1 (z _ (by simp)) (.cons ⟨_, rfl⟩ .nil) (.cons (.str _) .nil)) (.cons (tup_K (xs := [.str "clear", .str "forget"]) l2 (z _ (by simp)) (.cons ⟨_, rfl⟩ (.cons ⟨_, rfl⟩ .nil)) (.cons (.str _) (.cons (.str _) .nil)))
    (.cons (tup_K (xs := [.str "clear", .str "forget", .str "turn"]) l3 (z _ (by simp)) (.cons ⟨_, rfl⟩ (.cons ⟨_, rfl⟩ (.cons ⟨_, rfl⟩ .nil))) (.cons (.str _) (.cons (.str _) (.cons (.str _) .nil)))) (.cons (tup_K (xs := [.str "clear", .str "turn"]) l4 (z _ (by simp)) (.cons ⟨_, rfl⟩ (.cons ⟨_, rfl⟩ .nil)) (.cons (.str _) (.cons (.str _) .nil)))
      (.cons (tup_K (xs := [.str "forget"]) l5 (z _ (by simp)) (.cons ⟨_, rfl⟩ .nil) (.cons (.str _) .nil)) (.cons (tup_K (xs := [.str "forget", .str "turn"]) l6 (z _ (by simp)) (.cons ⟨_, rfl⟩ (.cons ⟨_, rfl⟩ .nil)) (.cons (.str _) (.cons (.str _) .nil))) (.cons (tup_K (xs := [.str "turn"]) l7 (z _ (by simp)) (.cons ⟨_, rfl⟩ .nil) (.cons (.str _) .nil)) .nil)))))))
/-- keywords in the order mending, contents, link -/
theorem kb_mk {K : PySem.W.Frag} {x : Str} {st : Stmt} {f : Addr} {fd : FuncData} {ps ks : List Str} (F : Fun K x x st f fd)
    (h : ∀ (kV doc pm : Value) (an : Option Addr) (cdv ct : Value) (us ws : List Value), (gK us ws).length = ps.length → bindArgs (PySem.W.fnOf x x (defArgs st) (defBody st) (defScope st) .none kV doc pm an cdv ct) ⟨us, ks.zip ws⟩ = pure (ps.zip (gK us ws))) : KBinds K fd ps ks gK gV := by
  obtain ⟨oc, od, kV, doc, pm, an, cdv, ct, osl, rfl, lk, hcd⟩ := F.ex
  refine ⟨fun s us ws _ hl => .of_eq (h kV doc pm an cdv ct us ws hl), fun r q => ?_⟩
  exact r.append q.reverse
theorem three (us ws : List Value) (h : (gK us ws).length = 3) : (us = [] ∧ ∃ a b c, ws = [a, b, c]) ∨ (∃ u, us = [u] ∧ ∃ a b, ws = [a, b]) ∨ (∃ u v, us = [u, v] ∧ ∃ a, ws = [a]) ∨ ∃ u v t, us = [u, v, t] ∧ ws = [] := by
  have h' : us.length + ws.length = 3 := by
    rw [← h]
    unfold gK
    rw [List.length_append, List.length_reverse]
  match us, ws, h' with
  | [], [a, b, c], _ => exact .inl ⟨rfl, _, _, _, rfl⟩
  | [u], [a, b], _ => exact .inr (.inl ⟨_, rfl, _, _, rfl⟩)
  | [u, v], [a], _ => exact .inr (.inr (.inl ⟨_, _, rfl, _, rfl⟩))
  | [u, v, t], [], _ => exact .inr (.inr (.inr ⟨_, _, _, rfl, rfl⟩))
  | [], [], h => simp at h
  | [], [_], h => simp at h
  | [], [_, _], h => simp at h
  | [], _ :: _ :: _ :: _ :: _, h => simp at h
  | [_], [], h => simp at h
  | [_], [_], h => simp at h
  | [_], _ :: _ :: _ :: _, h => simp only [List.length_cons, List.length_nil] at h; omega
  | [_, _], [], h => simp at h
  | [_, _], _ :: _ :: _, h => simp only [List.length_cons, List.length_nil] at h; omega
  | [_, _, _], _ :: _, h => simp only [List.length_cons, List.length_nil] at h; omega
  | _ :: _ :: _ :: _ :: _, ws, h => simp only [List.length_cons] at h; omega
theorem kb_mended {K : PySem.W.Frag} {f : Addr} {fd : FuncData} (F : Fun K "mended" "mended" s_mended f fd) : KBinds K fd ps_mended ksM gK gV := kb_mk F fun _ _ _ _ _ _ us ws hl => by
  rcases three us ws hl with ⟨rfl, a, b, c, rfl⟩ | ⟨u, rfl, a, b, rfl⟩ | ⟨u, v, rfl, a, rfl⟩ | ⟨u, v, t, rfl, rfl⟩ <;> rfl
theorem kb_cost_of {K : PySem.W.Frag} {f : Addr} {fd : FuncData} (F : Fun K "cost_of" "cost_of" s_cost_of f fd) : KBinds K fd ps_cost_of ksM gK gV := kb_mk F fun _ _ _ _ _ _ us ws hl => by
  rcases three us ws hl with ⟨rfl, a, b, c, rfl⟩ | ⟨u, rfl, a, b, rfl⟩ | ⟨u, v, rfl, a, rfl⟩ | ⟨u, v, t, rfl, rfl⟩ <;> rfl
theorem kb_is_mending {K : PySem.W.Frag} {f : Addr} {fd : FuncData} (F : Fun K "is_mending" "is_mending" s_is_mending f fd) : KBinds K fd ps_is_mending ksV gK gV := kb_mk F fun _ _ _ _ _ _ us ws hl => by
  rcases three us ws hl with ⟨rfl, a, b, c, rfl⟩ | ⟨u, rfl, a, b, rfl⟩ | ⟨u, v, rfl, a, rfl⟩ | ⟨u, v, t, rfl, rfl⟩ <;> rfl
end Hw

set_option maxHeartbeats 4000000
/-! HwS: all defs, from what the top has written. -/
namespace Hw
open PySem PySem.Spec L2
theorem all_mk {l : PySem.W.OpenLaw} {w : World} {K : PySem.W.Frag} {h : Heap} {mg : Str → Option Value} {fa : Addr} (X : K.In h) (G : h.Ns mainGlobals mg) (hfa : mg "law" = some (.ref fa)) (hT : TxtK K) (hW : HasWL K)
    (h_is_whole : Has K "is_whole" s_is_whole) (h_is_between : Has K "is_between" s_is_between) (h_link_fits : Has K "link_fits" s_link_fits) (h_check_link : Has K "check_link" s_check_link) (h_bit_fits : Has K "bit_fits" s_bit_fits) (h_counts_fit : Has K "counts_fit" s_counts_fit) (h_lot_fits : Has K "lot_fits" s_lot_fits) (h_hosts_fit : Has K "hosts_fit" s_hosts_fit) (h_contents_fit : Has K "contents_fit" s_contents_fit) (h_check_contents : Has K "check_contents" s_check_contents) (h_old_of : Has K "old_of" s_old_of) (h_answers_of : Has K "answers_of" s_answers_of) (h_words_fit : Has K "words_fit" s_words_fit) (h_takable : Has K "takable" s_takable) (h_taking_fits : Has K "taking_fits" s_taking_fits) (h_mending_fits : Has K "mending_fits" s_mending_fits) (h_mended_in : Has K "mended_in" s_mended_in) (h_cost_in : Has K "cost_in" s_cost_in) (h_is_mending : Has K "is_mending" s_is_mending) (h_check_mending : Has K "check_mending" s_check_mending) (h_mended : Has K "mended" s_mended) (h_cost_of : Has K "cost_of" s_cost_of) (h_l_cell : Has K "_law_cell" s_l_cell) (h_l_hash : Has K "_law_hash" s_l_hash) (h_l_random : Has K "_law_random" s_l_random) (h_l_link : Has K "_law_link" s_l_link) (h_l_great : Has K "_law_great" s_l_great) (h_l_few : Has K "_law_few" s_l_few) (h_l_contents : Has K "_law_contents" s_l_contents) (h_l_mended : Has K "_law_mended" s_l_mended) (h_l_word_lists : Has K "_law_word_lists" s_l_word_lists) (h_l_fits : Has K "_law_fits" s_l_fits) (h_l_bent : Has K "_law_bent" s_l_bent) (h_l_generator : Has K "_law_generator" s_l_generator) (h_l_right : Has K "_law_right" s_l_right) (h_law : Has K "law" s_law) :
    ∃ fd : FuncData, (∀ (s : Shared) (v : Value), BindsTo s fd ⟨[v], []⟩ [("_law_script", v)]) ∧ ∀ base : Heap, K.In base → base.Ns mainGlobals mg → FnG l.prog w K mg base 10 fa fd ["_law_script"] (spLaw K) := by
  have T : Txt mg := hT.txt X G
  obtain ⟨aW, aWL, dWL⟩ := hW
  have gWL : mg "WORD_LISTS" = some (.ref aW) := PySem.W.mg_of X G aWL
  obtain ⟨f_is_whole, fd_is_whole, a_is_whole, F_is_whole⟩ := h_is_whole
  obtain ⟨f_is_between, fd_is_between, a_is_between, F_is_between⟩ := h_is_between
  obtain ⟨f_link_fits, fd_link_fits, a_link_fits, F_link_fits⟩ := h_link_fits
  obtain ⟨f_check_link, fd_check_link, a_check_link, F_check_link⟩ := h_check_link
  obtain ⟨f_bit_fits, fd_bit_fits, a_bit_fits, F_bit_fits⟩ := h_bit_fits
  obtain ⟨f_counts_fit, fd_counts_fit, a_counts_fit, F_counts_fit⟩ := h_counts_fit
  obtain ⟨f_lot_fits, fd_lot_fits, a_lot_fits, F_lot_fits⟩ := h_lot_fits
  obtain ⟨f_hosts_fit, fd_hosts_fit, a_hosts_fit, F_hosts_fit⟩ := h_hosts_fit
  obtain ⟨f_contents_fit, fd_contents_fit, a_contents_fit, F_contents_fit⟩ := h_contents_fit
  obtain ⟨f_check_contents, fd_check_contents, a_check_contents, F_check_contents⟩ := h_check_contents
  obtain ⟨f_old_of, fd_old_of, a_old_of, F_old_of⟩ := h_old_of
  obtain ⟨f_answers_of, fd_answers_of, a_answers_of, F_answers_of⟩ := h_answers_of
  obtain ⟨f_words_fit, fd_words_fit, a_words_fit, F_words_fit⟩ := h_words_fit
  obtain ⟨f_takable, fd_takable, a_takable, F_takable⟩ := h_takable
  obtain ⟨f_taking_fits, fd_taking_fits, a_taking_fits, F_taking_fits⟩ := h_taking_fits
  obtain ⟨f_mending_fits, fd_mending_fits, a_mending_fits, F_mending_fits⟩ := h_mending_fits
  obtain ⟨f_mended_in, fd_mended_in, a_mended_in, F_mended_in⟩ := h_mended_in
  obtain ⟨f_cost_in, fd_cost_in, a_cost_in, F_cost_in⟩ := h_cost_in
  obtain ⟨f_is_mending, fd_is_mending, a_is_mending, F_is_mending⟩ := h_is_mending
  obtain ⟨f_check_mending, fd_check_mending, a_check_mending, F_check_mending⟩ := h_check_mending
  obtain ⟨f_mended, fd_mended, a_mended, F_mended⟩ := h_mended
  obtain ⟨f_cost_of, fd_cost_of, a_cost_of, F_cost_of⟩ := h_cost_of
  obtain ⟨f_l_cell, fd_l_cell, a_l_cell, F_l_cell⟩ := h_l_cell
  obtain ⟨f_l_hash, fd_l_hash, a_l_hash, F_l_hash⟩ := h_l_hash
  obtain ⟨f_l_random, fd_l_random, a_l_random, F_l_random⟩ := h_l_random
  obtain ⟨f_l_link, fd_l_link, a_l_link, F_l_link⟩ := h_l_link
  obtain ⟨f_l_great, fd_l_great, a_l_great, F_l_great⟩ := h_l_great
  obtain ⟨f_l_few, fd_l_few, a_l_few, F_l_few⟩ := h_l_few
  obtain ⟨f_l_contents, fd_l_contents, a_l_contents, F_l_contents⟩ := h_l_contents
  obtain ⟨f_l_mended, fd_l_mended, a_l_mended, F_l_mended⟩ := h_l_mended
  obtain ⟨f_l_word_lists, fd_l_word_lists, a_l_word_lists, F_l_word_lists⟩ := h_l_word_lists
  obtain ⟨f_l_fits, fd_l_fits, a_l_fits, F_l_fits⟩ := h_l_fits
  obtain ⟨f_l_bent, fd_l_bent, a_l_bent, F_l_bent⟩ := h_l_bent
  obtain ⟨f_l_generator, fd_l_generator, a_l_generator, F_l_generator⟩ := h_l_generator
  obtain ⟨f_l_right, fd_l_right, a_l_right, F_l_right⟩ := h_l_right
  obtain ⟨f_law, fd_law, a_law, F_law⟩ := h_law
  have e := hfa.symm.trans (PySem.W.mg_of X G a_law)
  cases e
  have hb : ∀ (s : Shared) (v : Value), BindsTo s fd_law ⟨[v], []⟩ [("_law_script", v)] := by
    obtain ⟨oc, od, kV, doc, pm, an, cdv, ct, osl, rfl, lk, hcd⟩ := F_law.ex
    exact fun s v => .of_eq rfl
  refine ⟨fd_law, hb, fun base _ _ => ?_⟩
  have b_is_whole : Binds K fd_is_whole ps_is_whole [] := F_is_whole.binds fun _ _ _ _ _ _ us hl => match us, hl with | [_], _ => rfl
  have C_is_whole : Cal l.prog w K mg base 1 "is_whole" ps_is_whole f_is_whole fd_is_whole (spR K R_is_whole) := ⟨PySem.W.mg_of X G a_is_whole, F_is_whole.kp, b_is_whole, ok_is_whole F_is_whole T⟩
  have b_is_between : Binds K fd_is_between ps_is_between [] := F_is_between.binds fun _ _ _ _ _ _ us hl => match us, hl with | [_, _, _], _ => rfl
  have C_is_between : Cal l.prog w K mg base 2 "is_between" ps_is_between f_is_between fd_is_between (spR K R_is_between) := ⟨PySem.W.mg_of X G a_is_between, F_is_between.kp, b_is_between, ok_is_between F_is_between T C_is_whole⟩
  have b_link_fits : Binds K fd_link_fits ps_link_fits [] := F_link_fits.binds fun _ _ _ _ _ _ us hl => match us, hl with | [_], _ => rfl
  have C_link_fits : Cal l.prog w K mg base 3 "link_fits" ps_link_fits f_link_fits fd_link_fits (spR K R_link_fits) := ⟨PySem.W.mg_of X G a_link_fits, F_link_fits.kp, b_link_fits, ok_link_fits F_link_fits T C_is_between⟩
  have b_check_link : Binds K fd_check_link ps_check_link [] := F_check_link.binds fun _ _ _ _ _ _ us hl => match us, hl with | [_], _ => rfl
  have C_check_link : Cal l.prog w K mg base 4 "check_link" ps_check_link f_check_link fd_check_link (spR K R_check_link) := ⟨PySem.W.mg_of X G a_check_link, F_check_link.kp, b_check_link, ok_check_link F_check_link C_link_fits⟩
  have b_bit_fits : Binds K fd_bit_fits ps_bit_fits [] := F_bit_fits.binds fun _ _ _ _ _ _ us hl => match us, hl with | [_], _ => rfl
  have C_bit_fits : Cal l.prog w K mg base 3 "bit_fits" ps_bit_fits f_bit_fits fd_bit_fits (spR K R_bit_fits) := ⟨PySem.W.mg_of X G a_bit_fits, F_bit_fits.kp, b_bit_fits, ok_bit_fits F_bit_fits C_is_between⟩
  have b_counts_fit : Binds K fd_counts_fit ps_counts_fit [] := F_counts_fit.binds fun _ _ _ _ _ _ us hl => match us, hl with | [_, _, _], _ => rfl
  have C_counts_fit : Cal l.prog w K mg base 3 "counts_fit" ps_counts_fit f_counts_fit fd_counts_fit (spR K R_counts_fit) := ⟨PySem.W.mg_of X G a_counts_fit, F_counts_fit.kp, b_counts_fit, ok_counts_fit F_counts_fit T C_is_between⟩
  have b_lot_fits : Binds K fd_lot_fits ps_lot_fits [] := F_lot_fits.binds fun _ _ _ _ _ _ us hl => match us, hl with | [_, _, _], _ => rfl
  have C_lot_fits : Cal l.prog w K mg base 3 "lot_fits" ps_lot_fits f_lot_fits fd_lot_fits (spR K R_lot_fits) := ⟨PySem.W.mg_of X G a_lot_fits, F_lot_fits.kp, b_lot_fits, ok_lot_fits F_lot_fits T C_is_between⟩
  have b_hosts_fit : Binds K fd_hosts_fit ps_hosts_fit [] := F_hosts_fit.binds fun _ _ _ _ _ _ us hl => match us, hl with | [_, _, _], _ => rfl
  have C_hosts_fit : Cal l.prog w K mg base 4 "hosts_fit" ps_hosts_fit f_hosts_fit fd_hosts_fit (spR K R_hosts_fit) := ⟨PySem.W.mg_of X G a_hosts_fit, F_hosts_fit.kp, b_hosts_fit, ok_hosts_fit F_hosts_fit T C_is_between C_bit_fits C_lot_fits⟩
  have b_contents_fit : Binds K fd_contents_fit ps_contents_fit [] := F_contents_fit.binds fun _ _ _ _ _ _ us hl => match us, hl with | [_, _], _ => rfl
  have C_contents_fit : Cal l.prog w K mg base 5 "contents_fit" ps_contents_fit f_contents_fit fd_contents_fit (spR K R_contents_fit) := ⟨PySem.W.mg_of X G a_contents_fit, F_contents_fit.kp, b_contents_fit, ok_contents_fit F_contents_fit T C_hosts_fit C_counts_fit⟩
  have b_check_contents : Binds K fd_check_contents ps_check_contents [] := F_check_contents.binds fun _ _ _ _ _ _ us hl => match us, hl with | [_, _], _ => rfl
  have C_check_contents : Cal l.prog w K mg base 6 "check_contents" ps_check_contents f_check_contents fd_check_contents (spR K R_check_contents) := ⟨PySem.W.mg_of X G a_check_contents, F_check_contents.kp, b_check_contents, ok_check_contents F_check_contents C_check_link C_contents_fit⟩
  have b_old_of : Binds K fd_old_of ps_old_of [] := F_old_of.binds fun _ _ _ _ _ _ us hl => match us, hl with | [_, _], _ => rfl
  have C_old_of : Cal l.prog w K mg base 1 "old_of" ps_old_of f_old_of fd_old_of (spR K R_old_of) := ⟨PySem.W.mg_of X G a_old_of, F_old_of.kp, b_old_of, ok_old_of F_old_of⟩
  have b_answers_of : Binds K fd_answers_of ps_answers_of [] := F_answers_of.binds fun _ _ _ _ _ _ us hl => match us, hl with | [_, _], _ => rfl
  have C_answers_of : Cal l.prog w K mg base 1 "answers_of" ps_answers_of f_answers_of fd_answers_of (spR K R_answers_of) := ⟨PySem.W.mg_of X G a_answers_of, F_answers_of.kp, b_answers_of, ok_answers_of F_answers_of⟩
  have b_words_fit : Binds K fd_words_fit ps_words_fit [] := F_words_fit.binds fun _ _ _ _ _ _ us hl => match us, hl with | [_], _ => rfl
  have C_words_fit : Cal l.prog w K mg base 1 "words_fit" ps_words_fit f_words_fit fd_words_fit (spR K R_words_fit) := ⟨PySem.W.mg_of X G a_words_fit, F_words_fit.kp, b_words_fit, ok_words_fit F_words_fit T gWL dWL⟩
  have b_takable : Binds K fd_takable ps_takable [] := F_takable.binds fun _ _ _ _ _ _ us hl => match us, hl with | [_], _ => rfl
  have C_takable : Cal l.prog w K mg base 2 "takable" ps_takable f_takable fd_takable (spR K R_takable) := ⟨PySem.W.mg_of X G a_takable, F_takable.kp, b_takable, ok_takable F_takable C_old_of C_answers_of⟩
  have b_taking_fits : Binds K fd_taking_fits ps_taking_fits [] := F_taking_fits.binds fun _ _ _ _ _ _ us hl => match us, hl with | [_, _], _ => rfl
  have C_taking_fits : Cal l.prog w K mg base 3 "taking_fits" ps_taking_fits f_taking_fits fd_taking_fits (spR K R_taking_fits) := ⟨PySem.W.mg_of X G a_taking_fits, F_taking_fits.kp, b_taking_fits, ok_taking_fits F_taking_fits T C_takable C_is_between⟩
  have b_mending_fits : Binds K fd_mending_fits ps_mending_fits [] := F_mending_fits.binds fun _ _ _ _ _ _ us hl => match us, hl with | [_, _], _ => rfl
  have C_mending_fits : Cal l.prog w K mg base 4 "mending_fits" ps_mending_fits f_mending_fits fd_mending_fits (spR K R_mending_fits) := ⟨PySem.W.mg_of X G a_mending_fits, F_mending_fits.kp, b_mending_fits, ok_mending_fits F_mending_fits T C_words_fit C_taking_fits⟩
  have b_mended_in : Binds K fd_mended_in ps_mended_in [] := F_mended_in.binds fun _ _ _ _ _ _ us hl => match us, hl with | [_, _], _ => rfl
  have C_mended_in : Cal l.prog w K mg base 1 "mended_in" ps_mended_in f_mended_in fd_mended_in (spR K R_mended_in) := ⟨PySem.W.mg_of X G a_mended_in, F_mended_in.kp, b_mended_in, ok_mended_in F_mended_in⟩
  have b_cost_in : Binds K fd_cost_in ps_cost_in [] := F_cost_in.binds fun _ _ _ _ _ _ us hl => match us, hl with | [_], _ => rfl
  have C_cost_in : Cal l.prog w K mg base 1 "cost_in" ps_cost_in f_cost_in fd_cost_in (spR K R_cost_in) := ⟨PySem.W.mg_of X G a_cost_in, F_cost_in.kp, b_cost_in, ok_cost_in F_cost_in T⟩
  have b_is_mending : Binds K fd_is_mending ps_is_mending [] := F_is_mending.binds fun _ _ _ _ _ _ us hl => match us, hl with | [_, _, _], _ => rfl
  have C_is_mending : Cal l.prog w K mg base 7 "is_mending" ps_is_mending f_is_mending fd_is_mending (spR K R_is_mending) := ⟨PySem.W.mg_of X G a_is_mending, F_is_mending.kp, b_is_mending, ok_is_mending F_is_mending C_check_contents C_mending_fits⟩
  have b_check_mending : Binds K fd_check_mending ps_check_mending [] := F_check_mending.binds fun _ _ _ _ _ _ us hl => match us, hl with | [_, _, _], _ => rfl
  have C_check_mending : Cal l.prog w K mg base 7 "check_mending" ps_check_mending f_check_mending fd_check_mending (spR K R_check_mending) := ⟨PySem.W.mg_of X G a_check_mending, F_check_mending.kp, b_check_mending, ok_check_mending F_check_mending C_check_contents C_mending_fits⟩
  have b_mended : Binds K fd_mended ps_mended [] := F_mended.binds fun _ _ _ _ _ _ us hl => match us, hl with | [_, _, _], _ => rfl
  have C_mended : Cal l.prog w K mg base 8 "mended" ps_mended f_mended fd_mended (spR K R_mended) := ⟨PySem.W.mg_of X G a_mended, F_mended.kp, b_mended, ok_mended F_mended C_check_mending C_mended_in⟩
  have b_cost_of : Binds K fd_cost_of ps_cost_of [] := F_cost_of.binds fun _ _ _ _ _ _ us hl => match us, hl with | [_, _, _], _ => rfl
  have C_cost_of : Cal l.prog w K mg base 8 "cost_of" ps_cost_of f_cost_of fd_cost_of (spR K R_cost_of) := ⟨PySem.W.mg_of X G a_cost_of, F_cost_of.kp, b_cost_of, ok_cost_of F_cost_of C_check_mending C_cost_in⟩
  have b_l_cell : Binds K fd_l_cell ps_l_cell [] := F_l_cell.binds fun _ _ _ _ _ _ us hl => match us, hl with | [_, _], _ => rfl
  have C_l_cell : Cal l.prog w K mg base 1 "_law_cell" ps_l_cell f_l_cell fd_l_cell (spR K R_cell) := ⟨PySem.W.mg_of X G a_l_cell, F_l_cell.kp, b_l_cell, ok_l_cell F_l_cell T⟩
  have b_l_hash : Binds K fd_l_hash ps_l_hash [] := F_l_hash.binds fun _ _ _ _ _ _ us hl => match us, hl with | [_, _], _ => rfl
  have C_l_hash : Cal l.prog w K mg base 1 "_law_hash" ps_l_hash f_l_hash fd_l_hash (spR K R_hash) := ⟨PySem.W.mg_of X G a_l_hash, F_l_hash.kp, b_l_hash, ok_l_hash F_l_hash T⟩
  have b_l_random : Binds K fd_l_random ps_l_random [] := F_l_random.binds fun _ _ _ _ _ _ us hl => match us, hl with | [_, _], _ => rfl
  have C_l_random : Cal l.prog w K mg base 2 "_law_random" ps_l_random f_l_random fd_l_random (spG K 5 P_rnd R_rnd) := ⟨PySem.W.mg_of X G a_l_random, F_l_random.kp, b_l_random, ok_l_random F_l_random T C_l_hash⟩
  have b_l_link : Binds K fd_l_link ps_l_link [] := F_l_link.binds fun _ _ _ _ _ _ us hl => match us, hl with | [_, _], _ => rfl
  have C_l_link : Cal l.prog w K mg base 3 "_law_link" ps_l_link f_l_link fd_l_link (spG K 20 P_link R_link) := ⟨PySem.W.mg_of X G a_l_link, F_l_link.kp, b_l_link, ok_l_link F_l_link C_l_random⟩
  have b_l_great : Binds K fd_l_great ps_l_great [] := F_l_great.binds fun _ _ _ _ _ _ us hl => match us, hl with | [_], _ => rfl
  have C_l_great : Cal l.prog w K mg base 3 "_law_great" ps_l_great f_l_great fd_l_great (spG K 20 P_none R_link) := ⟨PySem.W.mg_of X G a_l_great, F_l_great.kp, b_l_great, ok_l_great F_l_great C_l_random⟩
  have b_l_few : Binds K fd_l_few ps_l_few [] := F_l_few.binds fun _ _ _ _ _ _ us hl => match us, hl with | [_, _], _ => rfl
  have C_l_few : Cal l.prog w K mg base 3 "_law_few" ps_l_few f_l_few fd_l_few (spG K 10 P_few R_few) := ⟨PySem.W.mg_of X G a_l_few, F_l_few.kp, b_l_few, ok_l_few F_l_few T C_l_random⟩
  have b_l_contents : Binds K fd_l_contents ps_l_contents [] := F_l_contents.binds fun _ _ _ _ _ _ us hl => match us, hl with | [_, _], _ => rfl
  have C_l_contents : Cal l.prog w K mg base 4 "_law_contents" ps_l_contents f_l_contents fd_l_contents (spG K 110 P_contents R_contents) := ⟨PySem.W.mg_of X G a_l_contents, F_l_contents.kp, b_l_contents, ok_l_contents F_l_contents T C_l_random C_l_few⟩
  have b_l_mended : Binds K fd_l_mended ps_l_mended [] := F_l_mended.binds fun _ _ _ _ _ _ us hl => match us, hl with | [_, _, _], _ => rfl
  have C_l_mended : Cal l.prog w K mg base 1 "_law_mended" ps_l_mended f_l_mended fd_l_mended (spR K R_l_mended) := ⟨PySem.W.mg_of X G a_l_mended, F_l_mended.kp, b_l_mended, ok_l_mended F_l_mended⟩
  have b_l_word_lists : Binds K fd_l_word_lists ps_l_word_lists [] := F_l_word_lists.binds fun _ _ _ _ _ _ us hl => match us, hl with | [], _ => rfl
  have C_l_word_lists : Cal l.prog w K mg base 1 "_law_word_lists" ps_l_word_lists f_l_word_lists fd_l_word_lists (spR K R_word_lists) := ⟨PySem.W.mg_of X G a_l_word_lists, F_l_word_lists.kp, b_l_word_lists, ok_l_word_lists F_l_word_lists T⟩
  have b_l_fits : Binds K fd_l_fits ps_l_fits [] := F_l_fits.binds fun _ _ _ _ _ _ us hl => match us, hl with | [_, _], _ => rfl
  have C_l_fits : Cal l.prog w K mg base 2 "_law_fits" ps_l_fits f_l_fits fd_l_fits (spR K R_l_fits) := ⟨PySem.W.mg_of X G a_l_fits, F_l_fits.kp, b_l_fits, ok_l_fits F_l_fits T C_l_word_lists⟩
  have b_l_bent : Binds K fd_l_bent ps_l_bent [] := F_l_bent.binds fun _ _ _ _ _ _ us hl => match us, hl with | [_, _, _], _ => rfl
  have C_l_bent : Cal l.prog w K mg base 3 "_law_bent" ps_l_bent f_l_bent fd_l_bent (spG K 10 P_bent R_bent) := ⟨PySem.W.mg_of X G a_l_bent, F_l_bent.kp, b_l_bent, ok_l_bent F_l_bent T C_l_random⟩
  have b_l_generator : Binds K fd_l_generator ps_l_generator [] := F_l_generator.binds fun _ _ _ _ _ _ us hl => match us, hl with | [_, _], _ => rfl
  have C_l_generator : Cal l.prog w K mg base 2 "_law_generator" ps_l_generator f_l_generator fd_l_generator (spNew K) := ⟨PySem.W.mg_of X G a_l_generator, F_l_generator.kp, b_l_generator, ok_l_generatorN F_l_generator T C_l_cell⟩
  have BK_is_mending := kb_is_mending F_is_mending
  have BK_mended := kb_mended F_mended
  have BK_cost_of := kb_cost_of F_cost_of
  have b_l_right : Binds K fd_l_right ps_l_right [] := F_l_right.binds fun _ _ _ _ _ _ us hl => match us, hl with | [_, _], _ => rfl
  have C_l_right : CalG l.prog w K mg base 9 "_law_right" ps_l_right f_l_right fd_l_right (spG K 400 P_right R_right) := ⟨PySem.W.mg_of X G a_l_right, F_l_right.kp, b_l_right, ok_l_right F_l_right T C_l_random C_l_few C_l_contents C_l_word_lists C_l_mended C_l_fits C_l_bent C_is_mending C_mended C_cost_of BK_is_mending BK_mended BK_cost_of⟩
  exact ok_law F_law T C_l_generator C_l_link C_l_great C_l_right C_mended C_cost_of
end Hw

open PySem PySem.W PyProof.Rows in
set_option maxRecDepth 100000 in
set_option maxHeartbeats 0 in
theorem PySem.Challenge.cw_healwires_k39_whole_mendings_holds : PySem.Challenge.rw_healwires_k39_whole_mendings.Holds := by
  w_on; o_law; k_head; (case hw => w_witness2)
  k_fill
  refine Hw.walk_ofG (l := PySem.Challenge.rw_healwires_k39_whole_mendings) (n := 63) (k := 10) (x := "_law_script") (sp := fun w => Hw.spLaw _) rfl (by decide) rfl ⟨rfl, by decide, by decide⟩ (fun w h Y => PySem.W.kIn_of Y) ?F (fun _ _ a ns hl _ hS => ⟨a, ns, rfl, hS, fun _ => rfl⟩)
  case F =>
    intro w mg fa h KX G hmg
    refine' Hw.all_mk KX G hmg (Hw.TxtK.mk ?z0 ?z1 ?z2 ?z3 ?z4 ?z5 ?z6 ?z7 ?z8 ?z9 ?z10 ?z11 ?z12 ?z13) (Hw.wl_mk ?w ?wl ?w0 ?w1 ?w2 ?w3 ?w4 ?w5 ?w6 ?w7) (Hw.has_mk ?a0 ?l0 ?c0 ?k0) (Hw.has_mk ?a1 ?l1 ?c1 ?k1) (Hw.has_mk ?a2 ?l2 ?c2 ?k2) (Hw.has_mk ?a3 ?l3 ?c3 ?k3) (Hw.has_mk ?a4 ?l4 ?c4 ?k4) (Hw.has_mk ?a5 ?l5 ?c5 ?k5) (Hw.has_mk ?a6 ?l6 ?c6 ?k6) (Hw.has_mk ?a7 ?l7 ?c7 ?k7) (Hw.has_mk ?a8 ?l8 ?c8 ?k8) (Hw.has_mk ?a9 ?l9 ?c9 ?k9) (Hw.has_mk ?a10 ?l10 ?c10 ?k10) (Hw.has_mk ?a11 ?l11 ?c11 ?k11) (Hw.has_mk ?a12 ?l12 ?c12 ?k12) (Hw.has_mk ?a13 ?l13 ?c13 ?k13) (Hw.has_mk ?a14 ?l14 ?c14 ?k14) (Hw.has_mk ?a15 ?l15 ?c15 ?k15) (Hw.has_mk ?a16 ?l16 ?c16 ?k16) (Hw.has_mk ?a17 ?l17 ?c17 ?k17) (Hw.has_mk ?a18 ?l18 ?c18 ?k18) (Hw.has_mk ?a19 ?l19 ?c19 ?k19) (Hw.has_mk ?a20 ?l20 ?c20 ?k20) (Hw.has_mk ?a21 ?l21 ?c21 ?k21) (Hw.has_mk ?a22 ?l22 ?c22 ?k22) (Hw.has_mk ?a23 ?l23 ?c23 ?k23) (Hw.has_mk ?a24 ?l24 ?c24 ?k24) (Hw.has_mk ?a25 ?l25 ?c25 ?k25) (Hw.has_mk ?a26 ?l26 ?c26 ?k26) (Hw.has_mk ?a27 ?l27 ?c27 ?k27) (Hw.has_mk ?a28 ?l28 ?c28 ?k28) (Hw.has_mk ?a29 ?l29 ?c29 ?k29) (Hw.has_mk ?a30 ?l30 ?c30 ?k30) (Hw.has_mk ?a31 ?l31 ?c31 ?k31) (Hw.has_mk ?a32 ?l32 ?c32 ?k32) (Hw.has_mk ?a33 ?l33 ?c33 ?k33) (Hw.has_mk ?a34 ?l34 ?c34 ?k34) (Hw.has_mk ?a35 ?l35 ?c35 ?k35)
    (case z0 => k_is)
    (case z1 => k_is)
    (case z2 => k_is)
    (case z3 => k_is)
    (case z4 => k_is)
    (case z5 => k_is)
    (case z6 => k_is)
    (case z7 => k_is)
    (case z8 => k_is)
    (case z9 => k_is)
    (case z10 => k_is)
    (case z11 => k_is)
    (case z12 => k_is)
    (case z13 => k_is)
    (case w => k_is)
    (case wl => k_is)
    (case w0 => k_is)
    (case w1 => k_is)
    (case w2 => k_is)
    (case w3 => k_is)
    (case w4 => k_is)
    (case w5 => k_is)
    (case w6 => k_is)
    (case w7 => k_is)
    (case a0 => k_is)
    (case l0 => k_is)
    (case c0 => k_is)
    (case k0 => k_is)
    (case a1 => k_is)
    (case l1 => k_is)
    (case c1 => k_is)
    (case k1 => k_is)
    (case a2 => k_is)
    (case l2 => k_is)
    (case c2 => k_is)
    (case k2 => k_is)
    (case a3 => k_is)
    (case l3 => k_is)
    (case c3 => k_is)
    (case k3 => k_is)
    (case a4 => k_is)
    (case l4 => k_is)
    (case c4 => k_is)
    (case k4 => k_is)
    (case a5 => k_is)
    (case l5 => k_is)
    (case c5 => k_is)
    (case k5 => k_is)
    (case a6 => k_is)
    (case l6 => k_is)
    (case c6 => k_is)
    (case k6 => k_is)
    (case a7 => k_is)
    (case l7 => k_is)
    (case c7 => k_is)
    (case k7 => k_is)
    (case a8 => k_is)
    (case l8 => k_is)
    (case c8 => k_is)
    (case k8 => k_is)
    (case a9 => k_is)
    (case l9 => k_is)
    (case c9 => k_is)
    (case k9 => k_is)
    (case a10 => k_is)
    (case l10 => k_is)
    (case c10 => k_is)
    (case k10 => k_is)
    (case a11 => k_is)
    (case l11 => k_is)
    (case c11 => k_is)
    (case k11 => k_is)
    (case a12 => k_is)
    (case l12 => k_is)
    (case c12 => k_is)
    (case k12 => k_is)
    (case a13 => k_is)
    (case l13 => k_is)
    (case c13 => k_is)
    (case k13 => k_is)
    (case a14 => k_is)
    (case l14 => k_is)
    (case c14 => k_is)
    (case k14 => k_is)
    (case a15 => k_is)
    (case l15 => k_is)
    (case c15 => k_is)
    (case k15 => k_is)
    (case a16 => k_is)
    (case l16 => k_is)
    (case c16 => k_is)
    (case k16 => k_is)
    (case a17 => k_is)
    (case l17 => k_is)
    (case c17 => k_is)
    (case k17 => k_is)
    (case a18 => k_is)
    (case l18 => k_is)
    (case c18 => k_is)
    (case k18 => k_is)
    (case a19 => k_is)
    (case l19 => k_is)
    (case c19 => k_is)
    (case k19 => k_is)
    (case a20 => k_is)
    (case l20 => k_is)
    (case c20 => k_is)
    (case k20 => k_is)
    (case a21 => k_is)
    (case l21 => k_is)
    (case c21 => k_is)
    (case k21 => k_is)
    (case a22 => k_is)
    (case l22 => k_is)
    (case c22 => k_is)
    (case k22 => k_is)
    (case a23 => k_is)
    (case l23 => k_is)
    (case c23 => k_is)
    (case k23 => k_is)
    (case a24 => k_is)
    (case l24 => k_is)
    (case c24 => k_is)
    (case k24 => k_is)
    (case a25 => k_is)
    (case l25 => k_is)
    (case c25 => k_is)
    (case k25 => k_is)
    (case a26 => k_is)
    (case l26 => k_is)
    (case c26 => k_is)
    (case k26 => k_is)
    (case a27 => k_is)
    (case l27 => k_is)
    (case c27 => k_is)
    (case k27 => k_is)
    (case a28 => k_is)
    (case l28 => k_is)
    (case c28 => k_is)
    (case k28 => k_is)
    (case a29 => k_is)
    (case l29 => k_is)
    (case c29 => k_is)
    (case k29 => k_is)
    (case a30 => k_is)
    (case l30 => k_is)
    (case c30 => k_is)
    (case k30 => k_is)
    (case a31 => k_is)
    (case l31 => k_is)
    (case c31 => k_is)
    (case k31 => k_is)
    (case a32 => k_is)
    (case l32 => k_is)
    (case c32 => k_is)
    (case k32 => k_is)
    (case a33 => k_is)
    (case l33 => k_is)
    (case c33 => k_is)
    (case k33 => k_is)
    (case a34 => k_is)
    (case l34 => k_is)
    (case c34 => k_is)
    (case k34 => k_is)
    (case a35 => k_is)
    (case l35 => k_is)
    (case c35 => k_is)
    (case k35 => k_is)
