import PyProof.Rows.All
import Wide.All
import OpenK.AllK
import Wide.FinOn
import HandS.ForMost
import HandS.Evl
import HandS.Walk
import HandS.Conv
import HandS.TupAny
import HandS.IsInst
import HandS.Zip
import KE.SortData
import HandS.More
import KE.KDictSum
import KE.KDictDisplayH
import KE.KDictCopyH
import KE.GoesEnum
import HandS.ExcInit
import HandS.Nested
import KE.KExcSuper
import HandS.TryMany
import HandS.ExcField
import HandS.Lambda
import HandS.Wide
import HandS.HeadHook4
import PySem.Challenge.RW_rungonce_k45_whole_lots_gone_through
import HandS.WordsExc
import KE.KStateDown
import HandS.Head0
import HandS.Head1
import HandS.Head2
import HandS.HeadEnd
import HandS.HeadHook1
import HandS.HeadHook2
import HandS.HeadWalk
section
set_option Elab.async false
set_option linter.all false
set_option maxRecDepth 100000
set_option maxHeartbeats 2000000
/-! layer 1: a known heap G within the heap H; what a computation needs, leaves and gives; data. -/
namespace R45
open PySem PySem.Spec PyProof.Rows L2 Evl

/-! ### data over a known heap -/
mutual
inductive Dt (G : Hp) : V → PyData → Prop
  | non : Dt G .non .none
  | bl (b : Bool) : Dt G (.bl b) (.bool b)
  | int (i : Int) : Dt G (.int i) (.int i)
  | str (x : Str) : Dt G (.str x) (.str x)
  | lst {a : Addr} {xs : List V} {ds : List PyData} : G a = some (.lst xs) → Dts G xs ds → Dt G (.ref a) (.list ds)
  | tup {a : Addr} {xs : List V} {ds : List PyData} : G a = some (.tup xs) → Dts G xs ds → Dt G (.ref a) (.tuple ds)
inductive Dts (G : Hp) : List V → List PyData → Prop
  | nil : Dts G [] []
  | cons {v : V} {vs : List V} {d : PyData} {ds : List PyData} : Dt G v d → Dts G vs ds → Dts G (v :: vs) (d :: ds)
end
mutual
theorem Dt.mono {G G' : Hp} (e : Ex G G') : ∀ {v : V} {d : PyData}, Dt G v d → Dt G' v d
  | _, .none, h => by cases h; exact .non
  | _, .bool b, h => by cases h; exact .bl b
  | _, .int b, h => by cases h; exact .int b
  | _, .str b, h => by cases h; exact .str b
  | _, .list ds, h => by
    cases h with
    | lst h1 h2 => exact .lst (e _ _ h1) (Dts.mono e h2)
  | _, .tuple ds, h => by
    cases h with
    | tup h1 h2 => exact .tup (e _ _ h1) (Dts.mono e h2)
  | _, .dict _, h => by cases h
theorem Dts.mono {G G' : Hp} (e : Ex G G') : ∀ {vs : List V} {ds : List PyData}, Dts G vs ds → Dts G' vs ds
  | _, [], h => by cases h; exact .nil
  | _, _ :: _, h => by
    cases h with
    | cons h1 h2 => exact .cons (Dt.mono e h1) (Dts.mono e h2)
end
mutual
theorem Dt.dp {K : PySem.W.Frag} {G : Hp} : ∀ {v : V} {d : PyData}, Dt G v d → Dp K G v d
  | _, .none, h => by cases h; exact .non
  | _, .bool b, h => by cases h; exact .bl b
  | _, .int b, h => by cases h; exact .int b
  | _, .str b, h => by cases h; exact .str b
  | _, .list ds, h => by
    cases h with
    | lst h1 h2 => exact .lst (sq_of h1) (Dts.dp h2)
  | _, .tuple ds, h => by
    cases h with
    | tup h1 h2 => exact .tup (st_of h1) (Dts.dp h2)
  | _, .dict _, h => by cases h
theorem Dts.dp {K : PySem.W.Frag} {G : Hp} : ∀ {vs : List V} {ds : List PyData}, Dts G vs ds → DpAll K G vs ds
  | _, [], h => by cases h; exact .nil
  | _, _ :: _, h => by
    cases h with
    | cons h1 h2 => exact .cons (Dt.dp h1) (Dts.dp h2)
end
section
variable {G : Hp} {vs xs : List V} {ds es : List PyData} {v : V} {d : PyData}
theorem Dts.length : ∀ {vs : List V} {ds : List PyData}, Dts G vs ds → vs.length = ds.length
  | _, [], h => by cases h; rfl
  | _, _ :: _, h => by
    cases h with
    | cons h1 h2 => rw [List.length_cons, List.length_cons, Dts.length h2]
theorem Dts.get : ∀ {vs : List V} {ds : List PyData} {i : Nat} {d : PyData}, Dts G vs ds → ds[i]? = some d → ∃ v, vs[i]? = some v ∧ Dt G v d
  | _, [], i, d, h, e => by simp at e
  | _, _ :: _, 0, d, h, e => by
    cases h with
    | cons h1 h2 => cases e; exact ⟨_, rfl, h1⟩
  | _, _ :: _, i + 1, d, h, e => by
    cases h with
    | cons h1 h2 => exact Dts.get (i := i) h2 e
theorem Dts.getV : ∀ {vs : List V} {ds : List PyData} {i : Nat} {v : V}, Dts G vs ds → vs[i]? = some v → ∃ d, ds[i]? = some d ∧ Dt G v d
  | _, [], i, v, h, e => by cases h; simp at e
  | _, _ :: _, 0, v, h, e => by
    cases h with
    | cons h1 h2 => cases e; exact ⟨_, rfl, h1⟩
  | _, _ :: _, i + 1, v, h, e => by
    cases h with
    | cons h1 h2 => exact Dts.getV (i := i) h2 e
theorem Dts.append : ∀ {vs : List V} {ds : List PyData}, Dts G vs ds → Dts G xs es → Dts G (vs ++ xs) (ds ++ es)
  | _, [], h, k => by cases h; exact k
  | _, _ :: _, h, k => by
    cases h with
    | cons h1 h2 => exact .cons h1 (Dts.append h2 k)
theorem Dts.snoc (h : Dts G vs ds) (k : Dt G v d) : Dts G (vs ++ [v]) (ds ++ [d]) := h.append (.cons k .nil)
theorem Dts.drop : ∀ {vs : List V} {ds : List PyData} (n : Nat), Dts G vs ds → Dts G (vs.drop n) (ds.drop n)
  | _, _, 0, h => h
  | _, [], n + 1, h => by cases h; exact .nil
  | _, _ :: _, n + 1, h => by
    cases h with
    | cons h1 h2 => exact Dts.drop n h2
theorem Dts.take : ∀ {vs : List V} {ds : List PyData} (n : Nat), Dts G vs ds → Dts G (vs.take n) (ds.take n)
  | _, _, 0, h => .nil
  | _, [], n + 1, h => by cases h; exact .nil
  | _, _ :: _, n + 1, h => by
    cases h with
    | cons h1 h2 => exact .cons h1 (Dts.take n h2)
theorem Dts.set : ∀ {vs : List V} {ds : List PyData} (n : Nat), Dts G vs ds → Dt G v d → Dts G (vs.set n v) (ds.set n d)
  | _, [], n, h, k => by cases h; exact .nil
  | _, _ :: _, 0, h, k => by
    cases h with
    | cons h1 h2 => exact .cons k h2
  | _, _ :: _, n + 1, h, k => by
    cases h with
    | cons h1 h2 => exact .cons h1 (Dts.set n h2 k)
theorem Dts.eraseIdx : ∀ {vs : List V} {ds : List PyData} (n : Nat), Dts G vs ds → Dts G (vs.eraseIdx n) (ds.eraseIdx n)
  | _, [], n, h => by cases h; exact .nil
  | _, _ :: _, 0, h => by
    cases h with
    | cons h1 h2 => exact h2
  | _, _ :: _, n + 1, h => by
    cases h with
    | cons h1 h2 => exact .cons h1 (Dts.eraseIdx n h2)
theorem Dts.dropLast : ∀ {vs : List V} {ds : List PyData}, Dts G vs ds → Dts G vs.dropLast ds.dropLast := fun {vs ds} h => by
  rw [List.dropLast_eq_take, List.dropLast_eq_take, h.length]
  exact h.take _
theorem Dts.rep (h : Dts G vs ds) : ∀ n : Nat, Dts G (List.replicate n vs).flatten (List.replicate n ds).flatten
  | 0 => .nil
  | n + 1 => by
    rw [List.replicate_succ, List.replicate_succ, List.flatten_cons, List.flatten_cons]
    exact h.append (Dts.rep h n)
theorem dts_ints : ∀ ns : List Int, Dts G (ns.map V.int) (ns.map PyData.int)
  | [] => .nil
  | n :: ns => .cons (.int n) (dts_ints ns)
theorem dts_ints_inv : ∀ {vs : List V} {ns : List Int}, Dts G vs (ns.map PyData.int) → vs = ns.map V.int
  | _, [], h => by cases h; rfl
  | _, n :: ns, h => by
    cases h with
    | cons h1 h2 =>
      cases h1
      rw [dts_ints_inv h2]
      rfl
theorem dts_bools_inv : ∀ {vs : List V} {bs : List Bool}, Dts G vs (bs.map PyData.bool) → vs = bs.map V.bl
  | _, [], h => by cases h; rfl
  | _, n :: ns, h => by
    cases h with
    | cons h1 h2 =>
      cases h1
      rw [dts_bools_inv h2]
      rfl
theorem Dt.int_inv {i : Int} (h : Dt G v (.int i)) : v = .int i := by cases h; rfl
theorem Dt.bool_inv {b : Bool} (h : Dt G v (.bool b)) : v = .bl b := by cases h; rfl
theorem Dt.non_inv (h : Dt G v .none) : v = .non := by cases h; rfl
theorem Dt.str_inv {x : Str} (h : Dt G v (.str x)) : v = .str x := by cases h; rfl
theorem Dt.tup_inv (h : Dt G v (.tuple ds)) : ∃ a xs, v = .ref a ∧ G a = some (.tup xs) ∧ Dts G xs ds := by
  cases h with
  | tup h1 h2 => exact ⟨_, _, rfl, h1, h2⟩
theorem Dt.lst_inv (h : Dt G v (.list ds)) : ∃ a xs, v = .ref a ∧ G a = some (.lst xs) ∧ Dts G xs ds := by
  cases h with
  | lst h1 h2 => exact ⟨_, _, rfl, h1, h2⟩
end

/-! ### what may change, and what is true of it -/
structure Mode where
  M : Addr → Prop
  I : Hp → Prop
  ext : ∀ {H H' : Hp}, Ex H H' → I H → I H'
  loc : ∀ {H : Hp} {l : Addr} {o : HO}, ¬ M l → (∀ φ, H l ≠ some (.ext φ)) → I H → I (upd H l o)
  trk : ∀ {H : Hp} {b : Addr}, I H → M b → ∃ o, H b = some o ∧ ∀ xs, o ≠ .tup xs
def m0 : Mode := ⟨fun _ => False, fun _ => True, fun _ _ => trivial, fun _ _ _ => trivial, fun _ h => h.elim⟩
/-- the cup at c: two ints -/
def CupAt (c : Addr) (H : Hp) : Prop := ∃ a b : Int, H c = some (.lst [.int a, .int b]) ∧ 0 ≤ a ∧ 0 ≤ b ∧ b < 4294967296
def mC (c : Addr) : Mode := ⟨fun b => b = c, CupAt c, fun e h => let ⟨a, b, h1, h2⟩ := h; ⟨a, b, e _ _ h1, h2⟩,
  fun hl _ h => let ⟨a, b, h1, h2⟩ := h; ⟨a, b, by rw [upd_ne (fun z => hl z.symm)]; exact h1, h2⟩,
  fun h e => let ⟨a, b, h1, h2⟩ := h; ⟨.lst [.int a, .int b], by rw [e]; exact h1, fun xs z => by cases z⟩⟩
/-- the world: what is known is so, what may change stands apart -/
structure W (m : Mode) (G H : Hp) : Prop where
  ex : Ex G H
  inv : m.I H
  hid : ∀ b, m.M b → G b = none
/-- a step: what is known stays known, the new knowledge is of new things -/
structure Stp (m : Mode) (G H G' H' : Hp) : Prop where
  ex : Ex G G'
  le : Ex G' H'
  kp : ∀ b o, ¬ m.M b → H b = some o → H' b = some o
  inv : m.I H'
  old : ∀ b o, H b = some o → (∀ xs, o ≠ .tup xs) → G' b = G b
section
variable {m : Mode} {G G' G1 G2 H H' H1 H2 : Hp}
theorem W.nM (w : W m G H) {b : Addr} {o : HO} (h : G b = some o) : ¬ m.M b := fun z => by
  rw [w.hid b z] at h
  cases h
theorem W.newM (w : W m G H) {b : Addr} (h : H b = none) : ¬ m.M b := fun z => by
  obtain ⟨o, e, _⟩ := m.trk w.inv z
  rw [h] at e
  cases e
theorem W.low (w : W m G H) {b : Addr} (h : H b = none) : G b = none := fresh_back w.ex h
theorem W.m0 (w : W m G H) : W m0 G H := ⟨w.ex, trivial, fun _ h => h.elim⟩
theorem Stp.w (s : Stp m G H G' H') (w : W m G H) : W m G' H' := ⟨s.le, s.inv, fun b hb => by
  obtain ⟨o, e, n⟩ := m.trk w.inv hb
  rw [s.old b o e n]
  exact w.hid b hb⟩
theorem Stp.refl (w : W m G H) : Stp m G H G H := ⟨Ex.refl G, w.ex, fun _ _ _ h => h, w.inv, fun _ _ _ _ => rfl⟩
theorem Stp.there (s : Stp m G H G' H') (w : W m G H) {b : Addr} (h : H b ≠ none) : H' b ≠ none := by
  by_cases z : m.M b
  · obtain ⟨o, e, _⟩ := m.trk s.inv z
    rw [e]
    simp
  · cases q : H b with
    | none => exact absurd q h
    | some o =>
      rw [s.kp b o z q]
      simp
theorem Stp.fresh (s : Stp m G H G' H') (w : W m G H) {b : Addr} (h : H' b = none) : H b = none := by
  cases q : H b with
  | none => rfl
  | some o => exact absurd h (s.there w (by rw [q]; simp))
theorem Stp.trans (a : Stp m G H G1 H1) (w : W m G H) (b : Stp m G1 H1 G2 H2) : Stp m G H G2 H2 :=
  ⟨a.ex.trans b.ex, b.le, fun c o z h => b.kp c o z (a.kp c o z h), b.inv, fun c o h n => by
    by_cases z : m.M c
    · obtain ⟨o1, e1, n1⟩ := m.trk a.inv z
      rw [b.old c o1 e1 n1, a.old c o h n]
    · rw [b.old c o (a.kp c o z h) n, a.old c o h n]⟩
/-- all that stood stands, where nothing may change -/
theorem Stp.all (s : Stp m0 G H G' H') : Ex H H' := fun b o h => s.kp b o (fun z => z) h
/-- a step of nothing that may change is a step of any mode -/
theorem Stp.up (s : Stp m0 G H G' H') (w : W m G H) : Stp m G H G' H' := ⟨s.ex, s.le, fun b o _ h => s.all b o h, m.ext s.all w.inv, s.old⟩
/-- a new thing, known from now on -/
theorem Stp.new (w : W m G H) {p : Addr} {o : HO} (h : H p = none) : Stp m G H (upd G p o) (upd H p o) := by
  have hg := w.low h
  refine ⟨Ex.new hg, fun b u e => ?_, fun b u _ e => ?_, m.loc (w.newM h) (fun φ z => by rw [h] at z; cases z) w.inv, fun b u hb _ => ?_⟩
  · by_cases z : b = p
    · rw [z, upd_same] at e
      rw [z, upd_same, e]
    · rw [upd_ne z] at e ⊢
      exact w.ex b u e
  · rw [upd_ne (ne_of_none e h)]
    exact e
  · rw [upd_ne (fun z => by rw [z, h] at hb; cases hb)]
/-- a new thing of one's own, not told -/
theorem Stp.own (w : W m G H) {p : Addr} {o : HO} (h : H p = none) : Stp m G H G (upd H p o) := by
  have hg := w.low h
  refine ⟨Ex.refl G, fun b u e => ?_, fun b u _ e => ?_, m.loc (w.newM h) (fun φ z => by rw [h] at z; cases z) w.inv, fun b u hb _ => rfl⟩
  · rw [upd_ne (ne_of_none e hg)]
    exact w.ex b u e
  · rw [upd_ne (ne_of_none e h)]
    exact e
/-- one's own thing changes -/
theorem Stp.mut (s : Stp m G H G' H') (w : W m G H) {p : Addr} {o : HO} (h : H p = none) (hg : G' p = none) (hx : ∀ φ, H' p ≠ some (.ext φ)) : Stp m G H G' (upd H' p o) := by
  refine ⟨s.ex, fun b u e => ?_, fun b u z e => ?_, m.loc (w.newM h) hx s.inv, s.old⟩
  · rw [upd_ne (ne_of_none e hg)]
    exact s.le b u e
  · rw [upd_ne (ne_of_none e h)]
    exact s.kp b u z e
/-- one's own thing is told -/
theorem Stp.tell (s : Stp m G H G' H') {p : Addr} {o : HO} (h : H p = none) (hg : G' p = none) (ho : H' p = some o) : Stp m G H (upd G' p o) H' := by
  refine ⟨s.ex.trans (Ex.new hg), fun b u e => ?_, s.kp, s.inv, fun b u hb n => ?_⟩
  · by_cases z : b = p
    · rw [z, upd_same] at e
      cases e
      rw [z]
      exact ho
    · rw [upd_ne z] at e
      exact s.le b u e
  · rw [upd_ne (fun z => by rw [z, h] at hb; cases hb)]
    exact s.old b u hb n
/-- one's own thing in a later step: it stands, and is not told -/
theorem Stp.mine (s : Stp m G H G' H') {p : Addr} {o : HO} (hm : ¬ m.M p) (hg : G p = none) (ho : H p = some o) (hn : ∀ xs, o ≠ .tup xs := by (intro xs z; exact nomatch z)) : H' p = some o ∧ G' p = none :=
  ⟨s.kp p o hm ho, by rw [s.old p o ho hn]; exact hg⟩
/-- a tuple that stands is told -/
theorem Stp.adopt (s : Stp m G H G' H') (w : W m G H) {p : Addr} {xs : List V} (ho : H' p = some (.tup xs)) : Stp m G H (upd G' p (.tup xs)) H' := by
  refine ⟨s.ex.trans fun b u e => ?_, fun b u e => ?_, s.kp, s.inv, fun b u hb n => ?_⟩
  · by_cases z : b = p
    · rw [z, upd_same]
      rw [z] at e
      have q := s.le p u e
      rw [ho] at q
      exact q
    · rw [upd_ne z]
      exact e
  · by_cases z : b = p
    · rw [z, upd_same] at e
      cases e
      rw [z]
      exact ho
    · rw [upd_ne z] at e
      exact s.le b u e
  · by_cases z : b = p
    · rw [z] at hb
      exfalso
      by_cases q : m.M p
      · obtain ⟨o1, e1, n1⟩ := m.trk s.inv q
        rw [ho] at e1
        cases e1
        exact n1 xs rfl
      · have e := s.kp p u q hb
        rw [ho] at e
        cases e
        exact n xs rfl
    · rw [upd_ne z]
      exact s.old b u hb n
end

/-! ### a mode within another -/
structure Sub (m1 m : Mode) : Prop where
  M : ∀ {b}, m1.M b → m.M b
  inv : ∀ {H : Hp}, m.I H → m1.I H
  back : ∀ {H H' : Hp}, m.I H → m1.I H' → (∀ b o, ¬ m1.M b → H b = some o → H' b = some o) → m.I H'
section
variable {m1 m : Mode} {G G' H H' : Hp}
theorem Sub.w (u : Sub m1 m) (w : W m G H) : W m1 G H := ⟨w.ex, u.inv w.inv, fun b hb => w.hid b (u.M hb)⟩
theorem Sub.stp (u : Sub m1 m) (w : W m G H) (s : Stp m1 G H G' H') : Stp m G H G' H' := ⟨s.ex, s.le, fun b o hb e => s.kp b o (fun z => hb (u.M z)) e, u.back w.inv s.inv s.kp, s.old⟩
end
theorem sub0 (m : Mode) : Sub m0 m := ⟨fun h => h.elim, fun _ => trivial, fun i _ k => m.ext (fun b o e => k b o (fun z => z) e) i⟩
/-! ### computations -/
/-- from any heap that knows G: a step, and a value of which P is true -/
def Cmp {α : Type} (m : Mode) (G : Hp) (f : Hp → (α → Hp → Prop) → Prop) (P : α → Hp → Prop) : Prop :=
  ∀ G1 H, Ex G G1 → W m G1 H → ∀ Q : α → Hp → Prop, (∀ v G' H', Stp m G1 H G' H' → P v G' → Q v H') → f H Q
/-- the same, nothing changed or made: the value is v -/
def Now {α : Type} (G : Hp) (f : Hp → (α → Hp → Prop) → Prop) (v : α) : Prop := ∀ H, Ex G H → ∀ Q : α → Hp → Prop, Q v H → f H Q
section
variable {α β : Type} {m : Mode} {G G' H : Hp} {f : Hp → (α → Hp → Prop) → Prop} {P P' : α → Hp → Prop}
theorem Cmp.go (c : Cmp m G f P) (w : W m G H) {Q : α → Hp → Prop} (k : ∀ v G' H', Stp m G H G' H' → P v G' → Q v H') : f H Q := c G H (Ex.refl G) w Q k
theorem Cmp.mono (c : Cmp m G f P) (e : Ex G G') : Cmp m G' f P := fun G1 H e1 w Q k => c G1 H (e.trans e1) w Q k
theorem Cmp.imp (c : Cmp m G f P) (h : ∀ v G', Ex G G' → P v G' → P' v G') : Cmp m G f P' := fun G1 H e1 w Q k => c G1 H e1 w Q fun v G' H' s p => k v G' H' s (h v G' (e1.trans s.ex) p)
theorem Cmp.up (c : Cmp m0 G f P) : Cmp m G f P := fun G1 H e1 w Q k => c G1 H e1 w.m0 Q fun v G' H' s p => k v G' H' (s.up w) p
theorem Cmp.lift {m1 : Mode} (u : Sub m1 m) (c : Cmp m1 G f P) : Cmp m G f P := fun G1 H e1 w Q k => c G1 H e1 (u.w w) Q fun v G' H' s p => k v G' H' (u.stp w s) p
theorem Cmp.bind {g : α → Hp → (β → Hp → Prop) → Prop} {R : β → Hp → Prop} (c : Cmp m G f P) (k : ∀ v G', Ex G G' → P v G' → Cmp m G' (g v) R) : Cmp m G (fun H Q => f H fun v H1 => g v H1 Q) R := fun G1 H e1 w Q q =>
  c G1 H e1 w _ fun v G' H' s p => k v G' (e1.trans s.ex) p G' H' (Ex.refl _) (s.w w) Q fun u G2 H2 s2 r => q u G2 H2 (s.trans w s2) r
theorem Now.mono {v : α} (c : Now G f v) (e : Ex G G') : Now G' f v := fun H e1 Q q => c H (e.trans e1) Q q
theorem Now.cmp {v : α} (c : Now G f v) : Cmp m G f fun u _ => u = v := fun G1 H e1 w Q k => c H (e1.trans w.ex) Q (k v G1 H (Stp.refl w) rfl)
theorem Now.to {v : α} (c : Now G f v) (h : ∀ G', Ex G G' → P v G') : Cmp m G f P := fun G1 H e1 w Q k => c H (e1.trans w.ex) Q (k v G1 H (Stp.refl w) (h G1 e1))
theorem Now.bind {g : α → Hp → (β → Hp → Prop) → Prop} {v : α} {u : β} (c : Now G f v) (k : Now G (g v) u) : Now G (fun H Q => f H fun v H1 => g v H1 Q) u := fun H e Q q => c H e _ (k H e Q q)
theorem Now.then {g : α → Hp → (β → Hp → Prop) → Prop} {v : α} {R : β → Hp → Prop} (c : Now G f v) (k : Cmp m G (g v) R) : Cmp m G (fun H Q => f H fun v H1 => g v H1 Q) R := fun G1 H e1 w Q q => c H (e1.trans w.ex) _ (k G1 H e1 w Q q)
end
/-- a datum at once; a datum in the end; a datum of which P is true -/
abbrev Ev0 (te : TE) (σ : L2.St) (G : Hp) (v : V) : Prop := Now G (te σ) v
def EvE (te : TE) (σ : L2.St) (G : Hp) (d : PyData) : Prop := ∃ v, Now G (te σ) v ∧ Dt G v d
def EvD (m : Mode) (te : TE) (σ : L2.St) (G : Hp) (d : PyData) : Prop := Cmp m G (te σ) fun v G' => Dt G' v d
def EvP (m : Mode) (te : TE) (σ : L2.St) (G : Hp) (P : PyData → Prop) : Prop := Cmp m G (te σ) fun v G' => ∃ d, P d ∧ Dt G' v d
def EvT (m : Mode) (tt : TT) (σ : L2.St) (G : Hp) (b : Bool) : Prop := Cmp m G (tt σ) fun c _ => c = b
section
variable {m : Mode} {σ : L2.St} {G G' : Hp} {te ta tb : TE} {tt tu : TT} {d d' : PyData} {v : V}
theorem EvE.mono (h : EvE te σ G d) (e : Ex G G') : EvE te σ G' d := let ⟨v, h1, h2⟩ := h; ⟨v, h1.mono e, h2.mono e⟩
theorem EvE.D (h : EvE te σ G d) : EvD m te σ G d := let ⟨_, h1, h2⟩ := h; h1.to fun _ e => h2.mono e
theorem EvD.mono (h : EvD m te σ G d) (e : Ex G G') : EvD m te σ G' d := Cmp.mono h e
theorem EvD.up (h : EvD m0 te σ G d) : EvD m te σ G d := Cmp.up h
theorem EvD.P (h : EvD m te σ G d) : EvP m te σ G fun e => e = d := Cmp.imp h fun _ _ _ k => ⟨d, rfl, k⟩
theorem EvP.mono {P : PyData → Prop} (h : EvP m te σ G P) (e : Ex G G') : EvP m te σ G' P := Cmp.mono h e
theorem EvT.mono {b : Bool} (h : EvT m tt σ G b) (e : Ex G G') : EvT m tt σ G' b := Cmp.mono h e
theorem EvT.up {b : Bool} (h : EvT m0 tt σ G b) : EvT m tt σ G b := Cmp.up h
theorem EvD.is (h : EvD m te σ G d) (e : d = d') : EvD m te σ G d' := e ▸ h
theorem EvE.is (h : EvE te σ G d) (e : d = d') : EvE te σ G d' := e ▸ h
theorem EvT.is {a b : Bool} (h : EvT m tt σ G a) (e : a = b) : EvT m tt σ G b := e ▸ h
theorem EvE.int {i : Int} (h : EvE te σ G (.int i)) : Now G (te σ) (.int i) := by
  obtain ⟨v, h1, h2⟩ := h
  cases h2
  exact h1
/-! values at once -/
theorem e_var {i : Nat} (h : σ[i]? = some (some v)) (hd : Dt G v d) : EvE (tVar i) σ G d := ⟨v, fun H _ Q q => ⟨v, h, q⟩, hd⟩
theorem e_int (i : Int) : EvE (tC (.int i)) σ G (.int i) := ⟨_, fun H _ Q q => q, .int i⟩
theorem e_str (x : Str) : EvE (tC (.str x)) σ G (.str x) := ⟨_, fun H _ Q q => q, .str x⟩
theorem e_bl (b : Bool) : EvE (tC (.bl b)) σ G (.bool b) := ⟨_, fun H _ Q q => q, .bl b⟩
theorem e_non : EvE (tC .non) σ G .none := ⟨_, fun H _ Q q => q, .non⟩
theorem e_glob {w : V} (h : Dt G w d) : EvE (tC w) σ G d := ⟨_, fun H _ Q q => q, h⟩
theorem n_var {i : Nat} (h : σ[i]? = some (some v)) : Now G (tVar i σ) v := fun H _ Q q => ⟨v, h, q⟩
theorem n_c : Now G (tC v σ) v := fun H _ Q q => q
theorem n_op {r : R2} {x y z : V} (ha : Now G (ta σ) x) (hb : Now G (tb σ) y) (hr : Now G (r x y) z) : Now G (tOp r ta tb σ) z := fun H e Q q => ha H e _ (hb H e _ (hr H e Q q))
theorem e_add {i j : Int} (ha : EvE ta σ G (.int i)) (hb : EvE tb σ G (.int j)) : EvE (tOp (rI0 fun i j => .int (i + j)) ta tb) σ G (.int (i + j)) :=
  ⟨.int (i + j), n_op ha.int hb.int fun H _ Q q => ⟨i, j, rfl, rfl, q⟩, .int _⟩
theorem e_sub {i j : Int} (ha : EvE ta σ G (.int i)) (hb : EvE tb σ G (.int j)) : EvE (tOp (rI0 fun i j => .int (i - j)) ta tb) σ G (.int (i - j)) :=
  ⟨.int (i - j), n_op ha.int hb.int fun H _ Q q => ⟨i, j, rfl, rfl, q⟩, .int _⟩
theorem e_mod {i j : Int} (ha : EvE ta σ G (.int i)) (hb : EvE tb σ G (.int j)) (h : 0 < j) : EvE (tOp (rI (fun _ j => 0 < j) fun i j => .int (i % j)) ta tb) σ G (.int (i % j)) :=
  ⟨.int (i % j), n_op ha.int hb.int fun H _ Q q => ⟨i, j, rfl, rfl, h, q⟩, .int _⟩
theorem e_neg {i : Int} (ha : EvE ta σ G (.int i)) : EvE (tUn (rU fun i => .int (-i)) ta) σ G (.int (-i)) :=
  ⟨.int (-i), fun H e Q q => ha.int H e _ ⟨i, rfl, q⟩, .int _⟩
theorem at_get {xs : List V} {ds : List PyData} {i : Int} (hs : Dts G xs ds) (h : atI ds i = some d) : ∃ v, atI xs i = some v ∧ Dt G v d := by
  unfold atI at h ⊢
  rw [← hs.length] at h
  cases q : ixN xs.length i with
  | none => rw [q] at h; cases h
  | some j =>
    rw [q] at h
    exact hs.get h
theorem e_ixT {K : PySem.W.Frag} {ds : List PyData} {i : Int} (ha : EvE ta σ G (.tuple ds)) (hb : EvE tb σ G (.int i)) (h : atI ds i = some d) : EvE (tOp (rIxT K) ta tb) σ G d := by
  obtain ⟨v, h1, h2⟩ := ha
  obtain ⟨a, xs, rfl, hg, hs⟩ := h2.tup_inv
  obtain ⟨u, hu, hd⟩ := at_get hs h
  exact ⟨u, n_op h1 hb.int fun H e Q q => ⟨a, xs, i, u, rfl, rfl, st_of (e _ _ hg), hu, q⟩, hd⟩
theorem e_ixL {K : PySem.W.Frag} {ds : List PyData} {i : Int} (ha : EvE ta σ G (.list ds)) (hb : EvE tb σ G (.int i)) (h : atI ds i = some d) : EvE (tOp (rIxL K) ta tb) σ G d := by
  obtain ⟨v, h1, h2⟩ := ha
  obtain ⟨a, xs, rfl, hg, hs⟩ := h2.lst_inv
  obtain ⟨u, hu, hd⟩ := at_get hs h
  exact ⟨u, n_op h1 hb.int fun H e Q q => ⟨a, xs, i, u, rfl, rfl, sq_of (e _ _ hg), hu, q⟩, hd⟩
end
end R45
end
section
set_option Elab.async false
set_option linter.all false
set_option maxRecDepth 100000
set_option maxHeartbeats 2000000
/-! layer 1, second part: expressions, tests, comprehensions, statements, loops. -/
namespace R45
open PySem PySem.Spec PyProof.Rows L2 Evl
theorem szL {n : Nat} (h : n ≤ 1000000) : n ≤ sizeLine := Nat.le_trans h (by decide)
theorem szT {n : Nat} (h : n < 1000000) : n < sizeLine := Nat.lt_of_lt_of_le h (by decide)
section
variable {m : Mode} {σ : L2.St} {G G' : Hp} {te ta tb tc : TE} {tt tu : TT} {d d' : PyData} {v : V} {K : PySem.W.Frag}
theorem Cmp.cb {r : List V → Hp → VK → Prop} {t : TA} {P : List V → Hp → Prop} {R : V → Hp → Prop} (h : Cmp m G (t σ) P) (k : ∀ vs G', Ex G G' → P vs G' → Cmp m G' (r vs) R) : Cmp m G (tCB r t σ) R := Cmp.bind (f := t σ) (g := r) h k
/-! arguments -/
def EvA (m : Mode) (ta : TA) (σ : L2.St) (G : Hp) (ds : List PyData) : Prop := Cmp m G (ta σ) fun vs G' => Dts G' vs ds
def EvAP (m : Mode) (ta : TA) (σ : L2.St) (G : Hp) (P : List PyData → Prop) : Prop := Cmp m G (ta σ) fun vs G' => ∃ ds, P ds ∧ Dts G' vs ds
theorem a_nil : EvA m tNil σ G [] := fun G1 H e w Q k => k [] G1 H (Stp.refl w) .nil
theorem a_cons {tr : TA} {ds : List PyData} (h : EvD m ta σ G d) (hr : EvA m tr σ G ds) : EvA m (tCons ta tr) σ G (d :: ds) :=
  Cmp.bind (f := ta σ) (g := fun (v : V) (H : Hp) (Q : List V → Hp → Prop) => tr σ H fun vs H2 => Q (v :: vs) H2) h fun v G1 e hv => Cmp.bind (f := tr σ) (g := fun (vs : List V) (H : Hp) (Q : List V → Hp → Prop) => Q (v :: vs) H) (Cmp.mono hr e) fun vs G2 e2 hvs G3 H e3 w Q k => k _ G3 H (Stp.refl w) (.cons (hv.mono (e2.trans e3)) (hvs.mono e3))
theorem ap_nil : EvAP m tNil σ G (fun ds => ds = []) := fun G1 H e w Q k => k [] G1 H (Stp.refl w) ⟨[], rfl, .nil⟩
theorem ap_cons {tr : TA} {P : PyData → Prop} {R : List PyData → Prop} (h : EvP m ta σ G P) (hr : EvAP m tr σ G R) : EvAP m (tCons ta tr) σ G (fun ds => ∃ d r, ds = d :: r ∧ P d ∧ R r) :=
  Cmp.bind (f := ta σ) (g := fun (v : V) (H : Hp) (Q : List V → Hp → Prop) => tr σ H fun vs H2 => Q (v :: vs) H2) h fun v G1 e hv => Cmp.bind (f := tr σ) (g := fun (vs : List V) (H : Hp) (Q : List V → Hp → Prop) => Q (v :: vs) H) (Cmp.mono hr e) fun vs G2 e2 hvs G3 H e3 w Q k => k _ G3 H (Stp.refl w) (by
    obtain ⟨d, hd, hv⟩ := hv
    obtain ⟨r, hr, hvs⟩ := hvs
    exact ⟨_, ⟨d, r, rfl, hd, hr⟩, .cons (hv.mono (e2.trans e3)) (hvs.mono e3)⟩)
theorem EvA.one (h : EvD m ta σ G d) : EvA m (tCons ta tNil) σ G [d] := a_cons h a_nil
theorem EvA.P {t : TA} {ds : List PyData} (h : EvA m t σ G ds) : EvAP m t σ G (fun x => x = ds) := Cmp.imp h fun _ _ _ k => ⟨ds, rfl, k⟩
theorem Dts.one_inv {vs : List V} (h : Dts G vs [d]) : ∃ v, vs = [v] ∧ Dt G v d := by
  cases h with
  | cons h1 h2 => cases h2; exact ⟨_, rfl, h1⟩
theorem Dts.two_inv {vs : List V} {e : PyData} (h : Dts G vs [d, e]) : ∃ v u, vs = [v, u] ∧ Dt G v d ∧ Dt G u e := by
  cases h with
  | cons h1 h2 =>
    obtain ⟨u, e, hu⟩ := h2.one_inv
    exact ⟨_, u, by rw [e], h1, hu⟩
theorem Dts.three_inv {vs : List V} {e f : PyData} (h : Dts G vs [d, e, f]) : ∃ v u x, vs = [v, u, x] ∧ Dt G v d ∧ Dt G u e ∧ Dt G x f := by
  cases h with
  | cons h1 h2 =>
    obtain ⟨u, x, e, hu, hx⟩ := h2.two_inv
    exact ⟨_, u, x, by rw [e], h1, hu, hx⟩
theorem Dts.four_inv {vs : List V} {e f g : PyData} (h : Dts G vs [d, e, f, g]) : ∃ v u x y, vs = [v, u, x, y] ∧ Dt G v d ∧ Dt G u e ∧ Dt G x f ∧ Dt G y g := by
  cases h with
  | cons h1 h2 =>
    obtain ⟨u, x, y, e, hu, hx, hy⟩ := h2.three_inv
    exact ⟨_, u, x, y, by rw [e], h1, hu, hx, hy⟩
/-! two operands -/
theorem d_op {r : R2} {R : V → Hp → Prop} {d1 d2 : PyData} (ha : EvD m ta σ G d1) (hb : EvD m tb σ G d2) (hr : ∀ x y G', Ex G G' → Dt G' x d1 → Dt G' y d2 → Cmp m G' (r x y) R) : Cmp m G (tOp r ta tb σ) R :=
  Cmp.bind (f := ta σ) (g := fun (x : V) (H : Hp) (Q : VK) => tb σ H fun y H2 => r x y H2 Q) ha fun x G1 e1 hx => Cmp.bind (f := tb σ) (g := r x) (Cmp.mono hb e1) fun y G2 e2 hy => hr x y G2 (e1.trans e2) (hx.mono e2) hy
theorem p_op {r : R2} {R : V → Hp → Prop} {P1 P2 : PyData → Prop} (ha : EvP m ta σ G P1) (hb : EvP m tb σ G P2) (hr : ∀ x y d1 d2 G', Ex G G' → P1 d1 → P2 d2 → Dt G' x d1 → Dt G' y d2 → Cmp m G' (r x y) R) : Cmp m G (tOp r ta tb σ) R :=
  Cmp.bind (f := ta σ) (g := fun (x : V) (H : Hp) (Q : VK) => tb σ H fun y H2 => r x y H2 Q) ha fun x G1 e1 ⟨d1, p1, hx⟩ => Cmp.bind (f := tb σ) (g := r x) (Cmp.mono hb e1) fun y G2 e2 ⟨d2, p2, hy⟩ => hr x y d1 d2 G2 (e1.trans e2) p1 p2 (hx.mono e2) hy
/-- a new tuple, a new list -/
theorem c_newT {xs : List V} {ds : List PyData} (h : Dts G xs ds) : Cmp m G (fun H Q => ∀ p, H p = none → Q (.ref p) (upd H p (.tup xs))) (fun v G' => Dt G' v (.tuple ds)) := fun G1 H e w Q k p hp =>
  k _ _ _ (Stp.new w hp) (.tup upd_same ((h.mono e).mono (Ex.new (w.low hp))))
theorem c_newL {xs : List V} {ds : List PyData} (h : Dts G xs ds) : Cmp m G (fun H Q => ∀ p, H p = none → Q (.ref p) (upd H p (.lst xs))) (fun v G' => Dt G' v (.list ds)) := fun G1 H e w Q k p hp =>
  k _ _ _ (Stp.new w hp) (.lst upd_same ((h.mono e).mono (Ex.new (w.low hp))))
theorem c_and {α : Type} {A : Prop} {f : Hp → (α → Hp → Prop) → Prop} {P : α → Hp → Prop} (ha : A) (h : Cmp m G f P) : Cmp m G (fun H Q => A ∧ f H Q) P := fun G1 H e w Q k => ⟨ha, h G1 H e w Q k⟩
theorem d_tup {t : TA} {ds : List PyData} (h : EvA m t σ G ds) (hz : ds.length ≤ 1000000) : EvD m (tTup t) σ G (.tuple ds) :=
  Cmp.bind (f := t σ) (g := fun (xs : List V) (H1 : Hp) (Q : VK) => xs.length ≤ sizeLine ∧ ∀ p, H1 p = none → Q (.ref p) (upd H1 p (.tup xs))) h fun vs G1 e hv => c_and (by rw [hv.length]; exact szL hz) (c_newT hv)
theorem d_lst {t : TA} {ds : List PyData} (h : EvA m t σ G ds) (hz : ds.length ≤ 1000000) : EvD m (tLst t) σ G (.list ds) :=
  Cmp.bind (f := t σ) (g := fun (xs : List V) (H1 : Hp) (Q : VK) => xs.length ≤ sizeLine ∧ ∀ p, H1 p = none → Q (.ref p) (upd H1 p (.lst xs))) h fun vs G1 e hv => c_and (by rw [hv.length]; exact szL hz) (c_newL hv)
theorem p_tup {t : TA} {R : List PyData → Prop} (h : EvAP m t σ G R) (hz : ∀ ds, R ds → ds.length ≤ 1000000) : EvP m (tTup t) σ G (fun d => ∃ ds, d = .tuple ds ∧ R ds) :=
  Cmp.bind (f := t σ) (g := fun (xs : List V) (H1 : Hp) (Q : VK) => xs.length ≤ sizeLine ∧ ∀ p, H1 p = none → Q (.ref p) (upd H1 p (.tup xs))) h fun vs G1 e ⟨ds, hr, hv⟩ => c_and (by rw [hv.length]; exact szL (hz ds hr)) ((c_newT hv).imp fun v G' _ k => ⟨_, ⟨ds, rfl, hr⟩, k⟩)
theorem p_lst {t : TA} {R : List PyData → Prop} (h : EvAP m t σ G R) (hz : ∀ ds, R ds → ds.length ≤ 1000000) : EvP m (tLst t) σ G (fun d => ∃ ds, d = .list ds ∧ R ds) :=
  Cmp.bind (f := t σ) (g := fun (xs : List V) (H1 : Hp) (Q : VK) => xs.length ≤ sizeLine ∧ ∀ p, H1 p = none → Q (.ref p) (upd H1 p (.lst xs))) h fun vs G1 e ⟨ds, hr, hv⟩ => c_and (by rw [hv.length]; exact szL (hz ds hr)) ((c_newL hv).imp fun v G' _ k => ⟨_, ⟨ds, rfl, hr⟩, k⟩)
/-! + of lists, of tuples; * -/
theorem d_cat {ds es : List PyData} (ha : EvD m ta σ G (.list ds)) (hb : EvD m tb σ G (.list es)) (hz : ds.length + es.length ≤ 1000000) : EvD m (tOp rCat ta tb) σ G (.list (ds ++ es)) :=
  d_op ha hb fun x y G1 e hx hy => by
    obtain ⟨a, xs, rfl, ga, hxs⟩ := hx.lst_inv
    obtain ⟨b, ys, rfl, gb, hys⟩ := hy.lst_inv
    intro G2 H e2 w Q k
    exact ⟨a, b, xs, ys, rfl, rfl, w.ex _ _ (e2 _ _ ga), w.ex _ _ (e2 _ _ gb), by rw [hxs.length, hys.length]; exact szL hz, c_newL (hxs.append hys) G2 H e2 w Q k⟩
theorem d_catA {ds es : List PyData} (ha : EvD m ta σ G (.tuple ds)) (hb : EvD m tb σ G (.tuple es)) (hz : ds.length + es.length ≤ 1000000) : EvD m (tOp (rCatA K) ta tb) σ G (.tuple (ds ++ es)) :=
  d_op ha hb fun x y G1 e hx hy => by
    have hx0 := hx
    have hy0 := hy
    obtain ⟨a, xs, rfl, ga, hxs⟩ := hx.tup_inv
    obtain ⟨b, ys, rfl, gb, hys⟩ := hy.tup_inv
    intro G2 H e2 w Q k
    refine ⟨a, b, xs, ys, rfl, rfl, st_of (w.ex _ _ (e2 _ _ ga)), st_of (w.ex _ _ (e2 _ _ gb)), by rw [hxs.length, hys.length]; exact szL hz, fun z => ?_, fun _ z => ?_, fun _ _ => c_newT (hxs.append hys) G2 H e2 w Q k⟩
    · subst z
      cases ds with
      | cons _ _ => cases hxs
      | nil => exact k _ _ _ (Stp.refl w) (hy0.mono e2)
    · subst z
      cases es with
      | cons _ _ => cases hys
      | nil =>
        rw [List.append_nil] at k
        exact k _ _ _ (Stp.refl w) (hx0.mono e2)
theorem d_rep {ds : List PyData} {n : Int} (ha : EvD m ta σ G (.list ds)) (hb : EvD m tb σ G (.int n)) (hn : 0 ≤ n ∧ n ≤ 1000) (hz : ds.length * n.toNat ≤ 1000000) : EvD m (tOp rRep ta tb) σ G (.list (List.replicate n.toNat ds).flatten) :=
  d_op ha hb fun x y G1 e hx hy => by
    obtain ⟨a, xs, rfl, ga, hxs⟩ := hx.lst_inv
    cases hy
    intro G2 H e2 w Q k
    exact ⟨a, n, xs, rfl, rfl, w.ex _ _ (e2 _ _ ga), by omega, by omega, by rw [hxs.length]; exact szL hz, c_newL (hxs.rep _) G2 H e2 w Q k⟩
/-! a[i], of what is made on the way -/
theorem d_ixT {ds : List PyData} {i : Int} (ha : EvD m ta σ G (.tuple ds)) (hb : EvD m tb σ G (.int i)) (h : atI ds i = some d) : EvD m (tOp (rIxT K) ta tb) σ G d :=
  d_op ha hb fun x y G1 e hx hy => by
    obtain ⟨a, xs, rfl, ga, hxs⟩ := hx.tup_inv
    cases hy
    obtain ⟨u, hu, hd⟩ := at_get hxs h
    intro G2 H e2 w Q k
    exact ⟨a, xs, i, u, rfl, rfl, st_of (w.ex _ _ (e2 _ _ ga)), hu, k _ _ _ (Stp.refl w) (hd.mono e2)⟩
theorem d_ixL {ds : List PyData} {i : Int} (ha : EvD m ta σ G (.list ds)) (hb : EvD m tb σ G (.int i)) (h : atI ds i = some d) : EvD m (tOp (rIxL K) ta tb) σ G d :=
  d_op ha hb fun x y G1 e hx hy => by
    obtain ⟨a, xs, rfl, ga, hxs⟩ := hx.lst_inv
    cases hy
    obtain ⟨u, hu, hd⟩ := at_get hxs h
    intro G2 H e2 w Q k
    exact ⟨a, xs, i, u, rfl, rfl, sq_of (w.ex _ _ (e2 _ _ ga)), hu, k _ _ _ (Stp.refl w) (hd.mono e2)⟩
/-- ints, one of them not at once -/
theorem d_add {i j : Int} (ha : EvD m ta σ G (.int i)) (hb : EvD m tb σ G (.int j)) : EvD m (tOp (rI0 fun i j => .int (i + j)) ta tb) σ G (.int (i + j)) :=
  d_op ha hb fun x y G1 e hx hy G2 H e2 w Q k => by
    cases hx
    cases hy
    exact ⟨i, j, rfl, rfl, k _ _ _ (Stp.refl w) (.int _)⟩
theorem d_sub {i j : Int} (ha : EvD m ta σ G (.int i)) (hb : EvD m tb σ G (.int j)) : EvD m (tOp (rI0 fun i j => .int (i - j)) ta tb) σ G (.int (i - j)) :=
  d_op ha hb fun x y G1 e hx hy G2 H e2 w Q k => by
    cases hx
    cases hy
    exact ⟨i, j, rfl, rfl, k _ _ _ (Stp.refl w) (.int _)⟩
/-! len, list, tuple -/
theorem d_lenT {ds : List PyData} (ha : EvD m ta σ G (.tuple ds)) : EvD m (tCB (rLenS K) (tCons ta tNil)) σ G (.int (ds.length : Int)) :=
  Cmp.cb (EvA.one ha) fun vs G1 e h => by
    obtain ⟨v, rfl, hv⟩ := h.one_inv
    obtain ⟨a, xs, rfl, ga, hxs⟩ := hv.tup_inv
    intro G2 H e2 w Q k
    exact ⟨a, xs, rfl, .inr (st_of (w.ex _ _ (e2 _ _ ga))), by rw [hxs.length]; exact k _ _ _ (Stp.refl w) (.int _)⟩
theorem d_lenL {ds : List PyData} (ha : EvD m ta σ G (.list ds)) : EvD m (tCB (rLenS K) (tCons ta tNil)) σ G (.int (ds.length : Int)) :=
  Cmp.cb (EvA.one ha) fun vs G1 e h => by
    obtain ⟨v, rfl, hv⟩ := h.one_inv
    obtain ⟨a, xs, rfl, ga, hxs⟩ := hv.lst_inv
    intro G2 H e2 w Q k
    exact ⟨a, xs, rfl, .inl (sq_of (w.ex _ _ (e2 _ _ ga))), by rw [hxs.length]; exact k _ _ _ (Stp.refl w) (.int _)⟩
theorem e_lenT {ds : List PyData} (ha : EvE ta σ G (.tuple ds)) : EvE (tCB (rLenS K) (tCons ta tNil)) σ G (.int (ds.length : Int)) := by
  obtain ⟨v, h1, h2⟩ := ha
  obtain ⟨a, xs, rfl, ga, hxs⟩ := h2.tup_inv
  exact ⟨.int (ds.length : Int), fun H e Q q => h1 H e _ ⟨a, xs, rfl, .inr (st_of (e _ _ ga)), by rw [hxs.length]; exact q⟩, .int _⟩
theorem e_lenL {ds : List PyData} (ha : EvE ta σ G (.list ds)) : EvE (tCB (rLenS K) (tCons ta tNil)) σ G (.int (ds.length : Int)) := by
  obtain ⟨v, h1, h2⟩ := ha
  obtain ⟨a, xs, rfl, ga, hxs⟩ := h2.lst_inv
  exact ⟨.int (ds.length : Int), fun H e Q q => h1 H e _ ⟨a, xs, rfl, .inl (sq_of (e _ _ ga)), by rw [hxs.length]; exact q⟩, .int _⟩
theorem d_listL {ds : List PyData} (ha : EvD m ta σ G (.list ds)) : EvD m (tCB (rListS K) (tCons ta tNil)) σ G (.list ds) :=
  Cmp.cb (EvA.one ha) fun vs G1 e h => by
    obtain ⟨v, rfl, hv⟩ := h.one_inv
    obtain ⟨a, xs, rfl, ga, hxs⟩ := hv.lst_inv
    intro G2 H e2 w Q k
    exact ⟨a, xs, rfl, .inl (sq_of (w.ex _ _ (e2 _ _ ga))), c_newL hxs G2 H e2 w Q k⟩
theorem d_listT {ds : List PyData} (ha : EvD m ta σ G (.tuple ds)) : EvD m (tCB (rListS K) (tCons ta tNil)) σ G (.list ds) :=
  Cmp.cb (EvA.one ha) fun vs G1 e h => by
    obtain ⟨v, rfl, hv⟩ := h.one_inv
    obtain ⟨a, xs, rfl, ga, hxs⟩ := hv.tup_inv
    intro G2 H e2 w Q k
    exact ⟨a, xs, rfl, .inr (st_of (w.ex _ _ (e2 _ _ ga))), c_newL hxs G2 H e2 w Q k⟩
theorem d_tupL {ds : List PyData} (ha : EvD m ta σ G (.list ds)) : EvD m (tThen ta (kTup K)) σ G (.tuple ds) :=
  Cmp.bind (f := ta σ) (g := fun (x : V) (H1 : Hp) (Q : VK) => kTup K x H1 Q) ha fun v G1 e hv => by
    obtain ⟨a, xs, rfl, ga, hxs⟩ := hv.lst_inv
    intro G2 H e2 w Q k
    exact .inl ⟨a, xs, rfl, sq_of (w.ex _ _ (e2 _ _ ga)), c_newT hxs G2 H e2 w Q k⟩
theorem p_tupL {R : List PyData → Prop} (ha : EvP m ta σ G (fun d => ∃ ds, d = .list ds ∧ R ds)) : EvP m (tThen ta (kTup K)) σ G (fun d => ∃ ds, d = .tuple ds ∧ R ds) :=
  Cmp.bind (f := ta σ) (g := fun (x : V) (H1 : Hp) (Q : VK) => kTup K x H1 Q) ha fun v G1 e ⟨d, ⟨ds, ed, hr⟩, hv⟩ => by
    subst ed
    obtain ⟨a, xs, rfl, ga, hxs⟩ := hv.lst_inv
    intro G2 H e2 w Q k
    exact .inl ⟨a, xs, rfl, sq_of (w.ex _ _ (e2 _ _ ga)), ((c_newT hxs).imp fun v G' _ k => ⟨_, ⟨ds, rfl, hr⟩, k⟩) G2 H e2 w Q k⟩
/-! tests -/
theorem t_val {b : Bool} (h : EvD m te σ G (.bool b)) : EvT m (tB te) σ G b := Cmp.bind (f := te σ) (g := fun (x : V) (H1 : Hp) (Q : Bool → Hp → Prop) => ∃ c, x = .bl c ∧ Q c H1) h fun v G1 e hv G2 H e2 w Q k => by
  cases hv
  exact ⟨b, rfl, k _ _ _ (Stp.refl w) rfl⟩
theorem t_test {b : Bool} (h : EvD m te σ G (.bool b)) : EvT m (tTest te) σ G b := Cmp.bind (f := te σ) (g := fun (x : V) (H1 : Hp) (Q : Bool → Hp → Prop) => ∃ c, x = .bl c ∧ Q c H1) h fun v G1 e hv G2 H e2 w Q k => by
  cases hv
  exact ⟨b, rfl, k _ _ _ (Stp.refl w) rfl⟩
theorem t_not {b : Bool} (h : EvT m tt σ G b) : EvT m (tNot tt) σ G (!b) := Cmp.bind (f := tt σ) (g := fun (c : Bool) (H1 : Hp) (Q : Bool → Hp → Prop) => Q (!c) H1) h fun v G1 e hv G2 H e2 w Q k => k _ _ _ (Stp.refl w) (by rw [hv])
theorem t_and {a b : Bool} (h1 : EvT m tt σ G a) (h2 : a = true → EvT m tu σ G b) : EvT m (tAnd tt tu) σ G (a && b) := Cmp.bind (f := tt σ) (g := fun (c : Bool) (H1 : Hp) (Q : Bool → Hp → Prop) => if c = true then tu σ H1 Q else Q false H1) h1 fun c G1 e hc => by
  subst hc
  cases c with
  | true => exact (h2 rfl).mono e
  | false => exact fun G2 H e2 w Q k => k _ _ _ (Stp.refl w) rfl
theorem t_or {a b : Bool} (h1 : EvT m tt σ G a) (h2 : a = false → EvT m tu σ G b) : EvT m (tOr tt tu) σ G (a || b) := Cmp.bind (f := tt σ) (g := fun (c : Bool) (H1 : Hp) (Q : Bool → Hp → Prop) => if c = true then Q true H1 else tu σ H1 Q) h1 fun c G1 e hc => by
  subst hc
  cases c with
  | true => exact fun G2 H e2 w Q k => k _ _ _ (Stp.refl w) rfl
  | false => exact (h2 rfl).mono e
theorem d_if {b : Bool} (h : EvT m tt σ G b) (h1 : b = true → EvD m ta σ G d) (h2 : b = false → EvD m tb σ G d) : EvD m (tIf tt ta tb) σ G d := Cmp.bind (f := tt σ) (g := fun (c : Bool) (H1 : Hp) (Q : VK) => if c = true then ta σ H1 Q else tb σ H1 Q) h fun c G1 e hc => by
  subst hc
  cases c with
  | true => exact (h1 rfl).mono e
  | false => exact (h2 rfl).mono e
theorem p_if {b : Bool} {P : PyData → Prop} (h : EvT m tt σ G b) (h1 : b = true → EvP m ta σ G P) (h2 : b = false → EvP m tb σ G P) : EvP m (tIf tt ta tb) σ G P := Cmp.bind (f := tt σ) (g := fun (c : Bool) (H1 : Hp) (Q : VK) => if c = true then ta σ H1 Q else tb σ H1 Q) h fun c G1 e hc => by
  subst hc
  cases c with
  | true => exact (h1 rfl).mono e
  | false => exact (h2 rfl).mono e
theorem d_andV {a b : Bool} (h1 : EvD m ta σ G (.bool a)) (h2 : a = true → EvD m tb σ G (.bool b)) : EvD m (tAndV ta tb) σ G (.bool (a && b)) := Cmp.bind (f := ta σ) (g := fun (x : V) (H1 : Hp) (Q : VK) => ∃ c, x = .bl c ∧ if c = true then tb σ H1 Q else Q (.bl false) H1) h1 fun v G1 e hv => by
  cases hv
  cases a with
  | true => exact fun G2 H e2 w Q k => ⟨true, rfl, h2 rfl G2 H (e.trans e2) w Q k⟩
  | false => exact fun G2 H e2 w Q k => ⟨false, rfl, k _ _ _ (Stp.refl w) (.bl _)⟩
theorem d_notV {a : Bool} (h1 : EvD m ta σ G (.bool a)) : EvD m (tNotV ta) σ G (.bool (!a)) := Cmp.bind (f := ta σ) (g := fun (x : V) (H1 : Hp) (Q : VK) => ∃ c, x = .bl c ∧ Q (.bl (!c)) H1) h1 fun v G1 e hv G2 H e2 w Q k => by
  cases hv
  exact ⟨a, rfl, k _ _ _ (Stp.refl w) (.bl _)⟩
theorem d_cmpI {g : Int → Int → Bool} {i j : Int} (ha : EvD m ta σ G (.int i)) (hb : EvD m tb σ G (.int j)) : EvD m (tOp (rI0 fun i j => .bl (g i j)) ta tb) σ G (.bool (g i j)) :=
  d_op ha hb fun x y G1 e hx hy G2 H e2 w Q k => by
    cases hx
    cases hy
    exact ⟨i, j, rfl, rfl, k _ _ _ (Stp.refl w) (.bl _)⟩
theorem d_eqI {i j : Int} (ha : EvD m ta σ G (.int i)) (hb : EvD m tb σ G (.int j)) : EvD m (tOp rEq ta tb) σ G (.bool (decide (i = j))) :=
  d_op ha hb fun x y G1 e hx hy G2 H e2 w Q k => by
    cases hx
    cases hy
    refine ⟨rfl, ?_⟩
    have q : decide (V.int i = V.int j) = decide (i = j) := decide_eq_decide.mpr ⟨V.int.inj, fun z => by rw [z]⟩
    rw [q]
    exact k _ _ _ (Stp.refl w) (.bl _)
theorem d_neI {i j : Int} (ha : EvD m ta σ G (.int i)) (hb : EvD m tb σ G (.int j)) : EvD m (tOp rNe ta tb) σ G (.bool (!decide (i = j))) :=
  d_op ha hb fun x y G1 e hx hy G2 H e2 w Q k => by
    cases hx
    cases hy
    refine ⟨rfl, ?_⟩
    have q : decide (V.int i = V.int j) = decide (i = j) := decide_eq_decide.mpr ⟨V.int.inj, fun z => by rw [z]⟩
    rw [q]
    exact k _ _ _ (Stp.refl w) (.bl _)
/-- == and != of data -/
theorem d_eqD {d1 d2 : PyData} (ha : EvD m ta σ G d1) (hb : EvD m tb σ G d2) (h1 : SeqAt.shaped d1 = true) (h2 : SeqAt.shaped d2 = true) : EvD m (tOp (rEqD K) ta tb) σ G (.bool (PyData.eqv d1 d2)) :=
  d_op ha hb fun x y G1 e hx hy G2 H e2 w Q k => ⟨d1, d2, ((hx.mono e2).mono w.ex).dp, ((hy.mono e2).mono w.ex).dp, h1, h2, k _ _ _ (Stp.refl w) (.bl _)⟩
theorem d_neD {d1 d2 : PyData} (ha : EvD m ta σ G d1) (hb : EvD m tb σ G d2) (h1 : SeqAt.shaped d1 = true) (h2 : SeqAt.shaped d2 = true) : EvD m (tOp (rNeD K) ta tb) σ G (.bool (!PyData.eqv d1 d2)) :=
  d_op ha hb fun x y G1 e hx hy G2 H e2 w Q k => ⟨d1, d2, ((hx.mono e2).mono w.ex).dp, ((hy.mono e2).mono w.ex).dp, h1, h2, k _ _ _ (Stp.refl w) (.bl _)⟩
theorem inV_ints (i : Int) : ∀ ns : List Int, inV (.int i) (ns.map V.int) = decide (i ∈ ns)
  | [] => by simp [inV]
  | n :: ns => by
    have ih := inV_ints i ns
    unfold inV at ih ⊢
    rw [List.map_cons, List.any_cons, ih]
    by_cases e : n = i
    · subst e
      simp [eqV]
    · have e' : ¬ i = n := fun z => e z.symm
      simp [eqV, e, e']
theorem flat_ints : ∀ ns : List Int, (ns.map V.int).all flatV = true
  | [] => rfl
  | n :: ns => by
    rw [List.map_cons, List.all_cons, flat_ints ns]
    rfl
theorem d_inT {neg : Bool} {i : Int} {ns : List Int} (ha : EvD m ta σ G (.int i)) (hb : EvD m tb σ G (.tuple (ns.map .int))) : EvD m (tOp (rIn K neg) ta tb) σ G (.bool (if neg = true then !decide (i ∈ ns) else decide (i ∈ ns))) :=
  d_op ha hb fun x y G1 e hx hy => by
    cases hx
    obtain ⟨a, xs, rfl, ga, hxs⟩ := hy.tup_inv
    cases dts_ints_inv hxs
    intro G2 H e2 w Q k
    refine ⟨a, _, rfl, .inr (st_of (w.ex _ _ (e2 _ _ ga))), rfl, flat_ints ns, ?_⟩
    rw [inV_ints]
    exact k _ _ _ (Stp.refl w) (.bl _)
theorem d_inL {neg : Bool} {i : Int} {ns : List Int} (ha : EvD m ta σ G (.int i)) (hb : EvD m tb σ G (.list (ns.map .int))) : EvD m (tOp (rIn K neg) ta tb) σ G (.bool (if neg = true then !decide (i ∈ ns) else decide (i ∈ ns))) :=
  d_op ha hb fun x y G1 e hx hy => by
    cases hx
    obtain ⟨a, xs, rfl, ga, hxs⟩ := hy.lst_inv
    cases dts_ints_inv hxs
    intro G2 H e2 w Q k
    refine ⟨a, _, rfl, .inl (sq_of (w.ex _ _ (e2 _ _ ga))), rfl, flat_ints ns, ?_⟩
    rw [inV_ints]
    exact k _ _ _ (Stp.refl w) (.bl _)
end
end R45
end
section
set_option Elab.async false
set_option linter.all false
set_option maxRecDepth 100000
set_option maxHeartbeats 2000000
/-! layer 1, third part: what is walked, comprehensions, statements, loops. -/
namespace R45
open PySem PySem.Spec PyProof.Rows L2 Evl
/-- the iterator gives the data ds, one by one, as long as G is known -/
structure WalkD (J : It) (G : Hp) (ds : List PyData) : Prop where
  goes : ∀ i H, Ex G H → i < ds.length → J.go i H
  stops : ∀ H, Ex G H → J.stop ds.length H
  yields : ∀ i d H x H' (m : Mode) G1, Ex G G1 → W m G1 H → ds[i]? = some d → J.yld i H x H' → ∃ G', Stp m G1 H G' H' ∧ Dt G' x d
def EvI (m : Mode) (wi : TI) (σ : L2.St) (G : Hp) (ds : List PyData) : Prop := Cmp m G (wi σ) fun J G' => WalkD J G' ds
section
variable {m : Mode} {σ : L2.St} {G G' : Hp} {te ta tb tc tl : TE} {tt tu : TT} {d d' : PyData} {v : V} {K : PySem.W.Frag} {ds es : List PyData}
theorem EvI.mono {wi : TI} (h : EvI m wi σ G ds) (e : Ex G G') : EvI m wi σ G' ds := Cmp.mono h e
theorem walkD_of {J : It} {xs : List V} {Gw : Hp → Prop} {Y : Nat → Hp → V → Hp → Prop} (w : Walk J ds.length Gw Y) (hg : ∀ H, Ex G H → Gw H)
    (hy : ∀ i d H x H' (m : Mode) G1, Ex G G1 → W m G1 H → ds[i]? = some d → Y i H x H' → ∃ G', Stp m G1 H G' H' ∧ Dt G' x d) : WalkD J G ds :=
  ⟨fun i H e hi => w.goes i H hi (hg H e), fun H e => w.stops H (hg H e), fun i d H x H' m G1 e W hd y => hy i d H x H' m G1 e W hd (w.yields i H x H' (List.getElem?_eq_some_iff.mp hd).1 (hg H (e.trans W.ex)) y)⟩
theorem walkD_list {a : Addr} {xs : List V} (ga : G a = some (.lst xs)) (h : Dts G xs ds) : WalkD (Itl K a) G ds := by
  have w : Walk (Itl K a) ds.length (fun H => SqL K H a xs) (YAt xs) := by
    rw [← h.length]
    exact walk_list
  refine walkD_of (xs := xs) w (fun H e => sq_of (e _ _ ga)) fun i d H x H' m G1 e W hd y => ?_
  obtain ⟨rfl, hx⟩ := y
  obtain ⟨d2, e2, hv⟩ := h.getV hx
  rw [hd] at e2
  cases e2
  exact ⟨G1, Stp.refl W, hv.mono e⟩
theorem walkD_tup {a : Addr} {xs : List V} (ga : G a = some (.tup xs)) (h : Dts G xs ds) : WalkD (Itt K a) G ds := by
  have w : Walk (Itt K a) ds.length (fun H => SqT K H a xs) (YAt xs) := by
    rw [← h.length]
    exact walk_tup
  refine walkD_of (xs := xs) w (fun H e => st_of (e _ _ ga)) fun i d H x H' m G1 e W hd y => ?_
  obtain ⟨rfl, hx⟩ := y
  obtain ⟨d2, e2, hv⟩ := h.getV hx
  rw [hd] at e2
  cases e2
  exact ⟨G1, Stp.refl W, hv.mono e⟩
def rangeD (lo : Int) (n : Nat) : List PyData := (List.range n).map fun i : Nat => .int (lo + (i : Int))
theorem rangeD_len (lo : Int) (n : Nat) : (rangeD lo n).length = n := by simp [rangeD]
theorem rangeD_get {lo : Int} {n i : Nat} {d : PyData} (h : (rangeD lo n)[i]? = some d) : i < n ∧ d = .int (lo + (i : Int)) := by
  unfold rangeD at h
  rw [List.getElem?_map] at h
  obtain ⟨j, hj, e⟩ := Option.map_eq_some_iff.mp h
  obtain ⟨h1, h2⟩ := List.getElem?_eq_some_iff.mp hj
  rw [List.length_range] at h1
  rw [List.getElem_range] at h2
  subst h2
  exact ⟨h1, e.symm⟩
theorem walkD_range {lo : Int} {n : Nat} : WalkD (Itr lo n) G (rangeD lo n) := by
  have w : Walk (Itr lo n) (rangeD lo n).length (fun _ => True) (YFn fun i => .int (lo + (i : Int))) := by
    rw [rangeD_len]
    exact walk_range
  refine walkD_of (xs := []) w (fun H e => trivial) fun i d H x H' m G1 e W hd y => ?_
  obtain ⟨rfl, rfl⟩ := y
  obtain ⟨_, rfl⟩ := rangeD_get hd
  exact ⟨G1, Stp.refl W, .int _⟩
theorem i_list (h : EvD m tl σ G (.list ds)) : EvI m (iList K tl) σ G ds :=
  Cmp.bind (f := tl σ) (g := fun (x : V) (H1 : Hp) (R : It → Hp → Prop) => ∃ a, x = .ref a ∧ (∃ xs, SqL K H1 a xs) ∧ R (Itl K a) H1) h fun v G1 e hv => by
    obtain ⟨a, xs, rfl, ga, hxs⟩ := hv.lst_inv
    intro G2 H e2 w Q k
    exact ⟨a, rfl, ⟨xs, sq_of (w.ex _ _ (e2 _ _ ga))⟩, k _ _ _ (Stp.refl w) (walkD_list (e2 _ _ ga) (hxs.mono e2))⟩
theorem i_tup (h : EvD m tl σ G (.tuple ds)) : EvI m (iTup K tl) σ G ds :=
  Cmp.bind (f := tl σ) (g := fun (x : V) (H1 : Hp) (R : It → Hp → Prop) => ∃ a, x = .ref a ∧ (∃ xs, SqT K H1 a xs) ∧ R (Itt K a) H1) h fun v G1 e hv => by
    obtain ⟨a, xs, rfl, ga, hxs⟩ := hv.tup_inv
    intro G2 H e2 w Q k
    exact ⟨a, rfl, ⟨xs, st_of (w.ex _ _ (e2 _ _ ga))⟩, k _ _ _ (Stp.refl w) (walkD_tup (e2 _ _ ga) (hxs.mono e2))⟩
theorem i_rng1 {n : Nat} (h : EvD m ta σ G (.int (n : Int))) (hn : n ≤ 1000000) : EvI m (iRng1 (tCons ta tNil)) σ G (rangeD 0 n) :=
  Cmp.bind (f := tCons ta tNil σ) (g := fun (vs : List V) (H1 : Hp) (R : It → Hp → Prop) => ∃ j : Int, vs = [.int j] ∧ -(2 ^ 62) ≤ j ∧ j < 2 ^ 62 ∧ R (Itr 0 j.toNat) H1) (EvA.one h) fun vs G1 e hvs => by
    obtain ⟨v, rfl, hv⟩ := hvs.one_inv
    cases hv
    intro G2 H e2 w Q k
    exact ⟨n, rfl, by omega, by omega, k _ _ _ (Stp.refl w) (by rw [Int.toNat_natCast]; exact walkD_range)⟩
theorem i_rng2 {lo hi : Int} {n : Nat} (h1 : EvD m ta σ G (.int lo)) (h2 : EvD m tb σ G (.int hi)) (hn : (hi - lo).toNat = n) (hb : -1000000 ≤ lo ∧ lo ≤ 1000000 ∧ -1000000 ≤ hi ∧ hi ≤ 1000000) : EvI m (iRng2 (tCons ta (tCons tb tNil))) σ G (rangeD lo n) :=
  Cmp.bind (f := tCons ta (tCons tb tNil) σ) (g := fun (vs : List V) (H1 : Hp) (R : It → Hp → Prop) => ∃ i j : Int, vs = [.int i, .int j] ∧ (-(2 ^ 62) ≤ i ∧ i < 2 ^ 62 ∧ -(2 ^ 62) ≤ j ∧ j < 2 ^ 62) ∧ R (Itr i (j - i).toNat) H1) (a_cons h1 (EvA.one h2)) fun vs G1 e hvs => by
    obtain ⟨v, u, rfl, hv, hu⟩ := hvs.two_inv
    cases hv
    cases hu
    intro G2 H e2 w Q k
    exact ⟨lo, hi, rfl, ⟨by omega, by omega, by omega, by omega⟩, k _ _ _ (Stp.refl w) (by rw [hn]; exact walkD_range)⟩
/-! enumerate, zip: new pairs -/
theorem walkD_pair {J : It} {xs ys : Nat → Option V} {Gw : Hp → Prop} {d1 d2 : Nat → PyData} {n : Nat} (w : Walk J n Gw (YPair xs ys)) (hg : ∀ H, Ex G H → Gw H)
    (h1 : ∀ i v, xs i = some v → i < n → Dt G v (d1 i)) (h2 : ∀ i v, ys i = some v → i < n → Dt G v (d2 i)) : WalkD J G ((List.range n).map fun i => .tuple [d1 i, d2 i]) := by
  have w' : Walk J ((List.range n).map fun i => PyData.tuple [d1 i, d2 i]).length Gw (YPair xs ys) := by
    rw [List.length_map, List.length_range]
    exact w
  refine walkD_of (xs := []) w' hg fun i d H x H' m G1 e W hd y => ?_
  rw [List.getElem?_map] at hd
  obtain ⟨j, hj, ed⟩ := Option.map_eq_some_iff.mp hd
  obtain ⟨hj1, hj2⟩ := List.getElem?_eq_some_iff.mp hj
  rw [List.length_range] at hj1
  rw [List.getElem_range] at hj2
  subst hj2
  obtain ⟨T, x1, y1, rfl, hT, rfl, f1, f2⟩ := y
  refine ⟨upd G1 T (.tup [x1, y1]), Stp.new W hT, ?_⟩
  rw [← ed]
  have e2 : Ex G (upd G1 T (.tup [x1, y1])) := e.trans (Ex.new (W.low hT))
  exact .tup upd_same (.cons ((h1 i _ f1 hj1).mono e2) (.cons ((h2 i _ f2 hj1).mono e2) .nil))
/-- the data of enumerate(..), of zip(.., ..) -/
def enumD (ds : List PyData) : List PyData := (List.range ds.length).map fun i : Nat => .tuple [.int ((i : Nat) : Int), ds.getD i .none]
def zipD (ds es : List PyData) : List PyData := (List.range (min ds.length es.length)).map fun i => .tuple [ds.getD i .none, es.getD i .none]
theorem getD_dt {xs : List V} {i : Nat} {v : V} (h : Dts G xs ds) (hx : xs[i]? = some v) : Dt G v (ds.getD i .none) := by
  obtain ⟨d, e, hv⟩ := h.getV hx
  rw [List.getD_eq_getElem?_getD, e]
  exact hv
theorem i_enumL (h : EvD m ta σ G (.list ds)) : EvI m (iEnum K (tCons ta tNil)) σ G (enumD ds) :=
  Cmp.bind (f := tCons ta tNil σ) (g := fun (vs : List V) (H1 : Hp) (R : It → Hp → Prop) => ∃ a xs, vs = [.ref a] ∧ SqL K H1 a xs ∧ R (Ite K a) H1) (EvA.one h) fun vs G1 e hvs => by
    obtain ⟨v, rfl, hv⟩ := hvs.one_inv
    obtain ⟨a, xs, rfl, ga, hxs⟩ := hv.lst_inv
    intro G2 H e2 w Q k
    refine ⟨a, xs, rfl, sq_of (w.ex _ _ (e2 _ _ ga)), k _ _ _ (Stp.refl w) ?_⟩
    have wk : Walk (Ite K a) ds.length (fun H => SqL K H a xs) (YPair (fun i => some (.int (i : Nat))) (fun i => xs[i]?)) := by
      rw [← hxs.length]
      exact walk_enum
    exact walkD_pair wk (fun H e3 => sq_of (e3 _ _ (e2 _ _ ga))) (fun i v hv _ => by cases hv; exact .int _) (fun i v hv _ => (getD_dt hxs hv).mono e2)
theorem i_zipL (h1 : EvD m ta σ G (.list ds)) (h2 : EvD m tb σ G (.list es)) : EvI m (iZip K (tCons ta (tCons tb tNil))) σ G (zipD ds es) :=
  Cmp.bind (f := tCons ta (tCons tb tNil) σ) (g := fun (vs : List V) (H1 : Hp) (R : It → Hp → Prop) => ∃ a b xs ys, vs = [.ref a, .ref b] ∧ SqL K H1 a xs ∧ SqL K H1 b ys ∧ R (Itz K a b) H1) (a_cons h1 (EvA.one h2)) fun vs G1 e hvs => by
    obtain ⟨v, u, rfl, hv, hu⟩ := hvs.two_inv
    obtain ⟨a, xs, rfl, ga, hxs⟩ := hv.lst_inv
    obtain ⟨b, ys, rfl, gb, hys⟩ := hu.lst_inv
    intro G2 H e2 w Q k
    refine ⟨a, b, xs, ys, rfl, sq_of (w.ex _ _ (e2 _ _ ga)), sq_of (w.ex _ _ (e2 _ _ gb)), k _ _ _ (Stp.refl w) ?_⟩
    have wk : Walk (Itz K a b) (min ds.length es.length) (fun H => SqL K H a xs ∧ SqL K H b ys) (YPair (fun i => xs[i]?) (fun i => ys[i]?)) := walk_zip (by rw [hxs.length, hys.length])
    exact walkD_pair wk (fun H e3 => ⟨sq_of (e3 _ _ (e2 _ _ ga)), sq_of (e3 _ _ (e2 _ _ gb))⟩) (fun i v hv _ => (getD_dt hxs hv).mono e2) (fun i v hv _ => (getD_dt hys hv).mono e2)
/-! ### the target takes the item -/
/-- behind g the slots are σ', σ' told by the values that the item has -/
def Takes1 (g : TG) (σ : L2.St) (G : Hp) (d : PyData) (P : L2.St → Hp → Prop) : Prop := ∀ x G1 H, Ex G G1 → Ex G1 H → Dt G1 x d → ∀ Q : L2.St → Hp → Prop, (∀ σ', P σ' G1 → Q σ' H) → g x σ H Q
theorem g_name {j : Nat} : Takes1 (gName j) σ G d fun σ' G1 => ∃ x, Dt G1 x d ∧ σ' = σ.set j (some x) := fun x G1 H e1 e2 hx Q k => k _ ⟨x, hx, rfl⟩
theorem g_pair {i j : Nat} {d1 d2 : PyData} : Takes1 (gTup K 2 (gCons (gName i) (gCons (gName j) gNil))) σ G (.tuple [d1, d2]) fun σ' G1 => ∃ x y, Dt G1 x d1 ∧ Dt G1 y d2 ∧ σ' = (σ.set i (some x)).set j (some y) := fun x G1 H e1 e2 hx Q k => by
  obtain ⟨a, xs, rfl, ga, hxs⟩ := hx.tup_inv
  obtain ⟨v, u, rfl, hv, hu⟩ := hxs.two_inv
  exact ⟨a, _, rfl, st_of (e2 _ _ ga), rfl, v, [u], rfl, u, [], rfl, rfl, k _ ⟨v, u, hv, hu, rfl⟩⟩
/-! ### comprehensions -/
theorem filter_snoc {α : Type} (f : α → Bool) (l : List α) (x : α) : (l ++ [x]).filter f = if f x = true then l.filter f ++ [x] else l.filter f := by
  rw [List.filter_append]
  cases h : f x <;> simp [List.filter_cons, h]
theorem prSnoc {α β : Type} {R : α → β → Prop} : ∀ {l : List α} {k : List β} {x : α} {y : β}, Paired R l k → R x y → Paired R (l ++ [x]) (k ++ [y])
  | _, _, _, _, .nil, r => .cons r .nil
  | _, _, _, _, .cons a t, r => .cons a (prSnoc t r)
theorem prLen {α β : Type} {R : α → β → Prop} : ∀ {l : List α} {k : List β}, Paired R l k → l.length = k.length
  | _, _, .nil => rfl
  | _, _, .cons a t => by rw [List.length_cons, List.length_cons, prLen t]
theorem prFn {α β : Type} {f : α → β} : ∀ {l : List α} {k : List β}, Paired (fun a b => b = f a) l k → k = l.map f
  | _, _, .nil => rfl
  | _, _, .cons a t => by rw [List.map_cons, ← prFn t, a]
/-- [e for x in .. if ..]: the items are enc of the xs; F: which are kept, Pe: what the element's datum may be -/
theorem n_lc {α : Type} {xs : List α} {enc : α → PyData} {wi : TI} {g : TG} {vs : List Nat} {Pσ : α → L2.St → Hp → Prop} (F : α → Bool) (Pe : α → PyData → Prop) (hi : EvI m wi σ G (xs.map enc)) (hz : xs.length ≤ 1000000)
    (hg : ∀ x ∈ xs, ∀ G1, Ex G G1 → Takes1 g (wipe σ vs) G1 (enc x) (Pσ x)) (hw : ∀ x ∈ xs, ∀ σ' G1, Pσ x σ' G1 → wipe σ' vs = wipe σ vs)
    (ht : ∀ x ∈ xs, ∀ σ' G1, Ex G G1 → Pσ x σ' G1 → EvT m tt σ' G1 (F x)) (he : ∀ x ∈ xs, ∀ σ' G1, Ex G G1 → Pσ x σ' G1 → F x = true → EvP m te σ' G1 (Pe x))
    (mono : ∀ x σ' G1 G2, Ex G1 G2 → Pσ x σ' G1 → Pσ x σ' G2) :
    Cmp m G (tLc wi g tt te vs σ) (fun v G' => ∃ l acc es, v = .ref l ∧ G l = none ∧ G' l = some (.lst acc) ∧ Dts G' acc es ∧ Paired Pe (xs.filter F) es) := by
  refine Cmp.bind (f := wi σ) (g := fun (J : It) (H1 : Hp) (Q : VK) => ∀ D, H1 D = none → ∃ W : Nat → Nat → Hp → Prop, (∃ m, W 0 m (upd H1 D (.lst []))) ∧ ∀ i m H, W i m H →
    (J.stop i H ∧ Q (.ref D) H) ∨ (J.go i H ∧ ∃ Nx : Hp → Prop, (∀ H', Nx H' → ∃ m', m' < m ∧ W (i + 1) m' H') ∧ ∀ x H', J.yld i H x H' → g x (wipe σ vs) H' fun σ2 H2 => wipe σ2 vs = wipe σ vs ∧ tt σ2 H2 fun b H3 =>
      if b = true then te σ2 H3 fun y H4 => ∃ acc, H4 D = some (.lst acc) ∧ acc.length < sizeLine ∧ Nx (upd H4 D (.lst (acc ++ [y]))) else Nx H3)) hi fun J G1 e1 hJ => ?_
  intro G2 H2 e2 w Q k D hD
  have nD := w.low hD
  have mD := w.newM hD
  let Pv : Nat → Hp → Prop := fun i H => ∃ G' acc es, Stp m G2 H2 G' H ∧ G' D = none ∧ H D = some (.lst acc) ∧ Dts G' acc es ∧ Paired Pe ((xs.take i).filter F) es
  refine ⟨fun i k H => k = xs.length - i ∧ i ≤ xs.length ∧ Pv i H, ⟨xs.length, by simp, Nat.zero_le _, ?_⟩, ?_⟩
  · exact ⟨G2, [], [], Stp.own w hD, nD, upd_same, .nil, by simpa using Paired.nil⟩
  rintro i n H ⟨rfl, hi', hP⟩
  obtain ⟨G', acc, es, s, gD, hd, ha, hp⟩ := hP
  have hE : Ex G1 G' := e2.trans s.ex
  have w' := s.w w
  have hl : acc.length ≤ i := by
    rw [ha.length, ← prLen hp]
    refine Nat.le_trans (List.length_filter_le _ _) ?_
    rw [List.length_take]
    exact Nat.min_le_left _ _
  by_cases hlt : i < xs.length
  · refine .inr ⟨hJ.goes i H (hE.trans s.le) (by rw [List.length_map]; exact hlt), Pv (i + 1), fun H' p' => ⟨xs.length - (i + 1), by omega, rfl, hlt, p'⟩, fun x H' y => ?_⟩
    have hx : xs[i]? = some xs[i] := List.getElem?_eq_getElem hlt
    have hmem : xs[i] ∈ xs := List.getElem_mem hlt
    obtain ⟨G3, s3, hxd⟩ := hJ.yields i (enc xs[i]) H x H' m G' hE w' (by rw [List.getElem?_map, hx]; rfl) y
    have w3 := s3.w w'
    have eT : xs.take (i + 1) = xs.take i ++ [xs[i]] := by rw [List.take_add_one, hx]; rfl
    refine hg _ hmem G3 (e1.trans (hE.trans s3.ex)) x G3 H' (Ex.refl _) w3.ex hxd _ fun σ' hσ => ⟨hw _ hmem σ' G3 hσ, ?_⟩
    have E3 : Ex G G3 := e1.trans (hE.trans s3.ex)
    refine (ht _ hmem σ' G3 E3 hσ).go w3 fun b G4 H4 s4 hb => ?_
    subst hb
    have w4 := s4.w w3
    have d3 := s3.mine mD gD hd
    have d4 := s4.mine mD d3.2 d3.1
    have S4 : Stp m G2 H2 G4 H4 := (s.trans w s3).trans w s4
    cases hF : F xs[i] with
    | true =>
      show te σ' H4 fun y H4 => ∃ acc, H4 D = some (.lst acc) ∧ acc.length < sizeLine ∧ Pv (i + 1) (upd H4 D (.lst (acc ++ [y])))
      refine (he _ hmem σ' G4 (E3.trans s4.ex) (mono _ _ _ _ s4.ex hσ) hF).go w4 fun y G5 H5 s5 ⟨e, hpe, hy⟩ => ?_
      have d5 := s5.mine mD d4.2 d4.1
      refine ⟨acc, d5.1, szT (by omega), G5, acc ++ [y], es ++ [e], (S4.trans w s5).mut w hD d5.2 (fun φ z => by rw [d5.1] at z; cases z), d5.2, upd_same, (ha.mono (s3.ex.trans (s4.ex.trans s5.ex))).snoc hy, ?_⟩
      rw [eT, filter_snoc, if_pos hF]
      exact prSnoc hp hpe
    | false =>
      show Pv (i + 1) H4
      refine ⟨G4, acc, es, S4, d4.2, d4.1, ha.mono (s3.ex.trans s4.ex), ?_⟩
      rw [eT, filter_snoc, if_neg (by rw [hF]; decide)]
      exact hp
  · have e : i = xs.length := by omega
    subst e
    refine .inl ⟨?_, k _ (upd G' D (.lst acc)) H (s.tell hD gD hd) ⟨D, acc, es, rfl, fresh_back (e1.trans e2) nD, upd_same, ha.mono (Ex.new gD), ?_⟩⟩
    · have q := hJ.stops H (hE.trans s.le)
      rw [List.length_map] at q
      exact q
    · rw [List.take_length] at hp
      exact hp
theorem p_lc {α : Type} {xs : List α} {enc : α → PyData} {wi : TI} {g : TG} {vs : List Nat} {Pσ : α → L2.St → Hp → Prop} (F : α → Bool) (Pe : α → PyData → Prop) (hi : EvI m wi σ G (xs.map enc)) (hz : xs.length ≤ 1000000)
    (hg : ∀ x ∈ xs, ∀ G1, Ex G G1 → Takes1 g (wipe σ vs) G1 (enc x) (Pσ x)) (hw : ∀ x ∈ xs, ∀ σ' G1, Pσ x σ' G1 → wipe σ' vs = wipe σ vs)
    (ht : ∀ x ∈ xs, ∀ σ' G1, Ex G G1 → Pσ x σ' G1 → EvT m tt σ' G1 (F x)) (he : ∀ x ∈ xs, ∀ σ' G1, Ex G G1 → Pσ x σ' G1 → F x = true → EvP m te σ' G1 (Pe x))
    (mono : ∀ x σ' G1 G2, Ex G1 G2 → Pσ x σ' G1 → Pσ x σ' G2) :
    EvP m (tLc wi g tt te vs) σ G (fun d => ∃ es, d = .list es ∧ Paired Pe (xs.filter F) es) :=
  (n_lc F Pe hi hz hg hw ht he mono).imp fun v G' _ ⟨l, acc, es, e1, _, e3, e4, e5⟩ => ⟨.list es, ⟨es, rfl, e5⟩, by rw [e1]; exact .lst e3 e4⟩
/-- the same, the data told by a function -/
theorem d_lc {α : Type} {xs : List α} {enc : α → PyData} {wi : TI} {g : TG} {vs : List Nat} {Pσ : α → L2.St → Hp → Prop} (F : α → Bool) (E : α → PyData) (hi : EvI m wi σ G (xs.map enc)) (hz : xs.length ≤ 1000000)
    (hg : ∀ x ∈ xs, ∀ G1, Ex G G1 → Takes1 g (wipe σ vs) G1 (enc x) (Pσ x)) (hw : ∀ x ∈ xs, ∀ σ' G1, Pσ x σ' G1 → wipe σ' vs = wipe σ vs)
    (ht : ∀ x ∈ xs, ∀ σ' G1, Ex G G1 → Pσ x σ' G1 → EvT m tt σ' G1 (F x)) (he : ∀ x ∈ xs, ∀ σ' G1, Ex G G1 → Pσ x σ' G1 → F x = true → EvD m te σ' G1 (E x))
    (mono : ∀ x σ' G1 G2, Ex G1 G2 → Pσ x σ' G1 → Pσ x σ' G2) :
    EvD m (tLc wi g tt te vs) σ G (.list ((xs.filter F).map E)) :=
  Cmp.imp (p_lc F (fun x d => d = E x) hi hz hg hw ht (fun x hx σ' G1 e p f => (he x hx σ' G1 e p f).P) mono) fun v G' _ ⟨d, ⟨es, ed, hp⟩, hv⟩ => by
    rw [← prFn hp, ← ed]
    exact hv
/-- the target is a name -/
def P1 (σ : L2.St) (vs : List Nat) (j : Nat) {α : Type} (enc : α → PyData) : α → L2.St → Hp → Prop := fun x σ' G1 => ∃ v, Dt G1 v (enc x) ∧ σ' = (wipe σ vs).set j (some v)
def P2 (σ : L2.St) (vs : List Nat) (i j : Nat) {α : Type} (e1 e2 : α → PyData) : α → L2.St → Hp → Prop := fun x σ' G1 => ∃ v u, Dt G1 v (e1 x) ∧ Dt G1 u (e2 x) ∧ σ' = ((wipe σ vs).set i (some v)).set j (some u)
theorem P1.mono {α : Type} {enc : α → PyData} {vs : List Nat} {j : Nat} : ∀ x σ' G1 G2, Ex G1 G2 → P1 σ vs j enc x σ' G1 → P1 σ vs j enc x σ' G2 := fun x σ' G1 G2 e ⟨v, h, q⟩ => ⟨v, h.mono e, q⟩
theorem P2.mono {α : Type} {e1 e2 : α → PyData} {vs : List Nat} {i j : Nat} : ∀ x σ' G1 G2, Ex G1 G2 → P2 σ vs i j e1 e2 x σ' G1 → P2 σ vs i j e1 e2 x σ' G2 := fun x σ' G1 G2 e ⟨v, u, h, h', q⟩ => ⟨v, u, h.mono e, h'.mono e, q⟩
/-- one name j, its own: vs = [j] -/
theorem d_lc1 {α : Type} {xs : List α} {enc : α → PyData} {wi : TI} {j : Nat} (F : α → Bool) (E : α → PyData) (hi : EvI m wi σ G (xs.map enc)) (hz : xs.length ≤ 1000000)
    (ht : ∀ x ∈ xs, ∀ v G1, Ex G G1 → Dt G1 v (enc x) → EvT m tt ((σ.set j none).set j (some v)) G1 (F x)) (he : ∀ x ∈ xs, ∀ v G1, Ex G G1 → Dt G1 v (enc x) → F x = true → EvD m te ((σ.set j none).set j (some v)) G1 (E x)) :
    EvD m (tLc wi (gName j) tt te [j]) σ G (.list ((xs.filter F).map E)) :=
  d_lc (Pσ := P1 σ [j] j enc) F E hi hz (fun x _ G1 _ => g_name) (fun x _ σ' G1 ⟨v, _, q⟩ => by rw [q]; simp [wipe])
    (fun x hx σ' G1 e ⟨v, hv, q⟩ => by rw [q]; exact ht x hx v G1 e hv) (fun x hx σ' G1 e ⟨v, hv, q⟩ f => by rw [q]; exact he x hx v G1 e hv f) P1.mono
theorem p_lc1 {α : Type} {xs : List α} {enc : α → PyData} {wi : TI} {j : Nat} (F : α → Bool) (Pe : α → PyData → Prop) (hi : EvI m wi σ G (xs.map enc)) (hz : xs.length ≤ 1000000)
    (ht : ∀ x ∈ xs, ∀ v G1, Ex G G1 → Dt G1 v (enc x) → EvT m tt ((σ.set j none).set j (some v)) G1 (F x)) (he : ∀ x ∈ xs, ∀ v G1, Ex G G1 → Dt G1 v (enc x) → F x = true → EvP m te ((σ.set j none).set j (some v)) G1 (Pe x)) :
    EvP m (tLc wi (gName j) tt te [j]) σ G (fun d => ∃ es, d = .list es ∧ Paired Pe (xs.filter F) es) :=
  p_lc (Pσ := P1 σ [j] j enc) F Pe hi hz (fun x _ G1 _ => g_name) (fun x _ σ' G1 ⟨v, _, q⟩ => by rw [q]; simp [wipe])
    (fun x hx σ' G1 e ⟨v, hv, q⟩ => by rw [q]; exact ht x hx v G1 e hv) (fun x hx σ' G1 e ⟨v, hv, q⟩ f => by rw [q]; exact he x hx v G1 e hv f) P1.mono
/-- two names i, j, their own: vs = [i, j] -/
theorem d_lc2 {α : Type} {xs : List α} {e1 e2 : α → PyData} {wi : TI} {i j : Nat} (F : α → Bool) (E : α → PyData) (hij : i ≠ j) (hi : EvI m wi σ G (xs.map fun x => .tuple [e1 x, e2 x])) (hz : xs.length ≤ 1000000)
    (ht : ∀ x ∈ xs, ∀ v u G1, Ex G G1 → Dt G1 v (e1 x) → Dt G1 u (e2 x) → EvT m tt ((((σ.set j none).set i none).set i (some v)).set j (some u)) G1 (F x))
    (he : ∀ x ∈ xs, ∀ v u G1, Ex G G1 → Dt G1 v (e1 x) → Dt G1 u (e2 x) → F x = true → EvD m te ((((σ.set j none).set i none).set i (some v)).set j (some u)) G1 (E x)) :
    EvD m (tLc wi (gTup K 2 (gCons (gName i) (gCons (gName j) gNil))) tt te [i, j]) σ G (.list ((xs.filter F).map E)) :=
  d_lc (Pσ := P2 σ [i, j] i j e1 e2) F E hi hz (fun x _ G1 _ => g_pair) (fun x _ σ' G1 ⟨v, u, _, _, q⟩ => by
      rw [q]
      show (((((σ.set j none).set i none).set i (some v)).set j (some u)).set j none).set i none = (σ.set j none).set i none
      rw [List.set_set, List.set_set, List.set_comm none none (Ne.symm hij), List.set_set, List.set_comm none none hij, List.set_set])
    (fun x hx σ' G1 e ⟨v, u, hv, hu, q⟩ => by rw [q]; exact ht x hx v u G1 e hv hu) (fun x hx σ' G1 e ⟨v, u, hv, hu, q⟩ f => by rw [q]; exact he x hx v u G1 e hv hu f) P2.mono
theorem t_yes : EvT m tYes σ G true := fun G1 H e w Q k => k _ _ _ (Stp.refl w) rfl
end
end R45
end
section
set_option Elab.async false
set_option linter.all false
set_option maxRecDepth 100000
set_option maxHeartbeats 2000000
/-! layer 1, fourth part: statements, loops, calls, dicts. -/
namespace R45
open PySem PySem.Spec PyProof.Rows L2 Evl
section
variable {m : Mode} {σ : L2.St} {G G' H : Hp} {te ta tb tc tl : TE} {tt tu : TT} {d d' : PyData} {v : V} {K : PySem.W.Frag} {ds es : List PyData} {D : Ends} {ts tz : TS} {P : V → Hp → Prop}
/-! statements, the last of a block (s_) and with something behind (q_) -/
theorem s_asg {i : Nat} (w : W m G H) (h : Cmp m G (te σ) P) (k : ∀ v G' H', Stp m G H G' H' → P v G' → D.nx (σ.set i (some v)) H') : tAsg te (gName i) D σ H := h.go w k
theorem q_asg {i : Nat} (w : W m G H) (h : Cmp m G (te σ) P) (k : ∀ v G' H', Stp m G H G' H' → P v G' → tz D (σ.set i (some v)) H') : tSeq (tAsg te (gName i)) tz D σ H := h.go w k
theorem s_ret (w : W m G H) (h : Cmp m G (te σ) P) (k : ∀ v G' H', Stp m G H G' H' → P v G' → D.rt v H') : tRet te D σ H := h.go w k
theorem q_drop (w : W m G H) (h : Cmp m G (te σ) P) (k : ∀ v G' H', Stp m G H G' H' → P v G' → tz D σ H') : tSeq (tDrop te) tz D σ H := h.go w k
theorem s_if {t1 t2 : TS} {b : Bool} (w : W m G H) (h : EvT m tt σ G b) (h1 : b = true → ∀ G' H', Stp m G H G' H' → t1 D σ H') (h2 : b = false → ∀ G' H', Stp m G H G' H' → t2 D σ H') : tIfS tt t1 t2 D σ H :=
  Cmp.go h w fun c G' H' s hc => by
    subst hc
    cases c with
    | true => exact h1 rfl G' H' s
    | false => exact h2 rfl G' H' s
theorem q_if {t1 t2 : TS} {b : Bool} (w : W m G H) (h : EvT m tt σ G b) (h1 : b = true → ∀ G' H', Stp m G H G' H' → t1 { D with nx := tz D } σ H') (h2 : b = false → ∀ G' H', Stp m G H G' H' → t2 { D with nx := tz D } σ H') : tSeq (tIfS tt t1 t2) tz D σ H :=
  s_if (D := { D with nx := tz D }) w h h1 h2
/-- if c: .. without else, the block leaving -/
theorem q_when {t1 : TS} {b : Bool} (w : W m G H) (h : EvT m tt σ G b) (h1 : b = true → ∀ G' H', Stp m G H G' H' → t1 { D with nx := tz D } σ H') (h2 : b = false → ∀ G' H', Stp m G H G' H' → tz D σ H') : tSeq (tIfS tt t1 tNext) tz D σ H :=
  s_if (D := { D with nx := tz D }) w h h1 h2
theorem q_par {i j : Nat} {t : TA} {d1 d2 : PyData} (w : W m G H) (h : EvA m t σ G [d1, d2]) (k : ∀ v u G' H', Stp m G H G' H' → Dt G' v d1 → Dt G' u d2 → tz D ((σ.set i (some v)).set j (some u)) H') : tSeq (tPar i j t) tz D σ H :=
  Cmp.go h w fun vs G' H' s hv => by
    obtain ⟨v, u, rfl, h1, h2⟩ := hv.two_inv
    exact ⟨v, u, rfl, k v u G' H' s h1 h2⟩
theorem s_par {i j : Nat} {t : TA} {d1 d2 : PyData} (w : W m G H) (h : EvA m t σ G [d1, d2]) (k : ∀ v u G' H', Stp m G H G' H' → Dt G' v d1 → Dt G' u d2 → D.nx ((σ.set i (some v)).set j (some u)) H') : tPar i j t D σ H :=
  Cmp.go h w fun vs G' H' s hv => by
    obtain ⟨v, u, rfl, h1, h2⟩ := hv.two_inv
    exact ⟨v, u, rfl, k v u G' H' s h1 h2⟩
/-- xs.append(e), xs one's own -/
theorem s_app {i : Nat} {l : Addr} {xs : List V} (w : W m G H) (hm : ¬ m.M l) (gl : G l = none) (hl : H l = some (.lst xs)) (ha : σ[i]? = some (some (.ref l))) (h : Cmp m G (te σ) P) (hz : xs.length < 1000000)
    (k : ∀ v G' H', Stp m G H G' H' → P v G' → D.nx σ (upd H' l (.lst (xs ++ [v])))) : tDrop (tBM K "list" rAppend (tVar i) (tCons te tNil)) D σ H :=
  ⟨.ref l, ha, Or.inl ⟨rfl, xs, sq_of hl⟩, h.go w fun v G' H' s hv => ⟨l, xs, v, rfl, rfl, (s.mine hm gl hl).1, szT hz, k v G' H' s hv⟩⟩
theorem q_app {i : Nat} {l : Addr} {xs : List V} (w : W m G H) (hm : ¬ m.M l) (gl : G l = none) (hl : H l = some (.lst xs)) (ha : σ[i]? = some (some (.ref l))) (h : Cmp m G (te σ) P) (hz : xs.length < 1000000)
    (k : ∀ v G' H', Stp m G H G' H' → P v G' → tz D σ (upd H' l (.lst (xs ++ [v])))) : tSeq (tDrop (tBM K "list" rAppend (tVar i) (tCons te tNil))) tz D σ H := s_app (D := { D with nx := tz D }) w hm gl hl ha h hz k
/-! loops -/
theorem s_while (Pv : Nat → Hp → L2.St → Hp → Prop) (n0 : Nat) (G0 : Hp) (h0 : Pv n0 G0 σ H) (hs : ∀ n G' σ' H', Pv n G' σ' H' → W m G' H' ∧ ∃ b, EvT m tt σ' G' b ∧
    (b = true → ∀ G2 H2, Stp m G' H' G2 H2 → ts { D with nx := fun σ3 H3 => ∃ n' G3, n' < n ∧ Pv n' G3 σ3 H3, ct := fun σ3 H3 => ∃ n' G3, n' < n ∧ Pv n' G3 σ3 H3, bk := D.nx } σ' H2) ∧
    (b = false → ∀ G2 H2, Stp m G' H' G2 H2 → D.nx σ' H2)) : tWhile tt ts D σ H := by
  refine ⟨fun n σ' H' => ∃ G', Pv n G' σ' H', ⟨n0, G0, h0⟩, fun n σ' H' ⟨G', hp⟩ => ?_⟩
  obtain ⟨w, b, hb, h1, h2⟩ := hs n G' σ' H' hp
  refine Cmp.go hb w fun c G2 H2 s hc => ?_
  subst hc
  cases c with
  | true => exact ⟨fun σ3 H3 => ∃ n' G3, n' < n ∧ Pv n' G3 σ3 H3, fun σ3 H3 ⟨n', G3, a, b⟩ => ⟨n', a, G3, b⟩, h1 rfl G2 H2 s⟩
  | false => exact h2 rfl G2 H2 s
theorem q_while (Pv : Nat → Hp → L2.St → Hp → Prop) (n0 : Nat) (G0 : Hp) (h0 : Pv n0 G0 σ H) (hs : ∀ n G' σ' H', Pv n G' σ' H' → W m G' H' ∧ ∃ b, EvT m tt σ' G' b ∧
    (b = true → ∀ G2 H2, Stp m G' H' G2 H2 → ts { D with nx := fun σ3 H3 => ∃ n' G3, n' < n ∧ Pv n' G3 σ3 H3, ct := fun σ3 H3 => ∃ n' G3, n' < n ∧ Pv n' G3 σ3 H3, bk := tz D } σ' H2) ∧
    (b = false → ∀ G2 H2, Stp m G' H' G2 H2 → tz D σ' H2)) : tSeq (tWhile tt ts) tz D σ H := s_while (D := { D with nx := tz D }) Pv n0 G0 h0 hs
theorem s_for {wi : TI} {g : TG} (w : W m G H) (hi : EvI m wi σ G ds) (Pv : Nat → Hp → L2.St → Hp → Prop) (hW : ∀ i G' σ' H', Pv i G' σ' H' → W m G' H') (h0 : ∀ G1 H1, Stp m G H G1 H1 → Pv 0 G1 σ H1)
    (hs : ∀ i d x G' σ' H', ds[i]? = some d → Ex G G' → Pv i G' σ' H' → ∀ Gx Hx, Stp m G' H' Gx Hx → Dt Gx x d → g x σ' Hx fun σ2 H2 => ts { D with nx := fun σ3 H3 => ∃ G3, Ex G' G3 ∧ Pv (i + 1) G3 σ3 H3, ct := fun σ3 H3 => ∃ G3, Ex G' G3 ∧ Pv (i + 1) G3 σ3 H3, bk := D.nx } σ2 H2)
    (hd : ∀ G' σ' H', Ex G G' → Pv ds.length G' σ' H' → D.nx σ' H') : tFor wi g ts D σ H := by
  refine Cmp.go hi w fun J G1 H1 s1 hJ => ?_
  refine ⟨fun i n σ' H' => n = ds.length - i ∧ i ≤ ds.length ∧ ∃ G', Ex G1 G' ∧ Pv i G' σ' H', ⟨ds.length, by omega, Nat.zero_le _, G1, Ex.refl _, h0 G1 H1 s1⟩, ?_⟩
  rintro i n σ' H' ⟨rfl, hi', G', e, hp⟩
  have w' := hW i G' σ' H' hp
  by_cases hlt : i < ds.length
  · refine .inr ⟨hJ.goes i H' (e.trans w'.ex) hlt, fun σ3 H3 => ∃ G3, Ex G' G3 ∧ Pv (i + 1) G3 σ3 H3, fun σ3 H3 ⟨G3, e3, p3⟩ => ⟨ds.length - (i + 1), by omega, rfl, hlt, G3, e.trans e3, p3⟩, fun x Hx y => ?_⟩
    have hd' : ds[i]? = some ds[i] := List.getElem?_eq_getElem hlt
    obtain ⟨Gx, sx, hx⟩ := hJ.yields i ds[i] H' x Hx m G' e w' hd' y
    exact hs i ds[i] x G' σ' H' hd' (s1.ex.trans e) hp Gx Hx sx hx
  · have ei : i = ds.length := by omega
    subst ei
    exact .inl ⟨hJ.stops H' (e.trans w'.ex), hd G' σ' H' (s1.ex.trans e) hp⟩
theorem q_for {wi : TI} {g : TG} (w : W m G H) (hi : EvI m wi σ G ds) (Pv : Nat → Hp → L2.St → Hp → Prop) (hW : ∀ i G' σ' H', Pv i G' σ' H' → W m G' H') (h0 : ∀ G1 H1, Stp m G H G1 H1 → Pv 0 G1 σ H1)
    (hs : ∀ i d x G' σ' H', ds[i]? = some d → Ex G G' → Pv i G' σ' H' → ∀ Gx Hx, Stp m G' H' Gx Hx → Dt Gx x d → g x σ' Hx fun σ2 H2 => ts { D with nx := fun σ3 H3 => ∃ G3, Ex G' G3 ∧ Pv (i + 1) G3 σ3 H3, ct := fun σ3 H3 => ∃ G3, Ex G' G3 ∧ Pv (i + 1) G3 σ3 H3, bk := tz D } σ2 H2)
    (hd : ∀ G' σ' H', Ex G G' → Pv ds.length G' σ' H' → tz D σ' H') : tSeq (tFor wi g ts) tz D σ H := s_for (D := { D with nx := tz D }) w hi Pv hW h0 hs hd
/-! calls -/
/-- a def that leaves all that stood; A: what is told of the arguments, P: of the answer -/
def spF (A : List V → Hp → (V → Hp → Prop) → Prop) : Sp := fun vs H Q _ => ∃ G P, W m0 G H ∧ A vs G P ∧ ∀ v G' H', Stp m0 G H G' H' → P v G' → Q v H'
/-- a def that draws from the cup at c -/
def spC (A : Addr → List V → Hp → (V → Hp → Prop) → Prop) : Sp := fun vs H Q _ => ∃ c G P, W (mC c) G H ∧ A c vs G P ∧ ∀ v G' H', Stp (mC c) G H G' H' → P v G' → Q v H'
theorem c_call {A : List V → Hp → (V → Hp → Prop) → Prop} {E : XK} {t : TA} {Pa : List V → Hp → Prop} (ha : Cmp m G (t σ) Pa) (hp : ∀ vs G1, Ex G G1 → Pa vs G1 → ∀ G2, Ex G1 G2 → A vs G2 P) : Cmp m G (tCall (spF A) [] E t σ) P :=
  Cmp.bind (f := t σ) (g := fun (vs : List V) (H1 : Hp) (Q : VK) => spF A (vs ++ []) H1 Q E) ha fun vs G1 e h G2 H e2 w Q k => by
    rw [List.append_nil]
    exact ⟨G2, P, w.m0, hp vs G1 e h G2 e2, fun v G' H' s p => k v G' H' (s.up w) p⟩
theorem c_callC {c : Addr} {A : Addr → List V → Hp → (V → Hp → Prop) → Prop} {E : XK} {t : TA} {Pa : List V → Hp → Prop} (ha : Cmp (mC c) G (t σ) Pa) (hp : ∀ vs G1, Ex G G1 → Pa vs G1 → ∀ G2, Ex G1 G2 → A c vs G2 P) : Cmp (mC c) G (tCall (spC A) [] E t σ) P :=
  Cmp.bind (f := t σ) (g := fun (vs : List V) (H1 : Hp) (Q : VK) => spC A (vs ++ []) H1 Q E) ha fun vs G1 e h G2 H e2 w Q k => by
    rw [List.append_nil]
    exact ⟨c, G2, P, w, hp vs G1 e h G2 e2, k⟩
/-- arguments, some of them no data: a value itself, or a datum -/
def DA (G : Hp) (v : V) : V ⊕ PyData → Prop
  | .inl u => v = u
  | .inr d => Dt G v d
theorem DA.mono {v : V} {a : V ⊕ PyData} (e : Ex G G') (h : DA G v a) : DA G' v a := by
  cases a with
  | inl u => exact h
  | inr d => exact Dt.mono e h
def DAs (G : Hp) : List V → List (V ⊕ PyData) → Prop
  | [], [] => True
  | v :: vs, a :: as => DA G v a ∧ DAs G vs as
  | _, _ => False
theorem DAs.mono (e : Ex G G') : ∀ {vs : List V} {as : List (V ⊕ PyData)}, DAs G vs as → DAs G' vs as
  | [], [], h => h
  | v :: vs, a :: as, h => ⟨h.1.mono e, DAs.mono e h.2⟩
  | [], _ :: _, h => h
  | _ :: _, [], h => h
def EvM (m : Mode) (ta : TA) (σ : L2.St) (G : Hp) (as : List (V ⊕ PyData)) : Prop := Cmp m G (ta σ) fun vs G' => DAs G' vs as
theorem am_nil : EvM m tNil σ G [] := fun G1 H e w Q k => k [] G1 H (Stp.refl w) trivial
theorem am_c {tr : TA} {a : V ⊕ PyData} {as : List (V ⊕ PyData)} (h : Cmp m G (ta σ) fun v G' => DA G' v a) (hr : EvM m tr σ G as) : EvM m (tCons ta tr) σ G (a :: as) :=
  Cmp.bind (f := ta σ) (g := fun (v : V) (H : Hp) (Q : List V → Hp → Prop) => tr σ H fun vs H2 => Q (v :: vs) H2) h fun v G1 e hv => Cmp.bind (f := tr σ) (g := fun (vs : List V) (H : Hp) (Q : List V → Hp → Prop) => Q (v :: vs) H) (Cmp.mono hr e) fun vs G2 e2 hvs G3 H e3 w Q k =>
    k _ G3 H (Stp.refl w) ⟨hv.mono (e2.trans e3), hvs.mono e3⟩
theorem am_v {tr : TA} {v : V} {as : List (V ⊕ PyData)} (h : Now G (ta σ) v) (hr : EvM m tr σ G as) : EvM m (tCons ta tr) σ G (.inl v :: as) := am_c (h.to fun _ _ => rfl) hr
theorem am_d {tr : TA} {as : List (V ⊕ PyData)} (h : EvD m ta σ G d) (hr : EvM m tr σ G as) : EvM m (tCons ta tr) σ G (.inr d :: as) := am_c h hr
/-- dicts known to G -/
theorem n_dget {td ty : TE} {a : Addr} {kvs : List (Key × V)} {k : Key} (ga : G a = some (.dK kvs)) (hd : Now G (td σ) (.ref a)) (hk : Now G (ty σ) (kV k)) (hv : valV kvs k = some v) : Now G (tDGet td ty σ) v := fun H e Q q =>
  hd H e _ (hk H e _ ⟨a, v, rfl, by rw [← hv]; exact DGet.k (e _ _ ga), q⟩)
theorem n_dgetT {td ty : TE} {a b : Addr} {kvs : List (List Key × V)} {k : List Key} (ga : G a = some (.dT kvs)) (hd : Now G (td σ) (.ref a)) (hk : Now G (ty σ) (.ref b)) (hb : G b = some (.tup (k.map kV))) (hv : valV kvs k = some v) : Now G (tDGet td ty σ) v := fun H e Q q =>
  hd H e _ (hk H e _ ⟨a, v, rfl, by rw [← hv]; exact DGet.t (e _ _ ga) (e _ _ hb), q⟩)
theorem keys_ints (ns : List Int) : ns.map V.int = (ns.map Sum.inl : List Key).map kV := by
  rw [List.map_map]
  rfl
theorem d_din {ti td : TE} {a : Addr} {kvs : List (Key × V)} {i : Int} (ga : G a = some (.dK kvs)) (hd : Now G (td σ) (.ref a)) (hk : EvE ti σ G (.int i)) : EvE (tDIn ti td) σ G (.bool (valV kvs (.inl i)).isSome) :=
  ⟨.bl (valV kvs (.inl i)).isSome, fun H e Q q => hk.int H e _ (hd H e _ ⟨a, _, rfl, DGet.k (k := .inl i) (e _ _ ga), q⟩), .bl _⟩
end
end R45
end
section
set_option Elab.async false
set_option linter.all false
set_option autoImplicit false
set_option maxRecDepth 100000
set_option maxHeartbeats 2000000
/-! sorted of a list of tuples whose first is (). -/
namespace R45
open PySem PySem.W PySem.Calls PyProof.Rows PySem.SeqAt
section
variable {prog : Program} {w : World} {A : Around} {E : Value → Shared → Prop} {s : Shared}
theorem call_tuple_lt {Q : Value → Shared → Prop} {l b : Addr} {items items2 : Array Value} {e r : Nat → Bool} (hl : s.heap.IsTuple l items) (hb : s.heap.IsTuple b items2)
    (he : ∀ j (h1 : j < items.size) (h2 : j < items2.size), EqAt A.in1 s items[j] items2[j] (e j)) (hr : ∀ j (h1 : j < items.size) (h2 : j < items2.size), e j = false → RcLt A.in1 s items[j] items2[j] (r j))
    (h : Q (.bool (firstLt e r (decide (items.size < items2.size)) (List.range (min items.size items2.size)))) s) : wpAny (model prog w) A (call (.builtin "tuple.__lt__") [.ref l, .ref b]) Q E s := by
  obtain ⟨⟨cls, dd, data, sl⟩, ho, hc, n, hd⟩ := id hl
  obtain ⟨⟨cls2, dd2, data2, sl2⟩, ho2, hc2, n2, hd2⟩ := id hb
  simp only at hc hd hc2 hd2
  subst hc hd hc2 hd2
  exact call_meets F.slot_tuple_lt ⟨_, ho, rfl⟩ F.entry_tuple_lt (F.args_tuple_lt_2 _ _) (tuple_ltAt l b items items2 n n2 dd dd2 sl sl2 e r) ⟨ho, ho2, he, hr, h⟩
theorem oneLt_tup {xs ys : List PyData} {a b : Value} {as bs : List Addr} {Q : Bool → Shared → Prop} (ra : Reads s.heap a (.tuple xs) as) (rb : Reads s.heap b (.tuple ys) bs) (hal : alikeAll xs ys = true)
    (hu : A.units + min (PyData.tuple xs).depth (PyData.tuple ys).depth < cLine) (hq : Q (dataLt (.tuple xs) (.tuple ys)) s) : wpAny (model prog w) A (oneLt' true a b) Q E s := by
  cases ra with
  | @tuple l o vs n _ as₁ h1 h2 h3 h4 =>
    cases rb with
    | @tuple l' o' vs' n' _ bs₁ k1 k2 k3 k4 =>
      have n1 : vs.size = xs.length := by simpa using ReadsAll.length _ _ _ h4
      have n2 : vs'.size = ys.length := by simpa using ReadsAll.length _ _ _ k4
      rw [dataLt_tuple, ← firstLt_toks xs ys hal, ← n1, ← n2] at hq
      rw [oneLt'_eq]
      simp only [if_true]
      refine wpAny_bind (wpAny_cRoomFor (room_here hu) ?_)
      refine wpAny_bind (wpAny_callSpecialIfBound?_slot (T := "tuple") ⟨_, h1, h2⟩ F.slot_tuple_lt (call_tuple_lt (e := pairEq xs ys) (r := fun j => dataLt (xs.getD j .none) (ys.getD j .none)) ⟨_, h1, h2, _, h3⟩ ⟨_, k1, k2, _, k3⟩ (fun j j1 j2 => ?_) (fun j j1 j2 hj => ?_) ?_))
      · have := eqAt_alikeAll xs ys A.in1 s vs.toList vs'.toList _ _ h4 k4 hal (room_in hu) j (by simpa using j1) (by simpa using j2)
        simpa using this
      · have := rcLt_alikeAll xs ys A.in1 s vs.toList vs'.toList _ _ h4 k4 hal (room_in hu) j (by simpa using j1) (by simpa using j2) hj
        simpa using this
      · exact wpAny_truthy_bool hq
/-- the firsts of tuples -/
def KatAny (h : Heap) : List Value → List (Option Value) → Prop
  | [], [] => True
  | v :: vs, f :: fs => (∃ a o xs n, v = .ref a ∧ h.get? a = some o ∧ o.cls = .type "tuple" ∧ o.data = .seq xs n ∧ xs[0]? = f) ∧ KatAny h vs fs
  | _, _ => False
theorem kat_firstsA : ∀ (vs : List Value) (fs : List (Option Value)) {Q : List (Option Value) → Shared → Prop}, KatAny s.heap vs fs → Q fs s → wpAny (model prog w) A (vs.mapM firstOfTuple') Q E s
  | [], [], _, _, h => by rw [List.mapM_nil]; exact wpAny_pure h
  | [], _ :: _, _, t, _ => t.elim
  | _ :: _, [], _, t, _ => t.elim
  | v :: vs, f :: fs, Q, t, h => by
    obtain ⟨⟨a, o, xs, n, rfl, ho, hc, hd, hf⟩, t⟩ := t
    rw [List.mapM_cons]
    refine wpAny_bind ?_
    rw [kas_first_eq]
    refine wpAny_bind (Looks.here (show Looks (model prog w) s.heap (typeOf (.ref a)) o.cls from (Looks.ld ho).andThen .now) ?_)
    rw [hc, if_neg (by first | decide | simp)]
    refine wpAny_bind (listItems_at ho hd (wpAny_pure ?_))
    rw [hf]
    exact wpAny_bind (kat_firstsA vs fs (Q := fun bs s' => wpAny (model prog w) A (pure (f :: bs)) Q E s') t (wpAny_pure h))
theorem each_katAny {h : Heap} : ∀ {vs : List Value} {ds : List PyData}, EachIs (fun v d => ∃ as, Reads h v d as) vs ds → (∀ d, d ∈ ds → ∃ r, d = .tuple r) → ∃ fs, KatAny h vs fs ∧ fs.length = vs.length ∧ ∀ r, ds[0]? = some (.tuple r) → r = [] → fs[0]? = some none
  | _, _, .nil, _ => ⟨[], trivial, rfl, fun r e => by simp at e⟩
  | _, _, .cons (b := d) ⟨as, r⟩ t, ht => by
    obtain ⟨fs, h1, h2, h3⟩ := each_katAny t fun d hd => ht d (List.mem_cons_of_mem _ hd)
    obtain ⟨rest, rfl⟩ := ht d (List.mem_cons_self ..)
    cases r with
    | @tuple a o xs n _ _ ho hc hd hr =>
      refine ⟨xs[0]? :: fs, ⟨⟨a, o, xs, n, rfl, ho, hc, hd, rfl⟩, h1⟩, by rw [List.length_cons, List.length_cons, h2], fun r e er => ?_⟩
      subst er
      cases e
      have q : xs.toList = [] := by
        cases q : xs.toList with
        | nil => rfl
        | cons f fr => rw [q] at hr; cases hr
      rw [List.getElem?_cons_zero, ← Array.getElem?_toList, q]
      rfl
/-- values that read as alike tuples, () the first, can be sorted -/
theorem sortsAt_nil {vs : List Value} {ds : List PyData} (e : EachIs (fun v d => ∃ as, Reads s.heap v d as) vs ds) (hal : AllAlike ds) (ht : ∀ d, d ∈ ds → ∃ r, d = .tuple r) (h0 : ds[0]? = some (.tuple [])) (hu : ∀ d, d ∈ ds → A.units + d.depth < cLine) : SortsAt prog w A s (dataKind s.heap ds) vs := by
  have room : ∀ {d d' : PyData}, d ∈ ds → A.units + min d.depth d'.depth < cLine := fun {d d'} hd => Nat.lt_of_le_of_lt (Nat.add_le_add_left (Nat.min_le_left _ _) _) (hu d hd)
  refine ⟨fun v hv => ?_, oneType', ?_, fun h2 E Q hq => ?_⟩
  · obtain ⟨d, hd, as, r⟩ := e.left v hv
    exact ⟨_, dataKind_some hal hd r⟩
  · intro E x y a b Q ha hb hq
    obtain ⟨d, as, hd, ra, rfl⟩ := dataKind_inv ha
    obtain ⟨d', as', hd', rb, rfl⟩ := dataKind_inv hb
    rw [keyLt'_oneType]
    obtain ⟨xs, rfl⟩ := ht d hd
    obtain ⟨ys, rfl⟩ := ht d' hd'
    exact oneLt_tup ra rb (by simpa [alike] using hal _ hd _ hd') (room hd) hq
  · obtain ⟨fs, t1, t2, t3⟩ := each_katAny e ht
    have f0 := t3 [] h0 rfl
    rw [kat_kind_eq, List.mapM_toArray, map_eq_pure_bind]
    refine wpAny_bind (wpAny_bind (kat_firstsA vs fs t1 (wpAny_pure ?_)))
    obtain ⟨f, fr, rfl⟩ : ∃ f fr, fs = f :: fr := by
      cases fs with
      | nil => simp at f0
      | cons f fr => exact ⟨f, fr, rfl⟩
    rw [List.getElem?_cons_zero] at f0
    cases f0
    rw [if_neg (by simp), if_neg (by simp)]
    rw [oneTypeOnly'_eq, List.mapM_toArray, map_eq_pure_bind]
    refine wpAny_bind (wpAny_bind (wpAny_bind (kas_mapM (r := Value.type "tuple") _ (fun v hv Q' hq' => ?_) (wpAny_pure ?_))))
    · obtain ⟨d, hd, as, r⟩ := e.left v hv
      obtain ⟨xs, rfl⟩ := ht d hd
      exact (looks_reads r).here hq'
    · obtain ⟨v, vr, rfl⟩ : ∃ v vr, vs = v :: vr := by
        cases vs with
        | nil => simp at h2
        | cons v vr => exact ⟨v, vr, rfl⟩
      have hall : ((List.map (fun _ => Value.type "tuple") (v :: vr)).toArray.all fun x => x == Value.type "tuple") = true := by
        simp only [List.all_toArray, List.all_map, List.all_eq_true]
        intro _ _
        exact beq_self_eq_true _
      have h0 : (List.map (fun _ => Value.type "tuple") (v :: vr)).toArray[0]? = some (Value.type "tuple") := by simp
      rw [h0]
      simp only [hall, if_true]
      exact wpAny_pure (wpAny_pure hq)
/-- may be sorted: all tuples, with an item each or () the first; or none a tuple -/
def Sortable2 (ds : List PyData) : Prop := Sortable ds ∨ ((∀ d, d ∈ ds → ∃ r, d = .tuple r) ∧ ds[0]? = some (.tuple []))
theorem sortsAt_two {vs : List Value} {ds : List PyData} (e : EachIs (fun v d => ∃ as, Reads s.heap v d as) vs ds) (hal : AllAlike ds) (hk : Sortable2 ds) (hu : ∀ d, d ∈ ds → A.units + d.depth < cLine) : SortsAt prog w A s (dataKind s.heap ds) vs := by
  rcases hk with hk | ⟨ht, h0⟩
  · exact SortsAt.data e hal hk hu
  · exact sortsAt_nil e hal ht h0 hu
variable {β : Type} {vs : List Value} {bs : List β} {enc : β → PyData} {R : Value → β → Prop}
theorem sorted_data2 {l : Addr} {Q : Value → Shared → Prop} (hl : s.heap.IsList l vs.toArray) (e : EachIs R vs bs) (er : EachIs (fun v b => ∃ as, Reads s.heap v (enc b) as) vs bs) (hal : AllAlike (bs.map enc)) (hk : Sortable2 (bs.map enc)) (hL : bs.length ≤ sizeLine)
    (hu : ∀ b, b ∈ bs → A.units + 2 + (enc b).depth < cLine) (h : ∀ out, out.length = bs.length → EachIs R out (bs.mergeSort (dataLe false enc)) → Q (.ref (s.heap.objs.size + 1)) { s with heap := sortedAll s.heap vs (List.toArray out) }) :
    wpAny (model prog w) A (call (.builtin "sorted") [.ref l]) Q E s := by
  have er' : EachIs (fun v b => ∃ as, Reads (sortingHeap (copyHeap s.heap vs) (s.heap.objs.size + 1) vs) v (enc b) as) vs bs := er.mono fun _ _ ⟨as, r⟩ => ⟨as, PyProof.Rows.Reads.keeps (fun _ _ => sorting_copy_old) r⟩
  exact sorted_vals hl (sortsAt_two (s := { s with heap := sortingHeap (copyHeap s.heap vs) (s.heap.objs.size + 1) vs }) (each_map (R := fun v d => ∃ as, Reads (sortingHeap (copyHeap s.heap vs) (s.heap.objs.size + 1) vs) v d as) enc er') hal hk (bound_map hu)) (by rw [e.length]; exact hL)
    (h _ (by rw [sortVals_length false rfl]; exact e.length) (sortVals_data false e er' hal))
end
end R45
end
section
set_option Elab.async false
set_option linter.all false
set_option maxRecDepth 100000
set_option maxHeartbeats 2000000
/-! rules of the walk: sorted of a list of data, of a dict with tuple keys; dict of pairs with tuple keys, a display with one tuple key. -/
namespace R45
open PySem PySem.Spec PyProof.Rows L2 Evl
abbrev VP := V × PyData
/-- sorted(xs): xs are data, alike -/
def rSortD (K : PySem.W.Frag) : List V → Hp → VK → Prop := fun vs H Q => ∃ (a : Addr) (bs : List VP), vs = [V.ref a] ∧ SqL K H a (bs.map (·.1)) ∧ (∀ b ∈ bs, Dp K H b.1 b.2) ∧ PySem.W.AllAlike (bs.map (·.2)) ∧ Sortable2 (bs.map (·.2)) ∧ (∀ b ∈ bs, b.2.depth ≤ 50) ∧
  ∀ p, H p = none → Q (.ref p) (upd H p (.lst ((bs.mergeSort (PySem.W.dataLe false (·.2))).map (·.1))))
section
variable {X : Cx}
theorem each_of_vals {F : VP → Prop} : ∀ {bs : List VP} {us : List Value}, Vals (bs.map (·.1)) us → (∀ b ∈ bs, F b) → PySem.W.EachIs (fun v b => RelV b.1 v ∧ F b) us bs
  | [], _, r, h => by
    rw [List.map_nil] at r
    cases r
    exact .nil
  | b :: bs, _, r, h => by
    rw [List.map_cons] at r
    cases r with
    | cons r1 r2 => exact .cons ⟨r1, h b List.mem_cons_self⟩ (each_of_vals r2 fun c hc => h c (List.mem_cons_of_mem _ hc))
theorem vals_of_each {F : VP → Prop} : ∀ {bs : List VP} {us : List Value}, PySem.W.EachIs (fun v b => RelV b.1 v ∧ F b) us bs → Vals (bs.map (·.1)) us
  | _, _, .nil => .nil
  | _, _, .cons h t => .cons h.1 (vals_of_each t)
theorem cr_sortD (hu : X.A.units + 64 < cLine) : CallR X (.builtin "sorted") (rSortD X.K) := by
  intro pins s σ H vs us Q I r h
  obtain ⟨a, bs, rfl, hs, hd, hal, hk, hz, q⟩ := h
  obtain ⟨its, rv, hl, hL⟩ := I.list hs
  rw [Vals.ref1 r]
  have hlen : bs.length ≤ sizeLine := by
    rw [List.length_map] at hL
    exact hL
  refine sorted_data2 (R := fun v b => RelV b.1 v ∧ Dp X.K H b.1 b.2) (enc := fun b : VP => b.2) hl.isList (each_of_vals rv hd) ((each_of_vals rv hd).mono fun v b ⟨h1, h2⟩ => Dp.reads I b.2 b.1 v h2 h1) hal hk hlen
    (fun b hb => by have := hz b hb; omega) fun out ho eo => ?_
  obtain ⟨ep, he'⟩ := PyProof.Rows.sortedAll_at s.heap its out.toArray
  refine ⟨.ref _, upd H (s.heap.objs.size + 1) (.lst ((bs.mergeSort (PySem.W.dataLe false (·.2))).map (·.1))), I.laid (t' := s.toks) (fun _ _ => PyProof.Rows.sortedAll_old) (Nat.le_succ _)
    ⟨by rw [List.length_map, (List.mergeSort_perm _ _).length_eq]; exact hlen, out, ep, vals_of_each eo, he'⟩, rfl, q _ (I.hok.fresh (Nat.le_succ _))⟩

/-! sorted(d), d a dict whose keys are tuples of ints -/
def tupI (k : List Int) : List Key := k.map Sum.inl
def rSortDT : List V → Hp → VK → Prop := fun vs H Q => ∃ (a : Addr) (kvs : List (List Key × V)) (ks : List (List Int)), vs = [V.ref a] ∧ H a = some (.dT kvs) ∧ kvs.map (·.1) = ks.map tupI ∧ (∀ k ∈ ks, k ≠ []) ∧
  ∀ (as : List Addr) (ks' : List (List Int)), ks'.Perm ks → Paired (fun b k => H b = some (.tup ((tupI k).map kV))) as ks' → ∀ p, H p = none → Q (.ref p) (upd H p (.lst (as.map V.ref)))
theorem reads_ints {h : Heap} : ∀ {k : List Int} {us : List Value}, Vals ((tupI k).map kV) us → ∃ as, ReadsAll h us (k.map PyData.int) as
  | [], _, r => by
    cases r
    exact ⟨[], .nil⟩
  | i :: k, _, r => by
    cases r with
    | cons r1 r2 =>
      obtain ⟨t, rfl⟩ := r1
      obtain ⟨as, h2⟩ := reads_ints (h := h) r2
      exact ⟨_, .cons (.int _ _) h2⟩
theorem alike_ti : ∀ x y : List Int, PySem.W.alikeAll (x.map PyData.int) (y.map PyData.int) = true := PySem.W.alike_ints
theorem depth_ti (k : List Int) : (PyData.tuple (k.map PyData.int)).depth ≤ 1 := by
  have h := PySem.W.depth_ints k
  simp only [PyData.depth, h]
  omega
/-- the keys' objects -/
theorem kt_addrs {H : Hp} : ∀ {kvs : List (List Key × V)} {xs : List (List Key × Addr × Value)} {ks : List (List Int)}, KT H kvs xs → kvs.map (·.1) = ks.map tupI → ∀ x ∈ (xs.map (·.2.1)).zip ks, H x.1 = some (.tup ((tupI x.2).map kV))
  | _, _, [], r, e, x, hx => by simp at hx
  | _, _, k :: ks, .cons (b := q) (a := p) (l₂ := m) (l₁ := l) h t, e, x, hx => by
    rw [List.map_cons, List.map_cons] at e
    obtain ⟨e1, e2⟩ := List.cons.inj e
    rw [List.map_cons, List.zip_cons_cons] at hx
    rcases List.mem_cons.mp hx with rfl | hx
    · show H q.2.1 = _
      rw [← e1]
      exact h.2.1
    · exact kt_addrs t e2 x hx
  | _, _, k :: ks, .nil, e, x, hx => by cases e
abbrev encT (b : Addr × List Int) : PyData := .tuple (b.2.map .int)
theorem each_ent {F : Addr × List Int → Prop} : ∀ {as : List Addr} {ks : List (List Int)}, as.length = ks.length → (∀ x ∈ as.zip ks, F x) → PySem.W.EachIs (fun v b => v = Value.ref b.1 ∧ F b) (as.map Value.ref) (as.zip ks)
  | [], [], _, _ => .nil
  | a :: as, k :: ks, e, h => .cons ⟨rfl, h _ (by rw [List.zip_cons_cons]; exact List.mem_cons_self)⟩ (each_ent (by simpa using e) fun x hx => h x (by rw [List.zip_cons_cons]; exact List.mem_cons_of_mem _ hx))
  | [], _ :: _, e, _ => by simp at e
  | _ :: _, [], e, _ => by simp at e
theorem each_out {F : Addr × List Int → Prop} : ∀ {us : List Value} {bs : List (Addr × List Int)}, PySem.W.EachIs (fun v b => v = Value.ref b.1 ∧ F b) us bs → us = (bs.map (·.1)).map Value.ref ∧ ∀ b ∈ bs, F b
  | _, _, .nil => ⟨rfl, fun b hb => by simp at hb⟩
  | _, _, .cons (b := c) h t => by
    obtain ⟨e, f⟩ := each_out t
    refine ⟨by rw [List.map_cons, List.map_cons, ← e, h.1], fun b hb => ?_⟩
    rcases List.mem_cons.mp hb with rfl | hb
    · exact h.2
    · exact f b hb
theorem paired_map {H : Hp} : ∀ {bs : List (Addr × List Int)}, (∀ b ∈ bs, H b.1 = some (.tup ((tupI b.2).map kV))) → Paired (fun b k => H b = some (.tup ((tupI k).map kV))) (bs.map (·.1)) (bs.map (·.2))
  | [], _ => .nil
  | b :: bs, h => .cons (h b List.mem_cons_self) (paired_map fun c hc => h c (List.mem_cons_of_mem _ hc))
theorem vals_refs : ∀ as : List Addr, Vals (as.map V.ref) (as.map Value.ref)
  | [] => .nil
  | a :: as => .cons rfl (vals_refs as)
theorem list_ext_get {α : Type} {l m : List α} (h1 : l.length = m.length) (h : ∀ (j : Nat) (v : α), l[j]? = some v → m[j]? = some v) : l = m := by
  refine List.ext_getElem? fun j => ?_
  by_cases hj : j < l.length
  · rw [List.getElem?_eq_getElem hj, h j _ (List.getElem?_eq_getElem hj)]
  · rw [List.getElem?_eq_none (by omega), List.getElem?_eq_none (by omega)]
end
end R45
end
section
set_option Elab.async false
set_option linter.all false
set_option maxRecDepth 100000
set_option maxHeartbeats 2000000
/-! sorted of a dict with tuple keys. -/
namespace R45
open PySem PySem.Spec PyProof.Rows L2 Evl
section
variable {X : Cx}
theorem cr_sortDT (hc : X.calm = true) (hu : X.A.units + 64 < cLine) : CallR X (.builtin "sorted") rSortDT := by
  intro pins s σ H xs us Q I r q
  obtain ⟨a, kvs, ks, rfl, ha, hks, hne, q⟩ := q
  rw [Vals.ref1 r]
  obtain ⟨z, lo, xs, rel, o, es, ep, ho, hx, hdat, hes, his, hnd⟩ := dt_of I.hok ha
  have hlx : xs.length = ks.length := by
    have e := congrArg List.length hks
    rw [List.length_map, List.length_map] at e
    rw [← e]
    exact (Paired.length rel).symm
  have hsz : es.size = xs.length := by
    rw [← Array.length_toList, hes, List.length_map]
  have h16 : es.size ≤ sizeLine := by
    rw [hsz, ← Paired.length rel]
    exact z
  have hat := kt_addrs rel hks
  refine Calls.call_function_entry PyProof.Rows.kind_sorted PyProof.Rows.plain_sorted PyProof.Rows.entry_sorted (PyProof.Rows.args_sorted1 _) ?_
  unfold Builtin.«sorted»
  refine wpAny_bind (m := checkCount "sorted" 1 1 _) (wpAny_pure ?_)
  refine wpAny_bind (PySem.W.kdu_collect (A := X.A.in1) (KdlSrc.rawDict (es := es) (ep := ep) lo) (I.ok.hd hc) ⟨o, ho, hx, hdat⟩ h16 fun h' tk acc hk hacc => ?_)
  have hal : acc.toList.length = es.size := by rw [Array.length_toList, hacc.1]
  have hvals : acc.toList = (xs.map (·.2.1)).map Value.ref := by
    refine list_ext_get (by rw [hal, List.length_map, List.length_map, hsz]) fun j v e => ?_
    obtain ⟨hi, ev⟩ := hacc.2 j v (by rw [← Array.getElem?_toList]; exact e)
    have e2 : es.toList[j]? = some es[j] := by rw [Array.getElem?_toList, Array.getElem?_eq_getElem hi]
    rw [hes, List.getElem?_map] at e2
    obtain ⟨x, hx1, hx2⟩ := Option.map_eq_some_iff.mp e2
    rw [List.getElem?_map, List.getElem?_map, hx1, ev, ← hx2]
    rfl
  have I1 : Inv X pins σ H { s with heap := h', toks := tk } := I.kept hk
  refine wpAny_bind (wpAny_newList ?_ (by rw [hal]; exact h16))
  have hoL : (h'.push (PyProof.Rows.seqObj "list" acc.toList.toArray 0)).get? h'.objs.size = some (PyProof.Rows.seqObj "list" acc.toList.toArray 0) := Heap.get?_push_size _ rfl
  show wpAny _ _ _ _ _ { s with heap := h'.push (PyProof.Rows.seqObj "list" acc.toList.toArray 0), toks := tk }
  have kp : ∀ b u, H b = some u → b ≠ h'.objs.size := fun b u e z => by
    have := I1.hok.lt e
    rw [z] at this
    exact absurd this (Nat.lt_irrefl _)
  have kpG : ∀ b ob, h'.get? b = some ob → (PySem.W.sortingHeap (h'.push (PyProof.Rows.seqObj "list" acc.toList.toArray 0)) h'.objs.size acc.toList).get? b = some ob := fun b ob e =>
    PySem.W.sortingHeap_old (Nat.ne_of_lt (Heap.lt_size e)) (Heap.get?_push_of_some _ e)
  let bs : List (Addr × List Int) := (xs.map (·.2.1)).zip ks
  have hbl : bs.length = es.size := by
    show ((xs.map (·.2.1)).zip ks).length = _
    rw [List.length_zip, List.length_map, hlx, hsz, Nat.min_self]
    exact hlx.symm
  have e0 : PySem.W.EachIs (fun v b => v = Value.ref b.1 ∧ H b.1 = some (.tup ((tupI b.2).map kV))) acc.toList bs := by
    rw [hvals]
    exact each_ent (by rw [List.length_map]; exact hlx) hat
  have er : PySem.W.EachIs (fun v b => ∃ as, Reads (PySem.W.sortingHeap (h'.push (PyProof.Rows.seqObj "list" acc.toList.toArray 0)) h'.objs.size acc.toList) v (encT b) as) acc.toList bs :=
    e0.mono fun v b ⟨e1, e2⟩ => by
      subst e1
      obtain ⟨_, its, rv, ob, hb1, hb2, n, hb3⟩ := (show ObjOk X.prog X.w H h' b.1 (.tup ((tupI b.2).map kV)) from I1.hok _ _ e2)
      obtain ⟨as, hr⟩ := reads_ints (h := PySem.W.sortingHeap (h'.push (PyProof.Rows.seqObj "list" acc.toList.toArray 0)) h'.objs.size acc.toList) rv
      exact ⟨_, .tuple (kpG _ _ hb1) hb2 hb3 hr⟩
  have hal2 : PySem.W.AllAlike (bs.map encT) := PySem.W.AllAlike.of fun x y => by
    show PySem.W.alike (.tuple _) (.tuple _) = true
    rw [PySem.W.alike]
    exact alike_ti _ _
  have hst : Sortable2 (bs.map encT) := .inl (.inl fun d hd => by
    obtain ⟨b, hb, rfl⟩ := List.mem_map.mp hd
    have hk : b.2 ∈ ks := (List.of_mem_zip hb).2
    have hn := hne _ hk
    cases hb2 : b.2 with
    | nil => exact absurd hb2 hn
    | cons i k => exact ⟨.int i, k.map .int, by show PyData.tuple (b.2.map PyData.int) = _; rw [hb2]; rfl⟩)
  have S := sortsAt_two (prog := X.prog) (w := X.w) (A := X.A.in1.in1) (s := { s with heap := PySem.W.sortingHeap (h'.push (PyProof.Rows.seqObj "list" acc.toList.toArray 0)) h'.objs.size acc.toList, toks := tk })
    (PySem.W.each_map (R := fun v d => ∃ as, Reads (PySem.W.sortingHeap (h'.push (PyProof.Rows.seqObj "list" acc.toList.toArray 0)) h'.objs.size acc.toList) v d as) encT er) hal2 hst (fun d hd => by
      obtain ⟨b, hb, rfl⟩ := List.mem_map.mp hd
      have h1 := depth_ti b.2
      have h2 : X.A.in1.in1.units = X.A.units + 2 := rfl
      rw [h2]
      show X.A.units + 2 + (PyData.tuple (b.2.map PyData.int)).depth < cLine
      omega)
  refine wpAny_bind (wpAny_holding (wpAny_call_entry PyProof.Rows.slot_list_sort ⟨_, hoL, rfl⟩ PyProof.Rows.entry_list_sort
    (PySem.W.list_sort_vals (s := { s with heap := h'.push (PyProof.Rows.seqObj "list" acc.toList.toArray 0), toks := tk }) hoL S (by rw [hal]; exact h16) ⟨_, rfl, ?_⟩)
    (PyProof.Rows.args_list_sort _)))
  have eo := PySem.W.sortVals_data (β := Addr × List Int) (h' := PySem.W.sortingHeap (h'.push (PyProof.Rows.seqObj "list" acc.toList.toArray 0)) h'.objs.size acc.toList) (enc := encT) false e0 er hal2
  obtain ⟨e', he'⟩ := PyProof.Rows.sortedHeap_at (vs := acc.toList) (out := (PySem.W.sortVals (PySem.W.dataKind (PySem.W.sortingHeap (h'.push (PyProof.Rows.seqObj "list" acc.toList.toArray 0)) h'.objs.size acc.toList) (bs.map encT)) false acc.toList acc.toList).toArray) hoL
  obtain ⟨eo1, eo2⟩ := each_out eo
  let bs' : List (Addr × List Int) := bs.mergeSort (PySem.W.dataLe false encT)
  have hperm : bs'.Perm bs := List.mergeSort_perm _ _
  have hlen : ((bs'.map (·.1)).map V.ref).length ≤ sizeLine := by
    rw [List.length_map, List.length_map, hperm.length_eq, hbl]
    exact h16
  refine wpAny_pure ⟨_, rfl, .ref h'.objs.size, upd H h'.objs.size (.lst ((bs'.map (·.1)).map V.ref)), I1.laid (t' := tk) (fun b u e => ?_) (Nat.le_refl _)
    (show ObjOk X.prog X.w _ _ _ (.lst ((bs'.map (·.1)).map V.ref)) from ⟨hlen, _, e', by rw [eo1]; exact vals_refs _, he'⟩), rfl,
    q (bs'.map (·.1)) (bs'.map (·.2)) ?_ (paired_map eo2) _ (I1.hok.fresh (Nat.le_refl _))⟩
  · have hb : b < h'.objs.size := Heap.lt_size e
    show (PyProof.Rows.sortedHeap (h'.push (PyProof.Rows.seqObj "list" acc.toList.toArray 0)) h'.objs.size acc.toList _).get? b = some u
    rw [PyProof.Rows.sortedHeap_old (Nat.ne_of_lt hb) (by rw [PyProof.Rows.size_push']; exact Nat.lt_succ_of_lt hb)]
    exact Heap.get?_push_of_some _ e
  · refine (hperm.map (·.2)).trans ?_
    show (((xs.map (·.2.1)).zip ks).map Prod.snd).Perm ks
    rw [List.map_snd_zip (by rw [List.length_map]; omega)]
end
end R45
end
section
set_option Elab.async false
set_option linter.all false
set_option maxRecDepth 100000
set_option maxHeartbeats 2000000
/-! dict(xs) of pairs whose keys are tuples; a display with one tuple key. -/
namespace R45
open PySem PySem.Spec PyProof.Rows L2 Evl
abbrev knT (P : Program) (w : World) := tupleKind (mixKind P w)
def mergeT (kvs more : List (List Key × V)) : List (List Key × V) := more.foldl (fun acc kv => putK acc kv.1 kv.2) kvs
theorem KT.merge {H : Hp} : ∀ {more : List (List Key × V)} {rs : List (List Key × Addr × Value)} {kvs : List (List Key × V)} {xs : List (List Key × Addr × Value)}, KT H more rs → KT H kvs xs → KT H (mergeT kvs more) (storedAllH xs rs)
  | _, _, _, _, .nil, r => r
  | _, _, _, _, .cons h t, r => by
    obtain ⟨h1, h2, h3⟩ := h
    have := r.put _ h2 h3
    rw [h1] at this
    show KT H (mergeT (putK _ _ _) _) (storedAllH (storedH _ _ _ _) _)
    rw [h1]
    exact KT.merge t this
theorem length_mergeT : ∀ (more kvs : List (List Key × V)), (mergeT kvs more).length ≤ kvs.length + more.length
  | [], kvs => by show kvs.length ≤ kvs.length + 0; omega
  | p :: r, kvs => by
    have h1 := length_mergeT r (putK kvs p.1 p.2)
    have h2 := length_putK kvs p.1 p.2
    show (mergeT (putK kvs p.1 p.2) r).length ≤ _
    rw [List.length_cons]; omega
section
variable {prog : Program} {w : World} {A : Around} {E : Value → Shared → Prop}
theorem tkey_keep {h h' : Heap} {k : List Key} {a I : Addr} (x : IsTupleKey (mixKind prog w) h k a) (hs : ∀ b o, b ≠ I → h.get? b = some o → h'.get? b = some o) {oI : Obj} (hI : h.get? I = some oI) (cI : oI.cls ≠ .type "tuple") : IsTupleKey (mixKind prog w) h' k a := by
  obtain ⟨o, its, n, ho, hc, r⟩ := x
  refine ⟨o, its, n, hs a o (fun e => ?_) ho, hc, r⟩
  rw [e, hI] at ho
  cases ho
  exact cI hc
theorem dictH_keep {h h' : Heap} {S I : Addr} {acc : List (List Key × Addr × Value)} (x : h.DictOfH (knT prog w) S acc) (hSI : S ≠ I) (hs : ∀ b o, b ≠ I → h.get? b = some o → h'.get? b = some o) {oI : Obj} (hI : h.get? I = some oI) (cI : oI.cls ≠ .type "tuple") : h'.DictOfH (knT prog w) S acc := by
  obtain ⟨o, es, ep, ho, hc, hd, he, his, hn⟩ := x
  exact ⟨o, es, ep, hs S o hSI ho, hc, hd, he, fun y hy => tkey_keep (his y hy) hs hI cI, hn⟩
theorem upd_loopT {R : Result → Shared → Prop} {S I l : Addr} {items : Array Value} {res : Value} (hu : ∀ B : Around, B.units = A.units + 1 → (knT prog w).room B) (hh : A.handled = none) (hlI : l ≠ I) (hSI : S ≠ I) (hSl : S ≠ l) :
    ∀ (rest : List (List Key × Addr × Value)) (i : Nat) (acc : List (List Key × Addr × Value)) (ix : Int) (t : Tok) (s : Shared), items.size = i + rest.length → acc.length + rest.length ≤ sizeLine →
      (∀ (j : Nat) (q : List Key × Addr × Value), rest[j]? = some q → ∃ (b : Addr), items[i + j]? = some (.ref b) ∧ b ≠ S ∧ b ≠ I ∧ IsTup s.heap b #[.ref q.2.1, q.2.2] ∧ IsTupleKey (mixKind prog w) s.heap q.1 q.2.1) →
      s.heap.IsListIter I l i → s.heap.IsList l items → s.heap.DictOfH (knT prog w) S acc →
      (∀ h' tk, h'.DictOfH (knT prog w) S (storedAllH acc rest) → (∀ b o, b ≠ S → b ≠ I → s.heap.get? b = some o → h'.get? b = some o) → R (.ok (.ret res)) { s with heap := h', toks := tk }) →
      codeAny (model prog w) A (.builtin "dict.update.loop" ⟨[.ref S, .ref I, .int ix t, res], []⟩) R s
  | [], i, acc, ix, t, s, hsz, hln, ht, hit, hl, hm, hR => by
    refine codeAny_builtin ud_entry ?_
    rw [Around.under_plainId ud_plain _]
    show wpAny _ A.in1 (pyNext (.ref I) >>= _) _ _ s
    have hit0 := hit
    obtain ⟨oI, hoI, cI, _⟩ := hit0
    refine wpAny_bind (wpAny_pyNext_list_end (A := A.in1) hh hit hl (by first | exact Array.getElem?_eq_none (Nat.le_of_eq hsz) | (simp at hsz; simp; omega)) fun h' he => ?_)
    show wpAny _ A.in1 (Builtin.Dict.addKeywords S [] >>= _) _ _ _
    refine wpAny_bind (wpAny_pure (wpAny_pure ?_))
    exact hR h' s.toks (dictH_keep hm hSI (fun b o hb e => he b o hb e) hoI (by rw [cI]; decide)) fun b o _ hb e => he b o hb e
  | q :: rest, i, acc, ix, t, s, hsz, hln, ht, hit, hl, hm, hR => by
    obtain ⟨b, hb, hbS, hbI, htup, hk⟩ := ht 0 q rfl
    rw [List.length_cons] at hsz hln
    have hit0 := hit
    obtain ⟨oI, hoI, cI, _⟩ := hit0
    have cI' : oI.cls ≠ .type "tuple" := by rw [cI]; decide
    refine codeAny_builtin ud_entry ?_
    rw [Around.under_plainId ud_plain _]
    show wpAny _ A.in1 (pyNext (.ref I) >>= _) _ _ s
    refine wpAny_bind (wpAny_pyNext_list_item (x := .ref b) hit hl (by simpa using hb) fun h1 hit1 hs1 => ?_)
    have ht1 : IsTup h1 b #[.ref q.2.1, q.2.2] := htup.extBut hs1.extBut hbI
    have hl1 : h1.IsList l items := hl.extBut hs1.extBut hlI
    have hm1 : h1.DictOfH (knT prog w) S acc := dictH_keep hm hSI hs1.extBut hoI cI'
    have hk1 : IsTupleKey (mixKind prog w) h1 q.1 q.2.1 := tkey_keep hk hs1.extBut hoI cI'
    obtain ⟨o, ho, hc, n, hd⟩ := id ht1
    show wpAny _ A.in1 (holding [Value.ref b] _ >>= _) _ _ _
    refine wpAny_bind (wpAny_holding ?_)
    refine wpAny_bind (wpAny_tryCatch ?_)
    unfold Builtin.Dict.pairItems
    refine wpAny_bind (wpAny_typeOf (T := "tuple") ⟨o, ho, hc⟩ ?_)
    rw [if_pos (by first | decide | rfl | simp)]
    refine wpAny_bind (wpAny_seqItems ho hd (wpAny_pure ?_))
    show wpAny _ A.in1 (holding [Value.ref q.2.1, q.2.2] (dictSet S (.ref q.2.1) q.2.2)) _ _ _
    obtain ⟨oS, _, _, hoS, cS, dS, _⟩ := id hm1
    refine wpAny_holding (wpAny_dictSet_heap (knd := knT prog w) (k := q.1) (hu _ rfl) hk1 hm1 (fun h2 hm2 hs2 => ?_) (by omega))
    have hx2 := hs2.extBut
    refine wpAny_pure ⟨plainId_quiet ud_plain _, upd_loopT (items := items) hu hh hlI hSI hSl rest (i + 1) (storedH acc q.1 q.2.1 q.2.2) (ix + 1) 0 _ (show items.size = i + 1 + rest.length by omega) ?_ (fun j q' e => ?_) ?_ ?_ hm2 fun h' tk hd' k => ?_⟩
    · have z := storedH_length acc q.1 q.2.1 q.2.2
      omega
    · obtain ⟨b', hb', hbS', hbI', htup', hk'⟩ := ht (j + 1) q' (by simpa using e)
      refine ⟨b', ?_, hbS', hbI', (htup'.extBut hs1.extBut hbI').extBut hx2 hbS', tkey_keep (tkey_keep hk' hs1.extBut hoI cI') hx2 hoS (by rw [cS.1]; decide)⟩
      rw [show i + 1 + j = i + (j + 1) by omega]
      exact hb'
    · exact hit1.at fun o' e => hx2 I o' (Ne.symm hSI) e
    · exact hl1.extBut hx2 (Ne.symm hSl)
    · exact hR h' tk hd' fun c oc h3 h4 e => k c oc h3 h4 (hx2 c oc h3 (hs1.extBut c oc h4 e))
/-- dict(l) of a list of pairs -/
theorem call_dict_pairsT {s : Shared} {l : Addr} {ol : Obj} {items : Array Value} {n : Nat} {prs : List (List Key × Addr × Value)} {Q : Value → Shared → Prop} (hu : A.units + 64 < cLine) (hh : A.handled = none) (hl : s.heap.get? l = some ol) (hc : ol.cls = .type "list") (hd : ol.dict = none)
    (hdat : ol.data = .seq items n) (hsz : items.size = prs.length) (hln : prs.length ≤ sizeLine)
    (ht : ∀ (j : Nat) (q : List Key × Addr × Value), prs[j]? = some q → ∃ (b : Addr), items[j]? = some (.ref b) ∧ IsTup s.heap b #[.ref q.2.1, q.2.2] ∧ IsTupleKey (mixKind prog w) s.heap q.1 q.2.1)
    (h : ∀ h' tk, h'.DictOfH (knT prog w) s.heap.objs.size (storedAllH [] prs) → (∀ b o, s.heap.get? b = some o → h'.get? b = some o) → Q (.ref s.heap.objs.size) { s with heap := h', toks := tk }) :
    wpAny (model prog w) A (call (.type "dict") [.ref l]) Q E s := by
  refine callType_codes (Q₁ := fun obj s₁ => obj = .ref s.heap.objs.size ∧ s₁ = { s with heap := s.heap.push { cls := .type "dict", data := .dict #[] } }) PySem.F.kt_called_dict (PySem.F.kt_typeCall_dict_1 _) PySem.F.entry_dict_init (kt_code_dict_new _ ⟨rfl, rfl⟩) ?_
  rintro obj s₁ ⟨rfl, rfl⟩
  have hnew : (s.heap.push { cls := .type "dict", data := .dict #[] }).DictOfH (knT prog w) s.heap.objs.size [] := Heap.DictOfH.new s.heap
  have k0 : ∀ b o, s.heap.get? b = some o → (s.heap.push { cls := .type "dict", data := .dict #[] }).get? b = some o := fun b o e => Heap.get?_push_of_some _ e
  have hty : ({ s with heap := s.heap.push { cls := .type "dict", data := .dict #[] } } : Shared).TypeIs (.ref s.heap.objs.size) "dict" := Heap.DictOfH.typeIs (s := { s with heap := s.heap.push { cls := .type "dict", data := .dict #[] } }) hnew
  refine ⟨hty, PySem.F.args_dict_init_2 _ _, ?_⟩
  unfold Builtin.«dict.__init__»
  refine wpAny_bind ?_
  unfold Builtin.Dict.selfAndRest
  refine wpAny_bind (wpAny_notOrdered_dict hty ?_)
  show wpAny _ _ (pure (s.heap.objs.size, [Value.ref l])) _ _ _
  refine wpAny_pure ?_
  show wpAny _ _ (Builtin.Dict.updateFrom "dict.__init__" s.heap.objs.size (.ref l) [] .none) _ _ _
  unfold Builtin.Dict.updateFrom
  refine wpAny_bind (wpAny_typeOf (T := "list") ⟨ol, k0 _ _ hl, hc⟩ ?_)
  rw [if_pos (by first | decide | rfl | simp)]
  refine wpAny_bind (miss_list (k0 _ _ hl) hc hdat hd hh fun h1 tk1 hk1 => ?_)
  rw [if_pos (show (none : Option Value).isNone = true from rfl)]
  refine wpAny_bind (wpAny_rule ?_)
  have hl1 : h1.IsList l items := ⟨ol, hk1 _ _ (k0 _ _ hl), hc, n, hdat⟩
  have hS1 : s.heap.objs.size < h1.objs.size := by
    have e : (s.heap.push { cls := .type "dict", data := .dict #[] }).get? s.heap.objs.size = some { cls := .type "dict", data := .dict #[] } := Heap.get?_push_size _ rfl
    exact Heap.lt_size (hk1 _ _ e)
  refine wpAny_bind (wpAny_pyIter_list hl1 ?_)
  have k2 : ∀ b o, h1.get? b = some o → (h1.push { cls := .type "list_iterator", data := .fields #[.ref l, .int 0 0] }).get? b = some o := fun b o e => Heap.get?_push_of_some _ e
  have hlt : l < s.heap.objs.size := Heap.lt_size hl
  have kk : ∀ b o, s.heap.get? b = some o → (h1.push { cls := .type "list_iterator", data := .fields #[.ref l, .int 0 0] }).get? b = some o := fun b o z => k2 _ _ (hk1 _ _ (k0 _ _ z))
  have key := upd_loopT (prog := prog) (w := w) (A := A.in1) (R := wants (fun r s₂ => r = .none ∧ Q (.ref s.heap.objs.size) s₂) E) (S := s.heap.objs.size) (I := h1.objs.size) (l := l) (items := items) (res := Value.none)
    (fun B hB => by
      show B.units < cLine
      rw [hB]
      show A.units + 1 + 1 < cLine
      omega) hh
    (Nat.ne_of_lt (Nat.lt_trans hlt hS1)) (Nat.ne_of_lt hS1) (Nat.ne_of_gt hlt) prs 0 [] 0 0
    { s with heap := h1.push { cls := .type "list_iterator", data := .fields #[.ref l, .int 0 0] }, toks := tk1 } (by rw [hsz, Nat.zero_add]) (by rw [List.length_nil, Nat.zero_add]; exact hln)
    (fun j q e => by
      obtain ⟨b, e1, e2, e3⟩ := ht j q e
      have hb : b < s.heap.objs.size := e2.lt
      obtain ⟨ok, itk, nk, hok, r⟩ := e3
      exact ⟨b, by rw [Nat.zero_add]; exact e1, Nat.ne_of_lt hb, Nat.ne_of_lt (Nat.lt_trans hb hS1), e2.keeps fun c o z => kk _ _ z, ok, itk, nk, kk _ _ hok, r⟩)
    ⟨_, Heap.get?_push_size _ rfl, rfl, rfl⟩ (hl1.at fun o e => k2 _ _ e) (by
      obtain ⟨o, es, ep, ho, r1, r2, r3, r4, r5⟩ := hnew
      exact ⟨o, es, ep, k2 _ _ (hk1 _ _ ho), r1, r2, r3, fun x hx => by simp at hx, r5⟩)
    (fun h' tk hd' k => ⟨rfl, h h' tk hd' fun b o e => k b o (Nat.ne_of_lt (Heap.lt_size e)) (Nat.ne_of_lt (Nat.lt_trans (Heap.lt_size e) hS1)) (k2 _ _ (hk1 _ _ (k0 _ _ e)))⟩)
  first
    | exact wpAny_pure ⟨plainId_quiet ud_plain _, key⟩
    | exact wpAny_bind (wpAny_pure (wpAny_pure ⟨plainId_quiet ud_plain _, key⟩))
end
section
variable {X : Cx}
theorem pairs_ofT {pins : List (Addr × Obj)} {σ : L2.St} {H : Hp} {s : Shared} (I : Inv X pins σ H s) : ∀ {ps : List Addr} {kvs : List (List Key × V)}, Paired (fun p kv => ∃ b, SqT X.K H p [.ref b, kv.2] ∧ H b = some (.tup (kv.1.map kV))) ps kvs →
    ∃ prs : List (List Key × Addr × Value), KT H kvs prs ∧ prs.length = ps.length ∧ ∀ (j : Nat) (q : List Key × Addr × Value), prs[j]? = some q → ∃ (b : Addr), ps[j]? = some b ∧ IsTup s.heap b #[.ref q.2.1, q.2.2] ∧ IsTupleKey (mixKind X.prog X.w) s.heap q.1 q.2.1
  | _, _, .nil => ⟨[], .nil, rfl, fun j q e => by simp at e⟩
  | _, _, .cons (a := p) (b := kv) ⟨b, h, hb⟩ t => by
    obtain ⟨prs, r, hl, hp⟩ := pairs_ofT I t
    obtain ⟨its, rv, ht, _⟩ := I.tuple h
    obtain ⟨u, y, ei, ru, ry⟩ := vals2 rv
    cases ru
    subst ei
    refine ⟨(kv.1, b, y) :: prs, .cons ⟨rfl, hb, ry⟩ r, by rw [List.length_cons, List.length_cons, hl], fun j q e => ?_⟩
    cases j with
    | zero =>
      have e' : (kv.1, b, y) = q := Option.some.inj e
      subst e'
      exact ⟨p, rfl, ht, key_of I.hok hb⟩
    | succ j =>
      obtain ⟨b', e1, e2, e3⟩ := hp j q (by simpa using e)
      exact ⟨b', by simpa using e1, e2, e3⟩
def rDictT (K : PySem.W.Frag) : List V → Hp → VK → Prop := fun xs H Q => ∃ (a : Addr) (ps : List Addr) (kvs : List (List Key × V)), xs = [.ref a] ∧ SqL K H a (ps.map V.ref) ∧ Paired (fun p kv => ∃ b, SqT K H p [.ref b, kv.2] ∧ H b = some (.tup (kv.1.map kV))) ps kvs ∧
    ∀ p, H p = none → Q (.ref p) (upd H p (.dT (mergeT [] kvs)))
theorem cr_dictT (hcalm : X.calm = true) (hu : X.A.units + 64 < cLine) : CallR X (.type "dict") (rDictT X.K) := by
  intro pins s σ H xs us Q I r q
  obtain ⟨a, ps, kvs, ex, hq, hp, q⟩ := q
  subst ex
  obtain ⟨u, eu, rx⟩ := vals1 r
  subst eu
  cases rx
  obtain ⟨its, rv, pl, hz⟩ := I.list hq
  have ei := refs_at rv
  subst ei
  rw [List.length_map] at hz
  obtain ⟨prs, rel, hl, hpr⟩ := pairs_ofT I hp
  obtain ⟨o, n, ho, hc, hd, hdat⟩ := pl
  refine call_dict_pairsT (prs := prs) hu (I.ok.hd hcalm) ho hc hd hdat (by simp [hl]) (by rw [hl]; exact hz) (fun j q' e => ?_) fun h' tk hd' k => ?_
  · obtain ⟨b, e1, e2, e3⟩ := hpr j q' e
    exact ⟨b, by simp [e1], e2, e3⟩
  · have hm : (s.heap.objs.size == sysModules) = false := beq_eq_false_iff_ne.mpr (Nat.ne_of_gt I.big)
    have hlen : (mergeT [] kvs).length ≤ sizeLine := by
      refine Nat.le_trans (length_mergeT kvs []) ?_
      rw [List.length_nil, Nat.zero_add, Paired.length rel, hl]
      exact hz
    have hn := I.hok.fresh (Nat.le_refl s.heap.objs.size)
    obtain ⟨od, es, ep, h1, h2, h3, h4, _, h5⟩ := hd'
    refine ⟨.ref s.heap.objs.size, upd H s.heap.objs.size (.dT (mergeT [] kvs)), I.laid (t' := tk) k (Nat.le_refl _) (show ObjOk X.prog X.w _ _ _ (.dT (mergeT [] kvs)) from
      ⟨hlen, hm, storedAllH [] prs, (KT.merge rel .nil).keeps fun b ys e => by rw [upd_ne (ne_of_none e hn)]; exact e, od, es, ep, h1, h2, h3, h4, h5⟩), rfl, q _ hn⟩
/-- {k: v}, k a tuple -/
def tDispT (tk tv : TE) : TE := fun σ H Q => ∀ p, H p = none → tk σ (upd H p (.dT [])) fun x H1 => tv σ H1 fun y H2 => H2 p = some (.dT []) ∧ ∃ (b : Addr) (k : List Key), x = .ref b ∧ H2 b = some (.tup (k.map kV)) ∧ Q (.ref p) (upd H2 p (.dT [(k, y)]))
theorem wpAny_Dict_T {prog : Program} {w : World} {A : Around} {E : Value → Shared → Prop} {s : Shared} {env : Env} {k v : Expr} {pos : Pos} {Q : Value → Shared → Prop} (hu : A.units < cLine)
    (h : wpAny (model prog w) A (evalPairs (pairTrees [some k] [v] env pos)) (fun vs s₁ => ∃ ps, CarriesH (knT prog w) s₁.heap vs ps ∧ s₁.heap.DictOfH (knT prog w) s.heap.objs.size [] ∧
      ∀ h' tk, h'.DictOfH (knT prog w) s.heap.objs.size (storedAllH [] ps) → Heap.SameBut s.heap.objs.size s₁.heap h' → Q (.ref s.heap.objs.size) { s₁ with heap := h', toks := tk }) E
      { s with heap := s.heap.push { cls := .type "dict", data := .dict #[] } }) :
    wpAny (model prog w) A (eval (.Dict [some k] [v] pos) env) Q E s := by
  rw [arm_eval_Dict, zip_pairTrees [some k] [v] env pos rfl rfl, dictDisplay_pairs (pairTrees [some k] [v] env pos) (by intro z; cases z) (by show 1 < 17; omega)]
  exact wpAny_bind (wpAny_standAt (wpAny_bind (wpAny_subDictH (knd := knT prog w) (Q := fun d s' => wpAny (model prog w) A (pure (Value.ref d)) Q E s') hu (by show 1 ≤ 15; omega)
    (wpAny_mono h (fun vs s₁ h₁ => by obtain ⟨ps, hc, hm, hq⟩ := h₁; exact ⟨ps, hc, hm, fun h' tk a b => wpAny_pure (hq h' tk a b)⟩) fun _ _ e => e))))
theorem pe_dispT {k v : Expr} {pos : Pos} {tk tv : TE} (hu : X.A.units + 1 < cLine) (hk : PE X k tk) (hv : PE X v tv) : PE X (.Dict [some k] [v] pos) (tDispT tk tv) := by
  refine ⟨fun pins s σ H Q I q => ?_⟩
  have hn := I.hok.fresh (Nat.le_refl s.heap.objs.size)
  have I1 := I.laid (a := s.heap.objs.size) (o := .dT []) (h' := s.heap.push { cls := .type "dict", data := .dict #[] }) (t' := s.toks) (fun _ _ q => Heap.get?_push_of_some _ q) (Nat.le_refl _) (dt_empty s.heap I.big)
  refine wpAny_Dict_T (by omega) (pairTrees_cons_walk (thn (hk.run pins _ σ _ _ I1 (q _ hn)) fun u s1 ⟨x, H1, I2, rx, q1⟩ => thn (hv.run pins s1 σ H1 _ I2 q1) fun w2 s2 ⟨y, H2, I3, ry, e, b, ky, ex, hb, q2⟩ => pairTrees_nil_walk ?_))
  subst ex
  cases (show u = Value.ref b from rx)
  obtain ⟨z, hd, xs0, r0, dd⟩ := dt_of I3.hok e
  cases r0
  refine ⟨[(ky, b, w2)], ⟨rfl, rfl, key_of I3.hok hb, True.intro⟩, dd, fun h' tk dd' hs => ?_⟩
  obtain ⟨od, es, ep, h1, h2, h3, h4, _, h5⟩ := dd'
  refine ⟨.ref s.heap.objs.size, _, d_write I3 (ob := .dT [(ky, y)]) (by rw [e]; exact True.intro) hs ⟨od, h1⟩ ⟨by show 1 ≤ _; rw [sizeLine_eq]; omega, hd, storedAllH [] [(ky, b, w2)], ?_, od, es, ep, h1, h2, h3, h4, h5⟩, rfl, q2⟩
  have hbs : b ≠ s.heap.objs.size := ne_of hb e (fun z => nomatch z)
  exact .cons ⟨rfl, by rw [upd_ne hbs]; exact hb, ry⟩ .nil
end
end R45
end
section
set_option Elab.async false
set_option linter.all false
set_option maxRecDepth 100000
set_option maxHeartbeats 2000000
/-! enumerate(tuple); len(set(ints)). -/
namespace R45
open PySem PySem.Spec PyProof.Rows L2 Evl
open AutoSeq1 (wpAny_loadPart')
theorem meets_enumerate_newT (l : Addr) (items : Array Value) (n : Nat) (dct : Option Addr) (sl : Array (Option Value)) :
    Meets (Builtin.«enumerate.__new__» ⟨[.type "enumerate", .ref l], []⟩) (fun _ R s => s.heap.get? l = some { cls := .type "tuple", dict := dct, data := .seq items n, slots := sl } ∧
      R (.ok (.ret (.ref (s.heap.push { cls := .type "tuple_iterator", data := .fields #[.ref l, .int 0 0] }).objs.size)))
        { s with heap := (s.heap.push { cls := .type "tuple_iterator", data := .fields #[.ref l, .int 0 0] }).push { cls := .type "enumerate", data := .fields #[.none, .bool false, .ref s.heap.objs.size, rawInt 0, .none, .none] } }) :=
  .of_wp fun prog w A R s h => by
    obtain ⟨hp, g, d, tk, os⟩ := s; obtain ⟨hl, h⟩ := h
    have hsub := sub_enumerate
    have hL : Heap.IsTuple (Shared.heap ⟨hp, g, d, tk, os⟩) l items := ⟨_, hl, rfl, n, rfl⟩
    wp_walk using wpAny_loadPart' hl
    refine wpAny_stack_any fun st => wpAny_pure ?_
    split
    · rename_i c _ _ _ _ _
      cases (c == Value.type "enumerate")
      · wp_walk using wpAny_loadPart' hl, wpAny_pyIter_tuple hL
        exact ⟨_, rfl, h⟩
      · wp_walk using wpAny_loadPart' hl, wpAny_pyIter_tuple hL
        exact ⟨_, rfl, h⟩
    · wp_walk using wpAny_loadPart' hl, wpAny_pyIter_tuple hL
      exact ⟨_, rfl, h⟩
section
variable {prog : Program} {w : World} {A : Around} {E : Value → Shared → Prop} {s : Shared}
theorem call_enumerate_tuple {l : Addr} {items : Array Value} {Q : Value → Shared → Prop} (hL : s.heap.IsTuple l items)
    (h : ∀ h', IsEnum h' (s.heap.objs.size + 1) s.heap.objs.size 0 .none → h'.IsTupleIter s.heap.objs.size l 0 → h'.objs.size = s.heap.objs.size + 2 →
      (∀ b o, s.heap.get? b = some o → h'.get? b = some o) → Q (.ref (s.heap.objs.size + 1)) { s with heap := h' }) :
    wpAny (model prog w) A (call (.type "enumerate") [.ref l]) Q E s := by
  obtain ⟨⟨c, dct, dt, sl⟩, hl, hc, n, hd⟩ := hL
  replace hc : c = .type "tuple" := hc
  replace hd : dt = .seq items n := hd
  subst hc hd
  refine callType_new F.called_enumerate (by decide) (F.typeCall_enumerate_1 _) (F.newCall_enumerate_1 _) (fun obj => F.args_object_init_2 obj _) F.entry_enumerate_new
    (meets_enumerate_newT l items n dct sl) ⟨hl, ?_⟩
  have hz : (s.heap.push { cls := .type "tuple_iterator", data := .fields #[.ref l, .int 0 0] }).objs.size = s.heap.objs.size + 1 := Heap.size_push ..
  show _ ∧ _
  rw [hz]
  have he : IsEnum ((s.heap.push { cls := .type "tuple_iterator", data := .fields #[.ref l, .int 0 0] }).push
      { cls := .type "enumerate", data := .fields #[.none, .bool false, .ref s.heap.objs.size, rawInt 0, .none, .none] }) (s.heap.objs.size + 1) s.heap.objs.size 0 .none := by
    have := Heap.get?_push_size (s.heap.push { cls := .type "tuple_iterator", data := .fields #[.ref l, .int 0 0] })
      (o := { cls := .type "enumerate", data := .fields #[.none, .bool false, .ref s.heap.objs.size, rawInt 0, .none, .none] }) rfl
    rw [hz] at this; exact this
  refine ⟨⟨_, he, rfl⟩, h _ he ⟨_, Heap.get?_push_of_some _ (Heap.get?_push_size _ rfl), rfl, rfl⟩ (by rw [Heap.size_push, hz]) fun b o x => Heap.get?_push_of_some _ (Heap.get?_push_of_some _ x)⟩
end
/-- the tuple at a, each item in a new pair -/
def Itet (K : PySem.W.Frag) (a : Addr) : It :=
  ⟨fun i H => ∃ (xs : List V) (x : V), SqT K H a xs ∧ xs[i]? = some x, fun i H v H' => ∃ T x, v = .ref T ∧ H T = none ∧ H' = upd H T (.tup [.int (i : Nat), x]) ∧ ∀ xs, SqT K H a xs → xs[i]? = some x, fun i H => ∃ xs : List V, SqT K H a xs ∧ xs.length = i⟩
theorem turn_enumT {P : Program} {w : World} {K : PySem.W.Frag} {elts : List Expr} {kk : Nat} {tpos : Pos} (a e it : Addr) (hai : a ≠ it) (hae : a ≠ e) :
    Turn P w K (.Tuple elts kk tpos) (Itet K a) [e, it] e (fun i h => (∃ old, IsEnum h e it ((i : Nat) : Int) old) ∧ h.IsTupleIter it a i ∧ e ≠ it) where
  mem := by simp
  obj := fun i h st b hb => by
    obtain ⟨⟨old, he⟩, ⟨o, ho, hc, hd⟩, _⟩ := st
    have e' : b = e ∨ b = it := by simpa using hb
    rcases e' with z | z
    · rw [z]; exact ⟨_, he, fun v q => nomatch q⟩
    · rw [z]; exact ⟨o, ho, fun v q => by rw [hd] at q; cases q⟩
  keep := fun i h h' st k => let ⟨⟨old, he⟩, hi, hne⟩ := st; ⟨⟨old, k e (by simp) _ he⟩, hi.at fun o q => k it (by simp) o q, hne⟩
  item := by
    intro X hP hw hK hc i pins s σ H E I hf st hg
    subst hP hw hK
    obtain ⟨⟨old, he⟩, hit, hne⟩ := st
    obtain ⟨xs, x, hq, hx⟩ := hg
    obtain ⟨its, rv, p, hz⟩ := I.tuple hq
    obtain ⟨u, hu, ru⟩ := rv.get hx
    have hel : e < s.heap.objs.size := Heap.lt_size he
    have hil : it < s.heap.objs.size := by obtain ⟨_, q, _⟩ := hit; exact Heap.lt_size q
    have hlt : i < its.toArray.size := by
      rw [List.size_toArray]
      exact (List.getElem?_eq_some_iff.mp hu).1
    refine wpAny_pyNext_enum_itemC (Draws.tuple (prog := X.prog) (w := X.w) (A := X.A.in1) (I.ok.hd hc) it a hai its.toArray) he ⟨hit, p⟩ hlt hne (by simp [hne, Ne.symm hae]) fun x' h' tk hP ho hst' hT hsz hk => ?_
    have hx' : x' = u := by
      have e1 : its.toArray[i]? = some u := by simpa using hu
      rw [e1] at hP
      exact (Option.some.inj hP).symm
    subst hx'
    refine ⟨_, rfl, wpAny_letOwnedTupleGo_enum (s := { s with heap := h', toks := tk + 1 }) ho fun h'' he' sb => ?_⟩
    have hT2 : h''.get? s.heap.objs.size = some { cls := .type "tuple", data := .seq #[.int i tk, x'] } := (sb.2 _ (Nat.ne_of_gt hel)).trans hT
    have new : ObjOk X.prog X.w (upd H s.heap.objs.size (.tup [.int (i : Nat), x])) h'' s.heap.objs.size (.tup [.int (i : Nat), x]) :=
      ⟨by show 2 ≤ sizeLine; decide, [.int i tk, x'], .cons ⟨_, rfl⟩ (.cons ru .nil), ⟨_, hT2, rfl, _, rfl⟩⟩
    have I1 : Inv X pins σ (upd H s.heap.objs.size (.tup [.int (i : Nat), x])) { s with heap := h'', toks := tk + 1 } :=
      I.turnedNew (ch := [e, it]) (fun b ob hb q => (sb.2 b (fun z => hb (by simp [z]))).trans (hk b ob (fun z => hb (by simp [z])) (fun z => hb (by simp [z])) q)) hf (Nat.le_refl _) new
    refine ⟨.ref s.heap.objs.size, _, I1, rfl, ⟨_, x, rfl, I.hok.fresh (Nat.le_refl _), rfl, fun ys hy => by rw [I.tuple_inj hy hq]; exact hx⟩, ⟨⟨x', ?_⟩, hst'.1.at fun o q => (sb.2 it (Ne.symm hne)).trans q, hne⟩, fun b hb => ?_⟩
    · have e1 : ((i + 1 : Nat) : Int) = (i : Int) + 1 := by omega
      rw [e1]; exact he'
    · have hb' : b < s.heap.objs.size := by
        have e' : b = e ∨ b = it := by simpa using hb
        rcases e' with z | z
        · rw [z]; exact hel
        · rw [z]; exact hil
      rw [upd_ne (Nat.ne_of_lt hb')]
      exact (hf b hb).1
  done := by
    intro X hP hw hK hc i pins s σ H E I hf st hg
    subst hP hw hK
    obtain ⟨⟨old, he⟩, hit, hne⟩ := st
    obtain ⟨xs, hq, hx⟩ := hg
    obtain ⟨its, rv, p, hz⟩ := I.tuple hq
    obtain ⟨f0, f1, f2, f3, f4, f5⟩ := hf it (by simp)
    have hl := rv.length
    have hn : its.toArray.size = i := by rw [List.size_toArray]; omega
    refine wpAny_pyNext_enum_endD (Draws.tuple (prog := X.prog) (w := X.w) (A := X.A.in1) (I.ok.hd hc) it a hai its.toArray) he ⟨by rw [hn]; exact hit, p⟩ fun h' eb => ⟨rfl, I.turned (t' := s.toks) (fun b o hb q => eb b o hb q) f0 f1 f3 f4 f5⟩
  self := fun A i s Q E st h => let ⟨⟨_, he⟩, _⟩ := st; wpAny_pyIter_enum he h
def iEnumT (K : PySem.W.Frag) (ta : TA) : TI := fun σ H R => ta σ H fun vs H1 => ∃ a xs, vs = [.ref a] ∧ SqT K H1 a xs ∧ R (Itet K a) H1
theorem pi_enumT {X : Cx} {e : Expr} {ta : TA} {p pos tpos : Pos} {elts : List Expr} {kk : Nat} (hg : Gl X "enumerate") (hm : X.mg "enumerate" = none) (ha : PA X [e] ta) (hs : starEach [e] X.env = [(false, eval e X.env)] := by rfl) :
    PI X (.Tuple elts kk tpos) (.Call (.Name "enumerate" p) [e] [] pos) (iEnumT X.K ta) := by
  refine ⟨fun pins s σ H R I h => ?_⟩
  refine Call_ (ld_blt I hg hm boot_enumerate (PyProof.Rows.callWith_type1 (thn (ha.run pos pins s σ H _ I h) fun us s1 ⟨vs, H1, I1, r1, q1⟩ => ?_) hs rfl))
  obtain ⟨a, xs, ex, hq, q⟩ := q1
  subst ex
  cases r1 with
  | cons r rr =>
    cases rr
    cases r
    obtain ⟨its, rv, p', hz⟩ := I1.tuple hq
    have hal : a < s1.heap.objs.size := p'.lt
    refine call_enumerate_tuple p' fun h' he hit hsz hk => wpAny_pyIter_enum he ?_
    have I2 : Inv X pins σ H1 { s1 with heap := h' } := I1.kept (t' := s1.toks) hk
    refine ⟨s1.heap.objs.size + 1, [s1.heap.objs.size + 1, s1.heap.objs.size], _, _, H1, rfl, I2, turn_enumT a (s1.heap.objs.size + 1) s1.heap.objs.size (Nat.ne_of_lt hal) (Nat.ne_of_lt (Nat.lt_succ_of_lt hal)), ⟨⟨.none, he⟩, hit, Nat.succ_ne_self _⟩, fun b hb => ?_, q⟩
    have e' : b = s1.heap.objs.size + 1 ∨ b = s1.heap.objs.size := by simpa using hb
    have hle : s1.heap.objs.size ≤ b := by
      rcases e' with z | z
      · rw [z]; exact Nat.le_add_right _ _
      · rw [z]; exact Nat.le_refl _
    exact I1.fpOk hle (I1.hok.fresh hle)
theorem walk_enumT {K : PySem.W.Frag} {a : Addr} {xs : List V} : Walk (Itet K a) xs.length (fun H => SqT K H a xs) (YPair (fun i => some (.int (i : Nat))) (fun i => xs[i]?)) := by
  refine ⟨fun i _ hi q => ⟨xs, xs[i], q, by simp [hi]⟩, fun _ q => ⟨xs, q, rfl⟩, fun i H v H' _ q y => ?_⟩
  obtain ⟨T, x, h1, h2, h3, h4⟩ := y
  exact ⟨T, .int (i : Nat), x, h1, h2, h3, rfl, h4 xs q⟩
end R45
end
section
set_option Elab.async false
set_option linter.all false
set_option maxRecDepth 100000
set_option maxHeartbeats 2000000
/-! len(set(ints)), small names. -/
namespace R45
open PySem PySem.Spec PyProof.Rows L2 Evl
def setLen (ns : List Int) : Nat := (PyProof.Rows.firstMet (fun i => ns.getD i 0) ns.length).length
def tLenSetA (K : PySem.W.Frag) (ta : TE) : TE := fun σ H Q => ta σ H fun x H1 => ∃ (l : Addr) (ns : List Int), x = .ref l ∧ SqL K H1 l (ns.map V.int) ∧ ns.length ≤ 4000 ∧ Q (.int (setLen ns : Nat)) H1
theorem pe_lenSetA {X : Cx} {a : Expr} {ta : TE} {p p2 q pos : Pos} (hg : Gl X "len") (hm : X.mg "len" = none) (hg2 : Gl X "set") (hm2 : X.mg "set" = none) (ha : PE X a ta) (hc : X.calm = true := by rfl)
    (na : starEach [a] X.env = (false, eval a X.env) :: starEach [] X.env := by rfl) : PE X (.Call (.Name "len" p) [.Call (.Name "set" p2) [a] [] q] [] pos) (tLenSetA X.K ta) := by
  refine ⟨fun pins s σ H Q I h => ?_⟩
  refine Call_ (ld_blt I hg hm boot_len ?_)
  refine PyProof.Rows.callWith_builtin1 (PyProof.Rows.args_cons ?_ rfl) rfl rfl
  refine Call_ (ld_blt I hg2 hm2 boot_set ?_)
  refine PyProof.Rows.callWith_type1 (PyProof.Rows.args_cons (thn (ha.run pins s σ H _ I h) fun v s1 ⟨x, H1, I1, r1, q1⟩ => PyProof.Rows.args_nil ?_) na) na rfl
  obtain ⟨l, ns, rfl, hq, hl, q1⟩ := q1
  cases r1
  obtain ⟨its, r, pl, hz⟩ := I1.list hq
  have hlen : its.toArray.size = ns.length := by rw [List.size_toArray, ← r.length, List.length_map]
  refine call_set_list (I1.ok.hd hc) pl.isList (by simpa using RZ.intsAre_vals r) (by rw [hlen]; unfold scanBound; omega) fun h' tk hS hk => ?_
  refine PyProof.Rows.args_nil ?_
  rw [hlen] at hS
  have hle := firstMet_length_le (fun i => ns.getD i 0) ns.length
  obtain ⟨o, es, ep, t, ho, hex, hd, _, _, _, hf, hn⟩ := hS
  have I2 : Inv X pins σ H1 { s1 with heap := h', toks := tk } := I1.kept fun b o e => hk b o (Heap.lt_size e) e
  exact call_len_set ho hex hd hf (by rw [hn] <;> omega) ⟨.int (setLen ns : Nat), H1, I2.tok _, ⟨_, by rw [hn]; rfl⟩, q1⟩
theorem setLen_nodup {ns : List Int} (h : ns.Nodup) : setLen ns = ns.length := by
  unfold setLen
  rw [RZ.firstMet_nodup h _ (Nat.le_refl _), List.take_length]
section
variable {X : Cx}
theorem cr_lenS : CallR X (.builtin "len") (rLenS X.K) := call_len_seq
theorem cr_listS : CallR X (.type "list") (rListS X.K) := call_list_of
end
end R45
end
section
set_option Elab.async false
set_option linter.all false
set_option maxRecDepth 100000
set_option maxHeartbeats 2000000
/-! an own exception's __init__ that says super().__init__(e), then one statement more. -/
namespace R45
open PySem PySem.Spec PyProof.Rows L2 Evl NdefX LamX PySem.W
theorem fn_super {CX : CXT} {P : Program} {w : World} {K : PySem.W.Frag} {mg : Str → Option Value} {base : Heap} {k : Nat} {f : Addr} {F : NF} {doc pm ct oc : Value} {od : Option Addr}
    {osl : Array (Option Value)} {N ps : List Str} {sp : Sp} {cc C : Addr} {ccl cl : Value} {cdd cld : Option Addr} {ccs csl : Array (Option Value)} {vs0 : Array Value} {file : Str} {tf : Tok} {p0 p1 p2 p3 p4 : Pos} {e : Expr} {st2 : Stmt} {ar : Arg}
    (lk : K.lookup f = some ⟨oc, od, .func (F.fd doc pm ct), osl⟩) (hFcl : F.cl = [(Str.ofString "__class__", cc)])
    (hbody : F.body = [.Expr (.Call (.Attribute (.Call (.Name "super" p0) [] [] p1) "__init__" p2) [e] [] p3) p4, st2])
    (hcd : PySem.W.codeIn K (.ref F.c) F.qual = true) (hcode : K.lookup F.c = some ⟨ccl, cdd, .fields vs0, ccs⟩) (hvs : vs0[2]? = some (.str file tf)) (hfile : ((P.main.file : Str) == file) = true)
    (hcell : K.lookup cc = some ⟨cl, cld, .cell (some (.ref C)), csl⟩) (T : OexC K C) (hsup : ks_superIn K C C "__init__" = some (some (.builtin "ValueError.__init__"))) (hB : subIn K (.ref C) (.type "ValueError") = some true) (hself : mroIn K C (.ref C) = some true)
    (hop : nsIn K cStatics "thirdparty.any" = some none) (hsm : mg "super" = none) (htop : (P.main.scope.names.lookup ("super" : Str)).isSome = false)
    (S : NScope N ps ["__class__"] F.scope) (hks : F.scope.names.lookup ("super" : Str) = some .globalImplicit) (hhead : (F.params.posonlyargs ++ F.params.args).head? = some ar) (hps : ps[0]? = some ar.arg) (harg : ar.arg ∈ ps)
    (hswap : ∀ L, swapsWith (.Call (.Attribute (.Call (.Name "super" p0) [] [] p1) "__init__" p2) [e] [] p3) none p4.line (envF F f L) = pure false)
    (hstar : ∀ L, starEach [e] (envF F f L) = [(false, eval e (envF F f L))])
    {pl : Addr → Sem Bool} (hev : ∀ L, eval (.Call (.Attribute (.Call (.Name "super" p0) [] [] p1) "__init__" p2) [e] [] p3) (envF F f L) = (do
      let ov ← attributeBase (.Call (.Name "super" p0) [] [] p1) "__init__" (envF F f L) (eval (.Call (.Name "super" p0) [] [] p1) (envF F f L))
      standAt p2.atName
      let (f', first) ← holding [ov] (getMethod ov "__init__" (pl L))
      callWith p3 f' first (backTo p3 (starEach [e] (envF F f L))) []))
    (len : ∀ vs H Q E, sp vs H Q E → vs.length = ps.length)
    (hb2 : ∀ (A : Around) (outer : List Env) (s : Shared) (H : Hp) (vs : List V) (Q : VK) (E : XK), Room k (A.deeper (envF F f s.heap.objs.size)) → sp vs H Q E →
      ∃ (a : Addr) (ta : TA) (t2 : TS), vs[0]? = some (.ref a) ∧ H a = some (exo a C none) ∧ PA (ncx CX P w K mg base N F f A outer s H E) [e] ta ∧
        PSs (ncx CX P w K mg base N F f A outer s H E) [st2] t2 ∧
        ta (startF N vs [some (.ref C)]) H (fun ws H1 => ws.length ≤ 1000 ∧ H1 a = some (exo a C none) ∧ t2 { nx := fun _ H' => Q .non H', rt := Q } (startF N vs [some (.ref C)]) H1)) :
    FnOk P w K mg base CX (k + 1) f (F.fd doc pm ct) ps sp := by
  refine ⟨len, fun A outer s H args us vs Q E hr e0 hb r hsp => ?_⟩
  have KX : K.In s.heap := e0.mod.kin.keeps fun b o e => (e0.bs b o e).1
  have lim : s.heap.NoLimit := e0.mod.nolimit.keeps fun b o e => (e0.bs b o e).1
  have hl := len _ _ _ _ hsp
  obtain ⟨a, ta, t2, hv0, ha, hPA, hPS, hq⟩ := hb2 A outer s H vs Q E (hr.deeper _) hsp
  have hccb : base.get? cc = some ⟨cl, cld, .cell (some (.ref C)), csl⟩ := e0.mod.kin _ _ hcell
  have C0 : CellsAt F.cl ["__class__"] [some (.ref C)] s.heap H := by
    rw [hFcl]
    refine ⟨rfl, fun y c hy => ?_, fun x y c hx hy => ?_, fun i y hi => ?_⟩
    · by_cases hyc : y = "__class__"
      · subst hyc
        have : c = cc := by simpa [List.lookup] using hy.symm
        subst this
        exact ⟨(e0.bs _ _ hccb).2, _, _, (e0.bs _ _ hccb).1, rfl⟩
      · have hne : (y == ("__class__" : Str)) = false := by simpa using hyc
        simp [List.lookup, hne] at hy
    · have kx : ∀ z, ([("__class__", cc)] : List (Str × Addr)).lookup z = some c → z = "__class__" := fun z hz => by
        by_cases hyc : z = "__class__"
        · exact hyc
        · have hne : (z == ("__class__" : Str)) = false := by simpa using hyc
          simp [List.lookup, hne] at hz
      rw [kx x hx, kx y hy]
    · match i, hi with
      | 0, hi =>
        cases hi
        exact ⟨cc, by simp [List.lookup], fun v hv => by
          cases hv
          exact ⟨.ref C, rfl, _, (e0.bs _ _ hccb).1, rfl⟩⟩
      | i + 1, hi => simp at hi
  refine ks_codeAny_call_defAt (fd := F.fd doc pm ct) (body := F.body) (binds := ps.zip us) hr.depth (KX _ _ lk) rfl lim (codeRec_of KX hcd) rfl hb S.nocell (fun ⟨n, _⟩ hy => S.par n (List.of_mem_zip hy).1) (fun h₁ hns kp => ?_) S.co S.gen S.kind
  have I : L2.Inv (ncx CX P w K mg base N F f A outer s H E) [] (startF N vs [some (.ref C)]) H { s with heap := h₁, toks := s.toks + (ps.zip us).length } := inv_startN S hr.hd e0 hl r C0 hns kp
  have fin : ∀ {σ' : L2.St} {H' : Hp} {v : V} {u : Value} {s' : Shared}, L2.Inv (ncx CX P w K mg base N F f A outer s H E) [] σ' H' s' → L2.RelV v u → Q v H' → CE outer P w H s Q u s' :=
    fun {σ' H' v u s'} J rv q => ⟨v, H', J.os, J.bare, J.base, J.hok, rv, q⟩
  obtain ⟨nm, q, Nn, bs, bm, sn, sub, ab, col, dd, k0, k1, k2, k3, k5, hC, hbm⟩ := T.cls
  have hcl : clsIn K C = some { name := nm, bases := bs, mro := .ref C :: bm, ns := Nn, qualname := q, hasDict := true, slotNames := sn, subclasses := sub, abstract := ab, collection := col, hasDel := false } := by unfold clsIn; rw [hC] <;> rfl
  have K1 : K.In h₁ := KX.keeps kp
  obtain ⟨u0, hu0, ru0⟩ := r.get hv0
  obtain rfl : u0 = Value.ref a := ru0
  have ndP : ps.Nodup := by
    have q := S.nd.sublist (List.take_sublist (ps.length + [Str.ofString "__class__"].length) N)
    rw [S.pre] at q
    exact (List.nodup_append.mp q).1
  have hself0 : (ps.zip us).reverse.lookup ar.arg = some (.ref a) := zip_look ndP hps hu0
  obtain ⟨t1, hoa⟩ := exo_at I.hok ha
  show PySem.wpAt (model P w) (A.deeper (envF F f s.heap.objs.size)) (.func F.body (envF F f s.heap.objs.size)) (execs F.body (envF F f s.heap.objs.size)) _ _ _
  rw [show execs F.body (envF F f s.heap.objs.size) = execs [.Expr (.Call (.Attribute (.Call (.Name "super" p0) [] [] p1) "__init__" p2) [e] [] p3) p4, st2] (envF F f s.heap.objs.size) by rw [← hbody]]
  have hkc : F.scope.names.lookup ("__class__" : Str) = some .free := S.frk _ (List.mem_singleton.mpr rfl)
  have ca : ar.arg = ar.arg := rfl
  obtain ⟨mb, hmb1, hmb2⟩ := e0.mod.blt
  refine ks_wpAt_execs_cons (ks_wpAt_Expr_any ?_ (by simp [interactive, S.kind]) (hswap _))
  refine ks_wpAt_MethodCall (pl := pl s.heap.objs.size) (ks_wpAt_super_base (env := envF F f s.heap.objs.size) hks hkc (by decide) rfl (K1 _ _ lk) rfl hhead rfl (K1 _ _ hcode) rfl hvs hfile htop ?_) (hev _)
  refine ks_loadName_global S.kind hks (Calls.loadGlobal_builtin (env := envF F f s.heap.objs.size) ((e0.mod.glob.keeps fun b o e => (e0.bs b o e).1).keeps kp) hsm ((hmb1.keeps fun b o e => (e0.bs b o e).1).keeps kp) ((hmb2 _ (by decide)).trans (by decide +kernel : bootBuiltins "super" = some (.type "super"))) ⟨rfl, ?_⟩)
  refine wpAny_loadName_free S.kind hkc (by rw [show (envF F f s.heap.objs.size).cells = F.cl from rfl, hFcl]; rfl) ⟨_, K1 _ _ hcell, rfl⟩ ?_
  refine wpAny_loadName_local S.kind (S.par _ harg) hns hself0 ?_
  refine ks_wpAny_isType_cls (K1 _ _ hC) rfl ⟨rfl, ?_⟩
  have hin : ∀ {h2 : Heap}, (∀ b o, h₁.get? b = some o → h2.get? b = some o) → PySem.W.InstAt h2 a { cls := Value.ref C, data := Data.fields #[Value.ref t1, Value.none, Value.none, Value.none, Value.bool false, Value.none] } C none := fun k2 => ⟨k2 _ _ hoa, rfl, rfl, trivial⟩
  refine ks_wpAny_call_super (K1 _ _ hC) rfl hoa rfl (fun c e => nomatch e) (looks_mroIn K1 hself) fun h2 hso k2 => ?_
  have I2 : L2.Inv (ncx CX P w K mg base N F f A outer s H E) [] (startF N vs [some (.ref C)]) H { s with heap := h2, toks := s.toks + (ps.zip us).length } := I.kept k2
  have K2 : K.In h2 := K1.keeps k2
  have hI : Looks (model P w) h2 (isInstance (.ref a) (.type "ValueError")) true := (hin k2).type.andThen (looks_subIn K2 hB)
  refine kxs_getMethod kxs_ValueError hso (looks_opaque K2 hop) (l₀ := .ref C :: bm) (fun A Q E s k q => wpAny_bind ((looks_clsIn K2 hcl) A _ E s k (wpAny_pure q))) rfl K2 (by
    have z := hsup
    unfold ks_superIn at z
    rw [hcl] at z
    exact z) hI (ks_ne K2 (hin k2) hcl) (by decide) ?_
  show wpAny (model P w) (A.deeper (envF F f s.heap.objs.size)) (callWith p3 (.ref h2.objs.size) [] (backTo p3 (starEach [e] (envF F f s.heap.objs.size))) []) _ _ _
  have hal : a < h2.objs.size := Heap.lt_size (k2 _ _ hoa)
  have I3 : L2.Inv (ncx CX P w K mg base N F f A outer s H E) [] (startF N vs [some (.ref C)]) H { s with heap := h2.push (kxs_mw "ValueError.__init__" a), toks := s.toks + (ps.zip us).length + 1 } := I2.kept fun b o e => Heap.get?_push_of_some _ e
  have hu2 : (h2.push (kxs_mw "ValueError.__init__" a)).get? h2.objs.size = some (kxs_mw "ValueError.__init__" a) := Heap.get?_push_size _ rfl
  have I4 := I3.pins_of (pins' := [(h2.objs.size, kxs_mw "ValueError.__init__" a)]) (fun p hp => by
    rw [List.mem_singleton.mp hp]
    refine ⟨hu2, I2.hok.fresh (Nat.le_refl _), Nat.ne_of_gt I2.lt, I2.nofs (Nat.le_refl _), fun v z => nomatch z⟩)
  have hrun : wpAny (model P w) (A.deeper (envF F f s.heap.objs.size)) (spliced (backTo p3 (starEach [e] (envF F f s.heap.objs.size)))) _ _ _ := hPA.run p3 [(h2.objs.size, kxs_mw "ValueError.__init__" a)] _ (startF N vs [some (.ref C)]) H _ I4 hq
  rw [hstar] at hrun ⊢
  refine kxs_callWith (i := "ValueError.__init__") (x := a) rfl ?_
  refine Calls.evalArgs_plain (wpAny_mono hrun (fun ws' s4 hs4 => ?_) fun e s' hs => hs)
  obtain ⟨ws, H1, I5, rws, hws, ha1, hq2⟩ := hs4
  have hu5 : s4.heap.get? h2.objs.size = some (kxs_mw "ValueError.__init__" a) := (I5.pin (h2.objs.size, kxs_mw "ValueError.__init__" a) (List.mem_append_right _ (List.mem_singleton.mpr rfl))).1
  refine ⟨hu5, ?_⟩
  obtain ⟨t5, hoa5⟩ := exo_at I5.hok ha1
  have K5 : K.In s4.heap := I5.kIn
  obtain ⟨h5, g5, d5, tk5, os5⟩ := s4
  refine wpAny_call (codeAny_of_tree ?_)
  show wpAny _ (A.deeper (envF F f s.heap.objs.size)).in1 (callAny (.ref h2.objs.size) ⟨[] ++ ws', []⟩) _ _ _
  simp only [callAny]
  refine wpAny_bind (wpAny_load hu5 ?_)
  simp only [kxs_mw, show (Value.type "method-wrapper" == Value.type "method" || Value.type "method-wrapper" == Value.type "builtin_function_or_method" || Value.type "method-wrapper" == Value.type "method-wrapper") = true by decide, if_true]
  refine KFB.if_so (by decide) ?_
  refine wpAny_bind (check_bound_init PySem.F.excBase_ValueError.toExcCallFacts (K5 _ _ hC) hoa5 rfl ?_)
  refine wpAny_bind (wpAny_pure (wpAny_pure ?_))
  refine ⟨plainId_quiet PySem.F.excBase_ValueError.init.plain _, codeAny_builtin PySem.F.excBase_ValueError.initEntry ?_⟩
  refine exc_init_tree (cls := .ref C) (t0 := t5) (dv := none) (c2 := .none) (c3 := .none) (b4 := .bool false) hoa5 (by
    have z := rws.length
    rw [sizeLine_eq]
    show ([] ++ ws').length ≤ _
    simp only [List.nil_append]
    omega) fun h6 k6 hoa6 _ => ?_
  have J := I5.write (t' := tk5) (x := a) (e := a) (o := exo a C none) (by rw [ha1]; exact True.intro) (.inl rfl) k6 ⟨_, hoa6⟩ (exo_ok hoa6)
  have eu : upd H1 a (exo a C none) = H1 := by
    funext b
    by_cases hb : b = a
    · rw [hb, upd_same, ha1]
    · rw [upd_ne hb]
  rw [eu] at J
  have J0 : L2.Inv (ncx CX P w K mg base N F f A outer s H E) [] (startF N vs [some (.ref C)]) H1 { heap := h6, gens := g5, drawn := d5, toks := tk5, os := os5 } := L2.Inv.unpinned (pins := []) J
  show PySem.wpAt (model P w) (A.deeper (envF F f s.heap.objs.size)) (.func F.body (envF F f s.heap.objs.size)) (execs [st2] (envF F f s.heap.objs.size)) _ _ _
  refine wpAt_of_wpAny (wpAny_mono (hPS.run [] _ (startF N vs [some (.ref C)]) H1 _ J0 hq2) (fun fl s' hs => ?_) fun e s' hs => hs)
  cases fl with
  | ret u =>
    obtain ⟨v, σ', H', J, rv, q⟩ := hs
    exact fin J rv q
  | next =>
    obtain ⟨σ', H', J, q⟩ := hs
    exact fin (v := V.non) (u := Value.none) J rfl q
  | brk =>
    obtain ⟨_, _, _, q⟩ := hs
    exact False.elim q
  | cont =>
    obtain ⟨_, _, _, q⟩ := hs
    exact False.elim q
end R45
end
section
set_option Elab.async false
set_option linter.all false
set_option maxRecDepth 100000
set_option maxHeartbeats 2000000
/-! several except clauses, some of them with a name. -/
namespace R45
open PySem PySem.Spec PyProof.Rows L2 Evl
abbrev Cls1 := Value × Option Nat × (Addr → Value → Option Addr → TS)
/-- what the clauses wish of an exception of the body, one after the other; slot i is the name's -/
def wManyA (K : PySem.W.Frag) (Wout : WX) (D : Ends) : List Cls1 → WX
  | [] => Wout
  | (c, none, ts) :: r => fun cls d σ H => ∃ b, PySem.W.exmOne K cls c = some b ∧ (b = true → ∀ a, H a = none → ts a cls d D σ H) ∧ (b = false → wManyA K Wout D r cls d σ H)
  | (c, some i, ts) :: r => fun cls d σ H => ∃ b, PySem.W.exmOne K cls c = some b ∧
    (b = true → ∀ a, H a = none → (σ.set i (some (.ref a)))[i]? = some (some (.ref a)) → ts a cls d { nx := fun σ' H' => D.nx (σ'.set i none) H', rt := D.rt, bk := fun σ' H' => D.bk (σ'.set i none) H', ct := fun σ' H' => D.ct (σ'.set i none) H' } (σ.set i (some (.ref a))) H) ∧
    (b = false → wManyA K Wout D r cls d σ H)
inductive HdsA (X : Cx) : List ExceptHandler → List Cls1 → Prop
  | nil : HdsA X [] []
  | cons {x : Str} {c : Value} {ts : Addr → Value → Option Addr → TS} {b₀ : Stmt} {suite : List Stmt} {np pos' : Pos} {hds : List ExceptHandler} {l : List Cls1} (hc : Names X x c)
      (hsu : ∀ (a : Addr) (oe : Obj) (cls : Value) (d : Option Addr) (pn : List (Addr × Obj)), Zc cls d oe → (∃ vs, oe.data = .fields vs) → PSs (X.suite a ((a, oe) :: pn)) (b₀ :: suite) (ts a cls d)) (r : HdsA X hds l) :
      HdsA X (.ExceptHandler (some (.Name x np)) none (b₀ :: suite) pos' :: hds) ((c, none, ts) :: l)
  | consA {x n : Str} {i : Nat} {c : Value} {ts : Addr → Value → Option Addr → TS} {b₀ : Stmt} {suite : List Stmt} {np pos' : Pos} {hds : List ExceptHandler} {l : List Cls1} (hc : Names X x c) (hN : X.N.Nodup) (hi : X.N[i]? = some n) (hln : X.env.kindOf n = some .local)
      (hsu : ∀ (a : Addr) (oe : Obj) (cls : Value) (d : Option Addr) (pn : List (Addr × Obj)), Zc cls d oe → (∃ vs, oe.data = .fields vs) → PSs (X.suite a ((a, oe) :: pn)) (b₀ :: suite) (ts a cls d)) (r : HdsA X hds l) :
      HdsA X (.ExceptHandler (some (.Name x np)) (some n) (b₀ :: suite) pos' :: hds) ((c, some i, ts) :: l)
section
variable {X : Cx} {body : List Stmt} {h₀ : ExceptHandler} {hds : List ExceptHandler} {l : List Cls1} {pos : Pos} {tb : WX → TS} {Wout : WX}
theorem ps_try_manyA (hs : X.stack = X.env :: X.outer) (hf : X.env.frame = some X.env.locals) (tk : Takes X Wout)
    (hb : ∀ (W : WX) (pn : List (Addr × Obj)) (xe : Value → Shared → Prop), Takes (X.tr pn xe) W → PassesOwn (model X.prog X.w) X.A X.env xe → PSs (X.tr pn xe) body (tb W))
    (hh : HdsA X (h₀ :: hds) l) : PS X (.Try body (h₀ :: hds) [] [] pos) (fun D σ H => tb (wManyA X.K Wout D l) D σ H) := by
  refine ⟨fun pins s σ H D I h => ?_⟩
  have ok := I.ok
  have hfr : X.A.frames = some (X.env :: X.outer) := by rw [ok.frames, hs]
  refine wpAny_Try_except ?_
  refine wpAny_mono ((hb (wManyA X.K Wout D l) (X.pn ++ pins) (fun e s₁ => wpAny (model X.prog X.w) X.A (noteFrame e X.env) (fun _ s₂ => wpAny (model X.prog X.w) X.A (setFlight e none) (fun _ s₃ =>
    wpAny (model X.prog X.w) X.A (handleBy e X.env (h₀ :: hds)) (SP X pins D) X.xe s₃) X.xe s₂) X.xe s₁) (fun u s' xx => ?_) PassesOwn.looking).run [] s σ H D (I.toTry _) h) (fun f s1 hsp => ?_) (fun e s1 he => he)
  · -- the catch
    obtain ⟨a, B, sI, pins', σ', H', cls, d, rfl, J', nb, up, sky, na, os, ag, w⟩ := xx
    have J : L2.Inv X pins σ' H' sI := J'.ofTry ok
    have sky' : Sky B (X.env :: X.outer) a (Zc cls d) X.env.locals s'.heap := by rw [← hs]; exact sky
    show wpAny (model X.prog X.w) X.A (noteFrame (.ref a) X.env) _ _ _
    refine Sky.land Zc.steady hfr hf sky' fun h3 fl3 up3 => ?_
    have J3 : L2.Inv X pins σ' H' { s' with heap := h3 } := J.landed nb fl3.1 (up.trans up3) os ag
    obtain ⟨oe3, vs3, he3, hz3, hd3⟩ := fl3.there
    have notFr : ∀ {h : Heap} {o : Obj} {vs : Array Value}, h.FunFrames B (X.env :: X.outer) → h.get? a = some o → o.data = .fields vs → a ∉ frs (X.env :: X.outer) := fun {h o vs} ff e dd hm => by
      obtain ⟨_, o', e', hnf⟩ := ff.mem hm
      rw [e] at e'; cases e'
      exact hnf _ dd
    have nfr := notFr fl3.2.2.1 he3 hd3
    have nL : a ≠ X.env.locals := fun z => nfr (List.mem_filterMap.mpr ⟨X.env, List.mem_cons_self, by rw [hf, z]⟩)
    have nF : a ∉ X.fs := fun hm => by
      obtain ⟨e, he, q⟩ := List.mem_filterMap.mp hm
      exact nfr (List.mem_filterMap.mpr ⟨e, List.mem_cons_of_mem _ he, q⟩)
    have S3 := J3.suite he3 hd3 na nL nF
    have go : ∀ {hds' : List ExceptHandler} {l' : List Cls1}, HdsA X hds' l' → wManyA X.K Wout D l' cls d σ' H' →
        wpAny (model X.prog X.w) X.A (handleBy (.ref a) X.env hds') (SP X pins D) X.xe { s' with heap := h3 } := by
      intro hds' l' hk
      induction hk with
      | nil =>
        intro w
        refine wpAny_handleBy_nil ?_
        obtain ⟨k1, k2, k3, oe, vs, T, oT, ts', he, hz, hd, h1, hr⟩ := id fl3
        unfold PySem.passOn
        refine wpAny_bind (wpAny_field he hd h1 ?_)
        rw [if_neg (show ¬ ((Value.ref T == Value.none) = true) from by simp)]
        have fin : wpAny (model X.prog X.w) X.A (setFlight (.ref a) X.env.frame) (fun _ s4 => wpAny (model X.prog X.w) X.A (throw (.ref a) : Sem Flow) (SP X pins D) X.xe s4) X.xe { s' with heap := h3 } := by
          rw [hf]
          refine HandSPX.setFlight_upZ fl3 fun h4 hh4 up4 => wpAny_throw (tk _ _ ?_)
          exact ⟨a, B, sI, pins, σ', H', cls, d, rfl, J, nb, (up.trans up3).trans up4, .inr (.inr (by rw [hs]; exact hh4)), na, os, ag, w⟩
        first
          | exact wpAny_bind (wpAny_pure (wpAny_bind fin))
          | exact wpAny_bind fin
      | @cons x c ts b₀ suite np pos' hds2 l2 hc hsu r ih =>
        intro w
        obtain ⟨b, hb1, hyes, hno⟩ := w
        refine wpAny_handleBy_cons (codeAny_handlers_test ?_) (by intro q; cases q)
        have LT : PySem.W.Looks (model X.prog X.w) h3 (typeOf (.ref a)) cls := fun A Q E s k q => wpAny_typeOf_ref (k _ _ he3) (by rw [hz3.1]; exact q)
        have LM := PySem.W.exm_one (M := model X.prog X.w) (J3.kIn) LT hb1
        have test : ∀ {Q : Value → Shared → Prop} {E : Value → Shared → Prop}, Q c { s' with heap := h3 } → wpAny (model X.prog X.w) (X.A.mark (some (.ref a))) (eval (.Name x np) X.env) Q E { s' with heap := h3 } := fun {Q E} q => by
          obtain ⟨hg, hdbg, hm | ⟨hm, hv, hnn⟩⟩ := hc
          · exact ld_glob (X := X.suite a ((a, oe3) :: (X.pn ++ pins))) S3 hg hm q hdbg
          · exact ld_blt (X := X.suite a ((a, oe3) :: (X.pn ++ pins))) S3 hg hm hv q hnn hdbg
        refine test (LM.here ?_)
        cases b with
        | true =>
          refine codeAny_handlers_suite ?_
          refine HandSPX.lands_againZ fl3 fun h4 fl4 up4 => ?_
          have J4 : L2.Inv X pins σ' H' { s' with heap := h4 } := J.landed nb fl4.1 ((up.trans up3).trans up4) os ag
          obtain ⟨oe4, vs4, he4, hz4, hd4⟩ := fl4.there
          have S4 := J4.suite he4 hd4 na nL nF
          refine wpAny_mono ((hsu a oe4 cls d (X.pn ++ pins) hz4 ⟨_, hd4⟩).run [] _ _ H' _ S4 (hyes rfl a na)) (fun f s6 hsp => ?_) (fun _ _ z => False.elim z)
          cases f with
          | next =>
            obtain ⟨σ6, H6, S6, q6⟩ := hsp
            exact ⟨_, _, S6.unsuite ok, q6⟩
          | brk =>
            obtain ⟨σ6, H6, S6, q6⟩ := hsp
            exact ⟨_, _, S6.unsuite ok, q6⟩
          | cont =>
            obtain ⟨σ6, H6, S6, q6⟩ := hsp
            exact ⟨_, _, S6.unsuite ok, q6⟩
          | ret u =>
            obtain ⟨v6, σ6, H6, S6, r6, q6⟩ := hsp
            exact ⟨_, _, _, S6.unsuite ok, r6, q6⟩
        | false =>
          show wpAny _ X.A (handleBy (.ref a) X.env hds2) _ _ _
          exact ih (hno rfl)
      | @consA x n i c ts b₀ suite np pos' hds2 l2 hc hN hi hln hsu r ih =>
        intro w
        have hloc : Loc X.env.scope n := .inl hln
        obtain ⟨b, hb1, hyes, hno⟩ := w
        refine wpAny_handleBy_cons (codeAny_handlers_test ?_) (by intro q; cases q)
        have LT : PySem.W.Looks (model X.prog X.w) h3 (typeOf (.ref a)) cls := fun A Q E s k q => wpAny_typeOf_ref (k _ _ he3) (by rw [hz3.1]; exact q)
        have LM := PySem.W.exm_one (M := model X.prog X.w) (J3.kIn) LT hb1
        have test : ∀ {Q : Value → Shared → Prop} {E : Value → Shared → Prop}, Q c { s' with heap := h3 } → wpAny (model X.prog X.w) (X.A.mark (some (.ref a))) (eval (.Name x np) X.env) Q E { s' with heap := h3 } := fun {Q E} q => by
          obtain ⟨hg, hdbg, hm | ⟨hm, hv, hnn⟩⟩ := hc
          · exact ld_glob (X := X.suite a ((a, oe3) :: (X.pn ++ pins))) S3 hg hm q hdbg
          · exact ld_blt (X := X.suite a ((a, oe3) :: (X.pn ++ pins))) S3 hg hm hv q hnn hdbg
        refine test (LM.here ?_)
        cases b with
        | true =>
          refine codeAny_handlers_suite_as ?_
          refine HandSPX.lands_againZ fl3 fun h4 fl4 up4 => ?_
          have J4 : L2.Inv X pins σ' H' { s' with heap := h4 } := J.landed nb fl4.1 ((up.trans up3).trans up4) os ag
          obtain ⟨oe4, vs4, he4, hz4, hd4⟩ := fl4.there
          have S4 := J4.suite he4 hd4 na nL nF
          refine store_ok (X := X.suite a ((a, oe4) :: (X.pn ++ pins))) (v := .ref a) S4 hN hi hloc rfl (fun s5 S5 => ?_) (.inr hln)
          refine wpAny_mono ((hsu a oe4 cls d (X.pn ++ pins) hz4 ⟨_, hd4⟩).run [] s5 _ H' _ S5 (hyes rfl a na (by
              have hlen := J.len
              have hlt := (List.getElem?_eq_some_iff.mp hi).1
              rw [List.getElem?_set_self (by omega)]))) (fun f s6 hsp => ?_) (fun _ _ z => False.elim z)
          have end_ : ∀ {σ6 : L2.St} {H6 : Hp} {Q : Shared → Prop}, L2.Inv (X.suite a ((a, oe4) :: (X.pn ++ pins))) [] σ6 H6 s6 → (∀ s7, L2.Inv X pins (σ6.set i none) H6 s7 → Q s7) →
              wpAny (model X.prog X.w) X.A (do bindName X.env n .none; unbindBehindTheSuite X.env n pos') (fun _ s7 => Q s7) X.xe s6 := fun {σ6 H6 Q} S6 hq => gone_ok (S6.unsuite ok) hN hi hln hq
          cases f with
          | next =>
            obtain ⟨σ6, H6, S6, q6⟩ := hsp
            exact end_ S6 fun s7 J7 => ⟨_, _, J7, q6⟩
          | brk =>
            obtain ⟨σ6, H6, S6, q6⟩ := hsp
            exact end_ S6 fun s7 J7 => ⟨_, _, J7, q6⟩
          | cont =>
            obtain ⟨σ6, H6, S6, q6⟩ := hsp
            exact end_ S6 fun s7 J7 => ⟨_, _, J7, q6⟩
          | ret u =>
            obtain ⟨v6, σ6, H6, S6, r6, q6⟩ := hsp
            exact end_ S6 fun s7 J7 => ⟨_, _, _, J7, r6, q6⟩
        | false =>
          show wpAny _ X.A (handleBy (.ref a) X.env hds2) _ _ _
          exact ih (hno rfl)
    exact go hh w
  · cases f with
    | next =>
      obtain ⟨σ', H', J', q⟩ := hsp
      exact wpAny_execs_nil ⟨σ', H', J'.ofTry ok, q⟩
    | brk =>
      obtain ⟨σ', H', J', q⟩ := hsp
      exact ⟨σ', H', J'.ofTry ok, q⟩
    | cont =>
      obtain ⟨σ', H', J', q⟩ := hsp
      exact ⟨σ', H', J'.ofTry ok, q⟩
    | ret u =>
      obtain ⟨v, σ', H', J', r, q⟩ := hsp
      exact ⟨v, σ', H', J'.ofTry ok, r, q⟩
end
end R45
end
section
set_option Elab.async false
set_option linter.all false
set_option maxRecDepth 100000
set_option maxHeartbeats 2000000
/-! the def that calls what it got and says which error came. -/
namespace R45
open PySem PySem.Spec PyProof.Rows L2 Evl LamX
/-- what it makes of the call: C1 .. C4 the plain errors (their words), C5 the one with a field -/
def TTw (K : PySem.W.Frag) (C1 C2 C3 C4 C5 : Addr) (w1 many r0 : Str) (lim : Int) : (XK → Hp → VK → Prop) → Hp → VK → Prop := fun tl H Q =>
  tl (fun cls d H' => (PySem.W.exmOne K cls (.ref C1) = some true ∧ Q (.str w1) H') ∨
    (PySem.W.exmOne K cls (.ref C1) = some false ∧ PySem.W.exmOne K cls (.ref C2) = some false ∧ PySem.W.exmOne K cls (.ref C3) = some false ∧ PySem.W.exmOne K cls (.ref C4) = some false ∧ PySem.W.exmOne K cls (.ref C5) = some true ∧ cls = .ref C5 ∧
      ∃ (dd : Addr) (fs : List (Str × V)), d = some dd ∧ H' dd = some (.xd fs) ∧ fs.lookup (Str.ofString "limit") = some (V.int lim) ∧ Q (.str many) H')) H (fun _ H' => Q (.str r0) H')
section
variable {X : Cx}
theorem word_gives {Ng : List Str} {x a q r1 r2 r3 r4 pre : Str} {sg : Scope} {g C1 C2 C3 C4 C5 : Addr} {cdg : Value} {j1 j2 j3 j4 j5 : Nat} {many : Str} {lim : Int} {n1 n2 n3 n4 n5 : Str} {r0 : Str} {j9 : Nat}
    {p1 p2 p3 q1 q2 q3 q4 q5 q6 q7 q8 q9 s1 s2 s3 s4 s5 s6 s7 s8 u1 u2 u3 u4 u5 u6 u7 u8 v1 v2 v3 : Pos}
    (hN : Ng = [a, "error"]) (hnd : Ng.Nodup) (hel : sg.names.lookup ("error" : Str) = some .local) (hgs : sg.names.lookup ("str" : Str) = some .globalImplicit) (hms : X.mg "str" = none)
    (hg1 : sg.names.lookup n1 = some .globalImplicit) (hm1 : X.mg n1 = some (.ref C1)) (hd1 : (n1 == ("__debug__" : Str)) = false)
    (hg2 : sg.names.lookup n2 = some .globalImplicit) (hm2 : X.mg n2 = some (.ref C2)) (hd2 : (n2 == ("__debug__" : Str)) = false)
    (hg3 : sg.names.lookup n3 = some .globalImplicit) (hm3 : X.mg n3 = some (.ref C3)) (hd3 : (n3 == ("__debug__" : Str)) = false)
    (hg4 : sg.names.lookup n4 = some .globalImplicit) (hm4 : X.mg n4 = some (.ref C4)) (hd4 : (n4 == ("__debug__" : Str)) = false)
    (hg5 : sg.names.lookup n5 = some .globalImplicit) (hm5 : X.mg n5 = some (.ref C5)) (hd5 : (n5 == ("__debug__" : Str)) = false)
    (T : XfC X.K C5) (hno : PySem.W.findIn X.K (.ref C5) "limit" = some none) (hmany : many = pre ++ Str.ofString (toString lim)) (hlog : lim.natAbs.log2 < 1920) (hpl : pre.length ≤ 100)(hml : pre.length + (Str.ofString (toString lim)).length ≤ sizeLine) :
    GivesTo X Ng x sg g cdg [.Try [.Expr (.Call (.Name a p1) [] [] p2) p3]
      [.ExceptHandler (some (.Name n1 q1)) none [.Return (some (.Constant (.str r1) j1 q2)) q3] q4,
       .ExceptHandler (some (.Name n2 q5)) none [.Return (some (.Constant (.str r2) j2 q6)) q7] q8,
       .ExceptHandler (some (.Name n3 s1)) none [.Return (some (.Constant (.str r3) j3 s2)) s3] s4,
       .ExceptHandler (some (.Name n4 s5)) none [.Return (some (.Constant (.str r4) j4 s6)) s7] s8,
       .ExceptHandler (some (.Name n5 u1)) (some "error") [.Return (some (.BinOp (.Constant (.str pre) j5 u2) .Add (.Call (.Name "str" u3) [.Attribute (.Name "error" u4) "limit" u5] [] u6) u7)) u8] v1] [] [] q9, .Return (some (.Constant (.str r0) j9 v2)) v3] a q (TTw X.K C1 C2 C3 C4 C5 r1 many r0 lim) := by
  subst hN
  intro f c' s H Q tl act hc h
  have gl : ∀ {n : Str}, sg.names.lookup n = some .globalImplicit → Gl (cxOf C8.CX0 X.prog X.w X.K X.mg X.base [a, "error"] x sg g cdg X.A X.stack s H C8.E0).nox n := fun z => z
  refine ⟨_, pss_cons (ps_try_manyA (X := (cxOf C8.CX0 X.prog X.w X.K X.mg X.base [a, "error"] x sg g cdg X.A X.stack s H C8.E0).nox)
      (tb := fun W D σ H => ∃ Ech : XK, (∀ cls d σ' H', Ech cls d H' → W cls d σ' H') ∧ σ[0]? = some (some (.ref f)) ∧ H c' = some (CodeO c' q) ∧ tl Ech H (fun _ H' => D.nx σ H'))
      rfl rfl LamX.takes0 (fun W pn xe tk _ => ?_)
      (.cons ⟨gl hg1, hd1, .inl hm1⟩ (fun a oe cls d pn _ _ => pss_one (ps_ret pe_str)) (.cons ⟨gl hg2, hd2, .inl hm2⟩ (fun a oe cls d pn _ _ => pss_one (ps_ret pe_str))
        (.cons ⟨gl hg3, hd3, .inl hm3⟩ (fun a oe cls d pn _ _ => pss_one (ps_ret pe_str)) (.cons ⟨gl hg4, hd4, .inl hm4⟩ (fun a oe cls d pn _ _ => pss_one (ps_ret pe_str))
          (.consA ⟨gl hg5, hd5, .inl hm5⟩ hnd (i := 1) rfl hel (fun a oe cls d pn hz hf => pss_one (ps_ret (pe_op op_add_str pe_str (pe_callTy call_str_int hgs hms (by decide +kernel) (pa_cons (pe_xf T hno hz hf (pe_var (i := 1) rfl (.inl hel) (by decide) (by decide))) pa_nil))))) .nil)))))) (pss_one (ps_ret pe_str)), ?_⟩
  · refine ⟨fun pins s' σ H' D I h' => ?_⟩
    obtain ⟨Ech, hW, h1, h2, h3⟩ := h'
    have hp := act W pn xe Ech p1 p2 tk hW
    have hq := pss_one (ps_expr (pos := p3) hp)
    exact hq.run pins s' σ H' D I ⟨h1, h2, h3⟩
  · refine ⟨fun cls d H' => _, fun cls d σ' H' hx => ?_, rfl, hc, h⟩
    rcases hx with ⟨e1, hq⟩ | ⟨e1, e2, e3, e4, e5, ec, dd, fs, ed, ef, el, hq⟩
    · exact ⟨true, e1, fun _ a _ => hq, fun z => by cases z⟩
    · refine ⟨false, e1, (fun z => by cases z), fun _ => ⟨false, e2, (fun z => by cases z), fun _ => ⟨false, e3, (fun z => by cases z), fun _ => ⟨false, e4, (fun z => by cases z), fun _ => ⟨true, e5, fun _ b hb hsl => ?_, fun z => by cases z⟩⟩⟩⟩⟩
      exact ⟨.ref b, hsl, rfl, ec, dd, fs, .int lim, ed, ef, el, lim, rfl, hlog, pre, Str.ofString (toString lim), rfl, rfl, hml, by rw [← hmany]; exact hq⟩
end
end R45
end
section
set_option Elab.async false
set_option linter.all false
set_option maxRecDepth 100000
set_option maxHeartbeats 2000000
/-! a lambda handed to a def: all but the one table stays. -/
namespace R45
open PySem PySem.Spec PyProof.Rows L2 Evl LamX
section
variable {X : Cx} {pins : List (Addr × Obj)} {σ : L2.St} {H : Hp} {s : Shared}
/-- the lambda is made: its code object is new, or found in the table -/
theorem lam_make3 {T : List (Addr × Str)} {c P : Addr} {params : Arguments} {body : Expr} {scope : Scope} {pos : Pos} {E : Value → Shared → Prop} {Q : Value → Shared → Prop} (I : L2.Inv X pins σ H s) (TB : TabB X.base X.mg c P) (hcode : X.env.code = .ref c)
    (hm : (P, X.env.qual ++ "<lambda>") ∈ T) (hu : ∀ p ∈ T, p.1 = P → p.2 = X.env.qual ++ "<lambda>") (hT : Tabs T H) (hdef : defaultsOf params X.env = ([], [])) (hfree : ∀ y ∈ scope.names, y.2 = .free → ∃ c, X.env.cells.lookup y.1 = some c)
    (h : ∀ (f c' : Addr) (pm ctv : Value) (H1 : Hp) (s' : Shared), L2.Inv X pins σ H1 s' → ExtN H H1 → (∀ b o, b ≠ P → H b = some o → H1 b = some o) → Tabs T H1 →
      s'.heap.get? f = some (PySem.W.kla_obj "<lambda>" (X.env.qual ++ "<lambda>") params body scope (cloFrom X.env.cells scope.names []) pm c' ctv) → H1 f = none → f ∉ frs X.stack → H1 c' = some (CodeO c' (X.env.qual ++ "<lambda>")) → Q (.ref f) s') :
    wpAny (model X.prog X.w) X.A (eval (.Lambda params body scope pos) X.env) Q E s := by
  obtain ⟨ps, hP, ht, ha⟩ := hT _ hm
  refine PySem.W.kla_eval hdef ?_
  have bP : s.heap.BuiltinsAt X.mg P := TB.bm.keeps I.bk
  have hP' : s.heap.get? P = some { cls := .none, data := .fields ps } := I.hok P _ hP
  have nofr : ∀ f, s.heap.objs.size ≤ f → f ∉ frs X.stack := fun f hf z => by
    rcases List.mem_cons.mp (I.stkSub _ z) with e | e
    · have h1 := I.lt
      rw [← e] at h1
      exact Nat.lt_irrefl _ (Nat.lt_of_lt_of_le h1 hf)
    · exact I.nofs hf e
  cases hc : codeAmong pos ps.toList with
  | none =>
    refine PySem.W.kla_makeFunction (mg := X.mg) (c := c) (P := P) (ps := ps) (closure_ok hfree) I.ok.glob (I.mod.glob.keeps I.bk) hcode (TB.code.keeps I.bk) hP' ht hc TB.gP bP fun c' ctv h' tk hx hge hlt hrec htb => ?_
    obtain ⟨c2, oc, vs, t, e2, hoc, hd, hv⟩ := hrec
    cases e2
    have hsz : s.heap.objs.size ≤ h'.objs.size := Nat.le_trans hge (Nat.le_of_lt hlt)
    have nC : H c' = none := I.hok.fresh hge
    have I1 := inv_table (t' := tk) (more := #[rawInt pos.line, rawInt pos.col, .ref c']) (h' := h'.push (PySem.W.kla_obj "<lambda>" (X.env.qual ++ "<lambda>") params body scope (cloFrom X.env.cells scope.names []) ((X.mg "__name__").getD .none) c' ctv)) I hP
      (fun b o hb e => Heap.get?_push_of_some _ (hx b o hb e)) (Heap.get?_push_of_some _ htb) hge ⟨oc, vs, t, Heap.get?_push_of_some _ hoc, hd, hv⟩
    have hE : ExtN H (upd (upd H P (.tbl (ps ++ #[rawInt pos.line, rawInt pos.col, .ref c']))) c' (CodeO c' (X.env.qual ++ "<lambda>"))) := fun b o e n => by
      rw [upd_ne (ne_of_none e nC), upd_ne (fun z => n ps (Option.some.inj (e.symm.trans (by rw [z]; exact hP))))]
      exact e
    have eL : (ps ++ #[rawInt pos.line, rawInt pos.col, .ref c']).toList = ps.toList ++ [rawInt pos.line, rawInt pos.col, .ref c'] := by simp
    refine h h'.objs.size c' ((X.mg "__name__").getD .none) ctv _ _ I1 hE (fun b o hb e => by rw [upd_ne (ne_of_none e nC), upd_ne hb]; exact e) (fun p hp => ?_) (Heap.get?_push_size _ rfl) ?_ (nofr _ hsz) upd_same
    · by_cases hb : p.1 = P
      · rw [hu p hp hb, hb]
        refine ⟨_, by rw [upd_ne (ne_of_none hP nC), upd_same], by rw [eL]; exact PySem.TriplesOk_snoc _ _ _ _ ht, fun p' cv hcv => ?_⟩
        rw [eL] at hcv
        rcases among_app _ ht hcv with z | z
        · obtain ⟨c0, e1, e2⟩ := ha p' cv z
          exact ⟨c0, e1, hE _ _ e2 codeO_ne⟩
        · exact ⟨c', z, upd_same⟩
      · obtain ⟨ps', a1, a2, a3⟩ := hT p hp
        refine ⟨ps', by rw [upd_ne (ne_of_none a1 nC), upd_ne hb]; exact a1, a2, fun p' cv hcv => ?_⟩
        obtain ⟨c0, e1, e2⟩ := a3 p' cv hcv
        exact ⟨c0, e1, hE _ _ e2 codeO_ne⟩
    · have n1 : h'.objs.size ≠ c' := Nat.ne_of_gt hlt
      have n2 : h'.objs.size ≠ P := Nat.ne_of_gt (Nat.lt_of_lt_of_le (Heap.lt_size hP') hsz)
      rw [upd_ne n1, upd_ne n2]
      exact I.hok.fresh hsz
  | some cv =>
    obtain ⟨c', e, hco⟩ := ha pos cv hc
    subst e
    refine PySem.W.kla_makeFunctionHit (mg := X.mg) (c := c) (P := P) (ps := ps) (closure_ok hfree) I.ok.glob (I.mod.glob.keeps I.bk) hcode (TB.code.keeps I.bk) hP' ht hc bP fun ctv h' tk hx hsz => ?_
    have I1 : L2.Inv X pins σ H { s with heap := h'.push (PySem.W.kla_obj "<lambda>" (X.env.qual ++ "<lambda>") params body scope (cloFrom X.env.cells scope.names []) ((X.mg "__name__").getD .none) c' ctv), toks := tk } := I.kept fun b o e => Heap.get?_push_of_some _ (hx b o e)
    exact h h'.objs.size c' ((X.mg "__name__").getD .none) ctv H _ I1 (ExtN.refl H) (fun _ _ _ e => e) hT (Heap.get?_push_size _ rfl) (I.hok.fresh hsz) (nofr _ hsz) hco
end
def tLam3 (P : Addr) (T : List (Addr × Str)) (TT : (XK → Hp → VK → Prop) → Hp → VK → Prop) (t : XK → TE) : TE := fun σ H Q => Tabs T H ∧ ∀ H1, (∀ b o, b ≠ P → H b = some o → H1 b = some o) → Tabs T H1 → TT (fun E H' Q' => t E σ H' Q') H1 Q
section
variable {X : Cx}
/-- x(lambda: body) -/
theorem pe_lamcall3 {T : List (Addr × Str)} {TT : (XK → Hp → VK → Prop) → Hp → VK → Prop} {x a : Str} {g c P : Addr} {k : Nat} {pg : Arguments} {bg : List Stmt} {sg : Scope} {dV kV doc pm cdv ct oc : Value} {an od : Option Addr} {osl : Array (Option Value)} {Ng : List Str}
    {params : Arguments} {body : Expr} {scope : Scope} {t : XK → TE} {p lpos pos : Pos} (hg : Gl X x) (hm : X.mg x = some (.ref g)) (hk : PySem.W.keepIn X.K (.ref g) = true)
    (lk : X.K.lookup g = some ⟨oc, od, .func (PySem.W.fnOf x x pg bg sg dV kV doc pm an cdv ct), osl⟩) (hcg : PySem.W.codeIn X.K cdv x = true) (hb : L2.Binds X.K (PySem.W.fnOf x x pg bg sg dV kV doc pm an cdv ct) [a] []) (Sg : FnScope Ng [a] sg) (hNg : Ng[0]? = some a) (hva : Vis sg a)
    (hG : GivesTo X Ng x sg g cdv bg a (X.env.qual ++ "<lambda>") TT)
    (TB : TabB X.base X.mg c P) (hcode : X.env.code = .ref c) (hmT : (P, X.env.qual ++ "<lambda>") ∈ T) (hu : ∀ p ∈ T, p.1 = P → p.2 = X.env.qual ++ "<lambda>") (hr : Room (k + 2) X.A) (L : LamS X.env.scope scope) (hdef : defaultsOf params X.env = ([], []))
    (hbind : ∀ (q : Str) (cl : List (Str × Addr)) (pm cv ctv : Value), bindArgs (PySem.W.kla_fn "<lambda>" q params body scope cl pm cv ctv) ⟨[], []⟩ = pure [])
    (hbody : ∀ (A : Around) (outer : List Env) (s : Shared) (H : Hp) (E : XK) (f c' : Addr), Room k (A.deeper (lamEnv X scope s.heap.objs.size f c')) → PE (lamCx X A outer s H E scope f c') body (t E))
    (hdb : (x == ("__debug__" : Str)) = false := by decide) (hd : (a == ("__debug__" : Str)) = false := by decide) (hcd : (a == ("__classdict__" : Str)) = false := by decide) :
    PE X (.Call (.Name x p) [.Lambda params body scope lpos] [] pos) (tLam3 P T TT t) := by
  refine ⟨fun pins s σ H Q I h => ?_⟩
  obtain ⟨hT, h⟩ := h
  refine wpAny_Call_Name_kw (ld_glob I hg hm ?_ hdb)
  refine PySem.W.callWith_K (h₀ := X.base) I.ok.mod.kin hk ?_ (by rfl) (by rfl)
  show wpAny _ _ (spliced ((false, eval (.Lambda params body scope lpos) X.env) :: backTo pos (starEach [] X.env))) _ _ s
  refine Calls.spliced_cons (lam_make3 I TB hcode hmT hu hT hdef (L.has I.ok) fun f c' pm' ctv H1 s' I1 eN kN T1 hf hfn hfr hco => ?_)
  refine Calls.spliced_nil ⟨I1.kIn, ?_⟩
  have rc : codeAny (model X.prog X.w) X.A (.call (.ref g) ⟨[.ref f], []⟩) (CR C8.CX0 X.stack X.prog X.w H1 s' Q C8.E0) s' := by
    refine run_ofS (N := Ng) (ps := [a]) (us := [.ref f]) (vs := [.ref f]) lk hcg Sg hr I1.env0 (hb s' [.ref f] I1.kIn rfl) (.cons rfl .nil) rfl fun hr' => ?_
    obtain ⟨t', ht', hq'⟩ := hG f c' s' H1 Q (fun E H' Q' => t E σ H' Q') (fun W pn xe E p1 p2 tk hW => pe_act (i := 0) I1 L hf hfn hfr (hbind _ _ _ _ _) tk hW hr' (fun A outer s H hr2 => hbody A outer s H E f c' hr2) hNg hva hd hcd) hco (h H1 kN T1)
    exact ⟨t', ht'.nox, hq'⟩
  refine wpAny_call (codeAny_mono rc fun r s2 hq => ?_)
  cases r with
  | error e => exact (show False from hq).elim
  | ok fl =>
    cases fl with
    | ret u => exact I1.after hq
    | next => exact False.elim hq
    | brk => exact False.elim hq
    | cont => exact False.elim hq
end
/-- the table at P grows, all else stays -/
def mT (P : Addr) (q : Str) : Mode := ⟨fun b => b = P, fun H => TabS H P q, fun e h => h.ext e, fun {H l o} hl hx h => by
    obtain ⟨ps, h1, h2, h3⟩ := h
    refine ⟨ps, by rw [upd_ne (fun z => hl z.symm)]; exact h1, h2, fun pos cv hc => ?_⟩
    obtain ⟨c, e1, e2⟩ := h3 pos cv hc
    exact ⟨c, e1, by rw [upd_ne (fun z => by rw [z] at e2; exact hx _ e2)]; exact e2⟩,
  fun {H b} h e => by
    obtain ⟨ps, h1, _⟩ := h
    exact ⟨.tbl ps, by rw [e]; exact h1, fun xs z => by cases z⟩⟩
/-- the cup and two tables -/
def mL (c P1 : Addr) (q1 : Str) (P2 : Addr) (q2 : Str) : Mode := ⟨fun b => b = c ∨ b = P1 ∨ b = P2, fun H => CupAt c H ∧ TabS H P1 q1 ∧ TabS H P2 q2,
  fun e h => ⟨(mC c).ext e h.1, (mT P1 q1).ext e h.2.1, (mT P2 q2).ext e h.2.2⟩,
  fun hl hx h => ⟨(mC c).loc (fun z => hl (.inl z)) hx h.1, (mT P1 q1).loc (fun z => hl (.inr (.inl z))) hx h.2.1, (mT P2 q2).loc (fun z => hl (.inr (.inr z))) hx h.2.2⟩,
  fun h e => by
    rcases e with e | e | e
    · exact (mC c).trk h.1 e
    · exact (mT P1 q1).trk h.2.1 e
    · exact (mT P2 q2).trk h.2.2 e⟩
theorem tabS_keep {H H' : Hp} {P : Addr} {q : Str} (h : TabS H P q) (k : ∀ b o, (b = P ∨ ∃ φ, o = .ext φ) → H b = some o → H' b = some o) : TabS H' P q := by
  obtain ⟨ps, h1, h2, h3⟩ := h
  refine ⟨ps, k _ _ (.inl rfl) h1, h2, fun pos cv hc => ?_⟩
  obtain ⟨c, e1, e2⟩ := h3 pos cv hc
  exact ⟨c, e1, k _ _ (.inr ⟨_, rfl⟩) e2⟩
theorem subC {c P1 P2 : Addr} {q1 q2 : Str} : Sub (mC c) (mL c P1 q1 P2 q2) := by
  refine ⟨fun h => .inl h, fun h => h.1, fun {H H'} i i1 k => ?_⟩
  obtain ⟨⟨a, b, hc, _⟩, ⟨ps1, t1, r1⟩, ps2, t2, r2⟩ := i
  have ne : ∀ b o, H b = some o → (∀ xs, o ≠ .lst xs) → H' b = some o := fun b o e n => k b o (fun z => by
    have z' : b = c := z
    rw [z', hc] at e
    exact n _ (Option.some.inj e).symm) e
  refine ⟨i1, tabS_keep ⟨ps1, t1, r1⟩ fun b o hb e => ne b o e fun xs z => ?_, tabS_keep ⟨ps2, t2, r2⟩ fun b o hb e => ne b o e fun xs z => ?_⟩
  · rcases hb with hb | ⟨φ, hb⟩
    · rw [hb, t1] at e
      rw [z] at e
      cases e
    · rw [hb] at z
      cases z
  · rcases hb with hb | ⟨φ, hb⟩
    · rw [hb, t2] at e
      rw [z] at e
      cases e
    · rw [hb] at z
      cases z
theorem subT2 {c P1 P2 : Addr} {q1 q2 : Str} (hne : P1 ≠ P2) : Sub (mT P2 q2) (mL c P1 q1 P2 q2) := by
  refine ⟨fun h => .inr (.inr h), fun h => h.2.2, fun {H H'} i i1 k => ?_⟩
  obtain ⟨⟨a, b, hc, hr⟩, ⟨ps1, t1, r1⟩, ps2, t2, r2⟩ := i
  refine ⟨⟨a, b, k _ _ (fun z => ?_) hc, hr⟩, tabS_keep ⟨ps1, t1, r1⟩ fun b o hb e => k b o (fun z => ?_) e, i1⟩
  · have z' : c = P2 := z
    rw [z', t2] at hc
    cases hc
  · have z' : b = P2 := z
    rcases hb with hb | ⟨φ, hb⟩
    · exact hne (hb.symm.trans z')
    · rw [z', t2, hb] at e
      cases e
theorem subT1 {c P1 P2 : Addr} {q1 q2 : Str} (hne : P1 ≠ P2) : Sub (mT P1 q1) (mL c P1 q1 P2 q2) := by
  refine ⟨fun h => .inr (.inl h), fun h => h.2.1, fun {H H'} i i1 k => ?_⟩
  obtain ⟨⟨a, b, hc, hr⟩, ⟨ps1, t1, r1⟩, ps2, t2, r2⟩ := i
  refine ⟨⟨a, b, k _ _ (fun z => ?_) hc, hr⟩, i1, tabS_keep ⟨ps2, t2, r2⟩ fun b o hb e => k b o (fun z => ?_) e⟩
  · have z' : c = P1 := z
    rw [z', t1] at hc
    cases hc
  · have z' : b = P1 := z
    rcases hb with hb | ⟨φ, hb⟩
    · exact hne (z'.symm.trans hb)
    · rw [z', t1, hb] at e
      cases e
end R45
end
section
set_option Elab.async false
set_option linter.all false
set_option maxRecDepth 100000
set_option maxHeartbeats 2000000
/-! the text, its scopes, what the top has told. -/
namespace R45
open PySem PySem.Spec PyProof.Rows L2 Evl

/-! ### the text -/
def topS (i : Nat) : Stmt := PySem.Challenge.pw_rungonce_k45_whole_lots_gone_through.main.body.getD i (.Pass ⟨0, 0, 0, 0⟩)
abbrev s_is_whole : Stmt := topS 8
def d_is_whole : He.DefD := ⟨("is_whole", none), "is_whole", "is_whole", defArgs s_is_whole, defBody s_is_whole, defScope s_is_whole, [], []⟩
abbrev s_is_tuple_of : Stmt := topS 9
def d_is_tuple_of : He.DefD := ⟨("is_tuple_of", none), "is_tuple_of", "is_tuple_of", defArgs s_is_tuple_of, defBody s_is_tuple_of, defScope s_is_tuple_of, [], []⟩
abbrev s_fits_table : Stmt := topS 13
def d_fits_table : He.DefD := ⟨("fits_table", none), "fits_table", "fits_table", defArgs s_fits_table, defBody s_fits_table, defScope s_fits_table, [], []⟩
abbrev s_blocks_in : Stmt := topS 14
def d_blocks_in : He.DefD := ⟨("blocks_in", none), "blocks_in", "blocks_in", defArgs s_blocks_in, defBody s_blocks_in, defScope s_blocks_in, [], []⟩
abbrev s_class_by : Stmt := topS 16
def d_class_by : He.DefD := ⟨("class_by", none), "class_by", "class_by", defArgs s_class_by, defBody s_class_by, defScope s_class_by, [], []⟩
abbrev s_classes_by : Stmt := topS 17
def d_classes_by : He.DefD := ⟨("classes_by", none), "classes_by", "classes_by", defArgs s_classes_by, defBody s_classes_by, defScope s_classes_by, [], []⟩
abbrev s_nexts_of : Stmt := topS 18
def d_nexts_of : He.DefD := ⟨("nexts_of", none), "nexts_of", "nexts_of", defArgs s_nexts_of, defBody s_nexts_of, defScope s_nexts_of, [], []⟩
abbrev s_blocks_by : Stmt := topS 19
def d_blocks_by : He.DefD := ⟨("blocks_by", none), "blocks_by", "blocks_by", defArgs s_blocks_by, defBody s_blocks_by, defScope s_blocks_by, [], []⟩
abbrev s_need_two : Stmt := topS 20
def d_need_two : He.DefD := ⟨("need_two", none), "need_two", "need_two", defArgs s_need_two, defBody s_need_two, defScope s_need_two, [], []⟩
abbrev s_all_lots : Stmt := topS 23
def d_all_lots : He.DefD := ⟨("all_lots", none), "all_lots", "all_lots", defArgs s_all_lots, defBody s_all_lots, defScope s_all_lots, [], []⟩
abbrev s_few_classes : Stmt := topS 24
def d_few_classes : He.DefD := ⟨("few_classes", none), "few_classes", "few_classes", defArgs s_few_classes, defBody s_few_classes, defScope s_few_classes, [], []⟩
abbrev s_one_blocks_in : Stmt := topS 25
def d_one_blocks_in : He.DefD := ⟨("one_blocks_in", none), "one_blocks_in", "one_blocks_in", defArgs s_one_blocks_in, defBody s_one_blocks_in, defScope s_one_blocks_in, [], []⟩
abbrev s_one_block_lots : Stmt := topS 26
def d_one_block_lots : He.DefD := ⟨("one_block_lots", none), "one_block_lots", "one_block_lots", defArgs s_one_block_lots, defBody s_one_block_lots, defScope s_one_block_lots, [], []⟩
abbrev s_lots_by_blocks : Stmt := topS 27
def d_lots_by_blocks : He.DefD := ⟨("lots_by_blocks", none), "lots_by_blocks", "lots_by_blocks", defArgs s_lots_by_blocks, defBody s_lots_by_blocks, defScope s_lots_by_blocks, [], []⟩
abbrev s_least_lot : Stmt := topS 28
def d_least_lot : He.DefD := ⟨("least_lot", none), "least_lot", "least_lot", defArgs s_least_lot, defBody s_least_lot, defScope s_least_lot, [], []⟩
abbrev s__law_cup : Stmt := topS 30
def d__law_cup : He.DefD := ⟨("_law_cup", none), "_law_cup", "_law_cup", defArgs s__law_cup, defBody s__law_cup, defScope s__law_cup, [], []⟩
abbrev s__law_roll : Stmt := topS 31
def d__law_roll : He.DefD := ⟨("_law_roll", none), "_law_roll", "_law_roll", defArgs s__law_roll, defBody s__law_roll, defScope s__law_roll, [], []⟩
abbrev s__law_some : Stmt := topS 32
def d__law_some : He.DefD := ⟨("_law_some", none), "_law_some", "_law_some", defArgs s__law_some, defBody s__law_some, defScope s__law_some, [], []⟩
abbrev s__law_behind : Stmt := topS 33
def d__law_behind : He.DefD := ⟨("_law_behind", none), "_law_behind", "_law_behind", defArgs s__law_behind, defBody s__law_behind, defScope s__law_behind, [], []⟩
abbrev s__law_rung : Stmt := topS 34
def d__law_rung : He.DefD := ⟨("_law_rung", none), "_law_rung", "_law_rung", defArgs s__law_rung, defBody s__law_rung, defScope s__law_rung, [], []⟩
abbrev s__law_led : Stmt := topS 35
def d__law_led : He.DefD := ⟨("_law_led", none), "_law_led", "_law_led", defArgs s__law_led, defBody s__law_led, defScope s__law_led, [], []⟩
abbrev s__law_rounds : Stmt := topS 36
def d__law_rounds : He.DefD := ⟨("_law_rounds", none), "_law_rounds", "_law_rounds", defArgs s__law_rounds, defBody s__law_rounds, defScope s__law_rounds, [], []⟩
abbrev s__law_roads : Stmt := topS 37
def d__law_roads : He.DefD := ⟨("_law_roads", none), "_law_roads", "_law_roads", defArgs s__law_roads, defBody s__law_roads, defScope s__law_roads, [], []⟩
abbrev s__law_table : Stmt := topS 38
def d__law_table : He.DefD := ⟨("_law_table", none), "_law_table", "_law_table", defArgs s__law_table, defBody s__law_table, defScope s__law_table, [], []⟩
abbrev s__law_blocks : Stmt := topS 39
def d__law_blocks : He.DefD := ⟨("_law_blocks", none), "_law_blocks", "_law_blocks", defArgs s__law_blocks, defBody s__law_blocks, defScope s__law_blocks, [], []⟩
abbrev s__law_class : Stmt := topS 40
def d__law_class : He.DefD := ⟨("_law_class", none), "_law_class", "_law_class", defArgs s__law_class, defBody s__law_class, defScope s__law_class, [], []⟩
abbrev s__law_classes : Stmt := topS 41
def d__law_classes : He.DefD := ⟨("_law_classes", none), "_law_classes", "_law_classes", defArgs s__law_classes, defBody s__law_classes, defScope s__law_classes, [], []⟩
abbrev s__law_changes : Stmt := topS 42
def d__law_changes : He.DefD := ⟨("_law_changes", none), "_law_changes", "_law_changes", defArgs s__law_changes, defBody s__law_changes, defScope s__law_changes, [], []⟩
abbrev s__law_change : Stmt := topS 43
def d__law_change : He.DefD := ⟨("_law_change", none), "_law_change", "_law_change", defArgs s__law_change, defBody s__law_change, defScope s__law_change, [], []⟩
abbrev s__law_lead : Stmt := topS 44
def d__law_lead : He.DefD := ⟨("_law_lead", none), "_law_lead", "_law_lead", defArgs s__law_lead, defBody s__law_lead, defScope s__law_lead, [], []⟩
abbrev s__law_few : Stmt := topS 45
def d__law_few : He.DefD := ⟨("_law_few", none), "_law_few", "_law_few", defArgs s__law_few, defBody s__law_few, defScope s__law_few, [], []⟩
abbrev s__law_two : Stmt := topS 46
def d__law_two : He.DefD := ⟨("_law_two", none), "_law_two", "_law_two", defArgs s__law_two, defBody s__law_two, defScope s__law_two, [], []⟩
abbrev s__law_mixed : Stmt := topS 47
def d__law_mixed : He.DefD := ⟨("_law_mixed", none), "_law_mixed", "_law_mixed", defArgs s__law_mixed, defBody s__law_mixed, defScope s__law_mixed, [], []⟩
abbrev s__law_paired : Stmt := topS 48
def d__law_paired : He.DefD := ⟨("_law_paired", none), "_law_paired", "_law_paired", defArgs s__law_paired, defBody s__law_paired, defScope s__law_paired, [], []⟩
abbrev s__law_any : Stmt := topS 49
def d__law_any : He.DefD := ⟨("_law_any", none), "_law_any", "_law_any", defArgs s__law_any, defBody s__law_any, defScope s__law_any, [], []⟩
abbrev s__law_turn : Stmt := topS 50
def d__law_turn : He.DefD := ⟨("_law_turn", none), "_law_turn", "_law_turn", defArgs s__law_turn, defBody s__law_turn, defScope s__law_turn, [], []⟩
abbrev s__law_many : Stmt := topS 51
def d__law_many : He.DefD := ⟨("_law_many", none), "_law_many", "_law_many", defArgs s__law_many, defBody s__law_many, defScope s__law_many, [], []⟩
abbrev s__law_lots : Stmt := topS 52
def d__law_lots : He.DefD := ⟨("_law_lots", none), "_law_lots", "_law_lots", defArgs s__law_lots, defBody s__law_lots, defScope s__law_lots, [], []⟩
abbrev s__law_word : Stmt := topS 53
def d__law_word : He.DefD := ⟨("_law_word", none), "_law_word", "_law_word", defArgs s__law_word, defBody s__law_word, defScope s__law_word, [], []⟩
abbrev s__law_odd_tables : Stmt := topS 54
def d__law_odd_tables : He.DefD := ⟨("_law_odd_tables", none), "_law_odd_tables", "_law_odd_tables", defArgs s__law_odd_tables, defBody s__law_odd_tables, defScope s__law_odd_tables, [], []⟩
abbrev s__law_three : Stmt := topS 55
def d__law_three : He.DefD := ⟨("_law_three", none), "_law_three", "_law_three", defArgs s__law_three, defBody s__law_three, defScope s__law_three, [], []⟩
abbrev s__law_six : Stmt := topS 56
def d__law_six : He.DefD := ⟨("_law_six", none), "_law_six", "_law_six", defArgs s__law_six, defBody s__law_six, defScope s__law_six, [], []⟩
abbrev s__law_right : Stmt := topS 57
def d__law_right : He.DefD := ⟨("_law_right", none), "_law_right", "_law_right", defArgs s__law_right, defBody s__law_right, defScope s__law_right, [], []⟩
abbrev s_law : Stmt := topS 58
def d_law : He.DefD := ⟨("law", none), "law", "law", defArgs s_law, defBody s_law, defScope s_law, [], []⟩
def fn1 : List He.DefD := [d_is_whole, d_is_tuple_of, d_fits_table, d_blocks_in, d_class_by, d_classes_by, d_nexts_of, d_blocks_by, d_need_two, d_all_lots, d_few_classes, d_one_blocks_in, d_one_block_lots, d_lots_by_blocks, d_least_lot, d__law_cup, d__law_roll, d__law_some, d__law_behind, d__law_rung, d__law_led, d__law_rounds, d__law_roads, d__law_table]
def fn2 : List He.DefD := [d__law_blocks, d__law_class, d__law_classes, d__law_changes, d__law_change, d__law_lead, d__law_few, d__law_two, d__law_mixed, d__law_paired, d__law_any, d__law_turn, d__law_many, d__law_lots, d__law_word, d__law_odd_tables, d__law_three, d__law_six, d__law_right, d_law]
def fn : List He.DefD := fn1 ++ fn2

theorem sc_is_whole : FnScope ["value", "low", "high"] ["value", "low", "high"] (defScope s_is_whole) := ⟨rfl, rfl, rfl, by decide +kernel, rfl, by decide +kernel, by decide +kernel⟩
theorem sc_is_tuple_of : FnScope ["value", "low", "high"] ["value", "low", "high"] (defScope s_is_tuple_of) := ⟨rfl, rfl, rfl, by decide +kernel, rfl, by decide +kernel, by decide +kernel⟩
theorem sc_fits_table : FnScope ["value", "many", "item", "number", "way"] ["value"] (defScope s_fits_table) := ⟨rfl, rfl, rfl, by decide +kernel, rfl, by decide +kernel, by decide +kernel⟩
theorem sc_blocks_in : FnScope ["nexts", "found", "left", "block", "number"] ["nexts"] (defScope s_blocks_in) := ⟨rfl, rfl, rfl, by decide +kernel, rfl, by decide +kernel, by decide +kernel⟩
theorem sc_class_by : FnScope ["table", "back", "start", "found", "there"] ["table", "back", "start"] (defScope s_class_by) := ⟨rfl, rfl, rfl, by decide +kernel, rfl, by decide +kernel, by decide +kernel⟩
theorem sc_classes_by : FnScope ["table", "back", "found", "left", "one", "number", "item"] ["table"] (defScope s_classes_by) := ⟨rfl, rfl, rfl, by decide +kernel, rfl, by decide +kernel, by decide +kernel⟩
theorem sc_nexts_of : FnScope ["table", "classes", "lot", "turned", "at", "number", "item"] ["table", "classes", "lot"] (defScope s_nexts_of) := ⟨rfl, rfl, rfl, by decide +kernel, rfl, by decide +kernel, by decide +kernel⟩
theorem sc_blocks_by : FnScope ["table", "classes", "lot"] ["table", "classes", "lot"] (defScope s_blocks_by) := ⟨rfl, rfl, rfl, by decide +kernel, rfl, by decide +kernel, by decide +kernel⟩
theorem sc_need_two : FnScope ["value"] ["value"] (defScope s_need_two) := ⟨rfl, rfl, rfl, by decide +kernel, rfl, by decide +kernel, by decide +kernel⟩
theorem sc_all_lots : FnScope ["many", "found", "at", "lot"] ["many"] (defScope s_all_lots) := ⟨rfl, rfl, rfl, by decide +kernel, rfl, by decide +kernel, by decide +kernel⟩
theorem sc_few_classes : FnScope ["table", "classes"] ["table"] (defScope s_few_classes) := ⟨rfl, rfl, rfl, by decide +kernel, rfl, by decide +kernel, by decide +kernel⟩
theorem sc_one_blocks_in : FnScope ["table", "classes", "lot"] ["table", "classes"] (defScope s_one_blocks_in) := ⟨rfl, rfl, rfl, by decide +kernel, rfl, by decide +kernel, by decide +kernel⟩
theorem sc_one_block_lots : FnScope ["table"] ["table"] (defScope s_one_block_lots) := ⟨rfl, rfl, rfl, by decide +kernel, rfl, by decide +kernel, by decide +kernel⟩
theorem sc_lots_by_blocks : FnScope ["table", "classes", "counts", "lot", "many", "one"] ["table"] (defScope s_lots_by_blocks) := ⟨rfl, rfl, rfl, by decide +kernel, rfl, by decide +kernel, by decide +kernel⟩
theorem sc_least_lot : FnScope ["table", "found", "fewest", "lot"] ["table"] (defScope s_least_lot) := ⟨rfl, rfl, rfl, by decide +kernel, rfl, by decide +kernel, by decide +kernel⟩
theorem sc__law_cup : FnScope ["_law_script", "_law_cell"] ["_law_script"] (defScope s__law_cup) := ⟨rfl, rfl, rfl, by decide +kernel, rfl, by decide +kernel, by decide +kernel⟩
theorem sc__law_roll : FnScope ["_law_cup_here", "_law_many_here", "_law_found", "_law_deep"] ["_law_cup_here", "_law_many_here"] (defScope s__law_roll) := ⟨rfl, rfl, rfl, by decide +kernel, rfl, by decide +kernel, by decide +kernel⟩
theorem sc__law_some : FnScope ["_law_cup_here", "_law_things"] ["_law_cup_here", "_law_things"] (defScope s__law_some) := ⟨rfl, rfl, rfl, by decide +kernel, rfl, by decide +kernel, by decide +kernel⟩
theorem sc__law_behind : FnScope ["_law_row", "_law_change_here", "_law_found", "_law_place"] ["_law_row", "_law_change_here"] (defScope s__law_behind) := ⟨rfl, rfl, rfl, by decide +kernel, rfl, by decide +kernel, by decide +kernel⟩
theorem sc__law_rung : FnScope ["_law_row", "_law_lead_here", "_law_found", "_law_change_here"] ["_law_row", "_law_lead_here"] (defScope s__law_rung) := ⟨rfl, rfl, rfl, by decide +kernel, rfl, by decide +kernel, by decide +kernel⟩
theorem sc__law_led : FnScope ["_law_row", "_law_lead_here"] ["_law_row", "_law_lead_here"] (defScope s__law_led) := ⟨rfl, rfl, rfl, by decide +kernel, rfl, by decide +kernel, by decide +kernel⟩
theorem sc__law_rounds : FnScope ["_law_bells"] ["_law_bells"] (defScope s__law_rounds) := ⟨rfl, rfl, rfl, by decide +kernel, rfl, by decide +kernel, by decide +kernel⟩
theorem sc__law_roads : FnScope ["_law_bells", "_law_ways", "_law_found", "_law_line", "_law_row", "_law_index", "_law_lead_here", "_law_there"] ["_law_bells", "_law_ways"] (defScope s__law_roads) := ⟨rfl, rfl, rfl, by decide +kernel, rfl, by decide +kernel, by decide +kernel⟩
theorem sc__law_table : FnScope ["_law_bells", "_law_ways", "_law_rows", "_law_numbers", "_law_at", "_law_row", "_law_lead_here"] ["_law_bells", "_law_ways"] (defScope s__law_table) := ⟨rfl, rfl, rfl, by decide +kernel, rfl, by decide +kernel, by decide +kernel⟩
theorem sc__law_blocks : FnScope ["_law_nexts", "_law_found", "_law_met", "_law_start", "_law_block", "_law_here"] ["_law_nexts"] (defScope s__law_blocks) := ⟨rfl, rfl, rfl, by decide +kernel, rfl, by decide +kernel, by decide +kernel⟩
theorem sc__law_class : FnScope ["_law_table_here", "_law_one", "_law_two_here", "_law_start", "_law_back", "_law_found", "_law_here", "_law_at", "_law_item"] ["_law_table_here", "_law_one", "_law_two_here", "_law_start"] (defScope s__law_class) := ⟨rfl, rfl, rfl, by decide +kernel, rfl, by decide +kernel, by decide +kernel⟩
theorem sc__law_classes : FnScope ["_law_table_here", "_law_one", "_law_two_here", "_law_found", "_law_met", "_law_start"] ["_law_table_here", "_law_one", "_law_two_here"] (defScope s__law_classes) := ⟨rfl, rfl, rfl, by decide +kernel, rfl, by decide +kernel, by decide +kernel⟩
theorem sc__law_changes : FnScope ["_law_bells", "_law_found", "_law_place", "_law_change_here"] ["_law_bells"] (defScope s__law_changes) := ⟨rfl, rfl, rfl, by decide +kernel, rfl, by decide +kernel, by decide +kernel⟩
theorem sc__law_change : FnScope ["_law_cup_here", "_law_bells", "_law_some_here"] ["_law_cup_here", "_law_bells"] (defScope s__law_change) := ⟨rfl, rfl, rfl, by decide +kernel, rfl, by decide +kernel, by decide +kernel⟩
theorem sc__law_lead : FnScope ["_law_cup_here", "_law_bells", "_law_most", "_law_turn_here"] ["_law_cup_here", "_law_bells", "_law_most"] (defScope s__law_lead) := ⟨rfl, rfl, rfl, by decide +kernel, rfl, by decide +kernel, by decide +kernel⟩
theorem sc__law_few : FnScope ["_law_cup_here", "_law_bells", "_law_some_here", "_law_turn_here"] ["_law_cup_here"] (defScope s__law_few) := ⟨rfl, rfl, rfl, by decide +kernel, rfl, by decide +kernel, by decide +kernel⟩
theorem sc__law_two : FnScope ["_law_cup_here", "_law_bells", "_law_ways"] ["_law_cup_here"] (defScope s__law_two) := ⟨rfl, rfl, rfl, by decide +kernel, rfl, by decide +kernel, by decide +kernel⟩
theorem sc__law_mixed : FnScope ["_law_cup_here", "_law_many_here", "_law_line", "_law_found"] ["_law_cup_here", "_law_many_here"] (defScope s__law_mixed) := ⟨rfl, rfl, rfl, by decide +kernel, rfl, by decide +kernel, by decide +kernel⟩
theorem sc__law_paired : FnScope ["_law_cup_here", "_law_many_here", "_law_first", "_law_line", "_law_last", "_law_alone", "_law_one", "_law_two_here", "_law_at"] ["_law_cup_here", "_law_many_here"] (defScope s__law_paired) := ⟨rfl, rfl, rfl, by decide +kernel, rfl, by decide +kernel, by decide +kernel⟩
theorem sc__law_any : FnScope ["_law_cup_here", "_law_most", "_law_way", "_law_bells", "_law_ways", "_law_table_here", "_law_many_here", "_law_one", "_law_two_here"] ["_law_cup_here", "_law_most"] (defScope s__law_any) := ⟨rfl, rfl, rfl, by decide +kernel, rfl, by decide +kernel, by decide +kernel⟩
theorem sc__law_turn : FnScope ["_law_table_here", "_law_classes_here", "_law_lot", "_law_nexts", "_law_at", "_law_number", "_law_item"] ["_law_table_here", "_law_classes_here", "_law_lot"] (defScope s__law_turn) := ⟨rfl, rfl, rfl, by decide +kernel, rfl, by decide +kernel, by decide +kernel⟩
theorem sc__law_many : FnScope ["_law_table_here", "_law_classes_here", "_law_lot"] ["_law_table_here", "_law_classes_here", "_law_lot"] (defScope s__law_many) := ⟨rfl, rfl, rfl, by decide +kernel, rfl, by decide +kernel, by decide +kernel⟩
theorem sc__law_lots : FnScope ["_law_many_here", "_law_found", "_law_at", "_law_lot"] ["_law_many_here"] (defScope s__law_lots) := ⟨rfl, rfl, rfl, by decide +kernel, rfl, by decide +kernel, by decide +kernel⟩
theorem sc__law_word : FnScope ["_law_call", "error"] ["_law_call"] (defScope s__law_word) := ⟨rfl, rfl, rfl, by decide +kernel, rfl, by decide +kernel, by decide +kernel⟩
theorem sc__law_odd_tables : FnScope ["_law_odds"] [] (defScope s__law_odd_tables) := ⟨rfl, rfl, rfl, by decide +kernel, rfl, by decide +kernel, by decide +kernel⟩
theorem sc__law_three : FnScope [] [] (defScope s__law_three) := ⟨rfl, rfl, rfl, by decide +kernel, rfl, by decide +kernel, by decide +kernel⟩
theorem sc__law_six : FnScope [] [] (defScope s__law_six) := ⟨rfl, rfl, rfl, by decide +kernel, rfl, by decide +kernel, by decide +kernel⟩
theorem sc__law_right : FnScope ["_law_table_here", "_law_classes_here", "_law_words", "_law_counts", "_law_ones", "_law_most", "_law_least", "_law_lot", "_law_many_here", "_law_at"] ["_law_table_here"] (defScope s__law_right) := ⟨rfl, rfl, rfl, by decide +kernel, rfl, by decide +kernel, by decide +kernel⟩
theorem sc_law : FnScope ["_law_script", "_law_cup_here", "_law_turn_here", "_law_table_here", "_law_three_here", "_law_six_here", "_law_ring", "_law_rows", "_law_odd", "_law_words", "_law_at"] ["_law_script"] (defScope s_law) := ⟨rfl, rfl, rfl, by decide +kernel, rfl, by decide +kernel, by decide +kernel⟩
structure Zs (K : PySem.W.Frag) (mg : Str → Option Value) : Prop where
  len : mg "len" = none
  range : mg "range" = none
  list : mg "list" = none
  tuple : mg "tuple" = none
  dict : mg "dict" = none
  set : mg "set" = none
  enumerate : mg "enumerate" = none
  zip : mg "zip" = none
  sorted : mg "sorted" = none
  all : mg "all" = none
  max : mg "max" = none
  min : mg "min" = none
  abs : mg "abs" = none
  int : mg "int" = none
  isinstance : mg "isinstance" = none
  bool : mg "bool" = none
  str : mg "str" = none
  ROWS : ∃ u, mg "ROWS" = some u ∧ RelV (.int 720) u
  WAYS : ∃ u, mg "WAYS" = some u ∧ RelV (.int 6) u
  CLASSES : ∃ u, mg "CLASSES" = some u ∧ RelV (.int 12) u
/-- a def of the top -/
def DefF (K : PySem.W.Frag) (mg : Str → Option Value) (d : He.DefD) : Prop := ∃ f fd, FunD K d.name d.qual d.params d.body d.scope [] [] f fd ∧ mg d.name = some (.ref f)
section
variable {P : Program} {w : World} {K : PySem.W.Frag} {mg : Str → Option Value} {base : Heap}
/-- a def that raises nothing, by its body -/
theorem DefF.cal {d : He.DefD} (D : DefF K mg d) {N ps : List Str} {k : Nat} {sp : Sp} (S : FnScope N ps d.scope)
    (hb : ∀ (kV doc pm : Value) (an : Option Addr) (cdv ct : Value) (us : List Value), us.length = ps.length → bindArgs (PySem.W.fnOf d.name d.qual d.params d.body d.scope .none kV doc pm an cdv ct) ⟨us, []⟩ = pure (ps.zip us))
    (len : ∀ vs H Q E, sp vs H Q E → vs.length = ps.length)
    (body : ∀ (f : Addr) (cdv : Value) (A : Around) (outer : List Env) (s : Shared) (H : Hp) (vs : List V) (Q : VK) (E : XK), Room k (A.deeper (envOfC d.qual d.scope s.heap.objs.size f cdv)) → sp vs H Q E →
      ∃ t, PSs (cxOf C8.CX0 P w K mg base N d.qual d.scope f cdv A outer s H E).nox d.body t ∧ t { nx := fun _ H' => Q .non H', rt := Q } (L2.start N vs) H) : C8.Cal P w K mg base (k + 1) d.name sp [] := by
  obtain ⟨f, fd, F, hm⟩ := D
  refine ⟨f, fd, ps, [], ?_, hm, F.kp, F.bindsN hb, .nil⟩
  refine F.ok S len fun cdv A outer s H vs Q E hr h => ?_
  obtain ⟨t, h1, h2⟩ := body f cdv A outer s H vs Q E hr h
  exact ⟨t, h1.nox, h2⟩
theorem pe_c0 {X : Cx} {k j : Nat} {x : Str} {sp : Sp} {dvs : List V} {p pos : Pos} (c : C8.Cal X.prog X.w X.K X.mg X.base k x sp dvs) (hr : Room j X.A) (hk : k ≤ j) (hg : Gl X x) (hdb : (x == ("__debug__" : Str)) = false := by decide) :
    PE X (.Call (.Name x p) [] [] pos) (tCall sp dvs C8.E0 tNil) := by
  obtain ⟨f, fd, ps, ds, F, hm, kp, b, d⟩ := c.ex
  exact pe_call0 F (hr.mono hk) hg hm kp b d C8.pass0 hdb
end
/-! the rules that name the frame, told by K -/
section
variable {X : Cx} {K : PySem.W.Frag}
theorem pg_tupK {pos : Pos} {es : List Expr} {k : Nat} {t : TGs} {n : Nat} (hK : X.K = K) (hc : X.calm = true) (h : PGs X es t) (hn : (assignEach es X.env).length = n := by rfl) (hst : (assignEach es X.env).findIdx? (·.1) = none := by rfl) : PG X (.Tuple es k pos) (gTup K n t) := by
  subst hK
  exact pg_tup hc h hn hst
theorem pi_listK {tg l : Expr} {tl : TE} (hK : X.K = K) (hl : PE X l tl) : PI X tg l (iList K tl) := by
  subst hK
  exact pi_list hl
theorem pi_tupK {tg l : Expr} {tl : TE} (hK : X.K = K) (hl : PE X l tl) : PI X tg l (iTup K tl) := by
  subst hK
  exact pi_tup hl
theorem pe_tupleOfK {a : Expr} {ta : TE} {p pos : Pos} (hK : X.K = K) (hg : Gl X "tuple") (hm : X.mg "tuple" = none) (ha : PE X a ta) (na : starEach [a] X.env = (false, eval a X.env) :: starEach [] X.env := by rfl) :
    PE X (.Call (.Name "tuple" p) [a] [] pos) (tThen ta (kTup K)) := by
  subst hK
  exact pe_tupleOf hg hm ha na
theorem pe_lenSetAK {a : Expr} {ta : TE} {p p2 q pos : Pos} (hK : X.K = K) (hg : Gl X "len") (hm : X.mg "len" = none) (hg2 : Gl X "set") (hm2 : X.mg "set" = none) (ha : PE X a ta) (hc : X.calm = true := by rfl)
    (na : starEach [a] X.env = (false, eval a X.env) :: starEach [] X.env := by rfl) : PE X (.Call (.Name "len" p) [.Call (.Name "set" p2) [a] [] q] [] pos) (tLenSetA K ta) := by
  subst hK
  exact pe_lenSetA hg hm hg2 hm2 ha hc na
theorem pi_enumK {e : Expr} {ta : TA} {p pos tpos : Pos} {elts : List Expr} {kk : Nat} (hK : X.K = K) (hg : Gl X "enumerate") (hm : X.mg "enumerate" = none) (ha : PA X [e] ta) (hs : starEach [e] X.env = [(false, eval e X.env)] := by rfl) :
    PI X (.Tuple elts kk tpos) (.Call (.Name "enumerate" p) [e] [] pos) (iEnum K ta) := by
  subst hK
  exact pi_enum hg hm ha hs
theorem pi_enumTK {e : Expr} {ta : TA} {p pos tpos : Pos} {elts : List Expr} {kk : Nat} (hK : X.K = K) (hg : Gl X "enumerate") (hm : X.mg "enumerate" = none) (ha : PA X [e] ta) (hs : starEach [e] X.env = [(false, eval e X.env)] := by rfl) :
    PI X (.Tuple elts kk tpos) (.Call (.Name "enumerate" p) [e] [] pos) (iEnumT K ta) := by
  subst hK
  exact pi_enumT hg hm ha hs
theorem pi_zipK {e e2 : Expr} {ta : TA} {p pos tpos : Pos} {elts : List Expr} {kk : Nat} (hK : X.K = K) (hg : Gl X "zip") (hm : X.mg "zip" = none) (ha : PA X [e, e2] ta)
    (hs : starEach [e, e2] X.env = (false, eval e X.env) :: starEach [e2] X.env := by rfl) (hpl : (backTo pos (starEach [e2] X.env)).any (·.1) = false := by rfl) :
    PI X (.Tuple elts kk tpos) (.Call (.Name "zip" p) [e, e2] [] pos) (iZip K ta) := by
  subst hK
  exact pi_zip hg hm ha hs hpl
end
end R45
end
section
set_option Elab.async false
set_option linter.all false
set_option autoImplicit false
/-! mathematics 1: permutations, their cycles, blocks. -/
namespace R45
def it (f : Nat → Nat) : Nat → Nat → Nat
  | 0, s => s
  | i + 1, s => f (it f i s)
def orb (f : Nat → Nat) (s m : Nat) : List Nat := (List.range m).map fun i => it f i s
structure PermF (f : Nat → Nat) (n : Nat) : Prop where
  lt : ∀ i, i < n → f i < n
  inj : ∀ i j, i < n → j < n → f i = f j → i = j
def perGo (f : Nat → Nat) (s : Nat) : Nat → Nat → Nat → Nat
  | 0, k, _ => k
  | m + 1, k, x => if f x = s then k else perGo f s m (k + 1) (f x)
def per (f : Nat → Nat) (n s : Nat) : Nat := perGo f s n 1 s
def cyc (f : Nat → Nat) (n s : Nat) : List Nat := orb f s (per f n s)
theorem nodup_le : ∀ (n : Nat) (l : List Nat), l.Nodup → (∀ x ∈ l, x < n) → l.length ≤ n
  | 0, l, _, h => by
    cases l with
    | nil => exact Nat.le_refl _
    | cons x r => exact absurd (h x List.mem_cons_self) (Nat.not_lt_zero _)
  | n + 1, l, hd, h => by
    by_cases hm : n ∈ l
    · have h1 := nodup_le n (l.erase n) (hd.erase n) fun x hx => by
        obtain ⟨h2, h3⟩ := hd.mem_erase_iff.mp hx
        have := h x h3
        omega
      rw [List.length_erase_of_mem hm] at h1
      omega
    · have h1 := nodup_le n l hd fun x hx => by
        have := h x hx
        have : x ≠ n := fun e => hm (e ▸ hx)
        omega
      omega
theorem orb_len {f : Nat → Nat} {s m : Nat} : (orb f s m).length = m := by simp [orb]
theorem orb_get {f : Nat → Nat} {s m i : Nat} (h : i < m) : (orb f s m)[i]? = some (it f i s) := by
  unfold orb
  rw [List.getElem?_map, List.getElem?_range h]
  rfl
theorem orb_succ {f : Nat → Nat} {s m : Nat} : orb f s (m + 1) = orb f s m ++ [it f m s] := by
  unfold orb
  rw [List.range_succ, List.map_append]
  rfl
theorem orb_mem {f : Nat → Nat} {s m x : Nat} : x ∈ orb f s m ↔ ∃ i, i < m ∧ it f i s = x := by
  unfold orb
  simp
theorem it_add {f : Nat → Nat} {s : Nat} (i : Nat) : ∀ j, it f (i + j) s = it f j (it f i s)
  | 0 => rfl
  | j + 1 => by
    show f (it f (i + j) s) = f (it f j (it f i s))
    rw [it_add i j]
section
variable {f : Nat → Nat} {n : Nat} (p : PermF f n)
include p
theorem it_lt {s : Nat} (h : s < n) : ∀ i, it f i s < n
  | 0 => h
  | i + 1 => p.lt _ (it_lt h i)
theorem it_cancel {s : Nat} (h : s < n) : ∀ i d, it f i s = it f (i + d) s → it f d s = s
  | 0, d, e => by
    rw [Nat.zero_add] at e
    exact e.symm
  | i + 1, d, e => by
    have e2 : f (it f i s) = f (it f (i + d) s) := by
      rw [show i + 1 + d = (i + d) + 1 by omega] at e
      exact e
    exact it_cancel h i d (p.inj _ _ (it_lt p h i) (it_lt p h (i + d)) e2)
/-- as long as it has not come back, all are different -/
theorem orb_nodup {s m : Nat} (h : s < n) (hn : ∀ i, 1 ≤ i → i < m → it f i s ≠ s) : (orb f s m).Nodup := by
  unfold orb
  refine List.pairwise_iff_getElem.mpr fun i j hi hj hij e => ?_
  rw [List.length_map, List.length_range] at hj
  have e2 : it f i s = it f j s := by simpa using e
  have e3 := it_cancel p h i (j - i) (by rw [show i + (j - i) = j by omega]; exact e2)
  exact hn (j - i) (by omega) (by omega) e3
theorem open_le {s m : Nat} (h : s < n) (hn : ∀ i, 1 ≤ i → i < m → it f i s ≠ s) : m ≤ n := by
  have h1 := nodup_le n (orb f s m) (orb_nodup p h hn) fun x hx => by
    obtain ⟨i, _, rfl⟩ := orb_mem.mp hx
    exact it_lt p h i
  rw [orb_len] at h1
  exact h1
theorem perGo_ok {s : Nat} (h : s < n) : ∀ (m k : Nat), 1 ≤ k → m + k = n + 1 → (∀ i, 1 ≤ i → i < k → it f i s ≠ s) →
    ∃ q, perGo f s m k (it f (k - 1) s) = q ∧ 1 ≤ q ∧ q ≤ n ∧ it f q s = s ∧ ∀ i, 1 ≤ i → i < q → it f i s ≠ s
  | 0, k, hk, e, hn => by
    have := open_le p h hn
    omega
  | m + 1, k, hk, e, hn => by
    have hf : f (it f (k - 1) s) = it f k s := by
      obtain ⟨j, rfl⟩ : ∃ j, k = j + 1 := ⟨k - 1, by omega⟩
      rfl
    by_cases hc : it f k s = s
    · refine ⟨k, ?_, hk, by omega, hc, hn⟩
      show (if f (it f (k - 1) s) = s then k else _) = k
      rw [hf, if_pos hc]
    · obtain ⟨q, h1, h2⟩ := perGo_ok h m (k + 1) (by omega) (by omega) (fun i h1 h2 => by
        by_cases hi : i = k
        · rw [hi]
          exact hc
        · exact hn i h1 (by omega))
      refine ⟨q, ?_, h2⟩
      show (if f (it f (k - 1) s) = s then k else perGo f s m (k + 1) (f (it f (k - 1) s))) = q
      rw [hf, if_neg hc]
      exact h1
theorem per_ok {s : Nat} (h : s < n) : 1 ≤ per f n s ∧ per f n s ≤ n ∧ it f (per f n s) s = s ∧ ∀ i, 1 ≤ i → i < per f n s → it f i s ≠ s := by
  obtain ⟨q, h1, h2, h3, h4, h5⟩ := perGo_ok p h n 1 (Nat.le_refl _) rfl (fun i a b => by omega)
  have e : per f n s = q := h1
  rw [e]
  exact ⟨h2, h3, h4, h5⟩
/-- the first return is the period -/
theorem per_eq {s k : Nat} (h : s < n) (hk : 1 ≤ k) (hc : it f k s = s) (hn : ∀ i, 1 ≤ i → i < k → it f i s ≠ s) : k = per f n s := by
  obtain ⟨h1, h2, h3, h4⟩ := per_ok p h
  rcases Nat.lt_trichotomy k (per f n s) with c | c | c
  · exact absurd hc (h4 k hk c)
  · exact c
  · exact absurd h3 (hn _ h1 c)
theorem cyc_mem {s x : Nat} (h : s < n) : x ∈ cyc f n s ↔ ∃ i, it f i s = x := by
  obtain ⟨h1, h2, h3, h4⟩ := per_ok p h
  unfold cyc
  rw [orb_mem]
  refine ⟨fun ⟨i, _, e⟩ => ⟨i, e⟩, fun ⟨i, e⟩ => ⟨i % per f n s, Nat.mod_lt _ h1, ?_⟩⟩
  have key : ∀ (k j : Nat), it f (j + per f n s * k) s = it f j s := fun k => by
    induction k with
    | zero =>
      intro j
      rw [Nat.mul_zero, Nat.add_zero]
    | succ k ih =>
      intro j
      rw [show j + per f n s * (k + 1) = per f n s + (j + per f n s * k) by rw [Nat.mul_succ]; omega, it_add, h3]
      exact ih j
  rw [← e, ← key (i / per f n s) (i % per f n s), Nat.mod_add_div]
theorem cyc_self {s : Nat} (h : s < n) : s ∈ cyc f n s := (cyc_mem p h).mpr ⟨0, rfl⟩
theorem cyc_lt {s x : Nat} (h : s < n) (hx : x ∈ cyc f n s) : x < n := by
  obtain ⟨i, rfl⟩ := (cyc_mem p h).mp hx
  exact it_lt p h i
theorem cyc_next {s x : Nat} (h : s < n) (hx : x ∈ cyc f n s) : f x ∈ cyc f n s := by
  obtain ⟨i, rfl⟩ := (cyc_mem p h).mp hx
  exact (cyc_mem p h).mpr ⟨i + 1, rfl⟩
theorem cyc_back {s x : Nat} (h : s < n) (hx : x < n) (hf : f x ∈ cyc f n s) : x ∈ cyc f n s := by
  obtain ⟨h1, h2, h3, h4⟩ := per_ok p h
  obtain ⟨i, e⟩ := (cyc_mem p h).mp hf
  obtain ⟨q, hq⟩ : ∃ q, per f n s = q + 1 := ⟨per f n s - 1, by omega⟩
  cases i with
  | zero =>
    have e2 : f (it f q s) = f x := by
      have : it f (q + 1) s = s := by rw [← hq]; exact h3
      have e' : s = f x := e
      rw [← e']
      exact this
    have := p.inj _ _ (it_lt p h q) hx e2
    exact (cyc_mem p h).mpr ⟨q, this⟩
  | succ i =>
    have e2 : f (it f i s) = f x := e
    exact (cyc_mem p h).mpr ⟨i, p.inj _ _ (it_lt p h i) hx e2⟩
theorem cyc_len {s : Nat} (h : s < n) : 1 ≤ (cyc f n s).length ∧ (cyc f n s).length ≤ n := by
  obtain ⟨h1, h2, h3, h4⟩ := per_ok p h
  unfold cyc
  rw [orb_len]
  exact ⟨h1, h2⟩
end
theorem perGo_pos {f : Nat → Nat} {s : Nat} : ∀ (m k x : Nat), k ≤ perGo f s m k x
  | 0, k, x => Nat.le_refl _
  | m + 1, k, x => by
    show k ≤ if f x = s then k else perGo f s m (k + 1) (f x)
    split
    · exact Nat.le_refl _
    · exact Nat.le_trans (Nat.le_succ k) (perGo_pos m (k + 1) (f x))
theorem cyc_at {f : Nat → Nat} {n s : Nat} : s ∈ cyc f n s := orb_mem.mpr ⟨0, perGo_pos n 1 s, rfl⟩
/-! ### blocks, two ways -/
/-- the head's block, what is left without it, and so on -/
def blksF (c : Nat → List Nat) : Nat → List Nat → List (List Nat)
  | 0, _ => []
  | _ + 1, [] => []
  | m + 1, x :: r => c x :: blksF c m ((x :: r).filter fun y => !decide (y ∈ c x))
def blks (c : Nat → List Nat) (n : Nat) : List (List Nat) := blksF c n (List.range n)
/-- each start that was not met -/
def mets (c : Nat → List Nat) : List Nat → List Nat → List (List Nat)
  | [], _ => []
  | s :: r, met => if s ∈ met then mets c r met else c s :: mets c r (met ++ c s)
theorem blksF_nil {c : Nat → List Nat} (m : Nat) : blksF c m [] = [] := by cases m <;> rfl
theorem mets_blks {c : Nat → List Nat} (hc : ∀ s, s ∈ c s) : ∀ (l met : List Nat) (m : Nat), l.length ≤ m → blksF c m (l.filter fun y => !decide (y ∈ met)) = mets c l met
  | [], met, m, _ => by rw [List.filter_nil, blksF_nil]; rfl
  | s :: r, met, m, h => by
    rw [List.length_cons] at h
    by_cases hs : s ∈ met
    · rw [List.filter_cons_of_neg (by simp [hs])]
      show _ = if s ∈ met then mets c r met else c s :: mets c r (met ++ c s)
      rw [if_pos hs]
      exact mets_blks hc r met m (by omega)
    · rw [List.filter_cons_of_pos (by simp [hs])]
      obtain ⟨k, rfl⟩ : ∃ k, m = k + 1 := ⟨m - 1, by omega⟩
      show c s :: blksF c k ((s :: r.filter _).filter _) = if s ∈ met then mets c r met else c s :: mets c r (met ++ c s)
      rw [if_neg hs, List.filter_cons_of_neg (by simp [hc s]), List.filter_filter]
      have e : (fun a => (!decide (a ∈ c s)) && !decide (a ∈ met)) = fun y => !decide (y ∈ met ++ c s) := funext fun a => by
        by_cases h1 : a ∈ c s <;> by_cases h2 : a ∈ met <;> simp [h1, h2]
      rw [e, mets_blks hc r (met ++ c s) k (by omega)]
/-- only the starts that are met matter -/
theorem mets_congr {c c' : Nat → List Nat} : ∀ (l met : List Nat), (∀ s ∈ l, c s = c' s) → mets c l met = mets c' l met
  | [], _, _ => rfl
  | s :: r, met, h => by
    show (if s ∈ met then _ else _) = if s ∈ met then _ else _
    rw [mets_congr r met fun x hx => h x (List.mem_cons_of_mem _ hx), h s List.mem_cons_self, mets_congr r (met ++ c' s) fun x hx => h x (List.mem_cons_of_mem _ hx)]
theorem mets_all {f : Nat → Nat} {n : Nat} : mets (cyc f n) (List.range n) [] = blks (cyc f n) n := by
  have h := mets_blks (c := cyc f n) (fun s => cyc_at) (List.range n) [] n (by rw [List.length_range]; exact Nat.le_refl n)
  have e : ((List.range n).filter fun y => !decide (y ∈ ([] : List Nat))) = List.range n := List.filter_eq_self.mpr fun a _ => by simp
  rw [e] at h
  exact h.symm
end R45
end
section
set_option Elab.async false
set_option linter.all false
set_option autoImplicit false
/-! mathematics 2: tables of two ways, their classes, turned rows. -/
namespace R45
abbrev Tab := List (Nat × Nat)
def c1 (t : Tab) (i : Nat) : Nat := (t.getD i (0, 0)).1
def c2 (t : Tab) (i : Nat) : Nat := (t.getD i (0, 0)).2
structure Valid (t : Tab) : Prop where
  pos : 1 ≤ t.length
  le : t.length ≤ 720
  p1 : PermF (c1 t) t.length
  p2 : PermF (c2 t) t.length
/-- an onto map -/
theorem PermF.onto {f : Nat → Nat} {n : Nat} (p : PermF f n) {v : Nat} (hv : v < n) : ∃ i, i < n ∧ f i = v := by
  apply Classical.byContradiction
  intro h
  have hn : ∀ i, i < n → f i ≠ v := fun i hi e => h ⟨i, hi, e⟩
  have nd : (v :: (List.range n).map f).Nodup := by
    refine List.nodup_cons.mpr ⟨fun hm => ?_, ?_⟩
    · obtain ⟨i, hi, e⟩ := List.mem_map.mp hm
      exact hn i (List.mem_range.mp hi) e
    · refine List.pairwise_iff_getElem.mpr fun i j hi hj hij e => ?_
      rw [List.length_map, List.length_range] at hi hj
      have e2 : f i = f j := by simpa using e
      have := p.inj i j hi hj e2
      omega
  have := nodup_le n _ nd fun x hx => by
    rcases List.mem_cons.mp hx with e | hx
    · omega
    · obtain ⟨i, hi, e⟩ := List.mem_map.mp hx
      rw [← e]
      exact p.lt i (List.mem_range.mp hi)
  rw [List.length_cons, List.length_map, List.length_range] at this
  omega
/-- the first place where f is v -/
def inv (f : Nat → Nat) : Nat → Nat → Nat
  | 0, _ => 0
  | n + 1, v => if f n = v then n else inv f n v
theorem inv_ok {f : Nat → Nat} : ∀ {n v i : Nat}, i < n → f i = v → (∀ a b, a < n → b < n → f a = f b → a = b) → inv f n v = i
  | 0, _, _, h, _, _ => absurd h (Nat.not_lt_zero _)
  | n + 1, v, i, h, e, inj => by
    unfold inv
    by_cases c : f n = v
    · rw [if_pos c]
      exact inj n i (Nat.lt_succ_self n) h (c.trans e.symm)
    · rw [if_neg c]
      have hi : i ≠ n := fun z => c (z ▸ e)
      exact inv_ok (by omega) e fun a b ha hb => inj a b (by omega) (by omega)
/-- the row that the first way and then the second way back lead to -/
def phi (t : Tab) (x : Nat) : Nat := inv (c2 t) t.length (c1 t x)
theorem inv_lt {f : Nat → Nat} {n : Nat} (p : PermF f n) {v : Nat} (hv : v < n) : inv f n v < n ∧ f (inv f n v) = v := by
  obtain ⟨i, hi, e⟩ := p.onto hv
  rw [inv_ok hi e p.inj]
  exact ⟨hi, e⟩
theorem phi_spec {t : Tab} (h : Valid t) {x : Nat} (hx : x < t.length) : phi t x < t.length ∧ c2 t (phi t x) = c1 t x := inv_lt h.p2 (h.p1.lt x hx)
theorem phi_perm {t : Tab} (h : Valid t) : PermF (phi t) t.length := ⟨fun i hi => (phi_spec h hi).1, fun i j hi hj e => by
  have e1 := (phi_spec h hi).2
  have e2 := (phi_spec h hj).2
  rw [e] at e1
  exact h.p1.inj i j hi hj (e1.symm.trans e2)⟩
def cls (t : Tab) : List (List Nat) := blks (cyc (phi t) t.length) t.length
/-- the classes that a lot turns -/
def turned (cl : List (List Nat)) (lot : List Nat) : List Nat := lot.flatMap fun a => cl.getD a []
def nxt (t : Tab) (cl : List (List Nat)) (lot : List Nat) : List Nat := (List.range t.length).map fun i => if i ∈ turned cl lot then c2 t i else c1 t i
/-- each of the blocks is a cycle -/
theorem blksF_mem {c : Nat → List Nat} : ∀ {m : Nat} {l : List Nat} {b : List Nat}, b ∈ blksF c m l → ∃ s, s ∈ l ∧ b = c s
  | 0, _, _, h => by simp [blksF] at h
  | _ + 1, [], _, h => by simp [blksF] at h
  | m + 1, x :: r, b, h => by
    have h' : b ∈ c x :: blksF c m ((x :: r).filter fun y => !decide (y ∈ c x)) := h
    rcases List.mem_cons.mp h' with e | h'
    · exact ⟨x, List.mem_cons_self, e⟩
    · obtain ⟨s, hs, e⟩ := blksF_mem h'
      exact ⟨s, (List.mem_filter.mp hs).1, e⟩
theorem cls_mem {t : Tab} {b : List Nat} (h : b ∈ cls t) : ∃ s, s < t.length ∧ b = cyc (phi t) t.length s := by
  obtain ⟨s, hs, e⟩ := blksF_mem h
  exact ⟨s, List.mem_range.mp hs, e⟩
theorem turned_mem {cl : List (List Nat)} {lot : List Nat} {x : Nat} : x ∈ turned cl lot ↔ ∃ a, a ∈ lot ∧ x ∈ cl.getD a [] := by
  unfold turned
  rw [List.mem_flatMap]
/-- what is turned is closed under the step, both ways -/
theorem turned_step {t : Tab} (h : Valid t) {lot : List Nat} {x : Nat} (hx : x < t.length) : phi t x ∈ turned (cls t) lot ↔ x ∈ turned (cls t) lot := by
  have pp := phi_perm h
  have key : ∀ a, phi t x ∈ (cls t).getD a [] ↔ x ∈ (cls t).getD a [] := fun a => by
    by_cases ha : a < (cls t).length
    · rw [List.getD_eq_getElem?_getD, List.getElem?_eq_getElem ha]
      obtain ⟨s, hs, e⟩ := cls_mem (List.getElem_mem ha)
      show phi t x ∈ (cls t)[a] ↔ x ∈ (cls t)[a]
      rw [e]
      exact ⟨cyc_back pp hs hx, cyc_next pp hs⟩
    · rw [List.getD_eq_getElem?_getD, List.getElem?_eq_none (by omega)]
      simp
  rw [turned_mem, turned_mem]
  exact ⟨fun ⟨a, h1, h2⟩ => ⟨a, h1, (key a).mp h2⟩, fun ⟨a, h1, h2⟩ => ⟨a, h1, (key a).mpr h2⟩⟩
theorem nxt_len {t : Tab} {cl : List (List Nat)} {lot : List Nat} : (nxt t cl lot).length = t.length := by simp [nxt]
theorem nxt_get {t : Tab} {cl : List (List Nat)} {lot : List Nat} {i : Nat} (h : i < t.length) : (nxt t cl lot).getD i 0 = if i ∈ turned cl lot then c2 t i else c1 t i := by
  rw [List.getD_eq_getElem?_getD, List.getElem?_eq_getElem (by rw [nxt_len]; exact h)]
  simp [nxt]
/-- turned by a lot of classes it is a permutation still -/
theorem nxt_perm {t : Tab} (h : Valid t) (lot : List Nat) : PermF (fun i => (nxt t (cls t) lot).getD i 0) (nxt t (cls t) lot).length := by
  rw [nxt_len]
  refine ⟨fun i hi => ?_, fun i j hi hj e => ?_⟩
  · show (nxt t (cls t) lot).getD i 0 < _
    rw [nxt_get hi]
    split
    · exact h.p2.lt i hi
    · exact h.p1.lt i hi
  · have e' : (nxt t (cls t) lot).getD i 0 = (nxt t (cls t) lot).getD j 0 := e
    rw [nxt_get hi, nxt_get hj] at e'
    have mixed : ∀ a b, a < t.length → b < t.length → a ∈ turned (cls t) lot → b ∉ turned (cls t) lot → c2 t a = c1 t b → False := fun a b ha hb h1 h2 e => by
      have e3 : phi t b = a := by
        have := (phi_spec h hb)
        exact h.p2.inj _ _ this.1 ha (this.2.trans e.symm)
      exact h2 ((turned_step h hb).mp (e3 ▸ h1))
    by_cases h1 : i ∈ turned (cls t) lot <;> by_cases h2 : j ∈ turned (cls t) lot
    · rw [if_pos h1, if_pos h2] at e'
      exact h.p2.inj i j hi hj e'
    · rw [if_pos h1, if_neg h2] at e'
      exact (mixed i j hi hj h1 h2 e').elim
    · rw [if_neg h1, if_pos h2] at e'
      exact (mixed j i hj hi h2 h1 e'.symm).elim
    · rw [if_neg h1, if_neg h2] at e'
      exact h.p1.inj i j hi hj e'
theorem blksF_len {c : Nat → List Nat} (hc : ∀ x, x ∈ c x) : ∀ {m : Nat} {l : List Nat}, (blksF c m l).length ≤ l.length
  | 0, l => Nat.zero_le _
  | m + 1, [] => Nat.zero_le _
  | m + 1, x :: r => by
    show (c x :: blksF c m ((x :: r).filter fun y => !decide (y ∈ c x))).length ≤ _
    rw [List.length_cons, List.length_cons]
    have := blksF_len hc (m := m) (l := (x :: r).filter fun y => !decide (y ∈ c x))
    rw [List.filter_cons_of_neg (by simp [hc x])] at this
    have h2 := List.length_filter_le (fun y => !decide (y ∈ c x)) r
    rw [List.filter_cons_of_neg (by simp [hc x])]
    omega
theorem cls_len (t : Tab) : (cls t).length ≤ t.length := by
  have := blksF_len (c := cyc (phi t) t.length) (fun x => cyc_at) (m := t.length) (l := List.range t.length)
  rw [List.length_range] at this
  exact this
theorem blks_len (ns : Nat → Nat) (n : Nat) : (blks (cyc ns n) n).length ≤ n := by
  have := blksF_len (c := cyc ns n) (fun x => cyc_at) (m := n) (l := List.range n)
  rw [List.length_range] at this
  exact this
end R45
end
section
set_option Elab.async false
set_option linter.all false
set_option maxRecDepth 100000
set_option maxHeartbeats 2000000
/-! layer 1, fifth part: data of naturals; list(range), tuple(range); is None; slices; dicts. -/
namespace R45
open PySem PySem.Spec PyProof.Rows L2 Evl
abbrev natD (n : Nat) : PyData := .int (n : Int)
abbrev tupN (l : List Nat) : PyData := .tuple (l.map natD)
abbrev lstN (l : List Nat) : PyData := .list (l.map natD)
abbrev lstT (ls : List (List Nat)) : PyData := .list (ls.map tupN)
theorem natD_ints (l : List Nat) : l.map natD = (l.map fun n : Nat => (n : Int)).map PyData.int := by rw [List.map_map]; rfl
section
variable {m : Mode} {σ : L2.St} {G G' H : Hp} {te ta tb tc tl : TE} {tt tu : TT} {d d' : PyData} {v : V} {K : PySem.W.Frag} {ds es : List PyData} {D : Ends} {ts tz : TS} {P : V → Hp → Prop}
theorem rgV_nat (n : Nat) : rgV 0 (n : Int) = (List.range n).map fun i : Nat => V.int (i : Int) := by
  unfold rgV
  simp
theorem dts_nats : ∀ l : List Nat, Dts G (l.map fun n : Nat => V.int (n : Int)) (l.map natD)
  | [] => .nil
  | n :: l => .cons (.int _) (dts_nats l)
theorem d_listRg {n : Nat} (h : EvD m ta σ G (natD n)) (hn : n ≤ 1000000) : EvD m (tLstRg (tRg1 ta)) σ G (lstN (List.range n)) :=
  Cmp.bind (f := ta σ) (g := fun (x : V) (H1 : Hp) (Q : VK) => ∃ i : Int, x = .int i ∧ (RgOk 0 i ∧ ∀ q, H1 q = none → Q (.ref q) (upd H1 q (.lst (rgV 0 i))))) h fun v G1 e hv => by
    cases hv
    intro G2 H e2 w Q k
    refine ⟨n, rfl, ⟨by omega, by omega, by omega, by omega, ?_⟩, ?_⟩
    · omega
    · rw [rgV_nat]
      exact c_newL (dts_nats _) G2 H e2 w Q k
theorem d_tupRg {n : Nat} (h : EvD m ta σ G (natD n)) (hn : n ≤ 1000000) : EvD m (tTupRg (tRg1 ta)) σ G (tupN (List.range n)) :=
  Cmp.bind (f := ta σ) (g := fun (x : V) (H1 : Hp) (Q : VK) => ∃ i : Int, x = .int i ∧ (RgOk 0 i ∧ ∀ q, H1 q = none → Q (.ref q) (upd H1 q (.tup (rgV 0 i))))) h fun v G1 e hv => by
    cases hv
    intro G2 H e2 w Q k
    refine ⟨n, rfl, ⟨by omega, by omega, by omega, by omega, ?_⟩, ?_⟩
    · omega
    · rw [rgV_nat]
      exact c_newT (dts_nats _) G2 H e2 w Q k
theorem rangeD_nat (n : Nat) : rangeD 0 n = (List.range n).map natD := by
  unfold rangeD
  simp
/-- the test of a value -/
theorem Cmp.testB {b : Bool} (h : EvD m te σ G (.bool b)) : EvT m (tTest te) σ G b := t_test h
end
end R45
end
section
set_option Elab.async false
set_option linter.all false
set_option maxRecDepth 100000
set_option maxHeartbeats 2000000
/-! layer 1, sixth part: shaped data, equality of data, places in lists of naturals. -/
namespace R45
open PySem PySem.Spec PyProof.Rows L2 Evl
/-! shaped -/
structure Sh (k : Nat) (d : PyData) : Prop where
  lay : d.canLay0 = true
  dep : d.depth ≤ k
theorem Sh.ok {k : Nat} {d : PyData} (h : Sh k d) (hk : k ≤ 64 := by decide) : SeqAt.shaped d = true := by
  unfold SeqAt.shaped
  rw [h.lay, Bool.true_and]
  exact decide_eq_true (Nat.le_trans h.dep hk)
theorem Sh.mono {k j : Nat} {d : PyData} (h : Sh k d) (e : k ≤ j) : Sh j d := ⟨h.lay, Nat.le_trans h.dep e⟩
theorem sh_int (i : Int) : Sh 0 (.int i) := ⟨by simp [PyData.canLay0], by simp [PyData.depth]⟩
theorem sh_bool (b : Bool) : Sh 0 (.bool b) := ⟨by simp [PyData.canLay0], by simp [PyData.depth]⟩
theorem sh_none : Sh 0 .none := ⟨by simp [PyData.canLay0], by simp [PyData.depth]⟩
theorem shAll {k : Nat} : ∀ {ds : List PyData}, (∀ d ∈ ds, Sh k d) → PyData.canLayAll0 ds = true ∧ PyData.depthAll ds ≤ k
  | [], _ => ⟨by simp [PyData.canLayAll0], by simp [PyData.depthAll]⟩
  | d :: ds, h => by
    obtain ⟨h1, h2⟩ := shAll fun e he => h e (List.mem_cons_of_mem _ he)
    have h3 := h d List.mem_cons_self
    refine ⟨by rw [PyData.canLayAll0, h3.lay, h1]; rfl, ?_⟩
    rw [PyData.depthAll]
    have := h3.dep
    omega
theorem sh_list {k : Nat} {ds : List PyData} (h : ∀ d ∈ ds, Sh k d) : Sh (k + 1) (.list ds) := by
  obtain ⟨h1, h2⟩ := shAll h
  refine ⟨by rw [PyData.canLay0]; exact h1, ?_⟩
  rw [PyData.depth]
  omega
theorem sh_tuple {k : Nat} {ds : List PyData} (h : ∀ d ∈ ds, Sh k d) : Sh (k + 1) (.tuple ds) := by
  obtain ⟨h1, h2⟩ := shAll h
  refine ⟨by rw [PyData.canLay0]; exact h1, ?_⟩
  rw [PyData.depth]
  omega
theorem sh_listM {α : Type} {k : Nat} {enc : α → PyData} {l : List α} (h : ∀ a, Sh k (enc a)) : Sh (k + 1) (.list (l.map enc)) := sh_list fun d hd => by
  obtain ⟨a, _, rfl⟩ := List.mem_map.mp hd
  exact h a
theorem sh_tupM {α : Type} {k : Nat} {enc : α → PyData} {l : List α} (h : ∀ a, Sh k (enc a)) : Sh (k + 1) (.tuple (l.map enc)) := sh_tuple fun d hd => by
  obtain ⟨a, _, rfl⟩ := List.mem_map.mp hd
  exact h a
theorem sh_nat (n : Nat) : Sh 0 (natD n) := sh_int _
theorem sh_tupN (l : List Nat) : Sh 1 (tupN l) := sh_tupM sh_nat
theorem sh_lstN (l : List Nat) : Sh 1 (lstN l) := sh_listM sh_nat
theorem sh_lstT (l : List (List Nat)) : Sh 2 (lstT l) := sh_listM sh_tupN
theorem sh_nil (k : Nat) : Sh (k + 1) (.list []) := sh_list fun d hd => by simp at hd
theorem sh_nilT (k : Nat) : Sh (k + 1) (.tuple []) := sh_tuple fun d hd => by simp at hd
/-! equality -/
theorem eqvAll_map {α : Type} [DecidableEq α] {enc : α → PyData} (h : ∀ a b, PyData.eqv (enc a) (enc b) = decide (a = b)) : ∀ l m : List α, PyData.eqvAll (l.map enc) (m.map enc) = decide (l = m)
  | [], [] => by simp [PyData.eqvAll]
  | [], _ :: _ => by simp [PyData.eqvAll]
  | _ :: _, [] => by simp [PyData.eqvAll]
  | a :: l, b :: m => by
    rw [List.map_cons, List.map_cons, PyData.eqvAll, h a b, eqvAll_map h l m]
    by_cases e : a = b <;> by_cases e2 : l = m <;> simp [e, e2]
theorem eqv_int (i j : Int) : PyData.eqv (.int i) (.int j) = decide (i = j) := by
  rw [PyData.eqv]
  by_cases e : i = j <;> simp [e]
theorem eqv_nat (i j : Nat) : PyData.eqv (natD i) (natD j) = decide (i = j) := by
  rw [eqv_int]
  exact decide_eq_decide.mpr ⟨fun h => by omega, fun h => by omega⟩
theorem eqv_tupN (l m : List Nat) : PyData.eqv (tupN l) (tupN m) = decide (l = m) := by
  rw [PyData.eqv, eqvAll_map eqv_nat]
theorem eqv_lstN (l m : List Nat) : PyData.eqv (lstN l) (lstN m) = decide (l = m) := by
  rw [PyData.eqv, eqvAll_map eqv_nat]
theorem eqv_lstT (l m : List (List Nat)) : PyData.eqv (lstT l) (lstT m) = decide (l = m) := by
  rw [PyData.eqv, eqvAll_map eqv_tupN]
theorem eqv_nilL (ds : List PyData) : PyData.eqv (.list ds) (.list []) = decide (ds = []) := by
  rw [PyData.eqv]
  cases ds <;> simp [PyData.eqvAll]
theorem eqv_nilT (ds : List PyData) : PyData.eqv (.tuple ds) (.tuple []) = decide (ds = []) := by
  rw [PyData.eqv]
  cases ds <;> simp [PyData.eqvAll]
/-! places -/
theorem at_nat {l : List Nat} {k : Nat} (h : k < l.length) : atI (l.map natD) ((k : Nat) : Int) = some (natD (l.getD k 0)) := by
  refine atI_nat ?_
  rw [List.getElem?_map, List.getElem?_eq_getElem h, List.getD_eq_getElem?_getD, List.getElem?_eq_getElem h]
  rfl
theorem at_map {α : Type} {enc : α → PyData} {l : List α} {k : Nat} {a : α} (h : l[k]? = some a) : atI (l.map enc) ((k : Nat) : Int) = some (enc a) := by
  refine atI_nat ?_
  rw [List.getElem?_map, h]
  rfl
theorem at_zero {α : Type} {enc : α → PyData} {l : List α} {a : α} (h : l[0]? = some a) : atI (l.map enc) 0 = some (enc a) := at_map (k := 0) h
theorem at_lastM {α : Type} {enc : α → PyData} (l : List α) (a : α) : atI ((l ++ [a]).map enc) (-1) = some (enc a) := by
  rw [List.map_append]
  exact atI_last _ _
section
variable {m : Mode} {σ : L2.St} {G G' H : Hp} {te ta tb tc tl : TE} {tt tu : TT} {d d' : PyData} {v : V} {K : PySem.W.Frag} {ds es : List PyData}
theorem mem_cast {y : Nat} {l : List Nat} : decide (((y : Nat) : Int) ∈ l.map fun n : Nat => (n : Int)) = decide (y ∈ l) := by
  refine decide_eq_decide.mpr ⟨fun h => ?_, fun h => List.mem_map.mpr ⟨y, h, rfl⟩⟩
  obtain ⟨x, hx, e⟩ := List.mem_map.mp h
  have : x = y := by omega
  exact this ▸ hx
theorem d_inTN {y : Nat} {l : List Nat} (ha : EvD m ta σ G (natD y)) (hb : EvD m tb σ G (tupN l)) : EvD m (tOp (rIn K false) ta tb) σ G (.bool (decide (y ∈ l))) := by
  have h := d_inT (neg := false) (K := K) ha (hb.is (by rw [tupN, natD_ints]))
  rw [mem_cast] at h
  exact h
theorem d_notInTN {y : Nat} {l : List Nat} (ha : EvD m ta σ G (natD y)) (hb : EvD m tb σ G (tupN l)) : EvD m (tOp (rIn K true) ta tb) σ G (.bool (!decide (y ∈ l))) := by
  have h := d_inT (neg := true) (K := K) ha (hb.is (by rw [tupN, natD_ints]))
  rw [mem_cast] at h
  exact h
theorem d_notInLN {y : Nat} {l : List Nat} (ha : EvD m ta σ G (natD y)) (hb : EvD m tb σ G (lstN l)) : EvD m (tOp (rIn K true) ta tb) σ G (.bool (!decide (y ∈ l))) := by
  have h := d_inL (neg := true) (K := K) ha (hb.is (by rw [lstN, natD_ints]))
  rw [mem_cast] at h
  exact h
theorem d_neN {i j : Nat} (ha : EvD m ta σ G (natD i)) (hb : EvD m tb σ G (natD j)) : EvD m (tOp rNe ta tb) σ G (.bool (!decide (i = j))) :=
  (d_neI ha hb).is (by
    have : decide (((i : Nat) : Int) = (j : Int)) = decide (i = j) := decide_eq_decide.mpr ⟨fun h => by omega, fun h => by omega⟩
    rw [this])
theorem d_eqN {i j : Nat} (ha : EvD m ta σ G (natD i)) (hb : EvD m tb σ G (natD j)) : EvD m (tOp rEq ta tb) σ G (.bool (decide (i = j))) :=
  (d_eqI ha hb).is (by
    have : decide (((i : Nat) : Int) = (j : Int)) = decide (i = j) := decide_eq_decide.mpr ⟨fun h => by omega, fun h => by omega⟩
    rw [this])
theorem e_lenTM {α : Type} {enc : α → PyData} {l : List α} (ha : EvE ta σ G (.tuple (l.map enc))) : EvE (tCB (rLenS K) (tCons ta tNil)) σ G (natD l.length) := (e_lenT ha).is (by rw [List.length_map])
theorem e_lenLM {α : Type} {enc : α → PyData} {l : List α} (ha : EvE ta σ G (.list (l.map enc))) : EvE (tCB (rLenS K) (tCons ta tNil)) σ G (natD l.length) := (e_lenL ha).is (by rw [List.length_map])
theorem d_lenLM {α : Type} {enc : α → PyData} {l : List α} (ha : EvD m ta σ G (.list (l.map enc))) : EvD m (tCB (rLenS K) (tCons ta tNil)) σ G (natD l.length) := (d_lenL ha).is (by rw [List.length_map])
theorem e_neg1 : EvE (tUn (rU fun i => V.int (-i)) (tC (.int 1))) σ G (.int (-1)) := e_neg (e_int 1)
end
end R45
end
section
set_option Elab.async false
set_option linter.all false
set_option maxRecDepth 100000
set_option maxHeartbeats 2000000
/-! layer 1, seventh part: dicts of naturals, enumerate of a tuple, tables. -/
namespace R45
open PySem PySem.Spec PyProof.Rows L2 Evl
section
variable {κ : Type} [DecidableEq κ]
theorem val_merge_not : ∀ (more kvs : List (κ × V)) {k : κ}, k ∉ more.map (·.1) → valV (more.foldl (fun acc kv => putK acc kv.1 kv.2) kvs) k = valV kvs k
  | [], _, _, _ => rfl
  | p :: r, kvs, k, h => by
    rw [List.map_cons, List.mem_cons, not_or] at h
    rw [List.foldl_cons, val_merge_not r _ h.2, valV_put, if_neg h.1]
theorem val_merge_in : ∀ (more kvs : List (κ × V)) {k : κ} {v : V}, (more.map (·.1)).Nodup → (k, v) ∈ more → valV (more.foldl (fun acc kv => putK acc kv.1 kv.2) kvs) k = some v
  | [], _, _, _, _, h => by simp at h
  | p :: r, kvs, k, v, nd, h => by
    rw [List.map_cons, List.nodup_cons] at nd
    rw [List.foldl_cons]
    rcases List.mem_cons.mp h with e | h
    · subst e
      rw [val_merge_not r _ nd.1, valV_put, if_pos rfl]
    · exact val_merge_in r _ nd.2 h
theorem val_merge_some : ∀ (more kvs : List (κ × V)) {k : κ}, (valV (more.foldl (fun acc kv => putK acc kv.1 kv.2) kvs) k).isSome = (decide (k ∈ more.map (·.1)) || (valV kvs k).isSome)
  | [], _, _ => by simp
  | p :: r, kvs, k => by
    rw [List.foldl_cons, val_merge_some r _, valV_put, List.map_cons]
    by_cases e : k = p.1
    · simp [e]
    · rw [if_neg e]
      by_cases h : k ∈ r.map (·.1) <;> simp [e, h]
end
abbrev natK (n : Nat) : Key := .inl (n : Int)
def rDictP (K : PySem.W.Frag) : List V → Hp → VK → Prop := fun xs H Q => ∃ (a : Addr) (ps : List Addr) (kvs : List (Key × V)), xs = [.ref a] ∧ SqL K H a (ps.map V.ref) ∧ Paired (fun p kv => SqT K H p [kV kv.1, kv.2]) ps kvs ∧
  ∀ p, H p = none → Q (.ref p) (upd H p (.dK (mergeK [] kvs)))
section
variable {m : Mode} {σ : L2.St} {G G' H : Hp} {te ta tb tc tl : TE} {tt tu : TT} {d d' : PyData} {v : V} {K : PySem.W.Frag} {ds es : List PyData} {td ty : TE}
theorem pairs_dts {β : Type} {e : β → PyData} {ve : β → V} (hve : ∀ {G : Hp} {v : V} {b : β}, Dt G v (e b) → v = ve b) : ∀ {ps : List (Nat × β)} {xs : List V}, Dts G xs (ps.map fun p => .tuple [natD p.1, e p.2]) →
    ∃ as : List Addr, xs = as.map V.ref ∧ Paired (fun p (kv : Key × V) => G p = some (.tup [kV kv.1, kv.2])) as (ps.map fun p => (natK p.1, ve p.2))
  | [], _, h => by
    cases h
    exact ⟨[], rfl, .nil⟩
  | p :: ps, _, h => by
    rw [List.map_cons] at h
    cases h with
    | cons h1 h2 =>
      obtain ⟨as, e1, r⟩ := pairs_dts (e := e) hve h2
      obtain ⟨a, ys, rfl, ga, hys⟩ := h1.tup_inv
      obtain ⟨u, w, rfl, hu, hw⟩ := hys.two_inv
      cases hu
      cases hve hw
      exact ⟨a :: as, by rw [List.map_cons, ← e1], .cons ga r⟩
/-- dict(pairs) -/
theorem c_dictP {β : Type} {e : β → PyData} {ve : β → V} (hve : ∀ {G : Hp} {v : V} {b : β}, Dt G v (e b) → v = ve b) {ps : List (Nat × β)} (h : EvD m ta σ G (.list (ps.map fun p => .tuple [natD p.1, e p.2]))) :
    Cmp m G (tCB (rDictP K) (tCons ta tNil) σ) (fun v G' => ∃ a, v = .ref a ∧ G' a = some (.dK (mergeK [] (ps.map fun p => (natK p.1, ve p.2))))) :=
  Cmp.cb (EvA.one h) fun vs G1 e1 hvs => by
    obtain ⟨v, rfl, hv⟩ := hvs.one_inv
    obtain ⟨a, xs, rfl, ga, hxs⟩ := hv.lst_inv
    obtain ⟨as, rfl, r⟩ := pairs_dts (e := e) hve hxs
    intro G2 H e2 w Q k
    refine ⟨a, as, _, rfl, sq_of (w.ex _ _ (e2 _ _ ga)), Paired.mapP r fun p kv g => st_of (w.ex _ _ (e2 _ _ g)), fun p hp => ?_⟩
    exact k _ (upd G2 p _) _ (Stp.new w hp) ⟨p, rfl, upd_same⟩
/-- d[i], d known -/
theorem e_dgetN {a : Addr} {kvs : List (Key × V)} {i j : Nat} (ga : G a = some (.dK kvs)) (hd : Now G (td σ) (.ref a)) (hk : EvE ty σ G (natD i)) (hv : valV kvs (natK i) = some (.int (j : Int))) : EvE (tDGet td ty) σ G (natD j) :=
  ⟨.int (j : Int), n_dget (k := natK i) ga hd hk.int hv, .int _⟩
/-! enumerate(tuple) -/
theorem i_enumT (h : EvD m ta σ G (.tuple ds)) : EvI m (iEnumT K (tCons ta tNil)) σ G (enumD ds) :=
  Cmp.bind (f := tCons ta tNil σ) (g := fun (vs : List V) (H1 : Hp) (R : It → Hp → Prop) => ∃ a xs, vs = [.ref a] ∧ SqT K H1 a xs ∧ R (Itet K a) H1) (EvA.one h) fun vs G1 e hvs => by
    obtain ⟨v, rfl, hv⟩ := hvs.one_inv
    obtain ⟨a, xs, rfl, ga, hxs⟩ := hv.tup_inv
    intro G2 H e2 w Q k
    refine ⟨a, xs, rfl, st_of (w.ex _ _ (e2 _ _ ga)), k _ _ _ (Stp.refl w) ?_⟩
    have wk : Walk (Itet K a) ds.length (fun H => SqT K H a xs) (YPair (fun i => some (.int (i : Nat))) (fun i => xs[i]?)) := by
      rw [← hxs.length]
      exact walk_enumT
    exact walkD_pair wk (fun H e3 => st_of (e3 _ _ (e2 _ _ ga))) (fun i v hv _ => by cases hv; exact .int _) (fun i v hv _ => (getD_dt hxs hv).mono e2)
theorem enumD_map {α : Type} {enc : α → PyData} {l : List α} (a0 : α) : enumD (l.map enc) = (List.range l.length).map fun i : Nat => .tuple [natD i, enc (l.getD i a0)] := by
  unfold enumD
  rw [List.length_map]
  refine List.map_congr_left fun i hi => ?_
  have hlt := List.mem_range.mp hi
  rw [List.getD_eq_getElem?_getD, List.getElem?_map, List.getD_eq_getElem?_getD, List.getElem?_eq_getElem hlt]
  rfl
end
/-! tables -/
abbrev rowD (p : Nat × Nat) : PyData := tupN [p.1, p.2]
abbrev tabD (t : Tab) : PyData := .tuple (t.map rowD)
theorem sh_tabD (t : Tab) : Sh 2 (tabD t) := sh_tupM fun p => sh_tupN _
section
variable {m : Mode} {σ : L2.St} {G : Hp} {te ta tb : TE} {K : PySem.W.Frag} {t : Tab}
theorem e_row {i : Nat} (ha : EvE ta σ G (tabD t)) (hb : EvE tb σ G (natD i)) (h : i < t.length) : EvE (tOp (rIxT K) ta tb) σ G (rowD (t.getD i (0, 0))) :=
  e_ixT ha hb (at_map (by rw [List.getD_eq_getElem?_getD, List.getElem?_eq_getElem h]; rfl))
theorem e_row0 {p : Nat × Nat} (ha : EvE ta σ G (rowD p)) (hb : EvE tb σ G (.int 0)) : EvE (tOp (rIxT K) ta tb) σ G (natD p.1) := e_ixT ha hb (at_zero rfl)
theorem e_row1 {p : Nat × Nat} (ha : EvE ta σ G (rowD p)) (hb : EvE tb σ G (.int 1)) : EvE (tOp (rIxT K) ta tb) σ G (natD p.2) := e_ixT ha hb (at_map (k := 1) rfl)
end
/-- the dict that leads back by the second way -/
def BackAt (G : Hp) (a : Addr) (t : Tab) : Prop := ∃ kvs, G a = some (.dK kvs) ∧ ∀ i, i < t.length → valV kvs (natK (c2 t i)) = some (.int (i : Int))
theorem BackAt.mono {G G' : Hp} {a : Addr} {t : Tab} (h : BackAt G a t) (e : Ex G G') : BackAt G' a t := let ⟨k, h1, h2⟩ := h; ⟨k, e _ _ h1, h2⟩
theorem BackAt.phi {G : Hp} {a : Addr} {t : Tab} (h : BackAt G a t) (hv : Valid t) {x : Nat} (hx : x < t.length) : ∃ kvs, G a = some (.dK kvs) ∧ valV kvs (natK (c1 t x)) = some (.int (R45.phi t x : Nat)) := by
  obtain ⟨kvs, h1, h2⟩ := h
  obtain ⟨p1, p2⟩ := phi_spec hv hx
  refine ⟨kvs, h1, ?_⟩
  rw [← p2]
  exact h2 _ p1
theorem back_of {t : Tab} (hv : Valid t) : ∀ i, i < t.length → valV (mergeK [] (((List.range t.length).map fun i => (c2 t i, i)).map fun p => (natK p.1, V.int (p.2 : Nat)))) (natK (c2 t i)) = some (.int (i : Int)) := fun i hi => by
  refine val_merge_in _ [] ?_ ?_
  · rw [List.map_map, List.map_map]
    refine List.pairwise_iff_getElem.mpr fun a b ha hb hab e => ?_
    rw [List.length_map, List.length_range] at ha hb
    have e2 : ((c2 t a : Nat) : Int) = (c2 t b : Nat) := by
      have e1 : natK (c2 t a) = natK (c2 t b) := by simpa using e
      exact Sum.inl.inj e1
    have := hv.p2.inj a b ha hb (by omega)
    omega
  · rw [List.map_map]
    exact List.mem_map.mpr ⟨i, List.mem_range.mpr hi, rfl⟩
end R45
end
section
set_option Elab.async false
set_option linter.all false
set_option maxRecDepth 100000
set_option maxHeartbeats 2000000
/-! layer 1, eighth part: one's own thing that is read, not changed, while an expression runs. -/
namespace R45
open PySem PySem.Spec PyProof.Rows L2 Evl
/-- o stands at l, and is not told -/
def mO (m : Mode) (l : Addr) (o : HO) (hn : ∀ xs, o ≠ .tup xs) : Mode := ⟨fun b => m.M b ∨ b = l, fun H => m.I H ∧ H l = some o, fun e h => ⟨m.ext e h.1, e _ _ h.2⟩,
  fun hl hx h => ⟨m.loc (fun z => hl (.inl z)) hx h.1, by rw [upd_ne (fun z => hl (.inr z.symm))]; exact h.2⟩, fun h e => by
    rcases e with e | e
    · exact m.trk h.1 e
    · exact ⟨o, by rw [e]; exact h.2, hn⟩⟩
abbrev mL1 (m : Mode) (l : Addr) (xs : List V) : Mode := mO m l (.lst xs) (fun _ z => nomatch z)
abbrev mD1 (m : Mode) (l : Addr) (kvs : List (Key × V)) : Mode := mO m l (.dK kvs) (fun _ z => nomatch z)
abbrev mT1 (m : Mode) (l : Addr) (kvs : List (List Key × V)) : Mode := mO m l (.dT kvs) (fun _ z => nomatch z)
section
variable {m : Mode} {G G' H H' : Hp} {l : Addr} {o : HO} {hn : ∀ xs, o ≠ .tup xs}
theorem subO (hx : ∀ φ, o ≠ .ext φ) (hlm : True) : Sub m0 (mO m l o hn) := sub0 _
theorem W.mO (w : W m G H) (hl : H l = some o) (gl : G l = none) : W (R45.mO m l o hn) G H := ⟨w.ex, ⟨w.inv, hl⟩, fun b hb => by
  rcases hb with hb | hb
  · exact w.hid b hb
  · rw [hb]; exact gl⟩
theorem Stp.ofO (s : Stp (R45.mO m l o hn) G H G' H') (hl : H l = some o) (gl : G l = none) : Stp m G H G' H' ∧ H' l = some o ∧ G' l = none := by
  refine ⟨⟨s.ex, s.le, fun b u hb e => ?_, s.inv.1, s.old⟩, s.inv.2, by rw [s.old l o hl hn]; exact gl⟩
  by_cases z : b = l
  · rw [z] at e ⊢
    rw [hl] at e
    rw [s.inv.2]
    exact e
  · exact s.kp b u (fun q => q.elim hb z) e
/-- a computation that reads what is one's own -/
theorem Cmp.goO {α : Type} {f : Hp → (α → Hp → Prop) → Prop} {P : α → Hp → Prop} (c : Cmp (R45.mO m l o hn) G f P) (w : W m G H) (hl : H l = some o) (gl : G l = none) {Q : α → Hp → Prop}
    (k : ∀ v G' H', Stp m G H G' H' → H' l = some o → G' l = none → P v G' → Q v H') : f H Q := c G H (Ex.refl G) (w.mO hl gl) Q fun v G' H' s p => by
  obtain ⟨h1, h2, h3⟩ := s.ofO hl gl
  exact k v G' H' h1 h2 h3 p
end
/-- in a mode that fixes o at l -/
structure Fix (m : Mode) (l : Addr) (o : HO) : Prop where
  at_ : ∀ {H : Hp}, m.I H → H l = some o
theorem fixO {m : Mode} {l : Addr} {o : HO} {hn : ∀ xs, o ≠ .tup xs} : Fix (mO m l o hn) l o := ⟨fun h => h.2⟩
theorem Fix.up {m : Mode} {l k : Addr} {o u : HO} {hn : ∀ xs, u ≠ .tup xs} (f : Fix m l o) : Fix (mO m k u hn) l o := ⟨fun h => f.at_ h.1⟩
section
variable {m : Mode} {σ : L2.St} {G G' H : Hp} {te ta tb tc tl : TE} {tt tu : TT} {d d' : PyData} {v : V} {K : PySem.W.Frag} {ds es : List PyData} {l : Addr} {xs : List V} {i : Nat}
theorem o_ixL {j : Int} (fx : Fix m l (.lst xs)) (hi : σ[i]? = some (some (.ref l))) (hx : Dts G xs ds) (hb : EvD m tb σ G (.int j)) (h : atI ds j = some d) : EvD m (tOp (rIxL K) (tVar i) tb) σ G d := fun G1 H e w Q k =>
  ⟨.ref l, hi, hb G1 H e w _ fun y G2 H2 s2 hy => by
    cases hy
    obtain ⟨u, hu, hd⟩ := at_get ((hx.mono e).mono s2.ex) h
    exact ⟨l, xs, j, u, rfl, rfl, sq_of (fx.at_ s2.inv), hu, k _ _ _ s2 hd⟩⟩
theorem o_lenL (fx : Fix m l (.lst xs)) (hi : σ[i]? = some (some (.ref l))) : EvD m (tCB (rLenS K) (tCons (tVar i) tNil)) σ G (natD xs.length) := fun G1 H e w Q k =>
  ⟨.ref l, hi, l, xs, rfl, .inl (sq_of (fx.at_ w.inv)), k _ _ _ (Stp.refl w) (.int _)⟩
theorem o_neNil (fx : Fix m l (.lst xs)) (hi : σ[i]? = some (some (.ref l))) (hx : Dts G xs ds) (hs : SeqAt.shaped (.list ds) = true) : EvD m (tOp (rNeD K) (tVar i) (tLst tNil)) σ G (.bool (!decide (ds = []))) := fun G1 H e w Q k =>
  ⟨.ref l, hi, d_lst (σ := σ) a_nil (by decide) G1 H (Ex.refl _) w _ fun y G2 H2 s2 hy => ⟨.list ds, .list [], Dp.lst (sq_of (fx.at_ s2.inv)) (((hx.mono e).mono s2.ex).mono s2.le).dp, (hy.mono s2.le).dp, hs, (sh_nil 0).ok, by
    rw [eqv_nilL]
    exact k _ _ _ s2 (.bl _)⟩⟩
theorem o_tup (fx : Fix m l (.lst xs)) (hi : σ[i]? = some (some (.ref l))) (hx : Dts G xs ds) : EvD m (tThen (tVar i) (kTup K)) σ G (.tuple ds) := fun G1 H e w Q k =>
  ⟨.ref l, hi, .inl ⟨l, xs, rfl, sq_of (fx.at_ w.inv), c_newT (hx.mono e) G1 H (Ex.refl _) w Q k⟩⟩
theorem o_list (fx : Fix m l (.lst xs)) (hi : σ[i]? = some (some (.ref l))) (hx : Dts G xs ds) : EvD m (tCB (rListS K) (tCons (tVar i) tNil)) σ G (.list ds) := fun G1 H e w Q k =>
  ⟨.ref l, hi, l, xs, rfl, .inl (sq_of (fx.at_ w.inv)), c_newL (hx.mono e) G1 H (Ex.refl _) w Q k⟩
end
/-! a new list that is not told -/
mutual
def nlist : PyData → Bool
  | .list _ => false
  | .dict _ => false
  | .tuple ds => nlistAll ds
  | _ => true
def nlistAll : List PyData → Bool
  | [] => true
  | d :: ds => nlist d && nlistAll ds
end
def delG (G : Hp) (l : Addr) : Hp := fun b => if b = l then none else G b
theorem delG_ne {G : Hp} {l b : Addr} (h : b ≠ l) : delG G l b = G b := if_neg h
theorem delG_same {G : Hp} {l : Addr} : delG G l l = none := if_pos rfl
mutual
theorem Dt.del {G : Hp} {l : Addr} {o : HO} (hl : G l = some o) (hn : ∀ xs, o ≠ .tup xs) : ∀ {v : V} {d : PyData}, nlist d = true → Dt G v d → Dt (delG G l) v d
  | _, .none, _, h => by cases h; exact .non
  | _, .bool b, _, h => by cases h; exact .bl b
  | _, .int b, _, h => by cases h; exact .int b
  | _, .str b, _, h => by cases h; exact .str b
  | _, .list ds, e, _ => by simp [nlist] at e
  | _, .tuple ds, e, h => by
    cases h with
    | @tup a xs _ h1 h2 =>
      have ne : a ≠ l := fun z => by
        rw [z, hl] at h1
        exact hn xs (Option.some.inj h1)
      exact .tup (by rw [delG_ne ne]; exact h1) (Dts.del hl hn (by rw [nlist] at e; exact e) h2)
  | _, .dict _, e, _ => by simp [nlist] at e
theorem Dts.del {G : Hp} {l : Addr} {o : HO} (hl : G l = some o) (hn : ∀ xs, o ≠ .tup xs) : ∀ {vs : List V} {ds : List PyData}, nlistAll ds = true → Dts G vs ds → Dts (delG G l) vs ds
  | _, [], _, h => by cases h; exact .nil
  | _, d :: ds, e, h => by
    rw [nlistAll, Bool.and_eq_true] at e
    cases h with
    | cons h1 h2 => exact .cons (Dt.del hl hn e.1 h1) (Dts.del hl hn e.2 h2)
end
theorem nlist_map {α : Type} {enc : α → PyData} (h : ∀ a, nlist (enc a) = true) : ∀ l : List α, nlistAll (l.map enc) = true
  | [] => by simp [nlistAll]
  | a :: l => by rw [List.map_cons, nlistAll, h a, nlist_map h l]; rfl
theorem nlist_nat (n : Nat) : nlist (natD n) = true := by simp [nlist]
theorem nlist_tupN (l : List Nat) : nlist (tupN l) = true := by rw [nlist]; exact nlist_map nlist_nat l
section
variable {m : Mode} {G G' H H' : Hp} {l : Addr} {o : HO}
/-- what is new may be forgotten: it is one's own -/
theorem Stp.untell (s : Stp m G H G' H') (w : W m G H) (gl : G l = none) (g'l : G' l = some o) (hn : ∀ xs, o ≠ .tup xs) : Stp m G H (delG G' l) H' ∧ H' l = some o ∧ H l = none := by
  have h'l := s.le l o g'l
  have hl : H l = none := by
    cases q : H l with
    | none => rfl
    | some u =>
      by_cases z : ∃ xs, u = .tup xs
      · obtain ⟨xs, z⟩ := z
        by_cases mm : m.M l
        · obtain ⟨u', e', n'⟩ := m.trk w.inv mm
          rw [q] at e'
          exact absurd ((Option.some.inj e').symm.trans z) (n' xs)
        · have := s.kp l u mm q
          rw [h'l] at this
          exact absurd ((Option.some.inj this).trans z) (hn xs)
      · have := s.old l u q fun xs e => z ⟨xs, e⟩
        rw [g'l, gl] at this
        cases this
  refine ⟨⟨fun b u e => ?_, fun b u e => ?_, s.kp, s.inv, fun b u hb n => ?_⟩, h'l, hl⟩
  · have ne : b ≠ l := fun z => by rw [z, gl] at e; cases e
    rw [delG_ne ne]
    exact s.ex b u e
  · by_cases z : b = l
    · rw [z, delG_same] at e
      cases e
    · rw [delG_ne z] at e
      exact s.le b u e
  · have ne : b ≠ l := fun z => by rw [z, hl] at hb; cases hb
    rw [delG_ne ne]
    exact s.old b u hb n
end
/-- v is a list, new since G, told in G' -/
def NewL (G : Hp) (ds : List PyData) (v : V) (G' : Hp) : Prop := ∃ l xs, v = .ref l ∧ G l = none ∧ G' l = some (.lst xs) ∧ Dts G' xs ds
theorem NewL.dt {G G' : Hp} {ds : List PyData} {v : V} (h : NewL G ds v G') : Dt G' v (.list ds) := by
  obtain ⟨l, xs, rfl, _, h1, h2⟩ := h
  exact .lst h1 h2
section
variable {m : Mode} {σ : L2.St} {G G' H : Hp} {te ta tb tc tl : TE} {tt tu : TT} {d d' : PyData} {v : V} {K : PySem.W.Frag} {ds es : List PyData}
theorem c_newLF {xs : List V} {G0 : Hp} (e0 : Ex G0 G) (h : Dts G xs ds) : Cmp m G (fun H Q => ∀ p, H p = none → Q (.ref p) (upd H p (.lst xs))) (fun v G' => NewL G0 ds v G') := fun G1 H e w Q k p hp =>
  k _ _ _ (Stp.new w hp) ⟨p, xs, rfl, fresh_back (e0.trans e) (w.low hp), upd_same, (h.mono e).mono (Ex.new (w.low hp))⟩
def EvN (m : Mode) (te : TE) (σ : L2.St) (G : Hp) (ds : List PyData) : Prop := Cmp m G (te σ) (NewL G ds)
theorem EvN.D (h : EvN m te σ G ds) : EvD m te σ G (.list ds) := Cmp.imp h fun _ _ _ h => h.dt
theorem nw_lst {t : TA} (h : EvA m t σ G ds) (hz : ds.length ≤ 1000000) : EvN m (tLst t) σ G ds :=
  Cmp.bind (f := t σ) (g := fun (xs : List V) (H1 : Hp) (Q : VK) => xs.length ≤ sizeLine ∧ ∀ p, H1 p = none → Q (.ref p) (upd H1 p (.lst xs))) h fun vs G1 e hv => c_and (by rw [hv.length]; exact szL hz) (c_newLF e hv)
theorem nw_listT (ha : EvD m ta σ G (.tuple ds)) : EvN m (tCB (rListS K) (tCons ta tNil)) σ G ds :=
  Cmp.cb (EvA.one ha) fun vs G1 e h => by
    obtain ⟨v, rfl, hv⟩ := h.one_inv
    obtain ⟨a, xs, rfl, ga, hxs⟩ := hv.tup_inv
    intro G2 H e2 w Q k
    exact ⟨a, xs, rfl, .inr (st_of (w.ex _ _ (e2 _ _ ga))), c_newLF e hxs G2 H e2 w Q k⟩
theorem nw_listL (ha : EvD m ta σ G (.list ds)) : EvN m (tCB (rListS K) (tCons ta tNil)) σ G ds :=
  Cmp.cb (EvA.one ha) fun vs G1 e h => by
    obtain ⟨v, rfl, hv⟩ := h.one_inv
    obtain ⟨a, xs, rfl, ga, hxs⟩ := hv.lst_inv
    intro G2 H e2 w Q k
    exact ⟨a, xs, rfl, .inl (sq_of (w.ex _ _ (e2 _ _ ga))), c_newLF e hxs G2 H e2 w Q k⟩
theorem nw_listRg {n : Nat} (h : EvD m ta σ G (natD n)) (hn : n ≤ 1000000) : EvN m (tLstRg (tRg1 ta)) σ G ((List.range n).map natD) :=
  Cmp.bind (f := ta σ) (g := fun (x : V) (H1 : Hp) (Q : VK) => ∃ i : Int, x = .int i ∧ (RgOk 0 i ∧ ∀ q, H1 q = none → Q (.ref q) (upd H1 q (.lst (rgV 0 i))))) h fun v G1 e hv => by
    cases hv
    intro G2 H e2 w Q k
    refine ⟨n, rfl, ⟨by omega, by omega, by omega, by omega, by omega⟩, ?_⟩
    rw [rgV_nat]
    exact c_newLF e (dts_nats _) G2 H e2 w Q k
theorem nw_lc1 {α : Type} {xs : List α} {enc : α → PyData} {wi : TI} {j : Nat} (F : α → Bool) (E : α → PyData) (hi : EvI m wi σ G (xs.map enc)) (hz : xs.length ≤ 1000000)
    (ht : ∀ x ∈ xs, ∀ v G1, Ex G G1 → Dt G1 v (enc x) → EvT m tt ((σ.set j none).set j (some v)) G1 (F x)) (he : ∀ x ∈ xs, ∀ v G1, Ex G G1 → Dt G1 v (enc x) → F x = true → EvD m te ((σ.set j none).set j (some v)) G1 (E x)) :
    EvN m (tLc wi (gName j) tt te [j]) σ G ((xs.filter F).map E) :=
  Cmp.imp (n_lc (Pσ := P1 σ [j] j enc) F (fun x d => d = E x) hi hz (fun x _ G1 _ => g_name) (fun x _ σ' G1 ⟨v, _, q⟩ => by rw [q]; simp [wipe])
    (fun x hx σ' G1 e ⟨v, hv, q⟩ => by rw [q]; exact ht x hx v G1 e hv) (fun x hx σ' G1 e ⟨v, hv, q⟩ f => by rw [q]; exact (he x hx v G1 e hv f).P) P1.mono) fun v G' _ ⟨l, acc, es, e1, e2, e3, e4, e5⟩ => ⟨l, acc, e1, e2, e3, by
      have := prFn (f := E) e5
      rw [← this]
      exact e4⟩
/-- one's own list, new: l, with the values xs of ds -/
theorem EvN.go (h : EvN m te σ G ds) (w : W m G H) (hn : nlistAll ds = true) {Q : VK} (k : ∀ l xs G' H', Stp m G H G' H' → H' l = some (.lst xs) → G' l = none → H l = none → Dts G' xs ds → Q (.ref l) H') : te σ H Q :=
  Cmp.go h w fun v G' H' s ⟨l, xs, e1, e2, e3, e4⟩ => by
    obtain ⟨h1, h2, h3⟩ := s.untell w e2 e3 (fun _ z => nomatch z)
    rw [e1]
    exact k l xs _ _ h1 h2 delG_same h3 (e4.del e3 (fun _ z => nomatch z) hn)
end
theorem q_parR {i j : Nat} {ta tb : TE} {tz : TS} {D : Ends} {σ : L2.St} {H : Hp} (h : ta σ H fun v H1 => tb σ H1 fun u H2 => tz D ((σ.set i (some v)).set j (some u)) H2) : tSeq (tPar i j (tCons ta (tCons tb tNil))) tz D σ H := by
  have mono : tCons ta (tCons tb tNil) σ H (fun vs H1 => ∃ v u, vs = [v, u] ∧ tz D ((σ.set i (some v)).set j (some u)) H1) = ta σ H fun v H1 => tb σ H1 fun u H2 => ∃ v' u', [v, u] = [v', u'] ∧ tz D ((σ.set i (some v')).set j (some u')) H2 := rfl
  have e : (fun (v : V) (H1 : Hp) => tb σ H1 fun u H2 => tz D ((σ.set i (some v)).set j (some u)) H2) = fun v H1 => tb σ H1 fun u H2 => ∃ v' u', [v, u] = [v', u'] ∧ tz D ((σ.set i (some v')).set j (some u')) H2 := by
    funext v H1
    congr 1
    funext u H2
    refine propext ⟨fun h => ⟨v, u, rfl, h⟩, fun ⟨v', u', e, h⟩ => ?_⟩
    cases e
    exact h
  show tCons ta (tCons tb tNil) σ H (fun vs H1 => ∃ v u, vs = [v, u] ∧ tz D ((σ.set i (some v)).set j (some u)) H1)
  rw [mono, ← e]
  exact h
section
variable {m : Mode} {σ : L2.St} {G G' H : Hp} {te ta tb tc tl : TE} {tt tu : TT} {d d' : PyData} {v : V} {K : PySem.W.Frag} {ds es : List PyData} {D : Ends} {ts tz : TS} {P : V → Hp → Prop} {l : Addr} {o : HO} {hn : ∀ xs, o ≠ .tup xs}
theorem i_rngN {n : Nat} (h : EvD m ta σ G (natD n)) (hn : n ≤ 1000000) : EvI m (iRng1 (tCons ta tNil)) σ G ((List.range n).map natD) := by
  have := i_rng1 h hn
  rw [rangeD_nat] at this
  exact this
theorem s_asgO {i : Nat} (h : Cmp (mO m l o hn) G (te σ) P) (w : W m G H) (hl : H l = some o) (gl : G l = none) (k : ∀ v G' H', Stp m G H G' H' → H' l = some o → G' l = none → P v G' → D.nx (σ.set i (some v)) H') : tAsg te (gName i) D σ H := h.goO w hl gl k
theorem q_asgO {i : Nat} (h : Cmp (mO m l o hn) G (te σ) P) (w : W m G H) (hl : H l = some o) (gl : G l = none) (k : ∀ v G' H', Stp m G H G' H' → H' l = some o → G' l = none → P v G' → tz D (σ.set i (some v)) H') : tSeq (tAsg te (gName i)) tz D σ H := h.goO w hl gl k
theorem s_retO (h : Cmp (mO m l o hn) G (te σ) P) (w : W m G H) (hl : H l = some o) (gl : G l = none) (k : ∀ v G' H', Stp m G H G' H' → H' l = some o → G' l = none → P v G' → D.rt v H') : tRet te D σ H := h.goO w hl gl k
theorem c_goO {α : Type} {f : Hp → (α → Hp → Prop) → Prop} {P : α → Hp → Prop} (c : Cmp (mO m l o hn) G f P) (w : W m G H) (hl : H l = some o) (gl : G l = none) {Q : α → Hp → Prop}
    (k : ∀ v G' H', Stp m G H G' H' → H' l = some o → G' l = none → P v G' → Q v H') : f H Q := c.goO w hl gl k
/-- xs.append(e), e told while xs is read -/
theorem s_appO {i : Nat} {xs : List V} (hm : ¬ m.M l) (ha : σ[i]? = some (some (.ref l))) (h : Cmp (mL1 m l xs) G (te σ) P) (w : W m G H) (hl : H l = some (.lst xs)) (gl : G l = none) (hz : xs.length < 1000000)
    (k : ∀ v G' H', Stp m G H G' H' → H' l = some (.lst xs) → G' l = none → P v G' → D.nx σ (upd H' l (.lst (xs ++ [v])))) : tDrop (tBM K "list" rAppend (tVar i) (tCons te tNil)) D σ H :=
  ⟨.ref l, ha, Or.inl ⟨rfl, xs, sq_of hl⟩, h.goO w hl gl fun v G' H' s h1 h2 p => ⟨l, xs, v, rfl, rfl, h1, szT hz, k v G' H' s h1 h2 p⟩⟩
theorem q_appO {i : Nat} {xs : List V} (hm : ¬ m.M l) (ha : σ[i]? = some (some (.ref l))) (h : Cmp (mL1 m l xs) G (te σ) P) (w : W m G H) (hl : H l = some (.lst xs)) (gl : G l = none) (hz : xs.length < 1000000)
    (k : ∀ v G' H', Stp m G H G' H' → H' l = some (.lst xs) → G' l = none → P v G' → tz D σ (upd H' l (.lst (xs ++ [v])))) : tSeq (tDrop (tBM K "list" rAppend (tVar i) (tCons te tNil))) tz D σ H := s_appO (D := { D with nx := tz D }) hm ha h w hl gl hz k
end
end R45
end
section
set_option Elab.async false
set_option linter.all false
set_option maxRecDepth 100000
set_option maxHeartbeats 2000000
/-! layer 1, ninth part: a comprehension with two fors. -/
namespace R45
open PySem PySem.Spec PyProof.Rows L2 Evl
section
variable {m : Mode} {σ : L2.St} {G G' H : Hp} {te : TE}
theorem d_lcF {α β : Type} {xs : List α} {enc : α → PyData} {ys : α → List β} {enc2 : β → PyData} {wi wi1 : TI} {i j : Nat} (E : β → PyData) (hij : i ≠ j) (hi : EvI m wi σ G (xs.map enc)) (hz : (xs.flatMap ys).length ≤ 1000000)
    (hi1 : ∀ x ∈ xs, ∀ v G1, Ex G G1 → Dt G1 v (enc x) → EvI m wi1 (((σ.set j none).set i none).set i (some v)) G1 ((ys x).map enc2))
    (he : ∀ x ∈ xs, ∀ y ∈ ys x, ∀ v u G1, Ex G G1 → Dt G1 v (enc x) → Dt G1 u (enc2 y) → EvD m te (((((σ.set j none).set i none).set i (some v)).set j none).set j (some u)) G1 (E y)) :
    EvD m (tLc2 wi (gName i) tYes wi1 (gName j) tYes te [i, j] [j]) σ G (.list ((xs.flatMap ys).map E)) := by
  refine Cmp.bind (f := wi σ) (g := fun (J : It) (H1 : Hp) (Q : VK) => ∀ D, H1 D = none → ∃ W : Nat → Nat → Hp → Prop, (∃ m, W 0 m (upd H1 D (.lst []))) ∧ ∀ a m H, W a m H →
    (J.stop a H ∧ Q (.ref D) H) ∨ (J.go a H ∧ ∃ Nx : Hp → Prop, (∀ H', Nx H' → ∃ m', m' < m ∧ W (a + 1) m' H') ∧ ∀ x H', J.yld a H x H' → gName i x (wipe σ [i, j]) H' fun σ2 H2 => wipe σ2 [i, j] = wipe σ [i, j] ∧ tYes σ2 H2 fun b H3 =>
      if b = true then wi1 σ2 H3 fun J1 H4 => ∃ W1 : Nat → Nat → Hp → Prop, (∃ m, W1 0 m H4) ∧ ∀ c k H, W1 c k H →
        (J1.stop c H ∧ Nx H) ∨ (J1.go c H ∧ ∃ Nx1 : Hp → Prop, (∀ H', Nx1 H' → ∃ k', k' < k ∧ W1 (c + 1) k' H') ∧ ∀ x H', J1.yld c H x H' → gName j x (wipe σ2 [j]) H' fun σ3 H5 => wipe σ3 [j] = wipe σ2 [j] ∧ tYes σ3 H5 fun b H6 =>
          if b = true then te σ3 H6 fun y H7 => ∃ acc, H7 D = some (.lst acc) ∧ acc.length < sizeLine ∧ Nx1 (upd H7 D (.lst (acc ++ [y]))) else Nx1 H6)
      else Nx H3)) hi fun J G1 e1 hJ => ?_
  intro G2 H2 e2 w Q k D hD
  have nD := w.low hD
  have mD := w.newM hD
  let Pv : List β → Hp → Prop := fun l H => ∃ G' acc, Stp m G2 H2 G' H ∧ G' D = none ∧ H D = some (.lst acc) ∧ Dts G' acc (l.map E)
  refine ⟨fun a n H => n = xs.length - a ∧ a ≤ xs.length ∧ Pv ((xs.take a).flatMap ys) H, ⟨xs.length, by simp, Nat.zero_le _, ?_⟩, ?_⟩
  · exact ⟨G2, [], Stp.own w hD, nD, upd_same, .nil⟩
  rintro a n H ⟨rfl, ha', hP⟩
  obtain ⟨G', acc, s, gD, hd, hacc⟩ := hP
  have hE : Ex G1 G' := e2.trans s.ex
  have w' := s.w w
  by_cases hlt : a < xs.length
  · refine .inr ⟨hJ.goes a H (hE.trans s.le) (by rw [List.length_map]; exact hlt), Pv ((xs.take (a + 1)).flatMap ys), fun H' p' => ⟨xs.length - (a + 1), by omega, rfl, hlt, p'⟩, fun x H' y => ?_⟩
    have hx : xs[a]? = some xs[a] := List.getElem?_eq_getElem hlt
    have hmem : xs[a] ∈ xs := List.getElem_mem hlt
    obtain ⟨G3, s3, hxd⟩ := hJ.yields a (enc xs[a]) H x H' m G' hE w' (by rw [List.getElem?_map, hx]; rfl) y
    have w3 := s3.w w'
    have d3 := s3.mine mD gD hd
    have eT : (xs.take (a + 1)).flatMap ys = (xs.take a).flatMap ys ++ ys xs[a] := by
      rw [List.take_add_one, hx, List.flatMap_append]
      simp
    have E3 : Ex G G3 := e1.trans (hE.trans s3.ex)
    have S3 : Stp m G2 H2 G3 H' := s.trans w s3
    refine ⟨by
      simp [wipe]
      rw [List.set_comm (some x) none hij]
      simp, ?_⟩
    refine (hi1 _ hmem x G3 E3 hxd).go w3 fun J1 G4 H4 s4 hJ1 => ?_
    have d4 := s4.mine mD d3.2 d3.1
    have S4 : Stp m G2 H2 G4 H4 := S3.trans w s4
    have w4 := s4.w w3
    refine ⟨fun c k H => k = (ys xs[a]).length - c ∧ c ≤ (ys xs[a]).length ∧ ∃ G', Ex G4 G' ∧ ∃ acc, Stp m G2 H2 G' H ∧ G' D = none ∧ H D = some (.lst acc) ∧ Dts G' acc (((xs.take a).flatMap ys ++ (ys xs[a]).take c).map E),
      ⟨(ys xs[a]).length, by simp, Nat.zero_le _, G4, Ex.refl _, acc, S4, d4.2, d4.1, by
        rw [List.take_zero, List.append_nil]
        exact hacc.mono (s3.ex.trans s4.ex)⟩, ?_⟩
    rintro c n H5 ⟨rfl, hc', G5, e45, acc5, S5, g5, h5, hacc5⟩
    have w5 := S5.w w
    by_cases hlt2 : c < (ys xs[a]).length
    · refine .inr ⟨hJ1.goes c H5 (e45.trans S5.le) (by rw [List.length_map]; exact hlt2), fun H' => ∃ G', Ex G4 G' ∧ ∃ acc, Stp m G2 H2 G' H' ∧ G' D = none ∧ H' D = some (.lst acc) ∧ Dts G' acc (((xs.take a).flatMap ys ++ (ys xs[a]).take (c + 1)).map E),
        fun H' p' => ⟨(ys xs[a]).length - (c + 1), by omega, rfl, hlt2, p'⟩, fun u H6 y6 => ?_⟩
      have hy : (ys xs[a])[c]? = some (ys xs[a])[c] := List.getElem?_eq_getElem hlt2
      have hymem : (ys xs[a])[c] ∈ ys xs[a] := List.getElem_mem hlt2
      obtain ⟨G6, s6, hud⟩ := hJ1.yields c (enc2 (ys xs[a])[c]) H5 u H6 m G5 e45 w5 (by rw [List.getElem?_map, hy]; rfl) y6
      have w6 := s6.w w5
      have d6 := s6.mine mD g5 h5
      refine ⟨by simp [wipe], ?_⟩
      have eT2 : (ys xs[a]).take (c + 1) = (ys xs[a]).take c ++ [(ys xs[a])[c]] := by
        rw [List.take_add_one, hy]
        rfl
      refine (he _ hmem _ hymem x u G6 (E3.trans (s4.ex.trans (e45.trans s6.ex))) (hxd.mono (s4.ex.trans (e45.trans s6.ex))) hud).go w6 fun z G7 H7 s7 hz7 => ?_
      have d7 := s7.mine mD d6.2 d6.1
      have hlen : acc5.length + 1 ≤ (xs.flatMap ys).length := by
        rw [hacc5.length, List.length_map, List.length_append, List.length_take]
        have h1 : xs.flatMap ys = (xs.take a).flatMap ys ++ (xs.drop a).flatMap ys := by rw [← List.flatMap_append, List.take_append_drop]
        have h2 : xs.drop a = xs[a] :: xs.drop (a + 1) := List.drop_eq_getElem_cons hlt
        rw [h1, h2, List.flatMap_cons, List.length_append, List.length_append]
        omega
      refine ⟨acc5, d7.1, szT (by omega), G7, e45.trans (s6.ex.trans s7.ex), acc5 ++ [z], ((S5.trans w s6).trans w s7).mut w hD d7.2 (fun φ q => by rw [d7.1] at q; cases q), d7.2, upd_same, ?_⟩
      rw [eT2, ← List.append_assoc, List.map_append]
      exact (hacc5.mono (s6.ex.trans s7.ex)).snoc hz7
    · have ec : c = (ys xs[a]).length := by omega
      subst ec
      refine .inl ⟨?_, G5, acc5, S5, g5, h5, ?_⟩
      · have q := hJ1.stops H5 (e45.trans S5.le)
        rw [List.length_map] at q
        exact q
      · rw [List.take_length] at hacc5
        rw [eT]
        exact hacc5
  · have e : a = xs.length := by omega
    subst e
    refine .inl ⟨?_, k _ (upd G' D (.lst acc)) H (s.tell hD gD hd) ?_⟩
    · have q := hJ.stops H (hE.trans s.le)
      rw [List.length_map] at q
      exact q
    · rw [List.take_length] at hacc
      exact .lst upd_same (hacc.mono (Ex.new gD))
end
end R45
end
section
set_option Elab.async false
set_option linter.all false
set_option maxRecDepth 100000
set_option maxHeartbeats 2000000
namespace R45
open PySem PySem.Spec PyProof.Rows L2 Evl
/-! ### blocks_in -/
abbrev fnN (ns : List Nat) : Nat → Nat := fun i => ns.getD i 0
def blkN (ns : List Nat) : List (List Nat) := blks (cyc (fnN ns) ns.length) ns.length
def sp_blocks_in : Sp := spF fun vs G P => ∃ v ns, vs = [v] ∧ Dt G v (tupN ns) ∧ PermF (fnN ns) ns.length ∧ ns.length ≤ 1000 ∧ ∀ v' G', Dt G' v' (lstT (blkN ns)) → P v' G'
theorem len_blocks_in (vs : List V) (H : Hp) (Q : VK) (E : XK) (h : sp_blocks_in vs H Q E) : vs.length = ["nexts"].length := by
  obtain ⟨G, P, _, ⟨v, ns, rfl, _⟩, _⟩ := h
  rfl
theorem rd_blocks_in {K : PySem.W.Frag} {vs : List V} {H : Hp} {Q : VK} {E : XK} (h : sp_blocks_in vs H Q E) :
  (tSeq (tPar 1 2 (tCons (tLst tNil) (tCons (tLstRg (tRg1 (tCB (rLenS K) (tCons (tVar 0) tNil)))) tNil)))
    (tSeq
      (tWhile (tTest (tOp (rNeD K) (tVar 2) (tLst tNil)))
        (tSeq (tAsg (tTup (tCons (tOp (rIxL K) (tVar 2) (tC (V.int 0))) tNil)) (gName 3))
          (tSeq
            (tWhile
              (tTest
                (tOp rNe (tOp (rIxT K) (tVar 0) (tOp (rIxT K) (tVar 3) (tUn (rU fun i => V.int (-i)) (tC (V.int 1)))))
                  (tOp (rIxT K) (tVar 3) (tC (V.int 0)))))
              (tAsg
                (tOp (rCatA K) (tVar 3)
                  (tTup
                    (tCons (tOp (rIxT K) (tVar 0) (tOp (rIxT K) (tVar 3) (tUn (rU fun i => V.int (-i)) (tC (V.int 1)))))
                      tNil)))
                (gName 3)))
            (tSeq (tAsg (tOp rCat (tVar 1) (tLst (tCons (tVar 3) tNil))) (gName 1))
              (tAsg
                (tLc (iList K (tVar 2)) (gName 4) (tTest (tOp (rIn K true) (tVar 4) (tVar 3))) (tVar 4)
                  (List.map (fun x => x.snd) [(Str.ofString "number", 4)]))
                (gName 2))))))
      (tRet (tVar 1))))
    { nx := fun x H' => Q V.non H', rt := Q } (L2.start ["nexts", "found", "left", "block", "number"] vs) H := by
  obtain ⟨G, P, w0, ⟨v, ns, rfl, hv, hp, hn, hP⟩, hQ⟩ := h
  refine q_par w0 (a_cons (d_lst a_nil (by decide)) (EvA.one (d_listRg (e_lenTM (e_var rfl hv)).D (by omega)))) fun vf vl G1 H1 s1 hf hl => ?_
  refine q_while (m := m0) (fun n G' σ' H' => ∃ fo le vf vl b x k, n = le.length ∧ Stp m0 G H G' H' ∧ σ' = [some v, some vf, some vl, b, x] ∧ Dt G' vf (lstT fo) ∧ Dt G' vl (lstN le) ∧
      (∀ y ∈ le, y < ns.length) ∧ fo.length + le.length ≤ ns.length ∧ le.length ≤ k ∧ fo ++ blksF (cyc (fnN ns) ns.length) k le = blkN ns)
    ns.length G1 ⟨[], List.range ns.length, vf, vl, none, none, ns.length, by rw [List.length_range], s1, rfl, hf, hl, fun y hy => List.mem_range.mp hy, by simp, by simp, rfl⟩ fun n G' σ' H' hI => ?_
  obtain ⟨fo, le, vf, vl, b, x, k, rfl, st, rfl, hf, hl, hlt, hsz, hk, hmath⟩ := hI
  have w' := st.w w0
  refine ⟨w', !decide (le = []), t_test ((d_neD (K := K) (e_var rfl hl).D (d_lst a_nil (by decide)) (sh_lstN le).ok (sh_nil 0).ok).is (by rw [eqv_nilL]; simp)), fun hb G2 H2 s2 => ?_, fun hb G2 H2 s2 => ?_⟩
  · obtain ⟨s, r, rfl⟩ : ∃ s r, le = s :: r := by
      cases le with
      | nil => simp at hb
      | cons s r => exact ⟨s, r, rfl⟩
    have hs : s < ns.length := hlt s List.mem_cons_self
    have st2 := st.trans w0 s2
    have w2 := s2.w w'
    -- block = (left[0],)
    refine q_asg w2 (d_tup (EvA.one (e_ixL (K := K) (e_var rfl (hl.mono s2.ex)) (e_int 0) (at_zero rfl)).D) (by simp)) fun vb G3 H3 s3 hvb => ?_
    have st3 := st2.trans w0 s3
    -- while nexts[block[-1]] != block[0]
    refine q_while (m := m0) (fun n G' σ' H' => ∃ j vb, n = ns.length - j ∧ Stp m0 G H G' H' ∧ Ex G3 G' ∧ σ' = [some v, some vf, some vl, some vb, x] ∧ Dt G' vb (tupN (orb (fnN ns) s (j + 1))) ∧
        ∀ i, 1 ≤ i → i < j + 1 → it (fnN ns) i s ≠ s) ns.length G3 ⟨0, vb, by omega, st3, Ex.refl _, rfl, hvb, fun i a b => by omega⟩ fun n G' σ' H' hI => ?_
    obtain ⟨j, vb, rfl, st4, e34, rfl, hvb, hopen⟩ := hI
    have w4 := st4.w w0
    have hjn := open_le hp hs hopen
    have hlast : it (fnN ns) j s < ns.length := it_lt hp hs j
    have E1 : EvE (tOp (rIxT K) (tVar 3) (tUn (rU fun i => V.int (-i)) (tC (V.int 1)))) [some v, some vf, some vl, some vb, x] G' (natD (it (fnN ns) j s)) :=
      e_ixT (e_var rfl hvb) e_neg1 (by rw [orb_succ]; exact at_lastM _ _)
    have E2 : EvE (tOp (rIxT K) (tVar 0) (tOp (rIxT K) (tVar 3) (tUn (rU fun i => V.int (-i)) (tC (V.int 1))))) [some v, some vf, some vl, some vb, x] G' (natD (it (fnN ns) (j + 1) s)) :=
      e_ixT (e_var rfl (hv.mono st4.ex)) E1 (at_nat hlast)
    have E3 : EvE (tOp (rIxT K) (tVar 3) (tC (V.int 0))) [some v, some vf, some vl, some vb, x] G' (natD s) :=
      e_ixT (e_var rfl hvb) (e_int 0) (at_zero (orb_get (Nat.succ_pos j)))
    refine ⟨w4, !decide (it (fnN ns) (j + 1) s = s), t_test (d_neN E2.D E3.D), fun hb2 G5 H5 s5 => ?_, fun hb2 G5 H5 s5 => ?_⟩
    · have hne : it (fnN ns) (j + 1) s ≠ s := by simpa using hb2
      have w5 := s5.w w4
      have hopen' : ∀ i, 1 ≤ i → i < j + 1 + 1 → it (fnN ns) i s ≠ s := fun i a b => by
        by_cases hi : i = j + 1
        · rw [hi]
          exact hne
        · exact hopen i a (by omega)
      have hjn' := open_le hp hs hopen'
      refine s_asg w5 (d_catA (K := K) ((e_var rfl hvb).mono s5.ex).D (d_tup (EvA.one (E2.mono s5.ex).D) (by simp)) (by simp [orb_len]; omega)) fun vb2 G6 H6 s6 hvb2 => ?_
      refine ⟨ns.length - (j + 1), G6, by omega, j + 1, vb2, rfl, (st4.trans w0 s5).trans w0 s6, e34.trans (s5.ex.trans s6.ex), rfl, ?_, hopen'⟩
      rw [orb_succ (m := j + 1), tupN, List.map_append]
      exact hvb2
    · have hcl : it (fnN ns) (j + 1) s = s := by simpa using hb2
      have hper : j + 1 = per (fnN ns) ns.length s := per_eq hp hs (by omega) hcl hopen
      have hcyc : orb (fnN ns) s (j + 1) = cyc (fnN ns) ns.length s := by rw [hper]; rfl
      rw [hcyc] at hvb
      have w5 := s5.w w4
      have st5 := st4.trans w0 s5
      have hf5 := ((hf.mono s2.ex).mono s3.ex).mono (e34.trans s5.ex)
      have hl5 := ((hl.mono s2.ex).mono s3.ex).mono (e34.trans s5.ex)
      have hvb5 := hvb.mono s5.ex
      rw [List.length_cons] at hsz
      -- found = found + [block]
      refine q_asg w5 (d_cat (e_var rfl hf5).D (d_lst (EvA.one (e_var rfl hvb5).D) (by simp)) (by simp; omega)) fun vf2 G6 H6 s6 hf6 => ?_
      have w6 := s6.w w5
      -- left = [number for number in left if number not in block]
      refine s_asg w6 (d_lc1 (xs := s :: r) (enc := natD) (fun y => !decide (y ∈ cyc (fnN ns) ns.length s)) natD (i_list (e_var rfl (hl5.mono s6.ex)).D) (by simp; omega)
        (fun y _ u G7 e7 hu => t_test (d_notInTN (e_var rfl hu).D (e_var rfl ((hvb5.mono s6.ex).mono e7)).D)) (fun y _ u G7 e7 hu _ => (e_var rfl hu).D)) fun vl2 G7 H7 s7 hl7 => ?_
      obtain ⟨k', rfl⟩ : ∃ k', k = k' + 1 := ⟨k - 1, by rw [List.length_cons] at hk; omega⟩
      have hflt : ((s :: r).filter fun y => !decide (y ∈ cyc (fnN ns) ns.length s)).length ≤ r.length := by
        rw [List.filter_cons_of_neg (by simp [cyc_at])]
        exact List.length_filter_le _ _
      rw [List.length_cons] at hk
      refine ⟨((s :: r).filter fun y => !decide (y ∈ cyc (fnN ns) ns.length s)).length, G7, by rw [List.length_cons]; omega, fo ++ [cyc (fnN ns) ns.length s], (s :: r).filter fun y => !decide (y ∈ cyc (fnN ns) ns.length s), vf2, vl2, some vb, x, k', rfl,
        (st5.trans w0 s6).trans w0 s7, rfl, ?_, hl7, fun y hy => hlt y (List.mem_filter.mp hy).1, by simp; omega, by omega, ?_⟩
      · have := hf6.mono s7.ex
        rw [lstT, List.map_append]
        exact this
      · rw [List.append_assoc, ← hmath]
        rfl
  · have hnil : le = [] := by simpa using hb
    subst hnil
    rw [blksF_nil, List.append_nil] at hmath
    subst hmath
    have w2 := s2.w w'
    exact s_ret w2 (e_var rfl (hf.mono s2.ex)).D fun v' G3 H3 s3 hv' => hQ v' G3 H3 ((st.trans w0 s2).trans w0 s3) (hP v' G3 hv')
end R45
end
section
set_option Elab.async false
set_option linter.all false
set_option maxRecDepth 100000
set_option maxHeartbeats 2000000
namespace R45
open PySem PySem.Spec PyProof.Rows L2 Evl
/-! ### class_by -/
def sp_class_by : Sp := spF fun vs G P => ∃ v a s t, vs = [v, .ref a, .int ((s : Nat) : Int)] ∧ Dt G v (tabD t) ∧ BackAt G a t ∧ Valid t ∧ s < t.length ∧ ∀ v' G', Dt G' v' (tupN (cyc (phi t) t.length s)) → P v' G'
theorem len_class_by (vs : List V) (H : Hp) (Q : VK) (E : XK) (h : sp_class_by vs H Q E) : vs.length = ["table", "back", "start"].length := by
  obtain ⟨G, P, _, ⟨v, a, s, t, rfl, _⟩, _⟩ := h
  rfl
/-- back[table[x][0]] -/
theorem e_step {K : PySem.W.Frag} {σ : L2.St} {G : Hp} {td ta tb tc : TE} {a : Addr} {t : Tab} {x : Nat} (hd : Now G (td σ) (.ref a)) (hb : BackAt G a t) (hv : Valid t) (ha : EvE ta σ G (tabD t)) (hx : EvE tb σ G (natD x)) (h0 : EvE tc σ G (.int 0)) (hlt : x < t.length) :
    EvE (tDGet td (tOp (rIxT K) (tOp (rIxT K) ta tb) tc)) σ G (natD (phi t x)) := by
  obtain ⟨kvs, g1, g2⟩ := hb.phi hv hlt
  exact e_dgetN g1 hd (e_row0 (e_row ha hx hlt) h0) g2
/-- the walk, common to both -/
theorem rd_cls_loop {K : PySem.W.Frag} {G H : Hp} {Q : VK} {t : Tab} {v : V} {a : Addr} {s : Nat} {σ0 : V → V → L2.St} {i j k0 : Nat} {td ta ts tz : TE} (hv : Valid t) (hs : s < t.length) (w0 : W m0 G H) (hback : BackAt G a t)
    (hset : ∀ x y x' y', ((σ0 x y).set i (some x')).set j (some y') = σ0 x' y') (hi : ∀ x y, (σ0 x y)[i]? = some (some x)) (hj : ∀ x y, (σ0 x y)[j]? = some (some y))
    (htd : ∀ x y G', Ex G G' → Now G' (td (σ0 x y)) (.ref a)) (hta : ∀ x y G', Ex G G' → EvE ta (σ0 x y) G' (tabD t)) (hts : ∀ x y G', Ex G G' → EvE ts (σ0 x y) G' (natD s)) (htz : ∀ x y G', Ex G G' → EvE tz (σ0 x y) G' (.int 0))
    {G1 H1 : Hp} (st : Stp m0 G H G1 H1) {vf : V} (hf : Dt G1 vf (tupN (orb (phi t) s 1))) (hQ : ∀ v' G' H', Stp m0 G H G' H' → Dt G' v' (tupN (cyc (phi t) t.length s)) → Q v' H') :
    tSeq (tWhile (tTest (tOp rNe (tVar j) ts)) (tPar i j (tCons (tOp (rCatA K) (tVar i) (tTup (tCons (tVar j) tNil))) (tCons (tDGet td (tOp (rIxT K) (tOp (rIxT K) ta (tVar j)) tz)) tNil)))) (tRet (tVar i))
      { nx := fun _ H' => Q .non H', rt := Q } (σ0 vf (.int (phi t s : Nat))) H1 := by
  have pp := phi_perm hv
  refine q_while (m := m0) (fun n G' σ' H' => ∃ q vf, n = t.length - q ∧ Stp m0 G H G' H' ∧ σ' = σ0 vf (.int (it (phi t) (q + 1) s : Nat)) ∧ Dt G' vf (tupN (orb (phi t) s (q + 1))) ∧ ∀ i, 1 ≤ i → i < q + 1 → it (phi t) i s ≠ s)
    t.length G1 ⟨0, vf, by omega, st, rfl, hf, fun i a b => by omega⟩ fun n G' σ' H' hI => ?_
  obtain ⟨q, vf, rfl, st, rfl, hf, hopen⟩ := hI
  have w' := st.w w0
  have hjn := open_le pp hs hopen
  have hx : it (phi t) (q + 1) s < t.length := it_lt pp hs _
  refine ⟨w', !decide (it (phi t) (q + 1) s = s), t_test (d_neN (e_var (hj _ _) (.int _)).D (hts _ _ _ st.ex).D), fun hb G2 H2 s2 => ?_, fun hb G2 H2 s2 => ?_⟩
  · have hne : it (phi t) (q + 1) s ≠ s := by simpa using hb
    have w2 := s2.w w'
    have st2 := st.trans w0 s2
    have hopen' : ∀ i, 1 ≤ i → i < q + 1 + 1 → it (phi t) i s ≠ s := fun i a b => by
      by_cases hi : i = q + 1
      · rw [hi]
        exact hne
      · exact hopen i a (by omega)
    have hjn' := open_le pp hs hopen'
    refine s_par w2 (a_cons (d_catA (K := K) (e_var (hi _ _) (hf.mono s2.ex)).D (d_tup (EvA.one (e_var (hj _ _) (.int _)).D) (by simp)) (by have := hv.le; simp [orb_len]; omega))
      (EvA.one (e_step (htd _ _ _ st2.ex) (hback.mono st2.ex) hv (hta _ _ _ st2.ex) (e_var (hj _ _) (.int _)) (htz _ _ _ st2.ex) hx).D)) fun x y G3 H3 s3 hx3 hy3 => ?_
    cases hy3
    refine ⟨t.length - (q + 1), G3, by omega, q + 1, x, rfl, st2.trans w0 s3, hset _ _ _ _, ?_, hopen'⟩
    rw [orb_succ (m := q + 1), tupN, List.map_append]
    exact hx3
  · have hcl : it (phi t) (q + 1) s = s := by simpa using hb
    have hper : q + 1 = per (phi t) t.length s := per_eq pp hs (by omega) hcl hopen
    have hcyc : orb (phi t) s (q + 1) = cyc (phi t) t.length s := by rw [hper]; rfl
    rw [hcyc] at hf
    have w2 := s2.w w'
    exact s_ret w2 (e_var (hi _ _) (hf.mono s2.ex)).D fun v' G3 H3 s3 hv' => hQ v' G3 H3 ((st.trans w0 s2).trans w0 s3) hv'
theorem rd_class_by {K : PySem.W.Frag} {vs : List V} {H : Hp} {Q : VK} {E : XK} (h : sp_class_by vs H Q E) :
  (tSeq (tAsg (tTup (tCons (tVar 2) tNil)) (gName 3)) (tSeq (tAsg (tDGet (tVar 1) (tOp (rIxT K) (tOp (rIxT K) (tVar 0) (tVar 2)) (tC (V.int 0)))) (gName 4)) (tSeq (tWhile (tTest (tOp rNe (tVar 4) (tVar 2))) (tPar 3 4 (tCons (tOp (rCatA K) (tVar 3) (tTup (tCons (tVar 4) tNil))) (tCons (tDGet (tVar 1) (tOp (rIxT K) (tOp (rIxT K) (tVar 0) (tVar 4)) (tC (V.int 0)))) tNil)))) (tRet (tVar 3)))))
    { nx := fun x H' => Q V.non H', rt := Q } (L2.start ["table", "back", "start", "found", "there"] vs) H := by
  obtain ⟨G, P, w0, ⟨v, a, s, t, rfl, ht, hback, hv, hs, hP⟩, hQ⟩ := h
  refine q_asg w0 (d_tup (EvA.one (e_var rfl (.int _)).D) (by simp)) fun vf G1 H1 s1 hf => ?_
  have w1 := s1.w w0
  refine q_asg w1 (e_step (K := K) (n_var rfl) (hback.mono s1.ex) hv (e_var rfl (ht.mono s1.ex)) (e_var rfl (.int _)) (e_int 0) hs).D fun y G2 H2 s2 hy => ?_
  cases hy
  have st := s1.trans w0 s2
  exact rd_cls_loop (v := v) (k0 := 0) (σ0 := fun x y => [some v, some (.ref a), some (.int (s : Nat)), some x, some y]) hv hs w0 hback (fun _ _ _ _ => rfl) (fun _ _ => rfl) (fun _ _ => rfl)
    (fun _ _ _ _ => n_var rfl) (fun _ _ _ e => e_var rfl (ht.mono e)) (fun _ _ _ _ => e_var rfl (.int _)) (fun _ _ _ _ => e_int 0) st (hf.mono s2.ex) fun v' G' H' s' h' => hQ v' G' H' s' (hP v' G' h')
/-! ### _law_class -/
def sp__law_class : Sp := spF fun vs G P => ∃ v s t, vs = [v, .int 0, .int 1, .int ((s : Nat) : Int)] ∧ Dt G v (tabD t) ∧ Valid t ∧ s < t.length ∧ ∀ v' G', Dt G' v' (tupN (cyc (phi t) t.length s)) → P v' G'
theorem len__law_class (vs : List V) (H : Hp) (Q : VK) (E : XK) (h : sp__law_class vs H Q E) : vs.length = ["_law_table_here", "_law_one", "_law_two_here", "_law_start"].length := by
  obtain ⟨G, P, _, ⟨v, s, t, rfl, _⟩, _⟩ := h
  rfl
/-- dict([(item[1], number) for number, item in enumerate(table)]) -/
theorem c_back {K : PySem.W.Frag} {m : Mode} {σ : L2.St} {G : Hp} {ta tz : TE} {t : Tab} {i j : Nat} (hij : i ≠ j) (hil : i < σ.length) (hjl : j < σ.length) (hv : Valid t) (ha : EvE ta σ G (tabD t))
    (hz : ∀ x y G', Ex G G' → EvE tz ((((σ.set j none).set i none).set i (some x)).set j (some y)) G' (.int 1)) :
    Cmp m G (tCB (rDictP K) (tCons (tLc (iEnumT K (tCons ta tNil)) (gTup K 2 (gCons (gName i) (gCons (gName j) gNil))) tYes (tTup (tCons (tOp (rIxT K) (tVar j) tz) (tCons (tVar i) tNil))) [i, j]) tNil) σ) (fun v G' => ∃ a, v = .ref a ∧ BackAt G' a t) := by
  have hI : EvI m (iEnumT K (tCons ta tNil)) σ G ((List.range t.length).map fun i : Nat => .tuple [natD i, rowD (t.getD i (0, 0))]) := by
    have := i_enumT (m := m) (K := K) ha.D
    rw [enumD_map (0, 0)] at this
    exact this
  have hL := d_lc2 (m := m) (K := K) (tt := tYes) (te := tTup (tCons (tOp (rIxT K) (tVar j) tz) (tCons (tVar i) tNil))) (xs := List.range t.length) (e1 := natD) (e2 := fun i => rowD (t.getD i (0, 0))) (fun _ => true) (fun i => .tuple [natD (c2 t i), natD i]) hij hI (by rw [List.length_range]; have := hv.le; omega)
    (fun x _ v u G1 _ _ _ => t_yes) (fun x _ v u G1 e hv hu _ => by
      have gj : ((((σ.set j none).set i none).set i (some v)).set j (some u))[j]? = some (some u) := by simp [hjl]
      have gi : ((((σ.set j none).set i none).set i (some v)).set j (some u))[i]? = some (some v) := by
        rw [List.getElem?_set_ne (Ne.symm hij)]
        simp [hil]
      exact d_tup (a_cons (e_row1 (e_var gj hu) (hz _ _ _ e)).D (EvA.one (e_var gi hv).D)) (by simp))
  have hfl : ((List.range t.length).filter fun _ => true) = List.range t.length := List.filter_eq_self.mpr fun _ _ => rfl
  rw [hfl] at hL
  have e2 : ((List.range t.length).map fun i => (PyData.tuple [natD (c2 t i), natD i])) = ((List.range t.length).map fun i => (c2 t i, i)).map fun p => .tuple [natD p.1, natD p.2] := by
    rw [List.map_map]
    rfl
  rw [e2] at hL
  refine (c_dictP (K := K) (e := natD) (ve := fun n => V.int (n : Nat)) (fun h => by cases h; rfl) hL).imp fun v G' _ ⟨a, hva, hg⟩ => ⟨a, hva, _, hg, back_of hv⟩
theorem rd__law_class {K : PySem.W.Frag} {vs : List V} {H : Hp} {Q : VK} {E : XK} (h : sp__law_class vs H Q E) :
  (tSeq (tAsg (tCB (rDictP K) (tCons (tLc (iEnumT K (tCons (tVar 0) tNil)) (gTup K 2 (gCons (gName 7) (gCons (gName 8) gNil))) tYes (tTup (tCons (tOp (rIxT K) (tVar 8) (tVar 2)) (tCons (tVar 7) tNil))) [7, 8]) tNil)) (gName 4))
    (tSeq (tPar 5 6 (tCons (tTup (tCons (tVar 3) tNil)) (tCons (tDGet (tVar 4) (tOp (rIxT K) (tOp (rIxT K) (tVar 0) (tVar 3)) (tVar 1))) tNil)))
      (tSeq (tWhile (tTest (tOp rNe (tVar 6) (tVar 3))) (tPar 5 6 (tCons (tOp (rCatA K) (tVar 5) (tTup (tCons (tVar 6) tNil))) (tCons (tDGet (tVar 4) (tOp (rIxT K) (tOp (rIxT K) (tVar 0) (tVar 6)) (tVar 1))) tNil)))) (tRet (tVar 5)))))
    { nx := fun x H' => Q V.non H', rt := Q } (L2.start ["_law_table_here", "_law_one", "_law_two_here", "_law_start", "_law_back", "_law_found", "_law_here", "_law_at", "_law_item"] vs) H := by
  obtain ⟨G, P, w0, ⟨v, s, t, rfl, ht, hv, hs, hP⟩, hQ⟩ := h
  refine q_asg w0 (c_back (by decide) (by show 7 < 9; omega) (by show 8 < 9; omega) hv (e_var rfl ht) fun _ _ _ _ => e_var rfl (.int 1)) fun vb G1 H1 s1 hb => ?_
  obtain ⟨a, rfl, hback⟩ := hb
  have w1 := s1.w w0
  refine q_par w1 (a_cons (d_tup (EvA.one (e_var rfl (.int _)).D) (by simp)) (EvA.one (e_step (K := K) (n_var rfl) hback hv (e_var rfl (ht.mono s1.ex)) (e_var rfl (.int _)) (e_var rfl (.int 0)) hs).D)) fun vf y G2 H2 s2 hf hy => ?_
  cases hy
  have w2 := s2.w w1
  have st := s1.trans w0 s2
  exact rd_cls_loop (v := v) (k0 := 0) (σ0 := fun x y => [some v, some (.int 0), some (.int 1), some (.int (s : Nat)), some (.ref a), some x, some y, none, none]) hv hs w2 (hback.mono s2.ex) (fun _ _ _ _ => rfl) (fun _ _ => rfl) (fun _ _ => rfl)
    (fun _ _ _ _ => n_var rfl) (fun _ _ _ e => e_var rfl (ht.mono (st.ex.trans e))) (fun _ _ _ _ => e_var rfl (.int _)) (fun _ _ _ _ => e_var rfl (.int 0)) (Stp.refl w2) hf fun v' G' H' s' h' => hQ v' G' H' (st.trans w0 s') (hP v' G' h')
end R45
end
section
set_option Elab.async false
set_option linter.all false
set_option maxRecDepth 100000
set_option maxHeartbeats 2000000
namespace R45
open PySem PySem.Spec PyProof.Rows L2 Evl
/-! ### classes_by -/
def sp_classes_by : Sp := spF fun vs G P => ∃ v t, vs = [v] ∧ Dt G v (tabD t) ∧ Valid t ∧ ∀ v' G', Dt G' v' (lstT (cls t)) → P v' G'
theorem len_classes_by (vs : List V) (H : Hp) (Q : VK) (E : XK) (h : sp_classes_by vs H Q E) : vs.length = ["table"].length := by
  obtain ⟨G, P, _, ⟨v, t, rfl, _⟩, _⟩ := h
  rfl
theorem rd_classes_by {K : PySem.W.Frag} {vs : List V} {H : Hp} {Q : VK} {E : XK} (h : sp_classes_by vs H Q E) :
  (tSeq (tAsg (tCB (rDictP K) (tCons (tLc (iEnumT K (tCons (tVar 0) tNil)) (gTup K 2 (gCons (gName 5) (gCons (gName 6) gNil))) tYes (tTup (tCons (tOp (rIxT K) (tVar 6) (tC (V.int 1))) (tCons (tVar 5) tNil))) [5, 6]) tNil)) (gName 1))
    (tSeq (tPar 2 3 (tCons (tLst tNil) (tCons (tLstRg (tRg1 (tCB (rLenS K) (tCons (tVar 0) tNil)))) tNil)))
      (tSeq (tWhile (tTest (tOp (rNeD K) (tVar 3) (tLst tNil)))
          (tSeq (tAsg (tCall sp_class_by [] C8.E0 (tCons (tVar 0) (tCons (tVar 1) (tCons (tOp (rIxL K) (tVar 3) (tC (V.int 0))) tNil)))) (gName 4))
            (tPar 2 3 (tCons (tOp rCat (tVar 2) (tLst (tCons (tVar 4) tNil))) (tCons (tLc (iList K (tVar 3)) (gName 5) (tTest (tOp (rIn K true) (tVar 5) (tVar 4))) (tVar 5) [5]) tNil)))))
        (tRet (tVar 2)))))
    { nx := fun x H' => Q V.non H', rt := Q } (L2.start ["table", "back", "found", "left", "one", "number", "item"] vs) H := by
  obtain ⟨G, P, w0, ⟨v, t, rfl, ht, hv, hP⟩, hQ⟩ := h
  have hle := hv.le
  refine q_asg w0 (c_back (by decide) (by show 5 < 7; omega) (by show 6 < 7; omega) hv (e_var rfl ht) fun _ _ _ _ => e_int 1) fun vb G1 H1 s1 hb => ?_
  obtain ⟨a, rfl, hback⟩ := hb
  have w1 := s1.w w0
  refine q_par w1 (a_cons (d_lst a_nil (by decide)) (EvA.one (d_listRg (e_lenTM (e_var rfl (ht.mono s1.ex))).D (by omega)))) fun vf vl G2 H2 s2 hf hl => ?_
  have st := s1.trans w0 s2
  refine q_while (m := m0) (fun n G' σ' H' => ∃ fo le vf vl o k, n = le.length ∧ Stp m0 G H G' H' ∧ Ex G2 G' ∧ σ' = [some v, some (.ref a), some vf, some vl, o, none, none] ∧ Dt G' vf (lstT fo) ∧ Dt G' vl (lstN le) ∧
      (∀ y ∈ le, y < t.length) ∧ fo.length + le.length ≤ t.length ∧ le.length ≤ k ∧ fo ++ blksF (cyc (phi t) t.length) k le = cls t)
    t.length G2 ⟨[], List.range t.length, vf, vl, none, t.length, by rw [List.length_range], st, Ex.refl _, rfl, hf, hl, fun y hy => List.mem_range.mp hy, by simp, by simp, rfl⟩ fun n G' σ' H' hI => ?_
  obtain ⟨fo, le, vf, vl, o, k, rfl, st, e2, rfl, hf, hl, hlt, hsz, hk, hmath⟩ := hI
  have w' := st.w w0
  refine ⟨w', !decide (le = []), t_test ((d_neD (K := K) (e_var rfl hl).D (d_lst a_nil (by decide)) (sh_lstN le).ok (sh_nil 0).ok).is (by rw [eqv_nilL]; simp)), fun hb G3 H3 s3 => ?_, fun hb G3 H3 s3 => ?_⟩
  · obtain ⟨s, r, rfl⟩ : ∃ s r, le = s :: r := by
      cases le with
      | nil => simp at hb
      | cons s r => exact ⟨s, r, rfl⟩
    have hs : s < t.length := hlt s List.mem_cons_self
    have st3 := st.trans w0 s3
    have w3 := s3.w w'
    have hl3 := hl.mono s3.ex
    refine q_asg (P := fun v' G' => Dt G' v' (tupN (cyc (phi t) t.length s))) w3 (c_call (am_d (e_var rfl (ht.mono st3.ex)).D (am_v (n_var (v := .ref a) rfl) (am_d (e_ixL (K := K) (e_var rfl hl3) (e_int 0) (at_zero rfl)).D am_nil))) fun vs G4 e4 has G5 e5 => ?_) fun vo G4 H4 s4 ho => ?_
    · obtain ⟨x, y, z, rfl, hx, rfl, hz⟩ : ∃ x y z, vs = [x, y, z] ∧ Dt G4 x (tabD t) ∧ y = .ref a ∧ Dt G4 z (natD s) := by
        match vs, has with
        | [x, y, z], ⟨h1, h2, h3, _⟩ => exact ⟨x, y, z, rfl, h1, h2, h3⟩
      cases hz
      exact ⟨x, a, s, t, rfl, hx.mono e5, hback.mono (s2.ex.trans (e2.trans (s3.ex.trans (e4.trans e5)))), hv, hs, fun _ _ h => h⟩
    have w4 := s4.w w3
    have hf4 := (hf.mono s3.ex).mono s4.ex
    have hl4 := hl3.mono s4.ex
    rw [List.length_cons] at hsz
    refine s_par w4 (a_cons (d_cat (e_var rfl hf4).D (d_lst (EvA.one (e_var rfl ho).D) (by simp)) (by simp; omega))
      (EvA.one (d_lc1 (xs := s :: r) (enc := natD) (fun y => !decide (y ∈ cyc (phi t) t.length s)) natD (i_list (e_var rfl hl4).D) (by simp; omega)
        (fun y _ u G7 e7 hu => t_test (d_notInTN (e_var rfl hu).D (e_var rfl (ho.mono e7)).D)) (fun y _ u G7 e7 hu _ => (e_var rfl hu).D)))) fun vf2 vl2 G5 H5 s5 hf5 hl5 => ?_
    obtain ⟨k', rfl⟩ : ∃ k', k = k' + 1 := ⟨k - 1, by rw [List.length_cons] at hk; omega⟩
    have hflt : ((s :: r).filter fun y => !decide (y ∈ cyc (phi t) t.length s)).length ≤ r.length := by
      rw [List.filter_cons_of_neg (by simp [cyc_at])]
      exact List.length_filter_le _ _
    rw [List.length_cons] at hk
    refine ⟨((s :: r).filter fun y => !decide (y ∈ cyc (phi t) t.length s)).length, G5, by rw [List.length_cons]; omega, fo ++ [cyc (phi t) t.length s], (s :: r).filter fun y => !decide (y ∈ cyc (phi t) t.length s), vf2, vl2, some vo, k', rfl,
      (st3.trans w0 s4).trans w0 s5, e2.trans (s3.ex.trans (s4.ex.trans s5.ex)), rfl, ?_, hl5, fun y hy => hlt y (List.mem_filter.mp hy).1, by simp; omega, by omega, ?_⟩
    · rw [lstT, List.map_append]
      exact hf5
    · rw [List.append_assoc, ← hmath]
      rfl
  · have hnil : le = [] := by simpa using hb
    subst hnil
    rw [blksF_nil, List.append_nil] at hmath
    subst hmath
    have w3 := s3.w w'
    exact s_ret w3 (e_var rfl (hf.mono s3.ex)).D fun v' G4 H4 s4 hv' => hQ v' G4 H4 ((st.trans w0 s3).trans w0 s4) (hP v' G4 hv')
/-! ### _law_classes -/
def sp__law_classes : Sp := spF fun vs G P => ∃ v t, vs = [v, .int 0, .int 1] ∧ Dt G v (tabD t) ∧ Valid t ∧ ∀ v' G', Dt G' v' (lstT (cls t)) → P v' G'
theorem len__law_classes (vs : List V) (H : Hp) (Q : VK) (E : XK) (h : sp__law_classes vs H Q E) : vs.length = ["_law_table_here", "_law_one", "_law_two_here"].length := by
  obtain ⟨G, P, _, ⟨v, t, rfl, _⟩, _⟩ := h
  rfl
theorem range_drop {n i : Nat} (h : i < n) : (List.range n).drop i = i :: (List.range n).drop (i + 1) := by
  rw [List.drop_eq_getElem_cons (by rw [List.length_range]; exact h)]
  simp
theorem mets_len {c : Nat → List Nat} : ∀ (l met : List Nat), (mets c l met).length ≤ l.length
  | [], _ => Nat.le_refl _
  | s :: r, met => by
    show (if s ∈ met then mets c r met else c s :: mets c r (met ++ c s)).length ≤ _
    split
    · have := mets_len (c := c) r met
      rw [List.length_cons]
      omega
    · have := mets_len (c := c) r (met ++ c s)
      rw [List.length_cons, List.length_cons]
      omega
theorem rd__law_classes {K : PySem.W.Frag} {vs : List V} {H : Hp} {Q : VK} {E : XK} (h : sp__law_classes vs H Q E) :
  (tSeq (tPar 3 4 (tCons (tLst tNil) (tCons (tLst tNil) tNil)))
    (tSeq (tFor (iRng1 (tCons (tCB (rLenS K) (tCons (tVar 0) tNil)) tNil)) (gName 5)
        (tIfS (tTest (tOp (rIn K true) (tVar 5) (tVar 4)))
          (tSeq (tDrop (tBM K "list" rAppend (tVar 3) (tCons (tCall sp__law_class [] C8.E0 (tCons (tVar 0) (tCons (tVar 1) (tCons (tVar 2) (tCons (tVar 5) tNil))))) tNil)))
            (tAsg (tOp rCat (tVar 4) (tCB (rListS K) (tCons (tOp (rIxL K) (tVar 3) (tUn (rU fun i => V.int (-i)) (tC (V.int 1)))) tNil))) (gName 4)))
          tNext))
      (tRet (tVar 3))))
    { nx := fun x H' => Q V.non H', rt := Q } (L2.start ["_law_table_here", "_law_one", "_law_two_here", "_law_found", "_law_met", "_law_start"] vs) H := by
  obtain ⟨G, P, w0, ⟨v, t, rfl, ht, hv, hP⟩, hQ⟩ := h
  have hle := hv.le
  have pp := phi_perm hv
  refine q_parR (EvN.go (te := tLst tNil) (nw_lst a_nil (by decide)) w0 rfl fun l xs G1 H1 s1 hl gl h0 hx => ?_)
  cases hx
  have w1 := s1.w w0
  refine Cmp.goO (l := l) (o := .lst []) (hn := fun _ z => nomatch z) (f := tLst tNil _) (P := fun v G' => Dt G' v (.list [])) (d_lst a_nil (by decide)) w1 hl gl fun vm G2 H2 s2 hl2 gl2 hm => ?_
  have st := s1.trans w0 s2
  have w2 := s2.w w1
  refine q_for w2 (i_rngN (e_lenTM (e_var rfl (ht.mono st.ex))).D (by omega))
    (fun i G' σ' H' => ∃ xs fo met vm x, Stp m0 G H G' H' ∧ σ' = [some v, some (.int 0), some (.int 1), some (.ref l), some vm, x] ∧ H' l = some (.lst xs) ∧ G' l = none ∧ Dts G' xs (fo.map tupN) ∧ Dt G' vm (lstN met) ∧
      fo.length ≤ i ∧ met.length ≤ i * t.length ∧ i ≤ t.length ∧ fo ++ mets (cyc (phi t) t.length) ((List.range t.length).drop i) met = cls t)
    (fun i G' σ' H' ⟨_, _, _, _, _, st, _⟩ => st.w w0) (fun G3 H3 s3 => ?_) (fun i d x G' σ' H' hd eG hI Gx Hx sx hx => ?_) (fun G' σ' H' eG hI => ?_)
  · obtain ⟨h3, g3⟩ := s3.mine (fun z => z) gl2 hl2
    refine ⟨[], [], [], vm, none, st.trans w0 s3, rfl, h3, g3, .nil, hm.mono s3.ex, Nat.zero_le _, Nat.zero_le _, Nat.zero_le _, ?_⟩
    show mets (cyc (phi t) t.length) (List.range t.length) [] = cls t
    exact mets_all
  · obtain ⟨xs, fo, met, vm, x0, st, rfl, hl3, gl3, hxs, hm, hfo, hmet, hi, hmath⟩ := hI
    rw [List.getElem?_map] at hd
    obtain ⟨y, hy, rfl⟩ := Option.map_eq_some_iff.mp hd
    obtain ⟨hy1, hy2⟩ := List.getElem?_eq_some_iff.mp hy
    rw [List.length_range] at hy1
    rw [List.getElem_range] at hy2
    subst hy2
    cases hx
    have w' := st.w w0
    have wx := sx.w w'
    have stx := st.trans w0 sx
    obtain ⟨hlx, glx⟩ := sx.mine (fun z => z) gl3 hl3
    have hmx := hm.mono sx.ex
    rw [range_drop hy1] at hmath
    refine s_if wx (t_test (d_notInLN (y := i) (l := met) (e_var rfl (.int _)).D (e_var rfl hmx).D)) (fun hb G4 H4 s4 => ?_) (fun hb G4 H4 s4 => ?_)
    · have hnm : i ∉ met := by simpa using hb
      have w4 := s4.w wx
      obtain ⟨hl4, gl4⟩ := s4.mine (fun z => z) glx hlx
      have st4 := stx.trans w0 s4
      refine q_app (P := fun v' G' => Dt G' v' (tupN (cyc (phi t) t.length i))) w4 (fun z => z) gl4 hl4 rfl (c_call (am_d (e_var rfl (ht.mono st4.ex)).D (am_v (n_var (v := .int 0) rfl) (am_v (n_var (v := .int 1) rfl) (am_d (d := natD i) (e_var rfl (.int _)).D am_nil)))) fun vs G5 e5 has G6 e6 => ?_)
        (by rw [hxs.length, List.length_map]; omega) fun vc G5 H5 s5 hc => ?_
      · obtain ⟨x, y, z, u, rfl, hx, rfl, rfl, hz⟩ : ∃ x y z u, vs = [x, y, z, u] ∧ Dt G5 x (tabD t) ∧ y = .int 0 ∧ z = .int 1 ∧ Dt G5 u (natD i) := by
          match vs, has with
          | [x, y, z, u], ⟨h1, h2, h3, h4, _⟩ => exact ⟨x, y, z, u, rfl, h1, h2, h3, h4⟩
        cases hz
        exact ⟨x, i, t, rfl, hx.mono e6, hv, hy1, fun _ _ h => h⟩
      obtain ⟨hl5, gl5⟩ := s5.mine (fun z => z) gl4 hl4
      have st5 := (st4.trans w0 s5).mut w0 (o := .lst (xs ++ [vc])) h0 gl5 (fun φ z => by rw [hl5] at z; cases z)
      have w5 := st5.w w0
      have hxs5 : Dts G5 (xs ++ [vc]) ((fo ++ [cyc (phi t) t.length i]).map tupN) := by
        rw [List.map_append]
        exact (hxs.mono (sx.ex.trans (s4.ex.trans s5.ex))).snoc hc
      have hm5 := hmx.mono (s4.ex.trans s5.ex)
      have hcl : (cyc (phi t) t.length i).length ≤ t.length := (cyc_len pp hy1).2
      have hmul : i * t.length + t.length ≤ 1000000 := by
        have h1 : (i + 1) * t.length ≤ 720 * 720 := Nat.mul_le_mul (by omega) hle
        rw [Nat.add_mul, Nat.one_mul] at h1
        omega
      refine s_asgO (m := m0) (l := l) (o := .lst (xs ++ [vc])) (hn := fun _ z => nomatch z) (P := fun v G' => Dt G' v (lstN (met ++ cyc (phi t) t.length i))) ?_ w5 upd_same gl5 fun vm2 G6 H6 s6 hl6 gl6 hm6 => ?_
      · have := d_cat (m := mL1 m0 l (xs ++ [vc])) (σ := [some v, some (.int 0), some (.int 1), some (.ref l), some vm, some (.int (i : Nat))]) (ta := tVar 4) (e_var rfl hm5).D (d_listT (K := K) (o_ixL (K := K) (i := 3) fixO rfl hxs5 e_neg1.D (at_lastM _ _))) (by simp; omega)
        rw [← List.map_append] at this
        exact this
      · refine ⟨G6, sx.ex.trans (s4.ex.trans (s5.ex.trans s6.ex)), xs ++ [vc], fo ++ [cyc (phi t) t.length i], met ++ cyc (phi t) t.length i, vm2, some (.int (i : Nat)), st5.trans w0 s6, rfl, hl6, gl6, hxs5.mono s6.ex, hm6, by simp; omega, ?_, by omega, ?_⟩
        · rw [List.length_append, Nat.add_mul, Nat.one_mul]
          omega
        · rw [List.append_assoc, ← hmath]
          show fo ++ (cyc (phi t) t.length i :: _) = fo ++ if i ∈ met then _ else _
          rw [if_neg hnm]
          rfl
    · have hin : i ∈ met := by simpa using hb
      obtain ⟨hl4, gl4⟩ := s4.mine (fun z => z) glx hlx
      refine ⟨G4, sx.ex.trans s4.ex, xs, fo, met, vm, some (.int (i : Nat)), stx.trans w0 s4, rfl, hl4, gl4, hxs.mono (sx.ex.trans s4.ex), hmx.mono s4.ex, by omega, ?_, by omega, ?_⟩
      · rw [Nat.add_mul]
        omega
      · rw [← hmath]
        show _ = fo ++ if i ∈ met then _ else _
        rw [if_pos hin]
  · obtain ⟨xs, fo, met, vm, x0, st, rfl, hl3, gl3, hxs, hm, hfo, hmet, hi, hmath⟩ := hI
    rw [List.length_map, List.length_range] at hmath
    have hdn : (List.range t.length).drop t.length = [] := List.drop_of_length_le (by rw [List.length_range]; omega)
    rw [hdn] at hmath
    have hfe : fo = cls t := by simpa [mets] using hmath
    subst hfe
    have s5 := st.tell h0 gl3 hl3
    exact ⟨.ref l, rfl, hQ _ _ _ s5 (hP _ _ (.lst upd_same (hxs.mono (Ex.new gl3))))⟩
end R45
end
section
set_option Elab.async false
set_option linter.all false
set_option maxRecDepth 100000
set_option maxHeartbeats 2000000
namespace R45
open PySem PySem.Spec PyProof.Rows L2 Evl
/-! ### nexts_of -/
def LotOk (cl : List (List Nat)) (lot : List Nat) : Prop := (∀ a ∈ lot, a < cl.length) ∧ (turned cl lot).length ≤ 1000000 ∧ lot.length ≤ 1000 ∧ ∀ x ∈ cl, x.length ≤ 720
def sp_nexts_of : Sp := spF fun vs G P => ∃ v u w t cl lot, vs = [v, u, w] ∧ Dt G v (tabD t) ∧ Dt G u (lstT cl) ∧ Dt G w (tupN lot) ∧ LotOk cl lot ∧ t.length ≤ 720 ∧ ∀ v' G', Dt G' v' (tupN (nxt t cl lot)) → P v' G'
theorem len_nexts_of (vs : List V) (H : Hp) (Q : VK) (E : XK) (h : sp_nexts_of vs H Q E) : vs.length = ["table", "classes", "lot"].length := by
  obtain ⟨G, P, _, ⟨v, u, w, t, cl, lot, rfl, _⟩, _⟩ := h
  rfl
theorem at_cl {cl : List (List Nat)} {a : Nat} (h : a < cl.length) : cl[a]? = some (cl.getD a []) := by
  rw [List.getD_eq_getElem?_getD, List.getElem?_eq_getElem h]
  rfl
theorem rd_nexts_of {K : PySem.W.Frag} {vs : List V} {H : Hp} {Q : VK} {E : XK} (h : sp_nexts_of vs H Q E) :
  (tSeq (tAsg (tCB (rDictP K) (tCons (tLc2 (iTup K (tVar 2)) (gName 4) tYes (iTup K (tOp (rIxL K) (tVar 1) (tVar 4))) (gName 5) tYes (tTup (tCons (tVar 5) (tCons (tC (V.bl true)) tNil))) [4, 5] [5]) tNil)) (gName 3))
    (tRet (tThen (tLc (iEnumT K (tCons (tVar 0) tNil)) (gTup K 2 (gCons (gName 5) (gCons (gName 6) gNil))) tYes (tOp (rIxT K) (tVar 6) (tIf (tB (tDIn (tVar 5) (tVar 3))) (tC (V.int 1)) (tC (V.int 0)))) [5, 6]) (kTup K))))
    { nx := fun x H' => Q V.non H', rt := Q } (L2.start ["table", "classes", "lot", "turned", "at", "number", "item"] vs) H := by
  obtain ⟨G, P, w0, ⟨v, u, w, t, cl, lot, rfl, ht, hu, hw, ⟨hlot, hsz, hl2, hcl⟩, hle, hP⟩, hQ⟩ := h
  have hL := d_lcF (m := m0) (G := G) (σ := [some v, some u, some w, none, none, none, none]) (te := tTup (tCons (tVar 5) (tCons (tC (V.bl true)) tNil))) (wi := iTup K (tVar 2)) (wi1 := iTup K (tOp (rIxL K) (tVar 1) (tVar 4))) (i := 4) (j := 5)
    (xs := lot) (enc := natD) (ys := fun a => cl.getD a []) (enc2 := natD) (fun y => .tuple [natD y, .bool true]) (by decide) (i_tup (e_var rfl hw).D) hsz
    (fun x hx v1 G1 e hv1 => i_tup (e_ixL (e_var rfl (hu.mono e)) (e_var rfl hv1) (at_map (at_cl (hlot x hx)))).D)
    (fun x hx y hy v1 u1 G1 e hv1 hu1 => d_tup (a_cons (e_var rfl hu1).D (EvA.one (e_bl true).D)) (by simp))
  have e2 : ((lot.flatMap fun a => cl.getD a []).map fun y => PyData.tuple [natD y, .bool true]) = ((turned cl lot).map fun y => (y, true)).map fun p : Nat × Bool => .tuple [natD p.1, .bool p.2] := by
    rw [List.map_map]
    rfl
  rw [e2] at hL
  refine q_asg w0 (c_dictP (K := K) (e := fun b => .bool b) (ve := fun b => V.bl b) (fun h => by cases h; rfl) hL) fun vd G1 H1 s1 hd => ?_
  obtain ⟨a, rfl, hg⟩ := hd
  have w1 := s1.w w0
  have hkey : ∀ i : Nat, (valV (mergeK [] (((turned cl lot).map fun y => (y, true)).map fun p : Nat × Bool => (natK p.1, V.bl p.2))) (natK i)).isSome = decide (i ∈ turned cl lot) := fun i => by
    show (valV (List.foldl _ [] _) _).isSome = _
    rw [val_merge_some, List.map_map, List.map_map]
    simp [valV]
    exact ⟨fun ⟨x, hx, e⟩ => (show x = i by omega) ▸ hx, fun hx => ⟨i, hx, rfl⟩⟩
  have hI : EvI m0 (iEnumT K (tCons (tVar 0) tNil)) [some v, some u, some w, some (.ref a), none, none, none] G1 ((List.range t.length).map fun i : Nat => .tuple [natD i, rowD (t.getD i (0, 0))]) := by
    have := i_enumT (m := m0) (K := K) (σ := [some v, some u, some w, some (.ref a), none, none, none]) (ta := tVar 0) (e_var rfl (ht.mono s1.ex)).D
    rw [enumD_map (0, 0)] at this
    exact this
  have hL2 := d_lc2 (m := m0) (K := K) (G := G1) (σ := [some v, some u, some w, some (.ref a), none, none, none]) (tt := tYes) (te := tOp (rIxT K) (tVar 6) (tIf (tB (tDIn (tVar 5) (tVar 3))) (tC (V.int 1)) (tC (V.int 0)))) (i := 5) (j := 6) (xs := List.range t.length) (e1 := natD) (e2 := fun i => rowD (t.getD i (0, 0))) (fun _ => true) (fun i => natD (if i ∈ turned cl lot then c2 t i else c1 t i)) (by decide) hI (by rw [List.length_range]; omega)
    (fun x _ v u G1 _ _ _ => t_yes) (fun x _ v1 u1 G2 e hv1 hu1 _ => by
      have hb : EvT m0 (tB (tDIn (tVar 5) (tVar 3))) [some v, some u, some w, some (.ref a), none, some v1, some u1] G2 (decide (x ∈ turned cl lot)) := by
        have := t_val (m := m0) (d_din (ti := tVar 5) (td := tVar 3) (e _ _ hg) (n_var (σ := [some v, some u, some w, some (.ref a), none, some v1, some u1]) rfl) (i := x) (e_var rfl hv1)).D
        rw [hkey x] at this
        exact this
      by_cases hx : x ∈ turned cl lot
      · refine d_ixT (i := 1) (e_var rfl hu1).D (d_if hb (fun _ => (e_int 1).D) (fun z => by simp [hx] at z)) ?_
        rw [if_pos hx]
        exact at_map (k := 1) rfl
      · refine d_ixT (i := 0) (e_var rfl hu1).D (d_if hb (fun z => by simp [hx] at z) (fun _ => (e_int 0).D)) ?_
        rw [if_neg hx]
        exact at_zero rfl)
  have hfl : ((List.range t.length).filter fun _ => true) = List.range t.length := List.filter_eq_self.mpr fun _ _ => rfl
  rw [hfl] at hL2
  refine s_ret w1 (d_tupL hL2) fun v' G2 H2 s2 hv' => hQ v' G2 H2 (s1.trans w0 s2) (hP v' G2 ?_)
  have e3 : ((List.range t.length).map fun i => natD (if i ∈ turned cl lot then c2 t i else c1 t i)) = (nxt t cl lot).map natD := by
    unfold nxt
    rw [List.map_map]
    rfl
  show Dt G2 v' (.tuple ((nxt t cl lot).map natD))
  rw [← e3]
  exact hv'
/-! ### blocks_by -/
def sp_blocks_by : Sp := spF fun vs G P => ∃ v u w t lot, vs = [v, u, w] ∧ Dt G v (tabD t) ∧ Dt G u (lstT (cls t)) ∧ Dt G w (tupN lot) ∧ Valid t ∧ LotOk (cls t) lot ∧ ∀ v' G', Dt G' v' (lstT (blkN (nxt t (cls t) lot))) → P v' G'
theorem len_blocks_by (vs : List V) (H : Hp) (Q : VK) (E : XK) (h : sp_blocks_by vs H Q E) : vs.length = ["table", "classes", "lot"].length := by
  obtain ⟨G, P, _, ⟨v, u, w, t, lot, rfl, _⟩, _⟩ := h
  rfl
theorem DAs.three {G : Hp} {vs : List V} {a b c : V ⊕ PyData} (h : DAs G vs [a, b, c]) : ∃ x y z, vs = [x, y, z] ∧ DA G x a ∧ DA G y b ∧ DA G z c := by
  match vs, h with
  | [x, y, z], ⟨h1, h2, h3, _⟩ => exact ⟨x, y, z, rfl, h1, h2, h3⟩
theorem DAs.one {G : Hp} {vs : List V} {a : V ⊕ PyData} (h : DAs G vs [a]) : ∃ x, vs = [x] ∧ DA G x a := by
  match vs, h with
  | [x], ⟨h1, _⟩ => exact ⟨x, rfl, h1⟩
theorem DAs.two {G : Hp} {vs : List V} {a b : V ⊕ PyData} (h : DAs G vs [a, b]) : ∃ x y, vs = [x, y] ∧ DA G x a ∧ DA G y b := by
  match vs, h with
  | [x, y], ⟨h1, h2, _⟩ => exact ⟨x, y, rfl, h1, h2⟩
theorem rd_blocks_by {vs : List V} {H : Hp} {Q : VK} {E : XK} (h : sp_blocks_by vs H Q E) :
  (tRet (tCall sp_blocks_in [] C8.E0 (tCons (tCall sp_nexts_of [] C8.E0 (tCons (tVar 0) (tCons (tVar 1) (tCons (tVar 2) tNil)))) tNil)))
    { nx := fun x H' => Q V.non H', rt := Q } (L2.start ["table", "classes", "lot"] vs) H := by
  obtain ⟨G, P, w0, ⟨v, u, w, t, lot, rfl, ht, hu, hw, hv, hlot, hP⟩, hQ⟩ := h
  refine s_ret (P := fun v' G' => Dt G' v' (lstT (blkN (nxt t (cls t) lot)))) w0 (c_call (am_d (d := tupN (nxt t (cls t) lot)) (c_call (am_d (e_var rfl ht).D (am_d (e_var rfl hu).D (am_d (e_var rfl hw).D am_nil))) fun vs G1 e1 has G2 e2 => ?_) am_nil) fun vs G1 e1 has G2 e2 => ?_)
    fun v' G2 H2 s2 hv' => hQ v' G2 H2 s2 (hP v' G2 hv')
  · obtain ⟨x, y, z, rfl, h1, h2, h3⟩ := has.three
    exact ⟨x, y, z, t, cls t, lot, rfl, Dt.mono e2 h1, Dt.mono e2 h2, Dt.mono e2 h3, hlot, hv.le, fun _ _ h => h⟩
  · obtain ⟨x, rfl, h1⟩ := has.one
    exact ⟨x, nxt t (cls t) lot, rfl, Dt.mono e2 h1, nxt_perm hv lot, by rw [nxt_len]; have := hv.le; omega, fun _ _ h => h⟩
end R45
end
section
set_option Elab.async false
set_option linter.all false
set_option maxRecDepth 100000
set_option maxHeartbeats 2000000
namespace R45
open PySem PySem.Spec PyProof.Rows L2 Evl
theorem q_asgN {m : Mode} {σ : L2.St} {G H : Hp} {te : TE} {D : Ends} {tz : TS} {ds : List PyData} {i : Nat} (h : EvN m te σ G ds) (w : W m G H) (hn : nlistAll ds = true)
    (k : ∀ l xs G' H', Stp m G H G' H' → H' l = some (.lst xs) → G' l = none → H l = none → Dts G' xs ds → tz D (σ.set i (some (.ref l))) H') : tSeq (tAsg te (gName i)) tz D σ H :=
  h.go w hn (Q := fun v H' => tz D (σ.set i (some v)) H') k
theorem putK_len_new {κ : Type} [DecidableEq κ] {kvs : List (κ × V)} {k : κ} {v : V} (h : valV kvs k = none) : (putK kvs k v).length = kvs.length + 1 := by
  unfold putK
  rw [if_neg]
  · simp
  · intro z
    obtain ⟨p, hp, e⟩ := List.any_eq_true.mp z
    have : (kvs.find? fun kv => decide (kv.1 = k)) = none := by
      unfold valV at h
      simpa using h
    have := List.find?_eq_none.mp this p hp
    exact this e
/-! ### _law_turn -/
def tnl (t : Tab) (S : List Nat) : List Nat := (List.range t.length).map fun i => if i ∈ S then c2 t i else c1 t i
theorem tnl_len {t : Tab} {S : List Nat} : (tnl t S).length = t.length := by simp [tnl]
theorem tnl_set {t : Tab} {S : List Nat} {y : Nat} (h : y < t.length) : (tnl t S).set y (c2 t y) = tnl t (S ++ [y]) := by
  refine List.ext_getElem (by simp [tnl]) fun i h1 h2 => ?_
  rw [List.getElem_set]
  unfold tnl
  by_cases e : y = i
  · subst e
    simp
  · have e' : ¬ i = y := fun z => e z.symm
    simp [e, e']
def sp__law_turn : Sp := spF fun vs G P => ∃ v u w t cl lot, vs = [v, u, w] ∧ Dt G v (tabD t) ∧ Dt G u (lstT cl) ∧ Dt G w (tupN lot) ∧ (∀ a ∈ lot, a < cl.length) ∧ (∀ b ∈ cl, ∀ x ∈ b, x < t.length) ∧ t.length ≤ 720 ∧
  ∀ v' G', Dt G' v' (lstN (nxt t cl lot)) → P v' G'
theorem len__law_turn (vs : List V) (H : Hp) (Q : VK) (E : XK) (h : sp__law_turn vs H Q E) : vs.length = ["_law_table_here", "_law_classes_here", "_law_lot"].length := by
  obtain ⟨G, P, _, ⟨v, u, w, t, cl, lot, rfl, _⟩, _⟩ := h
  rfl
theorem rd__law_turn {K : PySem.W.Frag} {vs : List V} {H : Hp} {Q : VK} {E : XK} (h : sp__law_turn vs H Q E) :
  (tSeq (tAsg (tLc (iTup K (tVar 0)) (gName 6) tYes (tOp (rIxT K) (tVar 6) (tC (V.int 0))) [6]) (gName 3)) (tSeq (tFor (iTup K (tVar 2)) (gName 4) (tFor (iTup K (tOp (rIxL K) (tVar 1) (tVar 4))) (gName 5) (tAsg (tOp (rIxT K) (tOp (rIxT K) (tVar 0) (tVar 5)) (tC (V.int 1))) (gSub (tVar 3) (tVar 5) rSetL)))) (tRet (tVar 3))))
    { nx := fun x H' => Q V.non H', rt := Q } (L2.start ["_law_table_here", "_law_classes_here", "_law_lot", "_law_nexts", "_law_at", "_law_number", "_law_item"] vs) H := by
  obtain ⟨G, P, w0, ⟨v, u, w, t, cl, lot, rfl, ht, hu, hw, hlot, hcl, hle, hP⟩, hQ⟩ := h
  have hfl : (t.filter fun _ => true) = t := List.filter_eq_self.mpr fun _ _ => rfl
  have e0 : (t.map fun p : Nat × Nat => natD p.1) = (tnl t []).map natD := by
    unfold tnl
    rw [List.map_map]
    refine List.ext_getElem (by simp) fun i h1 h2 => ?_
    rw [List.length_map] at h1
    simp [c1, List.getD_eq_getElem?_getD, List.getElem?_eq_getElem h1]
  have hN := nw_lc1 (m := m0) (G := G) (σ := [some v, some u, some w, none, none, none, none]) (tt := tYes) (te := tOp (rIxT K) (tVar 6) (tC (V.int 0))) (wi := iTup K (tVar 0)) (j := 6)
    (xs := t) (enc := rowD) (fun _ => true) (fun p => natD p.1) (i_tup (e_var rfl ht).D) (by omega) (fun x _ v G1 _ _ => t_yes) (fun x _ v G1 _ hv _ => (e_row0 (e_var rfl hv) (e_int 0)).D)
  rw [hfl, e0] at hN
  refine q_asgN hN w0 (nlist_map nlist_nat _) fun l xs G1 H1 s1 hl gl h0 hx => ?_
  have w1 := s1.w w0
  refine q_for w1 (i_tup (e_var rfl (hw.mono s1.ex)).D)
    (fun a G' σ' H' => ∃ xs o4 o5, Stp m0 G H G' H' ∧ σ' = [some v, some u, some w, some (.ref l), o4, o5, none] ∧ H' l = some (.lst xs) ∧ G' l = none ∧ Dts G' xs ((tnl t (turned cl (lot.take a))).map natD))
    (fun i G' σ' H' ⟨_, _, _, st, _⟩ => st.w w0) (fun G3 H3 s3 => ?_) (fun a d x G' σ' H' hd eG hI Gx Hx sx hx => ?_) (fun G' σ' H' eG hI => ?_)
  · obtain ⟨h3, g3⟩ := s3.mine (fun z => z) gl hl
    exact ⟨xs, none, none, s1.trans w0 s3, rfl, h3, g3, hx.mono s3.ex⟩
  · obtain ⟨xs, o4, o5, st, rfl, hl3, gl3, hxs⟩ := hI
    rw [List.getElem?_map] at hd
    obtain ⟨at_, hat, rfl⟩ := Option.map_eq_some_iff.mp hd
    cases hx
    have hmem : at_ ∈ lot := List.mem_of_getElem? hat
    have hac := hlot at_ hmem
    have w' := st.w w0
    have wx := sx.w w'
    have stx := st.trans w0 sx
    obtain ⟨hlx, glx⟩ := sx.mine (fun z => z) gl3 hl3
    have eT : turned cl (lot.take (a + 1)) = turned cl (lot.take a) ++ cl.getD at_ [] := by
      unfold turned
      rw [List.take_add_one, hat, List.flatMap_append]
      simp
    have hci : ∀ y ∈ cl.getD at_ [], y < t.length := hcl _ (by
      rw [List.getD_eq_getElem?_getD, List.getElem?_eq_getElem hac]
      exact List.getElem_mem hac)
    refine s_for wx (i_tup (e_ixL (K := K) (e_var rfl (hu.mono stx.ex)) (e_var rfl (.int _)) (at_map (at_cl hac))).D)
      (fun b G' σ' H' => ∃ xs o5, Stp m0 G H G' H' ∧ Ex Gx G' ∧ σ' = [some v, some u, some w, some (.ref l), some (.int (at_ : Nat)), o5, none] ∧ H' l = some (.lst xs) ∧ G' l = none ∧ Dts G' xs ((tnl t (turned cl (lot.take a) ++ (cl.getD at_ []).take b)).map natD))
      (fun i G' σ' H' ⟨_, _, st, _⟩ => st.w w0) (fun G3 H3 s3 => ?_) (fun b d x G' σ' H' hd eG2 hI Gy Hy sy hx => ?_) (fun G' σ' H' eG2 hI => ?_)
    · obtain ⟨h3, g3⟩ := s3.mine (fun z => z) glx hlx
      refine ⟨xs, o5, stx.trans w0 s3, s3.ex, rfl, h3, g3, ?_⟩
      rw [List.take_zero, List.append_nil]
      exact hxs.mono (sx.ex.trans s3.ex)
    · obtain ⟨xs, o5, st, ex5, rfl, hl5, gl5, hxs⟩ := hI
      rw [List.getElem?_map] at hd
      obtain ⟨y, hy, rfl⟩ := Option.map_eq_some_iff.mp hd
      cases hx
      have hyt := hci y (List.mem_of_getElem? hy)
      have w5 := st.w w0
      have wy := sy.w w5
      have sty := st.trans w0 sy
      obtain ⟨hly, gly⟩ := sy.mine (fun z => z) gl5 hl5
      refine Cmp.go (e_row1 (K := K) (e_row (K := K) (e_var rfl (ht.mono sty.ex)) (e_var rfl (.int _)) hyt) (e_int 1)).D wy fun vv G6 H6 s6 hv6 => ?_
      obtain ⟨hl6, gl6⟩ := s6.mine (fun z => z) gly hly
      have xl : xs.length = t.length := by rw [hxs.length, List.length_map, tnl_len]
      refine ⟨.ref l, rfl, .int (y : Nat), rfl, l, xs, (y : Nat), y, rfl, rfl, hl6, ixN_nat (by omega), ?_⟩
      refine ⟨G6, sy.ex.trans s6.ex, xs.set y vv, some (.int (y : Nat)), (sty.trans w0 s6).mut w0 h0 gl6 (fun φ z => by rw [hl6] at z; cases z), ex5.trans (sy.ex.trans s6.ex), rfl, upd_same, gl6, ?_⟩
      have := (hxs.mono (sy.ex.trans s6.ex)).set y hv6
      rw [← List.map_set] at this
      have e2 : (t.getD y (0, 0)).2 = c2 t y := rfl
      rw [e2, tnl_set hyt, List.append_assoc] at this
      rw [List.take_add_one, hy]
      exact this
    · obtain ⟨xs, o5, st, ex5, rfl, hl5, gl5, hxs⟩ := hI
      rw [List.length_map, List.take_length, ← eT] at hxs
      exact ⟨G', sx.ex.trans ex5, xs, _, o5, st, rfl, hl5, gl5, hxs⟩
  · obtain ⟨xs, o4, o5, st, rfl, hl3, gl3, hxs⟩ := hI
    rw [List.length_map, List.take_length] at hxs
    exact ⟨.ref l, rfl, hQ _ _ _ (st.tell h0 gl3 hl3) (hP _ _ (.lst upd_same (hxs.mono (Ex.new gl3))))⟩
/-! ### _law_blocks -/
def sp__law_blocks : Sp := spF fun vs G P => ∃ v ns, vs = [v] ∧ Dt G v (lstN ns) ∧ PermF (fnN ns) ns.length ∧ ns.length ≤ 1000 ∧ ∀ v' G', Dt G' v' (lstT (blkN ns)) → P v' G'
theorem len__law_blocks (vs : List V) (H : Hp) (Q : VK) (E : XK) (h : sp__law_blocks vs H Q E) : vs.length = ["_law_nexts"].length := by
  obtain ⟨G, P, _, ⟨v, ns, rfl, _⟩, _⟩ := h
  rfl
theorem rd__law_blocks {K : PySem.W.Frag} {vs : List V} {H : Hp} {Q : VK} {E : XK} (h : sp__law_blocks vs H Q E) :
  (tSeq (tPar 1 2 (tCons (tLst tNil) (tCons tDNewK tNil))) (tSeq (tFor (iRng1 (tCons (tCB (rLenS K) (tCons (tVar 0) tNil)) tNil)) (gName 3) (tSeq (tPar 4 5 (tCons (tTup tNil) (tCons (tVar 3) tNil))) (tSeq (tWhile (tB (tDNotIn (tVar 5) (tVar 2))) (tSeq (sDPut (tVar 2) (tVar 5) (tC (V.bl true))) (tPar 4 5 (tCons (tOp (rCatA K) (tVar 4) (tTup (tCons (tVar 5) tNil))) (tCons (tOp (rIxL K) (tVar 0) (tVar 5)) tNil))))) (tAsg (tOp rCat (tVar 1) (tIf (tTest (tOp (rNeD K) (tVar 4) (tTup tNil))) (tLst (tCons (tVar 4) tNil)) (tLst tNil))) (gName 1))))) (tRet (tVar 1))))
    { nx := fun x H' => Q V.non H', rt := Q } (L2.start ["_law_nexts", "_law_found", "_law_met", "_law_start", "_law_block", "_law_here"] vs) H := by
  obtain ⟨G, P, w0, ⟨v, ns, rfl, hv, pp, hn, hP⟩, hQ⟩ := h
  refine q_parR (Cmp.go (d_lst a_nil (by decide)) w0 fun vf G1 H1 s1 hf => fun p hp => ?_)
  have w1 := s1.w w0
  have s2 := Stp.own (o := .dK []) w1 hp
  have p0 : H p = none := s1.fresh w0 hp
  have st := s1.trans w0 s2
  have w2 := s2.w w1
  refine q_for w2 (i_rngN (e_lenLM (e_var rfl (hv.mono st.ex))).D (by omega))
    (fun i G' σ' H' => ∃ kvs fo met vf o3 o4 o5, Stp m0 G H G' H' ∧ σ' = [some v, some vf, some (.ref p), o3, o4, o5] ∧ H' p = some (.dK kvs) ∧ G' p = none ∧ Dt G' vf (lstT fo) ∧ kvs.length = met.length ∧ met.Nodup ∧
      (∀ x ∈ met, x < ns.length) ∧ (∀ x, x < ns.length → fnN ns x ∈ met → x ∈ met) ∧ (∀ j : Nat, (valV kvs (natK j)).isSome = decide (j ∈ met)) ∧ fo.length ≤ i ∧ i ≤ ns.length ∧ fo ++ mets (cyc (fnN ns) ns.length) ((List.range ns.length).drop i) met = blkN ns)
    (fun i G' σ' H' ⟨_, _, _, _, _, _, _, st, _⟩ => st.w w0) (fun G3 H3 s3 => ?_) (fun i d x G' σ' H' hd eG hI Gx Hx sx hx => ?_) (fun G' σ' H' eG hI => ?_)
  · obtain ⟨h3, g3⟩ := s3.mine (fun z => z) (w1.low hp) (upd_same (H := H1) (o := .dK []))
    exact ⟨[], [], [], vf, none, none, none, st.trans w0 s3, rfl, h3, g3, hf.mono s3.ex, rfl, List.nodup_nil, by simp, by simp, fun j => by simp [valV], Nat.zero_le _, Nat.zero_le _, mets_all⟩
  · obtain ⟨kvs, fo, met, vf, o3, o4, o5, st, rfl, hd3, gd3, hf, hkl, hnd, hml, hmc, hkey, hfo, hi, hmath⟩ := hI
    rw [List.getElem?_map] at hd
    obtain ⟨y, hy, rfl⟩ := Option.map_eq_some_iff.mp hd
    obtain ⟨hy1, hy2⟩ := List.getElem?_eq_some_iff.mp hy
    rw [List.length_range] at hy1
    rw [List.getElem_range] at hy2
    subst hy2
    cases hx
    have w' := st.w w0
    have wx := sx.w w'
    have stx := st.trans w0 sx
    obtain ⟨hdx, gdx⟩ := sx.mine (fun z => z) gd3 hd3
    rw [range_drop hy1] at hmath
    have hfx := hf.mono sx.ex
    refine q_par wx (a_cons (d_tup a_nil (by decide)) (EvA.one (e_var rfl (.int (i : Nat))).D)) fun vb vh G4 H4 s4 hb4 hh4 => ?_
    cases hh4
    have st4 := stx.trans w0 s4
    obtain ⟨hd4, gd4⟩ := s4.mine (fun z => z) gdx hdx
    have hgo : ∀ j, i ∉ met → it (fnN ns) j i ∉ met := fun j hj => by
      induction j with
      | zero => exact hj
      | succ j ih => exact fun z => ih (hmc _ (it_lt pp hy1 j) z)
    refine ⟨fun n σ' H' => ∃ j G' kvs vb, n = ns.length - j ∧ Stp m0 G H G' H' ∧ Ex G4 G' ∧ σ' = [some v, some vf, some (.ref p), some (.int (i : Nat)), some vb, some (.int (it (fnN ns) j i : Nat))] ∧ H' p = some (.dK kvs) ∧ G' p = none ∧
        Dt G' vb (tupN (orb (fnN ns) i j)) ∧ kvs.length = met.length + j ∧ (i ∈ met → j = 0) ∧ j ≤ ns.length ∧ (∀ q : Nat, (valV kvs (natK q)).isSome = decide (q ∈ met ++ orb (fnN ns) i j)) ∧ ∀ q, 1 ≤ q → q < j → it (fnN ns) q i ≠ i,
      ⟨ns.length, 0, G4, kvs, vb, by omega, st4, Ex.refl _, rfl, hd4, gd4, hb4, by omega, fun _ => rfl, Nat.zero_le _, fun q => by rw [hkey q]; simp [orb], fun q a b => by omega⟩, fun n σ' H' hI => ?_⟩
    obtain ⟨j, G5, kvs5, vb5, rfl, st5, ex5, rfl, hd5, gd5, hb5, hkl5, hz5, hj5, hkey5, hop5⟩ := hI
    refine ⟨_, rfl, _, rfl, p, _, rfl, DGet.k (k := natK (it (fnN ns) j i)) hd5, _, rfl, ?_⟩
    rw [hkey5]
    have hjlen : (orb (fnN ns) i j).length = j := orb_len
    by_cases hin : it (fnN ns) j i ∈ met ++ orb (fnN ns) i j
    · rw [show (!decide (it (fnN ns) j i ∈ met ++ orb (fnN ns) i j)) = false by simp [hin]]
      dsimp only
      rw [if_neg (by simp)]
      have w5 := st5.w w0
      have hj0 : (i ∈ met ∧ j = 0) ∨ (i ∉ met ∧ j = per (fnN ns) ns.length i) := by
        by_cases him : i ∈ met
        · exact .inl ⟨him, hz5 him⟩
        · right
          refine ⟨him, ?_⟩
          rcases List.mem_append.mp hin with h | h
          · exact absurd h (hgo j him)
          · obtain ⟨q, hq, e⟩ := orb_mem.mp h
            have := it_cancel pp hy1 q (j - q) (by rw [show q + (j - q) = j by omega]; exact e)
            have hq0 : q = 0 := by
              apply Classical.byContradiction
              intro hne
              exact hop5 (j - q) (by omega) (by omega) this
            subst hq0
            exact per_eq pp hy1 (by omega) this hop5
      have hf5 := hfx.mono (s4.ex.trans ex5)
      have hTe : EvT m0 (tTest (tOp (rNeD K) (tVar 4) (tTup tNil))) [some v, some vf, some (.ref p), some (.int (i : Nat)), some vb5, some (.int (it (fnN ns) j i : Nat))] G5 (!decide (j = 0)) :=
        t_test ((d_neD (K := K) (e_var rfl hb5).D (d_tup a_nil (by decide)) (sh_tupN _).ok (sh_nilT 0).ok).is (by
          rw [eqv_nilT]
          congr 2
          refine decide_eq_decide.mpr ⟨fun h => ?_, fun h => by subst h; rfl⟩
          have : ((orb (fnN ns) i j).map natD).length = 0 := by rw [h]; rfl
          rw [List.length_map] at this
          omega))
      rcases hj0 with ⟨him, hj0⟩ | ⟨him, hjp⟩
      · subst hj0
        have hE := d_cat (m := m0) (ta := tVar 1) (tb := tIf (tTest (tOp (rNeD K) (tVar 4) (tTup tNil))) (tLst (tCons (tVar 4) tNil)) (tLst tNil)) (e_var rfl hf5).D (d_if (d := .list []) hTe (fun z => by simp at z) fun _ => d_lst a_nil (by decide)) (by simp; omega)
        rw [List.append_nil] at hE
        refine s_asg w5 hE fun vf6 G6 H6 s6 hf6 => ?_
        obtain ⟨hd6, gd6⟩ := s6.mine (fun z => z) gd5 hd5
        refine ⟨G6, sx.ex.trans (s4.ex.trans (ex5.trans s6.ex)), kvs5, fo, met, vf6, some (.int (i : Nat)), some vb5, _, st5.trans w0 s6, rfl, hd6, gd6, hf6, by omega, hnd, hml, hmc, fun q => by rw [hkey5 q]; simp [orb], by omega, by omega, ?_⟩
        rw [← hmath]
        show _ = fo ++ if i ∈ met then _ else _
        rw [if_pos him]
      · have hp1 := (per_ok pp hy1).1
        have hcyc : orb (fnN ns) i j = cyc (fnN ns) ns.length i := by rw [hjp]; rfl
        have hb5' : Dt G5 vb5 (tupN (cyc (fnN ns) ns.length i)) := by rw [← hcyc]; exact hb5
        have hE := d_cat (m := m0) (ta := tVar 1) (tb := tIf (tTest (tOp (rNeD K) (tVar 4) (tTup tNil))) (tLst (tCons (tVar 4) tNil)) (tLst tNil)) (e_var rfl hf5).D (d_if (d := .list [tupN (cyc (fnN ns) ns.length i)]) hTe (fun _ => d_lst (EvA.one (e_var rfl hb5').D) (by simp)) fun z => by simp at z; omega) (by simp; omega)
        refine s_asg w5 hE fun vf6 G6 H6 s6 hf6 => ?_
        obtain ⟨hd6, gd6⟩ := s6.mine (fun z => z) gd5 hd5
        refine ⟨G6, sx.ex.trans (s4.ex.trans (ex5.trans s6.ex)), kvs5, fo ++ [cyc (fnN ns) ns.length i], met ++ cyc (fnN ns) ns.length i, vf6, some (.int (i : Nat)), some vb5, _, st5.trans w0 s6, rfl, hd6, gd6, ?_, ?_, ?_, ?_, ?_, ?_, by simp; omega, by omega, ?_⟩
        · rw [lstT, List.map_append]
          exact hf6
        · rw [List.length_append, ← hcyc, hjlen]
          exact hkl5
        · rw [← hcyc]
          refine List.nodup_append.mpr ⟨hnd, orb_nodup pp hy1 hop5, fun a ha b hb e => ?_⟩
          subst e
          obtain ⟨q, _, rfl⟩ := orb_mem.mp hb
          exact hgo q him ha
        · intro x hx
          rcases List.mem_append.mp hx with h | h
          · exact hml x h
          · exact cyc_lt pp hy1 h
        · intro x hx h
          rcases List.mem_append.mp h with h | h
          · exact List.mem_append_left _ (hmc x hx h)
          · exact List.mem_append_right _ (cyc_back pp hy1 hx h)
        · intro q
          rw [← hcyc]
          exact hkey5 q
        · rw [List.append_assoc, ← hmath]
          show fo ++ (cyc (fnN ns) ns.length i :: _) = fo ++ if i ∈ met then _ else _
          rw [if_neg him]
          rfl
    · rw [show (!decide (it (fnN ns) j i ∈ met ++ orb (fnN ns) i j)) = true by simp [hin]]
      dsimp only
      rw [if_pos rfl]
      have him : i ∉ met := fun z => hin (List.mem_append_left _ (by rw [hz5 z]; exact z))
      have hop6 : ∀ q, 1 ≤ q → q < j + 1 → it (fnN ns) q i ≠ i := fun q a b => by
        by_cases hq : q = j
        · subst hq
          intro e
          refine hin (List.mem_append_right _ (orb_mem.mpr ⟨0, by omega, ?_⟩))
          rw [e]
          rfl
        · exact hop5 q a (by omega)
      have hj6 : j + 1 ≤ ns.length := open_le pp hy1 hop6
      have hmet : met.length ≤ ns.length := nodup_le _ _ hnd hml
      refine ⟨fun σ3 H3 => ∃ n', n' < ns.length - j ∧ _, fun σ3 H3 h => h, ?_⟩
      refine ⟨.ref p, rfl, _, rfl, p, _, rfl, DPut.k (k := natK (it (fnN ns) j i)) hd5 (szT (by omega)), ?_⟩
      have st6 := st5.mut w0 (p := p) (o := .dK (putK kvs5 (natK (it (fnN ns) j i)) (.bl true))) p0 gd5 (fun φ z => by rw [hd5] at z; cases z)
      have w6 := st6.w w0
      have hlt := it_lt pp hy1 j
      have eo : (orb (fnN ns) i j).map natD ++ [natD (it (fnN ns) j i)] = (orb (fnN ns) i (j + 1)).map natD := by
        rw [orb_succ, List.map_append]
        rfl
      have hA := d_catA (m := m0) (K := K) (σ := [some v, some vf, some (.ref p), some (.int (i : Nat)), some vb5, some (.int (it (fnN ns) j i : Nat))]) (ta := tVar 4) (tb := tTup (tCons (tVar 5) tNil)) (e_var rfl hb5).D (d_tup (EvA.one (e_var rfl (.int _)).D) (by simp)) (by simp [hjlen]; omega)
      rw [eo] at hA
      refine s_par w6 (a_cons hA (EvA.one (e_ixL (K := K) (e_var rfl (hv.mono st5.ex)) (e_var rfl (.int _)) (at_nat hlt)).D)) fun vb7 vh7 G7 H7 s7 hb7 hh7 => ?_
      cases hh7
      obtain ⟨hd7, gd7⟩ := s7.mine (fun z => z) gd5 (upd_same (o := .dK (putK kvs5 (natK (it (fnN ns) j i)) (.bl true))))
      have hnk : valV kvs5 (natK (it (fnN ns) j i)) = none := by
        have := hkey5 (it (fnN ns) j i)
        rw [decide_eq_false hin] at this
        simpa using this
      refine ⟨ns.length - (j + 1), by omega, j + 1, G7, _, vb7, rfl, st6.trans w0 s7, ex5.trans s7.ex, rfl, hd7, gd7, hb7, ?_, fun z => absurd z him, hj6, ?_, hop6⟩
      · rw [putK_len_new hnk]
        omega
      · intro q
        rw [valV_put, orb_succ, ← List.append_assoc]
        by_cases e : q = it (fnN ns) j i
        · subst e
          simp
        · rw [if_neg (fun z => e (by have := Sum.inl.inj z; omega)), hkey5 q]
          refine decide_eq_decide.mpr ⟨fun h => List.mem_append_left _ h, fun h => ?_⟩
          rcases List.mem_append.mp h with h | h
          · exact h
          · exact absurd (List.mem_singleton.mp h) e
  · obtain ⟨kvs, fo, met, vf, o3, o4, o5, st, rfl, hd3, gd3, hf, hkl, hnd, hml, hmc, hkey, hfo, hi, hmath⟩ := hI
    rw [List.length_map, List.length_range] at hmath
    have hdn : (List.range ns.length).drop ns.length = [] := List.drop_of_length_le (by rw [List.length_range]; omega)
    rw [hdn] at hmath
    have hfe : fo = blkN ns := by simpa [mets] using hmath
    subst hfe
    exact s_ret (st.w w0) (e_var rfl hf).D fun v' G4 H4 s4 hv' => hQ v' G4 H4 (st.trans w0 s4) (hP v' G4 hv')
/-! ### _law_many -/
def sp__law_many : Sp := spF fun vs G P => ∃ v u w t lot, vs = [v, u, w] ∧ Dt G v (tabD t) ∧ Dt G u (lstT (cls t)) ∧ Dt G w (tupN lot) ∧ Valid t ∧ (∀ a ∈ lot, a < (cls t).length) ∧
  ∀ v' G', Dt G' v' (natD (blkN (nxt t (cls t) lot)).length) → P v' G'
theorem len__law_many (vs : List V) (H : Hp) (Q : VK) (E : XK) (h : sp__law_many vs H Q E) : vs.length = ["_law_table_here", "_law_classes_here", "_law_lot"].length := by
  obtain ⟨G, P, _, ⟨v, u, w, t, lot, rfl, _⟩, _⟩ := h
  rfl
theorem rd__law_many {K : PySem.W.Frag} {vs : List V} {H : Hp} {Q : VK} {E : XK} (h : sp__law_many vs H Q E) :
  (tRet (tCB (rLenS K) (tCons (tCall sp__law_blocks [] C8.E0 (tCons (tCall sp__law_turn [] C8.E0 (tCons (tVar 0) (tCons (tVar 1) (tCons (tVar 2) tNil)))) tNil)) tNil)))
    { nx := fun x H' => Q V.non H', rt := Q } (L2.start ["_law_table_here", "_law_classes_here", "_law_lot"] vs) H := by
  obtain ⟨G, P, w0, ⟨v, u, w, t, lot, rfl, ht, hu, hw, hv, hlot, hP⟩, hQ⟩ := h
  have hle := hv.le
  refine s_ret w0 (d_lenLM (enc := tupN) (c_call (P := fun v' G' => Dt G' v' (lstT (blkN (nxt t (cls t) lot)))) (am_d (d := lstN (nxt t (cls t) lot)) (c_call (am_d (e_var rfl ht).D (am_d (e_var rfl hu).D (am_d (e_var rfl hw).D am_nil))) fun vs G1 e1 has G2 e2 => ?_) am_nil) fun vs G1 e1 has G2 e2 => ?_))
    fun v' G2 H2 s2 hv' => hQ v' G2 H2 s2 (hP v' G2 hv')
  · obtain ⟨x, y, z, rfl, h1, h2, h3⟩ := has.three
    refine ⟨x, y, z, t, cls t, lot, rfl, Dt.mono e2 h1, Dt.mono e2 h2, Dt.mono e2 h3, hlot, fun b hb x hx => ?_, hle, fun _ _ h => h⟩
    obtain ⟨s, hs, rfl⟩ := cls_mem hb
    exact cyc_lt (phi_perm hv) hs hx
  · obtain ⟨x, rfl, h1⟩ := has.one
    exact ⟨x, nxt t (cls t) lot, rfl, Dt.mono e2 h1, nxt_perm hv lot, by rw [nxt_len]; omega, fun _ _ h => h⟩
end R45
end
section
set_option Elab.async false
set_option linter.all false
set_option maxRecDepth 100000
set_option maxHeartbeats 2000000
namespace R45
open PySem PySem.Spec PyProof.Rows L2 Evl
theorem dts_zip {G : Hp} : ∀ {vs : List V} {ds : List PyData}, Dts G vs ds → (vs.zip ds).map (·.1) = vs ∧ (vs.zip ds).map (·.2) = ds ∧ ∀ b ∈ vs.zip ds, Dt G b.1 b.2
  | _, [], h => by cases h; exact ⟨rfl, rfl, fun b hb => by simp at hb⟩
  | _, _ :: _, h => by
    cases h with
    | cons h1 h2 =>
      obtain ⟨a, b, c⟩ := dts_zip h2
      refine ⟨by rw [List.zip_cons_cons, List.map_cons, a], by rw [List.zip_cons_cons, List.map_cons, b], fun x hx => ?_⟩
      rw [List.zip_cons_cons] at hx
      rcases List.mem_cons.mp hx with e | hx
      · subst e
        exact h1
      · exact c x hx
theorem dts_each {G : Hp} : ∀ {bs : List VP}, (∀ b ∈ bs, Dt G b.1 b.2) → Dts G (bs.map (·.1)) (bs.map (·.2))
  | [], _ => .nil
  | b :: bs, h => .cons (h b List.mem_cons_self) (dts_each fun c hc => h c (List.mem_cons_of_mem _ hc))
/-- sorted -/
theorem d_sort {α : Type} {m : Mode} {σ : L2.St} {G : Hp} {ta : TE} {K : PySem.W.Frag} {xs : List α} {enc : α → PyData} (h : EvD m ta σ G (.list (xs.map enc))) (hal : PySem.W.AllAlike (xs.map enc)) (hk : Sortable2 (xs.map enc)) (hd : ∀ x ∈ xs, (enc x).depth ≤ 50) :
    EvD m (tCB (rSortD K) (tCons ta tNil)) σ G (.list ((xs.mergeSort (PySem.W.dataLe false enc)).map enc)) :=
  Cmp.cb (EvA.one h) fun vs G1 e hvs => by
    obtain ⟨v, rfl, hv⟩ := hvs.one_inv
    obtain ⟨a, us, rfl, ga, hus⟩ := hv.lst_inv
    obtain ⟨z1, z2, z3⟩ := dts_zip hus
    intro G2 H e2 w Q k
    refine ⟨a, us.zip (xs.map enc), rfl, by rw [z1]; exact sq_of (w.ex _ _ (e2 _ _ ga)), fun b hb => (((z3 b hb).mono e2).mono w.ex).dp, by rw [z2]; exact hal, by rw [z2]; exact hk, fun b hb => ?_, ?_⟩
    · have : b.2 ∈ (us.zip (xs.map enc)).map (·.2) := List.mem_map.mpr ⟨b, hb, rfl⟩
      rw [z2] at this
      obtain ⟨x, hx, e⟩ := List.mem_map.mp this
      rw [← e]
      exact hd x hx
    · have hm : ((us.zip (xs.map enc)).mergeSort (PySem.W.dataLe false (·.2))).map (·.2) = (xs.mergeSort (PySem.W.dataLe false enc)).map enc := by
        rw [List.map_mergeSort (r := PySem.W.dataLe false (·.2)) (s := PySem.W.dataLe false id) (f := fun b : VP => b.2) (fun a _ b _ => rfl), z2,
          List.map_mergeSort (r := PySem.W.dataLe false enc) (s := PySem.W.dataLe false id) (f := enc) (fun a _ b _ => rfl)]
      have hD : Dts G2 (((us.zip (xs.map enc)).mergeSort (PySem.W.dataLe false (·.2))).map (·.1)) ((xs.mergeSort (PySem.W.dataLe false enc)).map enc) := by
        rw [← hm]
        exact dts_each fun b hb => (z3 b (List.mem_mergeSort.mp hb)).mono e2
      exact c_newL hD G2 H (Ex.refl _) w Q k
/-! ### all_lots -/
def subs : Nat → List (List Nat)
  | 0 => [[]]
  | n + 1 => subs n ++ (subs n).map fun l => l ++ [n]
abbrev lotLe : List Nat → List Nat → Bool := PySem.W.dataLe false tupN
def lots (n : Nat) : List (List Nat) := (subs n).mergeSort lotLe
theorem subs_len : ∀ n, (subs n).length = 2 ^ n
  | 0 => rfl
  | n + 1 => by
    rw [subs, List.length_append, List.length_map, subs_len n, Nat.pow_succ]
    omega
theorem subs_zero : ∀ n, (subs n)[0]? = some []
  | 0 => rfl
  | n + 1 => by
    rw [subs, List.getElem?_append_left (by rw [subs_len]; exact Nat.two_pow_pos n), subs_zero n]
theorem subs_mem : ∀ {n : Nat} {l : List Nat}, l ∈ subs n → (∀ a ∈ l, a < n) ∧ l.length ≤ n
  | 0, l, h => by
    cases List.mem_singleton.mp h
    exact ⟨by simp, Nat.le_refl _⟩
  | n + 1, l, h => by
    rcases List.mem_append.mp h with h | h
    · obtain ⟨h1, h2⟩ := subs_mem h
      exact ⟨fun a ha => Nat.lt_succ_of_lt (h1 a ha), Nat.le_succ_of_le h2⟩
    · obtain ⟨k, hk, rfl⟩ := List.mem_map.mp h
      obtain ⟨h1, h2⟩ := subs_mem hk
      refine ⟨fun a ha => ?_, by rw [List.length_append]; exact Nat.succ_le_succ h2⟩
      rcases List.mem_append.mp ha with ha | ha
      · exact Nat.lt_succ_of_lt (h1 a ha)
      · cases List.mem_singleton.mp ha
        exact Nat.lt_succ_self _
theorem lots_mem {n : Nat} {l : List Nat} (h : l ∈ lots n) : (∀ a ∈ l, a < n) ∧ l.length ≤ n := subs_mem (List.mem_mergeSort.mp h)
theorem lots_len (n : Nat) : (lots n).length = 2 ^ n := by rw [lots, (List.mergeSort_perm _ _).length_eq, subs_len]
theorem depthAll_nat : ∀ l : List Nat, PyData.depthAll (l.map natD) = 0
  | [] => by simp [PyData.depthAll]
  | a :: l => by rw [List.map_cons, PyData.depthAll, depthAll_nat l]; simp [PyData.depth]
theorem depth_tupN (l : List Nat) : (tupN l).depth ≤ 50 := Nat.le_trans (sh_tupN l).dep (by decide)
theorem alike_tupN (a b : List Nat) : PySem.W.alike (tupN a) (tupN b) = true := by
  unfold tupN
  rw [natD_ints, natD_ints]
  exact PySem.W.alike_ints _ _
theorem allAlike_tupN (xs : List (List Nat)) : PySem.W.AllAlike (xs.map tupN) := fun d hd d' hd' => by
  obtain ⟨a, _, rfl⟩ := List.mem_map.mp hd
  obtain ⟨b, _, rfl⟩ := List.mem_map.mp hd'
  exact alike_tupN a b
theorem sortable_nil {xs : List (List Nat)} (h : xs[0]? = some []) : Sortable2 (xs.map tupN) := .inr ⟨fun d hd => by
  obtain ⟨a, _, rfl⟩ := List.mem_map.mp hd
  exact ⟨_, rfl⟩, by rw [List.getElem?_map, h]; rfl⟩
def sp_all_lots : Sp := spF fun vs G P => ∃ n : Nat, vs = [.int n] ∧ n ≤ 12 ∧ ∀ v' G', Dt G' v' (lstT (lots n)) → P v' G'
theorem len_all_lots (vs : List V) (H : Hp) (Q : VK) (E : XK) (h : sp_all_lots vs H Q E) : vs.length = ["many"].length := by
  obtain ⟨G, P, _, ⟨n, rfl, _⟩, _⟩ := h
  rfl
theorem rd_all_lots {K : PySem.W.Frag} {vs : List V} {H : Hp} {Q : VK} {E : XK} (h : sp_all_lots vs H Q E) :
  (tSeq (tAsg (tLst (tCons (tTup tNil) tNil)) (gName 1)) (tSeq (tFor (iRng1 (tCons (tVar 0) tNil)) (gName 2) (tAsg (tOp rCat (tVar 1) (tLc (iList K (tVar 1)) (gName 3) tYes (tOp (rCatA K) (tVar 3) (tTup (tCons (tVar 2) tNil))) [3])) (gName 1))) (tRet (tCB (rSortD K) (tCons (tVar 1) tNil)))))
    { nx := fun x H' => Q V.non H', rt := Q } (L2.start ["many", "found", "at", "lot"] vs) H := by
  obtain ⟨G, P, w0, ⟨n, rfl, hn, hP⟩, hQ⟩ := h
  have p12 : ∀ i, i ≤ n → (subs i).length ≤ 4096 := fun i hi => by
    rw [subs_len]
    exact Nat.le_trans (Nat.pow_le_pow_right (by decide) (Nat.le_trans hi hn)) (by decide)
  refine q_asg w0 (d_lst (EvA.one (d_tup a_nil (by decide))) (by decide)) fun vf G1 H1 s1 hf => ?_
  have w1 := s1.w w0
  refine q_for w1 (i_rngN (n := n) (e_var rfl (.int _)).D (by omega))
    (fun i G' σ' H' => ∃ vf o2, Stp m0 G H G' H' ∧ σ' = [some (.int (n : Nat)), some vf, o2, none] ∧ Dt G' vf (lstT (subs i)) ∧ i ≤ n)
    (fun i G' σ' H' ⟨_, _, st, _⟩ => st.w w0) (fun G3 H3 s3 => ⟨vf, none, s1.trans w0 s3, rfl, hf.mono s3.ex, Nat.zero_le _⟩) (fun i d x G' σ' H' hd eG hI Gx Hx sx hx => ?_) (fun G' σ' H' eG hI => ?_)
  · obtain ⟨vf, o2, st, rfl, hf, hi⟩ := hI
    rw [List.getElem?_map] at hd
    obtain ⟨y, hy, rfl⟩ := Option.map_eq_some_iff.mp hd
    obtain ⟨hy1, hy2⟩ := List.getElem?_eq_some_iff.mp hy
    rw [List.length_range] at hy1
    rw [List.getElem_range] at hy2
    subst hy2
    cases hx
    have stx := st.trans w0 sx
    have hl := p12 i hi
    have hfl : ((subs i).filter fun _ => true) = subs i := List.filter_eq_self.mpr fun _ _ => rfl
    have hL := d_lc1 (m := m0) (G := Gx) (σ := [some (.int (n : Nat)), some vf, some (.int (i : Nat)), none]) (tt := tYes) (te := tOp (rCatA K) (tVar 3) (tTup (tCons (tVar 2) tNil))) (wi := iList K (tVar 1)) (j := 3) (xs := subs i) (enc := tupN) (fun _ => true) (fun l => tupN (l ++ [i]))
      (i_list (e_var rfl (hf.mono sx.ex)).D) (by omega) (fun x _ v G1 _ _ => t_yes) (fun x hx v G1 e hv _ => by
        have := d_catA (m := m0) (K := K) (G := G1) (σ := [some (.int (n : Nat)), some vf, some (.int (i : Nat)), some v]) (ta := tVar 3) (tb := tTup (tCons (tVar 2) tNil)) (e_var rfl hv).D (d_tup (EvA.one (e_var rfl (.int (i : Nat))).D) (by simp)) (by
          have := (subs_mem hx).2
          simp
          omega)
        rw [tupN, List.map_append]
        exact this)
    rw [hfl] at hL
    have hC := d_cat (m := m0) (ta := tVar 1) (e_var rfl (hf.mono sx.ex)).D hL (by simp; omega)
    have e2 : (subs i).map tupN ++ (subs i).map (fun l => tupN (l ++ [i])) = (subs (i + 1)).map tupN := by
      rw [subs, List.map_append, List.map_map]
      rfl
    rw [e2] at hC
    refine s_asg (stx.w w0) hC fun vf2 G4 H4 s4 hf4 => ⟨G4, sx.ex.trans s4.ex, vf2, _, stx.trans w0 s4, rfl, hf4, by omega⟩
  · obtain ⟨vf, o2, st, rfl, hf, hi⟩ := hI
    rw [List.length_map, List.length_range] at hf
    exact s_ret (st.w w0) (d_sort (enc := tupN) (e_var rfl hf).D (allAlike_tupN _) (sortable_nil (subs_zero n)) fun x _ => depth_tupN x) fun v' G4 H4 s4 hv' => hQ v' G4 H4 (st.trans w0 s4) (hP v' G4 hv')
/-! ### _law_lots -/
def sp__law_lots : Sp := sp_all_lots
theorem len__law_lots (vs : List V) (H : Hp) (Q : VK) (E : XK) (h : sp__law_lots vs H Q E) : vs.length = ["_law_many_here"].length := len_all_lots vs H Q E h
theorem rd__law_lots {K : PySem.W.Frag} {vs : List V} {H : Hp} {Q : VK} {E : XK} (h : sp__law_lots vs H Q E) :
  (tSeq (tAsg (tLst (tCons (tTup tNil) tNil)) (gName 1)) (tSeq (tFor (iRng1 (tCons (tVar 0) tNil)) (gName 2) (tAsg (tOp rCat (tVar 1) (tLc (iList K (tVar 1)) (gName 3) tYes (tOp (rCatA K) (tVar 3) (tTup (tCons (tVar 2) tNil))) [3])) (gName 1))) (tRet (tCB (rSortD K) (tCons (tVar 1) tNil)))))
    { nx := fun x H' => Q V.non H', rt := Q } (L2.start ["_law_many_here", "_law_found", "_law_at", "_law_lot"] vs) H := rd_all_lots h
/-! ### one_blocks_in -/
def onesB (t : Tab) : List (List Nat) := (lots (cls t).length).filter fun l => decide ((blkN (nxt t (cls t) l)).length = 1)
theorem lotOk_of {t : Tab} (hv : Valid t) (h12 : (cls t).length ≤ 12) {l : List Nat} (hl : l ∈ lots (cls t).length) : LotOk (cls t) l := by
  obtain ⟨h1, h2⟩ := lots_mem hl
  have hc : ∀ x ∈ cls t, x.length ≤ 720 := fun b hb => by
    obtain ⟨s, hs, rfl⟩ := cls_mem hb
    exact Nat.le_trans (cyc_len (phi_perm hv) hs).2 hv.le
  refine ⟨h1, ?_, by omega, hc⟩
  have : ∀ (l : List Nat), (turned (cls t) l).length ≤ l.length * 720 := fun l => by
    induction l with
    | nil => exact Nat.zero_le _
    | cons a r ih =>
      show (List.flatMap _ (a :: r)).length ≤ _
      rw [List.flatMap_cons, List.length_append, List.length_cons, Nat.add_mul]
      have ha : ((cls t).getD a []).length ≤ 720 := by
        by_cases z : a < (cls t).length
        · rw [List.getD_eq_getElem?_getD, List.getElem?_eq_getElem z]
          exact hc _ (List.getElem_mem z)
        · rw [List.getD_eq_getElem?_getD, List.getElem?_eq_none (by omega)]
          exact Nat.zero_le _
      have ih' : (List.flatMap (fun a => (cls t).getD a []) r).length ≤ r.length * 720 := ih
      omega
  have := this l
  have : l.length * 720 ≤ 12 * 720 := Nat.mul_le_mul_right _ (by omega)
  omega
def sp_one_blocks_in : Sp := spF fun vs G P => ∃ v u t, vs = [v, u] ∧ Dt G v (tabD t) ∧ Dt G u (lstT (cls t)) ∧ Valid t ∧ (cls t).length ≤ 12 ∧ ∀ v' G', Dt G' v' (lstT (onesB t)) → P v' G'
theorem four_le {n : Nat} (h : n ≤ 12) : 2 ^ n ≤ 4096 := Nat.le_trans (Nat.pow_le_pow_right (by decide) h) (by decide)
theorem len_one_blocks_in (vs : List V) (H : Hp) (Q : VK) (E : XK) (h : sp_one_blocks_in vs H Q E) : vs.length = ["table", "classes"].length := by
  obtain ⟨G, P, _, ⟨v, u, t, rfl, _⟩, _⟩ := h
  rfl
theorem rd_one_blocks_in {K : PySem.W.Frag} {vs : List V} {H : Hp} {Q : VK} {E : XK} (h : sp_one_blocks_in vs H Q E) :
  (tRet (tLc (iList K (tCall sp_all_lots [] C8.E0 (tCons (tCB (rLenS K) (tCons (tVar 1) tNil)) tNil))) (gName 2) (tTest (tOp rEq (tCB (rLenS K) (tCons (tCall sp_blocks_by [] C8.E0 (tCons (tVar 0) (tCons (tVar 1) (tCons (tVar 2) tNil)))) tNil)) (tC (V.int 1)))) (tVar 2) [2]))
    { nx := fun x H' => Q V.non H', rt := Q } (L2.start ["table", "classes", "lot"] vs) H := by
  obtain ⟨G, P, w0, ⟨v, u, t, rfl, ht, hu, hv, h12, hP⟩, hQ⟩ := h
  have hlen := four_le h12
  have hL := d_lc1 (m := m0) (G := G) (σ := [some v, some u, none]) (tt := tTest (tOp rEq (tCB (rLenS K) (tCons (tCall sp_blocks_by [] C8.E0 (tCons (tVar 0) (tCons (tVar 1) (tCons (tVar 2) tNil)))) tNil)) (tC (V.int 1)))) (te := tVar 2)
    (wi := iList K (tCall sp_all_lots [] C8.E0 (tCons (tCB (rLenS K) (tCons (tVar 1) tNil)) tNil))) (j := 2)
    (xs := lots (cls t).length) (enc := tupN) (fun l => decide ((blkN (nxt t (cls t) l)).length = 1)) tupN
    (i_list (c_call (P := fun v' G' => Dt G' v' (lstT (lots (cls t).length))) (am_d (e_lenLM (e_var rfl hu)).D am_nil) fun vs G1 e1 has G2 e2 => by
      obtain ⟨x, rfl, h1⟩ := has.one
      cases h1
      exact ⟨_, rfl, h12, fun _ _ h => h⟩)) (by rw [lots_len]; omega)
    (fun l hl x G1 e hx => t_test (d_eqN (i := (blkN (nxt t (cls t) l)).length) (j := 1) (d_lenLM (enc := tupN) (c_call (P := fun v' G' => Dt G' v' (lstT (blkN (nxt t (cls t) l)))) (am_d (e_var rfl (ht.mono e)).D (am_d (e_var rfl (hu.mono e)).D (am_d (e_var rfl hx).D am_nil))) fun vs G2 e1 has G3 e2 => by
      obtain ⟨x, y, z, rfl, h1, h2, h3⟩ := has.three
      exact ⟨x, y, z, t, l, rfl, Dt.mono e2 h1, Dt.mono e2 h2, Dt.mono e2 h3, hv, lotOk_of hv h12 hl, fun _ _ h => h⟩)) (e_int 1).D))
    (fun l hl x G1 e hx _ => (e_var rfl hx).D)
  exact s_ret w0 hL fun v' G2 H2 s2 hv' => hQ v' G2 H2 s2 (hP v' G2 hv')
end R45
end
section
set_option Elab.async false
set_option linter.all false
set_option autoImplicit false
/-! mathematics 3: rows, changes, leads. -/
namespace R45
/-- places that do not touch -/
structure ChOk (b : Nat) (c : List Nat) : Prop where
  gap : c.Pairwise fun p q => p + 1 < q
  lt : ∀ p ∈ c, p + 1 < b
structure LeadOk (b : Nat) (l : List (List Nat)) : Prop where
  ne : l ≠ []
  ch : ∀ c ∈ l, ChOk b c
  le : l.length ≤ 100
structure RowOk (b : Nat) (r : List Nat) : Prop where
  len : r.length = b
  lt : ∀ x ∈ r, x < b
def bhd (r c : List Nat) : List Nat := c.foldl (fun f p => (f.set p (r.getD (p + 1) 0)).set (p + 1) (r.getD p 0)) r
def ledN (r : List Nat) (l : List (List Nat)) : List Nat := l.foldl bhd r
def sw (c : List Nat) (i : Nat) : Nat := if i ∈ c then i + 1 else if 1 ≤ i ∧ i - 1 ∈ c then i - 1 else i
theorem gap_mem {c : List Nat} (h : c.Pairwise fun p q => p + 1 < q) {p q : Nat} (hp : p ∈ c) (hq : q ∈ c) : p = q ∨ p + 1 < q ∨ q + 1 < p := by
  induction c with
  | nil => simp at hp
  | cons a c ih =>
    rw [List.pairwise_cons] at h
    rcases List.mem_cons.mp hp with e1 | hp' <;> rcases List.mem_cons.mp hq with e2 | hq'
    · exact .inl (e1.trans e2.symm)
    · exact .inr (.inl (e1 ▸ h.1 q hq'))
    · exact .inr (.inr (e2 ▸ h.1 p hp'))
    · exact ih h.2 hp' hq'
theorem sw_sw {b : Nat} {c : List Nat} (h : ChOk b c) (i : Nat) : sw c (sw c i) = i := by
  unfold sw
  by_cases h1 : i ∈ c
  · rw [if_pos h1]
    have h2 : i + 1 ∉ c := fun z => by
      rcases gap_mem h.gap h1 z with e | e | e <;> omega
    rw [if_neg h2, if_pos ⟨by omega, by simpa using h1⟩]
    omega
  · rw [if_neg h1]
    by_cases h2 : 1 ≤ i ∧ i - 1 ∈ c
    · rw [if_pos h2, if_pos h2.2]
      omega
    · rw [if_neg h2, if_neg h1, if_neg h2]
theorem sw_lt {b : Nat} {c : List Nat} (h : ChOk b c) {i : Nat} (hi : i < b) : sw c i < b := by
  unfold sw
  split
  · rename_i h1
    exact h.lt i h1
  · split <;> omega
theorem bhd_go {b : Nat} {r : List Nat} (hr : r.length = b) : ∀ {c d : List Nat}, ChOk b (d ++ c) → ∀ {f : List Nat}, (f = (List.range b).map fun i => r.getD (sw d i) 0) →
    c.foldl (fun f p => (f.set p (r.getD (p + 1) 0)).set (p + 1) (r.getD p 0)) f = (List.range b).map fun i => r.getD (sw (d ++ c) i) 0
  | [], d, _, f, hf => by rw [List.append_nil]; exact hf
  | p :: c, d, h, f, hf => by
    rw [List.foldl_cons]
    have e : d ++ p :: c = (d ++ [p]) ++ c := by simp
    rw [e] at h ⊢
    refine bhd_go hr h ?_
    have hg := h.gap
    have hp : p + 1 < b := h.lt p (by simp)
    have hd : ∀ q ∈ d, q + 1 < p := fun q hq => by
      rw [List.pairwise_append] at hg
      have := hg.1
      rw [List.pairwise_append] at this
      exact this.2.2 q hq p (by simp)
    subst hf
    refine List.ext_getElem (by simp) fun i h1 h2 => ?_
    rw [List.getElem_set, List.getElem_set]
    have hpd : p ∉ d := fun z => by
      have := hd p z
      omega
    have hpd1 : p + 1 ∉ d := fun z => by
      have := hd _ z
      omega
    simp only [List.getElem_map, List.getElem_range]
    have hi : i < b := by simpa using h2
    by_cases e1 : p + 1 = i
    · subst e1
      rw [if_pos rfl]
      have : sw (d ++ [p]) (p + 1) = p := by
        unfold sw
        rw [if_neg (by simp [hpd1]), if_pos ⟨by omega, by simp⟩]
        omega
      rw [this]
    · rw [if_neg e1]
      by_cases e2 : p = i
      · subst e2
        rw [if_pos rfl]
        have : sw (d ++ [p]) p = p + 1 := by
          unfold sw
          rw [if_pos (by simp)]
        rw [this]
      · rw [if_neg e2]
        have : sw (d ++ [p]) i = sw d i := by
          unfold sw
          have a1 : i ∈ d ++ [p] ↔ i ∈ d := ⟨fun z => (List.mem_append.mp z).elim id fun z => absurd (List.mem_singleton.mp z).symm e2, List.mem_append_left _⟩
          have a2 : (1 ≤ i ∧ i - 1 ∈ d ++ [p]) ↔ (1 ≤ i ∧ i - 1 ∈ d) := by
            refine and_congr_right fun hi1 => ?_
            simp only [List.mem_append, List.mem_singleton]
            exact ⟨fun z => z.elim id fun z => absurd (by omega) e1, .inl⟩
          simp only [a1, a2]
        rw [this]
theorem getD_self {r : List Nat} {b : Nat} (hr : r.length = b) : r = (List.range b).map fun i => r.getD i 0 := by
  refine List.ext_getElem (by simp [hr]) fun i h1 h2 => ?_
  simp [List.getD_eq_getElem?_getD, List.getElem?_eq_getElem h1]
theorem bhd_eq {b : Nat} {r c : List Nat} (hr : r.length = b) (h : ChOk b c) : bhd r c = (List.range b).map fun i => r.getD (sw c i) 0 := by
  have := bhd_go (b := b) (r := r) hr (c := c) (d := []) (by simpa using h) (f := r) (by
    have e : ∀ i, sw [] i = i := fun i => by simp [sw]
    simp only [e]
    exact getD_self hr)
  rw [List.nil_append] at this
  exact this
theorem getD_map_range {b i : Nat} {g : Nat → Nat} (h : i < b) : ((List.range b).map g).getD i 0 = g i := by
  rw [List.getD_eq_getElem?_getD, List.getElem?_map, List.getElem?_range h]
  rfl
theorem bhd_bhd {b : Nat} {r c : List Nat} (hr : r.length = b) (h : ChOk b c) : bhd (bhd r c) c = r := by
  have hl : (bhd r c).length = b := by rw [bhd_eq hr h]; simp
  rw [bhd_eq hl h, bhd_eq hr h]
  conv => rhs; rw [getD_self hr]
  refine List.map_congr_left fun i hi => ?_
  have hi' := List.mem_range.mp hi
  rw [getD_map_range (sw_lt h hi'), sw_sw h]
theorem bhd_ok {b : Nat} {r c : List Nat} (hr : RowOk b r) (h : ChOk b c) : RowOk b (bhd r c) := by
  rw [bhd_eq hr.len h]
  refine ⟨by simp, fun x hx => ?_⟩
  obtain ⟨i, hi, rfl⟩ := List.mem_map.mp hx
  have := sw_lt h (List.mem_range.mp hi)
  rw [List.getD_eq_getElem?_getD, List.getElem?_eq_getElem (by rw [hr.len]; exact this)]
  exact hr.lt _ (List.getElem_mem _)
theorem bhd_inj {b : Nat} {r s c : List Nat} (hr : r.length = b) (hs : s.length = b) (h : ChOk b c) (e : bhd r c = bhd s c) : r = s := by
  rw [← bhd_bhd hr h, e, bhd_bhd hs h]
theorem led_ok {b : Nat} : ∀ {l : List (List Nat)} {r : List Nat}, RowOk b r → (∀ c ∈ l, ChOk b c) → RowOk b (ledN r l)
  | [], _, hr, _ => hr
  | c :: l, r, hr, h => led_ok (l := l) (bhd_ok hr (h c List.mem_cons_self)) fun d hd => h d (List.mem_cons_of_mem _ hd)
theorem led_inj {b : Nat} : ∀ {l : List (List Nat)} {r s : List Nat}, RowOk b r → RowOk b s → (∀ c ∈ l, ChOk b c) → ledN r l = ledN s l → r = s
  | [], _, _, _, _, _, e => e
  | c :: l, r, s, hr, hs, h, e => by
    have hc := h c List.mem_cons_self
    exact bhd_inj hr.len hs.len hc (led_inj (l := l) (bhd_ok hr hc) (bhd_ok hs hc) (fun d hd => h d (List.mem_cons_of_mem _ hd)) e)
/-! rows as numbers -/
def num (b : Nat) : List Nat → Nat
  | [] => 0
  | x :: r => x + b * num b r
theorem num_lt {b : Nat} : ∀ {r : List Nat}, (∀ x ∈ r, x < b) → num b r < b ^ r.length
  | [], _ => by simp [num]
  | x :: r, h => by
    have h1 := num_lt (b := b) (r := r) fun y hy => h y (List.mem_cons_of_mem _ hy)
    have h2 := h x List.mem_cons_self
    rw [num, List.length_cons, Nat.pow_succ, Nat.mul_comm (b ^ r.length) b]
    have := Nat.mul_le_mul_left b (show num b r + 1 ≤ b ^ r.length from h1)
    rw [Nat.mul_add] at this
    omega
theorem num_inj {b : Nat} : ∀ {r s : List Nat}, r.length = s.length → (∀ x ∈ r, x < b) → (∀ x ∈ s, x < b) → num b r = num b s → r = s
  | [], [], _, _, _, _ => rfl
  | [], _ :: _, e, _, _, _ => by simp at e
  | _ :: _, [], e, _, _, _ => by simp at e
  | x :: r, y :: s, e, h1, h2, en => by
    have a1 := h1 x List.mem_cons_self
    have a2 := h2 y List.mem_cons_self
    rw [num, num] at en
    have e1 : x = y := by
      have := congrArg (· % b) en
      simp only [Nat.add_mul_mod_self_left, Nat.mod_eq_of_lt a1, Nat.mod_eq_of_lt a2] at this
      exact this
    subst e1
    have e2 : num b r = num b s := by
      have : b * num b r = b * num b s := by omega
      exact Nat.eq_of_mul_eq_mul_left (by omega) this
    rw [num_inj (by simpa using e) (fun z hz => h1 z (List.mem_cons_of_mem _ hz)) (fun z hz => h2 z (List.mem_cons_of_mem _ hz)) e2]
/-- how many rows there may be -/
theorem rows_le {b : Nat} (hb : b ≤ 6) {ks : List (List Nat)} (nd : ks.Nodup) (h : ∀ r ∈ ks, RowOk b r) : ks.length ≤ 46656 := by
  have h1 := nodup_le (b ^ b) (ks.map (num b)) (by
    refine List.pairwise_map.mpr (List.Pairwise.imp_of_mem (fun {r s} hr hs hne e => hne ?_) nd)
    exact num_inj ((h r hr).len.trans (h s hs).len.symm) (h r hr).lt (h s hs).lt e) fun x hx => by
      obtain ⟨r, hr, rfl⟩ := List.mem_map.mp hx
      have := num_lt (h r hr).lt
      rw [(h r hr).len] at this
      exact this
  rw [List.length_map] at h1
  refine Nat.le_trans h1 ?_
  have : b ^ b ≤ 6 ^ 6 := Nat.le_trans (Nat.pow_le_pow_left hb b) (Nat.pow_le_pow_right (by decide) hb)
  simpa using this
/-! changes -/
def lastN (c : List Nat) : Nat := c.getLast?.getD 0
def chg : Nat → List (List Nat)
  | 0 => [[]]
  | k + 1 => chg k ++ ((chg k).filter fun c => decide (c = []) || decide ((lastN c : Int) < (k : Int) - 1)).map fun c => c ++ [k]
theorem chg_len : ∀ k, (chg k).length ≤ 2 ^ k
  | 0 => Nat.le_refl _
  | k + 1 => by
    rw [chg, List.length_append, List.length_map, Nat.pow_succ]
    have := chg_len k
    have := List.length_filter_le (fun c => decide (c = []) || decide ((lastN c : Int) < (k : Int) - 1)) (chg k)
    omega
theorem chg_zero : ∀ k, (chg k)[0]? = some []
  | 0 => rfl
  | k + 1 => by
    have h := chg_zero k
    rw [chg, List.getElem?_append_left ?_, h]
    cases q : chg k with
    | nil => rw [q] at h; simp at h
    | cons _ _ => simp
theorem chg_mem : ∀ {k : Nat} {c : List Nat}, c ∈ chg k → ChOk (k + 1) c ∧ c.length ≤ k
  | 0, c, h => by
    cases List.mem_singleton.mp h
    exact ⟨⟨.nil, by simp⟩, Nat.le_refl _⟩
  | k + 1, c, h => by
    rcases List.mem_append.mp h with h | h
    · obtain ⟨h1, h2⟩ := chg_mem h
      exact ⟨⟨h1.gap, fun p hp => Nat.lt_succ_of_lt (h1.lt p hp)⟩, Nat.le_succ_of_le h2⟩
    · obtain ⟨d, hd, rfl⟩ := List.mem_map.mp h
      obtain ⟨hd1, hd2⟩ := List.mem_filter.mp hd
      obtain ⟨h1, h2⟩ := chg_mem hd1
      refine ⟨⟨?_, fun p hp => ?_⟩, by rw [List.length_append]; exact Nat.succ_le_succ h2⟩
      · refine List.pairwise_append.mpr ⟨h1.gap, List.pairwise_singleton _ _, fun p hp q hq => ?_⟩
        cases List.mem_singleton.mp hq
        have hne : d ≠ [] := fun z => by subst z; simp at hp
        obtain ⟨e, x, rfl⟩ : ∃ e x, d = e ++ [x] := ⟨d.dropLast, d.getLast hne, (List.dropLast_concat_getLast hne).symm⟩
        have hl : lastN (e ++ [x]) = x := by simp [lastN]
        rw [hl] at hd2
        have hx : x + 1 < k := by simp at hd2; omega
        rcases List.mem_append.mp hp with hp | hp
        · have := (List.pairwise_append.mp h1.gap).2.2 p hp x (by simp)
          omega
        · cases List.mem_singleton.mp hp
          exact hx
      · rcases List.mem_append.mp hp with hp | hp
        · exact Nat.lt_succ_of_lt (h1.lt p hp)
        · cases List.mem_singleton.mp hp
          omega
end R45
end
section
set_option Elab.async false
set_option linter.all false
set_option maxRecDepth 100000
set_option maxHeartbeats 2000000
namespace R45
open PySem PySem.Spec PyProof.Rows L2 Evl
abbrev leadD (l : List (List Nat)) : PyData := .tuple (l.map tupN)
theorem cut1 (xs : List V) : cutV xs (some 1) none = xs.drop 1 := by
  unfold cutV
  have e : HT.sIx xs.length 0 (some 1) = min 1 xs.length := HT.sIx_nat _ _ 1
  rw [e, HT.sIx_none]
  cases xs with
  | nil => rfl
  | cons x r => simp
section
variable {m : Mode} {σ : L2.St} {G G' H : Hp} {te ta tb tc tl : TE} {tt tu : TT} {d d' : PyData} {v : V} {K : PySem.W.Frag} {ds es : List PyData} {D : Ends} {ts tz : TS} {P : V → Hp → Prop}
theorem s_asgG {g : TG} (w : W m G H) (h : Cmp m G (te σ) P) (k : ∀ v G' H', Stp m G H G' H' → P v G' → g v σ H' D.nx) : tAsg te g D σ H := h.go w k
theorem q_asgG {g : TG} (w : W m G H) (h : Cmp m G (te σ) P) (k : ∀ v G' H', Stp m G H G' H' → P v G' → g v σ H' fun σ2 H2 => tz D σ2 H2) : tSeq (tAsg te g) tz D σ H := h.go w k
/-- xs[1:] -/
theorem d_sl1 (ha : EvD m ta σ G (.list ds)) : EvD m (tSl (rSlL K) ta (tPart (tC (.int 1))) tNoPart) σ G (.list (ds.drop 1)) :=
  Cmp.bind (f := ta σ) (g := fun (x : V) (H1 : Hp) (Q : VK) => ∃ i, V.int 1 = .int i ∧ rSlL K x (some i) none H1 Q) ha fun v G1 e hv => by
    obtain ⟨a, xs, rfl, ga, hxs⟩ := hv.lst_inv
    intro G2 H e2 w Q k
    refine ⟨1, rfl, a, xs, rfl, sq_of (w.ex _ _ (e2 _ _ ga)), ?_⟩
    rw [cut1]
    exact c_newL (hxs.drop 1) G2 H e2 w Q k
theorem o_sl1 {l : Addr} {xs : List V} {i : Nat} (fx : Fix m l (.lst xs)) (hi : σ[i]? = some (some (.ref l))) (hx : Dts G xs ds) : EvD m (tSl (rSlL K) (tVar i) (tPart (tC (.int 1))) tNoPart) σ G (.list (ds.drop 1)) := fun G1 H e w Q k => by
  refine ⟨.ref l, hi, 1, rfl, l, xs, rfl, sq_of (fx.at_ w.inv), ?_⟩
  rw [cut1]
  exact c_newL ((hx.mono e).drop 1) G1 H (Ex.refl _) w Q k
end
/-! ### _law_rounds -/
def sp__law_rounds : Sp := spF fun vs G P => ∃ n : Nat, vs = [.int n] ∧ n ≤ 6 ∧ ∀ v' G', Dt G' v' (tupN (List.range n)) → P v' G'
theorem len__law_rounds (vs : List V) (H : Hp) (Q : VK) (E : XK) (h : sp__law_rounds vs H Q E) : vs.length = ["_law_bells"].length := by
  obtain ⟨G, P, _, ⟨n, rfl, _⟩, _⟩ := h
  rfl
theorem rd__law_rounds {K : PySem.W.Frag} {vs : List V} {H : Hp} {Q : VK} {E : XK} (h : sp__law_rounds vs H Q E) :
  (tRet (tTupRg (tRg1 (tVar 0))))
    { nx := fun x H' => Q V.non H', rt := Q } (L2.start ["_law_bells"] vs) H := by
  obtain ⟨G, P, w0, ⟨n, rfl, hn, hP⟩, hQ⟩ := h
  exact s_ret w0 (d_tupRg (n := n) (e_var rfl (.int _)).D (by omega)) fun v' G4 H4 s4 hv' => hQ v' G4 H4 s4 (hP v' G4 hv')
/-! ### _law_behind -/
theorem bhd_take {r : List Nat} {c : List Nat} {i p : Nat} (h : c[i]? = some p) : (c.take (i + 1)).foldl (fun f p => (f.set p (r.getD (p + 1) 0)).set (p + 1) (r.getD p 0)) r =
    ((((c.take i).foldl (fun f p => (f.set p (r.getD (p + 1) 0)).set (p + 1) (r.getD p 0)) r).set p (r.getD (p + 1) 0)).set (p + 1) (r.getD p 0)) := by
  rw [List.take_add_one, h, List.foldl_append]
  rfl
theorem bhd_tlen {r : List Nat} : ∀ (c : List Nat) (f : List Nat), (c.foldl (fun f p => (f.set p (r.getD (p + 1) 0)).set (p + 1) (r.getD p 0)) f).length = f.length
  | [], f => rfl
  | p :: c, f => by rw [List.foldl_cons, bhd_tlen c, List.length_set, List.length_set]
def sp__law_behind : Sp := spF fun vs G P => ∃ v u b r c, vs = [v, u] ∧ Dt G v (tupN r) ∧ Dt G u (tupN c) ∧ RowOk b r ∧ ChOk b c ∧ ∀ v' G', Dt G' v' (tupN (bhd r c)) → P v' G'
theorem len__law_behind (vs : List V) (H : Hp) (Q : VK) (E : XK) (h : sp__law_behind vs H Q E) : vs.length = ["_law_row", "_law_change_here"].length := by
  obtain ⟨G, P, _, ⟨v, u, b, r, c, rfl, _⟩, _⟩ := h
  rfl
theorem rd__law_behind {K : PySem.W.Frag} {vs : List V} {H : Hp} {Q : VK} {E : XK} (h : sp__law_behind vs H Q E) :
  (tSeq (tAsg (tCB (rListS K) (tCons (tVar 0) tNil)) (gName 2)) (tSeq (tFor (iTup K (tVar 1)) (gName 3) (tAsg (tTup (tCons (tOp (rIxT K) (tVar 0) (tOp (rI0 fun i j => V.int (i + j)) (tVar 3) (tC (V.int 1)))) (tCons (tOp (rIxT K) (tVar 0) (tVar 3)) tNil))) (gTup K 2 (gCons (gSub (tVar 2) (tVar 3) rSetL) (gCons (gSub (tVar 2) (tOp (rI0 fun i j => V.int (i + j)) (tVar 3) (tC (V.int 1))) rSetL) gNil))))) (tRet (tThen (tVar 2) (kTup K)))))
    { nx := fun x H' => Q V.non H', rt := Q } (L2.start ["_law_row", "_law_change_here", "_law_found", "_law_place"] vs) H := by
  obtain ⟨G, P, w0, ⟨v, u, b, r, c, rfl, hr, hc, hro, hco, hP⟩, hQ⟩ := h
  refine q_asgN (nw_listT (K := K) (e_var rfl hr).D) w0 (nlist_map nlist_nat _) fun l xs G1 H1 s1 hl gl h0 hx => ?_
  have w1 := s1.w w0
  refine q_for w1 (i_tup (e_var rfl (hc.mono s1.ex)).D)
    (fun a G' σ' H' => ∃ xs o3, Stp m0 G H G' H' ∧ σ' = [some v, some u, some (.ref l), o3] ∧ H' l = some (.lst xs) ∧ G' l = none ∧ Dts G' xs (((c.take a).foldl (fun f p => (f.set p (r.getD (p + 1) 0)).set (p + 1) (r.getD p 0)) r).map natD))
    (fun i G' σ' H' ⟨_, _, st, _⟩ => st.w w0) (fun G3 H3 s3 => ?_) (fun a d x G' σ' H' hd eG hI Gx Hx sx hx => ?_) (fun G' σ' H' eG hI => ?_)
  · obtain ⟨h3, g3⟩ := s3.mine (fun z => z) gl hl
    exact ⟨xs, none, s1.trans w0 s3, rfl, h3, g3, hx.mono s3.ex⟩
  · obtain ⟨xs, o3, st, rfl, hl3, gl3, hxs⟩ := hI
    rw [List.getElem?_map] at hd
    obtain ⟨p, hp, rfl⟩ := Option.map_eq_some_iff.mp hd
    cases hx
    have hpb := hco.lt p (List.mem_of_getElem? hp)
    have w' := st.w w0
    have wx := sx.w w'
    have stx := st.trans w0 sx
    obtain ⟨hlx, glx⟩ := sx.mine (fun z => z) gl3 hl3
    have hrx := hr.mono stx.ex
    have hrl := hro.len
    have ep1 : (((p : Nat) : Int) + 1) = ((p + 1 : Nat) : Int) := by omega
    have hp1 : EvE (tOp (rI0 fun i j => V.int (i + j)) (tVar 3) (tC (.int 1))) [some v, some u, some (.ref l), some (.int (p : Nat))] Gx (natD (p + 1)) := (e_add (e_var rfl (.int (p : Nat))) (e_int 1)).is (by rw [ep1])
    refine s_asgG wx (d_tup (a_cons (e_ixT (K := K) (ta := tVar 0) (e_var rfl hrx) hp1 (at_nat (l := r) (k := p + 1) (by omega))).D (EvA.one (e_ixT (K := K) (ta := tVar 0) (tb := tVar 3) (e_var rfl hrx) (e_var rfl (.int (p : Nat))) (at_nat (l := r) (k := p) (by omega))).D)) (by simp)) fun vv G6 H6 s6 hv6 => ?_
    obtain ⟨hl6, gl6⟩ := s6.mine (fun z => z) glx hlx
    obtain ⟨ta, us, rfl, gta, hus⟩ := hv6.tup_inv
    obtain ⟨v1, v2, rfl, hv1, hv2⟩ := hus.two_inv
    have xl : xs.length = r.length := by rw [hxs.length, List.length_map, bhd_tlen]
    have st6 := stx.trans w0 s6
    refine ⟨ta, _, rfl, st_of (s6.le _ _ gta), rfl, v1, [v2], rfl, .ref l, rfl, .int (p : Nat), rfl, l, xs, (p : Nat), p, rfl, rfl, hl6, ixN_nat (by omega), v2, [], rfl, .ref l, rfl, .int (p : Nat), rfl, (p : Nat), 1, rfl, rfl, ?_⟩
    refine ⟨l, xs.set p v1, ((p : Nat) : Int) + 1, p + 1, rfl, rfl, upd_same, by rw [ep1, List.length_set]; exact ixN_nat (by omega), rfl, ?_⟩
    refine ⟨G6, sx.ex.trans s6.ex, (xs.set p v1).set (p + 1) v2, some (.int (p : Nat)), ?_, rfl, upd_same, gl6, ?_⟩
    · exact (st6.mut w0 (o := .lst (xs.set p v1)) h0 gl6 (fun φ z => by rw [hl6] at z; cases z)).mut w0 h0 gl6 (fun φ z => by rw [upd_same] at z; cases z)
    · have := ((hxs.mono (sx.ex.trans s6.ex)).set p hv1).set (p + 1) hv2
      rw [← List.map_set, ← List.map_set] at this
      rw [bhd_take hp]
      exact this
  · obtain ⟨xs, o3, st, rfl, hl3, gl3, hxs⟩ := hI
    rw [List.length_map, List.take_length] at hxs
    refine s_retO (m := m0) (l := l) (o := .lst xs) (hn := fun _ z => nomatch z) (P := fun v' G' => Dt G' v' (tupN (bhd r c))) (o_tup (K := K) fixO rfl hxs) (st.w w0) hl3 gl3 fun v' G4 H4 s4 _ _ hv' => hQ v' G4 H4 (st.trans w0 s4) (hP v' G4 hv')
/-! ### _law_rung -/
def rgN (r : List Nat) (l : List (List Nat)) (n : Nat) : List (List Nat) := (List.range n).map fun j => ledN r (l.take j)
theorem rgN_succ {r : List Nat} {l : List (List Nat)} {n : Nat} : rgN r l (n + 1) = rgN r l n ++ [ledN r (l.take n)] := by
  unfold rgN
  rw [List.range_succ, List.map_append]
  rfl
def sp__law_rung : Sp := spF fun vs G P => ∃ v u b r l, vs = [v, u] ∧ Dt G v (tupN r) ∧ Dt G u (leadD l) ∧ RowOk b r ∧ LeadOk b l ∧ ∀ v' G', Dt G' v' (lstT ((rgN r l (l.length + 1)).drop 1)) → P v' G'
theorem len__law_rung (vs : List V) (H : Hp) (Q : VK) (E : XK) (h : sp__law_rung vs H Q E) : vs.length = ["_law_row", "_law_lead_here"].length := by
  obtain ⟨G, P, _, ⟨v, u, b, r, l, rfl, _⟩, _⟩ := h
  rfl
theorem rd__law_rung {K : PySem.W.Frag} {vs : List V} {H : Hp} {Q : VK} {E : XK} (h : sp__law_rung vs H Q E) :
  (tSeq (tAsg (tLst (tCons (tVar 0) tNil)) (gName 2)) (tSeq (tFor (iTup K (tVar 1)) (gName 3) (tDrop (tBM K "list" rAppend (tVar 2) (tCons (tCall sp__law_behind [] C8.E0 (tCons (tOp (rIxL K) (tVar 2) (tUn (rU fun i => V.int (-i)) (tC (V.int 1)))) (tCons (tVar 3) tNil))) tNil)))) (tRet (tSl (rSlL K) (tVar 2) (tPart (tC (V.int 1))) tNoPart))))
    { nx := fun x H' => Q V.non H', rt := Q } (L2.start ["_law_row", "_law_lead_here", "_law_found", "_law_change_here"] vs) H := by
  obtain ⟨G, P, w0, ⟨v, u, b, r, l, rfl, hr, hu, hro, hlo, hP⟩, hQ⟩ := h
  have hle := hlo.le
  refine q_asgN (nw_lst (ds := (rgN r l 1).map tupN) (EvA.one (e_var rfl hr).D) (by simp [rgN])) w0 (nlist_map nlist_tupN _) fun q xs G1 H1 s1 hl gl h0 hx => ?_
  have w1 := s1.w w0
  refine q_for w1 (i_tup (e_var rfl (hu.mono s1.ex)).D)
    (fun a G' σ' H' => ∃ xs o3, Stp m0 G H G' H' ∧ σ' = [some v, some u, some (.ref q), o3] ∧ H' q = some (.lst xs) ∧ G' q = none ∧ Dts G' xs ((rgN r l (a + 1)).map tupN) ∧ a ≤ l.length)
    (fun i G' σ' H' ⟨_, _, st, _⟩ => st.w w0) (fun G3 H3 s3 => ?_) (fun a d x G' σ' H' hd eG hI Gx Hx sx hx => ?_) (fun G' σ' H' eG hI => ?_)
  · obtain ⟨h3, g3⟩ := s3.mine (fun z => z) gl hl
    exact ⟨xs, none, s1.trans w0 s3, rfl, h3, g3, hx.mono s3.ex, Nat.zero_le _⟩
  · obtain ⟨xs, o3, st, rfl, hl3, gl3, hxs, ha⟩ := hI
    rw [List.getElem?_map] at hd
    obtain ⟨c, hc, rfl⟩ := Option.map_eq_some_iff.mp hd
    have hal := (List.getElem?_eq_some_iff.mp hc).1
    have w' := st.w w0
    have wx := sx.w w'
    have stx := st.trans w0 sx
    obtain ⟨hlx, glx⟩ := sx.mine (fun z => z) gl3 hl3
    have hxx := hxs.mono sx.ex
    have xl : xs.length = a + 1 := by rw [hxs.length]; simp [rgN]
    have hlast : atI ((rgN r l (a + 1)).map tupN) (-1) = some (tupN (ledN r (l.take a))) := by
      rw [rgN_succ]
      exact at_lastM _ _
    have hco := hlo.ch c (List.mem_of_getElem? hc)
    have hrow : RowOk b (ledN r (l.take a)) := led_ok hro fun d hd => hlo.ch d (List.mem_of_mem_take hd)
    refine s_appO (m := m0) (l := q) (fun z => z) rfl (P := fun v' G' => Dt G' v' (tupN (bhd (ledN r (l.take a)) c))) (c_call (am_d (o_ixL (K := K) fixO rfl hxx e_neg1.D hlast) (am_d (e_var rfl hx).D am_nil)) fun vs G1 e1 has G2 e2 => ?_) wx hlx glx (by omega) fun vc G4 H4 s4 hl4 gl4 hv4 => ?_
    · obtain ⟨y, z, rfl, h1, h2⟩ := has.two
      exact ⟨y, z, b, _, c, rfl, Dt.mono e2 h1, Dt.mono e2 h2, hrow, hco, fun _ _ h => h⟩
    · refine ⟨G4, sx.ex.trans s4.ex, xs ++ [vc], some x, (stx.trans w0 s4).mut w0 h0 gl4 (fun φ z => by rw [hl4] at z; cases z), rfl, upd_same, gl4, ?_, by omega⟩
      rw [rgN_succ, List.map_append]
      refine (hxx.mono s4.ex).snoc ?_
      have : ledN r (l.take (a + 1)) = bhd (ledN r (l.take a)) c := by
        unfold ledN
        rw [List.take_add_one, hc, List.foldl_append]
        rfl
      rw [this]
      exact hv4
  · obtain ⟨xs, o3, st, rfl, hl3, gl3, hxs, ha⟩ := hI
    rw [List.length_map] at hxs
    refine s_retO (m := m0) (l := q) (o := .lst xs) (hn := fun _ z => nomatch z) (P := fun v' G' => Dt G' v' (lstT ((rgN r l (l.length + 1)).drop 1))) ?_ (st.w w0) hl3 gl3 fun v' G4 H4 s4 _ _ hv' => hQ v' G4 H4 (st.trans w0 s4) (hP v' G4 hv')
    have := o_sl1 (m := mL1 m0 q xs) (K := K) (σ := [some v, some u, some (.ref q), o3]) (i := 2) fixO rfl hxs
    rw [← List.map_drop] at this
    exact this
/-! ### _law_led -/
def sp__law_led : Sp := spF fun vs G P => ∃ v u b r l, vs = [v, u] ∧ Dt G v (tupN r) ∧ Dt G u (leadD l) ∧ RowOk b r ∧ LeadOk b l ∧ ∀ v' G', Dt G' v' (tupN (ledN r l)) → P v' G'
theorem len__law_led (vs : List V) (H : Hp) (Q : VK) (E : XK) (h : sp__law_led vs H Q E) : vs.length = ["_law_row", "_law_lead_here"].length := by
  obtain ⟨G, P, _, ⟨v, u, b, r, l, rfl, _⟩, _⟩ := h
  rfl
theorem rd__law_led {K : PySem.W.Frag} {vs : List V} {H : Hp} {Q : VK} {E : XK} (h : sp__law_led vs H Q E) :
  (tRet (tOp (rIxL K) (tCall sp__law_rung [] C8.E0 (tCons (tVar 0) (tCons (tVar 1) tNil))) (tUn (rU fun i => V.int (-i)) (tC (V.int 1)))))
    { nx := fun x H' => Q V.non H', rt := Q } (L2.start ["_law_row", "_law_lead_here"] vs) H := by
  obtain ⟨G, P, w0, ⟨v, u, b, r, l, rfl, hr, hu, hro, hlo, hP⟩, hQ⟩ := h
  refine s_ret w0 (d_ixL (K := K) (ds := ((rgN r l (l.length + 1)).drop 1).map tupN) (d := tupN (ledN r l)) (c_call (am_d (e_var rfl hr).D (am_d (e_var rfl hu).D am_nil)) fun vs G1 e1 has G2 e2 => ?_) e_neg1.D ?_) fun v' G4 H4 s4 hv' => hQ v' G4 H4 s4 (hP v' G4 hv')
  · obtain ⟨y, z, rfl, h1, h2⟩ := has.two
    exact ⟨y, z, b, _, l, rfl, Dt.mono e2 h1, Dt.mono e2 h2, hro, hlo, fun _ _ h => h⟩
  · have hne : 1 ≤ l.length := by
      cases q : l with
      | nil => exact absurd q hlo.ne
      | cons _ _ => simp
    rw [rgN_succ, List.drop_append_of_le_length (by simp [rgN]; exact hne), List.take_length]
    exact at_lastM _ _
/-! ### _law_changes -/
def changes (b : Nat) : List (List Nat) := (chg (b - 1)).mergeSort lotLe
theorem changes_mem {b : Nat} (hb : 1 ≤ b) {c : List Nat} (h : c ∈ changes b) : ChOk b c := by
  have := (chg_mem (List.mem_mergeSort.mp h)).1
  rw [show b - 1 + 1 = b by omega] at this
  exact this
theorem changes_len {b : Nat} (hb : b ≤ 6) : 1 ≤ (changes b).length ∧ (changes b).length ≤ 32 := by
  rw [changes, (List.mergeSort_perm _ _).length_eq]
  have h1 := chg_len (b - 1)
  have h2 : 2 ^ (b - 1) ≤ 2 ^ 5 := Nat.pow_le_pow_right (by decide) (by omega)
  have h3 := chg_zero (b - 1)
  refine ⟨?_, by omega⟩
  cases q : chg (b - 1) with
  | nil => rw [q] at h3; simp at h3
  | cons _ _ => simp
def sp__law_changes : Sp := spF fun vs G P => ∃ b : Nat, vs = [.int b] ∧ 1 ≤ b ∧ b ≤ 6 ∧ ∀ v' G', Dt G' v' (lstT (changes b)) → P v' G'
theorem len__law_changes (vs : List V) (H : Hp) (Q : VK) (E : XK) (h : sp__law_changes vs H Q E) : vs.length = ["_law_bells"].length := by
  obtain ⟨G, P, _, ⟨n, rfl, _⟩, _⟩ := h
  rfl
theorem rd__law_changes {K : PySem.W.Frag} {vs : List V} {H : Hp} {Q : VK} {E : XK} (h : sp__law_changes vs H Q E) :
  (tSeq (tAsg (tLst (tCons (tTup tNil) tNil)) (gName 1)) (tSeq (tFor (iRng1 (tCons (tOp (rI0 fun i j => V.int (i - j)) (tVar 0) (tC (V.int 1))) tNil)) (gName 2) (tAsg (tOp rCat (tVar 1) (tLc (iList K (tVar 1)) (gName 3) (tOr (tTest (tOp (rEqD K) (tVar 3) (tTup tNil))) (tTest (tOp (rI0 fun i j => V.bl (decide (i < j))) (tOp (rIxT K) (tVar 3) (tUn (rU fun i => V.int (-i)) (tC (V.int 1)))) (tOp (rI0 fun i j => V.int (i - j)) (tVar 2) (tC (V.int 1)))))) (tOp (rCatA K) (tVar 3) (tTup (tCons (tVar 2) tNil))) [3])) (gName 1))) (tRet (tCB (rSortD K) (tCons (tVar 1) tNil)))))
    { nx := fun x H' => Q V.non H', rt := Q } (L2.start ["_law_bells", "_law_found", "_law_place", "_law_change_here"] vs) H := by
  obtain ⟨G, P, w0, ⟨n, rfl, hn1, hn, hP⟩, hQ⟩ := h
  have p32 : ∀ i, i ≤ n - 1 → (chg i).length ≤ 32 := fun i hi => Nat.le_trans (chg_len i) (Nat.le_trans (Nat.pow_le_pow_right (by decide) (show i ≤ 5 by omega)) (by decide))
  refine q_asg w0 (d_lst (EvA.one (d_tup a_nil (by decide))) (by decide)) fun vf G1 H1 s1 hf => ?_
  have w1 := s1.w w0
  refine q_for w1 (i_rngN (n := n - 1) ((d_sub (i := (n : Nat)) (j := 1) (e_var rfl (.int _)).D (e_int 1).D).is (by
      have : ((n : Nat) : Int) - 1 = ((n - 1 : Nat) : Int) := by omega
      rw [this])) (by omega))
    (fun i G' σ' H' => ∃ vf o2, Stp m0 G H G' H' ∧ σ' = [some (.int (n : Nat)), some vf, o2, none] ∧ Dt G' vf (lstT (chg i)) ∧ i ≤ n - 1)
    (fun i G' σ' H' ⟨_, _, st, _⟩ => st.w w0) (fun G3 H3 s3 => ⟨vf, none, s1.trans w0 s3, rfl, hf.mono s3.ex, Nat.zero_le _⟩) (fun i d x G' σ' H' hd eG hI Gx Hx sx hx => ?_) (fun G' σ' H' eG hI => ?_)
  · obtain ⟨vf, o2, st, rfl, hf, hi⟩ := hI
    rw [List.getElem?_map] at hd
    obtain ⟨y, hy, rfl⟩ := Option.map_eq_some_iff.mp hd
    obtain ⟨hy1, hy2⟩ := List.getElem?_eq_some_iff.mp hy
    rw [List.length_range] at hy1
    rw [List.getElem_range] at hy2
    subst hy2
    cases hx
    have stx := st.trans w0 sx
    have hl := p32 i hi
    have hL := d_lc1 (m := m0) (G := Gx) (σ := [some (.int (n : Nat)), some vf, some (.int (i : Nat)), none])
      (tt := tOr (tTest (tOp (rEqD K) (tVar 3) (tTup tNil))) (tTest (tOp (rI0 fun i j => V.bl (decide (i < j))) (tOp (rIxT K) (tVar 3) (tUn (rU fun i => V.int (-i)) (tC (V.int 1)))) (tOp (rI0 fun i j => V.int (i - j)) (tVar 2) (tC (V.int 1))))))
      (te := tOp (rCatA K) (tVar 3) (tTup (tCons (tVar 2) tNil))) (wi := iList K (tVar 1)) (j := 3) (xs := chg i) (enc := tupN) (fun c => decide (c = []) || decide ((lastN c : Int) < (i : Int) - 1)) (fun l => tupN (l ++ [i]))
      (i_list (e_var rfl (hf.mono sx.ex)).D) (by omega) (fun c _ v G1 _ hv => ?_) (fun c hc v G1 e hv _ => ?_)
    · have hC := d_cat (m := m0) (ta := tVar 1) (e_var rfl (hf.mono sx.ex)).D hL (by
        simp
        have := List.length_filter_le (fun c => decide (c = []) || decide ((lastN c : Int) < (i : Int) - 1)) (chg i)
        omega)
      have e2 : (chg i).map tupN ++ ((chg i).filter fun c => decide (c = []) || decide ((lastN c : Int) < (i : Int) - 1)).map (fun l => tupN (l ++ [i])) = (chg (i + 1)).map tupN := by
        rw [chg, List.map_append, List.map_map]
        rfl
      rw [e2] at hC
      exact s_asg (stx.w w0) hC fun vf2 G4 H4 s4 hf4 => ⟨G4, sx.ex.trans s4.ex, vf2, _, stx.trans w0 s4, rfl, hf4, by omega⟩
    · refine t_or (t_test ((d_eqD (K := K) (e_var rfl hv).D (d_tup a_nil (by decide)) (sh_tupN _).ok (sh_nilT 0).ok).is ?_)) fun hne => t_test ?_
      · rw [eqv_nilT]
        congr 1
        refine decide_eq_decide.mpr ⟨fun h => by simpa using h, fun h => by rw [h]; rfl⟩
      · have hne' : c ≠ [] := by simpa using hne
        obtain ⟨e, x, rfl⟩ : ∃ e x, c = e ++ [x] := ⟨c.dropLast, c.getLast hne', (List.dropLast_concat_getLast hne').symm⟩
        have hl : lastN (e ++ [x]) = x := by simp [lastN]
        rw [hl]
        exact d_cmpI (g := fun i j => decide (i < j)) (e_ixT (K := K) (e_var rfl hv) e_neg1 (at_lastM _ _)).D (d_sub (e_var rfl (.int _)).D (e_int 1).D)
    · have := d_catA (m := m0) (K := K) (G := G1) (σ := [some (.int (n : Nat)), some vf, some (.int (i : Nat)), some v]) (ta := tVar 3) (tb := tTup (tCons (tVar 2) tNil)) (e_var rfl hv).D (d_tup (EvA.one (e_var rfl (.int (i : Nat))).D) (by simp)) (by
        have := (chg_mem hc).2
        simp
        omega)
      rw [tupN, List.map_append]
      exact this
  · obtain ⟨vf, o2, st, rfl, hf, hi⟩ := hI
    rw [List.length_map, List.length_range] at hf
    exact s_ret (st.w w0) (d_sort (enc := tupN) (e_var rfl hf).D (allAlike_tupN _) (sortable_nil (chg_zero _)) fun x _ => depth_tupN x) fun v' G4 H4 s4 hv' => hQ v' G4 H4 (st.trans w0 s4) (hP v' G4 hv')
end R45
end
section
set_option Elab.async false
set_option linter.all false
set_option maxRecDepth 100000
set_option maxHeartbeats 2000000
namespace R45
open PySem PySem.Spec PyProof.Rows L2 Evl
/-! the cup -/
theorem stp_cup {c : Addr} {G H : Hp} (w : W (mC c) G H) {a b : Int} (ha : 0 ≤ a) (hb : 0 ≤ b) (hb2 : b < 4294967296) : Stp (mC c) G H G (upd H c (.lst [.int a, .int b])) := by
  refine ⟨Ex.refl G, fun x u e => ?_, fun x u z e => ?_, ⟨a, b, upd_same, ha, hb, hb2⟩, fun x u _ _ => rfl⟩
  · have : x ≠ c := fun z => by
      rw [z, w.hid c rfl] at e
      cases e
    rw [upd_ne this]
    exact w.ex x u e
  · rw [upd_ne z]
    exact e
/-! ### _law_cup -/
def sp__law_cup (K : PySem.W.Frag) : Sp := spF fun vs G P => ∃ (a : Addr) (ns : List Int), vs = [.ref a] ∧ SqL K G a (ns.map V.int) ∧ ns.length ≤ 1000 ∧ ∀ a b : Int, 0 ≤ a → 0 ≤ b → b < 4294967296 → ∀ v' G', NewL G [.int a, .int b] v' G' → P v' G'
theorem len__law_cup {K : PySem.W.Frag} (vs : List V) (H : Hp) (Q : VK) (E : XK) (h : sp__law_cup K vs H Q E) : vs.length = (["_law_script"] : List String).length := by
  obtain ⟨G, P, _, ⟨v, ns, rfl, _⟩, _⟩ := h
  rfl
theorem sqL_ex {K : PySem.W.Frag} {H H' : Hp} {a : Addr} {xs : List V} (h : SqL K H a xs) (e : Ex H H') : SqL K H' a xs := by
  rcases h with (h | ⟨o, h⟩) | h
  · exact .inl (.inl (e _ _ h))
  · exact .inl (.inr ⟨o, e _ _ h⟩)
  · exact .inr h
theorem rd__law_cup {K : PySem.W.Frag} {vs : List V} {H : Hp} {Q : VK} {E : XK} (h : sp__law_cup K vs H Q E) :
  (tSeq (tAsg (tCB (fun xs H Q => ∃ i, xs = [V.int i] ∧ Q (V.int (if i < 0 then -i else i)) H) (tCons (tOp (rIxL K) (tOp rCat (tCB (rListS K) (tCons (tVar 0) tNil)) (tLst (tCons (tC (V.int 0)) tNil))) (tC (V.int 0))) tNil)) (gName 1)) (tRet (tLst (tCons (tIf (tTest (tOp (rI0 fun i j => V.bl (decide (j ≤ i))) (tVar 1) (tOp (rI CPow fun i j => V.int (i ^ j.toNat)) (tC (V.int 10)) (tC (V.int 18))))) (tOp (rI CDiv fun i j => V.int (i / j)) (tVar 1) (tC (V.int 29))) (tC (V.int 0))) (tCons (tOp (rI0 fun i j => V.int (i + j)) (tOp (rI (fun x j => 0 < j) fun i j => V.int (i % j)) (tCB (fun xs H Q => (∃ i, xs = [V.int i] ∧ Q (V.int i) H) ∨ ∃ k, xs = [V.bl k] ∧ Q (V.int (if k = true then 1 else 0)) H) (tCons (tOp (rI0 fun i j => V.int (i + j)) (tOp (rI CMul fun i j => V.int (i * j)) (tVar 1) (tC (V.int 229))) (tC (V.int 1709))) tNil)) (tC (V.int 2077503719))) (tC (V.int 109))) tNil)))))
    { nx := fun x H' => Q V.non H', rt := Q } (L2.start ["_law_script", "_law_cell"] vs) H := by
  obtain ⟨G, P, w0, ⟨ad, ns, rfl, hs, hn, hP⟩, hQ⟩ := h
  obtain ⟨v, hva⟩ : ∃ v, v = V.ref ad := ⟨_, rfl⟩
  rw [← hva]
  have hlist : EvD m0 (tCB (rListS K) (tCons (tVar 0) tNil)) [some v, none] G (.list (ns.map PyData.int)) := fun G1 H1 e w Q k =>
    ⟨v, rfl, ad, ns.map V.int, by rw [hva], .inl (sqL_ex hs (e.trans w.ex)), c_newL (dts_ints ns) G1 H1 (Ex.refl _) w Q k⟩
  obtain ⟨c, hc⟩ : ∃ c : Int, (ns ++ [0])[0]? = some c := by
    cases ns with
    | nil => exact ⟨0, rfl⟩
    | cons x r => exact ⟨x, rfl⟩
  have hE := d_ixL (m := m0) (K := K) (σ := [some v, none]) (d := .int c) (d_cat hlist (d_lst (EvA.one (e_int 0).D) (by simp)) (by simp; omega)) (e_int 0).D (by
    have : List.map PyData.int ns ++ [PyData.int 0] = (ns ++ [0]).map PyData.int := by simp
    rw [this]
    exact at_zero hc)
  have hA : EvD m0 (tCB (fun xs H Q => ∃ i, xs = [V.int i] ∧ Q (V.int (if i < 0 then -i else i)) H) (tCons (tOp (rIxL K) (tOp rCat (tCB (rListS K) (tCons (tVar 0) tNil)) (tLst (tCons (tC (V.int 0)) tNil))) (tC (V.int 0))) tNil)) [some v, none] G (.int (if c < 0 then -c else c)) :=
    Cmp.cb (EvA.one hE) fun vs G1 e hvs => by
      obtain ⟨u, rfl, hu⟩ := hvs.one_inv
      cases hu
      intro G2 H e2 w Q k
      exact ⟨c, rfl, k _ _ _ (Stp.refl w) (.int _)⟩
  refine q_asg w0 hA fun v1 G1 H1 s1 h1 => ?_
  cases h1
  have w1 := s1.w w0
  generalize hx : (if c < 0 then -c else c) = x
  have hx0 : 0 ≤ x := by
    rw [← hx]
    split <;> omega
  have h1 : EvE (tVar 1) [some v, some (.int x)] G1 (.int x) := e_var rfl (.int x)
  have hpow : EvD m0 (tOp (rI CPow fun i j => V.int (i ^ j.toNat)) (tC (V.int 10)) (tC (V.int 18))) [some v, some (.int x)] G1 (.int (10 ^ 18)) := fun G2 H e w Q k =>
    ⟨10, 18, rfl, rfl, ⟨by omega, by omega, by decide⟩, k _ _ _ (Stp.refl w) (.int _)⟩
  have hdiv : EvD m0 (tOp (rI CDiv fun i j => V.int (i / j)) (tVar 1) (tC (V.int 29))) [some v, some (.int x)] G1 (.int (x / 29)) := fun G2 H e w Q k =>
    ⟨.int x, rfl, x, 29, rfl, rfl, ⟨by omega, by omega⟩, k _ _ _ (Stp.refl w) (.int _)⟩
  let a : Int := if decide ((10 : Int) ^ 18 ≤ x) = true then x / 29 else 0
  have ha : 0 ≤ a := by
    show 0 ≤ if decide ((10 : Int) ^ 18 ≤ x) = true then x / 29 else 0
    split
    · exact Int.ediv_nonneg hx0 (by omega)
    · exact Int.le_refl 0
  have hi : EvD m0 (tIf (tTest (tOp (rI0 fun i j => V.bl (decide (j ≤ i))) (tVar 1) (tOp (rI CPow fun i j => V.int (i ^ j.toNat)) (tC (V.int 10)) (tC (V.int 18))))) (tOp (rI CDiv fun i j => V.int (i / j)) (tVar 1) (tC (V.int 29))) (tC (V.int 0))) [some v, some (.int x)] G1 (.int a) := by
    refine d_if (b := decide ((10 : Int) ^ 18 ≤ x)) (t_test (d_cmpI (g := fun i j => decide (j ≤ i)) h1.D hpow)) (fun z => ?_) (fun z => ?_)
    · have : a = x / 29 := if_pos z
      rw [this]
      exact hdiv
    · have : a = 0 := if_neg (by rw [z]; decide)
      rw [this]
      exact (e_int 0).D
  have hb : EvD m0 (tOp (rI0 fun i j => V.int (i + j)) (tOp (rI (fun x j => 0 < j) fun i j => V.int (i % j)) (tCB (fun xs H Q => (∃ i, xs = [V.int i] ∧ Q (V.int i) H) ∨ ∃ k, xs = [V.bl k] ∧ Q (V.int (if k = true then 1 else 0)) H) (tCons (tOp (rI0 fun i j => V.int (i + j)) (tOp (rI CMul fun i j => V.int (i * j)) (tVar 1) (tC (V.int 229))) (tC (V.int 1709))) tNil)) (tC (V.int 2077503719))) (tC (V.int 109))) [some v, some (.int x)] G1 (.int ((x * 229 + 1709) % 2077503719 + 109)) := fun G2 H e w Q k =>
    ⟨.int x, rfl, x, 229, rfl, rfl, .inr ⟨by omega, by omega⟩, x * 229, 1709, rfl, rfl, .inl ⟨x * 229 + 1709, rfl, x * 229 + 1709, 2077503719, rfl, rfl, by omega, (x * 229 + 1709) % 2077503719, 109, rfl, rfl, k _ _ _ (Stp.refl w) (.int _)⟩⟩
  refine s_ret w1 (nw_lst (ds := [.int a, .int ((x * 229 + 1709) % 2077503719 + 109)]) (a_cons hi (EvA.one hb)) (by simp)) fun v' G2 H2 s2 hv' => hQ v' G2 H2 (s1.trans w0 s2) (hP a ((x * 229 + 1709) % 2077503719 + 109) ha (by omega) (by omega) v' G2 ?_)
  obtain ⟨l, xs, e1, e2, e3, e4⟩ := hv'
  have e5 : G l = none := by
    cases q : G l with
    | none => rfl
    | some o =>
      rw [s1.ex l o q] at e2
      cases e2
  exact ⟨l, xs, e1, e5, e3, e4⟩
/-! ### _law_roll -/
def sp__law_roll : Sp := spC fun c vs G P => ∃ n : Nat, vs = [.ref c, .int n] ∧ 1 ≤ n ∧ n ≤ 1000000 ∧ ∀ k : Nat, k < n → ∀ G', P (.int k) G'
theorem mod_nat {i : Int} {n : Nat} (h : 1 ≤ n) : ∃ k : Nat, k < n ∧ i % (n : Int) = (k : Int) :=
  ⟨(i % (n : Int)).toNat, by
    have h1 := Int.emod_nonneg i (b := (n : Int)) (by omega)
    have h2 := Int.emod_lt_of_pos i (b := (n : Int)) (by omega)
    omega, by
    have h1 := Int.emod_nonneg i (b := (n : Int)) (by omega)
    omega⟩
theorem len__law_roll (vs : List V) (H : Hp) (Q : VK) (E : XK) (h : sp__law_roll vs H Q E) : vs.length = (["_law_cup_here", "_law_many_here"] : List String).length := by
  obtain ⟨c, G, P, _, ⟨n, rfl, _⟩, _⟩ := h
  rfl
theorem rd__law_roll {K : PySem.W.Frag} {vs : List V} {H : Hp} {Q : VK} {E : XK} (h : sp__law_roll vs H Q E) :
  (tSeq (tIfS (tTest (tOp (rI0 fun i j => V.bl (decide (j < i))) (tOp (rIxL K) (tVar 0) (tC (V.int 0))) (tC (V.int 0)))) (tSeq (tAsg (tOp (rI (fun x j => 0 < j) fun i j => V.int (i % j)) (tCB (fun xs H Q => (∃ i, xs = [V.int i] ∧ Q (V.int i) H) ∨ ∃ k, xs = [V.bl k] ∧ Q (V.int (if k = true then 1 else 0)) H) (tCons (tOp (rIxL K) (tVar 0) (tC (V.int 0))) tNil)) (tVar 1)) (gName 2)) (tSeq (tAsg (tOp (rI CDiv fun i j => V.int (i / j)) (tOp (rIxL K) (tVar 0) (tC (V.int 0))) (tVar 1)) (gSub (tVar 0) (tC (V.int 0)) rSetL)) (tRet (tVar 2)))) tNext) (tSeq (tAsg (tOp (rI (fun x j => 0 < j) fun i j => V.int (i % j)) (tCB (fun xs H Q => (∃ i, xs = [V.int i] ∧ Q (V.int i) H) ∨ ∃ k, xs = [V.bl k] ∧ Q (V.int (if k = true then 1 else 0)) H) (tCons (tOp (rI0 fun i j => V.int (i + j)) (tOp (rI CMul fun i j => V.int (i * j)) (tOp (rIxL K) (tVar 0) (tC (V.int 1))) (tC (V.int 30911))) (tC (V.int 7901))) tNil)) (tC (V.int 2147483423))) (gSub (tVar 0) (tC (V.int 1)) rSetL)) (tSeq (tAsg (tOp (rI (fun x j => 0 < j) fun i j => V.int (i % j)) (tCB (fun xs H Q => (∃ i, xs = [V.int i] ∧ Q (V.int i) H) ∨ ∃ k, xs = [V.bl k] ∧ Q (V.int (if k = true then 1 else 0)) H) (tCons (tOp (rI CMul fun i j => V.int (i * j)) (tOp (rIxL K) (tVar 0) (tC (V.int 1))) (tOp (rI0 fun i j => V.int (i + j)) (tOp (rIxL K) (tVar 0) (tC (V.int 1))) (tC (V.int 179)))) tNil)) (tC (V.int 2147483587))) (gName 3)) (tRet (tOp (rI (fun x j => 0 < j) fun i j => V.int (i % j)) (tCB (fun xs H Q => (∃ i, xs = [V.int i] ∧ Q (V.int i) H) ∨ ∃ k, xs = [V.bl k] ∧ Q (V.int (if k = true then 1 else 0)) H) (tCons (tOp (rI CDiv fun i j => V.int (i / j)) (tVar 3) (tC (V.int 751))) tNil)) (tVar 1))))))
    { nx := fun x H' => Q V.non H', rt := Q } (L2.start ["_law_cup_here", "_law_many_here", "_law_found", "_law_deep"] vs) H := by
  obtain ⟨c, G, P, w0, ⟨n, rfl, hn1, hn, hP⟩, hQ⟩ := h
  obtain ⟨a, b, hc, ha, hb, hb2⟩ := w0.inv
  have hat : ∀ {x y : Int}, atI [V.int x, V.int y] 0 = some (.int x) := rfl
  have hat1 : ∀ {x y : Int}, atI [V.int x, V.int y] 1 = some (.int y) := rfl
  have n0 : (0 : Int) < (n : Int) := by omega
  refine ⟨.ref c, rfl, c, _, 0, _, rfl, rfl, sq_of hc, hat, a, 0, rfl, rfl, _, rfl, ?_⟩
  by_cases h : 0 < a
  · rw [decide_eq_true h]
    dsimp only
    rw [if_pos rfl]
    obtain ⟨k, hk, ek⟩ := mod_nat (i := a) hn1
    refine ⟨.ref c, rfl, c, _, 0, _, rfl, rfl, sq_of hc, hat, .inl ⟨a, rfl, .int n, rfl, a, n, rfl, rfl, n0, ?_⟩⟩
    refine ⟨.ref c, rfl, c, _, 0, _, rfl, rfl, sq_of hc, hat, .int n, rfl, a, n, rfl, rfl, ⟨n0, by omega⟩, .ref c, rfl, c, _, 0, 0, rfl, rfl, hc, rfl, .int (a % n), rfl, ?_⟩
    have s := stp_cup (a := a / n) (b := b) w0 (Int.ediv_nonneg ha (by omega)) hb hb2
    exact hQ _ G _ s (by rw [ek]; exact hP k hk G)
  · rw [decide_eq_false h]
    dsimp only
    rw [if_neg (by simp)]
    refine ⟨.ref c, rfl, c, _, 1, _, rfl, rfl, sq_of hc, hat1, b, 30911, rfl, rfl, .inr ⟨by omega, by omega⟩, b * 30911, 7901, rfl, rfl, .inl ⟨b * 30911 + 7901, rfl, b * 30911 + 7901, 2147483423, rfl, rfl, by omega, ?_⟩⟩
    have hb1 : 0 ≤ ((b * 30911 + 7901) % 2147483423) ∧ ((b * 30911 + 7901) % 2147483423) < 2147483423 := by omega
    refine ⟨.ref c, rfl, c, _, 1, 1, rfl, rfl, hc, rfl, ?_⟩
    have s := stp_cup (a := a) (b := ((b * 30911 + 7901) % 2147483423)) w0 ha (by omega) (by omega)
    obtain ⟨k, hk, ek⟩ := mod_nat (i := (((b * 30911 + 7901) % 2147483423) * (((b * 30911 + 7901) % 2147483423) + 179)) % 2147483587 / 751) hn1
    refine ⟨.ref c, rfl, c, _, 1, .int ((b * 30911 + 7901) % 2147483423), rfl, rfl, sq_of upd_same, rfl, .ref c, rfl, c, _, 1, .int ((b * 30911 + 7901) % 2147483423), rfl, rfl, sq_of upd_same, rfl, ((b * 30911 + 7901) % 2147483423), 179, rfl, rfl, ((b * 30911 + 7901) % 2147483423), ((b * 30911 + 7901) % 2147483423) + 179, rfl, rfl, .inl ⟨by omega, by omega⟩, .inl ⟨_, rfl, ((b * 30911 + 7901) % 2147483423) * (((b * 30911 + 7901) % 2147483423) + 179), 2147483587, rfl, rfl, by omega, ?_⟩⟩
    refine ⟨_, rfl, (((b * 30911 + 7901) % 2147483423) * (((b * 30911 + 7901) % 2147483423) + 179)) % 2147483587, 751, rfl, rfl, ⟨by omega, by omega⟩, .inl ⟨_, rfl, .int n, rfl, (((b * 30911 + 7901) % 2147483423) * (((b * 30911 + 7901) % 2147483423) + 179)) % 2147483587 / 751, n, rfl, rfl, n0, ?_⟩⟩
    exact hQ (.int (((b * 30911 + 7901) % 2147483423) * (((b * 30911 + 7901) % 2147483423) + 179) % 2147483587 / 751 % n)) G _ s (by rw [ek]; exact hP k hk G)
section
variable {c : Addr} {σ : L2.St} {G G' H : Hp} {te ta tb tc tl : TE} {tt tu : TT} {d d' : PyData} {v : V} {K : PySem.W.Frag} {ds es : List PyData} {E : XK}
/-- a number below n -/
theorem p_roll {n : Nat} (hi : EvM (mC c) (tCons ta (tCons tb tNil)) σ G [.inl (.ref c), .inr (natD n)]) (h1 : 1 ≤ n) (h2 : n ≤ 1000000) : EvP (mC c) (tCall sp__law_roll [] E (tCons ta (tCons tb tNil))) σ G (fun d => ∃ k : Nat, k < n ∧ d = natD k) :=
  c_callC (P := fun v' G' => ∃ d, (∃ k : Nat, k < n ∧ d = natD k) ∧ Dt G' v' d) hi fun vs G1 e1 has G2 e2 => by
    obtain ⟨x, y, rfl, h3, h4⟩ := has.two
    cases h3
    cases h4
    exact ⟨n, rfl, h1, h2, fun k hk G' => ⟨_, ⟨k, hk, rfl⟩, .int _⟩⟩
end
/-! ### _law_some -/
def sp__law_some : Sp := spC fun c vs G P => ∃ (v : V) (ds : List PyData), vs = [.ref c, v] ∧ Dt G v (.list ds) ∧ 1 ≤ ds.length ∧ ds.length ≤ 1000000 ∧ ∀ d ∈ ds, ∀ v' G', Dt G' v' d → P v' G'
theorem len__law_some (vs : List V) (H : Hp) (Q : VK) (E : XK) (h : sp__law_some vs H Q E) : vs.length = (["_law_cup_here", "_law_things"] : List String).length := by
  obtain ⟨c, G, P, _, ⟨v, ds, rfl, _⟩, _⟩ := h
  rfl
theorem rd__law_some {K : PySem.W.Frag} {vs : List V} {H : Hp} {Q : VK} {E : XK} (h : sp__law_some vs H Q E) :
  (tRet (tOp (rIxL K) (tVar 1) (tCall sp__law_roll [] C8.E0 (tCons (tVar 0) (tCons (tCB (rLenS K) (tCons (tVar 1) tNil)) tNil)))))
    { nx := fun x H' => Q V.non H', rt := Q } (L2.start ["_law_cup_here", "_law_things"] vs) H := by
  obtain ⟨c, G, P, w0, ⟨v, ds, rfl, hv, h1, h2, hP⟩, hQ⟩ := h
  refine s_ret (m := mC c) (P := fun v' G' => ∃ d, d ∈ ds ∧ Dt G' v' d) w0 (p_op (e_var (d := .list ds) rfl hv).D.P (p_roll (n := ds.length) (am_v (n_var rfl) (am_d (d_lenL (e_var rfl hv).D) am_nil)) h1 h2) fun x y d1 d2 G1 e e1 e2 hx hy => ?_) fun v' G2 H2 s2 ⟨d, hd, hv'⟩ => hQ v' G2 H2 s2 (hP d hd v' G2 hv')
  subst e1
  obtain ⟨k, hk, rfl⟩ := e2
  cases hy
  obtain ⟨a, xs, rfl, ga, hxs⟩ := hx.lst_inv
  obtain ⟨u, hu, hd⟩ := at_get (i := (k : Nat)) hxs (atI_nat (List.getElem?_eq_getElem hk))
  intro G2 H e2 w Q k'
  exact ⟨a, xs, (k : Nat), u, rfl, rfl, sq_of (w.ex _ _ (e2 _ _ ga)), hu, k' _ _ _ (Stp.refl w) ⟨_, List.getElem_mem hk, hd.mono e2⟩⟩
section
variable {c : Addr} {σ : L2.St} {G G' H : Hp} {te ta tb tc tl : TE} {tt tu : TT} {d d' : PyData} {v : V} {K : PySem.W.Frag} {ds es : List PyData} {E : XK}
theorem p_some (hi : EvM (mC c) (tCons ta (tCons tb tNil)) σ G [.inl (.ref c), .inr (.list ds)]) (h1 : 1 ≤ ds.length) (h2 : ds.length ≤ 1000000) : EvP (mC c) (tCall sp__law_some [] E (tCons ta (tCons tb tNil))) σ G (fun d => d ∈ ds) :=
  c_callC (P := fun v' G' => ∃ d, d ∈ ds ∧ Dt G' v' d) hi fun vs G1 e1 has G2 e2 => by
    obtain ⟨x, y, rfl, h3, h4⟩ := has.two
    cases h3
    exact ⟨y, ds, rfl, Dt.mono e2 h4, h1, h2, fun d hd v' G' hv => ⟨d, hd, hv⟩⟩
theorem EvP.imp {m : Mode} {P P' : PyData → Prop} (h : EvP m te σ G P) (i : ∀ d, P d → P' d) : EvP m te σ G P' := Cmp.imp h fun v G' _ ⟨d, hd, hv⟩ => ⟨d, i d hd, hv⟩
end
/-! ### _law_change -/
def sp__law_change : Sp := spC fun c vs G P => ∃ b : Nat, vs = [.ref c, .int b] ∧ 1 ≤ b ∧ b ≤ 6 ∧ ∀ ch, ChOk b ch → ∀ v' G', Dt G' v' (tupN ch) → P v' G'
theorem len__law_change (vs : List V) (H : Hp) (Q : VK) (E : XK) (h : sp__law_change vs H Q E) : vs.length = (["_law_cup_here", "_law_bells"] : List String).length := by
  obtain ⟨c, G, P, _, ⟨b, rfl, _⟩, _⟩ := h
  rfl
theorem rd__law_change {K : PySem.W.Frag} {vs : List V} {H : Hp} {Q : VK} {E : XK} (h : sp__law_change vs H Q E) :
  (tSeq (tAsg (tCall sp__law_changes [] C8.E0 (tCons (tVar 1) tNil)) (gName 2)) (tRet (tCall sp__law_some [] C8.E0 (tCons (tVar 0) (tCons (tOp rCat (tOp rRep (tSl (rSlL K) (tVar 2) (tPart (tC (V.int 1))) tNoPart) (tC (V.int 3))) (tVar 2)) tNil)))))
    { nx := fun x H' => Q V.non H', rt := Q } (L2.start ["_law_cup_here", "_law_bells", "_law_some_here"] vs) H := by
  obtain ⟨c, G, P, w0, ⟨b, rfl, h1, h2, hP⟩, hQ⟩ := h
  obtain ⟨l1, l2⟩ := changes_len h2
  refine q_asg (m := mC c) (P := fun v' G' => Dt G' v' (lstT (changes b))) w0 (c_call (am_d (e_var (d := natD b) rfl (.int _)).D am_nil) fun vs G1 e1 has G2 e2 => ?_) fun v2 G1 H1 s1 hv => ?_
  · obtain ⟨x, rfl, hx⟩ := has.one
    cases hx
    exact ⟨b, rfl, h1, h2, fun _ _ h => h⟩
  · have w1 := s1.w w0
    have hr := d_rep (m := mC c) (ta := tSl (rSlL K) (tVar 2) (tPart (tC (V.int 1))) tNoPart) (tb := tC (V.int 3)) (n := 3) (σ := [some (.ref c), some (.int b), some v2]) (d_sl1 (e_var rfl hv).D) (e_int 3).D (by omega) (by simp; omega)
    have hl := d_cat (m := mC c) (tb := tVar 2) hr (e_var rfl hv).D (by simp [List.length_flatten]; omega)
    refine s_ret w1 (p_some (am_v (n_var rfl) (am_d hl am_nil)) (by simp; omega) (by simp [List.length_flatten]; omega)) fun v' G2 H2 s2 ⟨d, hd, hv'⟩ => ?_
    have : ∃ ch, ch ∈ changes b ∧ d = tupN ch := by
      have hm : d ∈ (changes b).map tupN := by
        rcases List.mem_append.mp hd with hd | hd
        · obtain ⟨l, hl, hd⟩ := List.mem_flatten.mp hd
          have : l = ((changes b).map tupN).drop 1 := List.eq_of_mem_replicate hl
          subst this
          exact List.mem_of_mem_drop hd
        · exact hd
      obtain ⟨ch, h, e⟩ := List.mem_map.mp hm
      exact ⟨ch, h, e.symm⟩
    obtain ⟨ch, hch, rfl⟩ := this
    exact hQ v' G2 H2 (s1.trans w0 s2) (hP ch (changes_mem h1 hch) v' G2 hv')
/-! ### _law_lead -/
section
variable {m : Mode} {σ : L2.St} {G G' H : Hp} {te ta tb tc tl : TE} {tt tu : TT} {d d' : PyData} {v : V} {K : PySem.W.Frag} {ds es : List PyData} {E : XK}
/-- tuple([te for _ in range(1 + k)]), k below n -/
theorem p_many {n : Nat} {j : Nat} {Pe : PyData → Prop} (h : EvP m tb σ G (fun d => ∃ k : Nat, k < n ∧ d = natD k)) (hn : n ≤ 100000) (he : ∀ x G1, Ex G G1 → EvP m te ((σ.set j none).set j (some x)) G1 Pe) :
    EvP m (tThen (tLc (iRng1 (tCons (tOp (rI0 fun i j => V.int (i + j)) (tC (V.int 1)) tb) tNil)) (gName j) tYes te [j]) (kTup K)) σ G (fun d => ∃ es, d = .tuple es ∧ 1 ≤ es.length ∧ es.length ≤ n ∧ ∀ e ∈ es, Pe e) := by
  refine p_tupL (R := fun es => 1 ≤ es.length ∧ es.length ≤ n ∧ ∀ e ∈ es, Pe e) ?_
  refine Cmp.bind (f := tb σ) (g := fun (v : V) (H1 : Hp) (Q : VK) => tLc (iRng1 (tCons (tOp (rI0 fun i j => V.int (i + j)) (tC (V.int 1)) (tC v)) tNil)) (gName j) tYes te [j] σ H1 Q) h fun v G1 e ⟨d, ⟨k, hk, ed⟩, hv⟩ => ?_
  subst ed
  cases hv
  have e1 : (1 : Int) + ((k : Nat) : Int) = ((k + 1 : Nat) : Int) := by omega
  have hi : EvI m (iRng1 (tCons (tOp (rI0 fun i j => V.int (i + j)) (tC (V.int 1)) (tC (.int (k : Nat)))) tNil)) σ G1 ((List.range (k + 1)).map natD) := i_rngN ((e_add (e_int 1) (e_int (k : Nat))).is (by rw [e1])).D (by omega)
  refine Cmp.imp (p_lc1 (fun _ => true) (fun _ => Pe) hi (by rw [List.length_range]; omega) (fun x _ v G2 _ _ => t_yes) (fun x _ v G2 e2 _ _ => he v G2 (e.trans e2))) fun v G' _ ⟨d, ⟨es, ed, hp⟩, hv⟩ => ⟨d, ⟨es, ed, ?_⟩, hv⟩
  have hfl : ((List.range (k + 1)).filter fun _ => true) = List.range (k + 1) := List.filter_eq_self.mpr fun _ _ => rfl
  rw [hfl] at hp
  have hl := prLen hp
  rw [List.length_range] at hl
  refine ⟨by omega, by omega, fun e he => ?_⟩
  clear hl hv ed hfl hi e1 hk
  generalize List.range (k + 1) = l at hp
  induction hp with
  | nil => simp at he
  | cons a t ih =>
    rcases List.mem_cons.mp he with z | z
    · rw [z]
      exact a
    · exact ih z
end
theorem list_of {α : Type} {enc : α → PyData} {R : α → Prop} : ∀ {es : List PyData}, (∀ e ∈ es, ∃ a, R a ∧ e = enc a) → ∃ l : List α, es = l.map enc ∧ ∀ a ∈ l, R a
  | [], _ => ⟨[], rfl, by simp⟩
  | e :: es, h => by
    obtain ⟨a, ha, rfl⟩ := h e List.mem_cons_self
    obtain ⟨l, rfl, hl⟩ := list_of fun x hx => h x (List.mem_cons_of_mem _ hx)
    exact ⟨a :: l, rfl, fun x hx => (List.mem_cons.mp hx).elim (fun z => z ▸ ha) (hl x)⟩
def sp__law_lead : Sp := spC fun c vs G P => ∃ b n : Nat, vs = [.ref c, .int b, .int n] ∧ 1 ≤ b ∧ b ≤ 6 ∧ 1 ≤ n ∧ n ≤ 100 ∧ ∀ l, LeadOk b l → ∀ v' G', Dt G' v' (leadD l) → P v' G'
theorem len__law_lead (vs : List V) (H : Hp) (Q : VK) (E : XK) (h : sp__law_lead vs H Q E) : vs.length = (["_law_cup_here", "_law_bells", "_law_most"] : List String).length := by
  obtain ⟨c, G, P, _, ⟨b, n, rfl, _⟩, _⟩ := h
  rfl
theorem rd__law_lead {K : PySem.W.Frag} {vs : List V} {H : Hp} {Q : VK} {E : XK} (h : sp__law_lead vs H Q E) :
  (tRet (tThen (tLc (iRng1 (tCons (tOp (rI0 fun i j => V.int (i + j)) (tC (V.int 1)) (tCall sp__law_roll [] C8.E0 (tCons (tVar 0) (tCons (tVar 2) tNil)))) tNil)) (gName 3) tYes (tCall sp__law_change [] C8.E0 (tCons (tVar 0) (tCons (tVar 1) tNil))) [3]) (kTup K)))
    { nx := fun x H' => Q V.non H', rt := Q } (L2.start ["_law_cup_here", "_law_bells", "_law_most", "_law_turn_here"] vs) H := by
  obtain ⟨c, G, P, w0, ⟨b, n, rfl, h1, h2, h3, h4, hP⟩, hQ⟩ := h
  refine s_ret w0 (p_many (K := K) (Pe := fun d => ∃ ch, ChOk b ch ∧ d = tupN ch) (p_roll (n := n) (am_v (n_var rfl) (am_d (e_var rfl (.int _)).D am_nil)) h3 (by omega)) (by omega) fun x G1 e => c_callC (P := fun v' G' => ∃ d, (∃ ch, ChOk b ch ∧ d = tupN ch) ∧ Dt G' v' d) (am_v (n_var rfl) (am_d (d := natD b) (e_var rfl (.int _)).D am_nil)) fun vs G1 e1 has G2 e2 => ?_)
    fun v' G2 H2 s2 ⟨d, ⟨es, ed, l1, l2, hes⟩, hv'⟩ => ?_
  · obtain ⟨x, y, rfl, h3, h4⟩ := has.two
    cases h3
    cases h4
    exact ⟨b, rfl, h1, h2, fun ch hch v' G' hv => ⟨_, ⟨ch, hch, rfl⟩, hv⟩⟩
  · obtain ⟨l, rfl, hl⟩ := list_of hes
    subst ed
    rw [List.length_map] at l1 l2
    exact hQ v' G2 H2 s2 (hP l ⟨fun z => by subst z; simp at l1, hl, by omega⟩ v' G2 hv')
end R45
end
section
set_option Elab.async false
set_option linter.all false
set_option autoImplicit false
/-! mathematics 4: lists that are permutations of the numbers below n. -/
namespace R45
theorem nodup_inj {l : List Nat} (h : l.Nodup) {i j : Nat} {hi : i < l.length} {hj : j < l.length} (e : l[i] = l[j]) : i = j := by
  have p := List.pairwise_iff_getElem.mp h
  rcases Nat.lt_trichotomy i j with c | c | c
  · exact absurd e (p i j hi hj c)
  · exact c
  · exact absurd e.symm (p j i hj hi c)
structure PL (n : Nat) (l : List Nat) : Prop where
  len : l.length = n
  nd : l.Nodup
  lt : ∀ x ∈ l, x < n
theorem pl_range (n : Nat) : PL n (List.range n) := ⟨List.length_range, List.nodup_range, fun x h => List.mem_range.mp h⟩
theorem PL.perm {n : Nat} {l k : List Nat} (h : PL n l) (p : k.Perm l) : PL n k := ⟨p.length_eq.trans h.len, p.nodup_iff.mpr h.nd, fun x hx => h.lt x (p.mem_iff.mp hx)⟩
theorem erase_perm {α : Type} : ∀ {l : List α} {k : Nat} {y : α}, l[k]? = some y → (y :: l.eraseIdx k).Perm l
  | [], k, y, h => by simp at h
  | x :: l, 0, y, h => by cases h; exact List.Perm.refl _
  | x :: l, k + 1, y, h => (List.Perm.swap x y _).trans ((erase_perm (l := l) (k := k) (y := y) h).cons x)
theorem PL.getD_lt {n : Nat} {l : List Nat} (h : PL n l) {i : Nat} (hi : i < n) : l.getD i 0 < n := by
  rw [List.getD_eq_getElem?_getD, List.getElem?_eq_getElem (by rw [h.len]; exact hi)]
  exact h.lt _ (List.getElem_mem _)
theorem PL.permF {n : Nat} {l : List Nat} (h : PL n l) : PermF (fun i => l.getD i 0) n := ⟨fun i hi => h.getD_lt hi, fun i j hi hj e => by
  have e' : l.getD i 0 = l.getD j 0 := e
  rw [List.getD_eq_getElem?_getD, List.getD_eq_getElem?_getD, List.getElem?_eq_getElem (by rw [h.len]; exact hi), List.getElem?_eq_getElem (by rw [h.len]; exact hj)] at e'
  exact nodup_inj h.nd e'⟩
theorem PermF.congr {f g : Nat → Nat} {n : Nat} (h : PermF f n) (e : ∀ i, i < n → g i = f i) : PermF g n := ⟨fun i hi => by rw [e i hi]; exact h.lt i hi, fun i j hi hj q => h.inj i j hi hj (by rw [← e i hi, ← e j hj]; exact q)⟩
theorem valid_zip {n : Nat} {a b : List Nat} (ha : PL n a) (hb : PL n b) (h1 : 1 ≤ n) (h2 : n ≤ 720) : Valid (a.zip b) := by
  have hl : (a.zip b).length = n := by rw [List.length_zip, ha.len, hb.len, Nat.min_self]
  have hg : ∀ i, i < n → (a.zip b).getD i (0, 0) = (a.getD i 0, b.getD i 0) := fun i hi => by
    have x1 : i < a.length := by rw [ha.len]; exact hi
    have x2 : i < b.length := by rw [hb.len]; exact hi
    rw [List.getD_eq_getElem?_getD, List.getD_eq_getElem?_getD, List.getD_eq_getElem?_getD, List.getElem?_eq_getElem (by rw [hl]; exact hi), List.getElem?_eq_getElem x1, List.getElem?_eq_getElem x2]
    simp
  refine ⟨by rw [hl]; exact h1, by rw [hl]; exact h2, ?_, ?_⟩
  · rw [hl]
    exact ha.permF.congr fun i hi => by unfold c1; rw [hg i hi]
  · rw [hl]
    exact hb.permF.congr fun i hi => by unfold c2; rw [hg i hi]
theorem pl_turn {n : Nat} : PL n ((List.range n).map fun i => (i + 1) % n) := by
  refine ⟨by simp, ?_, fun x hx => ?_⟩
  · refine List.pairwise_map.mpr (List.Pairwise.imp_of_mem (fun {i j} hi hj hne e => hne ?_) List.nodup_range)
    have hi := List.mem_range.mp hi
    have hj := List.mem_range.mp hj
    have key : ∀ i, i < n → (i + 1 < n ∧ (i + 1) % n = i + 1) ∨ (i + 1 = n ∧ (i + 1) % n = 0) := fun i hi => by
      by_cases c : i + 1 < n
      · exact .inl ⟨c, Nat.mod_eq_of_lt c⟩
      · have : i + 1 = n := by omega
        exact .inr ⟨this, by rw [this, Nat.mod_self]⟩
    rcases key i hi with ⟨a, b⟩ | ⟨a, b⟩ <;> rcases key j hj with ⟨a', b'⟩ | ⟨a', b'⟩ <;> omega
  · obtain ⟨i, hi, rfl⟩ := List.mem_map.mp hx
    have := List.mem_range.mp hi
    exact Nat.mod_lt _ (by omega)
/-- two entries exchanged -/
theorem PL.swap {n : Nat} {l : List Nat} (h : PL n l) {i j : Nat} (hi : i < n) (hj : j < n) : PL n ((l.set i (l.getD j 0)).set j (l.getD i 0)) := by
  have x1 : i < l.length := by rw [h.len]; exact hi
  have x2 : j < l.length := by rw [h.len]; exact hj
  have := List.set_set_perm (as := l) x1 x2
  rw [List.getD_eq_getElem?_getD, List.getD_eq_getElem?_getD, List.getElem?_eq_getElem x1, List.getElem?_eq_getElem x2]
  exact h.perm this
theorem getD_set_ne {l : List Nat} {i k v : Nat} (h : i ≠ k) : (l.set k v).getD i 0 = l.getD i 0 := by
  rw [List.getD_eq_getElem?_getD, List.getD_eq_getElem?_getD, List.getElem?_set_ne (Ne.symm h)]
end R45
end
section
set_option Elab.async false
set_option linter.all false
set_option maxRecDepth 100000
set_option maxHeartbeats 2000000
namespace R45
open PySem PySem.Spec PyProof.Rows L2 Evl
abbrev iV (n : Nat) : V := .int (n : Int)
theorem dts_nats_inv {G : Hp} : ∀ {l : List Nat} {xs : List V}, Dts G xs (l.map natD) → xs = l.map iV
  | [], _, h => by cases h; rfl
  | n :: l, _, h => by
    cases h with
    | cons h1 h2 =>
      cases h1
      rw [dts_nats_inv h2]
      rfl
theorem pop_idx {n k : Nat} (h : k < n) : seqIndex? (k : Int) n = some k := (ixN_seq (ixN_nat h)).1
theorem map_erase {α β : Type} {f : α → β} : ∀ (l : List α) (k : Nat), (l.map f).eraseIdx k = (l.eraseIdx k).map f
  | [], _ => rfl
  | _ :: _, 0 => rfl
  | x :: l, k + 1 => by
    show f x :: (l.map f).eraseIdx k = _
    rw [map_erase l k]
    rfl
/-! ### _law_mixed -/
def sp__law_mixed : Sp := spC fun c vs G P => ∃ n : Nat, vs = [.ref c, .int n] ∧ 1 ≤ n ∧ n ≤ 1000 ∧ ∀ l, PL n l → ∀ v' G', NewL G (l.map natD) v' G' → P v' G'
theorem len__law_mixed (vs : List V) (H : Hp) (Q : VK) (E : XK) (h : sp__law_mixed vs H Q E) : vs.length = ["_law_cup_here", "_law_many_here"].length := by
  obtain ⟨c, G, P, _, ⟨n, rfl, _⟩, _⟩ := h
  rfl
theorem rd__law_mixed {K : PySem.W.Frag} {vs : List V} {H : Hp} {Q : VK} {E : XK} (h : sp__law_mixed vs H Q E) :
  (tSeq (tPar 2 3 (tCons (tLstRg (tRg1 (tVar 1))) (tCons (tLst tNil) tNil))) (tSeq (tWhile (tTest (tOp (rNeD K) (tVar 2) (tLst tNil))) (tDrop (tBM K "list" rAppend (tVar 3) (tCons (tBM K "list" rPopAt (tVar 2) (tCons (tCall sp__law_roll [] C8.E0 (tCons (tVar 0) (tCons (tCB (rLenS K) (tCons (tVar 2) tNil)) tNil))) tNil)) tNil)))) (tRet (tVar 3))))
    { nx := fun x H' => Q V.non H', rt := Q } (L2.start ["_law_cup_here", "_law_many_here", "_law_line", "_law_found"] vs) H := by
  obtain ⟨c, G, P, w0, ⟨n0, rfl, hn1, hn, hP⟩, hQ⟩ := h
  refine q_parR (EvN.go (nw_listRg (n := n0) (e_var rfl (.int _)).D (by omega)) w0 (nlist_map nlist_nat _) fun l1 xs1 G1 H1 s1 hl1 gl1 h10 hx1 => ?_)
  cases dts_nats_inv hx1
  have w1 := s1.w w0
  have m1 : ¬ (mC c).M l1 := w0.newM h10
  refine EvN.go (nw_lst (t := tNil) a_nil (by decide)) w1 rfl fun l2 xs2 G2 H2 s2 hl2 gl2 h20 hx2 => ?_
  cases hx2
  have w2 := s2.w w1
  have m2 : ¬ (mC c).M l2 := w1.newM h20
  have h20' : H l2 = none := s1.fresh w0 h20
  obtain ⟨hl1, gl1⟩ := s2.mine m1 gl1 hl1
  have ne12 : l1 ≠ l2 := fun z => by
    rw [z] at hl1
    rw [hl1] at hl2
    cases n0 with
    | zero => omega
    | succ k => simp [List.range_succ] at hl2
  refine ⟨fun n σ' H' => ∃ a b G', n = a.length ∧ Stp (mC c) G H G' H' ∧ σ' = [some (.ref c), some (.int (n0 : Nat)), some (.ref l1), some (.ref l2)] ∧ H' l1 = some (.lst (a.map iV)) ∧ G' l1 = none ∧ H' l2 = some (.lst (b.map iV)) ∧ G' l2 = none ∧ (b ++ a).Perm (List.range n0),
    ⟨_, List.range n0, [], G2, rfl, s1.trans w0 s2, rfl, hl1, gl1, hl2, gl2, List.Perm.refl _⟩, fun n σ' H' hI => ?_⟩
  obtain ⟨a, b, G3, rfl, st, rfl, hl1, gl1, hl2, gl2, hp⟩ := hI
  have w3 := st.w w0
  have hlen := hp.length_eq
  rw [List.length_append, List.length_range] at hlen
  refine Cmp.goO (m := mC c) (l := l1) (o := .lst (a.map iV)) (hn := fun _ z => nomatch z) (f := tTest (tOp (rNeD K) (tVar 2) (tLst tNil)) _) (t_test (o_neNil (K := K) (ds := a.map natD) fixO rfl (dts_nats a) (sh_lstN a).ok)) w3 hl1 gl1 fun bb G4 H4 s4 hl1 gl1 hb => ?_
  subst hb
  have w4 := s4.w w3
  have st4 := st.trans w0 s4
  obtain ⟨hl2, gl2⟩ := s4.mine m2 gl2 hl2
  by_cases ha : a = []
  · subst ha
    rw [List.append_nil] at hp
    have := st4.tell h20' gl2 hl2
    refine ⟨.ref l2, rfl, hQ _ _ _ this (hP b ((pl_range n0).perm hp) _ _ ⟨l2, _, rfl, ?_, upd_same, (dts_nats b).mono (Ex.new gl2)⟩)⟩
    exact w0.low h20'
  · rw [show (!decide (List.map natD a = [])) = true by simp [ha]]
    dsimp only
    rw [if_pos rfl]
    have ha1 : 1 ≤ a.length := by
      cases a with
      | nil => exact absurd rfl ha
      | cons _ _ => simp
    refine ⟨fun σ3 H3 => ∃ n', n' < a.length ∧ _, fun σ3 H3 h => h, ?_⟩
    refine ⟨.ref l2, rfl, .inl ⟨rfl, _, sq_of hl2⟩, .ref l1, rfl, .inl ⟨rfl, _, sq_of hl1⟩, .ref c, rfl, .ref l1, rfl, l1, _, rfl, .inl (sq_of hl1), ?_⟩
    refine ⟨c, G4, fun v _ => ∃ k : Nat, k < a.length ∧ v = .int k, w4, ⟨a.length, by rw [List.length_map]; rfl, ha1, by omega, fun k hk G' => ⟨k, hk, rfl⟩⟩, fun v G5 H5 s5 ⟨k, hk, ev⟩ => ?_⟩
    subst ev
    obtain ⟨hl1, gl1⟩ := s5.mine m1 gl1 hl1
    obtain ⟨hl2, gl2⟩ := s5.mine m2 gl2 hl2
    have st5 := st4.trans w0 s5
    have hak : a[k]? = some a[k] := List.getElem?_eq_getElem hk
    refine ⟨l1, a.map iV, (k : Nat), k, iV a[k], rfl, rfl, hl1, by omega, by omega, by rw [List.length_map]; exact pop_idx hk, by rw [List.getElem?_map, hak]; rfl, ?_⟩
    have st6 := st5.mut w0 (o := .lst ((a.map iV).eraseIdx k)) h10 gl1 (fun φ z => by rw [hl1] at z; cases z)
    have hl2' : (upd H5 l1 (.lst ((a.map iV).eraseIdx k))) l2 = some (.lst (b.map iV)) := by
      rw [upd_ne (fun z => ne12 z.symm)]
      exact hl2
    refine ⟨l2, b.map iV, iV a[k], rfl, rfl, hl2', szT (by rw [List.length_map]; omega), ?_⟩
    have st7 := st6.mut w0 (o := .lst (b.map iV ++ [iV a[k]])) h20' gl2 (fun φ z => by rw [hl2'] at z; cases z)
    have hl1' : (upd (upd H5 l1 (.lst ((a.map iV).eraseIdx k))) l2 (.lst (b.map iV ++ [iV a[k]]))) l1 = some (.lst ((a.map iV).eraseIdx k)) := by
      rw [upd_ne ne12, upd_same]
    refine ⟨_, ?_, a.eraseIdx k, b ++ [a[k]], G5, rfl, st7, rfl, ?_, gl1, ?_, gl2, ?_⟩
    · rw [List.length_eraseIdx]
      rw [if_pos hk]
      omega
    · rw [hl1', map_erase]
    · rw [upd_same, List.map_append]
      rfl
    · rw [List.append_assoc]
      exact ((erase_perm hak).append_left b).trans hp
/-! ### _law_paired -/
def sp__law_paired : Sp := spC fun c vs G P => ∃ n : Nat, vs = [.ref c, .int n] ∧ 1 ≤ n ∧ n ≤ 720 ∧ ∀ t, Valid t → t.length = n → ∀ v' G', Dt G' v' (tabD t) → P v' G'
theorem zipD_nat {a b : List Nat} (h : a.length = b.length) : zipD (a.map natD) (b.map natD) = (a.zip b).map fun p => .tuple [natD p.1, natD p.2] := by
  unfold zipD
  refine List.ext_getElem (by simp) fun i h1 h2 => ?_
  have hi : i < a.length := by simp at h1; omega
  have hj : i < b.length := by omega
  simp [List.getD_eq_getElem?_getD, List.getElem?_eq_getElem hi, List.getElem?_eq_getElem hj]
section
variable {m : Mode} {σ : L2.St} {G G' H : Hp} {te ta tb tc tl : TE} {tt tu : TT} {d d' : PyData} {v : V} {K : PySem.W.Frag} {ds es : List PyData} {E : XK}
/-- tuple([(x, y) for x, y in zip(xs, ys)]) -/
theorem d_zipTab {a b : List Nat} {i j : Nat} (hij : i ≠ j) (h : a.length = b.length) (hn : a.length ≤ 1000000) (ha : EvD m ta σ G (lstN a)) (hb : EvD m tb σ G (lstN b)) (hi : i < σ.length) (hj : j < σ.length) :
    EvD m (tThen (tLc (iZip K (tCons ta (tCons tb tNil))) (gTup K 2 (gCons (gName i) (gCons (gName j) gNil))) tYes (tTup (tCons (tVar i) (tCons (tVar j) tNil))) [i, j]) (kTup K)) σ G (tabD (a.zip b)) := by
  have hI := i_zipL (m := m) (K := K) ha hb
  rw [zipD_nat h] at hI
  have hfl : ((a.zip b).filter fun _ => true) = a.zip b := List.filter_eq_self.mpr fun _ _ => rfl
  have := d_lc2 (m := m) (K := K) (te := tTup (tCons (tVar i) (tCons (tVar j) tNil))) (tt := tYes) (i := i) (j := j) (fun _ => true) (fun p => rowD p) hij hI (by rw [List.length_zip]; omega) (fun x _ v u G1 _ _ _ => t_yes)
    (fun x _ v u G1 _ hv hu _ => d_tup (a_cons (e_var (by rw [List.getElem?_set_ne (Ne.symm hij), List.getElem?_set_self (by simp; exact hi)]) hv).D (EvA.one (e_var (by rw [List.getElem?_set_self (by simp; exact hj)]) hu).D)) (by simp))
  rw [hfl] at this
  exact d_tupL this
end
theorem len__law_paired (vs : List V) (H : Hp) (Q : VK) (E : XK) (h : sp__law_paired vs H Q E) : vs.length = ["_law_cup_here", "_law_many_here"].length := by
  obtain ⟨c, G, P, _, ⟨n, rfl, _⟩, _⟩ := h
  rfl
theorem rd__law_paired {K : PySem.W.Frag} {vs : List V} {H : Hp} {Q : VK} {E : XK} (h : sp__law_paired vs H Q E) :
  (tSeq (tPar 2 3 (tCons (tCall sp__law_mixed [] C8.E0 (tCons (tVar 0) (tCons (tVar 1) tNil))) (tCons (tCall sp__law_mixed [] C8.E0 (tCons (tVar 0) (tCons (tVar 1) tNil))) tNil))) (tSeq (tIfS (tTest (tOp rEq (tCall sp__law_roll [] C8.E0 (tCons (tVar 0) (tCons (tC (V.int 3)) tNil))) (tC (V.int 0)))) (tAsg (tLc (iRng1 (tCons (tVar 1) tNil)) (gName 8) tYes (tOp (rI (fun x j => 0 < j) fun i j => V.int (i % j)) (tOp (rI0 fun i j => V.int (i + j)) (tVar 8) (tC (V.int 1))) (tVar 1)) [8]) (gName 2)) tNext) (tSeq (tPar 4 5 (tCons (tCB (rListS K) (tCons (tVar 2) tNil)) (tCons (tCall sp__law_some [] C8.E0 (tCons (tVar 0) (tCons (tLst (tCons (tC (V.int 0)) (tCons (tC (V.int 0)) (tCons (tC (V.int 1)) (tCons (tC (V.int 2)) (tCons (tC (V.int 3)) tNil)))))) tNil))) tNil))) (tSeq (tWhile (tTest (tOp (rI0 fun i j => V.bl (decide (j < i))) (tCB (rLenS K) (tCons (tVar 3) tNil)) (tCB (fun xs H Q => ∃ i j, xs = [V.int i, V.int j] ∧ Q (V.int (if j > i then j else i)) H) (tCons (tC (V.int 1)) (tCons (tVar 5) tNil))))) (tSeq (tPar 6 7 (tCons (tBM0 K "list" rPop (tVar 3)) (tCons (tBM0 K "list" rPop (tVar 3)) tNil))) (tAsg (tTup (tCons (tOp (rIxL K) (tVar 2) (tVar 7)) (tCons (tOp (rIxL K) (tVar 2) (tVar 6)) tNil))) (gTup K 2 (gCons (gSub (tVar 4) (tVar 6) rSetL) (gCons (gSub (tVar 4) (tVar 7) rSetL) gNil)))))) (tRet (tThen (tLc (iZip K (tCons (tVar 2) (tCons (tVar 4) tNil))) (gTup K 2 (gCons (gName 6) (gCons (gName 7) gNil))) tYes (tTup (tCons (tVar 6) (tCons (tVar 7) tNil))) [6, 7]) (kTup K)))))))
    { nx := fun x H' => Q V.non H', rt := Q } (L2.start ["_law_cup_here", "_law_many_here", "_law_first", "_law_line", "_law_last", "_law_alone", "_law_one", "_law_two_here", "_law_at"] vs) H := by
  obtain ⟨c, G, P, w0, ⟨n0, rfl, hn1, hn, hP⟩, hQ⟩ := h
  refine q_parR ⟨.ref c, rfl, .int n0, rfl, c, G, fun v' G' => ∃ l, PL n0 l ∧ NewL G (l.map natD) v' G', w0, ⟨n0, rfl, hn1, by omega, fun l hl v' G' h => ⟨l, hl, h⟩⟩, fun v1 G1 H1 s1 ⟨f0, hf0, hnew1⟩ => ?_⟩
  have hv1 := hnew1.dt
  have w1 := s1.w w0
  refine ⟨.ref c, rfl, .int n0, rfl, c, G1, fun v' G' => ∃ l, PL n0 l ∧ NewL G1 (l.map natD) v' G', w1, ⟨n0, rfl, hn1, by omega, fun l hl v' G' h => ⟨l, hl, h⟩⟩, fun v2 G2 H2 s2 ⟨a0, ha0, l3, xs3, e1, e2, e3, e4⟩ => ?_⟩
  subst e1
  obtain ⟨s2', hl3, h30⟩ := s2.untell w1 e2 e3 (fun _ z => nomatch z)
  cases dts_nats_inv e4
  have gl3 : delG G2 l3 l3 = none := delG_same
  have h30' : H l3 = none := s1.fresh w0 h30
  have m3 : ¬ (mC c).M l3 := w1.newM h30
  have st2 := s1.trans w0 s2'
  have w2 := st2.w w0
  have hv1' : Dt (delG G2 l3) v1 (lstN f0) := hv1.mono s2'.ex
  -- what follows the test
  have rest : ∀ (f : List Nat) (vf : V) (o8 : Option V) (G3 H3 : Hp), PL n0 f → Stp (mC c) (delG G2 l3) H2 G3 H3 → Dt G3 vf (lstN f) →
      (tSeq (tPar 4 5 (tCons (tCB (rListS K) (tCons (tVar 2) tNil)) (tCons (tCall sp__law_some [] C8.E0 (tCons (tVar 0) (tCons (tLst (tCons (tC (V.int 0)) (tCons (tC (V.int 0)) (tCons (tC (V.int 1)) (tCons (tC (V.int 2)) (tCons (tC (V.int 3)) tNil)))))) tNil))) tNil))) (tSeq (tWhile (tTest (tOp (rI0 fun i j => V.bl (decide (j < i))) (tCB (rLenS K) (tCons (tVar 3) tNil)) (tCB (fun xs H Q => ∃ i j, xs = [V.int i, V.int j] ∧ Q (V.int (if j > i then j else i)) H) (tCons (tC (V.int 1)) (tCons (tVar 5) tNil))))) (tSeq (tPar 6 7 (tCons (tBM0 K "list" rPop (tVar 3)) (tCons (tBM0 K "list" rPop (tVar 3)) tNil))) (tAsg (tTup (tCons (tOp (rIxL K) (tVar 2) (tVar 7)) (tCons (tOp (rIxL K) (tVar 2) (tVar 6)) tNil))) (gTup K 2 (gCons (gSub (tVar 4) (tVar 6) rSetL) (gCons (gSub (tVar 4) (tVar 7) rSetL) gNil)))))) (tRet (tThen (tLc (iZip K (tCons (tVar 2) (tCons (tVar 4) tNil))) (gTup K 2 (gCons (gName 6) (gCons (gName 7) gNil))) tYes (tTup (tCons (tVar 6) (tCons (tVar 7) tNil))) [6, 7]) (kTup K)))))
      { nx := fun x H' => Q V.non H', rt := Q } [some (.ref c), some (.int (n0 : Nat)), some vf, some (.ref l3), none, none, none, none, o8] H3 := by
    intro f vf o8 G3 H3 hf s3 hvf
    have w3 := s3.w w2
    have st3 := st2.trans w0 s3
    obtain ⟨hl3, gl3⟩ := s3.mine m3 gl3 hl3
    refine q_parR (EvN.go (nw_listL (K := K) (e_var rfl hvf).D) w3 (nlist_map nlist_nat _) fun l4 xs4 G4 H4 s4 hl4 gl4 h40 hx4 => ?_)
    cases dts_nats_inv hx4
    have w4 := s4.w w3
    have m4 : ¬ (mC c).M l4 := w3.newM h40
    have h40' : H l4 = none := st3.fresh w0 h40
    have ne34 : l3 ≠ l4 := fun z => by
      rw [z, h40] at hl3
      cases hl3
    obtain ⟨hl3, gl3⟩ := s4.mine m3 gl3 hl3
    have st4 := st3.trans w0 s4
    refine Cmp.go (p_some (ds := [natD 0, natD 0, natD 1, natD 2, natD 3]) (σ := [some (.ref c), some (.int (n0 : Nat)), some vf, some (.ref l3), none, none, none, none, o8]) (am_v (n_var rfl) (am_d (d_lst (a_cons (e_int 0).D (a_cons (e_int 0).D (a_cons (e_int 1).D (a_cons (e_int 2).D (EvA.one (e_int 3).D))))) (by simp)) am_nil)) (by simp) (by simp)) w4 fun v5 G5 H5 s5 ⟨d5, hd5, hv5⟩ => ?_
    obtain ⟨k5, rfl⟩ : ∃ k : Nat, d5 = natD k := by
      simp only [List.mem_cons, List.not_mem_nil, or_false] at hd5
      rcases hd5 with e | e | e | e | e <;> exact ⟨_, e⟩
    cases hv5
    have w5 := s5.w w4
    have st5 := st4.trans w0 s5
    obtain ⟨hl3, gl3⟩ := s5.mine m3 gl3 hl3
    obtain ⟨hl4, gl4⟩ := s5.mine m4 gl4 hl4
    refine ⟨fun n σ' H' => ∃ a b G' o6 o7, n = a.length ∧ Stp (mC c) G H G' H' ∧ Ex G3 G' ∧ σ' = [some (.ref c), some (.int (n0 : Nat)), some vf, some (.ref l3), some (.ref l4), some (.int (k5 : Nat)), o6, o7, o8] ∧ H' l3 = some (.lst (a.map iV)) ∧ G' l3 = none ∧ H' l4 = some (.lst (b.map iV)) ∧ G' l4 = none ∧
        PL n0 b ∧ a.Nodup ∧ (∀ i ∈ a, i < n0) ∧ ∀ i ∈ a, b.getD i 0 = f.getD i 0,
      ⟨_, a0, f, G5, none, none, rfl, st5, s4.ex.trans s5.ex, rfl, hl3, gl3, hl4, gl4, hf, ha0.nd, ha0.lt, fun _ _ => rfl⟩, fun n σ' H' hI => ?_⟩
    obtain ⟨a, b, G6, o6, o7, rfl, st6, e36, rfl, hl3, gl3, hl4, gl4, hb, hand, halt, hab⟩ := hI
    have w6 := st6.w w0
    refine ⟨.ref l3, rfl, l3, _, rfl, .inl (sq_of hl3), .int (k5 : Nat), rfl, 1, (k5 : Nat), rfl, _, _, rfl, rfl, _, rfl, ?_⟩
    generalize hmx : (if (k5 : Int) > 1 then (k5 : Int) else 1) = mx
    have hmx1 : 1 ≤ mx := by
      rw [← hmx]
      split <;> omega
    by_cases hc : mx < ((a.map iV).length : Int)
    · rw [decide_eq_true hc]
      dsimp only
      rw [if_pos rfl]
      rw [List.length_map] at hc
      obtain ⟨a', y2, y1, rfl⟩ : ∃ a' y2 y1, a = (a' ++ [y2]) ++ [y1] := by
        have h1 : a ≠ [] := fun z => by subst z; simp at hc; omega
        have h2 : a.dropLast ≠ [] := fun z => by
          have : a.dropLast.length = 0 := by rw [z]; rfl
          rw [List.length_dropLast] at this
          omega
        exact ⟨a.dropLast.dropLast, a.dropLast.getLast h2, a.getLast h1, by rw [List.dropLast_concat_getLast, List.dropLast_concat_getLast]⟩
      have y1n : y1 < n0 := halt y1 (by simp)
      have y2n : y2 < n0 := halt y2 (by simp)
      have yne : y1 ≠ y2 := fun z => by
        subst z
        have := (List.nodup_append.mp hand).2.2 y1 (by simp) y1 (by simp)
        exact this rfl
      refine ⟨fun σ3 H3 => ∃ n', n' < ((a' ++ [y2]) ++ [y1]).length ∧ _, fun σ3 H3 h => h, ?_⟩
      have em : ((a' ++ [y2]) ++ [y1]).map iV = (a' ++ [y2]).map iV ++ [iV y1] := by rw [List.map_append]; rfl
      have em2 : (a' ++ [y2]).map iV = a'.map iV ++ [iV y2] := by rw [List.map_append]; rfl
      rw [em] at hl3
      refine q_parR ⟨.ref l3, rfl, .inl ⟨rfl, _, sq_of hl3⟩, l3, _, iV y1, rfl, rfl, hl3, by simp, ?_⟩
      rw [List.dropLast_concat, em2]
      have st7 := st6.mut w0 (o := .lst (a'.map iV ++ [iV y2])) h30' gl3 (fun φ z => by rw [hl3] at z; cases z)
      refine ⟨.ref l3, rfl, .inl ⟨rfl, _, sq_of upd_same⟩, l3, _, iV y2, rfl, rfl, upd_same, by simp, ?_⟩
      rw [List.dropLast_concat]
      have st8 := st7.mut w0 (o := .lst (a'.map iV)) h30' gl3 (fun φ z => by rw [upd_same] at z; cases z)
      have w8 := st8.w w0
      have hl4' : (upd (upd H' l3 (.lst (a'.map iV ++ [iV y2]))) l3 (.lst (a'.map iV))) l4 = some (.lst (b.map iV)) := by
        rw [upd_ne (fun z => ne34 z.symm), upd_ne (fun z => ne34 z.symm)]
        exact hl4
      have hvf6 := hvf.mono e36
      refine s_asgG w8 (d_tup (a_cons (e_ixL (K := K) (ta := tVar 2) (tb := tVar 7) (e_var rfl hvf6) (e_var rfl (.int (y2 : Nat))) (at_nat (l := f) (k := y2) (by rw [hf.len]; exact y2n))).D (EvA.one (e_ixL (K := K) (ta := tVar 2) (tb := tVar 6) (e_var rfl hvf6) (e_var rfl (.int (y1 : Nat))) (at_nat (l := f) (k := y1) (by rw [hf.len]; exact y1n))).D)) (by simp)) fun vv G9 H9 s9 hv9 => ?_
      obtain ⟨hl3, gl3⟩ := s9.mine m3 gl3 upd_same
      obtain ⟨hl4, gl4⟩ := s9.mine m4 gl4 hl4'
      have st9 := st8.trans w0 s9
      obtain ⟨tp, us, rfl, gtp, hus⟩ := hv9.tup_inv
      obtain ⟨v1, v2, rfl, hv1, hv2⟩ := hus.two_inv
      cases hv1
      cases hv2
      refine ⟨tp, _, rfl, st_of (s9.le _ _ gtp), rfl, _, [_], rfl, .ref l4, rfl, .int (y1 : Nat), rfl, l4, b.map iV, (y1 : Nat), y1, rfl, rfl, hl4, ixN_nat (by rw [List.length_map, hb.len]; exact y1n), _, [], rfl, .ref l4, rfl, .int (y2 : Nat), rfl, ?_⟩
      refine ⟨l4, (b.map iV).set y1 (iV (f.getD y2 0)), (y2 : Nat), y2, rfl, rfl, upd_same, ixN_nat (by rw [List.length_set, List.length_map, hb.len]; exact y2n), rfl, ?_⟩
      refine ⟨_, ?_, a', (b.set y1 (b.getD y2 0)).set y2 (b.getD y1 0), G9, _, _, rfl, (st9.mut w0 (o := .lst ((b.map iV).set y1 (iV (f.getD y2 0)))) h40' gl4 (fun φ z => by rw [hl4] at z; cases z)).mut w0 h40' gl4 (fun φ z => by rw [upd_same] at z; cases z), e36.trans s9.ex, rfl, ?_, gl3, ?_, gl4, hb.swap y1n y2n, ?_, fun i hi => halt i (by simp [hi]), fun i hi => ?_⟩
      · simp
      · rw [upd_ne ne34, upd_ne ne34]
        exact hl3
      · rw [upd_same, hab y1 (by simp), hab y2 (by simp), List.map_set, List.map_set]
      · exact (List.nodup_append.mp (List.nodup_append.mp hand).1).1
      · have i1 : i ≠ y1 := (List.nodup_append.mp hand).2.2 i (by simp [hi]) y1 (by simp)
        have i2 : i ≠ y2 := (List.nodup_append.mp (List.nodup_append.mp hand).1).2.2 i hi y2 (by simp)
        rw [getD_set_ne i2, getD_set_ne i1]
        exact hab i (by simp [hi])
    · rw [decide_eq_false hc]
      dsimp only
      rw [if_neg (by simp)]
      have st9 := st6.tell h40' gl4 hl4
      have w9 := st9.w w0
      have hb9 : Dt (upd G6 l4 (.lst (b.map iV))) (.ref l4) (lstN b) := .lst upd_same (dts_nats b)
      refine s_ret w9 (d_zipTab (K := K) (a := f) (b := b) (by decide) (hf.len.trans hb.len.symm) (by rw [hf.len]; omega) (e_var rfl (hvf.mono (e36.trans (Ex.new gl4)))).D (e_var rfl hb9).D (by show 6 < 9; omega) (by show 7 < 9; omega)) fun v' G' H' s' hv' => hQ v' G' H' (st9.trans w0 s') (hP _ (valid_zip hf hb hn1 hn) (by rw [List.length_zip, hf.len, hb.len, Nat.min_self]) v' G' hv')
  refine ⟨.ref c, rfl, c, _, fun v _ => ∃ k : Nat, k < 3 ∧ v = .int k, w2, ⟨3, rfl, by omega, by omega, fun k hk G' => ⟨k, hk, rfl⟩⟩, fun v3 G3 H3 s3 ⟨k, hk, ev⟩ => ?_⟩
  subst ev
  refine ⟨rfl, _, rfl, ?_⟩
  by_cases hz : V.int (k : Nat) = V.int 0
  · rw [decide_eq_true hz]
    dsimp only
    rw [if_pos rfl]
    have w3 := s3.w w2
    have hfl : ((List.range n0).filter fun _ => true) = List.range n0 := List.filter_eq_self.mpr fun _ _ => rfl
    have hL := d_lc1 (m := mC c) (G := G3) (σ := [some (.ref c), some (.int (n0 : Nat)), some v1, some (.ref l3), none, none, none, none, none]) (tt := tYes) (te := tOp (rI (fun x j => 0 < j) fun i j => V.int (i % j)) (tOp (rI0 fun i j => V.int (i + j)) (tVar 8) (tC (V.int 1))) (tVar 1)) (wi := iRng1 (tCons (tVar 1) tNil)) (j := 8)
      (xs := List.range n0) (enc := natD) (fun _ => true) (fun i => natD ((i + 1) % n0)) (i_rngN (n := n0) (e_var rfl (.int _)).D (by omega)) (by rw [List.length_range]; omega) (fun x _ v G1 _ _ => t_yes)
      (fun x _ v G1 _ hv _ => ((e_mod (j := (n0 : Nat)) (e_add (e_var rfl hv) (e_int 1)) (e_var rfl (.int _)) (by omega)).is (by
        congr 1)).D)
    rw [hfl] at hL
    have e8 : (List.range n0).map (fun i => natD ((i + 1) % n0)) = ((List.range n0).map fun i => (i + 1) % n0).map natD := by
      rw [List.map_map]
      rfl
    rw [e8] at hL
    exact s_asg w3 hL fun vf G4 H4 s4 hf4 => rest _ vf none G4 H4 pl_turn (s3.trans w2 s4) hf4
  · rw [decide_eq_false hz]
    dsimp only
    rw [if_neg (by simp)]
    exact rest f0 v1 none G3 H3 hf0 s3 (hv1'.mono s3.ex)
end R45
end
section
set_option Elab.async false
set_option linter.all false
set_option maxRecDepth 100000
set_option maxHeartbeats 2000000
namespace R45
open PySem PySem.Spec PyProof.Rows L2 Evl
/-! literals -/
mutual
def lit : PyData → TE
  | .none => tC .non
  | .bool b => tC (.bl b)
  | .int i => tC (.int i)
  | .str s => tC (.str s)
  | .list ds => tLst (lits ds)
  | .tuple ds => tTup (lits ds)
  | .dict _ => tC .non
def lits : List PyData → TA
  | [] => tNil
  | d :: ds => tCons (lit d) (lits ds)
end
mutual
def litOk : PyData → Bool
  | .list ds => decide (ds.length ≤ 1000000) && litsOk ds
  | .tuple ds => decide (ds.length ≤ 1000000) && litsOk ds
  | .dict _ => false
  | _ => true
def litsOk : List PyData → Bool
  | [] => true
  | d :: ds => litOk d && litsOk ds
end
section
variable {m : Mode} {σ : L2.St} {G : Hp}
mutual
theorem d_lit : ∀ {d : PyData}, litOk d = true → EvD m (lit d) σ G d
  | .none, _ => e_non.D
  | .bool b, _ => (e_bl b).D
  | .int i, _ => (e_int i).D
  | .str s, _ => (e_str s).D
  | .list ds, h => by
    rw [litOk, Bool.and_eq_true] at h
    rw [lit]
    exact d_lst (a_lits h.2) (of_decide_eq_true h.1)
  | .tuple ds, h => by
    rw [litOk, Bool.and_eq_true] at h
    rw [lit]
    exact d_tup (a_lits h.2) (of_decide_eq_true h.1)
  | .dict _, h => by simp [litOk] at h
theorem a_lits : ∀ {ds : List PyData}, litsOk ds = true → EvA m (lits ds) σ G ds
  | [], _ => by rw [lits]; exact a_nil
  | d :: ds, h => by
    rw [litsOk, Bool.and_eq_true] at h
    rw [lits]
    exact a_cons (d_lit h.1) (a_lits h.2)
end
end
/-! ### _law_few -/
def chB (b : Nat) (c : List Nat) : Bool := decide (c.Pairwise fun p q => p + 1 < q) && c.all fun p => decide (p + 1 < b)
theorem chB_ok {b : Nat} {c : List Nat} (h : chB b c = true) : ChOk b c := by
  unfold chB at h
  rw [Bool.and_eq_true, List.all_eq_true] at h
  exact ⟨of_decide_eq_true h.1, fun p hp => of_decide_eq_true (h.2 p hp)⟩
def leB (b : Nat) (l : List (List Nat)) : Bool := !l.isEmpty && (l.all (chB b) && decide (l.length ≤ 100))
theorem leB_ok {b : Nat} {l : List (List Nat)} (h : leB b l = true) : LeadOk b l := by
  unfold leB at h
  rw [Bool.and_eq_true, Bool.and_eq_true, List.all_eq_true] at h
  refine ⟨fun z => ?_, fun c hc => chB_ok (h.2.1 c hc), of_decide_eq_true h.2.2⟩
  subst z
  simp at h
def some5 : List (List (List Nat)) := [[[0, 2]], [[1, 3]], [[0, 2], [1, 3]], [[1, 3], [0, 2]], [[]], [[0, 2], [1, 3], [0, 2]]]
def some6 : List (List (List Nat)) := [[[0, 2, 4]], [[1, 3]], [[0, 2, 4], [1, 3]], [[]], [[1, 3], [0, 2, 4], [1, 3]]]
structure WaysOk (lo hi b : Nat) (ls : List (List (List Nat))) : Prop where
  b1 : 2 ≤ b
  b2 : b ≤ 6
  lo : lo ≤ ls.length
  hi : ls.length ≤ hi
  ok : ∀ l ∈ ls, LeadOk b l
abbrev waysD (ls : List (List (List Nat))) : PyData := .tuple (ls.map leadD)
def sp__law_few : Sp := spC fun c vs G P => vs = [.ref c] ∧ ∀ b ls, WaysOk 1 10 b ls → ∀ v' G', Dt G' v' (.tuple [natD b, waysD ls]) → P v' G'
section
variable {c : Addr} {σ : L2.St} {G G' H : Hp} {te ta tb tc tl : TE} {tt tu : TT} {d d' : PyData} {v : V} {K : PySem.W.Frag} {ds es : List PyData} {E : XK} {m : Mode}
theorem p_pair {b lo hi : Nat} (hb2 : 2 ≤ b) (hb6 : b ≤ 6) (ha : EvE ta σ G (natD b)) (h : EvP m tb σ G (fun d => ∃ es, d = .tuple es ∧ lo ≤ es.length ∧ es.length ≤ hi ∧ ∀ e ∈ es, ∃ l, LeadOk b l ∧ e = leadD l)) :
    EvP m (tTup (tCons ta (tCons tb tNil))) σ G (fun d => ∃ b ls, WaysOk lo hi b ls ∧ d = .tuple [natD b, waysD ls]) :=
  (p_tup (ap_cons ha.D.P (ap_cons h ap_nil)) (fun ds ⟨d, r, e1, _, d2, r2, e2, _, e3⟩ => by subst e1; subst e2; subst e3; simp)).imp fun d ⟨ds, e0, d1, r, e1, e4, d2, r2, e2, ⟨es, e5, h1, h2, h3⟩, e3⟩ => by
    obtain ⟨ls, rfl, hl⟩ := list_of h3
    rw [List.length_map] at h1 h2
    refine ⟨b, ls, ⟨hb2, hb6, h1, h2, hl⟩, ?_⟩
    rw [e0, e1, e4, e2, e5, e3]
end
theorem len__law_few (vs : List V) (H : Hp) (Q : VK) (E : XK) (h : sp__law_few vs H Q E) : vs.length = ["_law_cup_here"].length := by
  obtain ⟨c, G, P, _, ⟨rfl, _⟩, _⟩ := h
  rfl
theorem rd__law_few {K : PySem.W.Frag} {vs : List V} {H : Hp} {Q : VK} {E : XK} (h : sp__law_few vs H Q E) :
  (tSeq (tAsg (tCall sp__law_some [] C8.E0 (tCons (tVar 0) (tCons (tLst (tCons (tC (V.int 2)) (tCons (tC (V.int 3)) (tCons (tC (V.int 3)) (tCons (tC (V.int 3)) (tCons (tC (V.int 4)) (tCons (tC (V.int 4)) (tCons (tC (V.int 4)) (tCons (tC (V.int 5)) (tCons (tC (V.int 6)) tNil)))))))))) tNil))) (gName 1)) (tSeq (tIfS (tTest (tOp (rI0 fun i j => V.bl (decide (j < i))) (tVar 1) (tC (V.int 4)))) (tSeq (tAsg (tLst (tCons (tTup (tCons (tTup (tCons (tC (V.int 0)) (tCons (tC (V.int 2)) tNil))) tNil)) (tCons (tTup (tCons (tTup (tCons (tC (V.int 1)) (tCons (tC (V.int 3)) tNil))) tNil)) (tCons (tTup (tCons (tTup (tCons (tC (V.int 0)) (tCons (tC (V.int 2)) tNil))) (tCons (tTup (tCons (tC (V.int 1)) (tCons (tC (V.int 3)) tNil))) tNil))) (tCons (tTup (tCons (tTup (tCons (tC (V.int 1)) (tCons (tC (V.int 3)) tNil))) (tCons (tTup (tCons (tC (V.int 0)) (tCons (tC (V.int 2)) tNil))) tNil))) (tCons (tTup (tCons (tTup tNil) tNil)) (tCons (tTup (tCons (tTup (tCons (tC (V.int 0)) (tCons (tC (V.int 2)) tNil))) (tCons (tTup (tCons (tC (V.int 1)) (tCons (tC (V.int 3)) tNil))) (tCons (tTup (tCons (tC (V.int 0)) (tCons (tC (V.int 2)) tNil))) tNil)))) tNil))))))) (gName 2)) (tSeq (tIfS (tTest (tOp rEq (tVar 1) (tC (V.int 6)))) (tAsg (tLst (tCons (tTup (tCons (tTup (tCons (tC (V.int 0)) (tCons (tC (V.int 2)) (tCons (tC (V.int 4)) tNil)))) tNil)) (tCons (tTup (tCons (tTup (tCons (tC (V.int 1)) (tCons (tC (V.int 3)) tNil))) tNil)) (tCons (tTup (tCons (tTup (tCons (tC (V.int 0)) (tCons (tC (V.int 2)) (tCons (tC (V.int 4)) tNil)))) (tCons (tTup (tCons (tC (V.int 1)) (tCons (tC (V.int 3)) tNil))) tNil))) (tCons (tTup (tCons (tTup tNil) tNil)) (tCons (tTup (tCons (tTup (tCons (tC (V.int 1)) (tCons (tC (V.int 3)) tNil))) (tCons (tTup (tCons (tC (V.int 0)) (tCons (tC (V.int 2)) (tCons (tC (V.int 4)) tNil)))) (tCons (tTup (tCons (tC (V.int 1)) (tCons (tC (V.int 3)) tNil))) tNil)))) tNil)))))) (gName 2)) tNext) (tRet (tTup (tCons (tVar 1) (tCons (tThen (tLc (iRng1 (tCons (tOp (rI0 fun i j => V.int (i + j)) (tC (V.int 1)) (tCall sp__law_roll [] C8.E0 (tCons (tVar 0) (tCons (tC (V.int 3)) tNil)))) tNil)) (gName 3) tYes (tCall sp__law_some [] C8.E0 (tCons (tVar 0) (tCons (tVar 2) tNil))) [3]) (kTup K)) tNil)))))) tNext) (tRet (tTup (tCons (tVar 1) (tCons (tThen (tLc (iRng1 (tCons (tOp (rI0 fun i j => V.int (i + j)) (tC (V.int 1)) (tCall sp__law_roll [] C8.E0 (tCons (tVar 0) (tCons (tC (V.int 4)) tNil)))) tNil)) (gName 3) tYes (tCall sp__law_lead [] C8.E0 (tCons (tVar 0) (tCons (tVar 1) (tCons (tC (V.int 3)) tNil)))) [3]) (kTup K)) tNil))))))
    { nx := fun x H' => Q V.non H', rt := Q } (L2.start ["_law_cup_here", "_law_bells", "_law_some_here", "_law_turn_here"] vs) H := by
  obtain ⟨c, G, P, w0, ⟨rfl, hP⟩, hQ⟩ := h
  have hL : EvD (mC c) (tLst (tCons (tC (V.int 2)) (tCons (tC (V.int 3)) (tCons (tC (V.int 3)) (tCons (tC (V.int 3)) (tCons (tC (V.int 4)) (tCons (tC (V.int 4)) (tCons (tC (V.int 4)) (tCons (tC (V.int 5)) (tCons (tC (V.int 6)) tNil)))))))))) [some (.ref c), none, none, none] G (lstN [2, 3, 3, 3, 4, 4, 4, 5, 6]) := d_lit (d := lstN [2, 3, 3, 3, 4, 4, 4, 5, 6]) rfl
  refine q_asg w0 (p_some (am_v (n_var rfl) (am_d hL am_nil)) (by simp) (by simp)) fun v1 G1 H1 s1 ⟨d, hd, hv⟩ => ?_
  have w1 := s1.w w0
  obtain ⟨b, hb, rfl⟩ := List.mem_map.mp hd
  have hb2 : 2 ≤ b ∧ b ≤ 6 := by
    simp only [List.mem_cons, List.not_mem_nil, or_false] at hb
    omega
  cases hv
  have fin : ∀ (vs : V) (L : List (List (List Nat))) (G2 H2 : Hp), Stp (mC c) G1 H1 G2 H2 → Dt G2 vs (.list (L.map leadD)) → 1 ≤ L.length → L.length ≤ 10 → (∀ l ∈ L, LeadOk b l) →
      (tRet (tTup (tCons (tVar 1) (tCons (tThen (tLc (iRng1 (tCons (tOp (rI0 fun i j => V.int (i + j)) (tC (V.int 1)) (tCall sp__law_roll [] C8.E0 (tCons (tVar 0) (tCons (tC (V.int 3)) tNil)))) tNil)) (gName 3) tYes (tCall sp__law_some [] C8.E0 (tCons (tVar 0) (tCons (tVar 2) tNil))) [3]) (kTup K)) tNil))))
        { nx := fun x H' => Q V.non H', rt := Q } [some (.ref c), some (.int (b : Nat)), some vs, none] H2 := by
    intro vs L G2 H2 s2 hvs h1 h2 hLk
    have w2 := s2.w w1
    refine s_ret w2 (p_pair (lo := 1) (hi := 3) hb2.1 hb2.2 (e_var (d := natD b) rfl (.int _)) (p_many (n := 3) (j := 3) (Pe := fun e => ∃ l, LeadOk b l ∧ e = leadD l) (p_roll (n := 3) (am_v (n_var rfl) (am_d (e_int 3).D am_nil)) (by omega) (by omega)) (by omega) fun x G3 e =>
      (p_some (ds := L.map leadD) (am_v (n_var rfl) (am_d (e_var rfl (hvs.mono e)).D am_nil)) (by rw [List.length_map]; exact h1) (by rw [List.length_map]; omega)).imp fun d hd => ?_)) fun v' G4 H4 s4 ⟨d, ⟨b', ls, hw, ed⟩, hv'⟩ => ?_
    · obtain ⟨l, hl, e⟩ := List.mem_map.mp hd
      exact ⟨l, hLk l hl, e.symm⟩
    · subst ed
      exact hQ v' G4 H4 ((s1.trans w0 s2).trans w0 s4) (hP b' ls ⟨hw.b1, hw.b2, hw.lo, by have := hw.hi; omega, hw.ok⟩ v' G4 hv')
  refine q_when (b := decide ((4 : Int) < (b : Nat))) w1 (t_test (d_cmpI (g := fun i j => decide (j < i)) (e_var (d := natD b) rfl (.int _)).D (e_int 4).D)) (fun hb4 G2 H2 s2 => ?_) (fun hb4 G2 H2 s2 => ?_)
  · have hb4 : 4 < b := by have := of_decide_eq_true hb4; omega
    have w2 := s2.w w1
    refine q_asg w2 (d_lit (d := .list (some5.map leadD)) rfl) fun v2 G3 H3 s3 h3 => ?_
    have w3 := s3.w w2
    have st3 := s2.trans w1 s3
    refine q_when (b := decide (b = 6)) w3 (t_test (d_eqN (j := 6) (e_var (d := natD b) rfl (.int _)).D (e_int 6).D)) (fun h6 G4 H4 s4 => ?_) (fun h6 G4 H4 s4 => ?_)
    · have h6 : b = 6 := of_decide_eq_true h6
      subst h6
      refine s_asg (s4.w w3) (d_lit (d := .list (some6.map leadD)) rfl) fun v5 G5 H5 s5 h5 => fin v5 some6 G5 H5 ((st3.trans w1 s4).trans w1 s5) h5 (by decide) (by decide) fun l hl => leB_ok ?_
      have : some6.all (leB 6) = true := by decide
      exact List.all_eq_true.mp this l hl
    · have h6 : b = 5 := by have := of_decide_eq_false h6; omega
      subst h6
      refine fin v2 some5 G4 H4 (st3.trans w1 s4) (h3.mono s4.ex) (by decide) (by decide) fun l hl => leB_ok ?_
      have : some5.all (leB 5) = true := by decide
      exact List.all_eq_true.mp this l hl
  · have w2 := s2.w w1
    refine s_ret w2 (p_pair (lo := 1) (hi := 4) hb2.1 hb2.2 (e_var (d := natD b) rfl (.int _)) (p_many (n := 4) (j := 3) (Pe := fun e => ∃ l, LeadOk b l ∧ e = leadD l) (p_roll (n := 4) (am_v (n_var rfl) (am_d (e_int 4).D am_nil)) (by omega) (by omega)) (by omega) fun x G3 e =>
      c_callC (P := fun v' G' => ∃ d, (∃ l, LeadOk b l ∧ d = leadD l) ∧ Dt G' v' d) (am_v (n_var rfl) (am_d (e_var (d := natD b) rfl (.int _)).D (am_d (e_int 3).D am_nil))) fun vs G4 e4 has G5 e5 => ?_)) fun v' G4 H4 s4 ⟨d, ⟨b', ls, hw, ed⟩, hv'⟩ => ?_
    · obtain ⟨x, y, z, rfl, h3, h4, h5⟩ := has.three
      cases h3
      cases h4
      cases h5
      exact ⟨b, 3, rfl, by omega, hb2.2, by omega, by omega, fun l hl v' G' hv => ⟨_, ⟨l, hl, rfl⟩, hv⟩⟩
    · subst ed
      exact hQ v' G4 H4 ((s1.trans w0 s2).trans w0 s4) (hP b' ls ⟨hw.b1, hw.b2, hw.lo, by have := hw.hi; omega, hw.ok⟩ v' G4 hv')
/-! ### _law_two -/
def sp__law_two : Sp := spC fun c vs G P => vs = [.ref c] ∧ ∀ b ls, WaysOk 2 11 b ls → ∀ v' G', Dt G' v' (.tuple [natD b, waysD ls]) → P v' G'
theorem len__law_two (vs : List V) (H : Hp) (Q : VK) (E : XK) (h : sp__law_two vs H Q E) : vs.length = ["_law_cup_here"].length := by
  obtain ⟨c, G, P, _, ⟨rfl, _⟩, _⟩ := h
  rfl
theorem rd__law_two {K : PySem.W.Frag} {vs : List V} {H : Hp} {Q : VK} {E : XK} (h : sp__law_two vs H Q E) :
  (tSeq (tAsg (tCall sp__law_few [] C8.E0 (tCons (tVar 0) tNil)) (gTup K 2 (gCons (gName 1) (gCons (gName 2) gNil)))) (tRet (tIf (tTest (tOp (rI0 fun i j => V.bl (decide (j < i))) (tCB (rLenS K) (tCons (tVar 2) tNil)) (tC (V.int 1)))) (tTup (tCons (tVar 1) (tCons (tVar 2) tNil))) (tTup (tCons (tVar 1) (tCons (tOp (rCatA K) (tVar 2) (tTup (tCons (tIf (tTest (tOp (rI0 fun i j => V.bl (decide (i < j))) (tVar 1) (tC (V.int 5)))) (tCall sp__law_lead [] C8.E0 (tCons (tVar 0) (tCons (tVar 1) (tCons (tC (V.int 2)) tNil)))) (tTup (tCons (tTup (tCons (tC (V.int 1)) (tCons (tC (V.int 3)) tNil))) tNil))) tNil))) tNil))))))
    { nx := fun x H' => Q V.non H', rt := Q } (L2.start ["_law_cup_here", "_law_bells", "_law_ways"] vs) H := by
  obtain ⟨c, G, P, w0, ⟨rfl, hP⟩, hQ⟩ := h
  refine q_asgG (m := mC c) (P := fun v' G' => ∃ b ls, WaysOk 1 10 b ls ∧ Dt G' v' (.tuple [natD b, waysD ls])) w0 (c_callC (am_v (n_var rfl) am_nil) fun vs G1 e1 has G2 e2 => ?_) fun v1 G1 H1 s1 ⟨b, ls, hw, hv⟩ => ?_
  · obtain ⟨x, rfl, h1⟩ := has.one
    cases h1
    exact ⟨rfl, fun b ls hw v' G' hv => ⟨b, ls, hw, hv⟩⟩
  have w1 := s1.w w0
  obtain ⟨a, xs, rfl, ga, hxs⟩ := hv.tup_inv
  obtain ⟨vb, vl, rfl, hvb, hvl⟩ := hxs.two_inv
  cases hvb
  refine ⟨a, _, rfl, st_of (w1.ex _ _ ga), rfl, _, [vl], rfl, vl, [], rfl, rfl, ?_⟩
  have hE : EvP (mC c) (tIf (tTest (tOp (rI0 fun i j => V.bl (decide (j < i))) (tCB (rLenS K) (tCons (tVar 2) tNil)) (tC (V.int 1)))) (tTup (tCons (tVar 1) (tCons (tVar 2) tNil))) (tTup (tCons (tVar 1) (tCons (tOp (rCatA K) (tVar 2) (tTup (tCons (tIf (tTest (tOp (rI0 fun i j => V.bl (decide (i < j))) (tVar 1) (tC (V.int 5)))) (tCall sp__law_lead [] C8.E0 (tCons (tVar 0) (tCons (tVar 1) (tCons (tC (V.int 2)) tNil)))) (tTup (tCons (tTup (tCons (tC (V.int 1)) (tCons (tC (V.int 3)) tNil))) tNil))) tNil))) tNil))))
      [some (.ref c), some (.int (b : Nat)), some vl] G1 (fun d => ∃ b ls, WaysOk 2 11 b ls ∧ d = .tuple [natD b, waysD ls]) := by
    refine p_if (b := decide ((1 : Int) < (ls.length : Nat))) (t_test (d_cmpI (g := fun i j => decide (j < i)) (e_lenTM (enc := leadD) (e_var rfl hvl)).D (e_int 1).D)) (fun h1 => ?_) (fun h1 => ?_)
    · have h1 : 1 < ls.length := by have := of_decide_eq_true h1; omega
      refine (p_pair (lo := 2) (hi := 11) hw.b1 hw.b2 (e_var (d := natD b) rfl (.int _)) ((e_var (d := waysD ls) rfl hvl).D.P.imp fun d ed => ⟨ls.map leadD, ed, by rw [List.length_map]; omega, by rw [List.length_map]; have := hw.hi; omega, fun e he => ?_⟩))
      obtain ⟨l, hl, e⟩ := List.mem_map.mp he
      exact ⟨l, hw.ok l hl, e.symm⟩
    · have hx : EvP (mC c) (tIf (tTest (tOp (rI0 fun i j => V.bl (decide (i < j))) (tVar 1) (tC (V.int 5)))) (tCall sp__law_lead [] C8.E0 (tCons (tVar 0) (tCons (tVar 1) (tCons (tC (V.int 2)) tNil)))) (tTup (tCons (tTup (tCons (tC (V.int 1)) (tCons (tC (V.int 3)) tNil))) tNil))) [some (.ref c), some (.int (b : Nat)), some vl] G1 (fun d => ∃ l, LeadOk b l ∧ d = leadD l) := by
        refine p_if (b := decide (((b : Nat) : Int) < 5)) (t_test (d_cmpI (g := fun i j => decide (i < j)) (e_var (d := natD b) rfl (.int _)).D (e_int 5).D)) (fun h5 => ?_) (fun h5 => ?_)
        · refine c_callC (P := fun v' G' => ∃ d, (∃ l, LeadOk b l ∧ d = leadD l) ∧ Dt G' v' d) (am_v (n_var rfl) (am_d (e_var (d := natD b) rfl (.int _)).D (am_d (e_int 2).D am_nil))) fun vs G4 e4 has G5 e5 => ?_
          obtain ⟨x, y, z, rfl, h3, h4, h5⟩ := has.three
          cases h3
          cases h4
          cases h5
          exact ⟨b, 2, rfl, by have := hw.b1; omega, hw.b2, by omega, by omega, fun l hl v' G' hv => ⟨_, ⟨l, hl, rfl⟩, hv⟩⟩
        · have h5 : 5 ≤ b := by have := of_decide_eq_false h5; omega
          refine EvP.imp (d_lit (d := leadD [[1, 3]]) rfl).P fun d ed => ⟨[[1, 3]], ⟨by simp, fun ch hch => ?_, by simp⟩, ed⟩
          cases List.mem_singleton.mp hch
          refine ⟨by decide, fun p hp => ?_⟩
          simp only [List.mem_cons, List.not_mem_nil, or_false] at hp
          omega
      refine p_pair (lo := 2) (hi := 11) hw.b1 hw.b2 (e_var (d := natD b) rfl (.int _)) ?_
      have hT := p_tup (ap_cons hx ap_nil) (fun ds ⟨d, r, e1, _, e3⟩ => by subst e1; subst e3; simp)
      refine Cmp.imp (p_op (R := fun v G' => ∃ d, (∃ l, LeadOk b l ∧ d = .tuple (ls.map leadD ++ [leadD l])) ∧ Dt G' v d) (e_var (d := waysD ls) rfl hvl).D.P hT fun x y d1 d2 G2 e h1 h2 hx hy => ?_) fun v G' _ ⟨d, ⟨l, hl, ed⟩, hv⟩ => ⟨d, ⟨_, ed, by simp; exact hw.lo, by simp; exact hw.hi, fun e he => ?_⟩, hv⟩
      · subst h1
        obtain ⟨ds, rfl, d3, r, rfl, ⟨l, hl, rfl⟩, rfl⟩ := h2
        refine Cmp.imp (d_catA (m := mC c) (K := K) (G := G2) (σ := []) (ta := tC x) (tb := tC y) (e_glob hx).D (e_glob hy).D (by simp; have := hw.hi; omega)) fun v G' _ hv => ⟨_, ⟨l, hl, rfl⟩, hv⟩
      · rcases List.mem_append.mp he with he | he
        · obtain ⟨l', hl', e⟩ := List.mem_map.mp he
          exact ⟨l', hw.ok l' hl', e.symm⟩
        · exact ⟨l, hl, List.mem_singleton.mp he⟩
  exact s_ret w1 hE fun v' G2 H2 s2 ⟨d, ⟨b', ls', hw', ed⟩, hv'⟩ => by
    subst ed
    exact hQ v' G2 H2 (s1.trans w0 s2) (hP b' ls' hw' v' G2 hv')
end R45
end
section
set_option Elab.async false
set_option linter.all false
set_option maxRecDepth 100000
set_option maxHeartbeats 2000000
namespace R45
open PySem PySem.Spec PyProof.Rows L2 Evl
/-! dicts whose keys are rows -/
abbrev keyN (r : List Nat) : List Key := r.map natK
theorem keyN_inj {r s : List Nat} (h : keyN r = keyN s) : r = s := by
  have : ∀ {r s : List Nat}, keyN r = keyN s → r = s := fun {r} => by
    induction r with
    | nil =>
      intro s h
      cases s with
      | nil => rfl
      | cons _ _ => simp [keyN] at h
    | cons a r ih =>
      intro s h
      cases s with
      | nil => simp [keyN] at h
      | cons b s =>
        rw [keyN, List.map_cons, keyN, List.map_cons] at h
        obtain ⟨h1, h2⟩ := List.cons.inj h
        have := Sum.inl.inj h1
        rw [ih h2, show a = b by omega]
  exact this h
theorem keyN_kV (r : List Nat) : (keyN r).map kV = r.map iV := by
  rw [List.map_map]
  rfl
theorem key_at {G : Hp} {v : V} {r : List Nat} (h : Dt G v (tupN r)) : ∃ b, v = .ref b ∧ G b = some (.tup ((keyN r).map kV)) := by
  obtain ⟨b, xs, rfl, gb, hxs⟩ := h.tup_inv
  cases dts_nats_inv hxs
  exact ⟨b, rfl, by rw [keyN_kV]; exact gb⟩
section
variable {κ : Type} [DecidableEq κ]
theorem valV_mem {kvs : List (κ × V)} {k : κ} {v : V} (h : valV kvs k = some v) : (k, v) ∈ kvs := by
  unfold valV at h
  obtain ⟨p, hp, e⟩ := Option.map_eq_some_iff.mp h
  have h1 := List.mem_of_find?_eq_some hp
  have h2 := List.find?_some hp
  have h3 : p.1 = k := of_decide_eq_true h2
  rw [← h3, ← e]
  exact h1
theorem valV_has {kvs : List (κ × V)} {k : κ} : (valV kvs k).isSome = decide (k ∈ kvs.map (·.1)) := by
  unfold valV
  rw [Option.isSome_map]
  by_cases h : k ∈ kvs.map (·.1)
  · rw [decide_eq_true h, List.find?_isSome]
    obtain ⟨p, hp, e⟩ := List.mem_map.mp h
    exact ⟨p, hp, by simp [e]⟩
  · rw [decide_eq_false h]
    cases q : kvs.find? fun kv => decide (kv.1 = k) with
    | none => rfl
    | some p =>
      exact absurd (List.mem_map.mpr ⟨p, List.mem_of_find?_eq_some q, by have := List.find?_some q; exact of_decide_eq_true this⟩) h
theorem putK_new {kvs : List (κ × V)} {k : κ} {v : V} (h : k ∉ kvs.map (·.1)) : putK kvs k v = kvs ++ [(k, v)] := by
  unfold putK
  rw [if_neg]
  intro z
  obtain ⟨p, hp, e⟩ := List.any_eq_true.mp z
  exact h (List.mem_map.mpr ⟨p, hp, of_decide_eq_true e⟩)
end
theorem at_cl' {α : Type} {cl : List (List α)} {a : Nat} (h : a < cl.length) : cl[a]? = some (cl.getD a []) := by
  rw [List.getD_eq_getElem?_getD, List.getElem?_eq_getElem h]
  rfl
/-! ### _law_roads -/
structure RI (b : Nat) (ws : List (List (List Nat))) (ks line : List (List Nat)) (r0 : Option (List Nat)) : Prop where
  nd : ks.Nodup
  ok : ∀ r ∈ ks, RowOk b r
  pos : 1 ≤ ks.length
  sub : ∀ r ∈ line, r ∈ ks
  ll : line.length ≤ ks.length
  cl : ∀ r ∈ ks, some r = r0 ∨ r ∈ line ∨ ∀ w ∈ ws, ledN r w ∈ ks
/-- the dict: its keys, its values -/
structure RD (G : Hp) (kvs : List (List Key × V)) (ks : List (List Nat)) : Prop where
  keys : kvs.map (·.1) = ks.map keyN
  vals : ∀ kv ∈ kvs, ∃ p : List Nat, Dt G kv.2 (tupN p) ∧ p.length ≤ kvs.length
theorem RD.mono {G G' : Hp} {kvs : List (List Key × V)} {ks : List (List Nat)} (h : RD G kvs ks) (e : Ex G G') : RD G' kvs ks := ⟨h.keys, fun kv hk => let ⟨p, h1, h2⟩ := h.vals kv hk; ⟨p, h1.mono e, h2⟩⟩
theorem RD.len {G : Hp} {kvs : List (List Key × V)} {ks : List (List Nat)} (h : RD G kvs ks) : kvs.length = ks.length := by
  have := congrArg List.length h.keys
  rw [List.length_map, List.length_map] at this
  exact this
theorem RD.has {G : Hp} {kvs : List (List Key × V)} {ks : List (List Nat)} (h : RD G kvs ks) (r : List Nat) : (valV kvs (keyN r)).isSome = decide (r ∈ ks) := by
  rw [valV_has, h.keys]
  refine decide_eq_decide.mpr ⟨fun z => ?_, fun z => List.mem_map.mpr ⟨r, z, rfl⟩⟩
  obtain ⟨s, hs, e⟩ := List.mem_map.mp z
  exact keyN_inj e ▸ hs
theorem RD.get {G : Hp} {kvs : List (List Key × V)} {ks : List (List Nat)} (h : RD G kvs ks) {r : List Nat} (hr : r ∈ ks) : ∃ v p, valV kvs (keyN r) = some v ∧ Dt G v (tupN p) ∧ p.length ≤ kvs.length := by
  have := h.has r
  rw [decide_eq_true hr] at this
  obtain ⟨v, e⟩ := Option.isSome_iff_exists.mp this
  obtain ⟨p, h1, h2⟩ := h.vals _ (valV_mem e)
  exact ⟨v, p, e, h1, h2⟩
structure Closed (b : Nat) (ws : List (List (List Nat))) (ks : List (List Nat)) : Prop where
  nd : ks.Nodup
  ok : ∀ r ∈ ks, RowOk b r
  pos : 1 ≤ ks.length
  cl : ∀ r ∈ ks, ∀ w ∈ ws, ledN r w ∈ ks
theorem rounds_ok (b : Nat) : RowOk b (List.range b) := ⟨List.length_range, fun x h => List.mem_range.mp h⟩
def sp__law_roads : Sp := spF fun vs G P => ∃ (b : Nat) (v : V) (ws : List (List (List Nat))), vs = [.int b, v] ∧ Dt G v (waysD ws) ∧ WaysOk 1 11 b ws ∧ ∀ ks kvs, Closed b ws ks → kvs.map (·.1) = ks.map keyN → ∀ p G', G' p = some (.dT kvs) → P (.ref p) G'
theorem c_rounds {m : Mode} {σ : L2.St} {G : Hp} {b : Nat} {ta : TE} {E : XK} (hb : b ≤ 6) (h : EvD m ta σ G (natD b)) : EvD m (tCall sp__law_rounds [] E (tCons ta tNil)) σ G (tupN (List.range b)) :=
  c_call (P := fun v' G' => Dt G' v' (tupN (List.range b))) (am_d h am_nil) fun vs G1 e1 has G2 e2 => by
    obtain ⟨x, rfl, hx⟩ := has.one
    cases hx
    exact ⟨b, rfl, hb, fun _ _ h => h⟩
theorem len__law_roads (vs : List V) (H : Hp) (Q : VK) (E : XK) (h : sp__law_roads vs H Q E) : vs.length = ["_law_bells", "_law_ways"].length := by
  obtain ⟨G, P, _, ⟨b, v, ws, rfl, _⟩, _⟩ := h
  rfl
theorem rd__law_roads {K : PySem.W.Frag} {vs : List V} {H : Hp} {Q : VK} {E : XK} (h : sp__law_roads vs H Q E) :
  (tSeq (tPar 2 3 (tCons (tDispT (tCall sp__law_rounds [] C8.E0 (tCons (tVar 0) tNil)) (tTup tNil)) (tCons (tLst (tCons (tCall sp__law_rounds [] C8.E0 (tCons (tVar 0) tNil)) tNil)) tNil))) (tSeq (tWhile (tTest (tOp (rNeD K) (tVar 3) (tLst tNil))) (tSeq (tAsg (tBM K "list" rPopAt (tVar 3) (tCons (tC (V.int 0)) tNil)) (gName 4)) (tFor (iEnumT K (tCons (tVar 1) tNil)) (gTup K 2 (gCons (gName 5) (gCons (gName 6) gNil))) (tSeq (tAsg (tCall sp__law_led [] C8.E0 (tCons (tVar 4) (tCons (tVar 6) tNil))) (gName 7)) (tIfS (tB (tDNotIn (tVar 7) (tVar 2))) (tSeq (sDPut (tVar 2) (tVar 7) (tOp (rCatA K) (tDGet (tVar 2) (tVar 4)) (tTup (tCons (tVar 5) tNil)))) (tDrop (tBM K "list" rAppend (tVar 3) (tCons (tVar 7) tNil)))) tNext))))) (tRet (tVar 2))))
    { nx := fun x H' => Q V.non H', rt := Q } (L2.start ["_law_bells", "_law_ways", "_law_found", "_law_line", "_law_row", "_law_index", "_law_lead_here", "_law_there"] vs) H := by
  obtain ⟨G, P, w0, ⟨b, vw, ws, rfl, hws, hwo, hP⟩, hQ⟩ := h
  have hb6 := hwo.b2
  refine q_parR fun p hp => ?_
  have s0 := Stp.own (o := .dT []) w0 hp
  have w1 := s0.w w0
  have gp0 := w0.low hp
  refine Cmp.go (f := tCall sp__law_rounds [] C8.E0 (tCons (tVar 0) tNil) _) (c_rounds (σ := [some (.int (b : Nat)), some vw, none, none, none, none, none, none]) hb6 (e_var (d := natD b) rfl (.int _)).D) w1 fun v1 G1 H1 s1 h1 => ?_
  have w2 := s1.w w1
  refine Cmp.go (f := tTup tNil _) (d_tup (σ := L2.start _ _) a_nil (by decide)) w2 fun v2 G2 H2 s2 h2 => ?_
  have w3 := s2.w w2
  have st2 := (s0.trans w0 s1).trans w0 s2
  have m0' : ∀ b, ¬ m0.M b := fun b z => z
  obtain ⟨hp2, gp2⟩ := s1.mine (m0' _) gp0 (upd_same (H := H) (o := .dT []))
  obtain ⟨hp2, gp2⟩ := s2.mine (m0' _) gp2 hp2
  obtain ⟨kb, rfl, gkb⟩ := key_at (h1.mono s2.ex)
  refine ⟨hp2, kb, keyN (List.range b), rfl, s2.le _ _ gkb, ?_⟩
  have st3 := st2.mut w0 (o := .dT [(keyN (List.range b), v2)]) hp gp2 (fun φ z => by rw [hp2] at z; cases z)
  have w4 := st3.w w0
  refine EvN.go (nw_lst (ds := [List.range b].map tupN) (EvA.one (c_rounds (σ := [some (.int (b : Nat)), some vw, none, none, none, none, none, none]) hb6 (e_var (d := natD b) rfl (.int _)).D)) (by simp)) w4 (nlist_map nlist_tupN _) fun l ys G5 H5 s5 hl gl h0 hys => ?_
  have st5 := st3.trans w0 s5
  obtain ⟨hp5, gp5⟩ := s5.mine (m0' _) gp2 upd_same
  have l0 : H l = none := st3.fresh w0 h0
  have nepl : p ≠ l := fun z => by
    rw [z] at hp5
    rw [hp5] at hl
    cases hl
  have hri0 : RI b ws [List.range b] [List.range b] none := ⟨by simp, fun r hr => by cases List.mem_singleton.mp hr; exact rounds_ok b, Nat.le_refl _, fun r hr => hr, Nat.le_refl _, fun r hr => .inr (.inl hr)⟩
  have hrd0 : RD G5 [(keyN (List.range b), v2)] [List.range b] := ⟨rfl, fun kv hk => by
    cases List.mem_singleton.mp hk
    exact ⟨[], h2.mono s5.ex, Nat.zero_le _⟩⟩
  refine ⟨fun n σ' H' => ∃ kvs ks line ys G' o4 o5 o6 o7, n = 46656 + line.length - ks.length ∧ Stp m0 G H G' H' ∧ σ' = [some (.int (b : Nat)), some vw, some (.ref p), some (.ref l), o4, o5, o6, o7] ∧ H' p = some (.dT kvs) ∧ G' p = none ∧ H' l = some (.lst ys) ∧ G' l = none ∧
      RD G' kvs ks ∧ Dts G' ys (line.map tupN) ∧ RI b ws ks line none,
    ⟨_, _, _, _, ys, G5, none, none, none, none, rfl, st5, rfl, hp5, gp5, hl, gl, hrd0, hys, hri0⟩, fun n σ' H' hI => ?_⟩
  obtain ⟨kvs, ks, line, ys, G6, o4, o5, o6, o7, rfl, st6, rfl, hp6, gp6, hl6, gl6, hrd, hys, hri⟩ := hI
  have w6 := st6.w w0
  have hks := rows_le hb6 hri.nd hri.ok
  refine Cmp.goO (m := m0) (l := l) (o := .lst ys) (hn := fun _ z => nomatch z) (f := tTest (tOp (rNeD K) (tVar 3) (tLst tNil)) _) (t_test (o_neNil (K := K) (ds := line.map tupN) fixO rfl hys (sh_lstT line).ok)) w6 hl6 gl6 fun bb G7 H7 s7 hl7 gl7 hb => ?_
  subst hb
  have w7 := s7.w w6
  have st7 := st6.trans w0 s7
  obtain ⟨hp7, gp7⟩ := s7.mine (m0' _) gp6 hp6
  cases line with
  | nil =>
    have := st7.tell hp gp7 hp7
    refine ⟨.ref p, rfl, hQ _ _ _ this (hP ks kvs ⟨hri.nd, hri.ok, hri.pos, fun r hr w hw => ?_⟩ hrd.keys p _ upd_same)⟩
    rcases hri.cl r hr with z | z | z
    · cases z
    · simp at z
    · exact z w hw
  | cons r0 rest =>
    rw [show (!decide (List.map tupN (r0 :: rest) = [])) = true by simp]
    dsimp only
    rw [if_pos rfl]
    obtain ⟨y0, ys', rfl⟩ : ∃ y0 ys', ys = y0 :: ys' := by
      have := hys.length
      cases ys with
      | nil => simp at this
      | cons y0 ys' => exact ⟨y0, ys', rfl⟩
    have hys7 := hys.mono s7.ex
    have hy0 : Dt G7 y0 (tupN r0) ∧ Dts G7 ys' (rest.map tupN) := by
      rw [List.map_cons] at hys7
      cases hys7 with
      | cons a b => exact ⟨a, b⟩
    have hr0 : r0 ∈ ks := hri.sub r0 List.mem_cons_self
    obtain ⟨kn, hkn⟩ : ∃ kn, kn = ks.length := ⟨_, rfl⟩
    refine ⟨fun σ3 H3 => ∃ n', n' < 46656 + (r0 :: rest).length - ks.length ∧ _, fun σ3 H3 h => h, ?_⟩
    refine ⟨.ref l, rfl, .inl ⟨rfl, _, sq_of hl7⟩, l, y0 :: ys', 0, 0, y0, rfl, rfl, hl7, by omega, by omega, pop_idx (k := 0) (by simp), rfl, ?_⟩
    have st8 := st7.mut w0 (o := .lst ys') l0 gl7 (fun φ z => by rw [hl7] at z; cases z)
    have w8 := st8.w w0
    have hp8 : (upd H7 l (.lst ys')) p = some (.dT kvs) := by rw [upd_ne nepl]; exact hp7
    refine s_for w8 (by
        have := i_enumT (m := m0) (K := K) (σ := [some (.int (b : Nat)), some vw, some (.ref p), some (.ref l), some y0, o5, o6, o7]) (ta := tVar 1) (G := G7) (ds := ws.map leadD) (e_var rfl (hws.mono st7.ex)).D
        rw [enumD_map []] at this
        exact this)
      (fun a G' σ' H' => ∃ kvs ks line ys o5 o6 o7, Stp m0 G H G' H' ∧ Ex G7 G' ∧ σ' = [some (.int (b : Nat)), some vw, some (.ref p), some (.ref l), some y0, o5, o6, o7] ∧ H' p = some (.dT kvs) ∧ G' p = none ∧ H' l = some (.lst ys) ∧ G' l = none ∧
        RD G' kvs ks ∧ Dts G' ys (line.map tupN) ∧ RI b ws ks line (some r0) ∧ r0 ∈ ks ∧ (∀ w ∈ ws.take a, ledN r0 w ∈ ks) ∧ ks.length + rest.length = kn + line.length)
      (fun i G' σ' H' ⟨_, _, _, _, _, _, _, st, _⟩ => st.w w0) (fun G9 H9 s9 => ?_) (fun a d x G' σ' H' hd eG hI Gx Hx sx hx => ?_) (fun G' σ' H' eG hI => ?_)
    · obtain ⟨hp9, gp9⟩ := s9.mine (m0' _) gp7 hp8
      obtain ⟨hl9, gl9⟩ := s9.mine (m0' _) gl7 (upd_same (H := H7) (o := .lst ys'))
      exact ⟨kvs, ks, rest, ys', o5, o6, o7, st8.trans w0 s9, s9.ex, rfl, hp9, gp9, hl9, gl9, hrd.mono (s7.ex.trans s9.ex), hy0.2.mono s9.ex,
        ⟨hri.nd, hri.ok, hri.pos, fun r hr => hri.sub r (List.mem_cons_of_mem _ hr), by have := hri.ll; rw [List.length_cons] at this; omega, fun r hr => by
          rcases hri.cl r hr with z | z | z
          · cases z
          · rcases List.mem_cons.mp z with z | z
            · exact .inl (by rw [z])
            · exact .inr (.inl z)
          · exact .inr (.inr z)⟩, hr0, by simp, by rw [hkn]⟩
    · obtain ⟨kvs, ks', line, ys, o5, o6, o7, st9, e79, rfl, hp9, gp9, hl9, gl9, hrd, hys, hri, hr0, hled, hms⟩ := hI
      rw [List.getElem?_map] at hd
      obtain ⟨y, hy, rfl⟩ := Option.map_eq_some_iff.mp hd
      obtain ⟨hy1, hy2⟩ := List.getElem?_eq_some_iff.mp hy
      rw [List.length_range] at hy1
      rw [List.getElem_range] at hy2
      subst hy2
      have w9 := st9.w w0
      have wx := sx.w w9
      have stx := st9.trans w0 sx
      obtain ⟨hpx, gpx⟩ := sx.mine (m0' _) gp9 hp9
      obtain ⟨hlx, glx⟩ := sx.mine (m0' _) gl9 hl9
      obtain ⟨ta, us, rfl, gta, hus⟩ := hx.tup_inv
      obtain ⟨va, vl, rfl, hva, hvl⟩ := hus.two_inv
      cases hva
      have hwm : ws[a]? = some (ws.getD a []) := at_cl' hy1
      have hwmem : ws.getD a [] ∈ ws := List.mem_of_getElem? hwm
      generalize hw0 : ws.getD a [] = wl at *
      have hlo := hwo.ok wl hwmem
      refine ⟨ta, _, rfl, st_of (wx.ex _ _ gta), rfl, _, [vl], rfl, vl, [], rfl, rfl, ?_⟩
      have hr0o := hri.ok r0 hr0
      refine q_asg (P := fun v' G' => Dt G' v' (tupN (ledN r0 wl))) wx (c_call (am_d (e_var (d := tupN r0) rfl (hy0.1.mono (e79.trans sx.ex))).D (am_d (e_var (d := leadD wl) rfl hvl).D am_nil)) fun vs G1 e1 has G2 e2 => ?_) fun vt Ga Ha sa hvt => ?_
      · obtain ⟨y, z, rfl, h1, h2⟩ := has.two
        exact ⟨y, z, b, _, _, rfl, Dt.mono e2 h1, Dt.mono e2 h2, hr0o, hlo, fun _ _ h => h⟩
      have wa := sa.w wx
      have sta := stx.trans w0 sa
      obtain ⟨hpa, gpa⟩ := sa.mine (m0' _) gpx hpx
      obtain ⟨hla, gla⟩ := sa.mine (m0' _) glx hlx
      have hrda := hrd.mono (sx.ex.trans sa.ex)
      have hysa := hys.mono (sx.ex.trans sa.ex)
      have htk : ws.take (a + 1) = ws.take a ++ [wl] := by
        rw [List.take_add_one, hwm]
        rfl
      have hks' := rows_le hb6 hri.nd hri.ok
      obtain ⟨kt, rfl, gkt⟩ := key_at hvt
      refine ⟨_, rfl, _, rfl, p, _, rfl, DGet.t (k := keyN (ledN r0 wl)) hpa (sa.le _ _ gkt), _, rfl, ?_⟩
      rw [hrda.has]
      by_cases hin : ledN r0 wl ∈ ks'
      · rw [decide_eq_true hin]
        refine ⟨Ga, sx.ex.trans sa.ex, kvs, ks', line, ys, _, _, _, sta, e79.trans (sx.ex.trans sa.ex), rfl, hpa, gpa, hla, gla, hrda, hysa, hri, hr0, fun w hw => ?_, hms⟩
        rw [htk] at hw
        rcases List.mem_append.mp hw with hw | hw
        · exact hled w hw
        · cases List.mem_singleton.mp hw
          exact hin
      · rw [decide_eq_false hin]
        obtain ⟨vv, pa, hval, hvv, hpl⟩ := hrda.get hr0
        have hkl := hrda.len
        obtain ⟨kr, ekr, gkr⟩ := key_at (hy0.1.mono (e79.trans (sx.ex.trans sa.ex)))
        subst ekr
        refine ⟨.ref p, rfl, .ref kr, rfl, p, vv, rfl, by rw [← hval]; exact DGet.t hpa (sa.le _ _ gkr), ?_⟩
        have hA := d_catA (m := m0) (K := K) (G := Ga) (σ := [some (.int (b : Nat)), some vw, some (.ref p), some (.ref l), some (.ref kr), some (.int (a : Nat)), some vl, some (.ref kt)]) (ta := tC vv) (tb := tTup (tCons (tVar 5) tNil)) (e_glob hvv).D (d_tup (EvA.one (e_var (d := natD a) rfl (.int _)).D) (by simp)) (by simp; omega)
        refine Cmp.go (f := tOp (rCatA K) (tC vv) (tTup (tCons (tVar 5) tNil)) _) hA wa fun vn Gb Hb sb hvn => ?_
        have wb := sb.w wa
        have stb := sta.trans w0 sb
        obtain ⟨hpb, gpb⟩ := sb.mine (m0' _) gpa hpa
        obtain ⟨hlb, glb⟩ := sb.mine (m0' _) gla hla
        refine ⟨.ref p, rfl, .ref kt, rfl, p, _, rfl, DPut.t hpb (sb.le _ _ (sb.ex _ _ gkt)) (szT (by omega)), ?_⟩
        have hnk : keyN (ledN r0 wl) ∉ kvs.map (·.1) := fun z => by
          rw [hrda.keys] at z
          obtain ⟨s, hs, e⟩ := List.mem_map.mp z
          exact hin (keyN_inj e ▸ hs)
        rw [putK_new hnk]
        have stc := stb.mut w0 (o := .dT (kvs ++ [(keyN (ledN r0 wl), vn)])) hp gpb (fun φ z => by rw [hpb] at z; cases z)
        have hlc : (upd Hb p (.dT (kvs ++ [(keyN (ledN r0 wl), vn)]))) l = some (.lst ys) := by rw [upd_ne (fun z => nepl z.symm)]; exact hlb
        have hyl : ys.length = line.length := by rw [hysa.length, List.length_map]
        have hll := hri.ll
        refine ⟨.ref l, rfl, .inl ⟨rfl, _, sq_of hlc⟩, .ref kt, rfl, l, ys, .ref kt, rfl, rfl, hlc, szT (by omega), ?_⟩
        have std := stc.mut w0 (o := .lst (ys ++ [.ref kt])) l0 glb (fun φ z => by rw [hlc] at z; cases z)
        have hrow := led_ok hr0o hlo.ch
        refine ⟨Gb, sx.ex.trans (sa.ex.trans sb.ex), kvs ++ [(keyN (ledN r0 wl), vn)], ks' ++ [ledN r0 wl], line ++ [ledN r0 wl], ys ++ [.ref kt], _, _, _, std, e79.trans (sx.ex.trans (sa.ex.trans sb.ex)), rfl, ?_, gpb, upd_same, glb, ?_, ?_, ?_, List.mem_append_left _ hr0, fun w hw => ?_, by simp; omega⟩
        · rw [upd_ne nepl, upd_same]
        · refine ⟨by rw [List.map_append, List.map_append, hrda.keys]; rfl, fun kv hkv => ?_⟩
          rw [List.length_append, List.length_singleton]
          rcases List.mem_append.mp hkv with z | z
          · obtain ⟨q, q1, q2⟩ := hrda.vals kv z
            exact ⟨q, q1.mono sb.ex, by omega⟩
          · cases List.mem_singleton.mp z
            refine ⟨pa ++ [a], ?_, by simp; omega⟩
            rw [tupN, List.map_append]
            exact hvn
        · rw [List.map_append]
          exact (hysa.mono sb.ex).snoc (hvt.mono sb.ex)
        · refine ⟨List.nodup_append.mpr ⟨hri.nd, by simp, fun x hx y hy e => ?_⟩, fun r hr => ?_, by simp, fun r hr => ?_, by simp; exact hri.ll, fun r hr => ?_⟩
          · cases List.mem_singleton.mp hy
            exact hin (e ▸ hx)
          · rcases List.mem_append.mp hr with z | z
            · exact hri.ok r z
            · cases List.mem_singleton.mp z
              exact hrow
          · rcases List.mem_append.mp hr with z | z
            · exact List.mem_append_left _ (hri.sub r z)
            · exact List.mem_append_right _ z
          · rcases List.mem_append.mp hr with z | z
            · rcases hri.cl r z with q | q | q
              · exact .inl q
              · exact .inr (.inl (List.mem_append_left _ q))
              · exact .inr (.inr fun w hw => List.mem_append_left _ (q w hw))
            · exact .inr (.inl (List.mem_append_right _ z))
        · rw [htk] at hw
          rcases List.mem_append.mp hw with hw | hw
          · exact List.mem_append_left _ (hled w hw)
          · cases List.mem_singleton.mp hw
            simp
    · obtain ⟨kvs, ks', line, ys, o5, o6, o7, st9, e79, rfl, hp9, gp9, hl9, gl9, hrd, hys, hri, hr0, hled, hms⟩ := hI
      have hks' := rows_le hb6 hri.nd hri.ok
      rw [List.length_map, List.length_range, List.take_length] at hled
      refine ⟨_, ?_, kvs, ks', line, ys, G', _, _, _, _, rfl, st9, rfl, hp9, gp9, hl9, gl9, hrd, hys, ⟨hri.nd, hri.ok, hri.pos, hri.sub, hri.ll, fun r hr => ?_⟩⟩
      · rw [List.length_cons]
        omega
      · rcases hri.cl r hr with z | z | z
        · cases z
          exact .inr (.inr hled)
        · exact .inr (.inl z)
        · exact .inr (.inr z)
end R45
end
section
set_option Elab.async false
set_option linter.all false
set_option maxRecDepth 100000
set_option maxHeartbeats 2000000
namespace R45
open PySem PySem.Spec PyProof.Rows L2 Evl
/-! tables of rows -/
structure TabPre (t : Tab) : Prop where
  pos : 1 ≤ t.length
  le : t.length ≤ 46656
  p1 : PermF (c1 t) t.length
  p2 : PermF (c2 t) t.length
theorem idx_lt {rows : List (List Nat)} {r : List Nat} (h : r ∈ rows) : rows.idxOf r < rows.length := List.idxOf_lt_length_of_mem h
theorem idx_get {rows : List (List Nat)} {r : List Nat} (h : r ∈ rows) : rows[rows.idxOf r]? = some r := by
  rw [List.getElem?_eq_getElem (idx_lt h), List.getElem_idxOf (idx_lt h)]
theorem idx_inj {rows : List (List Nat)} {r s : List Nat} (hr : r ∈ rows) (hs : s ∈ rows) (e : rows.idxOf r = rows.idxOf s) : r = s := by
  have h1 := idx_get hr
  rw [e, idx_get hs] at h1
  exact (Option.some.inj h1).symm
def tabOf (rows : List (List Nat)) (w0 w1 : List (List Nat)) : Tab := rows.map fun r => (rows.idxOf (ledN r w0), rows.idxOf (ledN r w1))
theorem permF_row {b : Nat} {rows : List (List Nat)} {w : List (List Nat)} (nd : rows.Nodup) (ok : ∀ r ∈ rows, RowOk b r) (hw : LeadOk b w) (cl : ∀ r ∈ rows, ledN r w ∈ rows) {f : Nat → Nat} (hf : ∀ i, (h : i < rows.length) → f i = rows.idxOf (ledN rows[i] w)) :
    PermF f rows.length := by
  refine ⟨fun i hi => ?_, fun i j hi hj e => ?_⟩
  · rw [hf i hi]
    exact idx_lt (cl _ (List.getElem_mem hi))
  · rw [hf i hi, hf j hj] at e
    have h1 := List.getElem_mem hi
    have h2 := List.getElem_mem hj
    have := led_inj (ok _ h1) (ok _ h2) hw.ch (idx_inj (cl _ h1) (cl _ h2) e)
    have p := List.pairwise_iff_getElem.mp nd
    rcases Nat.lt_trichotomy i j with c | c | c
    · exact absurd this (p i j hi hj c)
    · exact c
    · exact absurd this.symm (p j i hj hi c)
theorem tabOf_pre {b : Nat} {rows : List (List Nat)} {w0 w1 : List (List Nat)} (hb : b ≤ 6) (h : Closed b [w0, w1] rows) (h0 : LeadOk b w0) (h1 : LeadOk b w1) : TabPre (tabOf rows w0 w1) := by
  have hl : (tabOf rows w0 w1).length = rows.length := by simp [tabOf]
  refine ⟨by rw [hl]; exact h.pos, by rw [hl]; exact rows_le hb h.nd h.ok, ?_, ?_⟩
  · rw [hl]
    refine permF_row h.nd h.ok h0 (fun r hr => h.cl r hr w0 (by simp)) fun i hi => ?_
    unfold c1 tabOf
    simp [List.getD_eq_getElem?_getD, List.getElem?_eq_getElem hi]
  · rw [hl]
    refine permF_row h.nd h.ok h1 (fun r hr => h.cl r hr w1 (by simp)) fun i hi => ?_
    unfold c2 tabOf
    simp [List.getD_eq_getElem?_getD, List.getElem?_eq_getElem hi]
/-! sorted of such a dict -/
abbrev intsN (r : List Nat) : List Int := r.map fun n : Nat => (n : Int)
theorem tupI_intsN (r : List Nat) : tupI (intsN r) = keyN r := by
  unfold tupI intsN
  rw [List.map_map]
  rfl
theorem intsN_inj {r s : List Nat} (h : intsN r = intsN s) : r = s := keyN_inj (by rw [← tupI_intsN, ← tupI_intsN, h])
theorem list_of' {α β : Type} {enc : α → β} {R : α → Prop} : ∀ {es : List β}, (∀ e ∈ es, ∃ a, R a ∧ e = enc a) → ∃ l : List α, es = l.map enc ∧ ∀ a ∈ l, R a
  | [], _ => ⟨[], rfl, by simp⟩
  | e :: es, h => by
    obtain ⟨a, ha, rfl⟩ := h e List.mem_cons_self
    obtain ⟨l, rfl, hl⟩ := list_of' fun x hx => h x (List.mem_cons_of_mem _ hx)
    exact ⟨a :: l, rfl, fun x hx => (List.mem_cons.mp hx).elim (fun z => z ▸ ha) (hl x)⟩
section
variable {m : Mode} {σ : L2.St} {G G' H : Hp} {te ta tb tc tl : TE} {tt tu : TT} {d d' : PyData} {v : V} {K : PySem.W.Frag} {ds es : List PyData} {E : XK}
theorem adoptAll (w : W m G H) : ∀ {as : List Addr} {ks : List (List Nat)}, Paired (fun b k => H b = some (.tup ((keyN k).map kV))) as ks → ∀ {G'}, Stp m G H G' H → ∃ G2, Stp m G H G2 H ∧ Ex G' G2 ∧ Dts G2 (as.map V.ref) (ks.map tupN)
  | _, _, .nil, G', s => ⟨G', s, Ex.refl _, .nil⟩
  | _, _, @Paired.cons _ _ _ b k as ks h t, G', s => by
    obtain ⟨G2, s2, e2, hd⟩ := adoptAll w t s
    have s3 := s2.adopt w h
    refine ⟨_, s3, fun x o hx => ?_, ?_⟩
    · by_cases z : x = b
      · have := s2.le x o (e2 x o hx)
        rw [z] at this
        rw [z, upd_same, ← this, h]
      · rw [upd_ne z]
        exact e2 x o hx
    · have eG : Ex G2 (upd G2 b (.tup ((keyN k).map kV))) := fun x o hx => by
        by_cases z : x = b
        · have := s2.le x o hx
          rw [z] at this
          rw [z, upd_same, ← this, h]
        · rw [upd_ne z]
          exact hx
      refine .cons (.tup upd_same ?_) (hd.mono eG)
      rw [keyN_kV]
      exact dts_nats k
theorem c_sortDT {b : Nat} {ws : List (List (List Nat))} (hb : 2 ≤ b) (h : Cmp m G (ta σ) fun v G' => ∃ p ks kvs, v = .ref p ∧ Closed b ws ks ∧ kvs.map (·.1) = ks.map keyN ∧ G' p = some (.dT kvs)) :
    Cmp m G (tCB rSortDT (tCons ta tNil) σ) fun v G' => ∃ rows, Closed b ws rows ∧ Dt G' v (lstT rows) :=
  Cmp.bind (f := ta σ) (g := fun v H Q => rSortDT [v] H Q) h fun v G1 e ⟨p, ks, kvs, ev, hc, hk, gp⟩ => by
    subst ev
    intro G2 H e2 w Q k
    refine ⟨p, kvs, ks.map intsN, rfl, w.ex _ _ (e2 _ _ gp), ?_, fun x hx => ?_, fun as ks' hp hpair q hq => ?_⟩
    · rw [hk, List.map_map]
      exact List.map_congr_left fun r _ => (tupI_intsN r).symm
    · obtain ⟨r, hr, rfl⟩ := List.mem_map.mp hx
      intro z
      have := (hc.ok r hr).len
      have : (intsN r).length = 0 := by rw [z]; rfl
      rw [List.length_map] at this
      omega
    · obtain ⟨rows, rfl, hrows⟩ := list_of' (enc := intsN) (R := fun r => r ∈ ks) (es := ks') fun x hx => by
        obtain ⟨r, hr, e⟩ := List.mem_map.mp (hp.mem_iff.mp hx)
        exact ⟨r, hr, e.symm⟩
      have hcl : Closed b ws rows := by
        have mem : ∀ r, r ∈ rows ↔ r ∈ ks := fun r => ⟨hrows r, fun h => by
          obtain ⟨s, hs, e⟩ := List.mem_map.mp (hp.mem_iff.mpr (List.mem_map.mpr ⟨r, h, rfl⟩))
          exact intsN_inj e ▸ hs⟩
        refine ⟨?_, fun r hr => hc.ok r (hrows r hr), ?_, fun r hr w hw => (mem _).mpr (hc.cl r (hrows r hr) w hw)⟩
        · have nd : (ks.map intsN).Nodup := List.pairwise_map.mpr (List.Pairwise.imp (fun hne e => hne (intsN_inj e)) hc.nd)
          have nd2 := hp.nodup_iff.mpr nd
          exact List.Pairwise.imp (fun hne e => hne (by rw [e])) (List.pairwise_map.mp nd2)
        · have := hp.length_eq
          rw [List.length_map, List.length_map] at this
          rw [this]
          exact hc.pos
      have hpair' : Paired (fun b k => H b = some (.tup ((keyN k).map kV))) as rows := by
        clear hp hcl hrows
        induction rows generalizing as with
        | nil => cases hpair; exact .nil
        | cons r rows ih =>
          rw [List.map_cons] at hpair
          cases hpair with
          | cons h t => exact .cons (by rw [← tupI_intsN]; exact h) (ih _ t)
      obtain ⟨G3, s3, e3, hd⟩ := adoptAll w hpair' (Stp.refl w)
      have w3 := s3.w w
      exact k _ _ _ (s3.trans w (Stp.new w3 hq)) ⟨rows, hcl, .lst upd_same (hd.mono (Ex.new (w3.low hq)))⟩
/-- dict of pairs of a row and a number -/
theorem pairsT_dts : ∀ {ps : List (List Nat × Nat)} {xs : List V}, Dts G xs (ps.map fun p => .tuple [tupN p.1, natD p.2]) →
    ∃ as : List Addr, xs = as.map V.ref ∧ Paired (fun p (kv : List Key × V) => ∃ b, G p = some (.tup [.ref b, kv.2]) ∧ G b = some (.tup (kv.1.map kV))) as (ps.map fun p => (keyN p.1, iV p.2))
  | [], _, h => by
    cases h
    exact ⟨[], rfl, .nil⟩
  | p :: ps, _, h => by
    rw [List.map_cons] at h
    cases h with
    | cons h1 h2 =>
      obtain ⟨as, e1, r⟩ := pairsT_dts h2
      obtain ⟨a, ys, rfl, ga, hys⟩ := h1.tup_inv
      obtain ⟨u, w, rfl, hu, hw⟩ := hys.two_inv
      cases hw
      obtain ⟨b, rfl, gb⟩ := key_at hu
      exact ⟨a :: as, by rw [List.map_cons, ← e1], .cons ⟨b, ga, gb⟩ r⟩
theorem c_dictTP {ps : List (List Nat × Nat)} (h : EvD m ta σ G (.list (ps.map fun p => .tuple [tupN p.1, natD p.2]))) :
    Cmp m G (tCB (rDictT K) (tCons ta tNil) σ) (fun v G' => ∃ a, v = .ref a ∧ G' a = some (.dT (mergeT [] (ps.map fun p => (keyN p.1, iV p.2))))) :=
  Cmp.cb (EvA.one h) fun vs G1 e1 hvs => by
    obtain ⟨v, rfl, hv⟩ := hvs.one_inv
    obtain ⟨a, xs, rfl, ga, hxs⟩ := hv.lst_inv
    obtain ⟨as, rfl, r⟩ := pairsT_dts hxs
    intro G2 H e2 w Q k
    refine ⟨a, as, _, rfl, sq_of (w.ex _ _ (e2 _ _ ga)), Paired.mapP r fun p kv ⟨b, g1, g2⟩ => ⟨b, st_of (w.ex _ _ (e2 _ _ g1)), w.ex _ _ (e2 _ _ g2)⟩, fun p hp => ?_⟩
    exact k _ (upd G2 p _) _ (Stp.new w hp) ⟨p, rfl, upd_same⟩
end
/-! ### _law_table -/
def sp__law_table : Sp := spF fun vs G P => ∃ (b : Nat) (v : V) (w0 w1 : List (List Nat)), vs = [.int b, v] ∧ Dt G v (waysD [w0, w1]) ∧ 2 ≤ b ∧ b ≤ 6 ∧ LeadOk b w0 ∧ LeadOk b w1 ∧ ∀ t, TabPre t → ∀ v' G', Dt G' v' (tabD t) → P v' G'
theorem len__law_table (vs : List V) (H : Hp) (Q : VK) (E : XK) (h : sp__law_table vs H Q E) : vs.length = ["_law_bells", "_law_ways"].length := by
  obtain ⟨G, P, _, ⟨b, v, w0, w1, rfl, _⟩, _⟩ := h
  rfl
theorem rd__law_table {K : PySem.W.Frag} {vs : List V} {H : Hp} {Q : VK} {E : XK} (h : sp__law_table vs H Q E) :
  (tSeq (tAsg (tCB rSortDT (tCons (tCall sp__law_roads [] C8.E0 (tCons (tVar 0) (tCons (tVar 1) tNil))) tNil)) (gName 2)) (tSeq (tAsg (tCB (rDictT K) (tCons (tLc (iEnum K (tCons (tVar 2) tNil)) (gTup K 2 (gCons (gName 4) (gCons (gName 5) gNil))) tYes (tTup (tCons (tVar 5) (tCons (tVar 4) tNil))) [4, 5]) tNil)) (gName 3)) (tRet (tThen (tLc (iList K (tVar 2)) (gName 5) tYes (tThen (tLc (iTup K (tVar 1)) (gName 6) tYes (tDGet (tVar 3) (tCall sp__law_led [] C8.E0 (tCons (tVar 5) (tCons (tVar 6) tNil)))) [6]) (kTup K)) [5]) (kTup K)))))
    { nx := fun x H' => Q V.non H', rt := Q } (L2.start ["_law_bells", "_law_ways", "_law_rows", "_law_numbers", "_law_at", "_law_row", "_law_lead_here"] vs) H := by
  obtain ⟨G, P, w00, ⟨b, v, lw0, lw1, rfl, hv, hb2, hb6, hl0, hl1, hP⟩, hQ⟩ := h
  refine q_asg w00 (c_sortDT (b := b) (ws := [lw0, lw1]) hb2 (c_call (P := fun v' G' => ∃ p ks kvs, v' = .ref p ∧ Closed b [lw0, lw1] ks ∧ kvs.map (·.1) = ks.map keyN ∧ G' p = some (.dT kvs)) (am_d (e_var (d := natD b) rfl (.int _)).D (am_d (e_var (d := waysD [lw0, lw1]) rfl hv).D am_nil)) fun vs G1 e1 has G2 e2 => ?_)) fun vr G1 H1 s1 ⟨rows, hcl, hr⟩ => ?_
  · obtain ⟨x, y, rfl, h1, h2⟩ := has.two
    cases h1
    exact ⟨b, y, [lw0, lw1], rfl, Dt.mono e2 h2, ⟨hb2, hb6, by simp, by simp, fun l hl => by
      simp only [List.mem_cons, List.not_mem_nil, or_false] at hl
      rcases hl with e | e <;> rw [e] <;> assumption⟩, fun ks kvs hc hk p G' gp => ⟨p, ks, kvs, rfl, hc, hk, gp⟩⟩
  have w1 := s1.w w00
  have hlen := rows_le hb6 hcl.nd hcl.ok
  have hfl : ∀ {α : Type} (l : List α), (l.filter fun _ => true) = l := fun l => List.filter_eq_self.mpr fun _ _ => rfl
  have hL := d_lc2 (m := m0) (K := K) (G := G1) (σ := [some (.int (b : Nat)), some v, some vr, none, none, none, none]) (tt := tYes) (te := tTup (tCons (tVar 5) (tCons (tVar 4) tNil))) (wi := iEnum K (tCons (tVar 2) tNil)) (i := 4) (j := 5) (xs := List.range rows.length) (e1 := natD) (e2 := fun i => tupN (rows.getD i []))
    (fun _ => true) (fun i => .tuple [tupN (rows.getD i []), natD i]) (by decide) (by
      have := i_enumL (m := m0) (K := K) (ta := tVar 2) (G := G1) (σ := [some (.int (b : Nat)), some v, some vr, none, none, none, none]) (ds := rows.map tupN) (e_var rfl hr).D
      rw [enumD_map []] at this
      exact this) (by rw [List.length_range]; omega) (fun x _ v u G1 _ _ _ => t_yes) (fun x _ v u G1 _ hv hu _ => d_tup (a_cons (e_var rfl hu).D (EvA.one (e_var rfl hv).D)) (by simp))
  rw [hfl] at hL
  have eps : (List.range rows.length).map (fun i => PyData.tuple [tupN (rows.getD i []), natD i]) = ((List.range rows.length).map fun i => (rows.getD i [], i)).map fun p => .tuple [tupN p.1, natD p.2] := by
    rw [List.map_map]
    rfl
  rw [eps] at hL
  refine q_asg w1 (c_dictTP (K := K) hL) fun vd G2 H2 s2 ⟨a, ea, ga⟩ => ?_
  subst ea
  have w2 := s2.w w1
  have st2 := s1.trans w00 s2
  have hget : ∀ r ∈ rows, valV (mergeT [] (((List.range rows.length).map fun i => (rows.getD i [], i)).map fun p => (keyN p.1, iV p.2))) (keyN r) = some (iV (rows.idxOf r)) := fun r hr => by
    refine val_merge_in _ [] ?_ ?_
    · rw [List.map_map, List.map_map]
      refine List.pairwise_map.mpr (List.Pairwise.imp_of_mem (fun {i j} hi hj hne e => hne ?_) List.nodup_range)
      have hi := List.mem_range.mp hi
      have hj := List.mem_range.mp hj
      have e2 := keyN_inj e
      simp only [List.getD_eq_getElem?_getD, List.getElem?_eq_getElem hi, List.getElem?_eq_getElem hj, Option.getD_some] at e2
      have p := List.pairwise_iff_getElem.mp hcl.nd
      rcases Nat.lt_trichotomy i j with c | c | c
      · exact absurd e2 (p i j hi hj c)
      · exact c
      · exact absurd e2.symm (p j i hj hi c)
    · rw [List.map_map]
      refine List.mem_map.mpr ⟨rows.idxOf r, List.mem_range.mpr (idx_lt hr), ?_⟩
      show (keyN (rows.getD (rows.idxOf r) []), iV (rows.idxOf r)) = _
      rw [List.getD_eq_getElem?_getD, idx_get hr]
      rfl
  have hE := d_lc1 (m := m0) (G := G2) (σ := [some (.int (b : Nat)), some v, some vr, some (.ref a), none, none, none]) (tt := tYes) (te := tThen (tLc (iTup K (tVar 1)) (gName 6) tYes (tDGet (tVar 3) (tCall sp__law_led [] C8.E0 (tCons (tVar 5) (tCons (tVar 6) tNil)))) [6]) (kTup K)) (wi := iList K (tVar 2)) (j := 5)
    (xs := rows) (enc := tupN) (fun _ => true) (fun r => rowD (rows.idxOf (ledN r lw0), rows.idxOf (ledN r lw1))) (i_list (e_var rfl (hr.mono s2.ex)).D) (by omega) (fun x _ v G1 _ _ => t_yes) (fun r hr x G3 e3 hx _ => by
      have hI := d_lc1 (m := m0) (G := G3) (σ := [some (.int (b : Nat)), some v, some vr, some (.ref a), none, some x, none]) (tt := tYes) (te := tDGet (tVar 3) (tCall sp__law_led [] C8.E0 (tCons (tVar 5) (tCons (tVar 6) tNil)))) (wi := iTup K (tVar 1)) (j := 6)
        (xs := [lw0, lw1]) (enc := leadD) (fun _ => true) (fun w => natD (rows.idxOf (ledN r w))) (i_tup (e_var rfl (hv.mono (st2.ex.trans e3))).D) (by simp) (fun x _ v G1 _ _ => t_yes) (fun w hw y G4 e4 hy _ => fun G5 H5 e5 w5 Q k => by
          have hrl := hcl.cl r hr w hw
          have hlo : LeadOk b w := by
            simp only [List.mem_cons, List.not_mem_nil, or_false] at hw
            rcases hw with e | e <;> rw [e] <;> assumption
          refine ⟨.ref a, rfl, c_call (m := m0) (G := G4) (σ := [some (.int (b : Nat)), some v, some vr, some (.ref a), none, some x, some y]) (E := C8.E0) (P := fun v' G' => Dt G' v' (tupN (ledN r w))) (am_d (e_var (d := tupN r) rfl (hx.mono e4)).D (am_d (e_var (d := leadD w) rfl hy).D am_nil)) (fun vs G1 e1 has G2 e2 => ?_) G5 H5 e5 w5 _ fun vk G6 H6 s6 hk => ?_⟩
          · obtain ⟨y, z, rfl, h1, h2⟩ := has.two
            exact ⟨y, z, b, _, _, rfl, Dt.mono e2 h1, Dt.mono e2 h2, hcl.ok r hr, hlo, fun _ _ h => h⟩
          · obtain ⟨kb, rfl, gkb⟩ := key_at hk
            exact ⟨a, iV (rows.idxOf (ledN r w)), rfl, by rw [← hget _ hrl]; exact DGet.t (s6.le _ _ (s6.ex _ _ (e5 _ _ (e4 _ _ (e3 _ _ ga))))) (s6.le _ _ gkb), k _ _ _ s6 (.int _)⟩)
      exact d_tupL hI)
  rw [hfl] at hE
  refine s_ret w2 (d_tupL hE) fun v' G4 H4 s4 hv' => hQ v' G4 H4 (st2.trans w00 s4) (hP (tabOf rows lw0 lw1) (tabOf_pre hb6 hcl hl0 hl1) v' G4 ?_)
  unfold tabOf tabD
  rw [List.map_map]
  exact hv'
/-! ### _law_any -/
theorem cut2 (xs : List V) : cutV xs none (some 2) = xs.take 2 := by
  unfold cutV
  have e : HT.sIx xs.length xs.length (some 2) = min 2 xs.length := HT.sIx_nat _ _ 2
  rw [e, HT.sIx_none, List.drop_zero, Nat.sub_zero]
  by_cases h : 2 ≤ xs.length
  · rw [Nat.min_eq_left h]
  · rw [Nat.min_eq_right (by omega), List.take_length, List.take_of_length_le (by omega)]
theorem d_slA2 {m : Mode} {σ : L2.St} {G : Hp} {ta : TE} {K : PySem.W.Frag} {ds : List PyData} (ha : EvD m ta σ G (.tuple ds)) : EvD m (tSl (rSlA K) ta tNoPart (tPart (tC (.int 2)))) σ G (.tuple (ds.take 2)) :=
  Cmp.bind (f := ta σ) (g := fun (x : V) (H1 : Hp) (Q : VK) => ∃ i, V.int 2 = .int i ∧ rSlA K x none (some i) H1 Q) ha fun v G1 e hv => by
    have hv0 := hv
    obtain ⟨a, xs, rfl, ga, hxs⟩ := hv.tup_inv
    intro G2 H e2 w Q k
    refine ⟨2, rfl, a, xs, rfl, st_of (w.ex _ _ (e2 _ _ ga)), fun ⟨_, h2⟩ => ?_, fun _ => ?_⟩
    · have e : HT.sIx xs.length xs.length (some 2) = min 2 xs.length := HT.sIx_nat _ _ 2
      rw [e] at h2
      have hl := hxs.length
      rw [List.take_of_length_le (by omega)] at k
      exact k _ _ _ (Stp.refl w) (hv0.mono e2)
    · rw [cut2]
      exact c_newT (hxs.take 2) G2 H e2 w Q k
def sp__law_any : Sp := spC fun c vs G P => vs = [.ref c, .int 9] ∧ ∀ t, Valid t → t.length ≤ 9 → ∀ v' G', Dt G' v' (tabD t) → P v' G'
theorem len__law_any (vs : List V) (H : Hp) (Q : VK) (E : XK) (h : sp__law_any vs H Q E) : vs.length = ["_law_cup_here", "_law_most"].length := by
  obtain ⟨c, G, P, _, ⟨rfl, _⟩, _⟩ := h
  rfl
theorem rd__law_any {K : PySem.W.Frag} {vs : List V} {H : Hp} {Q : VK} {E : XK} (h : sp__law_any vs H Q E) :
  (tSeq (tAsg (tCall sp__law_roll [] C8.E0 (tCons (tVar 0) (tCons (tC (V.int 4)) tNil))) (gName 2)) (tSeq (tIfS (tTest (tOp rEq (tVar 2) (tC (V.int 0)))) (tSeq (tAsg (tCall sp__law_two [] C8.E0 (tCons (tVar 0) tNil)) (gTup K 2 (gCons (gName 3) (gCons (gName 4) gNil)))) (tSeq (tAsg (tCall sp__law_table [] C8.E0 (tCons (tVar 3) (tCons (tSl (rSlA K) (tVar 4) tNoPart (tPart (tC (V.int 2)))) tNil))) (gName 5)) (tIfS (tTest (tOp (rI0 fun i j => V.bl (decide (i ≤ j))) (tCB (rLenS K) (tCons (tVar 5) tNil)) (tVar 1))) (tRet (tVar 5)) tNext))) tNext) (tSeq (tAsg (tOp (rI0 fun i j => V.int (i + j)) (tC (V.int 1)) (tCall sp__law_roll [] C8.E0 (tCons (tVar 0) (tCons (tVar 1) tNil)))) (gName 6)) (tSeq (tIfS (tTest (tOp rEq (tVar 2) (tC (V.int 1)))) (tRet (tCall sp__law_paired [] C8.E0 (tCons (tVar 0) (tCons (tVar 6) tNil)))) tNext) (tRet (tThen (tLc (iZip K (tCons (tCall sp__law_mixed [] C8.E0 (tCons (tVar 0) (tCons (tVar 6) tNil))) (tCons (tCall sp__law_mixed [] C8.E0 (tCons (tVar 0) (tCons (tVar 6) tNil))) tNil))) (gTup K 2 (gCons (gName 7) (gCons (gName 8) gNil))) tYes (tTup (tCons (tVar 7) (tCons (tVar 8) tNil))) [7, 8]) (kTup K)))))))
    { nx := fun x H' => Q V.non H', rt := Q } (L2.start ["_law_cup_here", "_law_most", "_law_way", "_law_bells", "_law_ways", "_law_table_here", "_law_many_here", "_law_one", "_law_two_here"] vs) H := by
  obtain ⟨c, G, P, w0, ⟨rfl, hP⟩, hQ⟩ := h
  refine q_asg w0 (p_roll (n := 4) (am_v (n_var rfl) (am_d (e_int 4).D am_nil)) (by omega) (by omega)) fun v1 G1 H1 s1 ⟨d, ⟨kw, hkw, ed⟩, hv1⟩ => ?_
  subst ed
  cases hv1
  have w1 := s1.w w0
  have fin : ∀ (o3 o4 o5 : Option V) (G2 H2 : Hp), Stp (mC c) G1 H1 G2 H2 →
      (tSeq (tAsg (tOp (rI0 fun i j => V.int (i + j)) (tC (V.int 1)) (tCall sp__law_roll [] C8.E0 (tCons (tVar 0) (tCons (tVar 1) tNil)))) (gName 6)) (tSeq (tIfS (tTest (tOp rEq (tVar 2) (tC (V.int 1)))) (tRet (tCall sp__law_paired [] C8.E0 (tCons (tVar 0) (tCons (tVar 6) tNil)))) tNext) (tRet (tThen (tLc (iZip K (tCons (tCall sp__law_mixed [] C8.E0 (tCons (tVar 0) (tCons (tVar 6) tNil))) (tCons (tCall sp__law_mixed [] C8.E0 (tCons (tVar 0) (tCons (tVar 6) tNil))) tNil))) (gTup K 2 (gCons (gName 7) (gCons (gName 8) gNil))) tYes (tTup (tCons (tVar 7) (tCons (tVar 8) tNil))) [7, 8]) (kTup K)))))
        { nx := fun x H' => Q V.non H', rt := Q } [some (.ref c), some (.int 9), some (.int (kw : Nat)), o3, o4, o5, none, none, none] H2 := by
    intro o3 o4 o5 G2 H2 s2
    have w2 := s2.w w1
    have st2 := s1.trans w0 s2
    have hR : EvP (mC c) (tOp (rI0 fun i j => V.int (i + j)) (tC (V.int 1)) (tCall sp__law_roll [] C8.E0 (tCons (tVar 0) (tCons (tVar 1) tNil)))) [some (.ref c), some (.int 9), some (.int (kw : Nat)), o3, o4, o5, none, none, none] G2 (fun d => ∃ n : Nat, 1 ≤ n ∧ n ≤ 9 ∧ d = natD n) :=
      p_op (e_int 1).D.P (p_roll (n := 9) (am_v (n_var rfl) (am_d (e_var (d := .int 9) rfl (.int _)).D am_nil)) (by omega) (by omega)) fun x y d1 d2 G3 e h1 h2 hx hy => by
        subst h1
        obtain ⟨k, hk, rfl⟩ := h2
        cases hx
        cases hy
        intro G4 H4 e4 w4 Q k'
        have e1 : (1 : Int) + ((k : Nat) : Int) = ((k + 1 : Nat) : Int) := by omega
        refine ⟨1, (k : Nat), rfl, rfl, k' _ _ _ (Stp.refl w4) ⟨_, ⟨k + 1, by omega, by omega, rfl⟩, ?_⟩⟩
        show Dt G4 (.int (1 + (k : Nat))) _
        rw [e1]
        exact .int _
    refine q_asg w2 hR fun v3 G3 H3 s3 ⟨d, ⟨n, hn1, hn9, ed⟩, hv3⟩ => ?_
    subst ed
    cases hv3
    have w3 := s3.w w2
    have st3 := st2.trans w0 s3
    refine q_when (b := decide (kw = 1)) w3 (t_test (d_eqN (j := 1) (e_var (d := natD kw) rfl (.int _)).D (e_int 1).D)) (fun _ G4 H4 s4 => ?_) (fun _ G4 H4 s4 => ?_)
    · have w4 := s4.w w3
      have st4 := st3.trans w0 s4
      refine s_ret (m := mC c) (P := fun v' G' => ∃ t, Valid t ∧ t.length = n ∧ Dt G' v' (tabD t)) w4 (c_callC (am_v (n_var rfl) (am_d (e_var (d := natD n) rfl (.int _)).D am_nil)) fun vs G1 e1 has G2 e2 => ?_) fun v' G5 H5 s5 ⟨t, ht, htl, hv'⟩ => hQ v' G5 H5 (st4.trans w0 s5) (hP t ht (by omega) v' G5 hv')
      obtain ⟨x, y, rfl, h1, h2⟩ := has.two
      cases h1
      cases h2
      exact ⟨n, rfl, hn1, by omega, fun t ht htl v' G' hv => ⟨t, ht, htl, hv⟩⟩
    · have w4 := s4.w w3
      have st4 := st3.trans w0 s4
      have hM : ∀ G5, EvP (mC c) (tCall sp__law_mixed [] C8.E0 (tCons (tVar 0) (tCons (tVar 6) tNil))) [some (.ref c), some (.int 9), some (.int (kw : Nat)), o3, o4, o5, some (.int (n : Nat)), none, none] G5 (fun d => ∃ l, PL n l ∧ d = lstN l) := fun G5 =>
        c_callC (P := fun v' G' => ∃ d, (∃ l, PL n l ∧ d = lstN l) ∧ Dt G' v' d) (am_v (n_var rfl) (am_d (e_var (d := natD n) rfl (.int _)).D am_nil)) fun vs G1 e1 has G2 e2 => by
          obtain ⟨x, y, rfl, h1, h2⟩ := has.two
          cases h1
          cases h2
          exact ⟨n, rfl, hn1, by omega, fun l hl v' G' hv => ⟨_, ⟨l, hl, rfl⟩, hv.dt⟩⟩
      refine s_ret (m := mC c) (P := fun v' G' => ∃ t, (Valid t ∧ t.length = n) ∧ Dt G' v' (tabD t)) w4 ?_ fun v' G5 H5 s5 ⟨t, ⟨ht, htl⟩, hv'⟩ => hQ v' G5 H5 (st4.trans w0 s5) (hP t ht (by omega) v' G5 hv')
      refine Cmp.bind (f := tCall sp__law_mixed [] C8.E0 (tCons (tVar 0) (tCons (tVar 6) tNil)) _) (g := fun (x : V) (H1 : Hp) (Q : VK) => tCall sp__law_mixed [] C8.E0 (tCons (tVar 0) (tCons (tVar 6) tNil)) [some (.ref c), some (.int 9), some (.int (kw : Nat)), o3, o4, o5, some (.int (n : Nat)), none, none] H1 fun y H2 =>
        tThen (tLc (iZip K (tCons (tC x) (tCons (tC y) tNil))) (gTup K 2 (gCons (gName 7) (gCons (gName 8) gNil))) tYes (tTup (tCons (tVar 7) (tCons (tVar 8) tNil))) [7, 8]) (kTup K) [some (.ref c), some (.int 9), some (.int (kw : Nat)), o3, o4, o5, some (.int (n : Nat)), none, none] H2 Q) (hM G4) fun x G5 e5 ⟨d, ⟨l1, hl1, ed⟩, hx⟩ => ?_
      subst ed
      refine Cmp.bind (f := tCall sp__law_mixed [] C8.E0 (tCons (tVar 0) (tCons (tVar 6) tNil)) _) (g := fun (y : V) (H1 : Hp) (Q : VK) =>
        tThen (tLc (iZip K (tCons (tC x) (tCons (tC y) tNil))) (gTup K 2 (gCons (gName 7) (gCons (gName 8) gNil))) tYes (tTup (tCons (tVar 7) (tCons (tVar 8) tNil))) [7, 8]) (kTup K) [some (.ref c), some (.int 9), some (.int (kw : Nat)), o3, o4, o5, some (.int (n : Nat)), none, none] H1 Q) (hM G5) fun y G6 e6 ⟨d, ⟨l2, hl2, ed⟩, hy⟩ => ?_
      subst ed
      refine Cmp.imp (d_zipTab (K := K) (a := l1) (b := l2) (by decide) (hl1.len.trans hl2.len.symm) (by rw [hl1.len]; omega) (e_glob (hx.mono e6)).D (e_glob hy).D (by show 7 < 9; omega) (by show 8 < 9; omega)) fun v G' _ hv => ⟨_, ⟨valid_zip hl1 hl2 hn1 (by omega), by rw [List.length_zip, hl1.len, hl2.len, Nat.min_self]⟩, hv⟩
  refine q_when (b := decide (kw = 0)) w1 (t_test (d_eqN (j := 0) (e_var (d := natD kw) rfl (.int _)).D (e_int 0).D)) (fun _ G2 H2 s2 => ?_) (fun _ G2 H2 s2 => ?_)
  · have w2 := s2.w w1
    refine q_asgG (m := mC c) (P := fun v' G' => ∃ b ls, WaysOk 2 11 b ls ∧ Dt G' v' (.tuple [natD b, waysD ls])) w2 (c_callC (am_v (n_var rfl) am_nil) fun vs G1 e1 has G2 e2 => ?_) fun v3 G3 H3 s3 ⟨b, ls, hw, hv⟩ => ?_
    · obtain ⟨x, rfl, h1⟩ := has.one
      cases h1
      exact ⟨rfl, fun b ls hw v' G' hv => ⟨b, ls, hw, hv⟩⟩
    have w3 := s3.w w2
    have st3 := s2.trans w1 s3
    obtain ⟨a, xs, rfl, ga, hxs⟩ := hv.tup_inv
    obtain ⟨vb, vl, rfl, hvb, hvl⟩ := hxs.two_inv
    cases hvb
    refine ⟨a, _, rfl, st_of (w3.ex _ _ ga), rfl, _, [vl], rfl, vl, [], rfl, rfl, ?_⟩
    obtain ⟨lw0, lw1, r, rfl⟩ : ∃ a b r, ls = a :: b :: r := by
      have := hw.lo
      match ls, this with
      | a :: b :: r, _ => exact ⟨a, b, r, rfl⟩
    have hsl := d_slA2 (m := mC c) (K := K) (σ := [some (.ref c), some (.int 9), some (.int (kw : Nat)), some (.int (b : Nat)), some vl, none, none, none, none]) (ta := tVar 4) (e_var rfl hvl).D
    refine q_asg (m := mC c) (P := fun v' G' => ∃ t, TabPre t ∧ Dt G' v' (tabD t)) w3 (c_call (am_d (e_var (d := natD b) rfl (.int _)).D (am_d (d := waysD [lw0, lw1]) hsl am_nil)) fun vs G1 e1 has G2 e2 => ?_) fun v4 G4 H4 s4 ⟨t, ht, hv4⟩ => ?_
    · obtain ⟨x, y, rfl, h1, h2⟩ := has.two
      cases h1
      exact ⟨b, y, lw0, lw1, rfl, Dt.mono e2 h2, hw.b1, hw.b2, hw.ok _ (by simp), hw.ok _ (by simp), fun t ht v' G' hv => ⟨t, ht, hv⟩⟩
    have w4 := s4.w w3
    have st4 := st3.trans w1 s4
    refine s_if (b := decide ((t.length : Int) ≤ 9)) w4 (t_test (d_cmpI (g := fun i j => decide (i ≤ j)) (e_lenTM (enc := rowD) (e_var rfl hv4)).D (e_var (d := .int 9) rfl (.int _)).D)) (fun hb G5 H5 s5 => ?_) (fun hb G5 H5 s5 => ?_)
    · have hb := of_decide_eq_true hb
      refine s_ret (s5.w w4) (e_var rfl (hv4.mono s5.ex)).D fun v' G6 H6 s6 hv' => hQ v' G6 H6 (((s1.trans w0 st4).trans w0 s5).trans w0 s6) (hP t ⟨ht.pos, by omega, ht.p1, ht.p2⟩ (by omega) v' G6 hv')
    · exact fin _ _ _ G5 H5 (st4.trans w1 s5)
  · exact fin _ _ _ G2 H2 s2
end R45
end
section
set_option Elab.async false
set_option linter.all false
set_option maxRecDepth 100000
set_option maxHeartbeats 2000000
namespace R45
open PySem PySem.Spec PyProof.Rows L2 Evl
def isTup (d : PyData) (lo hi : Int) : Bool := match d with
  | .tuple ds => decide (lo ≤ (ds.length : Int)) && decide ((ds.length : Int) ≤ hi)
  | _ => false
def isWhole (d : PyData) (lo hi : Int) : Bool := match d with
  | .int i => decide (lo ≤ i) && decide (i ≤ hi)
  | _ => false
def itemsOf (d : PyData) : List PyData := match d with
  | .tuple ds => ds
  | _ => []
def intOf (d : PyData) : Int := match d with
  | .int i => i
  | _ => 0
def tyN (d : PyData) : String := match d with
  | .none => "NoneType"
  | .bool _ => "bool"
  | .int _ => "int"
  | .str _ => "str"
  | .list _ => "list"
  | .tuple _ => "tuple"
  | .dict _ => "dict"
section
variable {m : Mode} {σ : L2.St} {G G' H : Hp} {te ta tb tc tl : TE} {tt tu : TT} {d d' : PyData} {v : V} {K : PySem.W.Frag} {ds es : List PyData} {E : XK}
theorem ty_of (h : Dt G v d) (e : Ex G H) : TyX K H v (.type (tyN d)) := by
  cases h with
  | non => exact .base .non
  | bl b => exact .base (.bl b)
  | int i => exact .base (.int i)
  | str x => exact .base (.str x)
  | lst h1 _ => exact .base (.lst (e _ _ h1))
  | tup h1 _ => exact .base (.tup (e _ _ h1))
theorem d_isi {T : String} {r : Bool} (h : EvD m ta σ G d) (hk : kitB (tyN d) T = some r) : EvD m (tCB (rIsi K) (tCons ta (tCons (tC (.ty T)) tNil))) σ G (.bool r) :=
  Cmp.bind (f := ta σ) (g := fun (x : V) (H1 : Hp) (Q : VK) => rIsi K [x, .ty T] H1 Q) h fun v G1 e hv G2 H e2 w Q k =>
    ⟨v, .ty T, _, _, r, rfl, .ty T, ty_of hv (e2.trans w.ex), kit_ty hk, k _ _ _ (Stp.refl w) (.bl r)⟩
theorem d_chainI {i j k : Int} (ha : EvE ta σ G (.int i)) (hb : EvE tb σ G (.int j)) (hc : EvE tc σ G (.int k)) : EvD m (tChain (rI0 fun i j => V.bl (decide (i ≤ j))) (rI0 fun i j => V.bl (decide (i ≤ j))) ta tb tc) σ G (.bool (decide (i ≤ j) && decide (j ≤ k))) := fun G1 H e w Q kq => by
  have e' := e.trans w.ex
  refine ha.int H e' _ (hb.int H e' _ ⟨i, j, rfl, rfl, _, rfl, ?_⟩)
  by_cases h : i ≤ j
  · rw [decide_eq_true h] at kq ⊢
    exact hc.int H e' _ ⟨j, k, rfl, rfl, kq _ _ _ (Stp.refl w) (.bl _)⟩
  · rw [decide_eq_false h] at kq ⊢
    exact kq _ _ _ (Stp.refl w) (.bl _)
theorem d_all {bs : List Bool} (h : EvD m ta σ G (.list (bs.map PyData.bool))) : EvD m (tCB (rAll K) (tCons ta tNil)) σ G (.bool (bs.all id)) :=
  Cmp.cb (EvA.one h) fun vs G1 e hvs => by
    obtain ⟨v, rfl, hv⟩ := hvs.one_inv
    obtain ⟨a, xs, rfl, ga, hxs⟩ := hv.lst_inv
    cases dts_bools_inv hxs
    intro G2 H e2 w Q k
    exact ⟨a, bs, rfl, sq_of (w.ex _ _ (e2 _ _ ga)), k _ _ _ (Stp.refl w) (.bl _)⟩
theorem d_allM {α : Type} {xs : List α} {F : α → Bool} (h : EvD m ta σ G (.list (xs.map fun x => .bool (F x)))) : EvD m (tCB (rAll K) (tCons ta tNil)) σ G (.bool (xs.all F)) := by
  have e : (xs.map fun x => PyData.bool (F x)) = (xs.map F).map PyData.bool := by
    rw [List.map_map]
    rfl
  rw [e] at h
  exact (d_all h).is (by rw [List.all_map]; rfl)
theorem d_setLen {ns : List Int} (h : EvD m ta σ G (.list (ns.map PyData.int))) (hn : ns.length ≤ 4000) : EvD m (tLenSetA K ta) σ G (.int (setLen ns : Nat)) :=
  Cmp.bind (f := ta σ) (g := fun (x : V) (H1 : Hp) (Q : VK) => ∃ (l : Addr) (ns : List Int), x = .ref l ∧ SqL K H1 l (ns.map V.int) ∧ ns.length ≤ 4000 ∧ Q (.int (setLen ns : Nat)) H1) h fun v G1 e hv => by
    obtain ⟨a, xs, rfl, ga, hxs⟩ := hv.lst_inv
    cases dts_ints_inv hxs
    intro G2 H e2 w Q k
    exact ⟨a, ns, rfl, sq_of (w.ex _ _ (e2 _ _ ga)), hn, k _ _ _ (Stp.refl w) (.int _)⟩
end
/-! ### is_whole, is_tuple_of -/
def sp_is_whole : Sp := spF fun vs G P => ∃ v d lo hi, vs = [v, .int lo, .int hi] ∧ Dt G v d ∧ ∀ G', P (.bl (isWhole d lo hi)) G'
theorem len_is_whole (vs : List V) (H : Hp) (Q : VK) (E : XK) (h : sp_is_whole vs H Q E) : vs.length = (["value", "low", "high"] : List String).length := by
  obtain ⟨G, P, _, ⟨v, d, lo, hi, rfl, _⟩, _⟩ := h
  rfl
theorem rd_is_whole {K : PySem.W.Frag} {vs : List V} {H : Hp} {Q : VK} {E : XK} (h : sp_is_whole vs H Q E) :
  (tRet (tAndV (tCB (rIsi K) (tCons (tVar 0) (tCons (tC (V.ty "int")) tNil))) (tAndV (tNotV (tCB (rIsi K) (tCons (tVar 0) (tCons (tC (V.ty "bool")) tNil)))) (tChain (rI0 fun i j => V.bl (decide (i ≤ j))) (rI0 fun i j => V.bl (decide (i ≤ j))) (tVar 1) (tVar 0) (tVar 2)))))
    { nx := fun x H' => Q V.non H', rt := Q } (L2.start ["value", "low", "high"] vs) H := by
  obtain ⟨G, P, w0, ⟨v, d, lo, hi, rfl, hv, hP⟩, hQ⟩ := h
  have hE : EvD m0 (tAndV (tCB (rIsi K) (tCons (tVar 0) (tCons (tC (V.ty "int")) tNil))) (tAndV (tNotV (tCB (rIsi K) (tCons (tVar 0) (tCons (tC (V.ty "bool")) tNil)))) (tChain (rI0 fun i j => V.bl (decide (i ≤ j))) (rI0 fun i j => V.bl (decide (i ≤ j))) (tVar 1) (tVar 0) (tVar 2)))) [some v, some (.int lo), some (.int hi)] G (.bool (isWhole d lo hi)) := by
    have h0 : EvD m0 (tVar 0) [some v, some (.int lo), some (.int hi)] G d := (e_var rfl hv).D
    cases hv with
    | int i => exact d_andV (a := true) (d_isi h0 rfl) fun _ => d_andV (a := true) (d_notV (d_isi h0 (r := false) rfl)) fun _ => d_chainI (e_var rfl (.int lo)) (e_var rfl (.int i)) (e_var rfl (.int hi))
    | bl b => exact d_andV (a := true) (b := false) (d_isi h0 rfl) fun _ => d_andV (a := false) (b := false) (d_notV (d_isi h0 (r := true) rfl)) fun z => by cases z
    | non => exact d_andV (a := false) (b := false) (d_isi h0 rfl) fun z => by cases z
    | str _ => exact d_andV (a := false) (b := false) (d_isi h0 rfl) fun z => by cases z
    | lst _ _ => exact d_andV (a := false) (b := false) (d_isi h0 rfl) fun z => by cases z
    | tup _ _ => exact d_andV (a := false) (b := false) (d_isi h0 rfl) fun z => by cases z
  exact s_ret w0 hE fun v' G' H' s hv' => by
    cases hv'
    exact hQ _ G' H' s (hP G')
def sp_is_tuple_of : Sp := spF fun vs G P => ∃ v d lo hi, vs = [v, .int lo, .int hi] ∧ Dt G v d ∧ ∀ G', P (.bl (isTup d lo hi)) G'
theorem len_is_tuple_of (vs : List V) (H : Hp) (Q : VK) (E : XK) (h : sp_is_tuple_of vs H Q E) : vs.length = (["value", "low", "high"] : List String).length := by
  obtain ⟨G, P, _, ⟨v, d, lo, hi, rfl, _⟩, _⟩ := h
  rfl
theorem rd_is_tuple_of {K : PySem.W.Frag} {vs : List V} {H : Hp} {Q : VK} {E : XK} (h : sp_is_tuple_of vs H Q E) :
  (tRet (tAndV (tCB (rIsi K) (tCons (tVar 0) (tCons (tC (V.ty "tuple")) tNil))) (tChain (rI0 fun i j => V.bl (decide (i ≤ j))) (rI0 fun i j => V.bl (decide (i ≤ j))) (tVar 1) (tCB (rLenS K) (tCons (tVar 0) tNil)) (tVar 2))))
    { nx := fun x H' => Q V.non H', rt := Q } (L2.start ["value", "low", "high"] vs) H := by
  obtain ⟨G, P, w0, ⟨v, d, lo, hi, rfl, hv, hP⟩, hQ⟩ := h
  have hE : EvD m0 (tAndV (tCB (rIsi K) (tCons (tVar 0) (tCons (tC (V.ty "tuple")) tNil))) (tChain (rI0 fun i j => V.bl (decide (i ≤ j))) (rI0 fun i j => V.bl (decide (i ≤ j))) (tVar 1) (tCB (rLenS K) (tCons (tVar 0) tNil)) (tVar 2))) [some v, some (.int lo), some (.int hi)] G (.bool (isTup d lo hi)) := by
    have h0 : EvD m0 (tVar 0) [some v, some (.int lo), some (.int hi)] G d := (e_var rfl hv).D
    have h1 : EvE (tVar 0) [some v, some (.int lo), some (.int hi)] G d := e_var rfl hv
    cases hv with
    | tup _ _ => exact d_andV (a := true) (d_isi h0 rfl) fun _ => d_chainI (e_var rfl (.int lo)) (e_lenT h1) (e_var rfl (.int hi))
    | bl b => exact d_andV (a := false) (b := false) (d_isi h0 rfl) fun z => by cases z
    | non => exact d_andV (a := false) (b := false) (d_isi h0 rfl) fun z => by cases z
    | str _ => exact d_andV (a := false) (b := false) (d_isi h0 rfl) fun z => by cases z
    | lst _ _ => exact d_andV (a := false) (b := false) (d_isi h0 rfl) fun z => by cases z
    | int _ => exact d_andV (a := false) (b := false) (d_isi h0 rfl) fun z => by cases z
  exact s_ret w0 hE fun v' G' H' s hv' => by
    cases hv'
    exact hQ _ G' H' s (hP G')
section
variable {m : Mode} {σ : L2.St} {G G' H : Hp} {te ta tb tc tl : TE} {tt tu : TT} {d d' : PyData} {v : V} {K : PySem.W.Frag} {ds es : List PyData} {E : XK}
theorem d_isTup {lo hi : Int} (ha : EvD m ta σ G d) (hb : EvD m tb σ G (.int lo)) (hc : EvD m tc σ G (.int hi)) : EvD m (tCall sp_is_tuple_of [] E (tCons ta (tCons tb (tCons tc tNil)))) σ G (.bool (isTup d lo hi)) :=
  c_call (P := fun v' G' => Dt G' v' (.bool (isTup d lo hi))) (am_d ha (am_d hb (am_d hc am_nil))) fun vs G1 e1 has G2 e2 => by
    obtain ⟨x, y, z, rfl, h1, h2, h3⟩ := has.three
    cases h2
    cases h3
    exact ⟨x, d, lo, hi, rfl, Dt.mono e2 h1, fun G' => .bl _⟩
theorem d_isWhole {lo hi : Int} (ha : EvD m ta σ G d) (hb : EvD m tb σ G (.int lo)) (hc : EvD m tc σ G (.int hi)) : EvD m (tCall sp_is_whole [] E (tCons ta (tCons tb (tCons tc tNil)))) σ G (.bool (isWhole d lo hi)) :=
  c_call (P := fun v' G' => Dt G' v' (.bool (isWhole d lo hi))) (am_d ha (am_d hb (am_d hc am_nil))) fun vs G1 e1 has G2 e2 => by
    obtain ⟨x, y, z, rfl, h1, h2, h3⟩ := has.three
    cases h2
    cases h3
    exact ⟨x, d, lo, hi, rfl, Dt.mono e2 h1, fun G' => .bl _⟩
end
/-! ### fits_table -/
def rowFits (n many : Nat) (x : PyData) : Bool := decide ((itemsOf x).length = many) && (itemsOf x).all fun y => isWhole y 0 ((n : Int) - 1)
def manyOf (ds : List PyData) : Nat := (itemsOf (ds.getD 0 .none)).length
def colOf (ds : List PyData) (w : Nat) : List Int := ds.map fun x => intOf ((itemsOf x).getD w .none)
def fitsL (ds : List PyData) : Bool := ds.all (rowFits ds.length (manyOf ds)) && (List.range (manyOf ds)).all fun w => decide (setLen (colOf ds w) = ds.length)
def fitsD (d : PyData) : Bool := isTup d 1 720 && ((itemsOf d).all (fun x => isTup x 1 6) && fitsL (itemsOf d))
def sp_fits_table : Sp := spF fun vs G P => ∃ v d, vs = [v] ∧ Dt G v d ∧ ∀ G', P (.bl (fitsD d)) G'
theorem isTup_inv {d : PyData} {lo hi : Int} (h : isTup d lo hi = true) : ∃ ds, d = .tuple ds ∧ lo ≤ (ds.length : Int) ∧ (ds.length : Int) ≤ hi := by
  cases d <;> simp [isTup] at h
  exact ⟨_, rfl, h.1, h.2⟩
theorem isWhole_inv {d : PyData} {lo hi : Int} (h : isWhole d lo hi = true) : ∃ i, d = .int i := by
  cases d <;> simp [isWhole] at h
  exact ⟨_, rfl⟩
theorem len_fits_table (vs : List V) (H : Hp) (Q : VK) (E : XK) (h : sp_fits_table vs H Q E) : vs.length = (["value"] : List String).length := by
  obtain ⟨G, P, _, ⟨v, d, rfl, _⟩, _⟩ := h
  rfl
theorem rd_fits_table {K : PySem.W.Frag} {vs : List V} {H : Hp} {Q : VK} {E : XK} (h : sp_fits_table vs H Q E) :
  (tSeq (tIfS (tOr (tNot (tB (tCall sp_is_tuple_of [] C8.E0 (tCons (tVar 0) (tCons (tC (V.int 1)) (tCons (tC (V.int 720)) tNil)))))) (tNot (tB (tCB (rAll K) (tCons (tLc (iTup K (tVar 0)) (gName 2) tYes (tCall sp_is_tuple_of [] C8.E0 (tCons (tVar 2) (tCons (tC (V.int 1)) (tCons (tC (V.int 6)) tNil)))) [2]) tNil))))) (tRet (tC (V.bl false))) tNext) (tSeq (tAsg (tCB (rLenS K) (tCons (tOp (rIxT K) (tVar 0) (tC (V.int 0))) tNil)) (gName 1)) (tSeq (tFor (iTup K (tVar 0)) (gName 2) (tIfS (tOr (tTest (tOp rNe (tCB (rLenS K) (tCons (tVar 2) tNil)) (tVar 1))) (tNot (tB (tCB (rAll K) (tCons (tLc (iTup K (tVar 2)) (gName 3) tYes (tCall sp_is_whole [] C8.E0 (tCons (tVar 3) (tCons (tC (V.int 0)) (tCons (tOp (rI0 fun i j => V.int (i - j)) (tCB (rLenS K) (tCons (tVar 0) tNil)) (tC (V.int 1))) tNil)))) [3]) tNil))))) (tRet (tC (V.bl false))) tNext)) (tRet (tCB (rAll K) (tCons (tLc (iRng1 (tCons (tVar 1) tNil)) (gName 4) tYes (tOp rEq (tLenSetA K (tLc (iTup K (tVar 0)) (gName 2) tYes (tOp (rIxT K) (tVar 2) (tVar 4)) [2])) (tCB (rLenS K) (tCons (tVar 0) tNil))) [4]) tNil))))))
    { nx := fun x H' => Q V.non H', rt := Q } (L2.start ["value", "many", "item", "number", "way"] vs) H := by
  obtain ⟨G, P, w0, ⟨v, d, rfl, hv, hP⟩, hQ⟩ := h
  have hfl : ∀ {α : Type} (l : List α), (l.filter fun _ => true) = l := fun l => List.filter_eq_self.mpr fun _ _ => rfl
  have hT : EvT m0 (tNot (tB (tCall sp_is_tuple_of [] C8.E0 (tCons (tVar 0) (tCons (tC (V.int 1)) (tCons (tC (V.int 720)) tNil)))))) [some v, none, none, none, none] G (!isTup d 1 720) := t_not (t_val (d_isTup (e_var rfl hv).D (e_int 1).D (e_int 720).D))
  refine q_when (b := !isTup d 1 720 || !((itemsOf d).all fun x => isTup x 1 6)) w0 (t_or hT fun h1 => ?_) (fun hb G1 H1 s1 => ?_) (fun hb G1 H1 s1 => ?_)
  · have h1 : isTup d 1 720 = true := by simpa using h1
    obtain ⟨ds, rfl, hlo, hhi⟩ := isTup_inv h1
    have hL := d_lc1 (m := m0) (G := G) (σ := [some v, none, none, none, none]) (tt := tYes) (te := tCall sp_is_tuple_of [] C8.E0 (tCons (tVar 2) (tCons (tC (V.int 1)) (tCons (tC (V.int 6)) tNil)))) (wi := iTup K (tVar 0)) (j := 2)
      (xs := ds) (enc := id) (fun _ => true) (fun x => .bool (isTup x 1 6)) (i_tup (by rw [List.map_id]; exact (e_var rfl hv).D)) (by omega) (fun x _ v G1 _ _ => t_yes) (fun x _ v G1 _ hx _ => d_isTup (e_var rfl hx).D (e_int 1).D (e_int 6).D)
    rw [hfl] at hL
    exact t_not (t_val (d_allM (K := K) hL))
  · have hf : fitsD d = false := by
      unfold fitsD
      rw [Bool.or_eq_true] at hb
      rcases hb with z | z
      · have : isTup d 1 720 = false := by simpa using z
        rw [this]
        rfl
      · have : ((itemsOf d).all fun x => isTup x 1 6) = false := by
          cases q : ((itemsOf d).all fun x => isTup x 1 6) with
          | false => rfl
          | true => rw [q] at z; cases z
        rw [this, Bool.false_and, Bool.and_false]
    exact s_ret (s1.w w0) (e_bl false).D fun v' G2 H2 s2 hv' => by
      cases hv'
      exact hQ _ G2 H2 (s1.trans w0 s2) (by rw [← hf]; exact hP G2)
  · rw [Bool.or_eq_false_iff] at hb
    have h1 : isTup d 1 720 = true := by simpa using hb.1
    have h2 : ((itemsOf d).all fun x => isTup x 1 6) = true := by
      cases q : ((itemsOf d).all fun x => isTup x 1 6) with
      | true => rfl
      | false => rw [q] at hb; exact absurd hb.2 (by decide)
    obtain ⟨ds, rfl, hlo, hhi⟩ := isTup_inv h1
    have h2' : ∀ x ∈ ds, isTup x 1 6 = true := List.all_eq_true.mp h2
    have hfd : fitsD (.tuple ds) = fitsL ds := by
      unfold fitsD
      rw [h1, h2]
      rfl
    rw [hfd] at hP
    obtain ⟨x0, hx0⟩ : ∃ x0, ds[0]? = some x0 := ⟨ds[0]'(by omega), List.getElem?_eq_getElem _⟩
    obtain ⟨es0, hes0, _, h06⟩ := isTup_inv (h2' x0 (List.mem_of_getElem? hx0))
    have hmo : manyOf ds = es0.length := by
      unfold manyOf
      rw [List.getD_eq_getElem?_getD, hx0, hes0]
      rfl
    have w1 := s1.w w0
    have hv1 := hv.mono s1.ex
    refine q_asg w1 (d_lenT (K := K) (ds := es0) (e_ixT (K := K) (ta := tVar 0) (d := .tuple es0) (e_var rfl hv1) (e_int 0) (by rw [← hes0]; exact atI_nat (j := 0) hx0)).D) fun vm G2 H2 s2 hm => ?_
    cases hm
    rw [← hmo]
    have w2 := s2.w w1
    have st2 := s1.trans w0 s2
    refine q_for w2 (i_tup (e_var rfl (hv1.mono s2.ex)).D)
      (fun i G' σ' H' => ∃ o2, Stp m0 G H G' H' ∧ σ' = [some v, some (.int (manyOf ds : Nat)), o2, none, none] ∧ (ds.take i).all (rowFits ds.length (manyOf ds)) = true)
      (fun i G' σ' H' ⟨_, st, _⟩ => st.w w0) (fun G3 H3 s3 => ⟨none, st2.trans w0 s3, rfl, by simp⟩) (fun i d x G' σ' H' hd eG hI Gx Hx sx hx => ?_) (fun G' σ' H' eG hI => ?_)
    · obtain ⟨o2, st, rfl, hall⟩ := hI
      have w' := st.w w0
      have wx := sx.w w'
      have stx := st.trans w0 sx
      obtain ⟨es, rfl, hel, heh⟩ := isTup_inv (h2' d (List.mem_of_getElem? hd))
      have hvx := hv.mono stx.ex
      have htk : (ds.take (i + 1)).all (rowFits ds.length (manyOf ds)) = ((ds.take i).all (rowFits ds.length (manyOf ds)) && rowFits ds.length (manyOf ds) (.tuple es)) := by
        rw [List.take_add_one, hd, List.all_append]
        simp
      refine s_if (b := !decide (es.length = manyOf ds) || !(es.all fun y => isWhole y 0 ((ds.length : Int) - 1))) wx (t_or (t_test (d_neN (d_lenT (K := K) (e_var rfl hx).D) (e_var (d := natD (manyOf ds)) rfl (.int _)).D)) fun _ => ?_) (fun hb G3 H3 s3 => ?_) (fun hb G3 H3 s3 => ?_)
      · have hL := d_lc1 (m := m0) (G := Gx) (σ := [some v, some (.int (manyOf ds : Nat)), some x, none, none]) (tt := tYes) (te := tCall sp_is_whole [] C8.E0 (tCons (tVar 3) (tCons (tC (V.int 0)) (tCons (tOp (rI0 fun i j => V.int (i - j)) (tCB (rLenS K) (tCons (tVar 0) tNil)) (tC (V.int 1))) tNil)))) (wi := iTup K (tVar 2)) (j := 3)
          (xs := es) (enc := id) (fun _ => true) (fun y => .bool (isWhole y 0 ((ds.length : Int) - 1))) (i_tup (by rw [List.map_id]; exact (e_var rfl hx).D)) (by omega) (fun x _ v G1 _ _ => t_yes) (fun y _ v G1 e hy _ => d_isWhole (e_var rfl hy).D (e_int 0).D (e_sub (e_lenT (K := K) (e_var rfl (hvx.mono e))) (e_int 1)).D)
        rw [hfl] at hL
        exact t_not (t_val (d_allM (K := K) hL))
      · have hr : rowFits ds.length (manyOf ds) (.tuple es) = false := by
          unfold rowFits
          rw [Bool.or_eq_true] at hb
          rcases hb with z | z
          · have : decide (es.length = manyOf ds) = false := by simpa using z
            show (decide (es.length = manyOf ds) && _) = false
            rw [this, Bool.false_and]
          · show (_ && es.all _) = false
            have : (es.all fun y => isWhole y 0 ((ds.length : Int) - 1)) = false := by
              cases q : (es.all fun y => isWhole y 0 ((ds.length : Int) - 1)) with
              | false => rfl
              | true => rw [q] at z; cases z
            rw [this, Bool.and_false]
        have hf : fitsL ds = false := by
          unfold fitsL
          have : ds.all (rowFits ds.length (manyOf ds)) = false := by
            rw [List.all_eq_false]
            exact ⟨_, List.mem_of_getElem? hd, by rw [hr]; decide⟩
          rw [this, Bool.false_and]
        exact s_ret (s3.w wx) (e_bl false).D fun v' G4 H4 s4 hv' => by
          cases hv'
          exact hQ _ G4 H4 ((stx.trans w0 s3).trans w0 s4) (by rw [← hf]; exact hP G4)
      · rw [Bool.or_eq_false_iff] at hb
        have z1 : decide (es.length = manyOf ds) = true := by simpa using hb.1
        have z2 : (es.all fun y => isWhole y 0 ((ds.length : Int) - 1)) = true := by
          cases q : (es.all fun y => isWhole y 0 ((ds.length : Int) - 1)) with
          | true => rfl
          | false => rw [q] at hb; exact absurd hb.2 (by decide)
        refine ⟨G3, sx.ex.trans s3.ex, some x, stx.trans w0 s3, rfl, ?_⟩
        rw [htk, hall]
        unfold rowFits
        show (true && (decide (es.length = manyOf ds) && es.all _)) = true
        rw [z1, z2]
        rfl
    · obtain ⟨o2, st, rfl, hall⟩ := hI
      rw [List.take_length] at hall
      have hfl2 : fitsL ds = (List.range (manyOf ds)).all fun w => decide (setLen (colOf ds w) = ds.length) := by
        unfold fitsL
        rw [hall, Bool.true_and]
      rw [hfl2] at hP
      have w' := st.w w0
      have hv' := hv.mono st.ex
      have hm6 : manyOf ds ≤ 6 := by omega
      have hL := d_lc1 (m := m0) (G := G') (σ := [some v, some (.int (manyOf ds : Nat)), o2, none, none]) (tt := tYes) (te := tOp rEq (tLenSetA K (tLc (iTup K (tVar 0)) (gName 2) tYes (tOp (rIxT K) (tVar 2) (tVar 4)) [2])) (tCB (rLenS K) (tCons (tVar 0) tNil))) (wi := iRng1 (tCons (tVar 1) tNil)) (j := 4)
        (xs := List.range (manyOf ds)) (enc := natD) (fun _ => true) (fun w => .bool (decide (setLen (colOf ds w) = ds.length))) (i_rngN (n := manyOf ds) (e_var rfl (.int _)).D (by omega)) (by rw [List.length_range]; omega) (fun x _ v G1 _ _ => t_yes) (fun w hw vw G3 e3 hvw _ => by
          have hC := d_lc1 (m := m0) (G := G3) (σ := [some v, some (.int (manyOf ds : Nat)), o2, none, some vw]) (tt := tYes) (te := tOp (rIxT K) (tVar 2) (tVar 4)) (wi := iTup K (tVar 0)) (j := 2) (xs := ds) (enc := id) (fun _ => true) (fun x => .int (intOf ((itemsOf x).getD w .none))) (i_tup (by rw [List.map_id]; exact (e_var rfl (hv'.mono e3)).D)) (by omega) (fun x _ v G1 _ _ => t_yes) (fun x hx vx G4 e4 hvx _ => by
            have hxr := List.all_eq_true.mp hall x hx
            unfold rowFits at hxr
            rw [Bool.and_eq_true] at hxr
            obtain ⟨es, rfl, _, _⟩ := isTup_inv (h2' x hx)
            have hel : es.length = manyOf ds := of_decide_eq_true hxr.1
            have hw' := List.mem_range.mp hw
            have hget : es[w]? = some es[w] := List.getElem?_eq_getElem (by omega)
            obtain ⟨i, hi⟩ := isWhole_inv (List.all_eq_true.mp hxr.2 _ (List.mem_of_getElem? hget))
            have hg : (itemsOf (.tuple es)).getD w .none = .int i := by
              show es.getD w .none = _
              rw [List.getD_eq_getElem?_getD, hget, hi]
              rfl
            rw [hg]
            show EvD m0 _ _ _ (.int i)
            exact (e_ixT (K := K) (ta := tVar 2) (tb := tVar 4) (e_var rfl hvx) (e_var rfl (hvw.mono e4)) (by rw [← hi]; exact atI_nat hget)).D)
          rw [hfl] at hC
          have eC : (ds.map fun x => PyData.int (intOf ((itemsOf x).getD w .none))) = (colOf ds w).map PyData.int := by
            unfold colOf
            rw [List.map_map]
            rfl
          rw [eC] at hC
          exact d_eqN (d_setLen (K := K) hC (by unfold colOf; rw [List.length_map]; omega)) (d_lenT (K := K) (e_var rfl (hv'.mono e3)).D))
      rw [hfl] at hL
      exact s_ret w' (d_allM (K := K) hL) fun v' G4 H4 s4 hv' => by
        cases hv'
        exact hQ _ G4 H4 (st.trans w0 s4) (hP G4)
/-! ### the tables of the law -/
def odds : List PyData :=
  let i (n : Int) : PyData := .int n
  let p (a b : Int) : PyData := .tuple [.int a, .int b]
  [.none, .tuple [], .list [p 0 0], .tuple [.tuple [i 0]], .tuple [.tuple [i 0, i 0, i 0]], .tuple [p 0 1, p 1 1], .tuple [p 0 0, .tuple [i 1]], .tuple [p 1 1], .tuple [p 0 0, p 0 1], .tuple [.tuple [.bool true, i 0], p 0 1],
   .tuple [p 0 0, .list [i 1, i 1]], .tuple [p (-1) 0, p 0 1], .str (Str.ofString "ab"), .tuple [.tuple [i 0, .str (Str.ofString "0")]], .tuple [p 0 0, p 2 1]]
def sp__law_odd_tables : Sp := spF fun vs G P => vs = [] ∧ ∀ v' G', Dt G' v' (.list odds) → P v' G'
theorem len__law_odd_tables (vs : List V) (H : Hp) (Q : VK) (E : XK) (h : sp__law_odd_tables vs H Q E) : vs.length = ([] : List String).length := by
  obtain ⟨G, P, _, ⟨rfl, _⟩, _⟩ := h
  rfl
theorem rd__law_odd_tables {K : PySem.W.Frag} {vs : List V} {H : Hp} {Q : VK} {E : XK} (h : sp__law_odd_tables vs H Q E) :
  (tSeq (tAsg (tLst (tCons (tC V.non) (tCons (tTup tNil) (tCons (tLst (tCons (tTup (tCons (tC (V.int 0)) (tCons (tC (V.int 0)) tNil))) tNil)) (tCons (tTup (tCons (tTup (tCons (tC (V.int 0)) tNil)) tNil)) (tCons (tTup (tCons (tTup (tCons (tC (V.int 0)) (tCons (tC (V.int 0)) (tCons (tC (V.int 0)) tNil)))) tNil)) (tCons (tTup (tCons (tTup (tCons (tC (V.int 0)) (tCons (tC (V.int 1)) tNil))) (tCons (tTup (tCons (tC (V.int 1)) (tCons (tC (V.int 1)) tNil))) tNil))) (tCons (tTup (tCons (tTup (tCons (tC (V.int 0)) (tCons (tC (V.int 0)) tNil))) (tCons (tTup (tCons (tC (V.int 1)) tNil)) tNil))) (tCons (tTup (tCons (tTup (tCons (tC (V.int 1)) (tCons (tC (V.int 1)) tNil))) tNil)) (tCons (tTup (tCons (tTup (tCons (tC (V.int 0)) (tCons (tC (V.int 0)) tNil))) (tCons (tTup (tCons (tC (V.int 0)) (tCons (tC (V.int 1)) tNil))) tNil))) (tCons (tTup (tCons (tTup (tCons (tC (V.bl true)) (tCons (tC (V.int 0)) tNil))) (tCons (tTup (tCons (tC (V.int 0)) (tCons (tC (V.int 1)) tNil))) tNil))) tNil))))))))))) (gName 0)) (tRet (tOp rCat (tVar 0) (tLst (tCons (tTup (tCons (tTup (tCons (tC (V.int 0)) (tCons (tC (V.int 0)) tNil))) (tCons (tLst (tCons (tC (V.int 1)) (tCons (tC (V.int 1)) tNil))) tNil))) (tCons (tTup (tCons (tTup (tCons (tUn (rU fun i => V.int (-i)) (tC (V.int 1))) (tCons (tC (V.int 0)) tNil))) (tCons (tTup (tCons (tC (V.int 0)) (tCons (tC (V.int 1)) tNil))) tNil))) (tCons (tC (V.str (Str.ofString "ab"))) (tCons (tTup (tCons (tTup (tCons (tC (V.int 0)) (tCons (tC (V.str (Str.ofString "0"))) tNil))) tNil)) (tCons (tTup (tCons (tTup (tCons (tC (V.int 0)) (tCons (tC (V.int 0)) tNil))) (tCons (tTup (tCons (tC (V.int 2)) (tCons (tC (V.int 1)) tNil))) tNil))) tNil)))))))))
    { nx := fun x H' => Q V.non H', rt := Q } (L2.start ["_law_odds"] vs) H := by
  obtain ⟨G, P, w0, ⟨rfl, hP⟩, hQ⟩ := h
  refine q_asg w0 (d_lit (d := .list (odds.take 10)) rfl) fun v1 G1 H1 s1 h1 => ?_
  have w1 := s1.w w0
  have hneg : EvD m0 (tUn (rU fun i => V.int (-i)) (tC (V.int 1))) [some v1] G1 (.int (-1)) := (e_neg (e_int 1)).D
  have h2 : EvD m0 (tLst (tCons (tTup (tCons (tTup (tCons (tC (V.int 0)) (tCons (tC (V.int 0)) tNil))) (tCons (tLst (tCons (tC (V.int 1)) (tCons (tC (V.int 1)) tNil))) tNil))) (tCons (tTup (tCons (tTup (tCons (tUn (rU fun i => V.int (-i)) (tC (V.int 1))) (tCons (tC (V.int 0)) tNil))) (tCons (tTup (tCons (tC (V.int 0)) (tCons (tC (V.int 1)) tNil))) tNil))) (tCons (tC (V.str (Str.ofString "ab"))) (tCons (tTup (tCons (tTup (tCons (tC (V.int 0)) (tCons (tC (V.str (Str.ofString "0"))) tNil))) tNil)) (tCons (tTup (tCons (tTup (tCons (tC (V.int 0)) (tCons (tC (V.int 0)) tNil))) (tCons (tTup (tCons (tC (V.int 2)) (tCons (tC (V.int 1)) tNil))) tNil))) tNil)))))) [some v1] G1 (.list (odds.drop 10)) :=
    d_lst (a_cons (d_lit (d := .tuple [.tuple [.int 0, .int 0], .list [.int 1, .int 1]]) rfl) (a_cons (d_tup (a_cons (d_tup (a_cons hneg (EvA.one (e_int 0).D)) (by simp)) (EvA.one (d_lit (d := .tuple [.int 0, .int 1]) rfl))) (by simp)) (a_cons (e_str _).D (a_cons (d_lit (d := .tuple [.tuple [.int 0, .str (Str.ofString "0")]]) rfl) (EvA.one (d_lit (d := .tuple [.tuple [.int 0, .int 0], .tuple [.int 2, .int 1]]) rfl)))))) (by simp [odds])
  have h3 := d_cat (m := m0) (ta := tVar 0) (e_var (σ := [some v1]) rfl h1).D h2 (by simp [odds])
  rw [List.take_append_drop] at h3
  exact s_ret w1 h3 fun v' G2 H2 s2 hv' => hQ v' G2 H2 (s1.trans w0 s2) (hP v' G2 hv')
def tab3 : Tab := [(3, 2), (5, 4), (1, 0), (4, 5), (0, 1), (2, 3)]
def tab6 : Tab := [(2, 1), (3, 0), (4, 3), (5, 2), (0, 5), (1, 4)]
def sp__law_three : Sp := spF fun vs G P => vs = [] ∧ ∀ v' G', Dt G' v' (tabD tab3) → P v' G'
theorem len__law_three (vs : List V) (H : Hp) (Q : VK) (E : XK) (h : sp__law_three vs H Q E) : vs.length = ([] : List String).length := by
  obtain ⟨G, P, _, ⟨rfl, _⟩, _⟩ := h
  rfl
theorem rd__law_three {K : PySem.W.Frag} {vs : List V} {H : Hp} {Q : VK} {E : XK} (h : sp__law_three vs H Q E) :
  (tRet (tTup (tCons (tTup (tCons (tC (V.int 3)) (tCons (tC (V.int 2)) tNil))) (tCons (tTup (tCons (tC (V.int 5)) (tCons (tC (V.int 4)) tNil))) (tCons (tTup (tCons (tC (V.int 1)) (tCons (tC (V.int 0)) tNil))) (tCons (tTup (tCons (tC (V.int 4)) (tCons (tC (V.int 5)) tNil))) (tCons (tTup (tCons (tC (V.int 0)) (tCons (tC (V.int 1)) tNil))) (tCons (tTup (tCons (tC (V.int 2)) (tCons (tC (V.int 3)) tNil))) tNil))))))))
    { nx := fun x H' => Q V.non H', rt := Q } (L2.start [] vs) H := by
  obtain ⟨G, P, w0, ⟨rfl, hP⟩, hQ⟩ := h
  exact s_ret w0 (d_lit (d := tabD tab3) rfl) fun v' G2 H2 s2 hv' => hQ v' G2 H2 s2 (hP v' G2 hv')
def sp__law_six : Sp := spF fun vs G P => vs = [] ∧ ∀ v' G', Dt G' v' (tabD tab6) → P v' G'
theorem len__law_six (vs : List V) (H : Hp) (Q : VK) (E : XK) (h : sp__law_six vs H Q E) : vs.length = ([] : List String).length := by
  obtain ⟨G, P, _, ⟨rfl, _⟩, _⟩ := h
  rfl
theorem rd__law_six {K : PySem.W.Frag} {vs : List V} {H : Hp} {Q : VK} {E : XK} (h : sp__law_six vs H Q E) :
  (tRet (tTup (tCons (tTup (tCons (tC (V.int 2)) (tCons (tC (V.int 1)) tNil))) (tCons (tTup (tCons (tC (V.int 3)) (tCons (tC (V.int 0)) tNil))) (tCons (tTup (tCons (tC (V.int 4)) (tCons (tC (V.int 3)) tNil))) (tCons (tTup (tCons (tC (V.int 5)) (tCons (tC (V.int 2)) tNil))) (tCons (tTup (tCons (tC (V.int 0)) (tCons (tC (V.int 5)) tNil))) (tCons (tTup (tCons (tC (V.int 1)) (tCons (tC (V.int 4)) tNil))) tNil))))))))
    { nx := fun x H' => Q V.non H', rt := Q } (L2.start [] vs) H := by
  obtain ⟨G, P, w0, ⟨rfl, hP⟩, hQ⟩ := h
  exact s_ret w0 (d_lit (d := tabD tab6) rfl) fun v' G2 H2 s2 hv' => hQ v' G2 H2 s2 (hP v' G2 hv')
end R45
end
section
set_option Elab.async false
set_option linter.all false
set_option maxRecDepth 100000
set_option maxHeartbeats 2000000
/-! defs that raise. -/
namespace R45
open PySem PySem.Spec PyProof.Rows L2 Evl
structure CalX (P : Program) (w : World) (K : PySem.W.Frag) (mg : Str → Option Value) (base : Heap) (k : Nat) (x : Str) (sp : Sp) : Prop where
  ex : ∃ (f : Addr) (fd : FuncData) (ps : List Str), FnOk P w K mg base (L2.CX P w) k f fd ps sp ∧ mg x = some (.ref f) ∧ PySem.W.keepIn K (.ref f) = true ∧ Binds K fd ps []
section
variable {X : Cx} {k j : Nat} {x : Str} {sp : Sp} {p pos : Pos} {e : Expr} {es : List Expr} {t : TA} {E : XK}
theorem pe_cX (c : CalX X.prog X.w X.K X.mg X.base k x sp) (hr : Room j X.A) (hk : k ≤ j) (hg : Gl X x) (tk : Takes X (fun cls d _ H => E cls d H)) (ha : PA X (e :: es) t)
    (hdb : (x == ("__debug__" : Str)) = false := by decide) (he : starEach (e :: es) X.env = (false, eval e X.env) :: starEach es X.env := by rfl) (hpl : (backTo pos (starEach es X.env)).any (·.1) = false := by rfl) :
    PE X (.Call (.Name x p) (e :: es) [] pos) (tCall sp [] E t) := by
  obtain ⟨f, fd, ps, F, hm, kp, b⟩ := c.ex
  exact pe_call F (hr.mono hk) hg hm kp b .nil (passes_call tk fun _ _ _ _ h => h) ha hdb he hpl
/-- the same where it raises nothing -/
theorem pe_cL (c : CalX X.prog X.w X.K X.mg X.base k x sp) (hr : Room j X.A) (hk : k ≤ j) (hg : Gl X x) (ha : PA X (e :: es) t)
    (hdb : (x == ("__debug__" : Str)) = false := by decide) (he : starEach (e :: es) X.env = (false, eval e X.env) :: starEach es X.env := by rfl) (hpl : (backTo pos (starEach es X.env)).any (·.1) = false := by rfl) :
    PE X (.Call (.Name x p) (e :: es) [] pos) (tCall sp [] C8.E0 t) := by
  obtain ⟨f, fd, ps, F, hm, kp, b⟩ := c.ex
  exact pe_call F (hr.mono hk) hg hm kp b .nil (E := C8.E0) passL ha hdb he hpl
end
def sp_init (C : Addr) : Sp := fun vs H Q _ => ∃ a, vs = [.ref a, .int 12] ∧ H a = some (exo a C none) ∧ ∀ dx, H dx = none → dx ≠ a → Q .non (upd (upd H dx (exd dx [(Str.ofString "limit", .int 12)])) a (exo a C (some dx)))
structure MkM (P : Program) (w : World) (K : PySem.W.Frag) (mg : Str → Option Value) (base : Heap) (k : Nat) (C : Addr) : Prop where
  ex : ∃ fI fd ps, PySem.W.findIn K (.ref C) "__init__" = some (some (.ref fI)) ∧ PySem.W.typeIn K (.ref fI) = some (.type "function") ∧ FnOk P w K mg base C8.CX0 k fI fd ps (sp_init C) ∧ Binds K fd ps [] ∧ OexC K C ∧ mg "TooMany" = some (.ref C)
/-- the plain error -/
structure MkT (K : PySem.W.Frag) (mg : Str → Option Value) (C : Addr) : Prop where
  x : PySem.W.excIn K C [.type "ValueError", .type "Exception", .type "BaseException", .type "object"] "ValueError.__new__" = true
  g : mg "InvalidTable" = some (.ref C)
  k : PySem.W.keepIn K (.ref C) = true
  b : PySem.W.subIn K (.ref C) (.type "BaseException") = some true
  t : PySem.W.typeIn K (.ref C) = some (.type "type")
section
variable {X : Cx} {k j : Nat} {C : Addr} {p pos : Pos} {e : Expr} {t : TA}
theorem pmk_M (c : MkM X.prog X.w X.K X.mg X.base k C) (hr : Room j X.A) (hk : k + 1 ≤ j) (hg : Gl X "TooMany") (ha : PA X [e] t) (he : starEach [e] X.env = (false, eval e X.env) :: starEach [] X.env := by rfl) (hpl : (backTo pos (starEach [] X.env)).any (·.1) = false := by rfl) :
    PMk X (.Call (.Name "TooMany" p) [e] [] pos) (tMkO C (sp_init C) [] t) := by
  obtain ⟨fI, fd, ps, h1, h2, F, b, T, hm⟩ := c.ex
  exact pmk_oex T h1 h2 F (hr.mono hk) b .nil C8.pass0 hg hm ha (by decide) he hpl
theorem pmk_T {m : Str} {jj : Nat} {p2 : Pos} (c : MkT X.K X.mg C) (hg : Gl X "InvalidTable") : PMk X (.Call (.Name "InvalidTable" p) [.Constant (.str m) jj p2] [] pos) (fun _ H Q => Q (.ref C) none H) :=
  pmk_own PySem.F.excBase_ValueError c.x c.g c.k (raises_own c.b c.t) hg
end
section
variable {P : Program} {w : World} {K : PySem.W.Frag} {mg : Str → Option Value} {base : Heap}
theorem DefF.calX {d : He.DefD} (D : DefF K mg d) {N ps : List Str} {k : Nat} {sp : Sp} (S : FnScope N ps d.scope)
    (hb : ∀ (kV doc pm : Value) (an : Option Addr) (cdv ct : Value) (us : List Value), us.length = ps.length → bindArgs (PySem.W.fnOf d.name d.qual d.params d.body d.scope .none kV doc pm an cdv ct) ⟨us, []⟩ = pure (ps.zip us))
    (len : ∀ vs H Q E, sp vs H Q E → vs.length = ps.length)
    (body : ∀ (f : Addr) (cdv : Value) (A : Around) (outer : List Env) (s : Shared) (H : Hp) (vs : List V) (Q : VK) (E : XK), Room k (A.deeper (envOfC d.qual d.scope s.heap.objs.size f cdv)) → sp vs H Q E →
      ∃ t, PSs (cxOf (L2.CX P w) P w K mg base N d.qual d.scope f cdv A outer s H E) d.body t ∧ t { nx := fun _ H' => Q .non H', rt := Q } (L2.start N vs) H) : CalX P w K mg base (k + 1) d.name sp := by
  obtain ⟨f, fd, F, hm⟩ := D
  exact ⟨f, fd, ps, F.ok S len fun cdv A outer s H vs Q E hr h => body f cdv A outer s H vs Q E hr h, hm, F.kp, F.bindsN hb⟩
end
end R45
end
section
set_option Elab.async false
set_option linter.all false
set_option maxRecDepth 100000
set_option maxHeartbeats 2000000
namespace R45
open PySem PySem.Spec PyProof.Rows L2 Evl
/-! the greatest, the least -/
def mxN (l : List Nat) : Nat := l.foldr max 0
def mnN : List Nat → Nat
  | [] => 0
  | [x] => x
  | x :: y :: r => min x (mnN (y :: r))
theorem mx_ge : ∀ {l : List Nat} {y : Nat}, y ∈ l → y ≤ mxN l
  | x :: l, y, h => by
    show y ≤ max x (mxN l)
    rcases List.mem_cons.mp h with e | h
    · omega
    · have := mx_ge h
      omega
theorem mx_mem : ∀ {l : List Nat}, l ≠ [] → mxN l ∈ l
  | [], h => absurd rfl h
  | [x], _ => by
    show max x 0 ∈ [x]
    simp
  | x :: y :: r, _ => by
    have ih := mx_mem (l := y :: r) (by simp)
    show max x (mxN (y :: r)) ∈ _
    by_cases c : x ≤ mxN (y :: r)
    · rw [Nat.max_eq_right c]
      exact List.mem_cons_of_mem _ ih
    · rw [Nat.max_eq_left (by omega)]
      exact List.mem_cons_self
theorem mx_eq {l : List Nat} {m : Nat} (h : m ∈ l) (k : ∀ y ∈ l, y ≤ m) : m = mxN l := by
  have h1 := mx_ge h
  have h2 := k _ (mx_mem (l := l) (fun z => by rw [z] at h; simp at h))
  omega
theorem mn_le : ∀ {l : List Nat} {y : Nat}, y ∈ l → mnN l ≤ y
  | [x], y, h => by
    cases List.mem_singleton.mp h
    exact Nat.le_refl _
  | x :: z :: r, y, h => by
    show min x (mnN (z :: r)) ≤ y
    rcases List.mem_cons.mp h with e | h
    · omega
    · have := mn_le h
      omega
theorem mn_mem : ∀ {l : List Nat}, l ≠ [] → mnN l ∈ l
  | [], h => absurd rfl h
  | [x], _ => List.mem_singleton.mpr rfl
  | x :: y :: r, _ => by
    have ih := mn_mem (l := y :: r) (by simp)
    show min x (mnN (y :: r)) ∈ _
    by_cases c : x ≤ mnN (y :: r)
    · rw [Nat.min_eq_left c]
      exact List.mem_cons_self
    · rw [Nat.min_eq_right (by omega)]
      exact List.mem_cons_of_mem _ ih
theorem mn_eq {l : List Nat} {m : Nat} (h : m ∈ l) (k : ∀ y ∈ l, m ≤ y) : m = mnN l := by
  have h1 := mn_le h
  have h2 := k _ (mn_mem (l := l) (fun z => by rw [z] at h; simp at h))
  omega
section
variable {m : Mode} {σ : L2.St} {G G' H : Hp} {te ta tb tc tl : TE} {tt tu : TT} {d d' : PyData} {v : V} {K : PySem.W.Frag} {ds es : List PyData} {E : XK}
theorem d_max {l : List Nat} (h : EvD m ta σ G (lstN l)) (hne : l ≠ []) : EvD m (tCB (rMax K) (tCons ta tNil)) σ G (natD (mxN l)) :=
  Cmp.cb (EvA.one h) fun vs G1 e hvs => by
    obtain ⟨v, rfl, hv⟩ := hvs.one_inv
    obtain ⟨a, xs, rfl, ga, hxs⟩ := hv.lst_inv
    cases dts_nats_inv hxs
    intro G2 H e2 w Q k
    refine ⟨a, l.map fun n : Nat => (n : Int), rfl, by rw [List.map_map]; exact sq_of (w.ex _ _ (e2 _ _ ga)), ?_, fun i hi hm => ?_⟩
    · rw [List.length_map]
      exact List.length_pos_iff.mpr hne
    · obtain ⟨n, hn, rfl⟩ := List.mem_map.mp hi
      have := mx_eq hn fun y hy => by
        have := hm y (List.mem_map.mpr ⟨y, hy, rfl⟩)
        omega
      rw [this]
      exact k _ _ _ (Stp.refl w) (.int _)
theorem d_min {l : List Nat} (h : EvD m ta σ G (lstN l)) (hne : l ≠ []) : EvD m (tCB (rMin K) (tCons ta tNil)) σ G (natD (mnN l)) :=
  Cmp.cb (EvA.one h) fun vs G1 e hvs => by
    obtain ⟨v, rfl, hv⟩ := hvs.one_inv
    obtain ⟨a, xs, rfl, ga, hxs⟩ := hv.lst_inv
    cases dts_nats_inv hxs
    intro G2 H e2 w Q k
    refine ⟨a, l.map fun n : Nat => (n : Int), rfl, by rw [List.map_map]; exact sq_of (w.ex _ _ (e2 _ _ ga)), ?_, fun i hi hm => ?_⟩
    · rw [List.length_map]
      exact List.length_pos_iff.mpr hne
    · obtain ⟨n, hn, rfl⟩ := List.mem_map.mp hi
      have := mn_eq hn fun y hy => by
        have := hm y (List.mem_map.mpr ⟨y, hy, rfl⟩)
        omega
      rw [this]
      exact k _ _ _ (Stp.refl w) (.int _)
theorem d_fits (ha : EvD m ta σ G d) : EvD m (tCall sp_fits_table [] E (tCons ta tNil)) σ G (.bool (fitsD d)) :=
  c_call (P := fun v' G' => Dt G' v' (.bool (fitsD d))) (am_d ha am_nil) fun vs G1 e1 has G2 e2 => by
    obtain ⟨x, rfl, h1⟩ := has.one
    exact ⟨x, d, rfl, Dt.mono e2 h1, fun G' => .bl _⟩
end
/-! a table of two ways fits -/
theorem isTup_row (p : Nat × Nat) : isTup (rowD p) 1 6 = true := by simp [isTup]
theorem many_tab {t : Tab} (h : 1 ≤ t.length) : manyOf (t.map rowD) = 2 := by
  unfold manyOf
  cases t with
  | nil => simp at h
  | cons p r => rfl
theorem col_tab (t : Tab) (w : Nat) (f : Nat × Nat → Nat) (hf : ∀ p, intOf ((itemsOf (rowD p)).getD w .none) = (f p : Int)) : colOf (t.map rowD) w = (t.map f).map fun n : Nat => (n : Int) := by
  unfold colOf
  rw [List.map_map, List.map_map]
  exact List.map_congr_left fun p _ => hf p
theorem nodup_col {t : Tab} {f : Nat × Nat → Nat} (p : PermF (fun i => f (t.getD i (0, 0))) t.length) : ((t.map f).map fun n : Nat => (n : Int)).Nodup := by
  rw [List.map_map]
  refine List.pairwise_iff_getElem.mpr fun i j hi hj hij e => ?_
  rw [List.length_map] at hi hj
  have e2 : f t[i] = f t[j] := by
    have : ((f t[i] : Nat) : Int) = (f t[j] : Nat) := by simpa using e
    omega
  have := p.inj i j hi hj (by
    show f (t.getD i (0, 0)) = f (t.getD j (0, 0))
    rw [List.getD_eq_getElem?_getD, List.getD_eq_getElem?_getD, List.getElem?_eq_getElem hi, List.getElem?_eq_getElem hj]
    exact e2)
  omega
def twoD (d : PyData) : Bool := fitsD d && decide (manyOf (itemsOf d) = 2)
theorem getD_row {t : Tab} {i : Nat} (h : i < t.length) : t.getD i (0, 0) = t[i] := by
  rw [List.getD_eq_getElem?_getD, List.getElem?_eq_getElem h]
  rfl
theorem two_tab {t : Tab} (h : Valid t) : twoD (tabD t) = true := by
  have hm := many_tab h.pos
  have hlt : ∀ p ∈ t, p.1 < t.length ∧ p.2 < t.length := fun p hp => by
    obtain ⟨i, hi, e⟩ := List.getElem_of_mem hp
    have h1 := h.p1.lt i hi
    have h2 := h.p2.lt i hi
    unfold c1 at h1
    unfold c2 at h2
    rw [getD_row hi, e] at h1 h2
    exact ⟨h1, h2⟩
  unfold twoD
  rw [Bool.and_eq_true]
  refine ⟨?_, decide_eq_true hm⟩
  unfold fitsD
  rw [Bool.and_eq_true, Bool.and_eq_true]
  refine ⟨?_, ?_, ?_⟩
  · have h1 := h.pos
    have h2 := h.le
    show (decide _ && decide _) = true
    rw [List.length_map, decide_eq_true (by omega), decide_eq_true (by omega)]
    rfl
  · show (t.map rowD).all _ = true
    rw [List.all_map]
    exact List.all_eq_true.mpr fun p _ => isTup_row p
  · unfold fitsL
    show ((t.map rowD).all _ && _) = true
    rw [Bool.and_eq_true, List.all_map]
    refine ⟨List.all_eq_true.mpr fun p hp => ?_, ?_⟩
    · obtain ⟨h1, h2⟩ := hlt p hp
      show rowFits (t.map rowD).length (manyOf (t.map rowD)) (rowD p) = true
      rw [hm, List.length_map]
      unfold rowFits
      have e : (itemsOf (rowD p)) = [natD p.1, natD p.2] := rfl
      rw [e]
      simp [isWhole]
      omega
    · show (List.range (manyOf (t.map rowD))).all _ = true
      rw [hm]
      refine List.all_eq_true.mpr fun w hw => decide_eq_true ?_
      show setLen (colOf (t.map rowD) w) = (t.map rowD).length
      have hw := List.mem_range.mp hw
      rw [List.length_map]
      rcases (show w = 0 ∨ w = 1 by omega) with e | e
      · subst e
        rw [col_tab t 0 (fun p => p.1) (fun p => rfl), setLen_nodup (nodup_col h.p1), List.length_map, List.length_map]
      · subst e
        rw [col_tab t 1 (fun p => p.2) (fun p => rfl), setLen_nodup (nodup_col h.p2), List.length_map, List.length_map]
/-! ### need_two -/
def sp_need_two (CT : Addr) : Sp := fun vs H Q E => ∃ G v d, W m0 G H ∧ vs = [v] ∧ Dt G v d ∧ (twoD d = true → ∀ G' H', Stp m0 G H G' H' → Q .non H') ∧ (twoD d = false → ∀ G' H', Stp m0 G H G' H' → E (.ref CT) none H')
theorem len_need_two {CT : Addr} (vs : List V) (H : Hp) (Q : VK) (E : XK) (h : sp_need_two CT vs H Q E) : vs.length = (["value"] : List String).length := by
  obtain ⟨G, v, d, _, rfl, _⟩ := h
  rfl
theorem fits_inv {d : PyData} (h : fitsD d = true) : ∃ ds es, d = .tuple ds ∧ ds[0]? = some (.tuple es) ∧ manyOf ds = es.length := by
  unfold fitsD at h
  rw [Bool.and_eq_true, Bool.and_eq_true] at h
  obtain ⟨ds, rfl, hlo, hhi⟩ := isTup_inv h.1
  have hx0 : ds[0]? = some (ds[0]'(by omega)) := List.getElem?_eq_getElem _
  obtain ⟨es, hes, _⟩ := isTup_inv (List.all_eq_true.mp h.2.1 _ (List.mem_of_getElem? hx0))
  rw [hes] at hx0
  refine ⟨ds, es, rfl, hx0, ?_⟩
  unfold manyOf
  rw [List.getD_eq_getElem?_getD, hx0]
  rfl
theorem rd_need_two {K : PySem.W.Frag} {CT : Addr} {vs : List V} {H : Hp} {Q : VK} {E : XK} (h : sp_need_two CT vs H Q E) :
  (tIfS (tOr (tNot (tB (tCall sp_fits_table [] C8.E0 (tCons (tVar 0) tNil)))) (tTest (tOp rNe (tCB (rLenS K) (tCons (tOp (rIxT K) (tVar 0) (tC (V.int 0))) tNil)) (tC (V.int 2)))))
    (fun x σ H => (fun cls d H' => E cls d H') (Value.ref CT) none H) tNext)
    { nx := fun x H' => Q V.non H', rt := Q } (L2.start ["value"] vs) H := by
  obtain ⟨G, v, d, w0, rfl, hv, hQ, hE⟩ := h
  refine s_if (b := !fitsD d || !decide (manyOf (itemsOf d) = 2)) w0 (t_or (t_not (t_val (d_fits (e_var rfl hv).D))) fun hf => ?_) (fun hb G1 H1 s1 => ?_) (fun hb G1 H1 s1 => ?_)
  · have hf : fitsD d = true := by simpa using hf
    obtain ⟨ds, es, rfl, h0, hm⟩ := fits_inv hf
    have e : manyOf (itemsOf (.tuple ds)) = es.length := hm
    rw [e]
    exact t_test (d_neN (i := es.length) (j := 2) (d_lenT (K := K) (ds := es) (e_ixT (K := K) (ta := tVar 0) (d := .tuple es) (e_var rfl hv) (e_int 0) (atI_nat (j := 0) h0)).D) (e_int 2).D)
  · refine hE ?_ G1 H1 s1
    unfold twoD
    cases q : fitsD d with
    | false => rfl
    | true =>
      rw [q] at hb
      rw [Bool.true_and]
      cases q2 : decide (manyOf (itemsOf d) = 2) with
      | false => rfl
      | true => rw [q2] at hb; cases hb
  · refine hQ ?_ G1 H1 s1
    unfold twoD
    rw [Bool.or_eq_false_iff] at hb
    have h1 : fitsD d = true := by simpa using hb.1
    have h2 : decide (manyOf (itemsOf d) = 2) = true := by simpa using hb.2
    rw [h1, h2]
    rfl
/-! ### the others -/
def OutX (CT CM : Addr) (R : Tab → V → Hp → Prop) (G H : Hp) (d : PyData) (Q : VK) (E : XK) : Prop :=
  (twoD d = false ∧ ∀ G' H', Stp m0 G H G' H' → E (.ref CT) none H') ∨ ∃ t, d = tabD t ∧ Valid t ∧
    ((12 < (cls t).length ∧ ∀ G' H' dd, Stp m0 G H G' H' → H' dd = some (.xd [(Str.ofString "limit", .int 12)]) → E (.ref CM) (some dd) H') ∨ ((cls t).length ≤ 12 ∧ ∀ v' G' H', Stp m0 G H G' H' → R t v' G' → Q v' H'))
def spX (CT CM : Addr) (R : Tab → V → Hp → Prop) : Sp := fun vs H Q E => ∃ G v d, W m0 G H ∧ vs = [v] ∧ Dt G v d ∧ OutX CT CM R G H d Q E
theorem OutX.imp {CT CM : Addr} {R R' : Tab → V → Hp → Prop} {G H : Hp} {d : PyData} {Q Q' : VK} {E : XK} (h : OutX CT CM R G H d Q E)
    (k : ∀ t, d = tabD t → Valid t → (cls t).length ≤ 12 → (∀ v' G' H', Stp m0 G H G' H' → R t v' G' → Q v' H') → ∀ v' G' H', Stp m0 G H G' H' → R' t v' G' → Q' v' H') : OutX CT CM R' G H d Q' E := by
  rcases h with h | ⟨t, e, hv, h | ⟨h1, h2⟩⟩
  · exact .inl h
  · exact .inr ⟨t, e, hv, .inl h⟩
  · exact .inr ⟨t, e, hv, .inr ⟨h1, k t e hv h1 h2⟩⟩
theorem stp_xd {G H : Hp} (w : W m0 G H) {a dx : Addr} {o1 o2 o3 o4 : HO} (ha : H a = none) (hd : H dx = none) (hne : dx ≠ a) : Stp m0 G H G (upd (del (upd (upd (upd H a o1) dx o2) a o3) a) dx o4) := by
  have key : ∀ b u, H b = some u → (upd (del (upd (upd (upd H a o1) dx o2) a o3) a) dx o4) b = some u := fun b u e => by
    have n1 : b ≠ a := ne_of_none e ha
    have n2 : b ≠ dx := ne_of_none e hd
    rw [upd_ne n2, del_ne n1, upd_ne n1, upd_ne n2, upd_ne n1]
    exact e
  exact ⟨Ex.refl G, fun b u e => key b u (w.ex b u e), fun b u _ e => key b u e, trivial, fun _ _ _ _ => rfl⟩
def R_few (t : Tab) (v : V) (G : Hp) : Prop := Dt G v (lstT (cls t))
def sp_few_classes (CT CM : Addr) : Sp := spX CT CM R_few
theorem lenX {CT CM : Addr} {R : Tab → V → Hp → Prop} {x : String} (vs : List V) (H : Hp) (Q : VK) (E : XK) (h : spX CT CM R vs H Q E) : vs.length = ([x] : List String).length := by
  obtain ⟨G, v, d, _, rfl, _⟩ := h
  rfl
theorem c_classes_by {m : Mode} {σ : L2.St} {G : Hp} {ta : TE} {E : XK} {t : Tab} (hv : Valid t) (h : EvD m ta σ G (tabD t)) : EvD m (tCall sp_classes_by [] E (tCons ta tNil)) σ G (lstT (cls t)) :=
  c_call (P := fun v' G' => Dt G' v' (lstT (cls t))) (am_d h am_nil) fun vs G1 e1 has G2 e2 => by
    obtain ⟨x, rfl, hx⟩ := has.one
    exact ⟨x, t, rfl, Dt.mono e2 hx, hv, fun _ _ h => h⟩
theorem rd_few_classes {K : PySem.W.Frag} {CT CM : Addr} {vs : List V} {H : Hp} {Q : VK} {E : XK} (h : sp_few_classes CT CM vs H Q E) :
  (tSeq (tDrop (tCall (sp_need_two CT) [] E (tCons (tVar 0) tNil))) (tSeq (tAsg (tCall sp_classes_by [] C8.E0 (tCons (tVar 0) tNil)) (gName 1))
      (tSeq (tIfS (tTest (tOp (rI0 fun i j => V.bl (decide (j < i))) (tCB (rLenS K) (tCons (tVar 1) tNil)) (tC (V.int 12)))) (fun x σ H => tMkO CM (sp_init CM) [] (tCons (tC (V.int 12)) tNil) σ H fun cls d H' => E cls d H') tNext)
        (tRet (tVar 1)))))
    { nx := fun x H' => Q V.non H', rt := Q } (L2.start ["table", "classes"] vs) H := by
  obtain ⟨G, v, d, w0, rfl, hv, hO⟩ := h
  refine ⟨v, rfl, G, v, d, w0, rfl, hv, fun h2 G1 H1 s1 => ?_, fun h2 G1 H1 s1 => ?_⟩
  · rcases hO with ⟨h3, _⟩ | ⟨t, rfl, hvt, hO⟩
    · rw [h2] at h3
      cases h3
    have w1 := s1.w w0
    refine q_asg w1 (c_classes_by hvt (e_var rfl (hv.mono s1.ex)).D) fun vc G2 H2 s2 hc => ?_
    have w2 := s2.w w1
    have st2 := s1.trans w0 s2
    refine q_when (b := decide ((12 : Int) < ((cls t).length : Nat))) w2 (t_test (d_cmpI (g := fun i j => decide (j < i)) (e_lenLM (enc := tupN) (e_var rfl hc)).D (e_int 12).D)) (fun hb G3 H3 s3 => ?_) (fun hb G3 H3 s3 => ?_)
    · have hb : 12 < (cls t).length := by have := of_decide_eq_true hb; omega
      have w3 := s3.w w2
      have st3 := st2.trans w0 s3
      rcases hO with ⟨_, hE⟩ | ⟨h12, _⟩
      · refine ⟨by simp, fun a ha => ⟨a, rfl, upd_same, fun dx hdx hne => ⟨rfl, dx, _, upd_same, ?_, ?_, hE _ _ dx (st3.trans w0 (stp_xd w3 ha ?_ hne)) upd_same⟩⟩⟩
        · rw [upd_ne hne, upd_same]
        · rw [upd_ne hne] at hdx
          exact hdx
        · rw [upd_ne hne] at hdx
          exact hdx
      · omega
    · have hb : ¬ 12 < (cls t).length := by have := of_decide_eq_false hb; omega
      have w3 := s3.w w2
      rcases hO with ⟨h12, _⟩ | ⟨_, hQ⟩
      · omega
      · exact s_ret w3 (e_var rfl (hc.mono s3.ex)).D fun v' G4 H4 s4 hv' => hQ v' G4 H4 ((st2.trans w0 s3).trans w0 s4) hv'
  · rcases hO with ⟨_, hE⟩ | ⟨t, rfl, hvt, _⟩
    · exact hE G1 H1 s1
    · rw [two_tab hvt] at h2
      cases h2
/-! ### one_block_lots -/
def R_ones (t : Tab) (v : V) (G : Hp) : Prop := Dt G v (lstT (onesB t))
def sp_one_block_lots (CT CM : Addr) : Sp := spX CT CM R_ones
theorem c_ones_in {m : Mode} {σ : L2.St} {G : Hp} {ta tb : TE} {E : XK} {t : Tab} (hv : Valid t) (h12 : (cls t).length ≤ 12) (ha : EvD m ta σ G (tabD t)) (hb : EvD m tb σ G (lstT (cls t))) : EvD m (tCall sp_one_blocks_in [] E (tCons ta (tCons tb tNil))) σ G (lstT (onesB t)) :=
  c_call (P := fun v' G' => Dt G' v' (lstT (onesB t))) (am_d ha (am_d hb am_nil)) fun vs G1 e1 has G2 e2 => by
    obtain ⟨x, y, rfl, hx, hy⟩ := has.two
    exact ⟨x, y, t, rfl, Dt.mono e2 hx, Dt.mono e2 hy, hv, h12, fun _ _ h => h⟩
theorem rd_one_block_lots {K : PySem.W.Frag} {CT CM : Addr} {vs : List V} {H : Hp} {Q : VK} {E : XK} (h : sp_one_block_lots CT CM vs H Q E) :
  (tRet (tCall sp_one_blocks_in [] C8.E0 (tCons (tVar 0) (tCons (tCall (sp_few_classes CT CM) [] E (tCons (tVar 0) tNil)) tNil))))
    { nx := fun x H' => Q V.non H', rt := Q } (L2.start ["table"] vs) H := by
  obtain ⟨G, v, d, w0, rfl, hv, hO⟩ := h
  refine ⟨v, rfl, v, rfl, G, v, d, w0, rfl, hv, hO.imp fun t ed hvt h12 hQ vc G1 H1 s1 hc => ?_⟩
  subst ed
  have w1 := s1.w w0
  exact Cmp.go (c_ones_in (σ := []) (ta := tC v) (tb := tC vc) (E := C8.E0) hvt h12 (e_glob (hv.mono s1.ex)).D (e_glob hc).D) w1 fun v' G2 H2 s2 hv' => hQ v' G2 H2 (s1.trans w0 s2) hv'
/-! ### lots_by_blocks -/
def counts (t : Tab) : List Nat := (lots (cls t).length).map fun l => (blkN (nxt t (cls t) l)).length
def byB (t : Tab) : List Nat := (List.range (mxN (counts t))).map fun i => ((counts t).filter fun c => decide (c = i + 1)).length
theorem counts_ne (t : Tab) : counts t ≠ [] := fun z => by
  have h1 : (counts t).length = 0 := by rw [z]; rfl
  rw [counts, List.length_map, lots_len] at h1
  have := Nat.two_pow_pos (cls t).length
  omega
theorem counts_le {t : Tab} (hv : Valid t) : ∀ c ∈ counts t, c ≤ 720 := fun c hc => by
  obtain ⟨l, _, rfl⟩ := List.mem_map.mp hc
  have := blks_len (fnN (nxt t (cls t) l)) (nxt t (cls t) l).length
  have h2 := hv.le
  rw [nxt_len] at this
  show (blkN (nxt t (cls t) l)).length ≤ 720
  unfold blkN
  rw [nxt_len]
  omega
def R_by (t : Tab) (v : V) (G : Hp) : Prop := Dt G v (lstN (byB t))
def sp_lots_by_blocks (CT CM : Addr) : Sp := spX CT CM R_by
theorem rd_lots_by_blocks {K : PySem.W.Frag} {CT CM : Addr} {vs : List V} {H : Hp} {Q : VK} {E : XK} (h : sp_lots_by_blocks CT CM vs H Q E) :
  (tSeq (tAsg (tCall (sp_few_classes CT CM) [] E (tCons (tVar 0) tNil)) (gName 1))
    (tSeq (tAsg (tLc (iList K (tCall sp_all_lots [] C8.E0 (tCons (tCB (rLenS K) (tCons (tVar 1) tNil)) tNil))) (gName 3) tYes (tCB (rLenS K) (tCons (tCall sp_blocks_by [] C8.E0 (tCons (tVar 0) (tCons (tVar 1) (tCons (tVar 3) tNil)))) tNil)) [3]) (gName 2))
      (tRet (tLc (iRng2 (tCons (tC (V.int 1)) (tCons (tOp (rI0 fun i j => V.int (i + j)) (tCB (rMax K) (tCons (tVar 2) tNil)) (tC (V.int 1))) tNil))) (gName 4) tYes
          (tCB (rLenS K) (tCons (tLc (iList K (tVar 2)) (gName 5) (tTest (tOp rEq (tVar 5) (tVar 4))) (tVar 5) [5]) tNil)) [4]))))
    { nx := fun x H' => Q V.non H', rt := Q } (L2.start ["table", "classes", "counts", "lot", "many", "one"] vs) H := by
  obtain ⟨G, v, d, w0, rfl, hv, hO⟩ := h
  refine ⟨v, rfl, G, v, d, w0, rfl, hv, hO.imp fun t ed hvt h12 hQ vc G1 H1 s1 hc => ?_⟩
  subst ed
  have w1 := s1.w w0
  have hfl : ∀ {α : Type} (l : List α), (l.filter fun _ => true) = l := fun l => List.filter_eq_self.mpr fun _ _ => rfl
  have hlen := four_le h12
  have hv1 := hv.mono s1.ex
  have hc1 : Dt G1 vc (lstT (cls t)) := hc
  have hL := d_lc1 (m := m0) (G := G1) (σ := [some v, some vc, none, none, none, none]) (tt := tYes) (te := tCB (rLenS K) (tCons (tCall sp_blocks_by [] C8.E0 (tCons (tVar 0) (tCons (tVar 1) (tCons (tVar 3) tNil)))) tNil))
    (wi := iList K (tCall sp_all_lots [] C8.E0 (tCons (tCB (rLenS K) (tCons (tVar 1) tNil)) tNil))) (j := 3) (xs := lots (cls t).length) (enc := tupN) (fun _ => true) (fun l => natD (blkN (nxt t (cls t) l)).length)
    (i_list (c_call (P := fun v' G' => Dt G' v' (lstT (lots (cls t).length))) (am_d (e_lenLM (e_var rfl hc1)).D am_nil) fun vs G1 e1 has G2 e2 => by
      obtain ⟨x, rfl, h1⟩ := has.one
      cases h1
      exact ⟨_, rfl, h12, fun _ _ h => h⟩)) (by rw [lots_len]; omega) (fun x _ v G1 _ _ => t_yes)
    (fun l hl x G2 e hx _ => d_lenLM (enc := tupN) (c_call (P := fun v' G' => Dt G' v' (lstT (blkN (nxt t (cls t) l)))) (am_d (e_var rfl (hv1.mono e)).D (am_d (e_var rfl (hc1.mono e)).D (am_d (e_var rfl hx).D am_nil))) fun vs G2 e1 has G3 e2 => by
      obtain ⟨x, y, z, rfl, h1, h2, h3⟩ := has.three
      exact ⟨x, y, z, t, l, rfl, Dt.mono e2 h1, Dt.mono e2 h2, Dt.mono e2 h3, hvt, lotOk_of hvt h12 hl, fun _ _ h => h⟩))
  rw [hfl] at hL
  have e1 : (lots (cls t).length).map (fun l => natD (blkN (nxt t (cls t) l)).length) = (counts t).map natD := by
    unfold counts
    rw [List.map_map]
    rfl
  rw [e1] at hL
  refine q_asg w1 hL fun v2 G2 H2 s2 h2 => ?_
  have w2 := s2.w w1
  have st2 := s1.trans w0 s2
  have hcl : (counts t).length ≤ 4096 := by
    unfold counts
    rw [List.length_map, lots_len]
    exact hlen
  have hmx : mxN (counts t) ≤ 720 := counts_le hvt _ (mx_mem (counts_ne t))
  have hI : EvI m0 (iRng2 (tCons (tC (V.int 1)) (tCons (tOp (rI0 fun i j => V.int (i + j)) (tCB (rMax K) (tCons (tVar 2) tNil)) (tC (V.int 1))) tNil))) [some v, some vc, some v2, none, none, none] G2 ((List.range (mxN (counts t))).map fun i => natD (i + 1)) := by
    have := i_rng2 (m := m0) (n := mxN (counts t)) (e_int 1).D (d_add (d_max (K := K) (ta := tVar 2) (σ := [some v, some vc, some v2, none, none, none]) (e_var rfl h2).D (counts_ne t)) (e_int 1).D) (by omega) (by omega)
    have e : rangeD 1 (mxN (counts t)) = (List.range (mxN (counts t))).map fun i => natD (i + 1) := by
      unfold rangeD
      refine List.map_congr_left fun i _ => ?_
      have : (1 : Int) + (i : Int) = ((i + 1 : Nat) : Int) := by omega
      rw [this]
    rw [e] at this
    exact this
  have hR := d_lc1 (m := m0) (G := G2) (σ := [some v, some vc, some v2, none, none, none]) (tt := tYes) (te := tCB (rLenS K) (tCons (tLc (iList K (tVar 2)) (gName 5) (tTest (tOp rEq (tVar 5) (tVar 4))) (tVar 5) [5]) tNil)) (j := 4) (xs := List.range (mxN (counts t))) (enc := fun i => natD (i + 1)) (fun _ => true)
    (fun i => natD ((counts t).filter fun c => decide (c = i + 1)).length) hI (by rw [List.length_range]; omega) (fun x _ v G1 _ _ => t_yes)
    (fun i hi x G3 e3 hx _ => d_lenLM (enc := natD) (d_lc1 (m := m0) (xs := counts t) (enc := natD) (fun c => decide (c = i + 1)) natD (i_list (e_var rfl (h2.mono e3)).D) (by omega) (fun c _ y G4 e4 hy => t_test (d_eqN (e_var rfl hy).D (e_var (d := natD (i + 1)) rfl (hx.mono e4)).D)) (fun c _ y G4 e4 hy _ => (e_var rfl hy).D)))
  rw [hfl] at hR
  refine s_ret w2 hR fun v' G4 H4 s4 hv' => hQ v' G4 H4 (st2.trans w0 s4) ?_
  unfold R_by byB
  rw [lstN, List.map_map]
  exact hv'
/-! ### least_lot -/
def leastB (t : Tab) : PyData := if onesB t = [] then .none else match (onesB t).filter fun l => decide (l.length = mnN ((onesB t).map List.length)) with
  | [] => .none
  | l :: _ => tupN l
def R_least (t : Tab) (v : V) (G : Hp) : Prop := Dt G v (leastB t)
def sp_least_lot (CT CM : Addr) : Sp := spX CT CM R_least
theorem rd_least_lot {K : PySem.W.Frag} {CT CM : Addr} {vs : List V} {H : Hp} {Q : VK} {E : XK} (h : sp_least_lot CT CM vs H Q E) :
  (tSeq (tAsg (tCall sp_one_blocks_in [] C8.E0 (tCons (tVar 0) (tCons (tCall (sp_few_classes CT CM) [] E (tCons (tVar 0) tNil)) tNil))) (gName 1))
    (tSeq (tIfS (tTest (tOp (rEqD K) (tVar 1) (tLst tNil))) (tRet (tC V.non)) tNext)
      (tSeq (tAsg (tCB (rMin K) (tCons (tLc (iList K (tVar 1)) (gName 3) tYes (tCB (rLenS K) (tCons (tVar 3) tNil)) [3]) tNil)) (gName 2))
        (tRet (tOp (rIxL K) (tLc (iList K (tVar 1)) (gName 3) (tTest (tOp rEq (tCB (rLenS K) (tCons (tVar 3) tNil)) (tVar 2))) (tVar 3) [3]) (tC (V.int 0)))))))
    { nx := fun x H' => Q V.non H', rt := Q } (L2.start ["table", "found", "fewest", "lot"] vs) H := by
  obtain ⟨G, v, d, w0, rfl, hv, hO⟩ := h
  refine ⟨v, rfl, v, rfl, G, v, d, w0, rfl, hv, hO.imp fun t ed hvt h12 hQ vc G1 H1 s1 hc => ?_⟩
  subst ed
  have w1 := s1.w w0
  have hfl : ∀ {α : Type} (l : List α), (l.filter fun _ => true) = l := fun l => List.filter_eq_self.mpr fun _ _ => rfl
  have hlen := four_le h12
  have hol : (onesB t).length ≤ 4096 := by
    unfold onesB
    have := List.length_filter_le (fun l => decide ((blkN (nxt t (cls t) l)).length = 1)) (lots (cls t).length)
    rw [lots_len] at this
    omega
  refine Cmp.go (c_ones_in (σ := []) (ta := tC v) (tb := tC vc) (E := C8.E0) hvt h12 (e_glob (hv.mono s1.ex)).D (e_glob hc).D) w1 fun vf G2 H2 s2 hf => ?_
  have w2 := s2.w w1
  have st2 := s1.trans w0 s2
  refine q_when (b := decide (onesB t = [])) (σ := [some v, some vf, none, none]) w2 (t_test ((d_eqD (K := K) (e_var rfl hf).D (d_lst a_nil (by decide)) (sh_lstT _).ok (sh_nil 0).ok).is (by
    rw [eqv_nilL]
    congr 1
    exact decide_eq_decide.mpr ⟨fun h => by simpa using h, fun h => by rw [h]; rfl⟩))) (fun hb G3 H3 s3 => ?_) (fun hb G3 H3 s3 => ?_)
  · have hb := of_decide_eq_true hb
    exact s_ret (s3.w w2) e_non.D fun v' G4 H4 s4 hv' => hQ v' G4 H4 ((st2.trans w0 s3).trans w0 s4) (by
      unfold R_least leastB
      rw [if_pos hb]
      exact hv')
  · have hb := of_decide_eq_false hb
    have w3 := s3.w w2
    have st3 := st2.trans w0 s3
    have hf3 := hf.mono s3.ex
    have hne : (onesB t).map List.length ≠ [] := fun z => hb (List.map_eq_nil_iff.mp z)
    have hL := d_lc1 (m := m0) (G := G3) (σ := [some v, some vf, none, none]) (tt := tYes) (te := tCB (rLenS K) (tCons (tVar 3) tNil)) (wi := iList K (tVar 1)) (j := 3) (xs := onesB t) (enc := tupN) (fun _ => true) (fun l => natD l.length)
      (i_list (e_var rfl hf3).D) (by omega) (fun x _ v G1 _ _ => t_yes) (fun l _ x G4 e4 hx _ => (e_lenTM (enc := natD) (e_var rfl hx)).D)
    rw [hfl] at hL
    have e1 : (onesB t).map (fun l => natD l.length) = ((onesB t).map List.length).map natD := by
      rw [List.map_map]
      rfl
    rw [e1] at hL
    refine q_asg w3 (d_min (K := K) hL hne) fun v2 G4 H4 s4 h2 => ?_
    have w4 := s4.w w3
    have st4 := st3.trans w0 s4
    obtain ⟨l0, hl0, el0⟩ := List.mem_map.mp (mn_mem hne)
    obtain ⟨l1, r1, hfe⟩ : ∃ l r, ((onesB t).filter fun l => decide (l.length = mnN ((onesB t).map List.length))) = l :: r := by
      cases q : ((onesB t).filter fun l => decide (l.length = mnN ((onesB t).map List.length))) with
      | cons l r => exact ⟨l, r, rfl⟩
      | nil =>
        have : l0 ∈ ((onesB t).filter fun l => decide (l.length = mnN ((onesB t).map List.length))) := List.mem_filter.mpr ⟨hl0, decide_eq_true el0⟩
        rw [q] at this
        simp at this
    have hR := d_lc1 (m := m0) (G := G4) (σ := [some v, some vf, some v2, none]) (tt := tTest (tOp rEq (tCB (rLenS K) (tCons (tVar 3) tNil)) (tVar 2))) (te := tVar 3) (wi := iList K (tVar 1)) (j := 3) (xs := onesB t) (enc := tupN) (fun l => decide (l.length = mnN ((onesB t).map List.length))) tupN
      (i_list (e_var rfl (hf3.mono s4.ex)).D) (by omega) (fun l _ x G5 e5 hx => t_test (d_eqN (e_lenTM (enc := natD) (e_var rfl hx)).D (e_var (d := natD (mnN ((onesB t).map List.length))) rfl (h2.mono e5)).D)) (fun l _ x G5 e5 hx _ => (e_var rfl hx).D)
    rw [hfe] at hR
    refine s_ret w4 (d_ixL (K := K) hR (e_int 0).D (at_zero rfl)) fun v' G5 H5 s5 hv' => hQ v' G5 H5 (st4.trans w0 s5) ?_
    unfold R_least leastB
    rw [if_neg hb, hfe]
    exact hv'
end R45
end
section
set_option Elab.async false
set_option linter.all false
set_option maxRecDepth 100000
set_option maxHeartbeats 2000000
/-! mathematics 5: the least lot. -/
namespace R45
open PySem PySem.Spec PyProof.Rows L2 Evl
theorem ints_anti : ∀ {xs ys : List Int}, ¬ xs < ys → ¬ ys < xs → xs = ys
  | [], [], _, _ => rfl
  | [], y :: ys, h, _ => absurd (List.nil_lt_cons y ys) h
  | x :: xs, [], _, h => absurd (List.nil_lt_cons x xs) h
  | x :: xs, y :: ys, h1, h2 => by
    rw [List.cons_lt_cons_iff] at h1 h2
    have e : x = y := by omega
    subst e
    rw [ints_anti (xs := xs) (ys := ys) (fun z => h1 (.inr ⟨rfl, z⟩)) (fun z => h2 (.inr ⟨rfl, z⟩))]
theorem lt_tupN (a b : List Nat) : PySem.W.dataLt (tupN a) (tupN b) = decide (intsN a < intsN b) := by
  rw [PySem.W.dataLt_tuple, natD_ints, natD_ints]
  exact PySem.W.dataLt_ints _ _
theorem lotLe_anti {a b : List Nat} (h1 : lotLe a b = true) (h2 : lotLe b a = true) : a = b := by
  unfold lotLe at h1 h2
  rw [PySem.W.dataLe_eq] at h1 h2
  have e1 : (!PySem.W.dataLt (tupN b) (tupN a)) = true := h1
  have e2 : (!PySem.W.dataLt (tupN a) (tupN b)) = true := h2
  rw [lt_tupN] at e1 e2
  exact intsN_inj (ints_anti (by simpa using e2) (by simpa using e1))
abbrev lenD (l : List Nat) : PyData := .tuple [natD l.length, tupN l]
abbrev lenLe : List Nat → List Nat → Bool := PySem.W.dataLe false lenD
def srt (t : Tab) : List (List Nat) := (onesB t).mergeSort lenLe
theorem lenLe_eq (a b : List Nat) : lenLe a b = !(if a.length = b.length then (if a = b then false else PySem.W.dataLt (tupN b) (tupN a)) else decide (b.length < a.length)) := by
  unfold lenLe
  rw [PySem.W.dataLe_eq]
  show (!PySem.W.dataLt (lenD b) (lenD a)) = _
  rw [PySem.W.dataLt_pair (by simp [PySem.W.alike]) (alike_tupN b a), eqv_nat, eqv_tupN, PySem.W.dataLt_int]
  have c1 : (decide (b.length = a.length) = true) = (a.length = b.length) := by
    rw [decide_eq_true_eq]
    exact propext ⟨Eq.symm, Eq.symm⟩
  have c2 : (decide (b = a) = true) = (a = b) := by
    rw [decide_eq_true_eq]
    exact propext ⟨Eq.symm, Eq.symm⟩
  have c3 : decide (((b.length : Nat) : Int) < (a.length : Nat)) = decide (b.length < a.length) := decide_eq_decide.mpr ⟨fun h => by omega, fun h => by omega⟩
  rw [c3]
  simp only [c1, c2]
theorem ones_sorted (t : Tab) : (onesB t).Pairwise fun a b => lotLe a b = true :=
  List.Pairwise.filter _ (PySem.W.sort_pairwise (PySem.W.sortLe_total _ _ _) _)
theorem srt_sorted (t : Tab) : (srt t).Pairwise fun a b => lenLe a b = true := PySem.W.sort_pairwise (PySem.W.sortLe_total _ _ _) _
theorem least_eq {t : Tab} (hne : onesB t ≠ []) : ∃ l r, srt t = l :: r ∧ leastB t = tupN l := by
  have mem : ∀ x, x ∈ srt t ↔ x ∈ onesB t := fun x => List.mem_mergeSort
  obtain ⟨h, r, hs⟩ : ∃ h r, srt t = h :: r := by
    cases q : srt t with
    | cons h r => exact ⟨h, r, rfl⟩
    | nil =>
      obtain ⟨x, r', e⟩ := List.exists_cons_of_ne_nil hne
      have := (mem x).mpr (by rw [e]; exact List.mem_cons_self)
      rw [q] at this
      simp at this
  have hm : h ∈ onesB t := (mem h).mp (by rw [hs]; exact List.mem_cons_self)
  have hp := srt_sorted t
  rw [hs, List.pairwise_cons] at hp
  have hle : ∀ x ∈ onesB t, x = h ∨ lenLe h x = true := fun x hx => by
    have := (mem x).mpr hx
    rw [hs] at this
    rcases List.mem_cons.mp this with e | e
    · exact .inl e
    · exact .inr (hp.1 x e)
  have hlen : ∀ x ∈ onesB t, h.length ≤ x.length := fun x hx => by
    rcases hle x hx with e | e
    · rw [e]
      exact Nat.le_refl _
    · rw [lenLe_eq] at e
      by_cases c : h.length = x.length
      · omega
      · rw [if_neg c] at e
        have : ¬ x.length < h.length := by simpa using e
        omega
  have hmn : h.length = mnN ((onesB t).map List.length) := mn_eq (List.mem_map.mpr ⟨h, hm, rfl⟩) fun y hy => by
    obtain ⟨x, hx, rfl⟩ := List.mem_map.mp hy
    exact hlen x hx
  refine ⟨h, r, hs, ?_⟩
  unfold leastB
  rw [if_neg hne]
  have hf : h ∈ (onesB t).filter fun l => decide (l.length = mnN ((onesB t).map List.length)) := List.mem_filter.mpr ⟨hm, decide_eq_true hmn⟩
  have hps : ((onesB t).filter fun l => decide (l.length = mnN ((onesB t).map List.length))).Pairwise fun a b => lotLe a b = true := (ones_sorted t).filter _
  cases q : (onesB t).filter fun l => decide (l.length = mnN ((onesB t).map List.length)) with
  | nil => rw [q] at hf; simp at hf
  | cons f r' =>
    show tupN f = tupN h
    have hfm : f ∈ (onesB t).filter fun l => decide (l.length = mnN ((onesB t).map List.length)) := by rw [q]; exact List.mem_cons_self
    obtain ⟨f1, f2⟩ := List.mem_filter.mp hfm
    have f2 := of_decide_eq_true f2
    rw [q, List.pairwise_cons] at hps
    rw [q] at hf
    rcases List.mem_cons.mp hf with e | e
    · rw [e]
    · have a1 := hps.1 h e
      rcases hle f f1 with e2 | e2
      · rw [e2]
      · rw [lenLe_eq, if_pos (by rw [hmn, f2])] at e2
        by_cases c : h = f
        · rw [c]
        · rw [if_neg c] at e2
          have a2 : lotLe h f = true := by
            unfold lotLe
            rw [PySem.W.dataLe_eq]
            exact e2
          rw [lotLe_anti a1 a2]
end R45
end
section
set_option Elab.async false
set_option linter.all false
set_option maxRecDepth 100000
set_option maxHeartbeats 2000000
/-! the def that says which error came, called with a lambda. -/
namespace R45
open PySem PySem.Spec PyProof.Rows L2 Evl LamX
/-- the five errors -/
structure Xw (K : PySem.W.Frag) (mg : Str → Option Value) (CT CL CP CO CM : Addr) : Prop where
  gT : mg "InvalidTable" = some (.ref CT)
  gL : mg "InvalidLot" = some (.ref CL)
  gP : mg "NotPaired" = some (.ref CP)
  gO : mg "NotOneBlock" = some (.ref CO)
  gM : mg "TooMany" = some (.ref CM)
  f : XfC K CM
  no : PySem.W.findIn K (.ref CM) "limit" = some none
  tt : PySem.W.exmOne K (.ref CT) (.ref CT) = some true
  mt : PySem.W.exmOne K (.ref CM) (.ref CT) = some false
  ml : PySem.W.exmOne K (.ref CM) (.ref CL) = some false
  mp : PySem.W.exmOne K (.ref CM) (.ref CP) = some false
  mo : PySem.W.exmOne K (.ref CM) (.ref CO) = some false
  mm : PySem.W.exmOne K (.ref CM) (.ref CM) = some true
abbrev many12 : Str := Str.ofString "many 12"
abbrev TW (K : PySem.W.Frag) (CT CL CP CO CM : Addr) : (XK → Hp → VK → Prop) → Hp → VK → Prop := TTw K CT CL CP CO CM (Str.ofString "table") many12 (Str.ofString "") 12
theorem pe_word {X : Cx} {CT CL CP CO CM : Addr} (D : DefF X.K X.mg d__law_word) (xw : Xw X.K X.mg CT CL CP CO CM) (hms : X.mg "str" = none) {c P : Addr} {params : Arguments} {body : Expr} {scope : Scope} {t : XK → TE} {p lpos pos : Pos} {q : Str} {k : Nat}
    (hg : Gl X "_law_word") (TB : TabB X.base X.mg c P) (hcode : X.env.code = .ref c) (hq : X.env.qual ++ "<lambda>" = q) (hr : Room (k + 2) X.A) (L : LamS X.env.scope scope) (hdef : defaultsOf params X.env = ([], []))
    (hbind : ∀ (q : Str) (cl : List (Str × Addr)) (pm cv ctv : Value), bindArgs (PySem.W.kla_fn "<lambda>" q params body scope cl pm cv ctv) ⟨[], []⟩ = pure [])
    (hbody : ∀ (A : Around) (outer : List Env) (s : Shared) (H : Hp) (E : XK) (f c' : Addr), Room k (A.deeper (lamEnv X scope s.heap.objs.size f c')) → PE (lamCx X A outer s H E scope f c') body (t E)) :
    PE X (.Call (.Name "_law_word" p) [.Lambda params body scope lpos] [] pos) (tLam3 P [(P, q)] (TW X.K CT CL CP CO CM) t) := by
  subst hq
  obtain ⟨f, fd, F, hm⟩ := D
  have kp := F.kp
  have hb := F.bindsN (ps := ["_law_call"]) (fun kV doc pm an cdv ct us hl => match us, hl with | [_], _ => rfl)
  obtain ⟨oc, od, dV, kV, doc, pm, an, cdv, ct, osl, rfl, lk, hcd, _, _⟩ := F.ex
  refine pe_lamcall3 (Ng := ["_law_call", "error"]) (a := "_law_call") hg hm kp lk hcd hb sc__law_word rfl ?_ ?_ TB hcode (by simp) (fun p hp _ => by cases List.mem_singleton.mp hp; rfl) hr L hdef hbind hbody
  · exact Or.inl rfl
  · exact word_gives (pre := Str.ofString "many ") (lim := 12) rfl (by decide) rfl rfl hms rfl xw.gT (by decide) rfl xw.gL (by decide) rfl xw.gP (by decide) rfl xw.gO (by decide) rfl xw.gM (by decide) xw.f xw.no (by decide +kernel) (by decide +kernel) (by decide +kernel) (by decide +kernel)
end R45
end
section
set_option Elab.async false
set_option linter.all false
set_option maxRecDepth 100000
set_option maxHeartbeats 2000000
namespace R45
open PySem PySem.Spec PyProof.Rows L2 Evl LamX
/-! equality of a datum with itself -/
mutual
theorem eqv_self : ∀ d : PyData, litOk d = true → PyData.eqv d d = true
  | .none, _ => by simp [PyData.eqv]
  | .bool b, _ => by simp [PyData.eqv]
  | .int i, _ => by simp [PyData.eqv]
  | .str s, _ => by simp [PyData.eqv]
  | .list ds, h => by
    rw [litOk, Bool.and_eq_true] at h
    rw [PyData.eqv]
    exact eqvAll_self ds h.2
  | .tuple ds, h => by
    rw [litOk, Bool.and_eq_true] at h
    rw [PyData.eqv]
    exact eqvAll_self ds h.2
  | .dict _, h => by simp [litOk] at h
theorem eqvAll_self : ∀ ds : List PyData, litsOk ds = true → PyData.eqvAll ds ds = true
  | [], _ => by simp [PyData.eqvAll]
  | d :: ds, h => by
    rw [litsOk, Bool.and_eq_true] at h
    rw [PyData.eqvAll, eqv_self d h.1, eqvAll_self ds h.2]
    rfl
end
section
variable {m : Mode} {σ : L2.St} {G G' H : Hp} {te ta tb tc tl : TE} {tt tu : TT} {d d' : PyData} {v : V} {K : PySem.W.Frag} {ds es : List PyData} {CT CL CP CO CM P : Addr} {q : Str} {mg : Str → Option Value}
/-- a def that may raise, at a table where it does not -/
theorem c_X {R : Tab → V → Hp → Prop} {t : Tab} (hv : Valid t) (h12 : (cls t).length ≤ 12) (h : EvD m ta σ G (tabD t)) : Cmp m G (tCall (spX CT CM R) [] C8.E0 (tCons ta tNil) σ) (R t) :=
  Cmp.bind (f := ta σ) (g := fun (v : V) (H : Hp) (Q : VK) => spX CT CM R [v] H Q C8.E0) h fun v G1 e hd G2 H e2 w Q k =>
    ⟨G2, v, tabD t, w.m0, rfl, hd.mono e2, .inr ⟨t, rfl, hv, .inr ⟨h12, fun v' G' H' s r => k v' G' H' (s.up w) r⟩⟩⟩
/-- the word that is told of a table -/
theorem c_word {R : Tab → V → Hp → Prop} {i : Nat} {wd : Str} (u : Sub (mT P q) m) (xw : Xw K mg CT CL CP CO CM) (hi : σ[i]? = some (some v)) (hd : Dt G v d)
    (h : (twoD d = false ∧ wd = Str.ofString "table") ∨ ∃ t, d = tabD t ∧ Valid t ∧ 12 < (cls t).length ∧ wd = many12) :
    EvD m (tLam3 P [(P, q)] (TW K CT CL CP CO CM) (fun E => tCall (spX CT CM R) [] E (tCons (tVar i) tNil))) σ G (.str wd) := fun G1 H e w Q k => by
  have w1 := u.w w
  have hT : TabS H P q := w1.inv
  refine ⟨fun p hp => by cases List.mem_singleton.mp hp; exact hT, fun H1 hk hT1 => ?_⟩
  have hT1' : TabS H1 P q := hT1 (P, q) (by simp)
  have s1 : Stp (mT P q) G1 H G1 H1 := by
    refine ⟨Ex.refl _, fun b o e => ?_, fun b o hb e => hk b o hb e, hT1', fun b o _ _ => rfl⟩
    exact hk b o (fun z => by rw [z, w1.hid P rfl] at e; cases e) (w1.ex b o e)
  have w2 := s1.w w1
  have fin : ∀ (wd' : Str) G' H', Stp m0 G1 H1 G' H' → wd' = wd → Q (.str wd') H' := fun wd' G' H' s ew => by
    subst ew
    exact k _ G' H' (u.stp w (s1.trans w1 (s.up w2))) (.str _)
  refine ⟨v, hi, G1, v, d, w2.m0, rfl, hd.mono e, ?_⟩
  rcases h with ⟨h, ew⟩ | ⟨t, rfl, hv, h12, ew⟩
  · exact .inl ⟨h, fun G' H' s => .inl ⟨xw.tt, fin _ G' H' s ew.symm⟩⟩
  · exact .inr ⟨t, rfl, hv, .inl ⟨h12, fun G' H' dd s hdd => .inr ⟨xw.mt, xw.ml, xw.mp, xw.mo, xw.mm, rfl, dd, _, rfl, hdd, by decide, fin _ G' H' s ew.symm⟩⟩⟩
end
theorem c_law_classes {m : Mode} {σ : L2.St} {G : Hp} {ta : TE} {E : XK} {t : Tab} (hv : Valid t) (h : EvD m ta σ G (tabD t)) : EvD m (tCall sp__law_classes [] E (tCons ta (tCons (tC (V.int 0)) (tCons (tC (V.int 1)) tNil)))) σ G (lstT (cls t)) :=
  c_call (P := fun v' G' => Dt G' v' (lstT (cls t))) (am_d h (am_v n_c (am_v n_c am_nil))) fun vs G1 e1 has G2 e2 => by
    obtain ⟨x, y, z, rfl, hx, hy, hz⟩ := has.three
    cases hy
    cases hz
    exact ⟨x, t, rfl, Dt.mono e2 hx, hv, fun _ _ h => h⟩
theorem litOk_tupN (l : List Nat) (h : l.length ≤ 1000000) : litOk (tupN l) = true := by
  have : ∀ l : List Nat, litsOk (l.map natD) = true := fun l => by
    induction l with
    | nil => rfl
    | cons a r ih => rw [List.map_cons, litsOk, ih]; rfl
  rw [litOk, this l, Bool.and_true]
  exact decide_eq_true (by rw [List.length_map]; exact h)
theorem sh_str {s : Str} (h : PyData.strOk s = true) : Sh 0 (.str s) := ⟨by rw [PyData.canLay0]; exact h, by simp [PyData.depth]⟩
theorem sh_strs {l : List Str} (h : l.all PyData.strOk = true) : Sh 1 (.list (l.map PyData.str)) := sh_list fun d hd => by
  obtain ⟨s, hs, rfl⟩ := List.mem_map.mp hd
  exact sh_str (List.all_eq_true.mp h s hs)
/-! ### _law_right -/
def sp__law_right (P : Addr) (q : Str) : Sp := fun vs H Q _ => ∃ G v t, W (mT P q) G H ∧ vs = [v] ∧ Dt G v (tabD t) ∧ Valid t ∧ ∀ G' H', Stp (mT P q) G H G' H' → Q (.bl true) H'
theorem len__law_right {P : Addr} {q : Str} (vs : List V) (H : Hp) (Q : VK) (E : XK) (h : sp__law_right P q vs H Q E) : vs.length = (["_law_table_here"] : List String).length := by
  obtain ⟨G, v, t, _, rfl, _⟩ := h
  rfl
theorem rd__law_right {K : PySem.W.Frag} {mg : Str → Option Value} {CT CL CP CO CM P : Addr} {q : Str} (xw : Xw K mg CT CL CP CO CM) {vs : List V} {H : Hp} {Q : VK} {E : XK} (h : sp__law_right P q vs H Q E) :
  (tSeq (tAsg (tCall sp__law_classes [] C8.E0 (tCons (tVar 0) (tCons (tC (V.int 0)) (tCons (tC (V.int 1)) tNil)))) (gName 1)) (tSeq (tIfS (tTest (tOp (rI0 fun i j => V.bl (decide (j < i))) (tCB (rLenS K) (tCons (tVar 1) tNil)) (tC (V.int 12)))) (tSeq (tAsg (tLst (tCons (tLam3 P [(P, q)] (TW K CT CL CP CO CM) fun E => tCall (sp_one_block_lots CT CM) [] E (tCons (tVar 0) tNil)) tNil)) (gName 2)) (tSeq (tDrop (tBM K "list" rAppend (tVar 2) (tCons (tLam3 P [(P, q)] (TW K CT CL CP CO CM) fun E => tCall (sp_lots_by_blocks CT CM) [] E (tCons (tVar 0) tNil)) tNil))) (tRet (tOp (rEqD K) (tOp rCat (tVar 2) (tLst (tCons (tLam3 P [(P, q)] (TW K CT CL CP CO CM) fun E => tCall (sp_least_lot CT CM) [] E (tCons (tVar 0) tNil)) tNil))) (tOp rRep (tLst (tCons (tC (V.str (Str.ofString "many 12"))) tNil)) (tC (V.int 3))))))) tNext) (tSeq (tAsg (tLc (iList K (tCall sp__law_lots [] C8.E0 (tCons (tCB (rLenS K) (tCons (tVar 1) tNil)) tNil))) (gName 7) tYes (tTup (tCons (tVar 7) (tCons (tCall sp__law_many [] C8.E0 (tCons (tVar 0) (tCons (tVar 1) (tCons (tVar 7) tNil)))) tNil))) [7]) (gName 3)) (tSeq (tPar 4 5 (tCons (tLc (iList K (tVar 3)) (gTup K 2 (gCons (gName 7) (gCons (gName 8) gNil))) (tTest (tOp rEq (tVar 8) (tC (V.int 1)))) (tVar 7) [7, 8]) (tCons (tCB (rMax K) (tCons (tLc (iList K (tVar 3)) (gTup K 2 (gCons (gName 7) (gCons (gName 8) gNil))) tYes (tVar 8) [7, 8]) tNil)) tNil))) (tSeq (tIfS (tOr (tTest (tOp (rNeD K) (tCall (sp_one_block_lots CT CM) [] C8.E0 (tCons (tVar 0) tNil)) (tVar 4))) (tTest (tOp (rNeD K) (tCall (sp_lots_by_blocks CT CM) [] C8.E0 (tCons (tVar 0) tNil)) (tLc (iRng1 (tCons (tVar 5) tNil)) (gName 9) tYes (tCB (rLenS K) (tCons (tLc (iList K (tVar 3)) (gTup K 2 (gCons (gName 7) (gCons (gName 8) gNil))) (tTest (tOp rEq (tVar 8) (tOp (rI0 fun i j => V.int (i + j)) (tVar 9) (tC (V.int 1))))) (tC (V.int 1)) [7, 8]) tNil)) [9])))) (tRet (tC (V.bl false))) tNext) (tSeq (tAsg (tCB (rSortD K) (tCons (tLc (iList K (tVar 4)) (gName 7) tYes (tTup (tCons (tCB (rLenS K) (tCons (tVar 7) tNil)) (tCons (tVar 7) tNil))) [7]) tNil)) (gName 6)) (tRet (tOp (rEqD K) (tCall (sp_least_lot CT CM) [] C8.E0 (tCons (tVar 0) tNil)) (tIf (tTest (tOp (rNeD K) (tVar 6) (tLst tNil))) (tOp (rIxT K) (tOp (rIxL K) (tVar 6) (tC (V.int 0))) (tC (V.int 1))) (tC V.non))))))))))
    { nx := fun x H' => Q V.non H', rt := Q } (L2.start ["_law_table_here", "_law_classes_here", "_law_words", "_law_counts", "_law_ones", "_law_most", "_law_least", "_law_lot", "_law_many_here", "_law_at"] vs) H := by
  obtain ⟨G, v, t, w0, rfl, hv, hvt, hQ⟩ := h
  have hfl : ∀ {α : Type} (l : List α), (l.filter fun _ => true) = l := fun l => List.filter_eq_self.mpr fun _ _ => rfl
  refine q_asg w0 (c_law_classes hvt (e_var rfl hv).D) fun vc G1 H1 s1 hc => ?_
  have w1 := s1.w w0
  have hv1 := hv.mono s1.ex
  refine q_when (b := decide ((12 : Int) < ((cls t).length : Nat))) w1 (t_test (d_cmpI (g := fun i j => decide (j < i)) (e_lenLM (enc := tupN) (e_var rfl hc)).D (e_int 12).D)) (fun hb G2 H2 s2 => ?_) (fun hb G2 H2 s2 => ?_)
  · have hb : 12 < (cls t).length := by have := of_decide_eq_true hb; omega
    have w2 := s2.w w1
    have st2 := s1.trans w0 s2
    have hv2 := hv1.mono s2.ex
    have sub : Sub (mT P q) (mT P q) := ⟨fun h => h, fun h => h, fun _ i _ => i⟩
    have hW : ∀ {R : Tab → V → Hp → Prop} {σ : L2.St} {G3 : Hp}, Ex G2 G3 → σ[0]? = some (some v) → EvD (mT P q) (tLam3 P [(P, q)] (TW K CT CL CP CO CM) (fun E => tCall (spX CT CM R) [] E (tCons (tVar 0) tNil))) σ G3 (.str many12) := fun e hi =>
      c_word sub xw hi (hv2.mono e) (.inr ⟨t, rfl, hvt, hb, rfl⟩)
    refine q_asgN (nw_lst (EvA.one (hW (R := R_ones) (Ex.refl _) rfl)) (by simp)) w2 rfl fun l xs G3 H3 s3 hl gl h0 hx => ?_
    have w3 := s3.w w2
    have ml : ¬ (mT P q).M l := w2.newM h0
    obtain ⟨x0, rfl, hx0⟩ := hx.one_inv
    refine q_app w3 ml gl hl rfl (hW (R := R_by) s3.ex rfl) (by simp) fun va G4 H4 s4 hva => ?_
    obtain ⟨hl4, gl4⟩ := s4.mine ml gl hl
    have st4 := s3.trans w2 s4
    have st5 := st4.mut w2 (o := .lst ([x0] ++ [va])) h0 gl4 (fun φ z => by rw [hl4] at z; cases z)
    have st6 := st5.tell h0 gl4 upd_same
    have w6 := st6.w w2
    have hl6 : Dt (upd G4 l (.lst ([x0] ++ [va]))) (.ref l) (.list [.str many12, .str many12]) := .lst upd_same (((Dts.cons (hx0.mono s4.ex) .nil).append (.cons hva .nil)).mono (Ex.new gl4))
    have hE := d_eqD (m := mT P q) (K := K) (σ := [some v, some vc, some (.ref l), none, none, none, none, none, none, none]) (d_cat (ta := tVar 2) (e_var rfl hl6).D (d_lst (EvA.one (hW (R := R_least) st6.ex rfl)) (by simp)) (by simp)) (d_rep (n := 3) (ta := tLst (tCons (tC (V.str (Str.ofString "many 12"))) tNil)) (d_lst (EvA.one (e_str many12).D) (by simp)) (e_int 3).D (by omega) (by simp)) (show Sh 1 (.list ([many12, many12, many12].map PyData.str)) from sh_strs (by decide +kernel)).ok (show Sh 1 (.list ([many12, many12, many12].map PyData.str)) from sh_strs (by decide +kernel)).ok
    have e6 : PyData.eqv (.list ([.str many12, .str many12] ++ [.str many12])) (.list (List.replicate (3 : Int).toNat [.str many12]).flatten) = true := eqv_self (.list [.str many12, .str many12, .str many12]) rfl
    exact s_ret w6 (hE.is (by rw [e6])) fun v' G7 H7 s7 hv' => by
      cases hv'
      exact hQ G7 H7 ((st2.trans w0 st6).trans w0 s7)
  · have hb : (cls t).length ≤ 12 := by have := of_decide_eq_false hb; omega
    have hlen := four_le hb
    have w2 := s2.w w1
    have st2 := s1.trans w0 s2
    have hv2 := hv1.mono s2.ex
    have hc2 : Dt G2 vc (lstT (cls t)) := hc.mono s2.ex
    generalize hcn : (fun l => (blkN (nxt t (cls t) l)).length) = cnt
    have hcnt : ∀ l, (blkN (nxt t (cls t) l)).length = cnt l := fun l => by rw [← hcn]
    have hL := d_lc1 (m := mT P q) (G := G2) (σ := [some v, some vc, none, none, none, none, none, none, none, none]) (tt := tYes) (te := tTup (tCons (tVar 7) (tCons (tCall sp__law_many [] C8.E0 (tCons (tVar 0) (tCons (tVar 1) (tCons (tVar 7) tNil)))) tNil)))
      (wi := iList K (tCall sp__law_lots [] C8.E0 (tCons (tCB (rLenS K) (tCons (tVar 1) tNil)) tNil))) (j := 7) (xs := lots (cls t).length) (enc := tupN) (fun _ => true) (fun l => .tuple [tupN l, natD (cnt l)])
      (i_list (c_call (P := fun v' G' => Dt G' v' (lstT (lots (cls t).length))) (am_d (e_lenLM (e_var rfl hc2)).D am_nil) fun vs G1 e1 has G2 e2 => by
        obtain ⟨x, rfl, h1⟩ := has.one
        cases h1
        exact ⟨_, rfl, hb, fun _ _ h => h⟩)) (by rw [lots_len]; omega) (fun x _ v G1 _ _ => t_yes)
      (fun l hl x G3 e hx _ => d_tup (a_cons (e_var rfl hx).D (EvA.one (c_call (P := fun v' G' => Dt G' v' (natD (cnt l))) (am_d (e_var rfl (hv2.mono e)).D (am_d (e_var rfl (hc2.mono e)).D (am_d (e_var rfl hx).D am_nil))) fun vs G4 e1 has G5 e2 => by
        obtain ⟨x, y, z, rfl, h1, h2, h3⟩ := has.three
        exact ⟨x, y, z, t, l, rfl, Dt.mono e2 h1, Dt.mono e2 h2, Dt.mono e2 h3, hvt, (lots_mem hl).1, fun _ _ h => by rw [hcnt] at h; exact h⟩))) (by simp))
    rw [hfl] at hL
    refine q_asg w2 hL fun v3 G3 H3 s3 h3 => ?_
    have w3 := s3.w w2
    have st3 := st2.trans w0 s3
    have hll : (lots (cls t).length).length ≤ 1000000 := by rw [lots_len]; omega
    have hpair : ∀ {m : Mode} {σ : L2.St} {G4 : Hp} {tt : TT} {te : TE} (F : List Nat → Bool) (E' : List Nat → PyData), Ex G3 G4 → σ[3]? = some (some v3) →
        (∀ x ∈ lots (cls t).length, ∀ v u G1, Ex G4 G1 → Dt G1 v (tupN x) → Dt G1 u (natD (cnt x)) → EvT m tt ((((σ.set 8 none).set 7 none).set 7 (some v)).set 8 (some u)) G1 (F x)) →
        (∀ x ∈ lots (cls t).length, ∀ v u G1, Ex G4 G1 → Dt G1 v (tupN x) → Dt G1 u (natD (cnt x)) → F x = true → EvD m te ((((σ.set 8 none).set 7 none).set 7 (some v)).set 8 (some u)) G1 (E' x)) →
        EvD m (tLc (iList K (tVar 3)) (gTup K 2 (gCons (gName 7) (gCons (gName 8) gNil))) tt te [7, 8]) σ G4 (.list (((lots (cls t).length).filter F).map E')) := fun F E' e hi h1 h2 =>
      d_lc2 (e1 := tupN) (e2 := fun l => natD (cnt l)) F E' (by decide) (i_list (e_var hi (h3.mono e)).D) hll h1 h2
    have hones : ((lots (cls t).length).filter fun l => decide (cnt l = 1)) = onesB t := by rw [← hcn]; rfl
    have hcounts : (lots (cls t).length).map cnt = counts t := by rw [← hcn]; rfl
    have hO : EvD (mT P q) (tLc (iList K (tVar 3)) (gTup K 2 (gCons (gName 7) (gCons (gName 8) gNil))) (tTest (tOp rEq (tVar 8) (tC (V.int 1)))) (tVar 7) [7, 8]) [some v, some vc, none, some v3, none, none, none, none, none, none] G3 (lstT (onesB t)) := by
      have := hpair (m := mT P q) (σ := [some v, some vc, none, some v3, none, none, none, none, none, none]) (tt := tTest (tOp rEq (tVar 8) (tC (V.int 1)))) (te := tVar 7) (fun l => decide (cnt l = 1)) tupN (Ex.refl _) rfl (fun x _ v u G1 _ hv hu => t_test (d_eqN (j := 1) (e_var rfl hu).D (e_int 1).D)) (fun x _ v u G1 _ hv hu _ => (e_var rfl hv).D)
      rw [hones] at this
      exact this
    have hM : EvD (mT P q) (tCB (rMax K) (tCons (tLc (iList K (tVar 3)) (gTup K 2 (gCons (gName 7) (gCons (gName 8) gNil))) tYes (tVar 8) [7, 8]) tNil)) [some v, some vc, none, some v3, none, none, none, none, none, none] G3 (natD (mxN (counts t))) := by
      have := hpair (m := mT P q) (σ := [some v, some vc, none, some v3, none, none, none, none, none, none]) (tt := tYes) (te := tVar 8) (fun l => true) (fun l => natD (cnt l)) (Ex.refl _) rfl (fun x _ v u G1 _ hv hu => t_yes) (fun x _ v u G1 _ hv hu _ => (e_var rfl hu).D)
      rw [hfl] at this
      have e : (lots (cls t).length).map (fun l => natD (cnt l)) = (counts t).map natD := by
        rw [← hcounts, List.map_map]
        rfl
      rw [e] at this
      exact d_max (K := K) this (counts_ne t)
    refine q_par w3 (a_cons hO (EvA.one hM)) fun v4 v5 G4 H4 s4 h4 h5 => ?_
    cases h5
    have w4 := s4.w w3
    have st4 := st3.trans w0 s4
    have hv4 := (hv2.mono s3.ex).mono s4.ex
    have hol : (onesB t).length ≤ 4096 := by
      unfold onesB
      have := List.length_filter_le (fun l => decide ((blkN (nxt t (cls t) l)).length = 1)) (lots (cls t).length)
      rw [lots_len] at this
      omega
    have hmx : mxN (counts t) ≤ 720 := counts_le hvt _ (mx_mem (counts_ne t))
    refine q_when (b := false) (σ := [some v, some vc, none, some v3, some v4, some (.int (mxN (counts t) : Nat)), none, none, none, none]) w4 ?_ (fun hb => by cases hb) (fun _ G5 H5 s5 => ?_)
    · have h1 := d_neD (m := mT P q) (K := K) (σ := [some v, some vc, none, some v3, some v4, some (.int (mxN (counts t) : Nat)), none, none, none, none]) (c_X (CT := CT) (CM := CM) (R := R_ones) hvt hb (e_var (i := 0) rfl hv4).D) (e_var (i := 4) rfl h4).D (sh_lstT _).ok (sh_lstT _).ok
      rw [eqv_lstT, decide_eq_true rfl] at h1
      refine (t_or (t_test h1) fun _ => t_test (b := false) ?_).is rfl
      have hI := d_lc1 (m := mT P q) (G := G4) (σ := [some v, some vc, none, some v3, some v4, some (.int (mxN (counts t) : Nat)), none, none, none, none]) (tt := tYes) (te := tCB (rLenS K) (tCons (tLc (iList K (tVar 3)) (gTup K 2 (gCons (gName 7) (gCons (gName 8) gNil))) (tTest (tOp rEq (tVar 8) (tOp (rI0 fun i j => V.int (i + j)) (tVar 9) (tC (V.int 1))))) (tC (V.int 1)) [7, 8]) tNil)) (wi := iRng1 (tCons (tVar 5) tNil)) (j := 9)
        (xs := List.range (mxN (counts t))) (enc := natD) (fun _ => true) (fun i => natD ((counts t).filter fun c => decide (c = i + 1)).length) (i_rngN (n := mxN (counts t)) (e_var rfl (.int _)).D (by omega)) (by rw [List.length_range]; omega) (fun x _ v G1 _ _ => t_yes) (fun i hi x G5 e5 hx _ => by
          have hp := hpair (m := mT P q) (σ := [some v, some vc, none, some v3, some v4, some (.int (mxN (counts t) : Nat)), none, none, none, some x]) (G4 := G5) (tt := tTest (tOp rEq (tVar 8) (tOp (rI0 fun i j => V.int (i + j)) (tVar 9) (tC (V.int 1))))) (te := tC (V.int 1)) (fun l => decide (cnt l = i + 1)) (fun _ => natD 1) (s4.ex.trans e5) rfl (fun y _ v u G1 e1 hv hu => t_test (d_eqN (j := i + 1) (e_var rfl hu).D ((e_add (e_var rfl (hx.mono e1)) (e_int 1)).is (by
            have : ((i : Nat) : Int) + 1 = ((i + 1 : Nat) : Int) := by omega
            rw [this])).D)) (fun y _ v u G1 _ hv hu _ => (e_int 1).D)
          have hl := d_lenL (K := K) hp
          rw [List.length_map] at hl
          have e9 : ((lots (cls t).length).filter fun l => decide (cnt l = i + 1)).length = ((counts t).filter fun c => decide (c = i + 1)).length := by
            rw [← hcounts, List.filter_map, List.length_map]
            rfl
          rw [e9] at hl
          exact hl)
      rw [hfl] at hI
      have e10 : (List.range (mxN (counts t))).map (fun i => natD ((counts t).filter fun c => decide (c = i + 1)).length) = (byB t).map natD := by
        unfold byB
        rw [List.map_map]
        rfl
      rw [e10] at hI
      have h2 := d_neD (m := mT P q) (K := K) (c_X (CT := CT) (CM := CM) (R := R_by) hvt hb (e_var (i := 0) (σ := [some v, some vc, none, some v3, some v4, some (.int (mxN (counts t) : Nat)), none, none, none, none]) rfl hv4).D) hI (sh_lstN _).ok (sh_lstN _).ok
      rw [eqv_lstN, decide_eq_true rfl] at h2
      exact h2
    · have w5 := s5.w w4
      have st5 := st4.trans w0 s5
      have h45 := h4.mono s5.ex
      have hv5 := hv4.mono s5.ex
      have hS := d_lc1 (m := mT P q) (G := G5) (σ := [some v, some vc, none, some v3, some v4, some (.int (mxN (counts t) : Nat)), none, none, none, none]) (tt := tYes) (te := tTup (tCons (tCB (rLenS K) (tCons (tVar 7) tNil)) (tCons (tVar 7) tNil))) (wi := iList K (tVar 4)) (j := 7) (xs := onesB t) (enc := tupN) (fun _ => true) lenD
        (i_list (e_var rfl h45).D) (by omega) (fun x _ v G1 _ _ => t_yes) (fun l _ x G6 _ hx _ => d_tup (a_cons (e_lenTM (K := K) (enc := natD) (e_var rfl hx)).D (EvA.one (e_var rfl hx).D)) (by simp))
      rw [hfl] at hS
      refine q_asg w5 (d_sort (K := K) (xs := onesB t) (enc := lenD) hS (fun d hd d' hd' => by
          obtain ⟨a, _, rfl⟩ := List.mem_map.mp hd
          obtain ⟨b, _, rfl⟩ := List.mem_map.mp hd'
          have := alike_tupN a b
          unfold PySem.W.alike PySem.W.alikeAll
          unfold PySem.W.alikeAll
          rw [this]
          simp [PySem.W.alike, PySem.W.alikeAll]) (.inl (.inl fun d hd => by
          obtain ⟨a, _, rfl⟩ := List.mem_map.mp hd
          exact ⟨_, _, rfl⟩)) (fun l _ => Nat.le_trans (sh_tuple (k := 1) (ds := [natD l.length, tupN l]) (fun d hd => by
            simp only [List.mem_cons, List.not_mem_nil, or_false] at hd
            rcases hd with e | e
            · rw [e]
              exact (sh_nat _).mono (by decide)
            · rw [e]
              exact sh_tupN l)).dep (by decide))) fun v6 G6 H6 s6 h6 => ?_
      have h6 : Dt G6 v6 (.list ((srt t).map lenD)) := h6
      have w6 := s6.w w5
      have st6 := st5.trans w0 s6
      have hX := c_X (m := mT P q) (G := G6) (σ := [some v, some vc, none, some v3, some v4, some (.int (mxN (counts t) : Nat)), some v6, none, none, none]) (ta := tVar 0) (CT := CT) (CM := CM) (R := R_least) hvt hb (e_var rfl (hv5.mono s6.ex)).D
      have hc6 : EvT (mT P q) (tTest (tOp (rNeD K) (tVar 6) (tLst tNil))) [some v, some vc, none, some v3, some v4, some (.int (mxN (counts t) : Nat)), some v6, none, none, none] G6 (!decide (srt t = [])) :=
        t_test ((d_neD (K := K) (e_var rfl h6).D (d_lst a_nil (by decide)) (sh_listM (k := 2) fun l => sh_tuple fun d hd => by
            simp only [List.mem_cons, List.not_mem_nil, or_false] at hd
            rcases hd with e | e
            · rw [e]
              exact (sh_nat _).mono (by decide)
            · rw [e]
              exact sh_tupN l).ok (sh_nil 0).ok).is (by
          rw [eqv_nilL]
          congr 2
          exact decide_eq_decide.mpr ⟨fun h => by simpa using h, fun h => by rw [h]; rfl⟩))
      have hI : EvD (mT P q) (tIf (tTest (tOp (rNeD K) (tVar 6) (tLst tNil))) (tOp (rIxT K) (tOp (rIxL K) (tVar 6) (tC (V.int 0))) (tC (V.int 1))) (tC V.non)) [some v, some vc, none, some v3, some v4, some (.int (mxN (counts t) : Nat)), some v6, none, none, none] G6 (leastB t) := by
        by_cases hne : onesB t = []
        · have hsn : srt t = [] := by
            unfold srt
            rw [hne]
            simp
          have hl : leastB t = .none := by
            unfold leastB
            rw [if_pos hne]
          rw [hl]
          exact d_if hc6 (fun z => by rw [hsn] at z; simp at z) fun _ => e_non.D
        · obtain ⟨l, r, hs, hl⟩ := least_eq hne
          rw [hl]
          refine d_if hc6 (fun _ => ?_) fun z => by rw [hs] at z; simp at z
          rw [hs] at h6
          exact d_ixT (K := K) (i := 1) (e_ixL (K := K) (ta := tVar 6) (d := lenD l) (e_var rfl h6) (e_int 0) (at_zero rfl)).D (e_int 1).D rfl
      have hsl : Sh 2 (leastB t) := by
        by_cases hne : onesB t = []
        · have hl : leastB t = .none := by
            unfold leastB
            rw [if_pos hne]
          rw [hl]
          exact sh_none.mono (by decide)
        · obtain ⟨l, r, hs, hl⟩ := least_eq hne
          rw [hl]
          exact (sh_tupN l).mono (by decide)
      have hee : PyData.eqv (leastB t) (leastB t) = true := by
        by_cases hne : onesB t = []
        · have hl : leastB t = .none := by
            unfold leastB
            rw [if_pos hne]
          rw [hl]
          simp [PyData.eqv]
        · obtain ⟨l, r, hs, hl⟩ := least_eq hne
          rw [hl, eqv_tupN]
          simp
      have hE := d_eqD (m := mT P q) (K := K) hX hI hsl.ok hsl.ok
      exact s_ret w6 (hE.is (by rw [hee])) fun v' G7 H7 s7 hv' => by
        cases hv'
        exact hQ G7 H7 (st6.trans w0 s7)
end R45
end
section
set_option Elab.async false
set_option linter.all false
set_option maxRecDepth 100000
set_option maxHeartbeats 2000000
/-! mathematics 6: the tables that the law names. -/
namespace R45
open PySem PySem.Spec PyProof.Rows L2 Evl
theorem lotLe_eq (a b : List Nat) : lotLe a b = !decide (intsN b < intsN a) := by
  unfold lotLe
  rw [PySem.W.dataLe_eq]
  show (!PySem.W.dataLt (tupN b) (tupN a)) = _
  rw [lt_tupN]
theorem sorted_one {α : Type} {le : α → α → Bool} (anti : ∀ a b, le a b = true → le b a = true → a = b) : ∀ {l m : List α}, l.Pairwise (fun a b => le a b = true) → m.Pairwise (fun a b => le a b = true) → l.Perm m → l = m
  | [], m, _, _, p => (List.Perm.nil_eq p)
  | a :: l, [], _, _, p => by
    have := p.length_eq
    simp at this
  | a :: l, b :: m, h1, h2, p => by
    rw [List.pairwise_cons] at h1 h2
    have e : a = b := by
      rcases List.mem_cons.mp (p.mem_iff.mp List.mem_cons_self) with e | e
      · exact e
      · rcases List.mem_cons.mp (p.mem_iff.mpr List.mem_cons_self) with e2 | e2
        · exact e2.symm
        · exact anti _ _ (h1.1 b e2) (h2.1 a e)
    subst e
    rw [sorted_one anti h1.2 h2.2 (List.Perm.cons_inv p)]
theorem lots_is {n : Nat} {l : List (List Nat)} (hp : (subs n).isPerm l = true) (hs : l.Pairwise fun a b => ¬ intsN b < intsN a) : lots n = l := by
  refine sorted_one (fun a b => lotLe_anti) (PySem.W.sort_pairwise (PySem.W.sortLe_total _ _ _) _) (List.Pairwise.imp (fun {a b} h => ?_) hs) ((List.mergeSort_perm _ _).trans (List.isPerm_iff.mp hp))
  rw [lotLe_eq, decide_eq_false h]
  rfl
theorem lots1 : lots 1 = [[], [0]] := lots_is (by decide) (by decide)
theorem lots2 : lots 2 = [[], [0], [0, 1], [1]] := lots_is (by decide) (by decide)
theorem lots3 : lots 3 = [[], [0], [0, 1], [0, 1, 2], [0, 2], [1], [1, 2], [2]] := lots_is (by decide) (by decide)
theorem lots4 : lots 4 = [[], [0], [0, 1], [0, 1, 2], [0, 1, 2, 3], [0, 1, 3], [0, 2], [0, 2, 3], [0, 3], [1], [1, 2], [1, 2, 3], [1, 3], [2], [2, 3], [3]] := lots_is (by decide +kernel) (by decide +kernel)
def ring8 : Tab := (List.range 8).map fun i => ((i + 1) % 8, (i + 5) % 8)
def id13 : Tab := (List.range 13).map fun i => (i, i)
def ring26 : Tab := (List.range 26).map fun i => ((i + 1) % 26, (i + 14) % 26)
def two2 : Tab := [(0, 0), (1, 1)]
def rows5 : List Tab := [[(0, 0)], two2, [(1, 2), (2, 0), (0, 1)], [(1, 1), (0, 0), (3, 2), (2, 3)], [(0, 1), (1, 2), (2, 0)]]
def plB (n : Nat) (l : List Nat) : Bool := decide (l.length = n) && (decide l.Nodup && l.all fun x => decide (x < n))
theorem plB_ok {n : Nat} {l : List Nat} (h : plB n l = true) : PL n l := by
  unfold plB at h
  rw [Bool.and_eq_true, Bool.and_eq_true, List.all_eq_true] at h
  exact ⟨of_decide_eq_true h.1, of_decide_eq_true h.2.1, fun x hx => of_decide_eq_true (h.2.2 x hx)⟩
def validB (t : Tab) : Bool := decide (1 ≤ t.length) && (decide (t.length ≤ 720) && (plB t.length (t.map (·.1)) && plB t.length (t.map (·.2))))
theorem validB_ok {t : Tab} (h : validB t = true) : Valid t := by
  unfold validB at h
  rw [Bool.and_eq_true, Bool.and_eq_true, Bool.and_eq_true] at h
  have g : ∀ (f : Nat × Nat → Nat) i, i < t.length → f (t.getD i (0, 0)) = (t.map f).getD i 0 := fun f i hi => by
    rw [List.getD_eq_getElem?_getD, List.getD_eq_getElem?_getD, List.getElem?_map, List.getElem?_eq_getElem hi]
    rfl
  exact ⟨of_decide_eq_true h.1, of_decide_eq_true h.2.1, (plB_ok h.2.2.1).permF.congr fun i hi => g (·.1) i hi, (plB_ok h.2.2.2).permF.congr fun i hi => g (·.2) i hi⟩
theorem v3 : Valid tab3 := validB_ok (by decide)
theorem v6 : Valid tab6 := validB_ok (by decide)
theorem v8 : Valid ring8 := validB_ok (by decide)
theorem v13 : Valid id13 := validB_ok (by decide +kernel)
theorem v26 : Valid ring26 := validB_ok (by decide +kernel)
theorem v2 : Valid two2 := validB_ok (by decide)
theorem vRows : ∀ t ∈ rows5, Valid t := fun t ht => validB_ok (by
  have : rows5.all validB = true := by decide
  exact List.all_eq_true.mp this t ht)
theorem cl3 : (cls tab3).length = 3 := by decide +kernel
theorem cl6 : (cls tab6).length = 1 := by decide +kernel
theorem cl8 : (cls ring8).length = 4 := by decide +kernel
theorem cl2 : (cls two2).length = 2 := by decide +kernel
theorem ones3 : onesB tab3 = [[0], [1], [2]] := by
  unfold onesB
  rw [cl3, lots3]
  decide +kernel
theorem by3 : byB tab3 = [3, 4, 1] := by
  unfold byB counts
  rw [cl3, lots3]
  decide +kernel
theorem least3 : leastB tab3 = tupN [0] := by
  unfold leastB
  rw [ones3]
  rfl
theorem ones6 : onesB tab6 = [] := by
  unfold onesB
  rw [cl6, lots1]
  decide +kernel
theorem by6 : byB tab6 = [0, 1, 1] := by
  unfold byB counts
  rw [cl6, lots1]
  decide +kernel
theorem least6 : leastB tab6 = .none := by
  unfold leastB
  rw [ones6]
  rfl
theorem by8 : byB ring8 = [8, 8] := by
  unfold byB counts
  rw [cl8, lots4]
  decide +kernel
theorem ones8 : ∃ r, onesB ring8 = [] :: r := by
  unfold onesB
  rw [cl8, lots4]
  exact ⟨_, rfl⟩
theorem least8 : leastB ring8 = tupN [] := by
  obtain ⟨r, hr⟩ := ones8
  have hm : mnN ((onesB ring8).map List.length) = 0 := (mn_eq (m := 0) (by rw [hr]; exact List.mem_cons_self) fun y _ => Nat.zero_le y).symm
  unfold leastB
  rw [if_neg (by rw [hr]; simp), hm, hr, List.filter_cons_of_pos (by simp)]
theorem by2 : byB two2 = [0, 4] := by
  unfold byB counts
  rw [cl2, lots2]
  decide +kernel
theorem odd_no : ∀ d ∈ odds, twoD d = false := fun d hd => by
  have : odds.all (fun d => !twoD d) = true := by decide +kernel
  simpa using List.all_eq_true.mp this d hd
end R45
end
section
set_option Elab.async false
set_option linter.all false
set_option maxRecDepth 100000
set_option maxHeartbeats 4000000
namespace R45
open PySem PySem.Spec PyProof.Rows L2 Evl LamX
section
variable {m : Mode} {σ : L2.St} {G G' H : Hp} {te ta tb tc tl : TE} {tt tu : TT} {d d' : PyData} {v : V} {K : PySem.W.Frag} {ds es : List PyData} {CT CL CP CO CM P : Addr} {q : Str} {mg : Str → Option Value} {P0 : V → Hp → Prop}
theorem c_callCS {c : Addr} {A : Addr → List V → Hp → (V → Hp → Prop) → Prop} {E : XK} {t : TA} {Pa : List V → Hp → Prop} (u : Sub (mC c) m) (ha : Cmp m G (t σ) Pa) (hp : ∀ vs G1, Ex G G1 → Pa vs G1 → ∀ G2, Ex G1 G2 → A c vs G2 P0) : Cmp m G (tCall (spC A) [] E t σ) P0 :=
  Cmp.bind (f := t σ) (g := fun (vs : List V) (H1 : Hp) (Q : VK) => spC A (vs ++ []) H1 Q E) ha fun vs G1 e h G2 H e2 w Q k => by
    rw [List.append_nil]
    exact ⟨c, G2, P0, u.w w, hp vs G1 e h G2 e2, fun v G' H' s p => k v G' H' (u.stp w s) p⟩
theorem c_right {t : Tab} {E : XK} (u : Sub (mT P q) m) (hv : Valid t) (h : EvD m ta σ G (tabD t)) : EvD m (tCall (sp__law_right P q) [] E (tCons ta tNil)) σ G (.bool true) :=
  Cmp.bind (f := ta σ) (g := fun (v : V) (H : Hp) (Q : VK) => sp__law_right P q [v] H Q E) h fun v G1 e hd G2 H e2 w Q k =>
    ⟨G2, v, t, u.w w, rfl, hd.mono e2, hv, fun G' H' s => k _ G' H' (u.stp w s) (.bl true)⟩
theorem d_isNot : EvD m te σ G .none → EvD m (tOp (fun x y H Q => y = V.non ∧ Q (V.bl !decide (x = V.non)) H) te (tC V.non)) σ G (.bool false) := fun h =>
  Cmp.bind (f := te σ) (g := fun (x : V) (H : Hp) (Q : VK) => V.non = V.non ∧ Q (V.bl !decide (x = V.non)) H) h fun x G1 e hx G2 H e2 w Q k => by
    cases hx
    exact ⟨rfl, by
      have : (!decide (V.non = V.non)) = false := by simp
      rw [this]
      exact k _ _ _ (Stp.refl w) (.bl false)⟩
theorem t_notRight (h : EvD m te σ G (.bool true)) : EvT m (tNot (tB te)) σ G false := (t_not (t_val h)).is rfl
/-- a block that is not gone -/
theorem q_off {D : Ends} {tz t1 : TS} (w : W m G H) (h : EvT m tt σ G false) (k : ∀ G' H', Stp m G H G' H' → tz D σ H') : tSeq (tIfS tt t1 tNext) tz D σ H :=
  q_when w h (fun z => by cases z) fun _ G' H' s => k G' H' s
theorem t_or0 (h1 : EvT m tt σ G false) (h2 : EvT m tu σ G false) : EvT m (tOr tt tu) σ G false := (t_or h1 fun _ => h2).is rfl
theorem t_ne {d : PyData} (h1 : EvD m ta σ G d) (h2 : EvD m tb σ G d) (hs : SeqAt.shaped d = true) (he : PyData.eqv d d = true) : EvT m (tTest (tOp (rNeD K) ta tb)) σ G false :=
  t_test ((d_neD h1 h2 hs hs).is (by rw [he]; rfl))
end
theorem eq_tupN (l : List Nat) : PyData.eqv (tupN l) (tupN l) = true := by rw [eqv_tupN]; simp
theorem eq_lstN (l : List Nat) : PyData.eqv (lstN l) (lstN l) = true := by rw [eqv_lstN]; simp
theorem eq_lstT (l : List (List Nat)) : PyData.eqv (lstT l) (lstT l) = true := by rw [eqv_lstT]; simp
/-! ### law -/
def sp_law (K : PySem.W.Frag) (PR : Addr) (qR : Str) (PL : Addr) (qL : Str) : Sp := fun vs H Q _ => ∃ (a : Addr) (ns : List Int), vs = [.ref a] ∧ SqL K H a (ns.map V.int) ∧ ns.length ≤ 1000 ∧ TabS H PR qR ∧ TabS H PL qL ∧ PR ≠ PL ∧ ∀ H', Q (.bl true) H'
theorem len_law {K : PySem.W.Frag} {PR PL : Addr} {qR qL : Str} (vs : List V) (H : Hp) (Q : VK) (E : XK) (h : sp_law K PR qR PL qL vs H Q E) : vs.length = (["_law_script"] : List String).length := by
  obtain ⟨a, ns, rfl, _⟩ := h
  rfl
theorem rd_law {K : PySem.W.Frag} {mg : Str → Option Value} {CT CL CP CO CM PR PL P : Addr} {qR qL q : Str} (hP : P = PL) (hq : q = qL) (xw : Xw K mg CT CL CP CO CM) {vs : List V} {H : Hp} {Q : VK} {E : XK} (h : sp_law K PR qR PL qL vs H Q E) :
  (tSeq (tAsg (tCall (sp__law_cup K) [] C8.E0 (tCons (tVar 0) tNil)) (gName 1)) (tSeq (tFor (iRng1 (tCons (tC (V.int 3)) tNil)) (gName 2) (tSeq (tAsg (tCall sp__law_any [] C8.E0 (tCons (tVar 1) (tCons (tC (V.int 9)) tNil))) (gName 3)) (tIfS (tAnd (tTest (tOp (rI0 fun i j => V.bl (decide (i ≤ j))) (tCB (rLenS K) (tCons (tCall sp__law_classes [] C8.E0 (tCons (tVar 3) (tCons (tC (V.int 0)) (tCons (tC (V.int 1)) tNil)))) tNil)) (tC (V.int 7)))) (tNot (tB (tCall (sp__law_right PR qR) [] C8.E0 (tCons (tVar 3) tNil))))) (tRet (tC (V.bl false))) tNext))) (tSeq (tPar 4 5 (tCons (tCall sp__law_three [] C8.E0 tNil) (tCons (tCall sp__law_six [] C8.E0 tNil) tNil))) (tSeq (tIfS (tOr (tTest (tOp (rNeD K) (tCall (sp_one_block_lots CT CM) [] C8.E0 (tCons (tVar 4) tNil)) (tLst (tCons (tTup (tCons (tC (V.int 0)) tNil)) (tCons (tTup (tCons (tC (V.int 1)) tNil)) (tCons (tTup (tCons (tC (V.int 2)) tNil)) tNil)))))) (tOr (tTest (tOp (rNeD K) (tCall (sp_lots_by_blocks CT CM) [] C8.E0 (tCons (tVar 4) tNil)) (tLst (tCons (tC (V.int 3)) (tCons (tC (V.int 4)) (tCons (tC (V.int 1)) tNil)))))) (tTest (tOp (rNeD K) (tCall (sp_least_lot CT CM) [] C8.E0 (tCons (tVar 4) tNil)) (tTup (tCons (tC (V.int 0)) tNil)))))) (tRet (tC (V.bl false))) tNext) (tSeq (tIfS (tOr (tTest (tOp (rNeD K) (tCall (sp_one_block_lots CT CM) [] C8.E0 (tCons (tVar 5) tNil)) (tLst tNil))) (tOr (tTest (tOp (rNeD K) (tCall (sp_lots_by_blocks CT CM) [] C8.E0 (tCons (tVar 5) tNil)) (tLst (tCons (tC (V.int 0)) (tCons (tC (V.int 1)) (tCons (tC (V.int 1)) tNil)))))) (tTest (tOp (fun x y H Q => y = V.non ∧ Q (V.bl !decide (x = V.non)) H) (tCall (sp_least_lot CT CM) [] C8.E0 (tCons (tVar 5) tNil)) (tC V.non))))) (tRet (tC (V.bl false))) tNext) (tSeq (tAsg (tThen (tLc (iRng1 (tCons (tC (V.int 8)) tNil)) (gName 10) tYes (tTup (tCons (tOp (rI (fun x j => 0 < j) fun i j => V.int (i % j)) (tOp (rI0 fun i j => V.int (i + j)) (tVar 10) (tC (V.int 1))) (tC (V.int 8))) (tCons (tOp (rI (fun x j => 0 < j) fun i j => V.int (i % j)) (tOp (rI0 fun i j => V.int (i + j)) (tVar 10) (tC (V.int 5))) (tC (V.int 8))) tNil))) [10]) (kTup K)) (gName 6)) (tSeq (tIfS (tOr (tTest (tOp (rNeD K) (tCall (sp_least_lot CT CM) [] C8.E0 (tCons (tVar 6) tNil)) (tTup tNil))) (tOr (tTest (tOp (rNeD K) (tCall (sp_lots_by_blocks CT CM) [] C8.E0 (tCons (tVar 6) tNil)) (tLst (tCons (tC (V.int 8)) (tCons (tC (V.int 8)) tNil))))) (tNot (tB (tCall (sp__law_right PR qR) [] C8.E0 (tCons (tVar 6) tNil)))))) (tRet (tC (V.bl false))) tNext) (tSeq (tAsg (tLst (tCons (tTup (tCons (tTup (tCons (tC (V.int 0)) (tCons (tC (V.int 0)) tNil))) tNil)) (tCons (tTup (tCons (tTup (tCons (tC (V.int 0)) (tCons (tC (V.int 0)) tNil))) (tCons (tTup (tCons (tC (V.int 1)) (tCons (tC (V.int 1)) tNil))) tNil))) (tCons (tTup (tCons (tTup (tCons (tC (V.int 1)) (tCons (tC (V.int 2)) tNil))) (tCons (tTup (tCons (tC (V.int 2)) (tCons (tC (V.int 0)) tNil))) (tCons (tTup (tCons (tC (V.int 0)) (tCons (tC (V.int 1)) tNil))) tNil)))) (tCons (tTup (tCons (tTup (tCons (tC (V.int 1)) (tCons (tC (V.int 1)) tNil))) (tCons (tTup (tCons (tC (V.int 0)) (tCons (tC (V.int 0)) tNil))) (tCons (tTup (tCons (tC (V.int 3)) (tCons (tC (V.int 2)) tNil))) (tCons (tTup (tCons (tC (V.int 2)) (tCons (tC (V.int 3)) tNil))) tNil))))) (tCons (tTup (tCons (tTup (tCons (tC (V.int 0)) (tCons (tC (V.int 1)) tNil))) (tCons (tTup (tCons (tC (V.int 1)) (tCons (tC (V.int 2)) tNil))) (tCons (tTup (tCons (tC (V.int 2)) (tCons (tC (V.int 0)) tNil))) tNil)))) tNil)))))) (gName 7)) (tSeq (tIfS (tOr (tTest (tOp (rNeD K) (tLc (iList K (tVar 7)) (gName 3) (tNot (tB (tCall (sp__law_right PR qR) [] C8.E0 (tCons (tVar 3) tNil)))) (tVar 3) [3]) (tLst tNil))) (tTest (tOp (rNeD K) (tCall (sp_lots_by_blocks CT CM) [] C8.E0 (tCons (tTup (tCons (tTup (tCons (tC (V.int 0)) (tCons (tC (V.int 0)) tNil))) (tCons (tTup (tCons (tC (V.int 1)) (tCons (tC (V.int 1)) tNil))) tNil))) tNil)) (tLst (tCons (tC (V.int 0)) (tCons (tC (V.int 4)) tNil)))))) (tRet (tC (V.bl false))) tNext) (tSeq (tIfS (tOr (tNot (tB (tCall (sp__law_right PR qR) [] C8.E0 (tCons (tThen (tLc (iRng1 (tCons (tC (V.int 13)) tNil)) (gName 10) tYes (tTup (tCons (tVar 10) (tCons (tVar 10) tNil))) [10]) (kTup K)) tNil)))) (tNot (tB (tCall (sp__law_right PR qR) [] C8.E0 (tCons (tThen (tLc (iRng1 (tCons (tC (V.int 26)) tNil)) (gName 10) tYes (tTup (tCons (tOp (rI (fun x j => 0 < j) fun i j => V.int (i % j)) (tOp (rI0 fun i j => V.int (i + j)) (tVar 10) (tC (V.int 1))) (tC (V.int 26))) (tCons (tOp (rI (fun x j => 0 < j) fun i j => V.int (i % j)) (tOp (rI0 fun i j => V.int (i + j)) (tVar 10) (tC (V.int 14))) (tC (V.int 26))) tNil))) [10]) (kTup K)) tNil))))) (tRet (tC (V.bl false))) tNext) (tSeq (tFor (iList K (tCall sp__law_odd_tables [] C8.E0 tNil)) (gName 8) (tSeq (tAsg (tLst (tCons (tLam3 P [(P, q)] (TW K CT CL CP CO CM) fun E => tCall (sp_one_block_lots CT CM) [] E (tCons (tVar 8) tNil)) tNil)) (gName 9)) (tSeq (tDrop (tBM K "list" rAppend (tVar 9) (tCons (tLam3 P [(P, q)] (TW K CT CL CP CO CM) fun E => tCall (sp_lots_by_blocks CT CM) [] E (tCons (tVar 8) tNil)) tNil))) (tIfS (tTest (tOp (rNeD K) (tOp rCat (tVar 9) (tLst (tCons (tLam3 P [(P, q)] (TW K CT CL CP CO CM) fun E => tCall (sp_least_lot CT CM) [] E (tCons (tVar 8) tNil)) tNil))) (tOp rRep (tLst (tCons (tC (V.str (Str.ofString "table"))) tNil)) (tC (V.int 3))))) (tRet (tC (V.bl false))) tNext)))) (tRet (tC (V.bl true))))))))))))))
    { nx := fun x H' => Q V.non H', rt := Q } (L2.start ["_law_script", "_law_cup_here", "_law_turn_here", "_law_table_here", "_law_three_here", "_law_six_here", "_law_ring", "_law_rows", "_law_odd", "_law_words", "_law_at"] vs) H := by
  subst hP
  subst hq
  obtain ⟨a, ns, rfl, hs, hn, tR, tL, hne, hQ⟩ := h
  have hfl : ∀ {α : Type} (l : List α), (l.filter fun _ => true) = l := fun l => List.filter_eq_self.mpr fun _ _ => rfl
  -- what is known at first: all but the tables
  obtain ⟨psR, eR, _⟩ := id tR
  obtain ⟨psL, eL, _⟩ := id tL
  let G0 : Hp := fun b => if b = PR ∨ b = P then none else H b
  have g0 : ∀ b u, G0 b = some u → H b = some u := fun b u e => by
    have e' : (if b = PR ∨ b = P then none else H b) = some u := e
    by_cases z : b = PR ∨ b = P
    · rw [if_pos z] at e'
      cases e'
    · rw [if_neg z] at e'
      exact e'
  have gR : G0 PR = none := if_pos (.inl rfl)
  have gL : G0 P = none := if_pos (.inr rfl)
  have hs0 : SqL K G0 a (ns.map V.int) := by
    have key : ∀ u, H a = some u → (∀ ps, u ≠ .tbl ps) → G0 a = some u := fun u e n => by
      have : ¬ (a = PR ∨ a = P) := fun z => by
        rcases z with z | z
        · rw [z, eR] at e
          exact n _ (Option.some.inj e).symm
        · rw [z, eL] at e
          exact n _ (Option.some.inj e).symm
      show (if a = PR ∨ a = P then none else H a) = some u
      rw [if_neg this]
      exact e
    rcases hs with (h | ⟨o, h⟩) | h
    · exact .inl (.inl (key _ h fun ps z => by cases z))
    · exact .inl (.inr ⟨o, key _ h fun ps z => by cases z⟩)
    · exact .inr h
  have w0 : W m0 G0 H := ⟨fun b u e => g0 b u e, trivial, fun _ z => z.elim⟩
  refine ⟨.ref a, rfl, G0, fun v' G' => ∃ x y : Int, (0 ≤ x ∧ 0 ≤ y ∧ y < 4294967296) ∧ NewL G0 [.int x, .int y] v' G', w0, ⟨a, ns, rfl, hs0, hn, fun x y h1 h2 h3 v' G' h => ⟨x, y, ⟨h1, h2, h3⟩, h⟩⟩, fun v1 G1 H1 s1 ⟨x, y, ⟨hx0, hy0, hy1⟩, c, xs, e1, e2, e3, e4⟩ => ?_⟩
  subst e1
  obtain ⟨s1', hc1, hc0⟩ := s1.untell w0 e2 e3 (fun _ z => nomatch z)
  obtain ⟨vx, vy, rfl, hvx, hvy⟩ := e4.two_inv
  cases hvx
  cases hvy
  have tR1 : TabS H1 PR qR := tR.ext s1.all
  have tL1 : TabS H1 P q := tL.ext s1.all
  have w1 : W (mL c PR qR P q) (delG G1 c) H1 := by
    refine ⟨s1'.le, ⟨⟨x, y, hc1, hx0, hy0, hy1⟩, tR1, tL1⟩, fun b hb => ?_⟩
    rcases hb with hb | hb | hb
    · rw [hb]
      exact delG_same
    · rw [hb, s1'.old PR _ eR (fun _ z => nomatch z)]
      exact gR
    · rw [hb, s1'.old P _ eL (fun _ z => nomatch z)]
      exact gL
  clear s1' s1 e2 e3 e4 tR1 tL1
  generalize delG G1 c = G1 at w1
  have uC : Sub (mC c) (mL c PR qR P q) := subC
  have uR : Sub (mT PR qR) (mL c PR qR P q) := subT1 hne
  have uL : Sub (mT P q) (mL c PR qR P q) := subT2 hne
  -- three drawn tables
  refine q_for w1 (i_rngN (n := 3) (e_int 3).D (by omega)) (fun i G' σ' H' => ∃ o2 o3, W (mL c PR qR P q) G' H' ∧ σ' = [some (.ref a), some (.ref c), o2, o3, none, none, none, none, none, none, none])
    (fun i G' σ' H' ⟨_, _, w, _⟩ => w) (fun G3 H3 s3 => ⟨none, none, s3.w w1, rfl⟩) (fun i d x G' σ' H' hd eG hI Gx Hx sx hx => ?_) (fun G' σ' H' eG hI => ?_)
  · obtain ⟨o2, o3, w', rfl⟩ := hI
    have wx := sx.w w'
    refine q_asg (m := mL c PR qR P q) (P := fun v' G' => ∃ t, Valid t ∧ t.length ≤ 9 ∧ Dt G' v' (tabD t)) wx (c_callCS uC (am_v (n_var (v := .ref c) rfl) (am_d (e_int 9).D am_nil)) fun vs G1 e1 has G2 e2 => ?_) fun vt G2 H2 s2 ⟨t, ht, htl, hvt⟩ => ?_
    · obtain ⟨x, y, rfl, h1, h2⟩ := has.two
      cases h1
      cases h2
      exact ⟨rfl, fun t ht htl v' G' hv => ⟨t, ht, htl, hv⟩⟩
    have w2 := s2.w wx
    refine s_if (b := decide (((cls t).length : Int) ≤ 7) && false) w2 (t_and (t_test (d_cmpI (g := fun i j => decide (i ≤ j)) (d_lenLM (K := K) (enc := tupN) (c_law_classes ht (e_var (i := 3) rfl hvt).D)) (e_int 7).D)) fun _ => t_notRight (c_right uR ht (e_var (i := 3) rfl hvt).D)) (fun z => by rw [Bool.and_false] at z; cases z) (fun _ G3 H3 s3 => ?_)
    exact ⟨G3, sx.ex.trans (s2.ex.trans s3.ex), some x, some vt, s3.w w2, rfl⟩
  obtain ⟨o2, o3, w2, rfl⟩ := hI
  clear w1 w0
  -- the tables of three and five bells
  have hA : EvA (mL c PR qR P q) (tCons (tCall sp__law_three [] C8.E0 tNil) (tCons (tCall sp__law_six [] C8.E0 tNil) tNil)) [some (.ref a), some (.ref c), o2, o3, none, none, none, none, none, none, none] G' [tabD tab3, tabD tab6] :=
    a_cons (c_call (P := fun v' G' => Dt G' v' (tabD tab3)) am_nil fun vs G1 e1 has G2 e2 => by
      match vs, has with
      | [], _ => exact ⟨rfl, fun _ _ h => h⟩) (EvA.one (c_call (P := fun v' G' => Dt G' v' (tabD tab6)) am_nil fun vs G1 e1 has G2 e2 => by
      match vs, has with
      | [], _ => exact ⟨rfl, fun _ _ h => h⟩))
  refine q_par w2 hA fun v4 v5 G3 H3 s3 h4 h5 => ?_
  have w3 := s3.w w2
  have X : ∀ {R : Tab → V → Hp → Prop} {t : Tab} {σ : L2.St} {G : Hp} {ta : TE}, Valid t → (cls t).length ≤ 12 → EvD (mL c PR qR P q) ta σ G (tabD t) → Cmp (mL c PR qR P q) G (tCall (spX CT CM R) [] C8.E0 (tCons ta tNil) σ) (R t) := fun hv h12 h => c_X hv h12 h
  have hO3 : ∀ {G : Hp} {σ : L2.St} {ta : TE}, EvD (mL c PR qR P q) ta σ G (tabD tab3) → EvD (mL c PR qR P q) (tCall (sp_one_block_lots CT CM) [] C8.E0 (tCons ta tNil)) σ G (lstT [[0], [1], [2]]) := fun h => by
    have := X (R := R_ones) v3 (by rw [cl3]; omega) h
    unfold R_ones at this
    rw [ones3] at this
    exact this
  have hB3 : ∀ {G : Hp} {σ : L2.St} {ta : TE}, EvD (mL c PR qR P q) ta σ G (tabD tab3) → EvD (mL c PR qR P q) (tCall (sp_lots_by_blocks CT CM) [] C8.E0 (tCons ta tNil)) σ G (lstN [3, 4, 1]) := fun h => by
    have := X (R := R_by) v3 (by rw [cl3]; omega) h
    unfold R_by at this
    rw [by3] at this
    exact this
  have hL3 : ∀ {G : Hp} {σ : L2.St} {ta : TE}, EvD (mL c PR qR P q) ta σ G (tabD tab3) → EvD (mL c PR qR P q) (tCall (sp_least_lot CT CM) [] C8.E0 (tCons ta tNil)) σ G (tupN [0]) := fun h => by
    have := X (R := R_least) v3 (by rw [cl3]; omega) h
    unfold R_least at this
    rw [least3] at this
    exact this
  refine q_off w3 (t_or0 (t_ne (hO3 (e_var rfl h4).D) (d_lit (d := lstT [[0], [1], [2]]) rfl) (sh_lstT _).ok (eq_lstT _)) (t_or0 (t_ne (hB3 (e_var rfl h4).D) (d_lit (d := lstN [3, 4, 1]) rfl) (sh_lstN _).ok (eq_lstN _)) (t_ne (hL3 (e_var rfl h4).D) (d_lit (d := tupN [0]) rfl) (sh_tupN _).ok (eq_tupN _)))) fun G4 H4 s4 => ?_
  have w4 := s4.w w3
  have h54 := h5.mono s4.ex
  have hO6 : ∀ {G : Hp} {σ : L2.St} {ta : TE}, EvD (mL c PR qR P q) ta σ G (tabD tab6) → EvD (mL c PR qR P q) (tCall (sp_one_block_lots CT CM) [] C8.E0 (tCons ta tNil)) σ G (lstT []) := fun h => by
    have := X (R := R_ones) v6 (by rw [cl6]; omega) h
    unfold R_ones at this
    rw [ones6] at this
    exact this
  have hB6 : ∀ {G : Hp} {σ : L2.St} {ta : TE}, EvD (mL c PR qR P q) ta σ G (tabD tab6) → EvD (mL c PR qR P q) (tCall (sp_lots_by_blocks CT CM) [] C8.E0 (tCons ta tNil)) σ G (lstN [0, 1, 1]) := fun h => by
    have := X (R := R_by) v6 (by rw [cl6]; omega) h
    unfold R_by at this
    rw [by6] at this
    exact this
  have hL6 : ∀ {G : Hp} {σ : L2.St} {ta : TE}, EvD (mL c PR qR P q) ta σ G (tabD tab6) → EvD (mL c PR qR P q) (tCall (sp_least_lot CT CM) [] C8.E0 (tCons ta tNil)) σ G .none := fun h => by
    have := X (R := R_least) v6 (by rw [cl6]; omega) h
    unfold R_least at this
    rw [least6] at this
    exact this
  refine q_off w4 (t_or0 (t_ne (hO6 (e_var rfl h54).D) (d_lit (d := lstT []) rfl) (sh_lstT _).ok (eq_lstT _)) (t_or0 (t_ne (hB6 (e_var rfl h54).D) (d_lit (d := lstN [0, 1, 1]) rfl) (sh_lstN _).ok (eq_lstN _)) (t_test (d_isNot (hL6 (e_var rfl h54).D))))) fun G5 H5 s5 => ?_
  have w5 := s5.w w4
  -- the ring of eight
  have mod_is : ∀ (i k n : Nat), 0 < n → ((i : Nat) : Int) + ((k : Nat) : Int) = ((i + k : Nat) : Int) := fun i k n _ => by omega
  have hR8 : EvD (mL c PR qR P q) (tThen (tLc (iRng1 (tCons (tC (V.int 8)) tNil)) (gName 10) tYes (tTup (tCons (tOp (rI (fun x j => 0 < j) fun i j => V.int (i % j)) (tOp (rI0 fun i j => V.int (i + j)) (tVar 10) (tC (V.int 1))) (tC (V.int 8))) (tCons (tOp (rI (fun x j => 0 < j) fun i j => V.int (i % j)) (tOp (rI0 fun i j => V.int (i + j)) (tVar 10) (tC (V.int 5))) (tC (V.int 8))) tNil))) [10]) (kTup K))
      [some (.ref a), some (.ref c), o2, o3, some v4, some v5, none, none, none, none, none] G5 (tabD ring8) := by
    have hL := d_lc1 (m := mL c PR qR P q) (G := G5) (σ := [some (.ref a), some (.ref c), o2, o3, some v4, some v5, none, none, none, none, none]) (tt := tYes) (te := tTup (tCons (tOp (rI (fun x j => 0 < j) fun i j => V.int (i % j)) (tOp (rI0 fun i j => V.int (i + j)) (tVar 10) (tC (V.int 1))) (tC (V.int 8))) (tCons (tOp (rI (fun x j => 0 < j) fun i j => V.int (i % j)) (tOp (rI0 fun i j => V.int (i + j)) (tVar 10) (tC (V.int 5))) (tC (V.int 8))) tNil))) (wi := iRng1 (tCons (tC (V.int 8)) tNil)) (j := 10)
      (xs := List.range 8) (enc := natD) (fun _ => true) (fun i => rowD ((i + 1) % 8, (i + 5) % 8)) (i_rngN (n := 8) (e_int 8).D (by omega)) (by simp) (fun x _ v G1 _ _ => t_yes) (fun i _ x G6 _ hx _ =>
        d_tup (a_cons ((e_mod (j := 8) (e_add (e_var rfl hx) (e_int 1)) (e_int 8) (by omega)).is (by congr 1)).D (EvA.one ((e_mod (j := 8) (e_add (e_var rfl hx) (e_int 5)) (e_int 8) (by omega)).is (by congr 1)).D)) (by simp))
    rw [hfl] at hL
    have e : (List.range 8).map (fun i => rowD ((i + 1) % 8, (i + 5) % 8)) = ring8.map rowD := by
      unfold ring8
      rw [List.map_map]
      rfl
    rw [e] at hL
    exact d_tupL hL
  refine q_asg w5 hR8 fun v6 G6 H6 s6 h6 => ?_
  have w6 := s6.w w5
  have hL8 : ∀ {G : Hp} {σ : L2.St} {ta : TE}, EvD (mL c PR qR P q) ta σ G (tabD ring8) → EvD (mL c PR qR P q) (tCall (sp_least_lot CT CM) [] C8.E0 (tCons ta tNil)) σ G (tupN []) := fun h => by
    have := X (R := R_least) v8 (by rw [cl8]; omega) h
    unfold R_least at this
    rw [least8] at this
    exact this
  have hB8 : ∀ {G : Hp} {σ : L2.St} {ta : TE}, EvD (mL c PR qR P q) ta σ G (tabD ring8) → EvD (mL c PR qR P q) (tCall (sp_lots_by_blocks CT CM) [] C8.E0 (tCons ta tNil)) σ G (lstN [8, 8]) := fun h => by
    have := X (R := R_by) v8 (by rw [cl8]; omega) h
    unfold R_by at this
    rw [by8] at this
    exact this
  refine q_off w6 (t_or0 (t_ne (hL8 (e_var rfl h6).D) (d_lit (d := tupN []) rfl) (sh_tupN _).ok (eq_tupN _)) (t_or0 (t_ne (hB8 (e_var rfl h6).D) (d_lit (d := lstN [8, 8]) rfl) (sh_lstN _).ok (eq_lstN _)) (t_notRight (c_right uR v8 (e_var (i := 6) rfl h6).D)))) fun G7 H7 s7 => ?_
  have w7 := s7.w w6
  -- small tables
  refine q_asg w7 (d_lit (d := .list (rows5.map tabD)) rfl) fun v7 G8 H8 s8 h7 => ?_
  have w8 := s8.w w7
  have hB2 : ∀ {G : Hp} {σ : L2.St} {ta : TE}, EvD (mL c PR qR P q) ta σ G (tabD two2) → EvD (mL c PR qR P q) (tCall (sp_lots_by_blocks CT CM) [] C8.E0 (tCons ta tNil)) σ G (lstN [0, 4]) := fun h => by
    have := X (R := R_by) v2 (by rw [cl2]; omega) h
    unfold R_by at this
    rw [by2] at this
    exact this
  have hC : EvD (mL c PR qR P q) (tLc (iList K (tVar 7)) (gName 3) (tNot (tB (tCall (sp__law_right PR qR) [] C8.E0 (tCons (tVar 3) tNil)))) (tVar 3) [3]) [some (.ref a), some (.ref c), o2, o3, some v4, some v5, some v6, some v7, none, none, none] G8 (lstT []) := by
    have := d_lc1 (m := mL c PR qR P q) (G := G8) (σ := [some (.ref a), some (.ref c), o2, o3, some v4, some v5, some v6, some v7, none, none, none]) (tt := tNot (tB (tCall (sp__law_right PR qR) [] C8.E0 (tCons (tVar 3) tNil)))) (te := tVar 3) (wi := iList K (tVar 7)) (j := 3)
      (xs := rows5) (enc := tabD) (fun _ => false) tabD (i_list (e_var rfl h7).D) (by simp [rows5]) (fun t ht x G9 _ hx => t_notRight (c_right uR (vRows t ht) (e_var (i := 3) rfl hx).D)) (fun t _ x G9 _ hx _ => (e_var rfl hx).D)
    have e : (rows5.filter fun _ => false) = [] := List.filter_eq_nil_iff.mpr fun _ _ => by simp
    rw [e] at this
    exact this
  refine q_off w8 (t_or0 (t_ne hC (d_lit (d := lstT []) rfl) (sh_lstT _).ok (eq_lstT _)) (t_ne (hB2 (d_lit (d := tabD two2) rfl)) (d_lit (d := lstN [0, 4]) rfl) (sh_lstN _).ok (eq_lstN _))) fun G9 H9 s9 => ?_
  have w9 := s9.w w8
  -- more classes than are gone through
  have hR13 : EvD (mL c PR qR P q) (tThen (tLc (iRng1 (tCons (tC (V.int 13)) tNil)) (gName 10) tYes (tTup (tCons (tVar 10) (tCons (tVar 10) tNil))) [10]) (kTup K)) [some (.ref a), some (.ref c), o2, o3, some v4, some v5, some v6, some v7, none, none, none] G9 (tabD id13) := by
    have hL := d_lc1 (m := mL c PR qR P q) (G := G9) (σ := [some (.ref a), some (.ref c), o2, o3, some v4, some v5, some v6, some v7, none, none, none]) (tt := tYes) (te := tTup (tCons (tVar 10) (tCons (tVar 10) tNil))) (wi := iRng1 (tCons (tC (V.int 13)) tNil)) (j := 10)
      (xs := List.range 13) (enc := natD) (fun _ => true) (fun i => rowD (i, i)) (i_rngN (n := 13) (e_int 13).D (by omega)) (by simp) (fun x _ v G1 _ _ => t_yes) (fun i _ x G6 _ hx _ =>
        d_tup (a_cons (e_var rfl hx).D (EvA.one (e_var rfl hx).D)) (by simp))
    rw [hfl] at hL
    have e : (List.range 13).map (fun i => rowD (i, i)) = id13.map rowD := by
      unfold id13
      rw [List.map_map]
      rfl
    rw [e] at hL
    exact d_tupL hL
  have hR26 : EvD (mL c PR qR P q) (tThen (tLc (iRng1 (tCons (tC (V.int 26)) tNil)) (gName 10) tYes (tTup (tCons (tOp (rI (fun x j => 0 < j) fun i j => V.int (i % j)) (tOp (rI0 fun i j => V.int (i + j)) (tVar 10) (tC (V.int 1))) (tC (V.int 26))) (tCons (tOp (rI (fun x j => 0 < j) fun i j => V.int (i % j)) (tOp (rI0 fun i j => V.int (i + j)) (tVar 10) (tC (V.int 14))) (tC (V.int 26))) tNil))) [10]) (kTup K))
      [some (.ref a), some (.ref c), o2, o3, some v4, some v5, some v6, some v7, none, none, none] G9 (tabD ring26) := by
    have hL := d_lc1 (m := mL c PR qR P q) (G := G9) (σ := [some (.ref a), some (.ref c), o2, o3, some v4, some v5, some v6, some v7, none, none, none]) (tt := tYes) (te := tTup (tCons (tOp (rI (fun x j => 0 < j) fun i j => V.int (i % j)) (tOp (rI0 fun i j => V.int (i + j)) (tVar 10) (tC (V.int 1))) (tC (V.int 26))) (tCons (tOp (rI (fun x j => 0 < j) fun i j => V.int (i % j)) (tOp (rI0 fun i j => V.int (i + j)) (tVar 10) (tC (V.int 14))) (tC (V.int 26))) tNil))) (wi := iRng1 (tCons (tC (V.int 26)) tNil)) (j := 10)
      (xs := List.range 26) (enc := natD) (fun _ => true) (fun i => rowD ((i + 1) % 26, (i + 14) % 26)) (i_rngN (n := 26) (e_int 26).D (by omega)) (by simp) (fun x _ v G1 _ _ => t_yes) (fun i _ x G6 _ hx _ =>
        d_tup (a_cons ((e_mod (j := 26) (e_add (e_var rfl hx) (e_int 1)) (e_int 26) (by omega)).is (by congr 1)).D (EvA.one ((e_mod (j := 26) (e_add (e_var rfl hx) (e_int 14)) (e_int 26) (by omega)).is (by congr 1)).D)) (by simp))
    rw [hfl] at hL
    have e : (List.range 26).map (fun i => rowD ((i + 1) % 26, (i + 14) % 26)) = ring26.map rowD := by
      unfold ring26
      rw [List.map_map]
      rfl
    rw [e] at hL
    exact d_tupL hL
  refine q_off w9 (t_or0 (t_notRight (c_right uR v13 hR13)) (t_notRight (c_right uR v26 hR26))) fun Ga Ha sa => ?_
  have wa := sa.w w9
  -- what is no table
  refine q_for wa (i_list (c_call (P := fun v' G' => Dt G' v' (.list odds)) am_nil fun vs G1 e1 has G2 e2 => by
      match vs, has with
      | [], _ => exact ⟨rfl, fun _ _ h => h⟩)) (fun i G' σ' H' => ∃ o8 o9, W (mL c PR qR P q) G' H' ∧ σ' = [some (.ref a), some (.ref c), o2, o3, some v4, some v5, some v6, some v7, o8, o9, none])
    (fun i G' σ' H' ⟨_, _, w, _⟩ => w) (fun G3 H3 s3 => ⟨none, none, s3.w wa, rfl⟩) (fun i d x G' σ' H' hd eG hI Gx Hx sx hx => ?_) (fun G' σ' H' eG hI => ?_)
  · obtain ⟨o8, o9, w', rfl⟩ := hI
    have wx := sx.w w'
    have htw := odd_no d (List.mem_of_getElem? hd)
    have hW : ∀ {R : Tab → V → Hp → Prop} {σ : L2.St} {G3 : Hp}, Ex Gx G3 → σ[8]? = some (some x) → EvD (mL c PR qR P q) (tLam3 P [(P, q)] (TW K CT CL CP CO CM) (fun E => tCall (spX CT CM R) [] E (tCons (tVar 8) tNil))) σ G3 (.str (Str.ofString "table")) := fun e hi =>
      c_word uL xw hi (hx.mono e) (.inl ⟨htw, rfl⟩)
    refine q_asgN (nw_lst (EvA.one (hW (R := R_ones) (Ex.refl _) rfl)) (by simp)) wx rfl fun l xs G3 H3 s3 hl gl h0 hxs => ?_
    have w3 := s3.w wx
    have ml : ¬ (mL c PR qR P q).M l := wx.newM h0
    obtain ⟨x0, rfl, hx0⟩ := hxs.one_inv
    refine q_app w3 ml gl hl rfl (hW (R := R_by) s3.ex rfl) (by simp) fun va G4 H4 s4 hva => ?_
    obtain ⟨hl4, gl4⟩ := s4.mine ml gl hl
    have st4 := s3.trans wx s4
    have st5 := st4.mut wx (o := .lst ([x0] ++ [va])) h0 gl4 (fun φ z => by rw [hl4] at z; cases z)
    have st6 := st5.tell h0 gl4 upd_same
    have w6 := st6.w wx
    have hl6 : Dt (upd G4 l (.lst ([x0] ++ [va]))) (.ref l) (.list [.str (Str.ofString "table"), .str (Str.ofString "table")]) := .lst upd_same (((Dts.cons (hx0.mono s4.ex) .nil).append (.cons hva .nil)).mono (Ex.new gl4))
    have hE := d_neD (m := mL c PR qR P q) (K := K) (σ := [some (.ref a), some (.ref c), o2, o3, some v4, some v5, some v6, some v7, some x, some (.ref l), none]) (d_cat (ta := tVar 9) (e_var rfl hl6).D (d_lst (EvA.one (hW (R := R_least) st6.ex rfl)) (by simp)) (by simp)) (d_rep (n := 3) (ta := tLst (tCons (tC (V.str (Str.ofString "table"))) tNil)) (d_lst (EvA.one (e_str (Str.ofString "table")).D) (by simp)) (e_int 3).D (by omega) (by simp))
      (show Sh 1 (.list ([Str.ofString "table", Str.ofString "table", Str.ofString "table"].map PyData.str)) from sh_strs (by decide +kernel)).ok (show Sh 1 (.list ([Str.ofString "table", Str.ofString "table", Str.ofString "table"].map PyData.str)) from sh_strs (by decide +kernel)).ok
    have e6 : PyData.eqv (.list ([.str (Str.ofString "table"), .str (Str.ofString "table")] ++ [.str (Str.ofString "table")])) (.list (List.replicate (3 : Int).toNat [.str (Str.ofString "table")]).flatten) = true := eqv_self (.list [.str (Str.ofString "table"), .str (Str.ofString "table"), .str (Str.ofString "table")]) rfl
    refine s_if (b := false) w6 (t_test (hE.is (by rw [e6]; rfl))) (fun z => by cases z) (fun _ G7 H7 s7 => ?_)
    exact ⟨G7, sx.ex.trans (st6.ex.trans s7.ex), _, _, s7.w w6, rfl⟩
  · obtain ⟨o8, o9, w', rfl⟩ := hI
    exact s_ret w' (e_bl true).D fun v' G7 H7 s7 hv' => by
      cases hv'
      exact hQ H7
end R45
end
section
set_option Elab.async false
set_option linter.all false
set_option maxRecDepth 100000
set_option maxHeartbeats 4000000
/-! each def keeps its promise. -/
namespace R45
open PySem PySem.Spec PyProof.Rows L2 Evl LamX
/-- a def of the top, with its code object -/
def DefT (K : PySem.W.Frag) (mg : Str → Option Value) (d : He.DefD) (c : Addr) : Prop := ∃ f fd, FunD K d.name d.qual d.params d.body d.scope [] [] f fd ∧ mg d.name = some (.ref f) ∧ fd.code = .ref c
section
variable {P : Program} {w : World} {K : PySem.W.Frag} {mg : Str → Option Value} {base : Heap}
theorem DefT.fn {d : He.DefD} {c : Addr} (D : DefT K mg d c) {N ps : List Str} {k : Nat} {sp : Sp} (S : FnScope N ps d.scope)
    (hb : ∀ (kV doc pm : Value) (an : Option Addr) (cdv ct : Value) (us : List Value), us.length = ps.length → bindArgs (PySem.W.fnOf d.name d.qual d.params d.body d.scope .none kV doc pm an cdv ct) ⟨us, []⟩ = pure (ps.zip us))
    (len : ∀ vs H Q E, sp vs H Q E → vs.length = ps.length)
    (body : ∀ (f : Addr) (A : Around) (outer : List Env) (s : Shared) (H : Hp) (vs : List V) (Q : VK) (E : XK), Room k (A.deeper (envOfC d.qual d.scope s.heap.objs.size f (.ref c))) → sp vs H Q E →
      ∃ t, PSs (cxOf C8.CX0 P w K mg base N d.qual d.scope f (.ref c) A outer s H E).nox d.body t ∧ t { nx := fun _ H' => Q .non H', rt := Q } (L2.start N vs) H) : ∃ f fd, mg d.name = some (.ref f) ∧ Binds K fd ps [] ∧ FnOk P w K mg base C8.CX0 (k + 1) f fd ps sp := by
  obtain ⟨f, fd, F, hm, hc⟩ := D
  have b := F.bindsN hb
  obtain ⟨oc, od, dV, kV, doc, pm, an, cdv, ct, osl, rfl, lk, hcd, _, _⟩ := F.ex
  have e : cdv = .ref c := hc
  subst e
  refine ⟨f, _, hm, b, fn_of lk hcd S len fun A outer s H vs Q E hr h => ?_⟩
  obtain ⟨t, h1, h2⟩ := body f A outer s H vs Q E hr h
  exact ⟨t, h1.nox, h2⟩
structure DefTA (K : PySem.W.Frag) (d : He.DefD) (f : Addr) (fd : FuncData) (c : Addr) : Prop where
  F : FunD K d.name d.qual d.params d.body d.scope [] [] f fd
  code : fd.code = .ref c
theorem DefTA.fn {d : He.DefD} {f c : Addr} {fd : FuncData} (D : DefTA K d f fd c) {N ps : List Str} {k : Nat} {sp : Sp} (S : FnScope N ps d.scope)
    (hb : ∀ (kV doc pm : Value) (an : Option Addr) (cdv ct : Value) (us : List Value), us.length = ps.length → bindArgs (PySem.W.fnOf d.name d.qual d.params d.body d.scope .none kV doc pm an cdv ct) ⟨us, []⟩ = pure (ps.zip us))
    (len : ∀ vs H Q E, sp vs H Q E → vs.length = ps.length)
    (body : ∀ (f : Addr) (A : Around) (outer : List Env) (s : Shared) (H : Hp) (vs : List V) (Q : VK) (E : XK), Room k (A.deeper (envOfC d.qual d.scope s.heap.objs.size f (.ref c))) → sp vs H Q E →
      ∃ t, PSs (cxOf C8.CX0 P w K mg base N d.qual d.scope f (.ref c) A outer s H E).nox d.body t ∧ t { nx := fun _ H' => Q .non H', rt := Q } (L2.start N vs) H) : FnOk P w K mg base C8.CX0 (k + 1) f fd ps sp := by
  obtain ⟨F, hc⟩ := D
  obtain ⟨oc, od, dV, kV, doc, pm, an, cdv, ct, osl, rfl, lk, hcd, _, _⟩ := F.ex
  have e : cdv = .ref c := hc
  subst e
  refine fn_of lk hcd S len fun A outer s H vs Q E hr h => ?_
  obtain ⟨t, h1, h2⟩ := body f A outer s H vs Q E hr h
  exact ⟨t, h1.nox, h2⟩
theorem DefT.defF {d : He.DefD} {c : Addr} (D : DefT K mg d c) : DefF K mg d := let ⟨f, fd, F, hm, _⟩ := D; ⟨f, fd, F, hm⟩
theorem DefT.cal {d : He.DefD} {c : Addr} (D : DefT K mg d c) {N ps : List Str} {k : Nat} {sp : Sp} (S : FnScope N ps d.scope)
    (hb : ∀ (kV doc pm : Value) (an : Option Addr) (cdv ct : Value) (us : List Value), us.length = ps.length → bindArgs (PySem.W.fnOf d.name d.qual d.params d.body d.scope .none kV doc pm an cdv ct) ⟨us, []⟩ = pure (ps.zip us))
    (len : ∀ vs H Q E, sp vs H Q E → vs.length = ps.length)
    (body : ∀ (f : Addr) (A : Around) (outer : List Env) (s : Shared) (H : Hp) (vs : List V) (Q : VK) (E : XK), Room k (A.deeper (envOfC d.qual d.scope s.heap.objs.size f (.ref c))) → sp vs H Q E →
      ∃ t, PSs (cxOf C8.CX0 P w K mg base N d.qual d.scope f (.ref c) A outer s H E).nox d.body t ∧ t { nx := fun _ H' => Q .non H', rt := Q } (L2.start N vs) H) : C8.Cal P w K mg base (k + 1) d.name sp [] := by
  obtain ⟨f, fd, F, hm, hc⟩ := D
  have b := F.bindsN hb
  have kp := F.kp
  obtain ⟨oc, od, dV, kV, doc, pm, an, cdv, ct, osl, rfl, lk, hcd, _, _⟩ := F.ex
  have e : cdv = .ref c := hc
  subst e
  refine ⟨f, _, ps, [], fn_of lk hcd S len fun A outer s H vs Q E hr h => ?_, hm, kp, b, .nil⟩
  obtain ⟨t, h1, h2⟩ := body f A outer s H vs Q E hr h
  exact ⟨t, h1.nox, h2⟩
end
end R45
end
section
set_option Elab.async false
set_option linter.all false
set_option maxRecDepth 100000
set_option maxHeartbeats 4000000
namespace R45
open PySem PySem.Spec PyProof.Rows L2 Evl LamX
section
variable {P0 : Program} {w : World} {K : PySem.W.Frag} {mg : Str → Option Value} {base : Heap} {CT CL CP CO CM PR PL : Addr} {qR qL : Str}
theorem ok_is_whole (z : Zs K mg) (D : DefF K mg d_is_whole)  : C8.Cal P0 w K mg base 1 "is_whole" sp_is_whole [] := by
  refine D.cal (k := 0) sc_is_whole (fun _ _ _ _ _ _ us hl => match us, hl with | [_, _, _], _ => rfl) len_is_whole fun f cdv A outer s H vs Q E hr h => ?_
  have nd := sc_is_whole.nd
  refine ⟨_, (pss_one (ps_ret (pe_and (pe_callB call_isi (by rfl) z.isinstance (by decide +kernel) (pa_cons (pv 0) (pa_cons (pe_bltn (by rfl) z.int (by decide +kernel) (show RelV (.ty "int") (.type "int") from rfl)) pa_nil))) (pe_and (pe_not (pe_callB call_isi (by rfl) z.isinstance (by decide +kernel) (pa_cons (pv 0) (pa_cons (pe_bltn (by rfl) z.bool (by decide +kernel) (show RelV (.ty "bool") (.type "bool") from rfl)) pa_nil)))) (pe_one (pe_chain op_le op_le (pv 1) (pv 0) (pv 2))))))), ?_⟩
  exact rd_is_whole h
theorem ok_blocks_in (z : Zs K mg) (D : DefF K mg d_blocks_in)  : C8.Cal P0 w K mg base 1 "blocks_in" sp_blocks_in [] := by
  refine D.cal (k := 0) sc_blocks_in (fun _ _ _ _ _ _ us hl => match us, hl with | [_], _ => rfl) len_blocks_in fun f cdv A outer s H vs Q E hr h => ?_
  have nd := sc_blocks_in.nd
  refine ⟨_, (pss_cons (ps_par (i := 1) (j := 2) (by rfl) nd rfl rfl (by decide) rfl rfl (pa_cons (pe_lst pa_nil) (pa_cons (pe_listRg rfl (by rfl) z.list (prg_1 (by rfl) z.range (pe_callB (r := rLenS K) cr_lenS (by rfl) z.len PySem.boot_len (pa_cons (pv 0) pa_nil)))) pa_nil)) (by rfl))
      (pss_cons (ps_while PassesOwn.never (pt_cmpR (r := rNeD K) (op_neD hr.units) (pv 2) (pe_lst pa_nil) (nomark _)) (pss_cons (ps_set (i := 3) nd rfl (Or.inr rfl) (pe_tup (pa_cons (pe_ix (r := rIxL K) ix_list (pv 2) pe_int (fun _ _ => rfl)) pa_nil)))
      (pss_cons (ps_while PassesOwn.never (pt_cmpR op_ne (pe_ix (r := rIxT K) ix_tup (pv 0) (pe_ix (r := rIxT K) ix_tup (pv 3) (pe_un un_neg pe_int) (fun _ _ => rfl)) (fun _ _ => rfl)) (pe_ix (r := rIxT K) ix_tup (pv 3) pe_int (fun _ _ => rfl)) (nomark _)) (pss_one (ps_set (i := 3) nd rfl (Or.inr rfl) (pe_op (r := rCatA K) op_catA (pv 3) (pe_tup (pa_cons (pe_ix (r := rIxT K) ix_tup (pv 0) (pe_ix (r := rIxT K) ix_tup (pv 3) (pe_un un_neg pe_int) (fun _ _ => rfl)) (fun _ _ => rfl)) pa_nil))))))
      (pss_cons (ps_set (i := 1) nd rfl (Or.inl rfl) (pe_op op_cat (pv 1) (pe_lst (pa_cons (pv 3) pa_nil))))
      (pss_one (ps_setLc (i := 2) (own := [("number", 4)]) rfl nd rfl rfl (sw_true rfl rfl rfl (by decide +kernel)) (pi_listK (K := K) rfl (pv 2)) (blkOk_by (by kernel_rfl)) (fun _ _ _ _ _ => (pg_name (i := 4) nd rfl (Or.inl rfl))) (fun _ _ _ _ _ => (pts_one (pt_cmpR (r := rIn K true) op_notIn_seq (pv 4) (pv 3) (by rfl)))) (fun _ _ _ _ _ => (pv 4))))))))
      (pss_one (ps_ret (pv 1))))), ?_⟩
  exact rd_blocks_in h
theorem ok_nexts_of (z : Zs K mg) (D : DefF K mg d_nexts_of)  : C8.Cal P0 w K mg base 1 "nexts_of" sp_nexts_of [] := by
  refine D.cal (k := 0) sc_nexts_of (fun _ _ _ _ _ _ us hl => match us, hl with | [_, _, _], _ => rfl) len_nexts_of fun f cdv A outer s H vs Q E hr h => ?_
  have nd := sc_nexts_of.nd
  refine ⟨_, (pss_cons (ps_set (i := 3) nd rfl (Or.inr rfl) (pe_callTy (call_dictP rfl) (by rfl) z.dict (by decide +kernel) (pa_cons (pe_lc2 (own := [("at", 4), ("number", 5)]) (vs1 := [5]) rfl nd (pi_tupK (K := K) rfl (pv 2)) (blkOk_by (by kernel_rfl)) (by decide) (fun _ _ _ _ _ => (pg_name (i := 4) nd rfl (Or.inl rfl))) (fun _ _ _ _ _ => pts_nil) (fun _ _ _ _ _ => (pi_tupK (K := K) rfl (pe_ix (r := rIxL K) ix_list (pv 1) (pv 4) (fun _ _ => rfl)))) (fun _ _ _ _ _ => (pg_name (i := 5) nd rfl (Or.inl rfl))) (fun _ _ _ _ _ => pts_nil) (fun _ _ _ _ _ => (pe_tup (pa_cons (pv 5) (pa_cons pe_bl pa_nil))))) pa_nil)))
      (pss_one (ps_ret (pe_tupleOfK (K := K) rfl (by rfl) z.tuple (pe_lc (own := [("number", 5), ("item", 6)]) rfl nd (pi_enumTK (K := K) rfl (by rfl) z.enumerate (pa_cons (pv 0) pa_nil)) (blkOk_by (by kernel_rfl)) (fun _ _ _ _ _ => (pg_tupK (K := K) (n := 2) rfl (by rfl) (pgs_cons (pg_name (i := 5) nd rfl (Or.inl rfl)) (pgs_cons (pg_name (i := 6) nd rfl (Or.inl rfl)) pgs_nil)))) (fun _ _ _ _ _ => pts_nil) (fun _ _ _ _ _ => (pe_ix (r := rIxT K) ix_tup (pv 6) (pe_ifExp (pt_cmp (pc_din (hu_of hr) (pv 5) (pv 3))) pe_int pe_int) (fun _ _ => rfl)))))))), ?_⟩
  exact rd_nexts_of h
theorem ok_one_blocks_in (z : Zs K mg) (D : DefF K mg d_one_blocks_in) (c_all_lots : C8.Cal P0 w K mg base 1 "all_lots" sp_all_lots []) (c_blocks_by : C8.Cal P0 w K mg base 2 "blocks_by" sp_blocks_by []) : C8.Cal P0 w K mg base 3 "one_blocks_in" sp_one_blocks_in [] := by
  refine D.cal (k := 2) sc_one_blocks_in (fun _ _ _ _ _ _ us hl => match us, hl with | [_, _], _ => rfl) len_one_blocks_in fun f cdv A outer s H vs Q E hr h => ?_
  have nd := sc_one_blocks_in.nd
  refine ⟨_, (pss_one (ps_ret (pe_lc (own := [("lot", 2)]) rfl nd (pi_listK (K := K) rfl (C8.pe_c c_all_lots hr (by decide) (by rfl) (pa_cons (pe_callB (r := rLenS K) cr_lenS (by rfl) z.len PySem.boot_len (pa_cons (pv 1) pa_nil)) pa_nil))) (blkOk_by (by kernel_rfl)) (fun _ _ _ _ _ => (pg_name (i := 2) nd rfl (Or.inl rfl))) (fun _ _ _ _ _ => (pts_one (pt_cmpR op_eq (pe_callB (r := rLenS K) cr_lenS (by rfl) z.len PySem.boot_len (pa_cons (C8.pe_c c_blocks_by hr (by decide) (by rfl) (pa_cons (pv 0) (pa_cons (pv 1) (pa_cons (pv 2) pa_nil)))) pa_nil)) pe_int (nomark _)))) (fun _ _ _ _ _ => (pv 2))))), ?_⟩
  exact rd_one_blocks_in h
theorem ok__law_some (z : Zs K mg) (D : DefF K mg d__law_some) (c__law_roll : C8.Cal P0 w K mg base 1 "_law_roll" sp__law_roll []) : C8.Cal P0 w K mg base 2 "_law_some" sp__law_some [] := by
  refine D.cal (k := 1) sc__law_some (fun _ _ _ _ _ _ us hl => match us, hl with | [_, _], _ => rfl) len__law_some fun f cdv A outer s H vs Q E hr h => ?_
  have nd := sc__law_some.nd
  refine ⟨_, (pss_one (ps_ret (pe_ix (r := rIxL K) ix_list (pv 1) (C8.pe_c c__law_roll hr (by decide) (by rfl) (pa_cons (pv 0) (pa_cons (pe_callB (r := rLenS K) cr_lenS (by rfl) z.len PySem.boot_len (pa_cons (pv 1) pa_nil)) pa_nil))) (fun _ _ => rfl)))), ?_⟩
  exact rd__law_some h
theorem ok__law_led (z : Zs K mg) (D : DefF K mg d__law_led) (c__law_rung : C8.Cal P0 w K mg base 2 "_law_rung" sp__law_rung []) : C8.Cal P0 w K mg base 3 "_law_led" sp__law_led [] := by
  refine D.cal (k := 2) sc__law_led (fun _ _ _ _ _ _ us hl => match us, hl with | [_, _], _ => rfl) len__law_led fun f cdv A outer s H vs Q E hr h => ?_
  have nd := sc__law_led.nd
  refine ⟨_, (pss_one (ps_ret (pe_ix (r := rIxL K) ix_list (C8.pe_c c__law_rung hr (by decide) (by rfl) (pa_cons (pv 0) (pa_cons (pv 1) pa_nil))) (pe_un un_neg pe_int) (fun _ _ => rfl)))), ?_⟩
  exact rd__law_led h
theorem ok__law_table (z : Zs K mg) (D : DefF K mg d__law_table) (c__law_roads : C8.Cal P0 w K mg base 4 "_law_roads" sp__law_roads []) (c__law_led : C8.Cal P0 w K mg base 3 "_law_led" sp__law_led []) : C8.Cal P0 w K mg base 5 "_law_table" sp__law_table [] := by
  refine D.cal (k := 4) sc__law_table (fun _ _ _ _ _ _ us hl => match us, hl with | [_, _], _ => rfl) len__law_table fun f cdv A outer s H vs Q E hr h => ?_
  have nd := sc__law_table.nd
  refine ⟨_, (pss_cons (ps_set (i := 2) nd rfl (Or.inl rfl) (pe_callB (r := rSortDT) (cr_sortDT rfl hr.units) (by rfl) z.sorted (by decide +kernel) (pa_cons (C8.pe_c c__law_roads hr (by decide) (by rfl) (pa_cons (pv 0) (pa_cons (pv 1) pa_nil))) pa_nil)))
      (pss_cons (ps_set (i := 3) nd rfl (Or.inr rfl) (pe_callTy (cr_dictT rfl hr.units) (by rfl) z.dict (by decide +kernel) (pa_cons (pe_lc (own := [("_law_at", 4), ("_law_row", 5)]) rfl nd (pi_enumK (K := K) rfl (by rfl) z.enumerate (pa_cons (pv 2) pa_nil)) (blkOk_by (by kernel_rfl)) (fun _ _ _ _ _ => (pg_tupK (K := K) (n := 2) rfl (by rfl) (pgs_cons (pg_name (i := 4) nd rfl (Or.inl rfl)) (pgs_cons (pg_name (i := 5) nd rfl (Or.inl rfl)) pgs_nil)))) (fun _ _ _ _ _ => pts_nil) (fun _ _ _ _ _ => (pe_tup (pa_cons (pv 5) (pa_cons (pv 4) pa_nil))))) pa_nil)))
      (pss_one (ps_ret (pe_tupleOfK (K := K) rfl (by rfl) z.tuple (pe_lc (own := [("_law_row", 5)]) rfl nd (pi_listK (K := K) rfl (pv 2)) (blkOk_by (by kernel_rfl)) (fun _ _ _ _ _ => (pg_name (i := 5) nd rfl (Or.inr rfl))) (fun _ _ _ _ _ => pts_nil) (fun _ _ _ _ _ => (pe_tupleOfK (K := K) rfl (by rfl) z.tuple (pe_lc (own := [("_law_lead_here", 6)]) rfl nd (pi_tupK (K := K) rfl (pv 1)) (blkOk_by (by kernel_rfl)) (fun _ _ _ _ _ => (pg_name (i := 6) nd rfl (Or.inl rfl))) (fun _ _ _ _ _ => pts_nil) (fun _ _ _ _ _ => (pe_dget (hu_of hr) (pv 3) (C8.pe_c c__law_led hr (by decide) (by rfl) (pa_cons (pv 5) (pa_cons (pv 6) pa_nil))) (fun _ _ => rfl)))))))))))), ?_⟩
  exact rd__law_table h
theorem ok__law_classes (z : Zs K mg) (D : DefF K mg d__law_classes) (c__law_class : C8.Cal P0 w K mg base 1 "_law_class" sp__law_class []) : C8.Cal P0 w K mg base 2 "_law_classes" sp__law_classes [] := by
  refine D.cal (k := 1) sc__law_classes (fun _ _ _ _ _ _ us hl => match us, hl with | [_, _, _], _ => rfl) len__law_classes fun f cdv A outer s H vs Q E hr h => ?_
  have nd := sc__law_classes.nd
  refine ⟨_, (pss_cons (ps_par (i := 3) (j := 4) (by rfl) nd rfl rfl (by decide) rfl rfl (pa_cons (pe_lst pa_nil) (pa_cons (pe_lst pa_nil) pa_nil)) (by rfl))
      (pss_cons (ps_for PassesOwn.never rfl (pi_range1 (by rfl) z.range (pa_cons (pe_callB (r := rLenS K) cr_lenS (by rfl) z.len PySem.boot_len (pa_cons (pv 0) pa_nil)) pa_nil)) (pg_name (i := 5) nd rfl (Or.inl rfl)) (pss_one (ps_if (pt_cmpR (r := rIn K true) op_notIn_seq (pv 5) (pv 4) (by rfl)) (pss_cons (ps_expr (pe_bm PySem.F.plainAttrs_list PySem.F.slot_list_append PySem.F.type_list_append mt_append (pv 3) (pa_cons (C8.pe_c c__law_class hr (by decide) (by rfl) (pa_cons (pv 0) (pa_cons (pv 1) (pa_cons (pv 2) (pa_cons (pv 5) pa_nil))))) pa_nil)))
      (pss_one (ps_set (i := 4) nd rfl (Or.inl rfl) (pe_op op_cat (pv 4) (pe_callTy (r := rListS K) cr_listS (by rfl) z.list (by decide +kernel) (pa_cons (pe_ix (r := rIxL K) ix_list (pv 3) (pe_un un_neg pe_int) (fun _ _ => rfl)) pa_nil)))))) pss_nil)))
      (pss_one (ps_ret (pv 3))))), ?_⟩
  exact rd__law_classes h
theorem ok__law_lead (z : Zs K mg) (D : DefF K mg d__law_lead) (c__law_change : C8.Cal P0 w K mg base 3 "_law_change" sp__law_change []) (c__law_roll : C8.Cal P0 w K mg base 1 "_law_roll" sp__law_roll []) : C8.Cal P0 w K mg base 4 "_law_lead" sp__law_lead [] := by
  refine D.cal (k := 3) sc__law_lead (fun _ _ _ _ _ _ us hl => match us, hl with | [_, _, _], _ => rfl) len__law_lead fun f cdv A outer s H vs Q E hr h => ?_
  have nd := sc__law_lead.nd
  refine ⟨_, (pss_one (ps_ret (pe_tupleOfK (K := K) rfl (by rfl) z.tuple (pe_lc (own := [("_law_turn_here", 3)]) rfl nd (pi_range1 (by rfl) z.range (pa_cons (pe_op op_add pe_int (C8.pe_c c__law_roll hr (by decide) (by rfl) (pa_cons (pv 0) (pa_cons (pv 2) pa_nil)))) pa_nil)) (blkOk_by (by kernel_rfl)) (fun _ _ _ _ _ => (pg_name (i := 3) nd rfl (Or.inl rfl))) (fun _ _ _ _ _ => pts_nil) (fun _ _ _ _ _ => (C8.pe_c c__law_change hr (by decide) (by rfl) (pa_cons (pv 0) (pa_cons (pv 1) pa_nil)))))))), ?_⟩
  exact rd__law_lead h
theorem ok__law_mixed (z : Zs K mg) (D : DefF K mg d__law_mixed) (c__law_roll : C8.Cal P0 w K mg base 1 "_law_roll" sp__law_roll []) : C8.Cal P0 w K mg base 2 "_law_mixed" sp__law_mixed [] := by
  refine D.cal (k := 1) sc__law_mixed (fun _ _ _ _ _ _ us hl => match us, hl with | [_, _], _ => rfl) len__law_mixed fun f cdv A outer s H vs Q E hr h => ?_
  have nd := sc__law_mixed.nd
  refine ⟨_, (pss_cons (ps_par (i := 2) (j := 3) (by rfl) nd rfl rfl (by decide) rfl rfl (pa_cons (pe_listRg rfl (by rfl) z.list (prg_1 (by rfl) z.range (pv 1))) (pa_cons (pe_lst pa_nil) pa_nil)) (by rfl))
      (pss_cons (ps_while PassesOwn.never (pt_cmpR (r := rNeD K) (op_neD hr.units) (pv 2) (pe_lst pa_nil) (nomark _)) (pss_one (ps_expr (pe_bm PySem.F.plainAttrs_list PySem.F.slot_list_append PySem.F.type_list_append mt_append (pv 3) (pa_cons (pe_bm PySem.F.plainAttrs_list PySem.F.slot_list_pop PySem.F.type_list_pop mt_popAt (pv 2) (pa_cons (C8.pe_c c__law_roll hr (by decide) (by rfl) (pa_cons (pv 0) (pa_cons (pe_callB (r := rLenS K) cr_lenS (by rfl) z.len PySem.boot_len (pa_cons (pv 2) pa_nil)) pa_nil))) pa_nil)) pa_nil)))))
      (pss_one (ps_ret (pv 3))))), ?_⟩
  exact rd__law_mixed h
theorem ok__law_turn (z : Zs K mg) (D : DefF K mg d__law_turn)  : C8.Cal P0 w K mg base 1 "_law_turn" sp__law_turn [] := by
  refine D.cal (k := 0) sc__law_turn (fun _ _ _ _ _ _ us hl => match us, hl with | [_, _, _], _ => rfl) len__law_turn fun f cdv A outer s H vs Q E hr h => ?_
  have nd := sc__law_turn.nd
  refine ⟨_, (pss_cons (ps_setLc (i := 3) (own := [("_law_item", 6)]) rfl nd rfl rfl (sw_true rfl rfl rfl (by decide +kernel)) (pi_tupK (K := K) rfl (pv 0)) (blkOk_by (by kernel_rfl)) (fun _ _ _ _ _ => (pg_name (i := 6) nd rfl (Or.inl rfl))) (fun _ _ _ _ _ => pts_nil) (fun _ _ _ _ _ => (pe_ix (r := rIxT K) ix_tup (pv 6) pe_int (fun _ _ => rfl))))
      (pss_cons (ps_for PassesOwn.never rfl (pi_tupK (K := K) rfl (pv 2)) (pg_name (i := 4) nd rfl (Or.inl rfl)) (pss_one (ps_for PassesOwn.never rfl (pi_tupK (K := K) rfl (pe_ix (r := rIxL K) ix_list (pv 1) (pv 4) (fun _ _ => rfl))) (pg_name (i := 5) nd rfl (Or.inl rfl)) (pss_one (ps_asg (pe_ix (r := rIxT K) ix_tup (pe_ix (r := rIxT K) ix_tup (pv 0) (pv 5) (fun _ _ => rfl)) pe_int (fun _ _ => rfl)) (pg_sub (pv 3) (pv 5) set_list))))))
      (pss_one (ps_ret (pv 3))))), ?_⟩
  exact rd__law_turn h
theorem ok__law_odd_tables (z : Zs K mg) (D : DefF K mg d__law_odd_tables)  : C8.Cal P0 w K mg base 1 "_law_odd_tables" sp__law_odd_tables [] := by
  refine D.cal (k := 0) sc__law_odd_tables (fun _ _ _ _ _ _ us hl => match us, hl with | [], _ => rfl) len__law_odd_tables fun f cdv A outer s H vs Q E hr h => ?_
  have nd := sc__law_odd_tables.nd
  refine ⟨_, (pss_cons (ps_set (i := 0) nd rfl (Or.inl rfl) (pe_lst (pa_cons pe_non (pa_cons (pe_tup pa_nil) (pa_cons (pe_lst (pa_cons (pe_tup (pa_cons pe_int (pa_cons pe_int pa_nil))) pa_nil)) (pa_cons (pe_tup (pa_cons (pe_tup (pa_cons pe_int pa_nil)) pa_nil)) (pa_cons (pe_tup (pa_cons (pe_tup (pa_cons pe_int (pa_cons pe_int (pa_cons pe_int pa_nil)))) pa_nil)) (pa_cons (pe_tup (pa_cons (pe_tup (pa_cons pe_int (pa_cons pe_int pa_nil))) (pa_cons (pe_tup (pa_cons pe_int (pa_cons pe_int pa_nil))) pa_nil))) (pa_cons (pe_tup (pa_cons (pe_tup (pa_cons pe_int (pa_cons pe_int pa_nil))) (pa_cons (pe_tup (pa_cons pe_int pa_nil)) pa_nil))) (pa_cons (pe_tup (pa_cons (pe_tup (pa_cons pe_int (pa_cons pe_int pa_nil))) pa_nil)) (pa_cons (pe_tup (pa_cons (pe_tup (pa_cons pe_int (pa_cons pe_int pa_nil))) (pa_cons (pe_tup (pa_cons pe_int (pa_cons pe_int pa_nil))) pa_nil))) (pa_cons (pe_tup (pa_cons (pe_tup (pa_cons pe_bl (pa_cons pe_int pa_nil))) (pa_cons (pe_tup (pa_cons pe_int (pa_cons pe_int pa_nil))) pa_nil))) pa_nil))))))))))))
      (pss_one (ps_ret (pe_op op_cat (pv 0) (pe_lst (pa_cons (pe_tup (pa_cons (pe_tup (pa_cons pe_int (pa_cons pe_int pa_nil))) (pa_cons (pe_lst (pa_cons pe_int (pa_cons pe_int pa_nil))) pa_nil))) (pa_cons (pe_tup (pa_cons (pe_tup (pa_cons (pe_un un_neg pe_int) (pa_cons pe_int pa_nil))) (pa_cons (pe_tup (pa_cons pe_int (pa_cons pe_int pa_nil))) pa_nil))) (pa_cons pe_str (pa_cons (pe_tup (pa_cons (pe_tup (pa_cons pe_int (pa_cons pe_str pa_nil))) pa_nil)) (pa_cons (pe_tup (pa_cons (pe_tup (pa_cons pe_int (pa_cons pe_int pa_nil))) (pa_cons (pe_tup (pa_cons pe_int (pa_cons pe_int pa_nil))) pa_nil))) pa_nil)))))))))), ?_⟩
  exact rd__law_odd_tables (K := K) h
end
end R45
end
section
set_option Elab.async false
set_option linter.all false
set_option maxRecDepth 100000
set_option maxHeartbeats 4000000
namespace R45
open PySem PySem.Spec PyProof.Rows L2 Evl LamX
section
variable {P0 : Program} {w : World} {K : PySem.W.Frag} {mg : Str → Option Value} {base : Heap} {CT CL CP CO CM PR PL : Addr} {qR qL : Str}
theorem ok_is_tuple_of (z : Zs K mg) (D : DefF K mg d_is_tuple_of)  : C8.Cal P0 w K mg base 1 "is_tuple_of" sp_is_tuple_of [] := by
  refine D.cal (k := 0) sc_is_tuple_of (fun _ _ _ _ _ _ us hl => match us, hl with | [_, _, _], _ => rfl) len_is_tuple_of fun f cdv A outer s H vs Q E hr h => ?_
  have nd := sc_is_tuple_of.nd
  refine ⟨_, (pss_one (ps_ret (pe_and (pe_callB call_isi (by rfl) z.isinstance (by decide +kernel) (pa_cons (pv 0) (pa_cons (pe_bltn (by rfl) z.tuple (by decide +kernel) (show RelV (.ty "tuple") (.type "tuple") from rfl)) pa_nil))) (pe_one (pe_chain op_le op_le (pv 1) (pe_callB (r := rLenS K) cr_lenS (by rfl) z.len PySem.boot_len (pa_cons (pv 0) pa_nil)) (pv 2)))))), ?_⟩
  exact rd_is_tuple_of h
theorem ok_class_by (z : Zs K mg) (D : DefF K mg d_class_by)  : C8.Cal P0 w K mg base 1 "class_by" sp_class_by [] := by
  refine D.cal (k := 0) sc_class_by (fun _ _ _ _ _ _ us hl => match us, hl with | [_, _, _], _ => rfl) len_class_by fun f cdv A outer s H vs Q E hr h => ?_
  have nd := sc_class_by.nd
  refine ⟨_, (pss_cons (ps_set (i := 3) nd rfl (Or.inl rfl) (pe_tup (pa_cons (pv 2) pa_nil)))
      (pss_cons (ps_set (i := 4) nd rfl (Or.inl rfl) (pe_dget (hu_of hr) (pv 1) (pe_ix (r := rIxT K) ix_tup (pe_ix (r := rIxT K) ix_tup (pv 0) (pv 2) (fun _ _ => rfl)) pe_int (fun _ _ => rfl)) (fun _ _ => rfl)))
      (pss_cons (ps_while PassesOwn.never (pt_cmpR op_ne (pv 4) (pv 2) (nomark _)) (pss_one (ps_par (i := 3) (j := 4) (by rfl) nd rfl rfl (by decide) rfl rfl (pa_cons (pe_op (r := rCatA K) op_catA (pv 3) (pe_tup (pa_cons (pv 4) pa_nil))) (pa_cons (pe_dget (hu_of hr) (pv 1) (pe_ix (r := rIxT K) ix_tup (pe_ix (r := rIxT K) ix_tup (pv 0) (pv 4) (fun _ _ => rfl)) pe_int (fun _ _ => rfl)) (fun _ _ => rfl)) pa_nil)) (by rfl))))
      (pss_one (ps_ret (pv 3)))))), ?_⟩
  exact rd_class_by h
theorem ok_blocks_by (z : Zs K mg) (D : DefF K mg d_blocks_by) (c_blocks_in : C8.Cal P0 w K mg base 1 "blocks_in" sp_blocks_in []) (c_nexts_of : C8.Cal P0 w K mg base 1 "nexts_of" sp_nexts_of []) : C8.Cal P0 w K mg base 2 "blocks_by" sp_blocks_by [] := by
  refine D.cal (k := 1) sc_blocks_by (fun _ _ _ _ _ _ us hl => match us, hl with | [_, _, _], _ => rfl) len_blocks_by fun f cdv A outer s H vs Q E hr h => ?_
  have nd := sc_blocks_by.nd
  refine ⟨_, (pss_one (ps_ret (C8.pe_c c_blocks_in hr (by decide) (by rfl) (pa_cons (C8.pe_c c_nexts_of hr (by decide) (by rfl) (pa_cons (pv 0) (pa_cons (pv 1) (pa_cons (pv 2) pa_nil)))) pa_nil)))), ?_⟩
  exact rd_blocks_by h
theorem ok__law_cup (z : Zs K mg) (D : DefF K mg d__law_cup)  : C8.Cal P0 w K mg base 1 "_law_cup" (sp__law_cup K) [] := by
  refine D.cal (k := 0) sc__law_cup (fun _ _ _ _ _ _ us hl => match us, hl with | [_], _ => rfl) len__law_cup fun f cdv A outer s H vs Q E hr h => ?_
  have nd := sc__law_cup.nd
  refine ⟨_, (pss_cons (ps_set (i := 1) nd rfl (Or.inl rfl) (pe_callB call_abs (by rfl) z.abs (by decide +kernel) (pa_cons (pe_ix (r := rIxL K) ix_list (pe_op op_cat (pe_callTy (r := rListS K) cr_listS (by rfl) z.list (by decide +kernel) (pa_cons (pv 0) pa_nil)) (pe_lst (pa_cons pe_int pa_nil))) pe_int (fun _ _ => rfl)) pa_nil)))
      (pss_one (ps_ret (pe_lst (pa_cons (pe_ifExp (pt_cmpR op_ge (pv 1) (pe_op op_pow pe_int pe_int) (nomark _)) (pe_op op_fdiv (pv 1) pe_int) pe_int) (pa_cons (pe_op op_add (pe_op op_mod (pe_callTy call_int1 (by rfl) z.int (by decide +kernel) (pa_cons (pe_op op_add (pe_op op_mul (pv 1) pe_int) pe_int) pa_nil)) pe_int) pe_int) pa_nil)))))), ?_⟩
  exact rd__law_cup h
theorem ok__law_behind (z : Zs K mg) (D : DefF K mg d__law_behind)  : C8.Cal P0 w K mg base 1 "_law_behind" sp__law_behind [] := by
  refine D.cal (k := 0) sc__law_behind (fun _ _ _ _ _ _ us hl => match us, hl with | [_, _], _ => rfl) len__law_behind fun f cdv A outer s H vs Q E hr h => ?_
  have nd := sc__law_behind.nd
  refine ⟨_, (pss_cons (ps_set (i := 2) nd rfl (Or.inl rfl) (pe_callTy (r := rListS K) cr_listS (by rfl) z.list (by decide +kernel) (pa_cons (pv 0) pa_nil)))
      (pss_cons (ps_for PassesOwn.never rfl (pi_tupK (K := K) rfl (pv 1)) (pg_name (i := 3) nd rfl (Or.inl rfl)) (pss_one (ps_asg (pe_tup (pa_cons (pe_ix (r := rIxT K) ix_tup (pv 0) (pe_op op_add (pv 3) pe_int) (fun _ _ => rfl)) (pa_cons (pe_ix (r := rIxT K) ix_tup (pv 0) (pv 3) (fun _ _ => rfl)) pa_nil))) (pg_tupK (K := K) (n := 2) rfl (by rfl) (pgs_cons (pg_sub (pv 2) (pv 3) set_list) (pgs_cons (pg_sub (pv 2) (pe_op op_add (pv 3) pe_int) set_list) pgs_nil))))))
      (pss_one (ps_ret (pe_tupleOfK (K := K) rfl (by rfl) z.tuple (pv 2)))))), ?_⟩
  exact rd__law_behind h
theorem ok__law_rounds (z : Zs K mg) (D : DefF K mg d__law_rounds)  : C8.Cal P0 w K mg base 1 "_law_rounds" sp__law_rounds [] := by
  refine D.cal (k := 0) sc__law_rounds (fun _ _ _ _ _ _ us hl => match us, hl with | [_], _ => rfl) len__law_rounds fun f cdv A outer s H vs Q E hr h => ?_
  have nd := sc__law_rounds.nd
  refine ⟨_, (pss_one (ps_ret (pe_tupRg rfl (by rfl) z.tuple (prg_1 (by rfl) z.range (pv 0))))), ?_⟩
  exact rd__law_rounds (K := K) h
theorem ok__law_blocks (z : Zs K mg) (D : DefF K mg d__law_blocks)  : C8.Cal P0 w K mg base 1 "_law_blocks" sp__law_blocks [] := by
  refine D.cal (k := 0) sc__law_blocks (fun _ _ _ _ _ _ us hl => match us, hl with | [_], _ => rfl) len__law_blocks fun f cdv A outer s H vs Q E hr h => ?_
  have nd := sc__law_blocks.nd
  refine ⟨_, (pss_cons (ps_par (i := 1) (j := 2) (by rfl) nd rfl rfl (by decide) rfl rfl (pa_cons (pe_lst pa_nil) (pa_cons pe_dnewK pa_nil)) (by rfl))
      (pss_cons (ps_for PassesOwn.never rfl (pi_range1 (by rfl) z.range (pa_cons (pe_callB (r := rLenS K) cr_lenS (by rfl) z.len PySem.boot_len (pa_cons (pv 0) pa_nil)) pa_nil)) (pg_name (i := 3) nd rfl (Or.inl rfl)) (pss_cons (ps_par (i := 4) (j := 5) (by rfl) nd rfl rfl (by decide) rfl rfl (pa_cons (pe_tup pa_nil) (pa_cons (pv 3) pa_nil)) (by rfl))
      (pss_cons (ps_while PassesOwn.never (pt_cmp (pc_dnotin (hu_of hr) (pv 5) (pv 2))) (pss_cons (ps_dput (hu_of hr) (pv 2) (pv 5) pe_bl rfl)
      (pss_one (ps_par (i := 4) (j := 5) (by rfl) nd rfl rfl (by decide) rfl rfl (pa_cons (pe_op (r := rCatA K) op_catA (pv 4) (pe_tup (pa_cons (pv 5) pa_nil))) (pa_cons (pe_ix (r := rIxL K) ix_list (pv 0) (pv 5) (fun _ _ => rfl)) pa_nil)) (by rfl)))))
      (pss_one (ps_set (i := 1) nd rfl (Or.inl rfl) (pe_op op_cat (pv 1) (pe_ifExp (pt_cmpR (r := rNeD K) (op_neD hr.units) (pv 4) (pe_tup pa_nil) (nomark _)) (pe_lst (pa_cons (pv 4) pa_nil)) (pe_lst pa_nil))))))))
      (pss_one (ps_ret (pv 1))))), ?_⟩
  exact rd__law_blocks h
theorem ok__law_changes (z : Zs K mg) (D : DefF K mg d__law_changes)  : C8.Cal P0 w K mg base 1 "_law_changes" sp__law_changes [] := by
  refine D.cal (k := 0) sc__law_changes (fun _ _ _ _ _ _ us hl => match us, hl with | [_], _ => rfl) len__law_changes fun f cdv A outer s H vs Q E hr h => ?_
  have nd := sc__law_changes.nd
  refine ⟨_, (pss_cons (ps_set (i := 1) nd rfl (Or.inl rfl) (pe_lst (pa_cons (pe_tup pa_nil) pa_nil)))
      (pss_cons (ps_for PassesOwn.never rfl (pi_range1 (by rfl) z.range (pa_cons (pe_op op_sub (pv 0) pe_int) pa_nil)) (pg_name (i := 2) nd rfl (Or.inr rfl)) (pss_one (ps_set (i := 1) nd rfl (Or.inl rfl) (pe_op op_cat (pv 1) (pe_lc (own := [("_law_change_here", 3)]) rfl nd (pi_listK (K := K) rfl (pv 1)) (blkOk_by (by kernel_rfl)) (fun _ _ _ _ _ => (pg_name (i := 3) nd rfl (Or.inl rfl))) (fun _ _ _ _ _ => (pts_one (PW.pt (pw_or (pt_cmpR (r := rEqD K) (op_eqD hr.units) (pv 3) (pe_tup pa_nil) (nomark _)) (pw_or1 (pt_cmpR op_lt (pe_ix (r := rIxT K) ix_tup (pv 3) (pe_un un_neg pe_int) (fun _ _ => rfl)) (pe_op op_sub (pv 2) pe_int) (nomark _))))))) (fun _ _ _ _ _ => (pe_op (r := rCatA K) op_catA (pv 3) (pe_tup (pa_cons (pv 2) pa_nil)))))))))
      (pss_one (ps_ret (pe_callB (r := rSortD K) (cr_sortD hr.units) (by rfl) z.sorted (by decide +kernel) (pa_cons (pv 1) pa_nil)))))), ?_⟩
  exact rd__law_changes h
theorem ok__law_few (z : Zs K mg) (D : DefF K mg d__law_few) (c__law_some : C8.Cal P0 w K mg base 2 "_law_some" sp__law_some []) (c__law_lead : C8.Cal P0 w K mg base 4 "_law_lead" sp__law_lead []) (c__law_roll : C8.Cal P0 w K mg base 1 "_law_roll" sp__law_roll []) : C8.Cal P0 w K mg base 5 "_law_few" sp__law_few [] := by
  refine D.cal (k := 4) sc__law_few (fun _ _ _ _ _ _ us hl => match us, hl with | [_], _ => rfl) len__law_few fun f cdv A outer s H vs Q E hr h => ?_
  have nd := sc__law_few.nd
  refine ⟨_, (pss_cons (ps_set (i := 1) nd rfl (Or.inr rfl) (C8.pe_c c__law_some hr (by decide) (by rfl) (pa_cons (pv 0) (pa_cons (pe_lst (pa_cons pe_int (pa_cons pe_int (pa_cons pe_int (pa_cons pe_int (pa_cons pe_int (pa_cons pe_int (pa_cons pe_int (pa_cons pe_int (pa_cons pe_int pa_nil)))))))))) pa_nil))))
      (pss_cons (ps_if (pt_cmpR op_gt (pv 1) pe_int (nomark _)) (pss_cons (ps_set (i := 2) nd rfl (Or.inr rfl) (pe_lst (pa_cons (pe_tup (pa_cons (pe_tup (pa_cons pe_int (pa_cons pe_int pa_nil))) pa_nil)) (pa_cons (pe_tup (pa_cons (pe_tup (pa_cons pe_int (pa_cons pe_int pa_nil))) pa_nil)) (pa_cons (pe_tup (pa_cons (pe_tup (pa_cons pe_int (pa_cons pe_int pa_nil))) (pa_cons (pe_tup (pa_cons pe_int (pa_cons pe_int pa_nil))) pa_nil))) (pa_cons (pe_tup (pa_cons (pe_tup (pa_cons pe_int (pa_cons pe_int pa_nil))) (pa_cons (pe_tup (pa_cons pe_int (pa_cons pe_int pa_nil))) pa_nil))) (pa_cons (pe_tup (pa_cons (pe_tup pa_nil) pa_nil)) (pa_cons (pe_tup (pa_cons (pe_tup (pa_cons pe_int (pa_cons pe_int pa_nil))) (pa_cons (pe_tup (pa_cons pe_int (pa_cons pe_int pa_nil))) (pa_cons (pe_tup (pa_cons pe_int (pa_cons pe_int pa_nil))) pa_nil)))) pa_nil))))))))
      (pss_cons (ps_if (pt_cmpR op_eq (pv 1) pe_int (nomark _)) (pss_one (ps_set (i := 2) nd rfl (Or.inr rfl) (pe_lst (pa_cons (pe_tup (pa_cons (pe_tup (pa_cons pe_int (pa_cons pe_int (pa_cons pe_int pa_nil)))) pa_nil)) (pa_cons (pe_tup (pa_cons (pe_tup (pa_cons pe_int (pa_cons pe_int pa_nil))) pa_nil)) (pa_cons (pe_tup (pa_cons (pe_tup (pa_cons pe_int (pa_cons pe_int (pa_cons pe_int pa_nil)))) (pa_cons (pe_tup (pa_cons pe_int (pa_cons pe_int pa_nil))) pa_nil))) (pa_cons (pe_tup (pa_cons (pe_tup pa_nil) pa_nil)) (pa_cons (pe_tup (pa_cons (pe_tup (pa_cons pe_int (pa_cons pe_int pa_nil))) (pa_cons (pe_tup (pa_cons pe_int (pa_cons pe_int (pa_cons pe_int pa_nil)))) (pa_cons (pe_tup (pa_cons pe_int (pa_cons pe_int pa_nil))) pa_nil)))) pa_nil)))))))) pss_nil)
      (pss_one (ps_ret (pe_tup (pa_cons (pv 1) (pa_cons (pe_tupleOfK (K := K) rfl (by rfl) z.tuple (pe_lc (own := [("_law_turn_here", 3)]) rfl nd (pi_range1 (by rfl) z.range (pa_cons (pe_op op_add pe_int (C8.pe_c c__law_roll hr (by decide) (by rfl) (pa_cons (pv 0) (pa_cons pe_int pa_nil)))) pa_nil)) (blkOk_by (by kernel_rfl)) (fun _ _ _ _ _ => (pg_name (i := 3) nd rfl (Or.inl rfl))) (fun _ _ _ _ _ => pts_nil) (fun _ _ _ _ _ => (C8.pe_c c__law_some hr (by decide) (by rfl) (pa_cons (pv 0) (pa_cons (pv 2) pa_nil)))))) pa_nil))))))) pss_nil)
      (pss_one (ps_ret (pe_tup (pa_cons (pv 1) (pa_cons (pe_tupleOfK (K := K) rfl (by rfl) z.tuple (pe_lc (own := [("_law_turn_here", 3)]) rfl nd (pi_range1 (by rfl) z.range (pa_cons (pe_op op_add pe_int (C8.pe_c c__law_roll hr (by decide) (by rfl) (pa_cons (pv 0) (pa_cons pe_int pa_nil)))) pa_nil)) (blkOk_by (by kernel_rfl)) (fun _ _ _ _ _ => (pg_name (i := 3) nd rfl (Or.inl rfl))) (fun _ _ _ _ _ => pts_nil) (fun _ _ _ _ _ => (C8.pe_c c__law_lead hr (by decide) (by rfl) (pa_cons (pv 0) (pa_cons (pv 1) (pa_cons pe_int pa_nil))))))) pa_nil))))))), ?_⟩
  exact rd__law_few h
theorem ok__law_paired (z : Zs K mg) (D : DefF K mg d__law_paired) (c__law_mixed : C8.Cal P0 w K mg base 2 "_law_mixed" sp__law_mixed []) (c__law_roll : C8.Cal P0 w K mg base 1 "_law_roll" sp__law_roll []) (c__law_some : C8.Cal P0 w K mg base 2 "_law_some" sp__law_some []) : C8.Cal P0 w K mg base 3 "_law_paired" sp__law_paired [] := by
  refine D.cal (k := 2) sc__law_paired (fun _ _ _ _ _ _ us hl => match us, hl with | [_, _], _ => rfl) len__law_paired fun f cdv A outer s H vs Q E hr h => ?_
  have nd := sc__law_paired.nd
  refine ⟨_, (pss_cons (ps_par (i := 2) (j := 3) (by rfl) nd rfl rfl (by decide) rfl rfl (pa_cons (C8.pe_c c__law_mixed hr (by decide) (by rfl) (pa_cons (pv 0) (pa_cons (pv 1) pa_nil))) (pa_cons (C8.pe_c c__law_mixed hr (by decide) (by rfl) (pa_cons (pv 0) (pa_cons (pv 1) pa_nil))) pa_nil)) (by rfl))
      (pss_cons (ps_if (pt_cmpR op_eq (C8.pe_c c__law_roll hr (by decide) (by rfl) (pa_cons (pv 0) (pa_cons pe_int pa_nil))) pe_int (nomark _)) (pss_one (ps_setLc (i := 2) (own := [("_law_at", 8)]) rfl nd rfl rfl (sw_true rfl rfl rfl (by decide +kernel)) (pi_range1 (by rfl) z.range (pa_cons (pv 1) pa_nil)) (blkOk_by (by kernel_rfl)) (fun _ _ _ _ _ => (pg_name (i := 8) nd rfl (Or.inl rfl))) (fun _ _ _ _ _ => pts_nil) (fun _ _ _ _ _ => (pe_op op_mod (pe_op op_add (pv 8) pe_int) (pv 1))))) pss_nil)
      (pss_cons (ps_par (i := 4) (j := 5) (by rfl) nd rfl rfl (by decide) rfl rfl (pa_cons (pe_callTy (r := rListS K) cr_listS (by rfl) z.list (by decide +kernel) (pa_cons (pv 2) pa_nil)) (pa_cons (C8.pe_c c__law_some hr (by decide) (by rfl) (pa_cons (pv 0) (pa_cons (pe_lst (pa_cons pe_int (pa_cons pe_int (pa_cons pe_int (pa_cons pe_int (pa_cons pe_int pa_nil)))))) pa_nil))) pa_nil)) (by rfl))
      (pss_cons (ps_while PassesOwn.never (pt_cmpR op_gt (pe_callB (r := rLenS K) cr_lenS (by rfl) z.len PySem.boot_len (pa_cons (pv 3) pa_nil)) (pe_callB (call_max2 rfl) (by rfl) z.max (by decide +kernel) (pa_cons pe_int (pa_cons (pv 5) pa_nil))) (nomark _)) (pss_cons (ps_par (i := 6) (j := 7) (by rfl) nd rfl rfl (by decide) rfl rfl (pa_cons (pe_bm0 PySem.F.plainAttrs_list PySem.F.slot_list_pop PySem.F.type_list_pop mt_pop (pv 3)) (pa_cons (pe_bm0 PySem.F.plainAttrs_list PySem.F.slot_list_pop PySem.F.type_list_pop mt_pop (pv 3)) pa_nil)) (by rfl))
      (pss_one (ps_asg (pe_tup (pa_cons (pe_ix (r := rIxL K) ix_list (pv 2) (pv 7) (fun _ _ => rfl)) (pa_cons (pe_ix (r := rIxL K) ix_list (pv 2) (pv 6) (fun _ _ => rfl)) pa_nil))) (pg_tupK (K := K) (n := 2) rfl (by rfl) (pgs_cons (pg_sub (pv 4) (pv 6) set_list) (pgs_cons (pg_sub (pv 4) (pv 7) set_list) pgs_nil)))))))
      (pss_one (ps_ret (pe_tupleOfK (K := K) rfl (by rfl) z.tuple (pe_lc (own := [("_law_one", 6), ("_law_two_here", 7)]) rfl nd (pi_zipK (K := K) rfl (by rfl) z.zip (pa_cons (pv 2) (pa_cons (pv 4) pa_nil))) (blkOk_by (by kernel_rfl)) (fun _ _ _ _ _ => (pg_tupK (K := K) (n := 2) rfl (by rfl) (pgs_cons (pg_name (i := 6) nd rfl (Or.inl rfl)) (pgs_cons (pg_name (i := 7) nd rfl (Or.inl rfl)) pgs_nil)))) (fun _ _ _ _ _ => pts_nil) (fun _ _ _ _ _ => (pe_tup (pa_cons (pv 6) (pa_cons (pv 7) pa_nil)))))))))))), ?_⟩
  exact rd__law_paired h
theorem ok__law_many (z : Zs K mg) (D : DefF K mg d__law_many) (c__law_blocks : C8.Cal P0 w K mg base 1 "_law_blocks" sp__law_blocks []) (c__law_turn : C8.Cal P0 w K mg base 1 "_law_turn" sp__law_turn []) : C8.Cal P0 w K mg base 2 "_law_many" sp__law_many [] := by
  refine D.cal (k := 1) sc__law_many (fun _ _ _ _ _ _ us hl => match us, hl with | [_, _, _], _ => rfl) len__law_many fun f cdv A outer s H vs Q E hr h => ?_
  have nd := sc__law_many.nd
  refine ⟨_, (pss_one (ps_ret (pe_callB (r := rLenS K) cr_lenS (by rfl) z.len PySem.boot_len (pa_cons (C8.pe_c c__law_blocks hr (by decide) (by rfl) (pa_cons (C8.pe_c c__law_turn hr (by decide) (by rfl) (pa_cons (pv 0) (pa_cons (pv 1) (pa_cons (pv 2) pa_nil)))) pa_nil)) pa_nil)))), ?_⟩
  exact rd__law_many h
theorem ok__law_three (z : Zs K mg) (D : DefF K mg d__law_three)  : C8.Cal P0 w K mg base 1 "_law_three" sp__law_three [] := by
  refine D.cal (k := 0) sc__law_three (fun _ _ _ _ _ _ us hl => match us, hl with | [], _ => rfl) len__law_three fun f cdv A outer s H vs Q E hr h => ?_
  have nd := sc__law_three.nd
  refine ⟨_, (pss_one (ps_ret (pe_tup (pa_cons (pe_tup (pa_cons pe_int (pa_cons pe_int pa_nil))) (pa_cons (pe_tup (pa_cons pe_int (pa_cons pe_int pa_nil))) (pa_cons (pe_tup (pa_cons pe_int (pa_cons pe_int pa_nil))) (pa_cons (pe_tup (pa_cons pe_int (pa_cons pe_int pa_nil))) (pa_cons (pe_tup (pa_cons pe_int (pa_cons pe_int pa_nil))) (pa_cons (pe_tup (pa_cons pe_int (pa_cons pe_int pa_nil))) pa_nil))))))))), ?_⟩
  exact rd__law_three (K := K) h
end
end R45
end
section
set_option Elab.async false
set_option linter.all false
set_option maxRecDepth 100000
set_option maxHeartbeats 4000000
namespace R45
open PySem PySem.Spec PyProof.Rows L2 Evl LamX
section
variable {P0 : Program} {w : World} {K : PySem.W.Frag} {mg : Str → Option Value} {base : Heap} {CT CL CP CO CM PR PL : Addr} {qR qL : Str}
theorem ok_fits_table (z : Zs K mg) (D : DefF K mg d_fits_table) (c_is_tuple_of : C8.Cal P0 w K mg base 1 "is_tuple_of" sp_is_tuple_of []) (c_is_whole : C8.Cal P0 w K mg base 1 "is_whole" sp_is_whole []) : C8.Cal P0 w K mg base 2 "fits_table" sp_fits_table [] := by
  refine D.cal (k := 1) sc_fits_table (fun _ _ _ _ _ _ us hl => match us, hl with | [_], _ => rfl) len_fits_table fun f cdv A outer s H vs Q E hr h => ?_
  have nd := sc_fits_table.nd
  refine ⟨_, (pss_cons (ps_if (PW.pt (pw_or (pt_not (pt_val (C8.pe_c c_is_tuple_of hr (by decide) (by rfl) (pa_cons (pv 0) (pa_cons pe_int (pa_cons (C8.pe_gc (by rfl) z.ROWS) pa_nil)))))) (pw_or1 (pt_not (pt_val (pe_callB (r := rAll K) (cr_all rfl) (by rfl) z.all (by decide +kernel) (pa_cons (pe_lc (own := [("item", 2)]) rfl nd (pi_tupK (K := K) rfl (pv 0)) (blkOk_by (by kernel_rfl)) (fun _ _ _ _ _ => (pg_name (i := 2) nd rfl (Or.inl rfl))) (fun _ _ _ _ _ => pts_nil) (fun _ _ _ _ _ => (C8.pe_c c_is_tuple_of hr (by decide) (by rfl) (pa_cons (pv 2) (pa_cons pe_int (pa_cons (C8.pe_gc (by rfl) z.WAYS) pa_nil)))))) pa_nil))))))) (pss_one (ps_ret pe_bl)) pss_nil)
      (pss_cons (ps_set (i := 1) nd rfl (Or.inl rfl) (pe_callB (r := rLenS K) cr_lenS (by rfl) z.len PySem.boot_len (pa_cons (pe_ix (r := rIxT K) ix_tup (pv 0) pe_int (fun _ _ => rfl)) pa_nil)))
      (pss_cons (ps_for PassesOwn.never rfl (pi_tupK (K := K) rfl (pv 0)) (pg_name (i := 2) nd rfl (Or.inl rfl)) (pss_one (ps_if (PW.pt (pw_or (pt_cmpR op_ne (pe_callB (r := rLenS K) cr_lenS (by rfl) z.len PySem.boot_len (pa_cons (pv 2) pa_nil)) (pv 1) (nomark _)) (pw_or1 (pt_not (pt_val (pe_callB (r := rAll K) (cr_all rfl) (by rfl) z.all (by decide +kernel) (pa_cons (pe_lc (own := [("number", 3)]) rfl nd (pi_tupK (K := K) rfl (pv 2)) (blkOk_by (by kernel_rfl)) (fun _ _ _ _ _ => (pg_name (i := 3) nd rfl (Or.inl rfl))) (fun _ _ _ _ _ => pts_nil) (fun _ _ _ _ _ => (C8.pe_c c_is_whole hr (by decide) (by rfl) (pa_cons (pv 3) (pa_cons pe_int (pa_cons (pe_op op_sub (pe_callB (r := rLenS K) cr_lenS (by rfl) z.len PySem.boot_len (pa_cons (pv 0) pa_nil)) pe_int) pa_nil)))))) pa_nil))))))) (pss_one (ps_ret pe_bl)) pss_nil)))
      (pss_one (ps_ret (pe_callB (r := rAll K) (cr_all rfl) (by rfl) z.all (by decide +kernel) (pa_cons (pe_lc (own := [("way", 4)]) rfl nd (pi_range1 (by rfl) z.range (pa_cons (pv 1) pa_nil)) (blkOk_by (by kernel_rfl)) (fun _ _ _ _ _ => (pg_name (i := 4) nd rfl (Or.inr rfl))) (fun _ _ _ _ _ => pts_nil) (fun _ _ _ _ _ => (pe_cmpR op_eq (pe_lenSetAK (K := K) rfl (by rfl) z.len (by rfl) z.set (pe_lc (own := [("item", 2)]) rfl nd (pi_tupK (K := K) rfl (pv 0)) (blkOk_by (by kernel_rfl)) (fun _ _ _ _ _ => (pg_name (i := 2) nd rfl (Or.inl rfl))) (fun _ _ _ _ _ => pts_nil) (fun _ _ _ _ _ => (pe_ix (r := rIxT K) ix_tup (pv 2) (pv 4) (fun _ _ => rfl))))) (pe_callB (r := rLenS K) cr_lenS (by rfl) z.len PySem.boot_len (pa_cons (pv 0) pa_nil)) (nomark _)))) pa_nil))))))), ?_⟩
  exact rd_fits_table h
theorem ok_classes_by (z : Zs K mg) (D : DefF K mg d_classes_by) (c_class_by : C8.Cal P0 w K mg base 1 "class_by" sp_class_by []) : C8.Cal P0 w K mg base 2 "classes_by" sp_classes_by [] := by
  refine D.cal (k := 1) sc_classes_by (fun _ _ _ _ _ _ us hl => match us, hl with | [_], _ => rfl) len_classes_by fun f cdv A outer s H vs Q E hr h => ?_
  have nd := sc_classes_by.nd
  refine ⟨_, (pss_cons (ps_set (i := 1) nd rfl (Or.inl rfl) (pe_callTy (call_dictP rfl) (by rfl) z.dict (by decide +kernel) (pa_cons (pe_lc (own := [("number", 5), ("item", 6)]) rfl nd (pi_enumTK (K := K) rfl (by rfl) z.enumerate (pa_cons (pv 0) pa_nil)) (blkOk_by (by kernel_rfl)) (fun _ _ _ _ _ => (pg_tupK (K := K) (n := 2) rfl (by rfl) (pgs_cons (pg_name (i := 5) nd rfl (Or.inl rfl)) (pgs_cons (pg_name (i := 6) nd rfl (Or.inl rfl)) pgs_nil)))) (fun _ _ _ _ _ => pts_nil) (fun _ _ _ _ _ => (pe_tup (pa_cons (pe_ix (r := rIxT K) ix_tup (pv 6) pe_int (fun _ _ => rfl)) (pa_cons (pv 5) pa_nil))))) pa_nil)))
      (pss_cons (ps_par (i := 2) (j := 3) (by rfl) nd rfl rfl (by decide) rfl rfl (pa_cons (pe_lst pa_nil) (pa_cons (pe_listRg rfl (by rfl) z.list (prg_1 (by rfl) z.range (pe_callB (r := rLenS K) cr_lenS (by rfl) z.len PySem.boot_len (pa_cons (pv 0) pa_nil)))) pa_nil)) (by rfl))
      (pss_cons (ps_while PassesOwn.never (pt_cmpR (r := rNeD K) (op_neD hr.units) (pv 3) (pe_lst pa_nil) (nomark _)) (pss_cons (ps_set (i := 4) nd rfl (Or.inr rfl) (C8.pe_c c_class_by hr (by decide) (by rfl) (pa_cons (pv 0) (pa_cons (pv 1) (pa_cons (pe_ix (r := rIxL K) ix_list (pv 3) pe_int (fun _ _ => rfl)) pa_nil)))))
      (pss_one (ps_par (i := 2) (j := 3) (by rfl) nd rfl rfl (by decide) rfl rfl (pa_cons (pe_op op_cat (pv 2) (pe_lst (pa_cons (pv 4) pa_nil))) (pa_cons (pe_lc (own := [("number", 5)]) rfl nd (pi_listK (K := K) rfl (pv 3)) (blkOk_by (by kernel_rfl)) (fun _ _ _ _ _ => (pg_name (i := 5) nd rfl (Or.inl rfl))) (fun _ _ _ _ _ => (pts_one (pt_cmpR (r := rIn K true) op_notIn_seq (pv 5) (pv 4) (by rfl)))) (fun _ _ _ _ _ => (pv 5))) pa_nil)) (by rfl)))))
      (pss_one (ps_ret (pv 2)))))), ?_⟩
  exact rd_classes_by h
theorem ok_all_lots (z : Zs K mg) (D : DefF K mg d_all_lots)  : C8.Cal P0 w K mg base 1 "all_lots" sp_all_lots [] := by
  refine D.cal (k := 0) sc_all_lots (fun _ _ _ _ _ _ us hl => match us, hl with | [_], _ => rfl) len_all_lots fun f cdv A outer s H vs Q E hr h => ?_
  have nd := sc_all_lots.nd
  refine ⟨_, (pss_cons (ps_set (i := 1) nd rfl (Or.inl rfl) (pe_lst (pa_cons (pe_tup pa_nil) pa_nil)))
      (pss_cons (ps_for PassesOwn.never rfl (pi_range1 (by rfl) z.range (pa_cons (pv 0) pa_nil)) (pg_name (i := 2) nd rfl (Or.inr rfl)) (pss_one (ps_set (i := 1) nd rfl (Or.inl rfl) (pe_op op_cat (pv 1) (pe_lc (own := [("lot", 3)]) rfl nd (pi_listK (K := K) rfl (pv 1)) (blkOk_by (by kernel_rfl)) (fun _ _ _ _ _ => (pg_name (i := 3) nd rfl (Or.inl rfl))) (fun _ _ _ _ _ => pts_nil) (fun _ _ _ _ _ => (pe_op (r := rCatA K) op_catA (pv 3) (pe_tup (pa_cons (pv 2) pa_nil)))))))))
      (pss_one (ps_ret (pe_callB (r := rSortD K) (cr_sortD hr.units) (by rfl) z.sorted (by decide +kernel) (pa_cons (pv 1) pa_nil)))))), ?_⟩
  exact rd_all_lots h
theorem ok__law_roll (z : Zs K mg) (D : DefF K mg d__law_roll)  : C8.Cal P0 w K mg base 1 "_law_roll" sp__law_roll [] := by
  refine D.cal (k := 0) sc__law_roll (fun _ _ _ _ _ _ us hl => match us, hl with | [_, _], _ => rfl) len__law_roll fun f cdv A outer s H vs Q E hr h => ?_
  have nd := sc__law_roll.nd
  refine ⟨_, (pss_cons (ps_if (pt_cmpR op_gt (pe_ix (r := rIxL K) ix_list (pv 0) pe_int (fun _ _ => rfl)) pe_int (nomark _)) (pss_cons (ps_set (i := 2) nd rfl (Or.inl rfl) (pe_op op_mod (pe_callTy call_int1 (by rfl) z.int (by decide +kernel) (pa_cons (pe_ix (r := rIxL K) ix_list (pv 0) pe_int (fun _ _ => rfl)) pa_nil)) (pv 1)))
      (pss_cons (ps_asg (pe_op op_fdiv (pe_ix (r := rIxL K) ix_list (pv 0) pe_int (fun _ _ => rfl)) (pv 1)) (pg_sub (pv 0) pe_int set_list))
      (pss_one (ps_ret (pv 2))))) pss_nil)
      (pss_cons (ps_asg (pe_op op_mod (pe_callTy call_int1 (by rfl) z.int (by decide +kernel) (pa_cons (pe_op op_add (pe_op op_mul (pe_ix (r := rIxL K) ix_list (pv 0) pe_int (fun _ _ => rfl)) pe_int) pe_int) pa_nil)) pe_int) (pg_sub (pv 0) pe_int set_list))
      (pss_cons (ps_set (i := 3) nd rfl (Or.inl rfl) (pe_op op_mod (pe_callTy call_int1 (by rfl) z.int (by decide +kernel) (pa_cons (pe_op op_mul (pe_ix (r := rIxL K) ix_list (pv 0) pe_int (fun _ _ => rfl)) (pe_op op_add (pe_ix (r := rIxL K) ix_list (pv 0) pe_int (fun _ _ => rfl)) pe_int)) pa_nil)) pe_int))
      (pss_one (ps_ret (pe_op op_mod (pe_callTy call_int1 (by rfl) z.int (by decide +kernel) (pa_cons (pe_op op_fdiv (pv 3) pe_int) pa_nil)) (pv 1))))))), ?_⟩
  exact rd__law_roll h
theorem ok__law_rung (z : Zs K mg) (D : DefF K mg d__law_rung) (c__law_behind : C8.Cal P0 w K mg base 1 "_law_behind" sp__law_behind []) : C8.Cal P0 w K mg base 2 "_law_rung" sp__law_rung [] := by
  refine D.cal (k := 1) sc__law_rung (fun _ _ _ _ _ _ us hl => match us, hl with | [_, _], _ => rfl) len__law_rung fun f cdv A outer s H vs Q E hr h => ?_
  have nd := sc__law_rung.nd
  refine ⟨_, (pss_cons (ps_set (i := 2) nd rfl (Or.inl rfl) (pe_lst (pa_cons (pv 0) pa_nil)))
      (pss_cons (ps_for PassesOwn.never rfl (pi_tupK (K := K) rfl (pv 1)) (pg_name (i := 3) nd rfl (Or.inl rfl)) (pss_one (ps_expr (pe_bm PySem.F.plainAttrs_list PySem.F.slot_list_append PySem.F.type_list_append mt_append (pv 2) (pa_cons (C8.pe_c c__law_behind hr (by decide) (by rfl) (pa_cons (pe_ix (r := rIxL K) ix_list (pv 2) (pe_un un_neg pe_int) (fun _ _ => rfl)) (pa_cons (pv 3) pa_nil))) pa_nil)))))
      (pss_one (ps_ret (pe_slice sl_list (pv 2) (po_some pe_int) po_none))))), ?_⟩
  exact rd__law_rung h
theorem ok__law_roads (z : Zs K mg) (D : DefF K mg d__law_roads) (c__law_rounds : C8.Cal P0 w K mg base 1 "_law_rounds" sp__law_rounds []) (c__law_led : C8.Cal P0 w K mg base 3 "_law_led" sp__law_led []) : C8.Cal P0 w K mg base 4 "_law_roads" sp__law_roads [] := by
  refine D.cal (k := 3) sc__law_roads (fun _ _ _ _ _ _ us hl => match us, hl with | [_, _], _ => rfl) len__law_roads fun f cdv A outer s H vs Q E hr h => ?_
  have nd := sc__law_roads.nd
  refine ⟨_, (pss_cons (ps_par (i := 2) (j := 3) (by rfl) nd rfl rfl (by decide) rfl rfl (pa_cons (pe_dispT (hu_of hr) (C8.pe_c c__law_rounds hr (by decide) (by rfl) (pa_cons (pv 0) pa_nil)) (pe_tup pa_nil)) (pa_cons (pe_lst (pa_cons (C8.pe_c c__law_rounds hr (by decide) (by rfl) (pa_cons (pv 0) pa_nil)) pa_nil)) pa_nil)) (by rfl))
      (pss_cons (ps_while PassesOwn.never (pt_cmpR (r := rNeD K) (op_neD hr.units) (pv 3) (pe_lst pa_nil) (nomark _)) (pss_cons (ps_set (i := 4) nd rfl (Or.inl rfl) (pe_bm PySem.F.plainAttrs_list PySem.F.slot_list_pop PySem.F.type_list_pop mt_popAt (pv 3) (pa_cons pe_int pa_nil)))
      (pss_one (ps_for PassesOwn.never rfl (pi_enumTK (K := K) rfl (by rfl) z.enumerate (pa_cons (pv 1) pa_nil)) (pg_tupK (K := K) (n := 2) rfl (by rfl) (pgs_cons (pg_name (i := 5) nd rfl (Or.inl rfl)) (pgs_cons (pg_name (i := 6) nd rfl (Or.inl rfl)) pgs_nil))) (pss_cons (ps_set (i := 7) nd rfl (Or.inl rfl) (C8.pe_c c__law_led hr (by decide) (by rfl) (pa_cons (pv 4) (pa_cons (pv 6) pa_nil))))
      (pss_one (ps_if (pt_cmp (pc_dnotin (hu_of hr) (pv 7) (pv 2))) (pss_cons (ps_dput (hu_of hr) (pv 2) (pv 7) (pe_op (r := rCatA K) op_catA (pe_dget (hu_of hr) (pv 2) (pv 4) (fun _ _ => rfl)) (pe_tup (pa_cons (pv 5) pa_nil))) rfl)
      (pss_one (ps_expr (pe_bm PySem.F.plainAttrs_list PySem.F.slot_list_append PySem.F.type_list_append mt_append (pv 3) (pa_cons (pv 7) pa_nil))))) pss_nil)))))))
      (pss_one (ps_ret (pv 2))))), ?_⟩
  exact rd__law_roads h
theorem ok__law_class (z : Zs K mg) (D : DefF K mg d__law_class)  : C8.Cal P0 w K mg base 1 "_law_class" sp__law_class [] := by
  refine D.cal (k := 0) sc__law_class (fun _ _ _ _ _ _ us hl => match us, hl with | [_, _, _, _], _ => rfl) len__law_class fun f cdv A outer s H vs Q E hr h => ?_
  have nd := sc__law_class.nd
  refine ⟨_, (pss_cons (ps_set (i := 4) nd rfl (Or.inl rfl) (pe_callTy (call_dictP rfl) (by rfl) z.dict (by decide +kernel) (pa_cons (pe_lc (own := [("_law_at", 7), ("_law_item", 8)]) rfl nd (pi_enumTK (K := K) rfl (by rfl) z.enumerate (pa_cons (pv 0) pa_nil)) (blkOk_by (by kernel_rfl)) (fun _ _ _ _ _ => (pg_tupK (K := K) (n := 2) rfl (by rfl) (pgs_cons (pg_name (i := 7) nd rfl (Or.inl rfl)) (pgs_cons (pg_name (i := 8) nd rfl (Or.inl rfl)) pgs_nil)))) (fun _ _ _ _ _ => pts_nil) (fun _ _ _ _ _ => (pe_tup (pa_cons (pe_ix (r := rIxT K) ix_tup (pv 8) (pv 2) (fun _ _ => rfl)) (pa_cons (pv 7) pa_nil))))) pa_nil)))
      (pss_cons (ps_par (i := 5) (j := 6) (by rfl) nd rfl rfl (by decide) rfl rfl (pa_cons (pe_tup (pa_cons (pv 3) pa_nil)) (pa_cons (pe_dget (hu_of hr) (pv 4) (pe_ix (r := rIxT K) ix_tup (pe_ix (r := rIxT K) ix_tup (pv 0) (pv 3) (fun _ _ => rfl)) (pv 1) (fun _ _ => rfl)) (fun _ _ => rfl)) pa_nil)) (by rfl))
      (pss_cons (ps_while PassesOwn.never (pt_cmpR op_ne (pv 6) (pv 3) (nomark _)) (pss_one (ps_par (i := 5) (j := 6) (by rfl) nd rfl rfl (by decide) rfl rfl (pa_cons (pe_op (r := rCatA K) op_catA (pv 5) (pe_tup (pa_cons (pv 6) pa_nil))) (pa_cons (pe_dget (hu_of hr) (pv 4) (pe_ix (r := rIxT K) ix_tup (pe_ix (r := rIxT K) ix_tup (pv 0) (pv 6) (fun _ _ => rfl)) (pv 1) (fun _ _ => rfl)) (fun _ _ => rfl)) pa_nil)) (by rfl))))
      (pss_one (ps_ret (pv 5)))))), ?_⟩
  exact rd__law_class h
theorem ok__law_change (z : Zs K mg) (D : DefF K mg d__law_change) (c__law_changes : C8.Cal P0 w K mg base 1 "_law_changes" sp__law_changes []) (c__law_some : C8.Cal P0 w K mg base 2 "_law_some" sp__law_some []) : C8.Cal P0 w K mg base 3 "_law_change" sp__law_change [] := by
  refine D.cal (k := 2) sc__law_change (fun _ _ _ _ _ _ us hl => match us, hl with | [_, _], _ => rfl) len__law_change fun f cdv A outer s H vs Q E hr h => ?_
  have nd := sc__law_change.nd
  refine ⟨_, (pss_cons (ps_set (i := 2) nd rfl (Or.inl rfl) (C8.pe_c c__law_changes hr (by decide) (by rfl) (pa_cons (pv 1) pa_nil)))
      (pss_one (ps_ret (C8.pe_c c__law_some hr (by decide) (by rfl) (pa_cons (pv 0) (pa_cons (pe_op op_cat (pe_op op_rep (pe_slice sl_list (pv 2) (po_some pe_int) po_none) pe_int) (pv 2)) pa_nil)))))), ?_⟩
  exact rd__law_change h
theorem ok__law_two (z : Zs K mg) (D : DefF K mg d__law_two) (c__law_few : C8.Cal P0 w K mg base 5 "_law_few" sp__law_few []) (c__law_lead : C8.Cal P0 w K mg base 4 "_law_lead" sp__law_lead []) : C8.Cal P0 w K mg base 6 "_law_two" sp__law_two [] := by
  refine D.cal (k := 5) sc__law_two (fun _ _ _ _ _ _ us hl => match us, hl with | [_], _ => rfl) len__law_two fun f cdv A outer s H vs Q E hr h => ?_
  have nd := sc__law_two.nd
  refine ⟨_, (pss_cons (ps_asg (C8.pe_c c__law_few hr (by decide) (by rfl) (pa_cons (pv 0) pa_nil)) (pg_tupK (K := K) (n := 2) rfl (by rfl) (pgs_cons (pg_name (i := 1) nd rfl (Or.inl rfl)) (pgs_cons (pg_name (i := 2) nd rfl (Or.inl rfl)) pgs_nil))))
      (pss_one (ps_ret (pe_ifExp (pt_cmpR op_gt (pe_callB (r := rLenS K) cr_lenS (by rfl) z.len PySem.boot_len (pa_cons (pv 2) pa_nil)) pe_int (nomark _)) (pe_tup (pa_cons (pv 1) (pa_cons (pv 2) pa_nil))) (pe_tup (pa_cons (pv 1) (pa_cons (pe_op (r := rCatA K) op_catA (pv 2) (pe_tup (pa_cons (pe_ifExp (pt_cmpR op_lt (pv 1) pe_int (nomark _)) (C8.pe_c c__law_lead hr (by decide) (by rfl) (pa_cons (pv 0) (pa_cons (pv 1) (pa_cons pe_int pa_nil)))) (pe_tup (pa_cons (pe_tup (pa_cons pe_int (pa_cons pe_int pa_nil))) pa_nil))) pa_nil))) pa_nil))))))), ?_⟩
  exact rd__law_two h
theorem ok__law_any (z : Zs K mg) (D : DefF K mg d__law_any) (c__law_roll : C8.Cal P0 w K mg base 1 "_law_roll" sp__law_roll []) (c__law_two : C8.Cal P0 w K mg base 6 "_law_two" sp__law_two []) (c__law_table : C8.Cal P0 w K mg base 5 "_law_table" sp__law_table []) (c__law_paired : C8.Cal P0 w K mg base 3 "_law_paired" sp__law_paired []) (c__law_mixed : C8.Cal P0 w K mg base 2 "_law_mixed" sp__law_mixed []) : C8.Cal P0 w K mg base 7 "_law_any" sp__law_any [] := by
  refine D.cal (k := 6) sc__law_any (fun _ _ _ _ _ _ us hl => match us, hl with | [_, _], _ => rfl) len__law_any fun f cdv A outer s H vs Q E hr h => ?_
  have nd := sc__law_any.nd
  refine ⟨_, (pss_cons (ps_set (i := 2) nd rfl (Or.inl rfl) (C8.pe_c c__law_roll hr (by decide) (by rfl) (pa_cons (pv 0) (pa_cons pe_int pa_nil))))
      (pss_cons (ps_if (pt_cmpR op_eq (pv 2) pe_int (nomark _)) (pss_cons (ps_asg (C8.pe_c c__law_two hr (by decide) (by rfl) (pa_cons (pv 0) pa_nil)) (pg_tupK (K := K) (n := 2) rfl (by rfl) (pgs_cons (pg_name (i := 3) nd rfl (Or.inl rfl)) (pgs_cons (pg_name (i := 4) nd rfl (Or.inl rfl)) pgs_nil))))
      (pss_cons (ps_set (i := 5) nd rfl (Or.inl rfl) (C8.pe_c c__law_table hr (by decide) (by rfl) (pa_cons (pv 3) (pa_cons (pe_slice sl_tupA (pv 4) po_none (po_some pe_int)) pa_nil))))
      (pss_one (ps_if (pt_cmpR op_le (pe_callB (r := rLenS K) cr_lenS (by rfl) z.len PySem.boot_len (pa_cons (pv 5) pa_nil)) (pv 1) (nomark _)) (pss_one (ps_ret (pv 5))) pss_nil)))) pss_nil)
      (pss_cons (ps_set (i := 6) nd rfl (Or.inl rfl) (pe_op op_add pe_int (C8.pe_c c__law_roll hr (by decide) (by rfl) (pa_cons (pv 0) (pa_cons (pv 1) pa_nil)))))
      (pss_cons (ps_if (pt_cmpR op_eq (pv 2) pe_int (nomark _)) (pss_one (ps_ret (C8.pe_c c__law_paired hr (by decide) (by rfl) (pa_cons (pv 0) (pa_cons (pv 6) pa_nil))))) pss_nil)
      (pss_one (ps_ret (pe_tupleOfK (K := K) rfl (by rfl) z.tuple (pe_lc (own := [("_law_one", 7), ("_law_two_here", 8)]) rfl nd (pi_zipK (K := K) rfl (by rfl) z.zip (pa_cons (C8.pe_c c__law_mixed hr (by decide) (by rfl) (pa_cons (pv 0) (pa_cons (pv 6) pa_nil))) (pa_cons (C8.pe_c c__law_mixed hr (by decide) (by rfl) (pa_cons (pv 0) (pa_cons (pv 6) pa_nil))) pa_nil))) (blkOk_by (by kernel_rfl)) (fun _ _ _ _ _ => (pg_tupK (K := K) (n := 2) rfl (by rfl) (pgs_cons (pg_name (i := 7) nd rfl (Or.inl rfl)) (pgs_cons (pg_name (i := 8) nd rfl (Or.inl rfl)) pgs_nil)))) (fun _ _ _ _ _ => pts_nil) (fun _ _ _ _ _ => (pe_tup (pa_cons (pv 7) (pa_cons (pv 8) pa_nil)))))))))))), ?_⟩
  exact rd__law_any h
theorem ok__law_lots (z : Zs K mg) (D : DefF K mg d__law_lots)  : C8.Cal P0 w K mg base 1 "_law_lots" sp__law_lots [] := by
  refine D.cal (k := 0) sc__law_lots (fun _ _ _ _ _ _ us hl => match us, hl with | [_], _ => rfl) len__law_lots fun f cdv A outer s H vs Q E hr h => ?_
  have nd := sc__law_lots.nd
  refine ⟨_, (pss_cons (ps_set (i := 1) nd rfl (Or.inl rfl) (pe_lst (pa_cons (pe_tup pa_nil) pa_nil)))
      (pss_cons (ps_for PassesOwn.never rfl (pi_range1 (by rfl) z.range (pa_cons (pv 0) pa_nil)) (pg_name (i := 2) nd rfl (Or.inr rfl)) (pss_one (ps_set (i := 1) nd rfl (Or.inl rfl) (pe_op op_cat (pv 1) (pe_lc (own := [("_law_lot", 3)]) rfl nd (pi_listK (K := K) rfl (pv 1)) (blkOk_by (by kernel_rfl)) (fun _ _ _ _ _ => (pg_name (i := 3) nd rfl (Or.inl rfl))) (fun _ _ _ _ _ => pts_nil) (fun _ _ _ _ _ => (pe_op (r := rCatA K) op_catA (pv 3) (pe_tup (pa_cons (pv 2) pa_nil)))))))))
      (pss_one (ps_ret (pe_callB (r := rSortD K) (cr_sortD hr.units) (by rfl) z.sorted (by decide +kernel) (pa_cons (pv 1) pa_nil)))))), ?_⟩
  exact rd__law_lots h
theorem ok__law_six (z : Zs K mg) (D : DefF K mg d__law_six)  : C8.Cal P0 w K mg base 1 "_law_six" sp__law_six [] := by
  refine D.cal (k := 0) sc__law_six (fun _ _ _ _ _ _ us hl => match us, hl with | [], _ => rfl) len__law_six fun f cdv A outer s H vs Q E hr h => ?_
  have nd := sc__law_six.nd
  refine ⟨_, (pss_one (ps_ret (pe_tup (pa_cons (pe_tup (pa_cons pe_int (pa_cons pe_int pa_nil))) (pa_cons (pe_tup (pa_cons pe_int (pa_cons pe_int pa_nil))) (pa_cons (pe_tup (pa_cons pe_int (pa_cons pe_int pa_nil))) (pa_cons (pe_tup (pa_cons pe_int (pa_cons pe_int pa_nil))) (pa_cons (pe_tup (pa_cons pe_int (pa_cons pe_int pa_nil))) (pa_cons (pe_tup (pa_cons pe_int (pa_cons pe_int pa_nil))) pa_nil))))))))), ?_⟩
  exact rd__law_six (K := K) h
end
end R45
end
section
set_option Elab.async false
set_option linter.all false
set_option maxRecDepth 100000
set_option maxHeartbeats 4000000
namespace R45
open PySem PySem.Spec PyProof.Rows L2 Evl LamX
section
variable {P0 : Program} {w : World} {K : PySem.W.Frag} {mg : Str → Option Value} {base : Heap} {CT CL CP CO CM PR PL : Addr} {qR qL : Str}
theorem ok_need_two (z : Zs K mg) (xT : MkT K mg CT) (xM : MkM P0 w K mg base 1 CM) (D : DefF K mg d_need_two) (c_fits_table : C8.Cal P0 w K mg base 2 "fits_table" sp_fits_table []) : CalX P0 w K mg base 3 "need_two" (sp_need_two CT) := by
  refine D.calX (k := 2) sc_need_two (fun _ _ _ _ _ _ us hl => match us, hl with | [_], _ => rfl) len_need_two fun f cdv A outer s H vs Q E hr h => ?_
  have nd := sc_need_two.nd
  refine ⟨_, (pss_one (ps_if (PW.pt (pw_or (pt_not (pt_val (C8.pe_c c_fits_table hr (by decide) (by rfl) (pa_cons (pv 0) pa_nil)))) (pw_or1 (pt_cmpR op_ne (pe_callB (r := rLenS K) cr_lenS (by rfl) z.len PySem.boot_len (pa_cons (pe_ix (r := rIxT K) ix_tup (pv 0) pe_int (fun _ _ => rfl)) pa_nil)) pe_int (nomark _))))) (pss_one (ps_raise rfl (takes_of rfl rfl rfl rfl) (pmk_T xT (by rfl)))) pss_nil)), ?_⟩
  exact rd_need_two h
theorem ok_few_classes (z : Zs K mg) (xT : MkT K mg CT) (xM : MkM P0 w K mg base 1 CM) (D : DefF K mg d_few_classes) (c_need_two : CalX P0 w K mg base 3 "need_two" (sp_need_two CT)) (c_classes_by : C8.Cal P0 w K mg base 2 "classes_by" sp_classes_by []) : CalX P0 w K mg base 4 "few_classes" (sp_few_classes CT CM) := by
  refine D.calX (k := 3) sc_few_classes (fun _ _ _ _ _ _ us hl => match us, hl with | [_], _ => rfl) (fun vs H Q E h => lenX (x := "x") vs H Q E h) fun f cdv A outer s H vs Q E hr h => ?_
  have nd := sc_few_classes.nd
  refine ⟨_, (pss_cons (ps_expr (pe_cX c_need_two hr (by decide) (by rfl) (takes_of rfl rfl rfl rfl) (pa_cons (pv 0) pa_nil)))
      (pss_cons (ps_set (i := 1) nd rfl (Or.inl rfl) (C8.pe_c c_classes_by hr (by decide) (by rfl) (pa_cons (pv 0) pa_nil)))
      (pss_cons (ps_if (pt_cmpR op_gt (pe_callB (r := rLenS K) cr_lenS (by rfl) z.len PySem.boot_len (pa_cons (pv 1) pa_nil)) (C8.pe_gc (by rfl) z.CLASSES) (nomark _)) (pss_one (ps_raise rfl (takes_of rfl rfl rfl rfl) (pmk_M xM hr (by decide) (by rfl) (pa_cons (C8.pe_gc (by rfl) z.CLASSES) pa_nil)))) pss_nil)
      (pss_one (ps_ret (pv 1)))))), ?_⟩
  exact rd_few_classes h
theorem ok_one_block_lots (z : Zs K mg) (xT : MkT K mg CT) (xM : MkM P0 w K mg base 1 CM) (D : DefF K mg d_one_block_lots) (c_one_blocks_in : C8.Cal P0 w K mg base 3 "one_blocks_in" sp_one_blocks_in []) (c_few_classes : CalX P0 w K mg base 4 "few_classes" (sp_few_classes CT CM)) : CalX P0 w K mg base 5 "one_block_lots" (sp_one_block_lots CT CM) := by
  refine D.calX (k := 4) sc_one_block_lots (fun _ _ _ _ _ _ us hl => match us, hl with | [_], _ => rfl) (fun vs H Q E h => lenX (x := "x") vs H Q E h) fun f cdv A outer s H vs Q E hr h => ?_
  have nd := sc_one_block_lots.nd
  refine ⟨_, (pss_one (ps_ret (C8.pe_c c_one_blocks_in hr (by decide) (by rfl) (pa_cons (pv 0) (pa_cons (pe_cX c_few_classes hr (by decide) (by rfl) (takes_of rfl rfl rfl rfl) (pa_cons (pv 0) pa_nil)) pa_nil))))), ?_⟩
  exact rd_one_block_lots (K := K) h
theorem ok_lots_by_blocks (z : Zs K mg) (xT : MkT K mg CT) (xM : MkM P0 w K mg base 1 CM) (D : DefF K mg d_lots_by_blocks) (c_few_classes : CalX P0 w K mg base 4 "few_classes" (sp_few_classes CT CM)) (c_blocks_by : C8.Cal P0 w K mg base 2 "blocks_by" sp_blocks_by []) (c_all_lots : C8.Cal P0 w K mg base 1 "all_lots" sp_all_lots []) : CalX P0 w K mg base 5 "lots_by_blocks" (sp_lots_by_blocks CT CM) := by
  refine D.calX (k := 4) sc_lots_by_blocks (fun _ _ _ _ _ _ us hl => match us, hl with | [_], _ => rfl) (fun vs H Q E h => lenX (x := "x") vs H Q E h) fun f cdv A outer s H vs Q E hr h => ?_
  have nd := sc_lots_by_blocks.nd
  refine ⟨_, (pss_cons (ps_set (i := 1) nd rfl (Or.inr rfl) (pe_cX c_few_classes hr (by decide) (by rfl) (takes_of rfl rfl rfl rfl) (pa_cons (pv 0) pa_nil)))
      (pss_cons (ps_set (i := 2) nd rfl (Or.inr rfl) (pe_lc (own := [("lot", 3)]) rfl nd (pi_listK (K := K) rfl (C8.pe_c c_all_lots hr (by decide) (by rfl) (pa_cons (pe_callB (r := rLenS K) cr_lenS (by rfl) z.len PySem.boot_len (pa_cons (pv 1) pa_nil)) pa_nil))) (blkOk_by (by kernel_rfl)) (fun _ _ _ _ _ => (pg_name (i := 3) nd rfl (Or.inl rfl))) (fun _ _ _ _ _ => pts_nil) (fun _ _ _ _ _ => (pe_callB (r := rLenS K) cr_lenS (by rfl) z.len PySem.boot_len (pa_cons (C8.pe_c c_blocks_by hr (by decide) (by rfl) (pa_cons (pv 0) (pa_cons (pv 1) (pa_cons (pv 3) pa_nil)))) pa_nil)))))
      (pss_one (ps_ret (pe_lc (own := [("many", 4)]) rfl nd (pi_range2 (by rfl) z.range (pa_cons pe_int (pa_cons (pe_op op_add (pe_callB (r := rMax K) (cr_max rfl) (by rfl) z.max (by decide +kernel) (pa_cons (pv 2) pa_nil)) pe_int) pa_nil))) (blkOk_by (by kernel_rfl)) (fun _ _ _ _ _ => (pg_name (i := 4) nd rfl (Or.inr rfl))) (fun _ _ _ _ _ => pts_nil) (fun _ _ _ _ _ => (pe_callB (r := rLenS K) cr_lenS (by rfl) z.len PySem.boot_len (pa_cons (pe_lc (own := [("one", 5)]) rfl nd (pi_listK (K := K) rfl (pv 2)) (blkOk_by (by kernel_rfl)) (fun _ _ _ _ _ => (pg_name (i := 5) nd rfl (Or.inl rfl))) (fun _ _ _ _ _ => (pts_one (pt_cmpR op_eq (pv 5) (pv 4) (nomark _)))) (fun _ _ _ _ _ => (pv 5))) pa_nil)))))))), ?_⟩
  exact rd_lots_by_blocks h
theorem ok_least_lot (z : Zs K mg) (xT : MkT K mg CT) (xM : MkM P0 w K mg base 1 CM) (D : DefF K mg d_least_lot) (c_one_blocks_in : C8.Cal P0 w K mg base 3 "one_blocks_in" sp_one_blocks_in []) (c_few_classes : CalX P0 w K mg base 4 "few_classes" (sp_few_classes CT CM)) : CalX P0 w K mg base 5 "least_lot" (sp_least_lot CT CM) := by
  refine D.calX (k := 4) sc_least_lot (fun _ _ _ _ _ _ us hl => match us, hl with | [_], _ => rfl) (fun vs H Q E h => lenX (x := "x") vs H Q E h) fun f cdv A outer s H vs Q E hr h => ?_
  have nd := sc_least_lot.nd
  refine ⟨_, (pss_cons (ps_set (i := 1) nd rfl (Or.inl rfl) (C8.pe_c c_one_blocks_in hr (by decide) (by rfl) (pa_cons (pv 0) (pa_cons (pe_cX c_few_classes hr (by decide) (by rfl) (takes_of rfl rfl rfl rfl) (pa_cons (pv 0) pa_nil)) pa_nil))))
      (pss_cons (ps_if (pt_cmpR (r := rEqD K) (op_eqD hr.units) (pv 1) (pe_lst pa_nil) (nomark _)) (pss_one (ps_ret pe_non)) pss_nil)
      (pss_cons (ps_set (i := 2) nd rfl (Or.inr rfl) (pe_callB (r := rMin K) (cr_min rfl) (by rfl) z.min (by decide +kernel) (pa_cons (pe_lc (own := [("lot", 3)]) rfl nd (pi_listK (K := K) rfl (pv 1)) (blkOk_by (by kernel_rfl)) (fun _ _ _ _ _ => (pg_name (i := 3) nd rfl (Or.inl rfl))) (fun _ _ _ _ _ => pts_nil) (fun _ _ _ _ _ => (pe_callB (r := rLenS K) cr_lenS (by rfl) z.len PySem.boot_len (pa_cons (pv 3) pa_nil)))) pa_nil)))
      (pss_one (ps_ret (pe_ix (r := rIxL K) ix_list (pe_lc (own := [("lot", 3)]) rfl nd (pi_listK (K := K) rfl (pv 1)) (blkOk_by (by kernel_rfl)) (fun _ _ _ _ _ => (pg_name (i := 3) nd rfl (Or.inl rfl))) (fun _ _ _ _ _ => (pts_one (pt_cmpR op_eq (pe_callB (r := rLenS K) cr_lenS (by rfl) z.len PySem.boot_len (pa_cons (pv 3) pa_nil)) (pv 2) (nomark _)))) (fun _ _ _ _ _ => (pv 3))) pe_int (fun _ _ => rfl))))))), ?_⟩
  exact rd_least_lot h
end
end R45
end
section
set_option Elab.async false
set_option linter.all false
set_option maxRecDepth 100000
set_option maxHeartbeats 4000000
namespace R45
open PySem PySem.Spec PyProof.Rows L2 Evl LamX
section
variable {P0 : Program} {w : World} {K : PySem.W.Frag} {mg : Str → Option Value} {base : Heap} {CT CL CP CO CM PR PL : Addr} {qR qL : Str}
theorem ok__law_right (z : Zs K mg) {c : Addr} (D : DefT K mg d__law_right c) (dW : DefF K mg d__law_word) (xw : Xw K mg CT CL CP CO CM) (TB : TabB base mg c PR) (hqq : qR = Str.ofString "_law_right.<locals>.<lambda>") (c__law_classes : C8.Cal P0 w K mg base 2 "_law_classes" sp__law_classes []) (c_least_lot : CalX P0 w K mg base 5 "least_lot" (sp_least_lot CT CM)) (c__law_many : C8.Cal P0 w K mg base 2 "_law_many" sp__law_many []) (c__law_lots : C8.Cal P0 w K mg base 1 "_law_lots" sp__law_lots []) (c_one_block_lots : CalX P0 w K mg base 5 "one_block_lots" (sp_one_block_lots CT CM)) (c_lots_by_blocks : CalX P0 w K mg base 5 "lots_by_blocks" (sp_lots_by_blocks CT CM)) : C8.Cal P0 w K mg base 8 "_law_right" (sp__law_right PR qR) [] := by
  refine D.cal (k := 7) sc__law_right (fun _ _ _ _ _ _ us hl => match us, hl with | [_], _ => rfl) len__law_right fun f A outer s H vs Q E hr h => ?_
  have nd := sc__law_right.nd
  have hq : (envOfC "_law_right" (defScope s__law_right) s.heap.objs.size f (.ref c)).qual ++ "<lambda>" = qR := by rw [hqq]; rfl
  refine ⟨_, (pss_cons (ps_set (i := 1) nd rfl (Or.inr rfl) (C8.pe_c c__law_classes hr (by decide) (by rfl) (pa_cons (pv 0) (pa_cons pe_int (pa_cons pe_int pa_nil)))))
      (pss_cons (ps_if (pt_cmpR op_gt (pe_callB (r := rLenS K) cr_lenS (by rfl) z.len PySem.boot_len (pa_cons (pv 1) pa_nil)) pe_int (nomark _)) (pss_cons (ps_set (i := 2) nd rfl (Or.inl rfl) (pe_lst (pa_cons (pe_word (k := 5) (t := fun E => tCall (sp_one_block_lots CT CM) [] E (tCons (tVar 0) tNil)) (c := c) (P := PR) (q := qR) dW xw z.str (by rfl) TB rfl hq (hr.mono (by decide)) (lamS_by (by rfl)) (by rfl) (fun _ _ _ _ _ => rfl) (fun A outer s H E f c2 hr => pe_cX c_one_block_lots hr (by decide) (by rfl) (takes_of rfl rfl rfl rfl) (pa_cons (pv 0) pa_nil))) pa_nil)))
      (pss_cons (ps_expr (pe_bm PySem.F.plainAttrs_list PySem.F.slot_list_append PySem.F.type_list_append mt_append (pv 2) (pa_cons (pe_word (k := 5) (t := fun E => tCall (sp_lots_by_blocks CT CM) [] E (tCons (tVar 0) tNil)) (c := c) (P := PR) (q := qR) dW xw z.str (by rfl) TB rfl hq (hr.mono (by decide)) (lamS_by (by rfl)) (by rfl) (fun _ _ _ _ _ => rfl) (fun A outer s H E f c2 hr => pe_cX c_lots_by_blocks hr (by decide) (by rfl) (takes_of rfl rfl rfl rfl) (pa_cons (pv 0) pa_nil))) pa_nil)))
      (pss_one (ps_ret (pe_cmpR (r := rEqD K) (op_eqD hr.units) (pe_op op_cat (pv 2) (pe_lst (pa_cons (pe_word (k := 5) (t := fun E => tCall (sp_least_lot CT CM) [] E (tCons (tVar 0) tNil)) (c := c) (P := PR) (q := qR) dW xw z.str (by rfl) TB rfl hq (hr.mono (by decide)) (lamS_by (by rfl)) (by rfl) (fun _ _ _ _ _ => rfl) (fun A outer s H E f c2 hr => pe_cX c_least_lot hr (by decide) (by rfl) (takes_of rfl rfl rfl rfl) (pa_cons (pv 0) pa_nil))) pa_nil))) (pe_op op_rep (pe_lst (pa_cons pe_str pa_nil)) pe_int) (nomark _)))))) pss_nil)
      (pss_cons (ps_set (i := 3) nd rfl (Or.inr rfl) (pe_lc (own := [("_law_lot", 7)]) rfl nd (pi_listK (K := K) rfl (C8.pe_c c__law_lots hr (by decide) (by rfl) (pa_cons (pe_callB (r := rLenS K) cr_lenS (by rfl) z.len PySem.boot_len (pa_cons (pv 1) pa_nil)) pa_nil))) (blkOk_by (by kernel_rfl)) (fun _ _ _ _ _ => (pg_name (i := 7) nd rfl (Or.inl rfl))) (fun _ _ _ _ _ => pts_nil) (fun _ _ _ _ _ => (pe_tup (pa_cons (pv 7) (pa_cons (C8.pe_c c__law_many hr (by decide) (by rfl) (pa_cons (pv 0) (pa_cons (pv 1) (pa_cons (pv 7) pa_nil)))) pa_nil))))))
      (pss_cons (ps_par (i := 4) (j := 5) (by rfl) nd rfl rfl (by decide) rfl rfl (pa_cons (pe_lc (own := [("_law_lot", 7), ("_law_many_here", 8)]) rfl nd (pi_listK (K := K) rfl (pv 3)) (blkOk_by (by kernel_rfl)) (fun _ _ _ _ _ => (pg_tupK (K := K) (n := 2) rfl (by rfl) (pgs_cons (pg_name (i := 7) nd rfl (Or.inl rfl)) (pgs_cons (pg_name (i := 8) nd rfl (Or.inl rfl)) pgs_nil)))) (fun _ _ _ _ _ => (pts_one (pt_cmpR op_eq (pv 8) pe_int (nomark _)))) (fun _ _ _ _ _ => (pv 7))) (pa_cons (pe_callB (r := rMax K) (cr_max rfl) (by rfl) z.max (by decide +kernel) (pa_cons (pe_lc (own := [("_law_lot", 7), ("_law_many_here", 8)]) rfl nd (pi_listK (K := K) rfl (pv 3)) (blkOk_by (by kernel_rfl)) (fun _ _ _ _ _ => (pg_tupK (K := K) (n := 2) rfl (by rfl) (pgs_cons (pg_name (i := 7) nd rfl (Or.inl rfl)) (pgs_cons (pg_name (i := 8) nd rfl (Or.inl rfl)) pgs_nil)))) (fun _ _ _ _ _ => pts_nil) (fun _ _ _ _ _ => (pv 8))) pa_nil)) pa_nil)) (by rfl))
      (pss_cons (ps_if (PW.pt (pw_or (pt_cmpR (r := rNeD K) (op_neD hr.units) (pe_cL c_one_block_lots hr (by decide) (by rfl) (pa_cons (pv 0) pa_nil)) (pv 4) (nomark _)) (pw_or1 (pt_cmpR (r := rNeD K) (op_neD hr.units) (pe_cL c_lots_by_blocks hr (by decide) (by rfl) (pa_cons (pv 0) pa_nil)) (pe_lc (own := [("_law_at", 9)]) rfl nd (pi_range1 (by rfl) z.range (pa_cons (pv 5) pa_nil)) (blkOk_by (by kernel_rfl)) (fun _ _ _ _ _ => (pg_name (i := 9) nd rfl (Or.inr rfl))) (fun _ _ _ _ _ => pts_nil) (fun _ _ _ _ _ => (pe_callB (r := rLenS K) cr_lenS (by rfl) z.len PySem.boot_len (pa_cons (pe_lc (own := [("_law_lot", 7), ("_law_many_here", 8)]) rfl nd (pi_listK (K := K) rfl (pv 3)) (blkOk_by (by kernel_rfl)) (fun _ _ _ _ _ => (pg_tupK (K := K) (n := 2) rfl (by rfl) (pgs_cons (pg_name (i := 7) nd rfl (Or.inl rfl)) (pgs_cons (pg_name (i := 8) nd rfl (Or.inl rfl)) pgs_nil)))) (fun _ _ _ _ _ => (pts_one (pt_cmpR op_eq (pv 8) (pe_op op_add (pv 9) pe_int) (nomark _)))) (fun _ _ _ _ _ => pe_int)) pa_nil)))) (nomark _))))) (pss_one (ps_ret pe_bl)) pss_nil)
      (pss_cons (ps_set (i := 6) nd rfl (Or.inl rfl) (pe_callB (r := rSortD K) (cr_sortD hr.units) (by rfl) z.sorted (by decide +kernel) (pa_cons (pe_lc (own := [("_law_lot", 7)]) rfl nd (pi_listK (K := K) rfl (pv 4)) (blkOk_by (by kernel_rfl)) (fun _ _ _ _ _ => (pg_name (i := 7) nd rfl (Or.inl rfl))) (fun _ _ _ _ _ => pts_nil) (fun _ _ _ _ _ => (pe_tup (pa_cons (pe_callB (r := rLenS K) cr_lenS (by rfl) z.len PySem.boot_len (pa_cons (pv 7) pa_nil)) (pa_cons (pv 7) pa_nil))))) pa_nil)))
      (pss_one (ps_ret (pe_cmpR (r := rEqD K) (op_eqD hr.units) (pe_cL c_least_lot hr (by decide) (by rfl) (pa_cons (pv 0) pa_nil)) (pe_ifExp (pt_cmpR (r := rNeD K) (op_neD hr.units) (pv 6) (pe_lst pa_nil) (nomark _)) (pe_ix (r := rIxT K) ix_tup (pe_ix (r := rIxL K) ix_list (pv 6) pe_int (fun _ _ => rfl)) pe_int (fun _ _ => rfl)) pe_non) (nomark _)))))))))), ?_⟩
  exact rd__law_right xw h
end
end R45
end
section
set_option Elab.async false
set_option linter.all false
set_option maxRecDepth 100000
set_option maxHeartbeats 4000000
namespace R45
open PySem PySem.Spec PyProof.Rows L2 Evl LamX
section
variable {P0 : Program} {w : World} {K : PySem.W.Frag} {mg : Str → Option Value} {base : Heap} {CT CL CP CO CM PR PL : Addr} {qR qL : Str}
theorem ok_law (z : Zs K mg) {c : Addr} {f : Addr} {fd : FuncData} (D : DefTA K d_law f fd c) (dW : DefF K mg d__law_word) (xw : Xw K mg CT CL CP CO CM) (TB : TabB base mg c PL) (hqq : qL = Str.ofString "law.<locals>.<lambda>") (c__law_cup : C8.Cal P0 w K mg base 1 "_law_cup" (sp__law_cup K) []) (c__law_odd_tables : C8.Cal P0 w K mg base 1 "_law_odd_tables" sp__law_odd_tables []) (c__law_any : C8.Cal P0 w K mg base 7 "_law_any" sp__law_any []) (c__law_three : C8.Cal P0 w K mg base 1 "_law_three" sp__law_three []) (c__law_six : C8.Cal P0 w K mg base 1 "_law_six" sp__law_six []) (c_one_block_lots : CalX P0 w K mg base 5 "one_block_lots" (sp_one_block_lots CT CM)) (c_lots_by_blocks : CalX P0 w K mg base 5 "lots_by_blocks" (sp_lots_by_blocks CT CM)) (c_least_lot : CalX P0 w K mg base 5 "least_lot" (sp_least_lot CT CM)) (c__law_right : C8.Cal P0 w K mg base 8 "_law_right" (sp__law_right PR qR) []) (c__law_classes : C8.Cal P0 w K mg base 2 "_law_classes" sp__law_classes []) : FnOk P0 w K mg base C8.CX0 9 f fd ["_law_script"] (sp_law K PR qR PL qL) := by
  refine D.fn (k := 8) sc_law (fun _ _ _ _ _ _ us hl => match us, hl with | [_], _ => rfl) len_law fun f A outer s H vs Q E hr h => ?_
  have nd := sc_law.nd
  have hq : (envOfC "law" (defScope s_law) s.heap.objs.size f (.ref c)).qual ++ "<lambda>" = qL := by rw [hqq]; rfl
  refine ⟨_, (pss_cons (ps_set (i := 1) nd rfl (Or.inl rfl) (C8.pe_c c__law_cup hr (by decide) (by rfl) (pa_cons (pv 0) pa_nil)))
      (pss_cons (ps_for PassesOwn.never rfl (pi_range1 (by rfl) z.range (pa_cons pe_int pa_nil)) (pg_name (i := 2) nd rfl (Or.inl rfl)) (pss_cons (ps_set (i := 3) nd rfl (Or.inl rfl) (C8.pe_c c__law_any hr (by decide) (by rfl) (pa_cons (pv 1) (pa_cons pe_int pa_nil))))
      (pss_one (ps_if (PW.pt (pw_and (pt_cmpR op_le (pe_callB (r := rLenS K) cr_lenS (by rfl) z.len PySem.boot_len (pa_cons (C8.pe_c c__law_classes hr (by decide) (by rfl) (pa_cons (pv 3) (pa_cons pe_int (pa_cons pe_int pa_nil)))) pa_nil)) pe_int (nomark _)) (pw_and1 (pt_not (pt_val (C8.pe_c c__law_right hr (by decide) (by rfl) (pa_cons (pv 3) pa_nil))))))) (pss_one (ps_ret pe_bl)) pss_nil))))
      (pss_cons (ps_par (i := 4) (j := 5) (by rfl) nd rfl rfl (by decide) rfl rfl (pa_cons (pe_c0 c__law_three hr (by decide) (by rfl)) (pa_cons (pe_c0 c__law_six hr (by decide) (by rfl)) pa_nil)) (by rfl))
      (pss_cons (ps_if (PW.pt (pw_or (pt_cmpR (r := rNeD K) (op_neD hr.units) (pe_cL c_one_block_lots hr (by decide) (by rfl) (pa_cons (pv 4) pa_nil)) (pe_lst (pa_cons (pe_tup (pa_cons pe_int pa_nil)) (pa_cons (pe_tup (pa_cons pe_int pa_nil)) (pa_cons (pe_tup (pa_cons pe_int pa_nil)) pa_nil)))) (nomark _)) (pw_or (pt_cmpR (r := rNeD K) (op_neD hr.units) (pe_cL c_lots_by_blocks hr (by decide) (by rfl) (pa_cons (pv 4) pa_nil)) (pe_lst (pa_cons pe_int (pa_cons pe_int (pa_cons pe_int pa_nil)))) (nomark _)) (pw_or1 (pt_cmpR (r := rNeD K) (op_neD hr.units) (pe_cL c_least_lot hr (by decide) (by rfl) (pa_cons (pv 4) pa_nil)) (pe_tup (pa_cons pe_int pa_nil)) (nomark _)))))) (pss_one (ps_ret pe_bl)) pss_nil)
      (pss_cons (ps_if (PW.pt (pw_or (pt_cmpR (r := rNeD K) (op_neD hr.units) (pe_cL c_one_block_lots hr (by decide) (by rfl) (pa_cons (pv 5) pa_nil)) (pe_lst pa_nil) (nomark _)) (pw_or (pt_cmpR (r := rNeD K) (op_neD hr.units) (pe_cL c_lots_by_blocks hr (by decide) (by rfl) (pa_cons (pv 5) pa_nil)) (pe_lst (pa_cons pe_int (pa_cons pe_int (pa_cons pe_int pa_nil)))) (nomark _)) (pw_or1 (pt_cmpR op_notN (pe_cL c_least_lot hr (by decide) (by rfl) (pa_cons (pv 5) pa_nil)) pe_non (nomark _)))))) (pss_one (ps_ret pe_bl)) pss_nil)
      (pss_cons (ps_set (i := 6) nd rfl (Or.inl rfl) (pe_tupleOfK (K := K) rfl (by rfl) z.tuple (pe_lc (own := [("_law_at", 10)]) rfl nd (pi_range1 (by rfl) z.range (pa_cons pe_int pa_nil)) (blkOk_by (by kernel_rfl)) (fun _ _ _ _ _ => (pg_name (i := 10) nd rfl (Or.inl rfl))) (fun _ _ _ _ _ => pts_nil) (fun _ _ _ _ _ => (pe_tup (pa_cons (pe_op op_mod (pe_op op_add (pv 10) pe_int) pe_int) (pa_cons (pe_op op_mod (pe_op op_add (pv 10) pe_int) pe_int) pa_nil)))))))
      (pss_cons (ps_if (PW.pt (pw_or (pt_cmpR (r := rNeD K) (op_neD hr.units) (pe_cL c_least_lot hr (by decide) (by rfl) (pa_cons (pv 6) pa_nil)) (pe_tup pa_nil) (nomark _)) (pw_or (pt_cmpR (r := rNeD K) (op_neD hr.units) (pe_cL c_lots_by_blocks hr (by decide) (by rfl) (pa_cons (pv 6) pa_nil)) (pe_lst (pa_cons pe_int (pa_cons pe_int pa_nil))) (nomark _)) (pw_or1 (pt_not (pt_val (C8.pe_c c__law_right hr (by decide) (by rfl) (pa_cons (pv 6) pa_nil)))))))) (pss_one (ps_ret pe_bl)) pss_nil)
      (pss_cons (ps_set (i := 7) nd rfl (Or.inl rfl) (pe_lst (pa_cons (pe_tup (pa_cons (pe_tup (pa_cons pe_int (pa_cons pe_int pa_nil))) pa_nil)) (pa_cons (pe_tup (pa_cons (pe_tup (pa_cons pe_int (pa_cons pe_int pa_nil))) (pa_cons (pe_tup (pa_cons pe_int (pa_cons pe_int pa_nil))) pa_nil))) (pa_cons (pe_tup (pa_cons (pe_tup (pa_cons pe_int (pa_cons pe_int pa_nil))) (pa_cons (pe_tup (pa_cons pe_int (pa_cons pe_int pa_nil))) (pa_cons (pe_tup (pa_cons pe_int (pa_cons pe_int pa_nil))) pa_nil)))) (pa_cons (pe_tup (pa_cons (pe_tup (pa_cons pe_int (pa_cons pe_int pa_nil))) (pa_cons (pe_tup (pa_cons pe_int (pa_cons pe_int pa_nil))) (pa_cons (pe_tup (pa_cons pe_int (pa_cons pe_int pa_nil))) (pa_cons (pe_tup (pa_cons pe_int (pa_cons pe_int pa_nil))) pa_nil))))) (pa_cons (pe_tup (pa_cons (pe_tup (pa_cons pe_int (pa_cons pe_int pa_nil))) (pa_cons (pe_tup (pa_cons pe_int (pa_cons pe_int pa_nil))) (pa_cons (pe_tup (pa_cons pe_int (pa_cons pe_int pa_nil))) pa_nil)))) pa_nil)))))))
      (pss_cons (ps_if (PW.pt (pw_or (pt_cmpR (r := rNeD K) (op_neD hr.units) (pe_lc (own := [("_law_table_here", 3)]) rfl nd (pi_listK (K := K) rfl (pv 7)) (blkOk_by (by kernel_rfl)) (fun _ _ _ _ _ => (pg_name (i := 3) nd rfl (Or.inl rfl))) (fun _ _ _ _ _ => (pts_one (pt_not (pt_val (C8.pe_c c__law_right hr (by decide) (by rfl) (pa_cons (pv 3) pa_nil)))))) (fun _ _ _ _ _ => (pv 3))) (pe_lst pa_nil) (nomark _)) (pw_or1 (pt_cmpR (r := rNeD K) (op_neD hr.units) (pe_cL c_lots_by_blocks hr (by decide) (by rfl) (pa_cons (pe_tup (pa_cons (pe_tup (pa_cons pe_int (pa_cons pe_int pa_nil))) (pa_cons (pe_tup (pa_cons pe_int (pa_cons pe_int pa_nil))) pa_nil))) pa_nil)) (pe_lst (pa_cons pe_int (pa_cons pe_int pa_nil))) (nomark _))))) (pss_one (ps_ret pe_bl)) pss_nil)
      (pss_cons (ps_if (PW.pt (pw_or (pt_not (pt_val (C8.pe_c c__law_right hr (by decide) (by rfl) (pa_cons (pe_tupleOfK (K := K) rfl (by rfl) z.tuple (pe_lc (own := [("_law_at", 10)]) rfl nd (pi_range1 (by rfl) z.range (pa_cons pe_int pa_nil)) (blkOk_by (by kernel_rfl)) (fun _ _ _ _ _ => (pg_name (i := 10) nd rfl (Or.inl rfl))) (fun _ _ _ _ _ => pts_nil) (fun _ _ _ _ _ => (pe_tup (pa_cons (pv 10) (pa_cons (pv 10) pa_nil)))))) pa_nil)))) (pw_or1 (pt_not (pt_val (C8.pe_c c__law_right hr (by decide) (by rfl) (pa_cons (pe_tupleOfK (K := K) rfl (by rfl) z.tuple (pe_lc (own := [("_law_at", 10)]) rfl nd (pi_range1 (by rfl) z.range (pa_cons pe_int pa_nil)) (blkOk_by (by kernel_rfl)) (fun _ _ _ _ _ => (pg_name (i := 10) nd rfl (Or.inl rfl))) (fun _ _ _ _ _ => pts_nil) (fun _ _ _ _ _ => (pe_tup (pa_cons (pe_op op_mod (pe_op op_add (pv 10) pe_int) pe_int) (pa_cons (pe_op op_mod (pe_op op_add (pv 10) pe_int) pe_int) pa_nil)))))) pa_nil))))))) (pss_one (ps_ret pe_bl)) pss_nil)
      (pss_cons (ps_for PassesOwn.never rfl (pi_listK (K := K) rfl (pe_c0 c__law_odd_tables hr (by decide) (by rfl))) (pg_name (i := 8) nd rfl (Or.inr rfl)) (pss_cons (ps_set (i := 9) nd rfl (Or.inl rfl) (pe_lst (pa_cons (pe_word (k := 5) (t := fun E => tCall (sp_one_block_lots CT CM) [] E (tCons (tVar 8) tNil)) (c := c) (P := PL) (q := qL) dW xw z.str (by rfl) TB rfl hq (hr.mono (by decide)) (lamS_by (by rfl)) (by rfl) (fun _ _ _ _ _ => rfl) (fun A outer s H E f c2 hr => pe_cX c_one_block_lots hr (by decide) (by rfl) (takes_of rfl rfl rfl rfl) (pa_cons (pv 8) pa_nil))) pa_nil)))
      (pss_cons (ps_expr (pe_bm PySem.F.plainAttrs_list PySem.F.slot_list_append PySem.F.type_list_append mt_append (pv 9) (pa_cons (pe_word (k := 5) (t := fun E => tCall (sp_lots_by_blocks CT CM) [] E (tCons (tVar 8) tNil)) (c := c) (P := PL) (q := qL) dW xw z.str (by rfl) TB rfl hq (hr.mono (by decide)) (lamS_by (by rfl)) (by rfl) (fun _ _ _ _ _ => rfl) (fun A outer s H E f c2 hr => pe_cX c_lots_by_blocks hr (by decide) (by rfl) (takes_of rfl rfl rfl rfl) (pa_cons (pv 8) pa_nil))) pa_nil)))
      (pss_one (ps_if (pt_cmpR (r := rNeD K) (op_neD hr.units) (pe_op op_cat (pv 9) (pe_lst (pa_cons (pe_word (k := 5) (t := fun E => tCall (sp_least_lot CT CM) [] E (tCons (tVar 8) tNil)) (c := c) (P := PL) (q := qL) dW xw z.str (by rfl) TB rfl hq (hr.mono (by decide)) (lamS_by (by rfl)) (by rfl) (fun _ _ _ _ _ => rfl) (fun A outer s H E f c2 hr => pe_cX c_least_lot hr (by decide) (by rfl) (takes_of rfl rfl rfl rfl) (pa_cons (pv 8) pa_nil))) pa_nil))) (pe_op op_rep (pe_lst (pa_cons pe_str pa_nil)) pe_int) (nomark _)) (pss_one (ps_ret pe_bl)) pss_nil)))))
      (pss_one (ps_ret pe_bl))))))))))))), ?_⟩
  exact rd_law rfl rfl xw h
end
end R45
end
section
set_option Elab.async false
set_option linter.all false
set_option maxRecDepth 100000
set_option maxHeartbeats 0
namespace R45
open PySem PySem.Spec PyProof.Rows L2
def fa1 : List He.Fa := [.glo "is_whole", .glo "is_tuple_of", .glo "fits_table", .glo "blocks_in", .glo "class_by", .glo "classes_by", .glo "nexts_of", .glo "blocks_by", .glo "need_two", .glo "all_lots", .glo "few_classes", .glo "one_blocks_in", .glo "one_block_lots", .glo "lots_by_blocks", .glo "least_lot", .glo "_law_cup", .glo "_law_roll", .glo "_law_some", .glo "_law_behind", .glo "_law_rung", .glo "_law_led", .glo "_law_rounds"]
def fa2 : List He.Fa := [.glo "_law_roads", .glo "_law_table", .glo "_law_blocks", .glo "_law_class", .glo "_law_classes", .glo "_law_changes", .glo "_law_change", .glo "_law_lead", .glo "_law_few", .glo "_law_two", .glo "_law_mixed", .glo "_law_paired", .glo "_law_any", .glo "_law_turn", .glo "_law_many", .glo "_law_lots", .glo "_law_word", .glo "_law_odd_tables", .glo "_law_three", .glo "_law_six", .glo "_law_right", .glo "law"]
def fa3 : List He.Fa := [.glo "InvalidTable", .glo "InvalidLot", .glo "NotPaired", .glo "NotOneBlock", .glo "TooMany", .free "len", .free "range", .free "list", .free "tuple", .free "dict", .free "set", .free "enumerate", .free "zip", .free "sorted", .free "all", .free "max", .free "min", .free "abs", .free "int", .free "isinstance", .free "bool", .free "str", .free "super"]
def fa4 : List He.Fa := [.int "ROWS" 720, .int "WAYS" 6, .int "CLASSES" 12, .exc "InvalidTable", .exm "InvalidTable" "InvalidTable" true, .exm "TooMany" "InvalidTable" false, .exm "TooMany" "InvalidLot" false, .exm "TooMany" "NotPaired" false, .exm "TooMany" "NotOneBlock" false, .exm "TooMany" "TooMany" true, .noat "TooMany" "limit", .meth "TooMany" "__init__"]
def fa : List He.Fa := fa1 ++ (fa2 ++ (fa3 ++ fa4))
def initS : Stmt := (C8.clsBody (topS 3)).getD 0 (.Pass ⟨0, 0, 0, 0⟩)
abbrev aM (K : PySem.W.Frag) : Addr := He.ga K "TooMany"
abbrev aI (K : PySem.W.Frag) : Addr := He.ma K (aM K) "__init__"
/-- the class of the error with a field -/
def oexB (K : PySem.W.Frag) : Bool := match K.lookup (aM K) with
  | some ⟨.type c, _, .cls cd, sl⟩ => decide (c = "type") && (decide (cd.mro.head? = some (.ref (aM K))) && (PySem.HandSPX.refsVE cd.mro.tail && (cd.hasDict && (!cd.hasDel && (decide (sl.size = 6) && decide (sl.getD 4 none = some (.builtin "ValueError.__new__")))))))
  | _ => false
def oexB2 (K : PySem.W.Frag) : Bool := decide (PySem.W.findIn K (.ref (aM K)) "__setattr__" = some (some (.builtin "object.__setattr__"))) && (decide (PySem.W.subIn K (.ref (aM K)) (.type "BaseException") = some true) && (decide (PySem.W.typeIn K (.ref (aM K)) = some (.type "type")) && PySem.W.keepIn K (.ref (aM K))))
/-- its __init__ -/
abbrev FnC : Type := Option (Str × Str × Arguments × FuncBody × Scope × Addr × List Str × Addr)
def fnC (K : PySem.W.Frag) : FnC := match K.lookup (aI K) with
  | some ⟨_, _, .func fd, _⟩ => some (fd.name, fd.qualname, fd.params, fd.body, fd.scope, fd.globals, fd.closure.map (·.1), fd.builtins)
  | _ => none
def cVal : FnC := some ("__init__", "TooMany.__init__", defArgs initS, .stmts (defBody initS), defScope initS, mainGlobals, ["__class__"], builtinsNs)
def initB (file : Str) (K : PySem.W.Frag) : Bool := match K.lookup (aI K) with
  | some ⟨_, _, .func fd, _⟩ => decide (fd.defaults = .none) && (decide (fd.kwdefaults = .none) && (fd.annotations.isNone && ((match fd.code with
      | .ref c => PySem.W.codeIn K (.ref c) "TooMany.__init__" && (match K.lookup c with
        | some ⟨_, _, .fields vs, _⟩ => (match vs.getD 2 .none with
          | .str f _ => file == f
          | _ => false)
        | _ => false)
      | _ => false) && (match fd.closure with
      | [(_, cc)] => (match K.lookup cc with
        | some ⟨_, _, .cell (some (.ref C)), _⟩ => decide (C = aM K)
        | _ => false)
      | _ => false))))
  | _ => false
def supB (K : PySem.W.Frag) : Bool := decide (PySem.W.ks_superIn K (aM K) (aM K) "__init__" = some (some (.builtin "ValueError.__init__"))) && (decide (PySem.W.subIn K (.ref (aM K)) (.type "ValueError") = some true) && (decide (PySem.W.mroIn K (aM K) (.ref (aM K)) = some true) && (He.eqO (PySem.W.nsIn K cStatics "thirdparty.any") (some none) && L2.xfB K (aM K))))
def fileS : Str := PySem.Challenge.pw_rungonce_k45_whole_lots_gone_through.main.file
def exB (K : PySem.W.Frag) : Bool := oexB K && (oexB2 K && (initB fileS K && (supB K && decide ((He.cT K ("_law_right", none)).2 ≠ (He.cT K ("law", none)).2))))
def tf : List He.Defn := [("_law_right", none), ("law", none)]
/-! ### the Hook -/
def kX (g : Addr → Option Obj) : PySem.W.Frag := He.frT g (He.asD g 5 ++ [cStatics])
abbrev AlY : Type := (He.AlT × Bool) × FnC
def obsY (g : Addr → Option Obj) : AlY := ((He.obsT fa fn [] (kX g), exB (kX g) && He.tabsB g tf (kX g)), fnC (kX g))
def valY (w : World) : AlY := ((He.valT fn [] w, true), cVal)
structure SaysY (w : World) (h : Heap) (K : PySem.W.Frag) : Prop where
  t : He.SaysT fa fn [] w K
  more : exB K = true
  hd : ∀ p ∈ tf, PySem.W.codeHdIn K (He.cT K p).1 (He.cT K p).2 = true
  out : ∀ p ∈ tf, K.lookup (He.cT K p).2 = none
  empty : ∀ p ∈ tf, h.get? (He.cT K p).2 = some { cls := .none, data := .fields #[] }
  c : fnC K = cVal
theorem saysY_of {w : World} {h : Heap} (e : obsY h.get? = valY w) : SaysY w h (kX h.get?) := by
  have e1 : He.obsT fa fn [] (kX h.get?) = He.valT fn [] w := congrArg (fun z : AlY => z.1.1) e
  have e2 : (exB (kX h.get?) && He.tabsB h.get? tf (kX h.get?)) = true := congrArg (fun z : AlY => z.1.2) e
  have e3 : fnC (kX h.get?) = cVal := congrArg (fun z : AlY => z.2) e
  obtain ⟨h1, h2⟩ := He.ba e2
  have key : ∀ p ∈ tf, PySem.W.codeHdIn (kX h.get?) (He.cT (kX h.get?) p).1 (He.cT (kX h.get?) p).2 = true ∧ ∃ o, h.get? (He.cT (kX h.get?) p).2 = some o ∧ He.emptyTab o = true := fun p hp => by
    obtain ⟨h3, h4⟩ := He.ba (List.all_eq_true.mp h2 p hp)
    refine ⟨h3, ?_⟩
    cases q : h.get? (He.cT (kX h.get?) p).2 with
    | none =>
      rw [q] at h4
      cases h4
    | some o =>
      rw [q] at h4
      exact ⟨o, rfl, h4⟩
  exact ⟨e1, h1, fun p hp => (key p hp).1, fun p hp => by
    obtain ⟨_, o, q, z⟩ := key p hp
    exact He.frT_none q z, fun p hp => by
    obtain ⟨_, o, q, z⟩ := key p hp
    rw [q, He.emptyTab_eq z], e3⟩
def hk : PySem.W.Hook where
  α := AlY
  obs := fun s => obsY s.heap.get?
  val := fun w => valY w
  says := fun w h => ∃ K : PySem.W.Frag, K.In h ∧ SaysY w h K
  of := fun _ _ e => ⟨_, He.frT_in, saysY_of e⟩
  keeps := fun _ _ _ ⟨K, hK, c⟩ k => ⟨K, PySem.W.Frag.In.keeps hK k, ⟨c.t, c.more, c.hd, c.out, fun p hp => k _ _ (c.empty p hp), c.c⟩⟩
theorem obsY_eq {g : Addr → Option Obj} {s : Shared} (h : ∀ a, g a = s.heap.get? a) : obsY g = hk.obs s := by
  have e : g = s.heap.get? := funext h
  rw [e] <;> rfl
def ob (s : PySem.W.SharedT) : AlY := obsY (HandSHeadRun.getT s)
theorem ob_eq (s : PySem.W.SharedT) : ob s = hk.obs s.abs := obsY_eq (HandSHeadRun.getT_eq s)
abbrev R : PySem.W.OpenRow := PySem.W.OpenLaw.row PySem.Challenge.rw_rungonce_k45_whole_lots_gone_through
def loose0 : List PySem.Str := ["OnceError", "InvalidTable", "TooMany", "InvalidLot", "NotPaired", "NotOneBlock", "ROWS", "WAYS", "CLASSES"]
def looseN : List PySem.Str := loose0 ++ ((fn.map (·.name)).filter (fun x => x != PySem.Str.ofString "law"))
end R45
end
section
set_option Elab.async false
set_option linter.all false
set_option maxRecDepth 100000
set_option maxHeartbeats 4000000
namespace R45
open PySem PySem.Spec PyProof.Rows L2 Evl LamX NdefX PySem.W
abbrev P45 : Program := PySem.Challenge.pw_rungonce_k45_whole_lots_gone_through
theorem sc_init : NScope ["self", "limit", "__class__"] ["self", "limit"] ["__class__"] (defScope initS) := ⟨rfl, rfl, rfl, by decide, rfl, by decide +kernel, by decide +kernel, by decide +kernel, by decide +kernel⟩
section
variable {w : World} {K : PySem.W.Frag} {mg : Str → Option Value} {base h : Heap}
theorem oexC_of (h1 : oexB K = true) (h2 : oexB2 K = true) : OexC K (aM K) := by
  have hc : ∃ nm q N bs bm sn sub ab col dd k0 k1 k2 k3 k5, K.lookup (aM K) = some (excClassObj nm q (aM K) N bs bm true sn sub ab col dd k0 k1 k2 k3 k5 "ValueError.__new__") ∧ PySem.HandSPX.refsVE bm = true := by
    unfold oexB at h1
    cases e : K.lookup (aM K) with
    | none =>
      rw [e] at h1
      cases h1
    | some o =>
      rw [e] at h1
      obtain ⟨oc, od, dt, osl⟩ := o
      cases oc with
      | type c =>
        cases dt with
        | cls cd =>
          obtain ⟨a1, h1⟩ := He.ba h1
          obtain ⟨a2, h1⟩ := He.ba h1
          obtain ⟨a3, h1⟩ := He.ba h1
          obtain ⟨a4, h1⟩ := He.ba h1
          obtain ⟨a5, h1⟩ := He.ba h1
          obtain ⟨a6, a7⟩ := He.ba h1
          have a1 := of_decide_eq_true a1
          have a2 := of_decide_eq_true a2
          have a6 := of_decide_eq_true a6
          have a7 := of_decide_eq_true a7
          obtain ⟨nm, bs, mro, ns, qn, hd, sn, sub, ab, col, del⟩ := cd
          dsimp only at a2 a3 a4 a5
          obtain ⟨bm, rfl⟩ : ∃ bm, mro = .ref (aM K) :: bm := by
            cases mro with
            | nil => simp at a2
            | cons x r =>
              rw [List.head?_cons] at a2
              cases a2
              exact ⟨r, rfl⟩
          have a5 : del = false := by simpa using a5
          subst a1 a4 a5
          have hsl : ∃ k0 k1 k2 k3 k5, osl = #[k0, k1, k2, k3, some (.builtin "ValueError.__new__"), k5] := by
            obtain ⟨l⟩ := osl
            match l, a6, a7 with
            | [k0, k1, k2, k3, k4, k5], _, a7 =>
              have a8 : k4 = some (.builtin "ValueError.__new__") := by simpa using a7
              exact ⟨k0, k1, k2, k3, k5, by rw [a8]⟩
          obtain ⟨k0, k1, k2, k3, k5, rfl⟩ := hsl
          exact ⟨nm, qn, ns, bs, bm, sn, sub, ab, col, od, k0, k1, k2, k3, k5, rfl, a3⟩
        | _ => cases h1
      | _ => cases dt <;> cases h1
  unfold oexB2 at h2
  obtain ⟨b1, h2⟩ := He.ba h2
  obtain ⟨b2, h2⟩ := He.ba h2
  obtain ⟨b3, b4⟩ := He.ba h2
  exact ⟨hc, of_decide_eq_true b1, of_decide_eq_true b2, of_decide_eq_true b3, b4⟩
theorem mkM_of (hsm : mg "super" = none) (hstr : mg "str" = none) (hgM : mg "TooMany" = some (.ref (aM K))) (hme : Meth K (aM K) "__init__" (aI K)) (hno : findIn K (.ref (aM K)) "limit" = some none) (hx : exB K = true) (hC : fnC K = cVal) : MkM P45 w K mg base 1 (aM K) := by
  unfold exB at hx
  obtain ⟨x1, hx⟩ := He.ba hx
  obtain ⟨x2, hx⟩ := He.ba hx
  obtain ⟨x3, hx⟩ := He.ba hx
  obtain ⟨x4, _⟩ := He.ba hx
  have T := oexC_of x1 x2
  unfold supB at x4
  obtain ⟨y1, x4⟩ := He.ba x4
  obtain ⟨y2, x4⟩ := He.ba x4
  obtain ⟨y3, x4⟩ := He.ba x4
  obtain ⟨y4, _⟩ := He.ba x4
  have y4 := He.eqO_ok y4
  obtain ⟨m1, m2, m3⟩ := hme
  unfold initB at x3
  unfold fnC at hC
  cases e : K.lookup (aI K) with
  | none =>
    rw [e] at x3
    cases x3
  | some o =>
    rw [e] at x3 hC
    obtain ⟨oc, od, dt, osl⟩ := o
    cases dt with
    | func fd =>
      obtain ⟨n1, n2, n3, n4, n5, n6, n7, n8, n9, n10, n11, n12, n13, n14, n15⟩ := fd
      have hC2 : (some (n1, n2, n3, n4, n5, n6, n7.map (·.1), n15) : FnC) = (some (("__init__" : Str), ("TooMany.__init__" : Str), defArgs initS, FuncBody.stmts (defBody initS), defScope initS, mainGlobals, [("__class__" : Str)], builtinsNs) : FnC) := hC
      simp only [Option.some.injEq, Prod.mk.injEq] at hC2
      obtain ⟨c1, c2, c3, c4, c5, c6, c7, c8⟩ := hC2
      subst c1 c2 c3 c4 c5 c6 c8
      obtain ⟨z1, x3⟩ := He.ba x3
      obtain ⟨z2, x3⟩ := He.ba x3
      obtain ⟨z3, x3⟩ := He.ba x3
      obtain ⟨z4, z5⟩ := He.ba x3
      have v1 : n8 = .none := of_decide_eq_true z1
      have v2 : n9 = .none := of_decide_eq_true z2
      have v3 : n12 = none := by simpa using z3
      clear z1 z2 z3
      subst v1 v2 v3
      dsimp only at z4 z5
      cases n13 with
      | ref c =>
        obtain ⟨w1, w2⟩ := He.ba z4
        cases e2 : K.lookup c with
        | none =>
          rw [e2] at w2
          cases w2
        | some o2 =>
          rw [e2] at w2
          obtain ⟨oc2, od2, dt2, osl2⟩ := o2
          cases dt2 with
          | fields vs =>
            dsimp only at w2
            cases e3 : vs.getD 2 .none with
            | str f tk =>
              rw [e3] at w2
              have hvs : vs[2]? = some (.str f tk) := by
                rw [Array.getD_eq_getD_getElem?] at e3
                cases q : vs[2]? with
                | none => rw [q] at e3; cases e3
                | some v => rw [q] at e3; exact congrArg some e3
              cases n7 with
              | nil => cases z5
              | cons p r =>
                cases r with
                | cons _ _ => simp at c7
                | nil =>
                  obtain ⟨s, cc⟩ := p
                  have hs : s = "__class__" := by simpa using c7
                  subst hs
                  dsimp only at z5
                  cases e4 : K.lookup cc with
                  | none =>
                    rw [e4] at z5
                    cases z5
                  | some o4 =>
                    rw [e4] at z5
                    obtain ⟨oc4, od4, dt4, osl4⟩ := o4
                    cases dt4 with
                    | cell v =>
                      cases v with
                      | none => cases z5
                      | some v =>
                        cases v with
                        | ref C =>
                          have z5 : C = aM K := of_decide_eq_true z5
                          subst z5
                          refine ⟨aI K, _, ["self", "limit"], m1, by unfold isFn at m2; exact eq_of_beq m2, fn_super (k := 0) (F := ⟨"__init__", "TooMany.__init__", defArgs initS, defBody initS, defScope initS, [("__class__", cc)], c⟩) (N := ["self", "limit", "__class__"]) (doc := n10) (pm := n11) (ct := n14) e rfl rfl w1 e2 hvs w2 e4 T (of_decide_eq_true y1) (of_decide_eq_true y2) (of_decide_eq_true y3) y4 hsm (by decide +kernel)
                            sc_init rfl rfl rfl (by decide) (fun L => by rfl) (fun L => by rfl) (fun L => by rfl) (fun vs H Q E hsp => ?_) (fun A outer s H vs Q E hr hsp => ?_), ?_, T, hgM⟩
                          · obtain ⟨a, rfl, _⟩ := hsp
                            rfl
                          · obtain ⟨a, rfl, ha, hQ⟩ := hsp
                            refine ⟨a, _, _, rfl, ha, pa_cons (pe_op op_add_str pe_str (pe_callTy call_str_int rfl hstr (by decide +kernel) (pa_cons (pv 1) pa_nil))) pa_nil, pss_one (ps_ost (pv 0) (pv 1) (by rfl)), ?_⟩
                            refine ⟨.int 12, rfl, 12, rfl, by decide +kernel, _, _, rfl, rfl, by decide +kernel, by simp, ha, .int 12, rfl, .ref a, rfl, a, aM K, rfl, T, hno, .inl ⟨ha, fun dx h1 h2 => hQ dx h1 h2⟩⟩
                          · exact Binds.all fun us hl => match us, hl with | [_, _], _ => rfl
                        | _ => cases z5
                    | _ => cases z5
            | _ => rw [e3] at w2; cases w2
          | _ => cases w2
      | _ => cases z4
    | _ => cases x3
end
end R45
end
section
set_option Elab.async false
set_option linter.all false
set_option maxRecDepth 100000
set_option maxHeartbeats 4000000
namespace R45
open PySem PySem.Spec PyProof.Rows L2 Evl LamX NdefX PySem.W
section
variable {w : World} {K : PySem.W.Frag} {mg : Str → Option Value} {base h : Heap}
theorem int_rel (X : K.In h) (G : h.Ns mainGlobals mg) {x : Str} {i : Int} (c : (He.Fa.int x i).ok K = true) : ∃ u, mg x = some u ∧ RelV (.int i) u := by
  obtain ⟨t, e⟩ := He.int_ok X G c
  exact ⟨_, e, t, rfl⟩
theorem defF_of (X : K.In h) (G : h.Ns mainGlobals mg) {d : He.DefD} (h1 : ∃ fd, FunD K d.name d.qual d.params d.body d.scope (d.dvs K) (d.kws K) (He.fAd K d.at_) fd) (h2 : mg d.name = some (.ref (He.fAd K d.at_))) (e1 : d.dvs K = [] := by rfl) (e2 : d.kws K = [] := by rfl) : DefF K mg d := by
  obtain ⟨fd, F⟩ := h1
  rw [e1, e2] at F
  exact ⟨_, fd, F, h2⟩
theorem defT_of (X : K.In h) (G : h.Ns mainGlobals mg) {d : He.DefD} (h1 : ∃ fd, FunD K d.name d.qual d.params d.body d.scope (d.dvs K) (d.kws K) (He.fAd K d.at_) fd) (h2 : mg d.name = some (.ref (He.fAd K d.at_))) (e1 : d.dvs K = [] := by rfl) (e2 : d.kws K = [] := by rfl) : DefT K mg d (He.codeOf K d.at_) := by
  obtain ⟨fd, F⟩ := h1
  rw [e1, e2] at F
  refine ⟨_, fd, F, h2, ?_⟩
  obtain ⟨oc, od, dV, kV, doc, pm, an, cdv, ct, osl, rfl, lk, hcd, _, _⟩ := F.ex
  show cdv = .ref (He.codeOf K d.at_)
  cases cdv with
  | ref c =>
    rw [He.codeOf_eq lk rfl]
  | _ => cases hcd
theorem zs_of (X : K.In h) (G : h.Ns mainGlobals mg) (c : He.SaysD fa fn K) : Zs K mg :=
  ⟨(He.free_ok X G (c.fact 49 (f := .free "len") rfl)),
   (He.free_ok X G (c.fact 50 (f := .free "range") rfl)),
   (He.free_ok X G (c.fact 51 (f := .free "list") rfl)),
   (He.free_ok X G (c.fact 52 (f := .free "tuple") rfl)),
   (He.free_ok X G (c.fact 53 (f := .free "dict") rfl)),
   (He.free_ok X G (c.fact 54 (f := .free "set") rfl)),
   (He.free_ok X G (c.fact 55 (f := .free "enumerate") rfl)),
   (He.free_ok X G (c.fact 56 (f := .free "zip") rfl)),
   (He.free_ok X G (c.fact 57 (f := .free "sorted") rfl)),
   (He.free_ok X G (c.fact 58 (f := .free "all") rfl)),
   (He.free_ok X G (c.fact 59 (f := .free "max") rfl)),
   (He.free_ok X G (c.fact 60 (f := .free "min") rfl)),
   (He.free_ok X G (c.fact 61 (f := .free "abs") rfl)),
   (He.free_ok X G (c.fact 62 (f := .free "int") rfl)),
   (He.free_ok X G (c.fact 63 (f := .free "isinstance") rfl)),
   (He.free_ok X G (c.fact 64 (f := .free "bool") rfl)),
   (He.free_ok X G (c.fact 65 (f := .free "str") rfl)),
   int_rel X G (c.fact 67 (f := .int "ROWS" 720) rfl),
   int_rel X G (c.fact 68 (f := .int "WAYS" 6) rfl),
   int_rel X G (c.fact 69 (f := .int "CLASSES" 12) rfl)⟩
theorem xw_of (X : K.In h) (G : h.Ns mainGlobals mg) (c : He.SaysD fa fn K) (hx : exB K = true) : Xw K mg (He.ga K "InvalidTable") (He.ga K "InvalidLot") (He.ga K "NotPaired") (He.ga K "NotOneBlock") (aM K) :=
  ⟨(He.glo_ok X G (c.fact 44 (f := .glo "InvalidTable") rfl)), (He.glo_ok X G (c.fact 45 (f := .glo "InvalidLot") rfl)), (He.glo_ok X G (c.fact 46 (f := .glo "NotPaired") rfl)), (He.glo_ok X G (c.fact 47 (f := .glo "NotOneBlock") rfl)), (He.glo_ok X G (c.fact 48 (f := .glo "TooMany") rfl)), by
    unfold exB supB at hx
    obtain ⟨_, hx⟩ := He.ba hx
    obtain ⟨_, hx⟩ := He.ba hx
    obtain ⟨_, hx⟩ := He.ba hx
    obtain ⟨hx, _⟩ := He.ba hx
    obtain ⟨_, hx⟩ := He.ba hx
    obtain ⟨_, hx⟩ := He.ba hx
    obtain ⟨_, hx⟩ := He.ba hx
    obtain ⟨_, hx⟩ := He.ba hx
    exact xfB_ok hx, He.noat_ok (c.fact 77 (f := .noat "TooMany" "limit") rfl),
    (He.exm_ok (c.fact 71 (f := .exm "InvalidTable" "InvalidTable" true) rfl)), (He.exm_ok (c.fact 72 (f := .exm "TooMany" "InvalidTable" false) rfl)), (He.exm_ok (c.fact 73 (f := .exm "TooMany" "InvalidLot" false) rfl)), (He.exm_ok (c.fact 74 (f := .exm "TooMany" "NotPaired" false) rfl)), (He.exm_ok (c.fact 75 (f := .exm "TooMany" "NotOneBlock" false) rfl)), (He.exm_ok (c.fact 76 (f := .exm "TooMany" "TooMany" true) rfl))⟩
theorem mkT_of (X : K.In h) (G : h.Ns mainGlobals mg) (c : He.SaysD fa fn K) : MkT K mg (He.ga K "InvalidTable") := by
  obtain ⟨h1, h2, h3, h4⟩ := He.exc_ok (c.fact 70 (f := .exc "InvalidTable") rfl)
  exact ⟨h1, (He.glo_ok X G (c.fact 44 (f := .glo "InvalidTable") rfl)), h2, h3, h4⟩
theorem mkMf_of (X : K.In h) (G : h.Ns mainGlobals mg) (c : He.SaysD fa fn K) (hx : exB K = true) (hC : fnC K = cVal) : MkM P45 w K mg base 1 (aM K) :=
  mkM_of (He.free_ok X G (c.fact 66 (f := .free "super") rfl)) (He.free_ok X G (c.fact 65 (f := .free "str") rfl)) (He.glo_ok X G (c.fact 48 (f := .glo "TooMany") rfl)) (He.meth_ok (c.fact 78 (f := .meth "TooMany" "__init__") rfl)) (He.noat_ok (c.fact 77 (f := .noat "TooMany" "limit") rfl)) hx hC
theorem tabs_ne (hx : exB K = true) : (He.cT K ("_law_right", none)).2 ≠ (He.cT K ("law", none)).2 := by
  unfold exB at hx
  obtain ⟨_, hx⟩ := He.ba hx
  obtain ⟨_, hx⟩ := He.ba hx
  obtain ⟨_, hx⟩ := He.ba hx
  obtain ⟨_, hx⟩ := He.ba hx
  exact of_decide_eq_true hx
theorem law_ok (X : K.In h) (G : h.Ns mainGlobals mg) (c : He.SaysD fa fn K) (hx : exB K = true) (hC : fnC K = cVal) {f : Addr} {fd : FuncData} (D : DefTA K d_law f fd (He.codeOf K ("law", none))) {PR PL : Addr} (TR : TabB base mg (He.codeOf K ("_law_right", none)) PR) (TL : TabB base mg (He.codeOf K ("law", none)) PL) :
    FnOk P45 w K mg base C8.CX0 9 f fd ["_law_script"] (sp_law K PR (Str.ofString "_law_right.<locals>.<lambda>") PL (Str.ofString "law.<locals>.<lambda>")) := by
  have z := zs_of X G c
  have xw := xw_of X G c hx
  have xT := mkT_of X G c
  have xM : MkM P45 w K mg base 1 (aM K) := mkMf_of X G c hx hC
  have dW : DefF K mg d__law_word := defF_of X G (c.def_ 38 (d := d__law_word) rfl) (He.glo_ok X G (c.fact 38 (f := .glo "_law_word") rfl))
  generalize hqR : Str.ofString "_law_right.<locals>.<lambda>" = qR at *
  have k_is_whole : C8.Cal P45 w K mg base 1 "is_whole" sp_is_whole [] := ok_is_whole z (defF_of X G (c.def_ 0 (d := d_is_whole) rfl) (He.glo_ok X G (c.fact 0 (f := .glo "is_whole") rfl))) 
  have k_is_tuple_of : C8.Cal P45 w K mg base 1 "is_tuple_of" sp_is_tuple_of [] := ok_is_tuple_of z (defF_of X G (c.def_ 1 (d := d_is_tuple_of) rfl) (He.glo_ok X G (c.fact 1 (f := .glo "is_tuple_of") rfl))) 
  have k_blocks_in : C8.Cal P45 w K mg base 1 "blocks_in" sp_blocks_in [] := ok_blocks_in z (defF_of X G (c.def_ 3 (d := d_blocks_in) rfl) (He.glo_ok X G (c.fact 3 (f := .glo "blocks_in") rfl))) 
  have k_class_by : C8.Cal P45 w K mg base 1 "class_by" sp_class_by [] := ok_class_by z (defF_of X G (c.def_ 4 (d := d_class_by) rfl) (He.glo_ok X G (c.fact 4 (f := .glo "class_by") rfl))) 
  have k_nexts_of : C8.Cal P45 w K mg base 1 "nexts_of" sp_nexts_of [] := ok_nexts_of z (defF_of X G (c.def_ 6 (d := d_nexts_of) rfl) (He.glo_ok X G (c.fact 6 (f := .glo "nexts_of") rfl))) 
  have k_all_lots : C8.Cal P45 w K mg base 1 "all_lots" sp_all_lots [] := ok_all_lots z (defF_of X G (c.def_ 9 (d := d_all_lots) rfl) (He.glo_ok X G (c.fact 9 (f := .glo "all_lots") rfl))) 
  have k__law_cup : C8.Cal P45 w K mg base 1 "_law_cup" (sp__law_cup K) [] := ok__law_cup z (defF_of X G (c.def_ 15 (d := d__law_cup) rfl) (He.glo_ok X G (c.fact 15 (f := .glo "_law_cup") rfl))) 
  have k__law_roll : C8.Cal P45 w K mg base 1 "_law_roll" sp__law_roll [] := ok__law_roll z (defF_of X G (c.def_ 16 (d := d__law_roll) rfl) (He.glo_ok X G (c.fact 16 (f := .glo "_law_roll") rfl))) 
  have k__law_behind : C8.Cal P45 w K mg base 1 "_law_behind" sp__law_behind [] := ok__law_behind z (defF_of X G (c.def_ 18 (d := d__law_behind) rfl) (He.glo_ok X G (c.fact 18 (f := .glo "_law_behind") rfl))) 
  have k__law_rounds : C8.Cal P45 w K mg base 1 "_law_rounds" sp__law_rounds [] := ok__law_rounds z (defF_of X G (c.def_ 21 (d := d__law_rounds) rfl) (He.glo_ok X G (c.fact 21 (f := .glo "_law_rounds") rfl))) 
  have k__law_blocks : C8.Cal P45 w K mg base 1 "_law_blocks" sp__law_blocks [] := ok__law_blocks z (defF_of X G (c.def_ 24 (d := d__law_blocks) rfl) (He.glo_ok X G (c.fact 24 (f := .glo "_law_blocks") rfl))) 
  have k__law_class : C8.Cal P45 w K mg base 1 "_law_class" sp__law_class [] := ok__law_class z (defF_of X G (c.def_ 25 (d := d__law_class) rfl) (He.glo_ok X G (c.fact 25 (f := .glo "_law_class") rfl))) 
  have k__law_changes : C8.Cal P45 w K mg base 1 "_law_changes" sp__law_changes [] := ok__law_changes z (defF_of X G (c.def_ 27 (d := d__law_changes) rfl) (He.glo_ok X G (c.fact 27 (f := .glo "_law_changes") rfl))) 
  have k__law_turn : C8.Cal P45 w K mg base 1 "_law_turn" sp__law_turn [] := ok__law_turn z (defF_of X G (c.def_ 35 (d := d__law_turn) rfl) (He.glo_ok X G (c.fact 35 (f := .glo "_law_turn") rfl))) 
  have k__law_lots : C8.Cal P45 w K mg base 1 "_law_lots" sp__law_lots [] := ok__law_lots z (defF_of X G (c.def_ 37 (d := d__law_lots) rfl) (He.glo_ok X G (c.fact 37 (f := .glo "_law_lots") rfl))) 
  have k__law_odd_tables : C8.Cal P45 w K mg base 1 "_law_odd_tables" sp__law_odd_tables [] := ok__law_odd_tables z (defF_of X G (c.def_ 39 (d := d__law_odd_tables) rfl) (He.glo_ok X G (c.fact 39 (f := .glo "_law_odd_tables") rfl))) 
  have k__law_three : C8.Cal P45 w K mg base 1 "_law_three" sp__law_three [] := ok__law_three z (defF_of X G (c.def_ 40 (d := d__law_three) rfl) (He.glo_ok X G (c.fact 40 (f := .glo "_law_three") rfl))) 
  have k__law_six : C8.Cal P45 w K mg base 1 "_law_six" sp__law_six [] := ok__law_six z (defF_of X G (c.def_ 41 (d := d__law_six) rfl) (He.glo_ok X G (c.fact 41 (f := .glo "_law_six") rfl))) 
  have k_fits_table : C8.Cal P45 w K mg base 2 "fits_table" sp_fits_table [] := ok_fits_table z (defF_of X G (c.def_ 2 (d := d_fits_table) rfl) (He.glo_ok X G (c.fact 2 (f := .glo "fits_table") rfl))) k_is_tuple_of k_is_whole
  have k_classes_by : C8.Cal P45 w K mg base 2 "classes_by" sp_classes_by [] := ok_classes_by z (defF_of X G (c.def_ 5 (d := d_classes_by) rfl) (He.glo_ok X G (c.fact 5 (f := .glo "classes_by") rfl))) k_class_by
  have k_blocks_by : C8.Cal P45 w K mg base 2 "blocks_by" sp_blocks_by [] := ok_blocks_by z (defF_of X G (c.def_ 7 (d := d_blocks_by) rfl) (He.glo_ok X G (c.fact 7 (f := .glo "blocks_by") rfl))) k_blocks_in k_nexts_of
  have k__law_some : C8.Cal P45 w K mg base 2 "_law_some" sp__law_some [] := ok__law_some z (defF_of X G (c.def_ 17 (d := d__law_some) rfl) (He.glo_ok X G (c.fact 17 (f := .glo "_law_some") rfl))) k__law_roll
  have k__law_rung : C8.Cal P45 w K mg base 2 "_law_rung" sp__law_rung [] := ok__law_rung z (defF_of X G (c.def_ 19 (d := d__law_rung) rfl) (He.glo_ok X G (c.fact 19 (f := .glo "_law_rung") rfl))) k__law_behind
  have k__law_classes : C8.Cal P45 w K mg base 2 "_law_classes" sp__law_classes [] := ok__law_classes z (defF_of X G (c.def_ 26 (d := d__law_classes) rfl) (He.glo_ok X G (c.fact 26 (f := .glo "_law_classes") rfl))) k__law_class
  have k__law_mixed : C8.Cal P45 w K mg base 2 "_law_mixed" sp__law_mixed [] := ok__law_mixed z (defF_of X G (c.def_ 32 (d := d__law_mixed) rfl) (He.glo_ok X G (c.fact 32 (f := .glo "_law_mixed") rfl))) k__law_roll
  have k__law_many : C8.Cal P45 w K mg base 2 "_law_many" sp__law_many [] := ok__law_many z (defF_of X G (c.def_ 36 (d := d__law_many) rfl) (He.glo_ok X G (c.fact 36 (f := .glo "_law_many") rfl))) k__law_blocks k__law_turn
  have k_need_two : CalX P45 w K mg base 3 "need_two" (sp_need_two (He.ga K "InvalidTable")) := ok_need_two z xT xM (defF_of X G (c.def_ 8 (d := d_need_two) rfl) (He.glo_ok X G (c.fact 8 (f := .glo "need_two") rfl))) k_fits_table
  have k_one_blocks_in : C8.Cal P45 w K mg base 3 "one_blocks_in" sp_one_blocks_in [] := ok_one_blocks_in z (defF_of X G (c.def_ 11 (d := d_one_blocks_in) rfl) (He.glo_ok X G (c.fact 11 (f := .glo "one_blocks_in") rfl))) k_all_lots k_blocks_by
  have k__law_led : C8.Cal P45 w K mg base 3 "_law_led" sp__law_led [] := ok__law_led z (defF_of X G (c.def_ 20 (d := d__law_led) rfl) (He.glo_ok X G (c.fact 20 (f := .glo "_law_led") rfl))) k__law_rung
  have k__law_change : C8.Cal P45 w K mg base 3 "_law_change" sp__law_change [] := ok__law_change z (defF_of X G (c.def_ 28 (d := d__law_change) rfl) (He.glo_ok X G (c.fact 28 (f := .glo "_law_change") rfl))) k__law_changes k__law_some
  have k__law_paired : C8.Cal P45 w K mg base 3 "_law_paired" sp__law_paired [] := ok__law_paired z (defF_of X G (c.def_ 33 (d := d__law_paired) rfl) (He.glo_ok X G (c.fact 33 (f := .glo "_law_paired") rfl))) k__law_mixed k__law_roll k__law_some
  have k_few_classes : CalX P45 w K mg base 4 "few_classes" (sp_few_classes (He.ga K "InvalidTable") (aM K)) := ok_few_classes z xT xM (defF_of X G (c.def_ 10 (d := d_few_classes) rfl) (He.glo_ok X G (c.fact 10 (f := .glo "few_classes") rfl))) k_need_two k_classes_by
  have k__law_roads : C8.Cal P45 w K mg base 4 "_law_roads" sp__law_roads [] := ok__law_roads z (defF_of X G (c.def_ 22 (d := d__law_roads) rfl) (He.glo_ok X G (c.fact 22 (f := .glo "_law_roads") rfl))) k__law_rounds k__law_led
  have k__law_lead : C8.Cal P45 w K mg base 4 "_law_lead" sp__law_lead [] := ok__law_lead z (defF_of X G (c.def_ 29 (d := d__law_lead) rfl) (He.glo_ok X G (c.fact 29 (f := .glo "_law_lead") rfl))) k__law_change k__law_roll
  have k_one_block_lots : CalX P45 w K mg base 5 "one_block_lots" (sp_one_block_lots (He.ga K "InvalidTable") (aM K)) := ok_one_block_lots z xT xM (defF_of X G (c.def_ 12 (d := d_one_block_lots) rfl) (He.glo_ok X G (c.fact 12 (f := .glo "one_block_lots") rfl))) k_one_blocks_in k_few_classes
  have k_lots_by_blocks : CalX P45 w K mg base 5 "lots_by_blocks" (sp_lots_by_blocks (He.ga K "InvalidTable") (aM K)) := ok_lots_by_blocks z xT xM (defF_of X G (c.def_ 13 (d := d_lots_by_blocks) rfl) (He.glo_ok X G (c.fact 13 (f := .glo "lots_by_blocks") rfl))) k_few_classes k_blocks_by k_all_lots
  have k_least_lot : CalX P45 w K mg base 5 "least_lot" (sp_least_lot (He.ga K "InvalidTable") (aM K)) := ok_least_lot z xT xM (defF_of X G (c.def_ 14 (d := d_least_lot) rfl) (He.glo_ok X G (c.fact 14 (f := .glo "least_lot") rfl))) k_one_blocks_in k_few_classes
  have k__law_table : C8.Cal P45 w K mg base 5 "_law_table" sp__law_table [] := ok__law_table z (defF_of X G (c.def_ 23 (d := d__law_table) rfl) (He.glo_ok X G (c.fact 23 (f := .glo "_law_table") rfl))) k__law_roads k__law_led
  have k__law_few : C8.Cal P45 w K mg base 5 "_law_few" sp__law_few [] := ok__law_few z (defF_of X G (c.def_ 30 (d := d__law_few) rfl) (He.glo_ok X G (c.fact 30 (f := .glo "_law_few") rfl))) k__law_some k__law_lead k__law_roll
  have k__law_two : C8.Cal P45 w K mg base 6 "_law_two" sp__law_two [] := ok__law_two z (defF_of X G (c.def_ 31 (d := d__law_two) rfl) (He.glo_ok X G (c.fact 31 (f := .glo "_law_two") rfl))) k__law_few k__law_lead
  have k__law_any : C8.Cal P45 w K mg base 7 "_law_any" sp__law_any [] := ok__law_any z (defF_of X G (c.def_ 34 (d := d__law_any) rfl) (He.glo_ok X G (c.fact 34 (f := .glo "_law_any") rfl))) k__law_roll k__law_two k__law_table k__law_paired k__law_mixed
  have k__law_right : C8.Cal P45 w K mg base 8 "_law_right" (sp__law_right PR qR) [] := ok__law_right z (defT_of X G (c.def_ 42 (d := d__law_right) rfl) (He.glo_ok X G (c.fact 42 (f := .glo "_law_right") rfl))) dW xw TR hqR.symm k__law_classes k_least_lot k__law_many k__law_lots k_one_block_lots k_lots_by_blocks
  exact ok_law z D dW xw TL rfl k__law_cup k__law_odd_tables k__law_any k__law_three k__law_six k_one_block_lots k_lots_by_blocks k_least_lot k__law_right k__law_classes
end
end R45
end
section
set_option Elab.async false
set_option linter.all false
set_option maxRecDepth 100000
set_option maxHeartbeats 0
namespace R45
open PySem PySem.Spec PyProof.Rows L2
theorem run (w : World) : HandSHeadRun.RunEq R (PySem.W.view R.prog [58]) hk ob 4000 looseN w := by
  intro os
  kernel_rfl
end R45
end
section
set_option Elab.async false
set_option linter.all false
set_option maxRecDepth 100000
set_option maxHeartbeats 0
namespace R45
open PySem PySem.Spec PyProof.Rows L2 Evl LamX NdefX PySem.W
theorem lawAt {w : World} {K : PySem.W.Frag} {h : Heap} {mg : Str → Option Value} {fa : Addr} (X : K.In h) (G : h.Ns mainGlobals mg) (hfa : mg ("law" : Str) = some (.ref fa)) (c : SaysY w h K) :
    LawAtS PySem.Challenge.rw_rungonce_k45_whole_lots_gone_through w K C8.CX0 9 63 "_law_script" mg fa h := by
  obtain ⟨fd, F⟩ := c.t.d.def_ 43 (d := d_law) rfl
  have F' : FunD K d_law.name d_law.qual d_law.params d_law.body d_law.scope [] [] (He.fAd K d_law.at_) fd := F
  have e := hfa.symm.trans (He.glo_ok X G (c.t.d.fact 43 (f := .glo "law") rfl))
  cases e
  have D : DefTA K d_law (He.fAd K d_law.at_) fd (He.codeOf K ("law", none)) := by
    refine ⟨F', ?_⟩
    obtain ⟨oc, od, dV, kV, doc, pm, an, cdv, ct, osl, rfl, lk, hcd, _, _⟩ := F'.ex
    show cdv = .ref (He.codeOf K d_law.at_)
    cases cdv with
    | ref c =>
      rw [He.codeOf_eq lk rfl]
    | _ => cases hcd
  have b := FunD.bindsA (ps := ["_law_script"]) F' fun _ _ _ _ _ _ us hl => match us, hl with | [_], _ => rfl
  have m1 : (("_law_right", none) : He.Defn) ∈ tf := List.mem_cons_self
  have m2 : (("law", none) : He.Defn) ∈ tf := List.mem_cons_of_mem _ List.mem_cons_self
  have hp : ∀ {Pr : Addr × Addr → Prop}, (∀ p ∈ tf, Pr (He.cT K p)) → ∀ p ∈ [He.cT K ("_law_right", none), He.cT K ("law", none)], Pr p := fun h p hp => by
    simp only [List.mem_cons, List.not_mem_nil, or_false] at hp
    rcases hp with e | e
    · rw [e]
      exact h _ m1
    · rw [e]
      exact h _ m2
  refine ⟨fd, [He.cT K ("_law_right", none), He.cT K ("law", none)], sp_law K (He.cT K ("_law_right", none)).2 (Str.ofString "_law_right.<locals>.<lambda>") (He.cT K ("law", none)).2 (Str.ofString "law.<locals>.<lambda>"),
    hp (Pr := fun p => h.get? p.2 = some { cls := .none, data := .fields #[] }) c.empty, hp (Pr := fun p => K.lookup p.2 = none) c.out, hp (Pr := fun p => PySem.W.CodeHd h p.1 p.2) fun p hp => PySem.W.codeHd_of_K X (c.hd p hp), fun s u => b s [u] rfl, fun H a ns hl _ hH hS => ?_, fun base KB GB hT => ?_⟩
  · exact ⟨a, ns, rfl, hS, by omega, TabS.nil (hH (He.cT K ("_law_right", none)) List.mem_cons_self), TabS.nil (hH (He.cT K ("law", none)) (List.mem_cons_of_mem _ List.mem_cons_self)), tabs_ne c.more, fun _ => rfl⟩
  · exact law_ok KB GB c.t.d c.more c.c D (hT (He.cT K ("_law_right", none)) List.mem_cons_self) (hT (He.cT K ("law", none)) (List.mem_cons_of_mem _ List.mem_cons_self))
end R45
open PySem PySem.W PySem.Calls PyProof.Rows
theorem PySem.Challenge.cw_rungonce_k45_whole_lots_gone_through_holds : PySem.Challenge.rw_rungonce_k45_whole_lots_gone_through.Holds := by
  w_on; o_law
  refine HandSHeadRun.head_any (r := OpenLaw.row PySem.Challenge.rw_rungonce_k45_whole_lots_gone_through) (q := view (OpenLaw.row PySem.Challenge.rw_rungonce_k45_whole_lots_gone_through).prog [58]) (H := R45.hk) (ob := R45.ob) (M := 4000) (loose := R45.looseN) (d := HandSHeadRun.topDef (OpenLaw.row PySem.Challenge.rw_rungonce_k45_whole_lots_gone_through).prog 58) (kwd := []) R45.ob_eq
    (by kernel_rfl) (fun s => by kernel_rfl) R45.run (by kernel_rfl) (by kernel_rfl) (by kernel_rfl) (by rfl) (by first | assumption | decide +kernel) (by decide +kernel) ⟨rfl, rfl, rfl, rfl, rfl, by decide +kernel⟩ ?hw ?hc
  case hw => w_witness2
  case hc =>
    refine LamX.walk_ofTsE (l := PySem.Challenge.rw_rungonce_k45_whole_lots_gone_through) (n := 63) (k := 9) (x := "_law_script") (CX := fun _ => C8.CX0) rfl (by decide) (by kernel_rfl) ⟨rfl, by decide, by decide⟩ ?F (fun _ _ _ _ _ z => z)
    intro w mg fa h Y G hmg0
    obtain ⟨K, KX, c⟩ := Y
    have hmg : mg ("law" : PySem.Str) = some (.ref fa) := by
      have e : (HandSHeadRun.topDef (OpenLaw.row PySem.Challenge.rw_rungonce_k45_whole_lots_gone_through).prog 58).name = ("law" : PySem.Str) := by kernel_rfl
      rw [← e]
      exact hmg0
    exact ⟨K, KX, R45.lawAt KX G hmg c⟩
end
