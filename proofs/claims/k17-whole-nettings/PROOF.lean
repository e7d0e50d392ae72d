import PyProof.Rows.All
import Wide.All
import OpenK.AllK
import Wide.FinOn
import HandS.ForMost
import HandS.Walk
import HandS.IsInst
import HandS.Zip
import HandS.DictComp
import HandS.TupAny
import HandS.Star
import HandS.More
import HandS.Style
import HandS.Exc
import HandS.TryOnly
import HandS.ExcInit
import HandS.ExcSuper
import HandS.Nested
import HandS.Defaults
import HandS.ExcField
import HandS.ExcIs
import HandS.WordsExc
import HandS.Lambda
import HandS.EndTab
import HandS.TupSets
import HandS.Flow
import PyProof.ReprRoads
import KE.KSortTupG
import KE.KExcIs
import KE.KDictKeyed
import KE.KNestM
import PySem.Challenge.RW_kitsleft_k17_whole_nettings_drawn

set_option Elab.async false
set_option linter.all false
set_option maxRecDepth 100000
set_option maxHeartbeats 4000000

/-! ## data as it lies in the tracked heap -/
namespace KL
open PySem L2

mutual
/-- v is d, by the tracked lists and tuples alone -/
def DD (H : Hp) : PyData → V → Prop
  | .none, v => v = .non
  | .bool b, v => v = .bl b
  | .int i, v => v = .int i
  | .str x, v => v = .str x
  | .list ds, v => ∃ (a : Addr) (xs : List V), v = .ref a ∧ H a = some (.lst xs) ∧ DDs H ds xs
  | .tuple ds, v => ∃ (a : Addr) (xs : List V), v = .ref a ∧ H a = some (.tup xs) ∧ DDs H ds xs
  | .dict _, _ => False
def DDs (H : Hp) : List PyData → List V → Prop
  | [], xs => xs = []
  | d :: ds, xs => ∃ x r, xs = x :: r ∧ DD H d x ∧ DDs H ds r
end
mutual
/-- no list within -/
def lf : PyData → Bool
  | .none => true
  | .bool _ => true
  | .int _ => true
  | .str _ => true
  | .list _ => false
  | .tuple ds => lfs ds
  | .dict _ => false
def lfs : List PyData → Bool
  | [] => true
  | d :: ds => lf d && lfs ds
end
mutual
theorem DD.same {H H' : Hp} (e : Same H H') : ∀ (d : PyData) (v : V), DD H d v → DD H' d v
  | .none, _, h => by simp only [DD] at h ⊢; exact h
  | .bool _, _, h => by simp only [DD] at h ⊢; exact h
  | .int _, _, h => by simp only [DD] at h ⊢; exact h
  | .str _, _, h => by simp only [DD] at h ⊢; exact h
  | .list ds, v, h => by
    simp only [DD] at h ⊢
    obtain ⟨a, xs, h1, h2, h3⟩ := h
    exact ⟨a, xs, h1, e _ _ h2, DDs.same e ds xs h3⟩
  | .tuple ds, v, h => by
    simp only [DD] at h ⊢
    obtain ⟨a, xs, h1, h2, h3⟩ := h
    exact ⟨a, xs, h1, e _ _ h2, DDs.same e ds xs h3⟩
  | .dict _, _, h => by simp only [DD] at h
theorem DDs.same {H H' : Hp} (e : Same H H') : ∀ (ds : List PyData) (xs : List V), DDs H ds xs → DDs H' ds xs
  | [], _, h => by simp only [DDs] at h ⊢; exact h
  | d :: ds, xs, h => by
    simp only [DDs] at h ⊢
    obtain ⟨x, r, h1, h2, h3⟩ := h
    exact ⟨x, r, h1, DD.same e d x h2, DDs.same e ds r h3⟩
end
/-- the tuples stay -/
def KT (H H' : Hp) : Prop := ∀ b xs, H b = some (.tup xs) → H' b = some (.tup xs)
theorem Same.kt {H H' : Hp} (e : Same H H') : KT H H' := fun b _ h => e b _ h
theorem KT.refl (H : Hp) : KT H H := fun _ _ h => h
theorem KT.trans {H H1 H2 : Hp} (a : KT H H1) (b : KT H1 H2) : KT H H2 := fun c xs h => b c xs (a c xs h)
theorem KT.upd {H : Hp} {a : Addr} {o u : HO} (h : H a = some o) (n : ∀ xs, o ≠ .tup xs) : KT H (upd H a u) := fun b xs e => by
  rw [upd_ne (fun z => by rw [z, h] at e; exact n xs (Option.some.inj e))]
  exact e
theorem KT.updL {H : Hp} {a : Addr} {ys : List V} {u : HO} (h : H a = some (.lst ys)) : KT H (L2.upd H a u) := KT.upd h fun _ z => by cases z
theorem KT.updD {H : Hp} {a : Addr} {ys : List (Key × V)} {u : HO} (h : H a = some (.dK ys)) : KT H (L2.upd H a u) := KT.upd h fun _ z => by cases z
mutual
theorem DD.kt {H H' : Hp} (e : KT H H') : ∀ (d : PyData) (v : V), lf d = true → DD H d v → DD H' d v
  | .none, _, _, h => by simp only [DD] at h ⊢; exact h
  | .bool _, _, _, h => by simp only [DD] at h ⊢; exact h
  | .int _, _, _, h => by simp only [DD] at h ⊢; exact h
  | .str _, _, _, h => by simp only [DD] at h ⊢; exact h
  | .list ds, v, z, h => by simp [lf] at z
  | .tuple ds, v, z, h => by
    simp only [DD] at h ⊢
    obtain ⟨a, xs, h1, h2, h3⟩ := h
    exact ⟨a, xs, h1, e _ _ h2, DDs.kt e ds xs (by simpa [lf] using z) h3⟩
  | .dict _, _, z, h => by simp only [DD] at h
theorem DDs.kt {H H' : Hp} (e : KT H H') : ∀ (ds : List PyData) (xs : List V), lfs ds = true → DDs H ds xs → DDs H' ds xs
  | [], _, _, h => by simp only [DDs] at h ⊢; exact h
  | d :: ds, xs, z, h => by
    simp only [DDs] at h ⊢
    simp only [lfs, Bool.and_eq_true] at z
    obtain ⟨x, r, h1, h2, h3⟩ := h
    exact ⟨x, r, h1, DD.kt e d x z.1 h2, DDs.kt e ds r z.2 h3⟩
end
mutual
theorem DD.dp {K : PySem.W.Frag} {H : Hp} : ∀ (d : PyData) (v : V), DD H d v → Dp K H v d
  | .none, _, h => by simp only [DD] at h; subst h; exact .non
  | .bool _, _, h => by simp only [DD] at h; subst h; exact .bl _
  | .int _, _, h => by simp only [DD] at h; subst h; exact .int _
  | .str _, _, h => by simp only [DD] at h; subst h; exact .str _
  | .list ds, v, h => by
    simp only [DD] at h
    obtain ⟨a, xs, rfl, h2, h3⟩ := h
    exact .lst (.inl (.inl h2)) (DDs.dp ds xs h3)
  | .tuple ds, v, h => by
    simp only [DD] at h
    obtain ⟨a, xs, rfl, h2, h3⟩ := h
    exact .tup (.inl (.inl h2)) (DDs.dp ds xs h3)
  | .dict _, _, h => by simp only [DD] at h
theorem DDs.dp {K : PySem.W.Frag} {H : Hp} : ∀ (ds : List PyData) (xs : List V), DDs H ds xs → DpAll K H xs ds
  | [], _, h => by simp only [DDs] at h; subst h; exact .nil
  | d :: ds, xs, h => by
    simp only [DDs] at h
    obtain ⟨x, r, rfl, h2, h3⟩ := h
    exact .cons (DD.dp d x h2) (DDs.dp ds r h3)
end
theorem dd_non {H : Hp} : DD H .none .non := by simp only [DD]
theorem dd_bl {H : Hp} {b : Bool} : DD H (.bool b) (.bl b) := by simp only [DD]
theorem dd_int {H : Hp} {i : Int} : DD H (.int i) (.int i) := by simp only [DD]
theorem dd_str {H : Hp} {x : Str} : DD H (.str x) (.str x) := by simp only [DD]
theorem dd_tup {H : Hp} {a : Addr} {xs : List V} {ds : List PyData} (h : H a = some (.tup xs)) (r : DDs H ds xs) : DD H (.tuple ds) (.ref a) := by
  simp only [DD]
  exact ⟨a, xs, rfl, h, r⟩
theorem dd_lst {H : Hp} {a : Addr} {xs : List V} {ds : List PyData} (h : H a = some (.lst xs)) (r : DDs H ds xs) : DD H (.list ds) (.ref a) := by
  simp only [DD]
  exact ⟨a, xs, rfl, h, r⟩
theorem DD.tup {H : Hp} {v : V} {ds : List PyData} (h : DD H (.tuple ds) v) : ∃ (a : Addr) (xs : List V), v = .ref a ∧ H a = some (.tup xs) ∧ DDs H ds xs := by
  simp only [DD] at h
  exact h
theorem DD.lst {H : Hp} {v : V} {ds : List PyData} (h : DD H (.list ds) v) : ∃ (a : Addr) (xs : List V), v = .ref a ∧ H a = some (.lst xs) ∧ DDs H ds xs := by
  simp only [DD] at h
  exact h
theorem DD.int_eq {H : Hp} {v : V} {i : Int} (h : DD H (.int i) v) : v = .int i := by simp only [DD] at h; exact h
theorem DD.str_eq {H : Hp} {v : V} {i : Str} (h : DD H (.str i) v) : v = .str i := by simp only [DD] at h; exact h
theorem DD.bl_eq {H : Hp} {v : V} {i : Bool} (h : DD H (.bool i) v) : v = .bl i := by simp only [DD] at h; exact h
theorem DD.non_eq {H : Hp} {v : V} (h : DD H .none v) : v = .non := by simp only [DD] at h; exact h
theorem dds_nil {H : Hp} : DDs H [] [] := by simp only [DDs]
theorem dds_cons {H : Hp} {d : PyData} {ds : List PyData} {x : V} {xs : List V} (h : DD H d x) (r : DDs H ds xs) : DDs H (d :: ds) (x :: xs) := by
  simp only [DDs]
  exact ⟨x, xs, rfl, h, r⟩
theorem DDs.nil_eq {H : Hp} {xs : List V} (h : DDs H [] xs) : xs = [] := by simp only [DDs] at h; exact h
theorem DDs.uncons {H : Hp} {d : PyData} {ds : List PyData} {xs : List V} (h : DDs H (d :: ds) xs) : ∃ x r, xs = x :: r ∧ DD H d x ∧ DDs H ds r := by
  simp only [DDs] at h
  exact h
theorem DDs.one {H : Hp} {a : PyData} {xs : List V} (h : DDs H [a] xs) : ∃ x, xs = [x] ∧ DD H a x := by
  obtain ⟨x, r, rfl, h1, h2⟩ := h.uncons
  obtain rfl := h2.nil_eq
  exact ⟨x, rfl, h1⟩
theorem DDs.two {H : Hp} {a b : PyData} {xs : List V} (h : DDs H [a, b] xs) : ∃ x y, xs = [x, y] ∧ DD H a x ∧ DD H b y := by
  obtain ⟨x, r, rfl, h1, h2⟩ := h.uncons
  obtain ⟨y, rfl, h3⟩ := h2.one
  exact ⟨x, y, rfl, h1, h3⟩
theorem DDs.three {H : Hp} {a b c : PyData} {xs : List V} (h : DDs H [a, b, c] xs) : ∃ x y z, xs = [x, y, z] ∧ DD H a x ∧ DD H b y ∧ DD H c z := by
  obtain ⟨x, r, rfl, h1, h2⟩ := h.uncons
  obtain ⟨y, z, rfl, h3, h4⟩ := h2.two
  exact ⟨x, y, z, rfl, h1, h3, h4⟩
theorem DDs.four {H : Hp} {a b c e : PyData} {xs : List V} (h : DDs H [a, b, c, e] xs) : ∃ x y z w, xs = [x, y, z, w] ∧ DD H a x ∧ DD H b y ∧ DD H c z ∧ DD H e w := by
  obtain ⟨x, r, rfl, h1, h2⟩ := h.uncons
  obtain ⟨y, z, w, rfl, h3, h4, h5⟩ := h2.three
  exact ⟨x, y, z, w, rfl, h1, h3, h4, h5⟩
theorem DDs.length {H : Hp} : ∀ {ds : List PyData} {xs : List V}, DDs H ds xs → xs.length = ds.length
  | [], _, h => by rw [h.nil_eq]; rfl
  | d :: ds, _, h => by
    obtain ⟨x, r, rfl, _, h2⟩ := h.uncons
    rw [List.length_cons, List.length_cons, h2.length]
theorem DDs.get {H : Hp} : ∀ {ds : List PyData} {xs : List V} {i : Nat} {d : PyData}, DDs H ds xs → ds[i]? = some d → ∃ x, xs[i]? = some x ∧ DD H d x
  | [], _, _, _, _, e => by simp at e
  | d :: ds, _, 0, d', h, e => by
    obtain ⟨x, r, rfl, h1, _⟩ := h.uncons
    have e' : d = d' := Option.some.inj e
    subst e'
    exact ⟨x, rfl, h1⟩
  | d :: ds, _, i + 1, d', h, e => by
    obtain ⟨x, r, rfl, _, h2⟩ := h.uncons
    exact h2.get (i := i) (d := d') e
theorem DDs.back {H : Hp} : ∀ {ds : List PyData} {xs : List V} {i : Nat} {x : V}, DDs H ds xs → xs[i]? = some x → ∃ d, ds[i]? = some d ∧ DD H d x
  | [], _, _, _, h, e => by rw [h.nil_eq] at e; simp at e
  | d :: ds, _, 0, x', h, e => by
    obtain ⟨x, r, rfl, h1, _⟩ := h.uncons
    have e' : x = x' := Option.some.inj e
    subst e'
    exact ⟨d, rfl, h1⟩
  | d :: ds, _, i + 1, x', h, e => by
    obtain ⟨x, r, rfl, _, h2⟩ := h.uncons
    exact h2.back (i := i) (x := x') e
theorem DDs.snoc {H : Hp} : ∀ {ds : List PyData} {xs : List V} {d : PyData} {x : V}, DDs H ds xs → DD H d x → DDs H (ds ++ [d]) (xs ++ [x])
  | [], _, _, _, h, hd => by rw [h.nil_eq]; exact dds_cons hd dds_nil
  | e :: ds, _, _, _, h, hd => by
    obtain ⟨y, r, rfl, h1, h2⟩ := h.uncons
    exact dds_cons h1 (h2.snoc hd)
theorem DDs.append {H : Hp} : ∀ {ds es : List PyData} {xs ys : List V}, DDs H ds xs → DDs H es ys → DDs H (ds ++ es) (xs ++ ys)
  | [], _, _, _, h, hd => by rw [h.nil_eq]; exact hd
  | e :: ds, _, _, _, h, hd => by
    obtain ⟨y, r, rfl, h1, h2⟩ := h.uncons
    exact dds_cons h1 (h2.append hd)
theorem DDs.take {H : Hp} : ∀ {ds : List PyData} {xs : List V} (n : Nat), DDs H ds xs → DDs H (ds.take n) (xs.take n)
  | [], _, n, h => by rw [h.nil_eq]; simp only [List.take_nil]; exact dds_nil
  | e :: ds, _, 0, h => by simp only [List.take_zero]; exact dds_nil
  | e :: ds, _, n + 1, h => by
    obtain ⟨y, r, rfl, h1, h2⟩ := h.uncons
    simp only [List.take_succ_cons]
    exact dds_cons h1 (h2.take n)
theorem DDs.drop {H : Hp} : ∀ {ds : List PyData} {xs : List V} (n : Nat), DDs H ds xs → DDs H (ds.drop n) (xs.drop n)
  | [], _, n, h => by rw [h.nil_eq]; simp only [List.drop_nil]; exact dds_nil
  | e :: ds, _, 0, h => h
  | e :: ds, _, n + 1, h => by
    obtain ⟨y, r, rfl, h1, h2⟩ := h.uncons
    exact h2.drop n
/-- texts -/
theorem dds_strs {H : Hp} : ∀ (ys : List Str), DDs H (ys.map PyData.str) (ys.map V.str)
  | [] => dds_nil
  | y :: ys => dds_cons dd_str (dds_strs ys)
theorem DDs.strs_eq {H : Hp} : ∀ {ys : List Str} {xs : List V}, DDs H (ys.map PyData.str) xs → xs = ys.map V.str
  | [], _, h => h.nil_eq
  | y :: ys, _, h => by
    obtain ⟨x, r, rfl, h1, h2⟩ := h.uncons
    rw [h1.str_eq, h2.strs_eq]
    rfl
theorem DDs.bools_eq {H : Hp} : ∀ {ys : List Bool} {xs : List V}, DDs H (ys.map PyData.bool) xs → xs = ys.map V.bl
  | [], _, h => h.nil_eq
  | y :: ys, _, h => by
    obtain ⟨x, r, rfl, h1, h2⟩ := h.uncons
    rw [h1.bl_eq, h2.bools_eq]
    rfl

/-! ### heaps -/
theorem Same.new {H : Hp} {p : Addr} {o : HO} (h : H p = none) : Same H (upd H p o) := fun b u e => by
  rw [upd_ne (ne_of_none e h)]
  exact e
/-- what H does not know may change -/
theorem Same.mut {H H' : Hp} {p : Addr} {o : HO} (e : Same H H') (h : H p = none) : Same H (upd H' p o) := fun b u q => by
  rw [upd_ne (ne_of_none q h)]
  exact e b u q
theorem Same.none {H H' : Hp} (e : Same H H') {l : Addr} (h : H' l = none) : H l = none := L2.Same.free e h

/-! ### what evaluates to what -/
def ED (te : TE) (σ : L2.St) (H : Hp) (d : PyData) : Prop := ∀ H1, Same H H1 → ∀ Q : VK, (∀ v H2, Same H1 H2 → DD H2 d v → Q v H2) → te σ H1 Q
def ET (tt : TT) (σ : L2.St) (H : Hp) (b : Bool) : Prop := ∀ H1, Same H H1 → ∀ Q : Bool → Hp → Prop, (∀ H2, Same H1 H2 → Q b H2) → tt σ H1 Q
def EA (ta : TA) (σ : L2.St) (H : Hp) (ds : List PyData) : Prop := ∀ H1, Same H H1 → ∀ Q : List V → Hp → Prop, (∀ vs H2, Same H1 H2 → DDs H2 ds vs → Q vs H2) → ta σ H1 Q
section
variable {K : PySem.W.Frag} {σ : L2.St} {H H' : Hp} {ta tb te tx : TE} {t u : TT} {d e : PyData} {D : Ends} {aA aB : TA}
theorem ED.mono (m : Same H H') (h : ED te σ H d) : ED te σ H' d := fun H1 a Q q => h H1 (m.trans a) Q q
theorem ED.is (h : ED te σ H d) (q : d = e) : ED te σ H e := q ▸ h
theorem ET.is {a b : Bool} (h : ET t σ H a) (q : a = b) : ET t σ H b := q ▸ h
theorem ed_var {i : Nat} {v : V} (h : σ[i]? = some (some v)) (hd : DD H d v) : ED (tVar i) σ H d := fun H1 m Q q => ⟨v, h, q v H1 (L2.Same.refl H1) (DD.same m _ _ hd)⟩
theorem ed_int {i : Int} : ED (tC (.int i)) σ H (.int i) := fun H1 _ _ q => q _ H1 (L2.Same.refl H1) dd_int
theorem ed_str {x : Str} : ED (tC (.str x)) σ H (.str x) := fun H1 _ _ q => q _ H1 (L2.Same.refl H1) dd_str
theorem ed_bl {b : Bool} : ED (tC (.bl b)) σ H (.bool b) := fun H1 _ _ q => q _ H1 (L2.Same.refl H1) dd_bl
theorem ed_non : ED (tC .non) σ H .none := fun H1 _ _ q => q _ H1 (L2.Same.refl H1) dd_non
theorem ea_nil : EA tNil σ H [] := fun H1 _ _ q => q [] H1 (L2.Same.refl H1) dds_nil
theorem ea_cons {ds : List PyData} (h : ED te σ H d) (r : EA aA σ H ds) : EA (tCons te aA) σ H (d :: ds) := fun H1 m Q q =>
  h H1 m _ fun v H2 m2 h2 => r H2 (m.trans m2) _ fun vs H3 m3 h3 => q (v :: vs) H3 (m2.trans m3) (dds_cons (DD.same m3 _ _ h2) h3)
theorem ed_tup {ds : List PyData} (h : EA aA σ H ds) (hl : ds.length ≤ 1000) : ED (tTup aA) σ H (.tuple ds) := fun H1 m Q q =>
  h H1 m _ fun vs H2 m2 h2 => ⟨by rw [h2.length, sizeLine_eq]; omega, fun p hp => q _ _ (m2.trans (Same.new hp)) (dd_tup upd_same (DDs.same (Same.new hp) _ _ h2))⟩
theorem ed_lst {ds : List PyData} (h : EA aA σ H ds) (hl : ds.length ≤ 1000) : ED (tLst aA) σ H (.list ds) := fun H1 m Q q =>
  h H1 m _ fun vs H2 m2 h2 => ⟨by rw [h2.length, sizeLine_eq]; omega, fun p hp => q _ _ (m2.trans (Same.new hp)) (dd_lst upd_same (DDs.same (Same.new hp) _ _ h2))⟩
/-- x op y of ints -/
theorem ed_opB {g : Int → Int → Bool} {i j : Int} (ha : ED ta σ H (.int i)) (hb : ED tb σ H (.int j)) : ED (tOp (rI0 fun i j => .bl (g i j)) ta tb) σ H (.bool (g i j)) := fun H1 m Q q =>
  ha H1 m _ fun v H2 m2 h2 => hb H2 (m.trans m2) _ fun w H3 m3 h3 => ⟨i, j, h2.int_eq, h3.int_eq, q _ H3 (m2.trans m3) dd_bl⟩
theorem ed_opI {g : Int → Int → Int} {i j : Int} (ha : ED ta σ H (.int i)) (hb : ED tb σ H (.int j)) : ED (tOp (rI0 fun i j => .int (g i j)) ta tb) σ H (.int (g i j)) := fun H1 m Q q =>
  ha H1 m _ fun v H2 m2 h2 => hb H2 (m.trans m2) _ fun w H3 m3 h3 => ⟨i, j, h2.int_eq, h3.int_eq, q _ H3 (m2.trans m3) dd_int⟩
theorem ed_opC {C : Int → Int → Prop} {g : Int → Int → Int} {i j : Int} (ha : ED ta σ H (.int i)) (hb : ED tb σ H (.int j)) (c : C i j) : ED (tOp (rI C fun i j => .int (g i j)) ta tb) σ H (.int (g i j)) := fun H1 m Q q =>
  ha H1 m _ fun v H2 m2 h2 => hb H2 (m.trans m2) _ fun w H3 m3 h3 => ⟨i, j, h2.int_eq, h3.int_eq, c, q _ H3 (m2.trans m3) dd_int⟩
theorem ed_chain {f g : Int → Int → Bool} {a b c : Int} {tc : TE} (ha : ED ta σ H (.int a)) (hb : ED tb σ H (.int b)) (hc : ED tc σ H (.int c)) : ED (tChain (rI0 fun i j => .bl (f i j)) (rI0 fun i j => .bl (g i j)) ta tb tc) σ H (.bool (f a b && g b c)) := fun H1 m Q q =>
  ha H1 m _ fun v H2 m2 h2 => hb H2 (m.trans m2) _ fun w H3 m3 h3 => ⟨a, b, h2.int_eq, h3.int_eq, f a b, rfl, by
    cases e : f a b with
    | true => exact iteT (hc H3 ((m.trans m2).trans m3) _ fun u H4 m4 h4 => ⟨b, c, h3.int_eq, h4.int_eq, by rw [e, Bool.true_and] at q; exact q _ H4 ((m2.trans m3).trans m4) dd_bl⟩)
    | false => exact iteF (by rw [e, Bool.false_and] at q; exact q _ H3 (m2.trans m3) dd_bl)⟩
theorem ed_ltS {x y : Str} (ha : ED ta σ H (.str x)) (hb : ED tb σ H (.str y)) :
    ED (tOp (fun x y H Q => ∃ i j, x = .str i ∧ y = .str j ∧ Q (.bl (decide (i.cps.toList < j.cps.toList))) H) ta tb) σ H (.bool (decide (x.cps.toList < y.cps.toList))) := fun H1 m Q q =>
  ha H1 m _ fun v H2 m2 h2 => hb H2 (m.trans m2) _ fun w H3 m3 h3 => ⟨x, y, h2.str_eq, h3.str_eq, q _ H3 (m2.trans m3) dd_bl⟩
theorem ed_and {a b : Bool} (h1 : ED ta σ H (.bool a)) (h2 : a = true → ED tb σ H (.bool b)) : ED (tAndV ta tb) σ H (.bool (a && b)) := fun H1 m Q q => h1 H1 m _ fun v H2 m2 hv => ⟨a, hv.bl_eq, by
  cases a with
  | true => exact iteT (h2 rfl H2 (m.trans m2) Q fun v H3 m3 h3 => q v H3 (m2.trans m3) h3)
  | false => exact iteF (q _ H2 m2 dd_bl)⟩
theorem ed_or {a b : Bool} (h1 : ED ta σ H (.bool a)) (h2 : a = false → ED tb σ H (.bool b)) : ED (tOrV ta tb) σ H (.bool (a || b)) := fun H1 m Q q => h1 H1 m _ fun v H2 m2 hv => ⟨a, hv.bl_eq, by
  cases a with
  | true => exact iteT (q _ H2 m2 dd_bl)
  | false => exact iteF (h2 rfl H2 (m.trans m2) Q fun v H3 m3 h3 => q v H3 (m2.trans m3) h3)⟩
theorem ed_not {a : Bool} (h1 : ED ta σ H (.bool a)) : ED (tNotV ta) σ H (.bool (!a)) := fun H1 m Q q => h1 H1 m _ fun v H2 m2 hv => ⟨a, hv.bl_eq, q _ H2 m2 dd_bl⟩
theorem ed_if {b : Bool} (h : ET t σ H b) (h1 : b = true → ED ta σ H d) (h2 : b = false → ED tb σ H d) : ED (tIf t ta tb) σ H d := fun H1 m Q q => h H1 m _ fun H2 m2 => by
  cases b with
  | true => exact iteT (h1 rfl H2 (m.trans m2) Q fun v H3 m3 h3 => q v H3 (m2.trans m3) h3)
  | false => exact iteF (h2 rfl H2 (m.trans m2) Q fun v H3 m3 h3 => q v H3 (m2.trans m3) h3)
theorem et_test {b : Bool} (h : ED te σ H (.bool b)) : ET (tTest te) σ H b := fun H1 m Q q => h H1 m _ fun v H2 m2 hv => ⟨b, hv.bl_eq, q H2 m2⟩
theorem et_B {b : Bool} (h : ED te σ H (.bool b)) : ET (tB te) σ H b := fun H1 m Q q => h H1 m _ fun v H2 m2 hv => ⟨b, hv.bl_eq, q H2 m2⟩
theorem et_not {a : Bool} (h : ET t σ H a) : ET (tNot t) σ H (!a) := fun H1 m Q q => h H1 m _ fun H2 m2 => q H2 m2
theorem et_and {a b : Bool} (h1 : ET t σ H a) (h2 : a = true → ET u σ H b) : ET (tAnd t u) σ H (a && b) := fun H1 m Q q => h1 H1 m _ fun H2 m2 => by
  cases a with
  | true => exact iteT (h2 rfl H2 (m.trans m2) Q fun H3 m3 => q H3 (m2.trans m3))
  | false => exact iteF (q H2 m2)
theorem et_or {a b : Bool} (h1 : ET t σ H a) (h2 : a = false → ET u σ H b) : ET (tOr t u) σ H (a || b) := fun H1 m Q q => h1 H1 m _ fun H2 m2 => by
  cases a with
  | true => exact iteT (q H2 m2)
  | false => exact iteF (h2 rfl H2 (m.trans m2) Q fun H3 m3 => q H3 (m2.trans m3))
/-- an item by a written place -/
theorem ed_ixT {ds : List PyData} {j : Nat} (ha : ED ta σ H (.tuple ds)) (hj : ds[j]? = some d) : ED (tOp (rIxT K) ta (tC (.int (j : Int)))) σ H d := fun H1 m Q q =>
  ha H1 m _ fun v H2 m2 h2 => by
    obtain ⟨a, xs, rfl, hx, hr⟩ := h2.tup
    obtain ⟨x, e1, e2⟩ := hr.get hj
    exact ⟨a, xs, (j : Int), x, rfl, rfl, .inl (.inl hx), atI_nat e1, q x H2 m2 e2⟩
theorem ed_ixL {ds : List PyData} {j : Nat} (ha : ED ta σ H (.list ds)) (hj : ds[j]? = some d) : ED (tOp (rIxL K) ta (tC (.int (j : Int)))) σ H d := fun H1 m Q q =>
  ha H1 m _ fun v H2 m2 h2 => by
    obtain ⟨a, xs, rfl, hx, hr⟩ := h2.lst
    obtain ⟨x, e1, e2⟩ := hr.get hj
    exact ⟨a, xs, (j : Int), x, rfl, rfl, .inl (.inl hx), atI_nat e1, q x H2 m2 e2⟩
/-- len of a list or a tuple -/
theorem ed_lenT {ds : List PyData} (ha : ED ta σ H (.tuple ds)) : ED (tCB (fun xs H Q => ∃ p ys, xs = [.ref p] ∧ (SqL K H p ys ∨ SqT K H p ys) ∧ Q (.int ys.length) H) (tCons ta tNil)) σ H (.int ds.length) := fun H1 m Q q =>
  ha H1 m _ fun v H2 m2 h2 => by
    obtain ⟨a, xs, rfl, hx, hr⟩ := h2.tup
    exact ⟨a, xs, rfl, .inr (.inl (.inl hx)), by rw [hr.length]; exact q _ H2 m2 dd_int⟩
theorem ed_lenL {ds : List PyData} (ha : ED ta σ H (.list ds)) : ED (tCB (fun xs H Q => ∃ p ys, xs = [.ref p] ∧ (SqL K H p ys ∨ SqT K H p ys) ∧ Q (.int ys.length) H) (tCons ta tNil)) σ H (.int ds.length) := fun H1 m Q q =>
  ha H1 m _ fun v H2 m2 h2 => by
    obtain ⟨a, xs, rfl, hx, hr⟩ := h2.lst
    exact ⟨a, xs, rfl, .inl (.inl (.inl hx)), by rw [hr.length]; exact q _ H2 m2 dd_int⟩
theorem ed_lenS {x : Str} (ha : ED ta σ H (.str x)) (hl : x.length ≤ sizeLine) : ED (tCB (fun xs H Q => ∃ z, xs = [.str z] ∧ z.length ≤ sizeLine ∧ Q (.int z.length) H) (tCons ta tNil)) σ H (.int x.length) := fun H1 m Q q =>
  ha H1 m _ fun v H2 m2 h2 => ⟨x, by rw [h2.str_eq], hl, q _ H2 m2 dd_int⟩
/-- tuple(list), list(tuple), list(list) -/
theorem ed_tupleL {ds : List PyData} (ha : ED ta σ H (.list ds)) : ED (tCB (fun xs H Q => ∃ p ys, xs = [.ref p] ∧ ((SqL K H p ys ∧ ∀ l, H l = none → Q (.ref l) (upd H l (.tup ys))) ∨ (SqT K H p ys ∧ Q (.ref p) H))) (tCons ta tNil)) σ H (.tuple ds) := fun H1 m Q q =>
  ha H1 m _ fun v H2 m2 h2 => by
    obtain ⟨a, xs, rfl, hx, hr⟩ := h2.lst
    exact ⟨a, xs, rfl, .inl ⟨.inl (.inl hx), fun l hl => q _ _ (m2.trans (Same.new hl)) (dd_tup upd_same (DDs.same (Same.new hl) _ _ hr))⟩⟩
theorem ed_listT {ds : List PyData} (ha : ED ta σ H (.tuple ds)) : ED (tCB (fun xs H Q => ∃ p ys, xs = [.ref p] ∧ (SqL K H p ys ∨ SqT K H p ys) ∧ ∀ l, H l = none → Q (.ref l) (upd H l (.lst ys))) (tCons ta tNil)) σ H (.list ds) := fun H1 m Q q =>
  ha H1 m _ fun v H2 m2 h2 => by
    obtain ⟨a, xs, rfl, hx, hr⟩ := h2.tup
    exact ⟨a, xs, rfl, .inr (.inl (.inl hx)), fun l hl => q _ _ (m2.trans (Same.new hl)) (dd_lst upd_same (DDs.same (Same.new hl) _ _ hr))⟩
theorem ed_listL {ds : List PyData} (ha : ED ta σ H (.list ds)) : ED (tCB (fun xs H Q => ∃ p ys, xs = [.ref p] ∧ (SqL K H p ys ∨ SqT K H p ys) ∧ ∀ l, H l = none → Q (.ref l) (upd H l (.lst ys))) (tCons ta tNil)) σ H (.list ds) := fun H1 m Q q =>
  ha H1 m _ fun v H2 m2 h2 => by
    obtain ⟨a, xs, rfl, hx, hr⟩ := h2.lst
    exact ⟨a, xs, rfl, .inl (.inl (.inl hx)), fun l hl => q _ _ (m2.trans (Same.new hl)) (dd_lst upd_same (DDs.same (Same.new hl) _ _ hr))⟩
/-- list + list -/
theorem ed_cat {ds es : List PyData} (ha : ED ta σ H (.list ds)) (hb : ED tb σ H (.list es)) (hl : ds.length + es.length ≤ 10000) : ED (tOp rCat ta tb) σ H (.list (ds ++ es)) := fun H1 m Q q =>
  ha H1 m _ fun v H2 m2 h2 => hb H2 (m.trans m2) _ fun w H3 m3 h3 => by
    obtain ⟨a, xs, rfl, hx, hr⟩ := (DD.same m3 _ _ h2).lst
    obtain ⟨b, ys, rfl, hy, hs⟩ := h3.lst
    exact ⟨a, b, xs, ys, rfl, rfl, hx, hy, by rw [hr.length, hs.length, sizeLine_eq]; omega, fun p hp => q _ _ ((m2.trans m3).trans (Same.new hp)) (dd_lst upd_same ((DDs.same (Same.new hp) _ _ hr).append (DDs.same (Same.new hp) _ _ hs)))⟩
/-- tuple + tuple -/
theorem ed_catT {ds es : List PyData} (ha : ED ta σ H (.tuple ds)) (hb : ED tb σ H (.tuple es)) (hl : ds.length + es.length ≤ 10000) : ED (tOp (rCatA K) ta tb) σ H (.tuple (ds ++ es)) := fun H1 m Q q =>
  ha H1 m _ fun v H2 m2 h2 => hb H2 (m.trans m2) _ fun w H3 m3 h3 => by
    obtain ⟨a, xs, rfl, hx, hr⟩ := (DD.same m3 _ _ h2).tup
    obtain ⟨b, ys, rfl, hy, hs⟩ := h3.tup
    refine ⟨a, b, xs, ys, rfl, rfl, .inl (.inl hx), .inl (.inl hy), by rw [hr.length, hs.length, sizeLine_eq]; omega, fun z => ?_, fun _ z => ?_, fun _ _ p hp => ?_⟩
    · subst z
      have e0 : ds = [] := List.eq_nil_of_length_eq_zero hr.length.symm
      exact q _ _ (m2.trans m3) (by rw [e0]; exact dd_tup hy hs)
    · subst z
      have e0 : es = [] := List.eq_nil_of_length_eq_zero hs.length.symm
      exact q _ _ (m2.trans m3) (by rw [e0, List.append_nil]; exact dd_tup hx hr)
    · exact q _ _ ((m2.trans m3).trans (Same.new hp)) (dd_tup upd_same ((DDs.same (Same.new hp) _ _ hr).append (DDs.same (Same.new hp) _ _ hs)))
/-- x in names -/
theorem ed_inL {x : Str} {ys : List Str} (ha : ED ta σ H (.str x)) (hb : ED tb σ H (.list (ys.map PyData.str))) : ED (tOp (rIn K false) ta tb) σ H (.bool (decide (x ∈ ys))) := fun H1 m Q q =>
  ha H1 m _ fun v H2 m2 h2 => hb H2 (m.trans m2) _ fun w H3 m3 h3 => by
    obtain ⟨a, xs, rfl, hx, hr⟩ := h3.lst
    obtain rfl := hr.strs_eq
    obtain rfl := h2.str_eq
    refine ⟨a, _, rfl, .inl (.inl (.inl hx)), rfl, ?_, ?_⟩
    · rw [List.all_eq_true]
      intro y hy
      obtain ⟨z, _, rfl⟩ := List.mem_map.mp hy
      rfl
    · have e : (if false = true then !inV (V.str x) (ys.map V.str) else inV (V.str x) (ys.map V.str)) = decide (x ∈ ys) := by
        rw [if_neg Bool.false_ne_true]
        show ((ys.map V.str).any fun y => eqV y (V.str x)) = decide (x ∈ ys)
        rw [List.any_map, Bool.eq_iff_iff, List.any_eq_true, decide_eq_true_eq]
        constructor
        · rintro ⟨y, hy, e⟩
          have e' : decide (y = x) = true := e
          rw [← of_decide_eq_true e']
          exact hy
        · intro hx'
          exact ⟨x, hx', decide_eq_true rfl⟩
      rw [e]
      exact q _ H3 (m2.trans m3) dd_bl
end
end KL

/-! ## comprehensions, loops, over data -/
namespace KL
open PySem L2
theorem lfs_filterMap_snoc {l : List Nat} {rs : Nat → Option PyData} (h : ∀ i ∈ l, ∀ e, rs i = some e → lf e = true) : lfs (l.filterMap rs) = true := by
  induction l with
  | nil => rfl
  | cons a l ih =>
    have h' := ih fun i hi => h i (List.mem_cons_of_mem _ hi)
    rw [List.filterMap_cons]
    cases e : rs a with
    | none => exact h'
    | some d =>
      show (lf d && lfs (l.filterMap rs)) = true
      rw [h a List.mem_cons_self d e, h']
      rfl
/-- a comprehension over anything that walks, its list told as data -/
theorem lcD {J : It} {n : Nat} {G : Hp → Prop} {Y : Nat → Hp → V → Hp → Prop} (w : L2.Walk J n G Y) {g : TG} {tt : TT} {te : TE} {vs : List Nat} {σ : L2.St} {H2 : Hp} (rs : Nat → Option PyData) (hn : n ≤ 10000)
    (hlf : ∀ i, i < n → ∀ e, rs i = some e → lf e = true) (hG : ∀ H', Same H2 H' → G H')
    (turn : ∀ i x H1 H1', i < n → Same H2 H1 → Y i H1 x H1' → ∀ (Nx : Hp → Prop) (Kp : VK), (∀ H3, Same H1 H3 → rs i = none → Nx H3) → (∀ y H3 e, Same H1 H3 → rs i = some e → DD H3 e y → Kp y H3) →
      g x (wipe σ vs) H1' fun σ2 H3 => wipe σ2 vs = wipe σ vs ∧ tt σ2 H3 fun b H4 => if b = true then te σ2 H4 Kp else Nx H4)
    {D : Addr} (hD : H2 D = none) {Qd : Hp → Prop} (hq : ∀ H', Same H2 H' → DD H' (.list ((List.range n).filterMap rs)) (.ref D) → Qd H') :
    ∃ W : Nat → Nat → Hp → Prop, (∃ m, W 0 m (upd H2 D (.lst []))) ∧ ∀ i m H, W i m H →
      (J.stop i H ∧ Qd H) ∨ (J.go i H ∧ ∃ Nx : Hp → Prop, (∀ H', Nx H' → ∃ m', m' < m ∧ W (i + 1) m' H') ∧ ∀ x H', J.yld i H x H' → g x (wipe σ vs) H' fun σ2 H2 => wipe σ2 vs = wipe σ vs ∧ tt σ2 H2 fun b H3 =>
        if b = true then te σ2 H3 fun y H4 => ∃ acc, H4 D = some (.lst acc) ∧ acc.length < sizeLine ∧ Nx (upd H4 D (.lst (acc ++ [y]))) else Nx H3) := by
  refine lc_it w (fun i H => Same H2 H ∧ ∃ acc, H D = some (.lst acc) ∧ DDs H ((List.range i).filterMap rs) acc) ⟨Same.new hD, [], upd_same, dds_nil⟩ (fun i H _ p => hG H p.1) ?_ (fun H p => ?_)
  · rintro i x H H' hi ⟨s0, acc, ha, hds⟩ y
    refine turn i x H H' hi s0 y _ _ (fun H3 s1 e => ⟨s0.trans s1, acc, s1 _ _ ha, ?_⟩) (fun z H3 e s1 er hz => ⟨acc, s1 _ _ ha, ?_, Same.mut (s0.trans s1) hD, acc ++ [z], upd_same, ?_⟩)
    · rw [List.range_succ, List.filterMap_append]
      have e0 : [i].filterMap rs = [] := by rw [List.filterMap_cons, e]; rfl
      rw [e0, List.append_nil]
      exact DDs.same s1 _ _ hds
    · have h1 := hds.length
      have h2 := List.length_filterMap_le rs (List.range i)
      rw [List.length_range] at h2
      rw [sizeLine_eq]
      omega
    · rw [List.range_succ, List.filterMap_append]
      have e0 : [i].filterMap rs = [e] := by rw [List.filterMap_cons, er]; rfl
      rw [e0]
      have kt : KT H3 (upd H3 D (.lst (acc ++ [z]))) := KT.updL (s1 _ _ ha)
      refine DDs.snoc (DDs.kt kt _ _ (lfs_filterMap_snoc fun j hj e he => hlf j (by have := List.mem_range.mp hj; omega) e he) (DDs.same s1 _ _ hds)) (DD.kt kt _ _ (hlf i hi e er) hz)
  · obtain ⟨s0, acc, ha, hds⟩ := p
    exact hq H s0 (dd_lst ha hds)
theorem filterMap_range {α β : Type} (f : α → Option β) : ∀ (ds : List α), (List.range ds.length).filterMap (fun i => (ds[i]?).bind f) = ds.filterMap f
  | [] => rfl
  | d :: ds => by
    rw [List.length_cons, List.range_succ_eq_map, List.filterMap_cons]
    have ih := filterMap_range f ds
    have e1 : ((d :: ds)[0]?).bind f = f d := rfl
    rw [e1, List.filterMap_map]
    have e2 : (fun i => ((d :: ds)[i]?).bind f) ∘ Nat.succ = fun i => (ds[i]?).bind f := rfl
    rw [e2, ih, List.filterMap_cons]
section
variable {K : PySem.W.Frag} {σ : L2.St} {H : Hp} {tl te : TE} {g : TG} {tt : TT} {vs : List Nat} {ds : List PyData}
/-- what a turn over the item d owes -/
def Turn1 (g : TG) (tt : TT) (te : TE) (vs : List Nat) (σ : L2.St) (H : Hp) (d : PyData) (r : Option PyData) : Prop :=
  ∀ x H1, Same H H1 → DD H1 d x → ∀ (Nx : Hp → Prop) (Kp : VK), (∀ H3, Same H1 H3 → r = none → Nx H3) → (∀ y H3 e, Same H1 H3 → r = some e → DD H3 e y → Kp y H3) →
    g x (wipe σ vs) H1 fun σ2 H3 => wipe σ2 vs = wipe σ vs ∧ tt σ2 H3 fun b H4 => if b = true then te σ2 H4 Kp else Nx H4
theorem ed_lcT {f : PyData → Option PyData} (hs : ED tl σ H (.tuple ds)) (hl : ds.length ≤ 10000) (hlf : ∀ d ∈ ds, ∀ e, f d = some e → lf e = true)
    (turn : ∀ d ∈ ds, Turn1 g tt te vs σ H d (f d)) : ED (tLc (iTup K tl) g tt te vs) σ H (.list (ds.filterMap f)) := fun H1 m Q q =>
  hs H1 m _ fun v H2 m2 h2 => by
    obtain ⟨a, xs, rfl, hx, hr⟩ := h2.tup
    refine ⟨a, rfl, ⟨xs, .inl (.inl hx)⟩, fun D hD => ?_⟩
    have hlen := hr.length
    refine lcD (walk_tup (xs := xs)) (fun i => (ds[i]?).bind f) (by omega) (fun i hi e he => ?_) (fun H' s => .inl (.inl (s _ _ hx))) (fun i x H1 H1' hi s1 y Nx Kp k1 k2 => ?_) hD fun H' s1 hd => ?_
    · cases hd : ds[i]? with
      | none => rw [hd] at he; cases he
      | some d => rw [hd] at he; exact hlf d (List.mem_of_getElem? hd) e he
    · obtain ⟨rfl, hx'⟩ := y
      obtain ⟨d, hd, hdx⟩ := hr.back hx'
      have e : (ds[i]?).bind f = f d := by rw [hd]; rfl
      simp only [e] at k1 k2
      exact turn d (List.mem_of_getElem? hd) x _ ((m.trans m2).trans s1) (DD.same s1 _ _ hdx) Nx Kp k1 k2
    · rw [hlen, filterMap_range] at hd
      exact q _ H' (m2.trans s1) hd
theorem ed_lcL {f : PyData → Option PyData} (hs : ED tl σ H (.list ds)) (hl : ds.length ≤ 10000) (hlf : ∀ d ∈ ds, ∀ e, f d = some e → lf e = true)
    (turn : ∀ d ∈ ds, Turn1 g tt te vs σ H d (f d)) : ED (tLc (iList K tl) g tt te vs) σ H (.list (ds.filterMap f)) := fun H1 m Q q =>
  hs H1 m _ fun v H2 m2 h2 => by
    obtain ⟨a, xs, rfl, hx, hr⟩ := h2.lst
    refine ⟨a, rfl, ⟨xs, .inl (.inl hx)⟩, fun D hD => ?_⟩
    have hlen := hr.length
    refine lcD (walk_list (xs := xs)) (fun i => (ds[i]?).bind f) (by omega) (fun i hi e he => ?_) (fun H' s => .inl (.inl (s _ _ hx))) (fun i x H1 H1' hi s1 y Nx Kp k1 k2 => ?_) hD fun H' s1 hd => ?_
    · cases hd : ds[i]? with
      | none => rw [hd] at he; cases he
      | some d => rw [hd] at he; exact hlf d (List.mem_of_getElem? hd) e he
    · obtain ⟨rfl, hx'⟩ := y
      obtain ⟨d, hd, hdx⟩ := hr.back hx'
      have e : (ds[i]?).bind f = f d := by rw [hd]; rfl
      simp only [e] at k1 k2
      exact turn d (List.mem_of_getElem? hd) x _ ((m.trans m2).trans s1) (DD.same s1 _ _ hdx) Nx Kp k1 k2
    · rw [hlen, filterMap_range] at hd
      exact q _ H' (m2.trans s1) hd
/-- [e for x in ..] -/
theorem turn_n {i : Nat} {d e : PyData} (hw : ∀ x, wipe ((wipe σ vs).set i (some x)) vs = wipe σ vs) (he : ∀ x H1, Same H H1 → DD H1 d x → ED te ((wipe σ vs).set i (some x)) H1 e) : Turn1 (gName i) tYes te vs σ H d (some e) :=
  fun x H1 s1 hx Nx Kp _ k2 => ⟨hw x, (show (if true = true then te ((wipe σ vs).set i (some x)) H1 Kp else Nx H1) from iteT (he x H1 s1 hx H1 (L2.Same.refl H1) _ fun y H3 s3 hy => k2 y H3 e s3 rfl hy))⟩
/-- [e for x in .. if t] -/
theorem turn_nt {i : Nat} {d e : PyData} {b : Bool} (hw : ∀ x, wipe ((wipe σ vs).set i (some x)) vs = wipe σ vs) (ht : ∀ x H1, Same H H1 → DD H1 d x → ET tt ((wipe σ vs).set i (some x)) H1 b)
    (he : b = true → ∀ x H1, Same H H1 → DD H1 d x → ED te ((wipe σ vs).set i (some x)) H1 e) : Turn1 (gName i) tt te vs σ H d (if b = true then some e else none) :=
  fun x H1 s1 hx Nx Kp k1 k2 => ⟨hw x, ht x H1 s1 hx H1 (L2.Same.refl H1) _ fun H3 s3 => by
    cases b with
    | true => exact iteT (he rfl x H3 (s1.trans s3) (DD.same s3 _ _ hx) H3 (L2.Same.refl H3) _ fun y H4 s4 hy => k2 y H4 e (s3.trans s4) rfl hy)
    | false => exact iteF (k1 H3 s3 rfl)⟩
/-- [e for x, y in ..] -/
theorem turn_p {i j : Nat} {d1 d2 e : PyData} (hw : ∀ x y, wipe (((wipe σ vs).set i (some x)).set j (some y)) vs = wipe σ vs)
    (he : ∀ x y H1, Same H H1 → DD H1 d1 x → DD H1 d2 y → ED te (((wipe σ vs).set i (some x)).set j (some y)) H1 e) : Turn1 (gTup K 2 (gCons (gName i) (gCons (gName j) gNil))) tYes te vs σ H (.tuple [d1, d2]) (some e) :=
  fun x H1 s1 hx Nx Kp _ k2 => by
    obtain ⟨a, xs, rfl, ha, hr⟩ := hx.tup
    obtain ⟨x1, x2, rfl, h1, h2⟩ := hr.two
    exact ⟨a, _, rfl, .inl (.inl ha), rfl, x1, _, rfl, x2, _, rfl, rfl, hw x1 x2, (show (if true = true then te (((wipe σ vs).set i (some x1)).set j (some x2)) H1 Kp else Nx H1) from iteT (he x1 x2 H1 s1 h1 h2 H1 (L2.Same.refl H1) _ fun y H3 s3 hy => k2 y H3 e s3 rfl hy))⟩
theorem map_some {α β : Type} {f : α → Option β} {g : α → β} : ∀ {l : List α}, (∀ d ∈ l, f d = some (g d)) → l.filterMap f = l.map g
  | [], _ => rfl
  | d :: l, h => by
    rw [List.filterMap_cons, h d List.mem_cons_self, List.map_cons]
    show g d :: l.filterMap f = _
    rw [map_some fun e he => h e (List.mem_cons_of_mem _ he)]
end
/-! ### promises of pure defs -/
/-- called with data ds that R relates to d: hands back d, all that stood stands -/
def spD (R : List PyData → PyData → Prop) : Sp := fun vs H Q _ => ∃ ds d, R ds d ∧ DDs H ds vs ∧ ∀ v H', Same H H' → DD H' d v → Q v H'
theorem ed_call {R : List PyData → PyData → Prop} {E : XK} {ta : TA} {σ : L2.St} {H : Hp} {ds : List PyData} {d : PyData} (h : EA ta σ H ds) (r : R ds d) : ED (tCall (spD R) [] E ta) σ H d := fun H1 m Q q =>
  h H1 m _ fun vs H2 m2 h2 => by
    rw [List.append_nil]
    exact ⟨ds, d, r, h2, fun v H' s hd => q v H' (m2.trans s) hd⟩
theorem s_retD {te : TE} {σ : L2.St} {H : Hp} {d : PyData} {D : Ends} (h : ED te σ H d) (k : ∀ v H1, Same H H1 → DD H1 d v → D.rt v H1) : tRet te D σ H := h H (L2.Same.refl H) _ k
theorem s_next {D : Ends} {σ : L2.St} {H : Hp} (h : D.nx σ H) : tNext D σ H := h
theorem s_setD {te : TE} {σ : L2.St} {H : Hp} {d : PyData} {D : Ends} {i : Nat} (h : ED te σ H d) (k : ∀ v H1, Same H H1 → DD H1 d v → D.nx (σ.set i (some v)) H1) : tAsg te (gName i) D σ H := h H (L2.Same.refl H) _ k
theorem s_ifD {tt : TT} {σ : L2.St} {H : Hp} {b : Bool} {t u : TS} {D : Ends} (h : ET tt σ H b) (h1 : b = true → ∀ H1, Same H H1 → t D σ H1) (h2 : b = false → ∀ H1, Same H H1 → u D σ H1) : tIfS tt t u D σ H :=
  h H (L2.Same.refl H) _ fun H1 m => by
    cases b with
    | true => exact iteT (h1 rfl H1 m)
    | false => exact iteF (h2 rfl H1 m)
/-- all(a list of bools) -/
theorem ed_all {K : PySem.W.Frag} {te : TE} {σ : L2.St} {H : Hp} {bs : List Bool} (h : ED te σ H (.list (bs.map PyData.bool))) : ED (tCB (rAll K) (tCons te tNil)) σ H (.bool (bs.all id)) := fun H1 m Q q =>
  h H1 m _ fun v H2 m2 h2 => by
    obtain ⟨a, xs, rfl, hx, hr⟩ := h2.lst
    obtain rfl := hr.bools_eq
    exact ⟨a, bs, rfl, .inl (.inl hx), q _ H2 m2 dd_bl⟩
/-- what a datum's class is -/
def clsD : PyData → String
  | .none => "NoneType"
  | .bool _ => "bool"
  | .int _ => "int"
  | .str _ => "str"
  | .list _ => "list"
  | .tuple _ => "tuple"
  | .dict _ => "dict"
theorem DD.ty {K : PySem.W.Frag} {H : Hp} : ∀ {d : PyData} {v : V}, DD H d v → TyX K H v (.type (clsD d))
  | .none, _, h => by rw [h.non_eq]; exact .base .non
  | .bool _, _, h => by rw [h.bl_eq]; exact .base (.bl _)
  | .int _, _, h => by rw [h.int_eq]; exact .base (.int _)
  | .str _, _, h => by rw [h.str_eq]; exact .base (.str _)
  | .list ds, _, h => by
    obtain ⟨a, xs, rfl, hx, _⟩ := h.lst
    exact .base (.lst hx)
  | .tuple ds, _, h => by
    obtain ⟨a, xs, rfl, hx, _⟩ := h.tup
    exact .base (.tup hx)
  | .dict _, _, h => by simp only [DD] at h
/-- isinstance(x, T), T built-in -/
theorem ed_isi {K : PySem.W.Frag} {ta : TE} {σ : L2.St} {H : Hp} {d : PyData} {T : String} {b : Bool} (h : ED ta σ H d) (e : PySem.W.kitOne K (.type (clsD d)) (.type T) = some b) :
    ED (tCB (rIsi K) (tCons ta (tCons (tC (.ty T)) tNil))) σ H (.bool b) := fun H1 m Q q =>
  h H1 m _ fun v H2 m2 h2 => ⟨v, .ty T, _, _, b, rfl, .ty T, h2.ty, e, q _ H2 m2 dd_bl⟩
end KL

/-! ## the text by places -/
namespace KL
open PySem PySem.Spec PyProof.Rows L2
def topS (i : Nat) : Stmt := PySem.Challenge.pw_kitsleft_k17_whole_nettings_drawn.main.body.getD i (.Pass ⟨0, 0, 0, 0⟩)
abbrev s_is_integer : Stmt := topS 13
abbrev s_is_count : Stmt := topS 14
abbrev s_is_name : Stmt := topS 15
abbrev s_is_among : Stmt := topS 16
abbrev s_is_tuple_of : Stmt := topS 17
abbrev s_is_names : Stmt := topS 18
abbrev s_is_counted : Stmt := topS 19
abbrev s_first_names : Stmt := topS 20
abbrev s_is_article : Stmt := topS 21
abbrev s_is_row : Stmt := topS 22
abbrev s_want : Stmt := topS 24
abbrev s_want_sales : Stmt := topS 25
abbrev s_stocks_by : Stmt := topS 27
abbrev s_packs_by : Stmt := topS 28
abbrev s_outer_names : Stmt := topS 29
abbrev s_numbers_by : Stmt := topS 31
abbrev s_names_at_bottom : Stmt := topS 32
abbrev s_turns_and_asks : Stmt := topS 33
abbrev s_left_by : Stmt := topS 34
abbrev s_net_told : Stmt := topS 35
abbrev s_netted : Stmt := topS 37
abbrev s__law_feed : Stmt := topS 39
abbrev s__law_draw : Stmt := topS 40
abbrev s__law_any : Stmt := topS 41
abbrev s__law_labels : Stmt := topS 42
abbrev s__law_pack : Stmt := topS 43
abbrev s__law_options : Stmt := topS 44
abbrev s__law_shop : Stmt := topS 45
abbrev s__law_articles : Stmt := topS 46
abbrev s__law_row : Stmt := topS 47
abbrev s__law_net : Stmt := topS 48
abbrev s__law_due : Stmt := topS 50
abbrev s__law_with : Stmt := topS 51
abbrev s__law_is_rising : Stmt := topS 52
abbrev s__law_odd_rows : Stmt := topS 53
abbrev s__law_heard : Stmt := topS 54
abbrev s__law_is_right : Stmt := topS 55
abbrev s_law : Stmt := topS 56
/-- the def x stands in the written part, the module's name x holds it -/
structure At (K : PySem.W.Frag) (mg : Str → Option Value) (x : Str) (st : Stmt) : Prop where
  ex : ∃ (f : Addr) (fd : FuncData), Fun K x x st f fd ∧ mg x = some (.ref f)
/-- what the top has left -/
structure Txt (K : PySem.W.Frag) (mg : Str → Option Value) : Prop where
  n_isinstance : mg "isinstance" = none
  n_int : mg "int" = none
  n_bool : mg "bool" = none
  n_str : mg "str" = none
  n_tuple : mg "tuple" = none
  n_len : mg "len" = none
  n_all : mg "all" = none
  n_zip : mg "zip" = none
  n_sorted : mg "sorted" = none
  n_set : mg "set" = none
  n_list : mg "list" = none
  n_dict : mg "dict" = none
  n_range : mg "range" = none
  n_repr : mg "repr" = none
  n_super : mg "super" = none
  n_ValueError : mg "ValueError" = none
  m_LETTERS : ∃ u, mg "LETTERS" = some u ∧ RelV (.str "abcdefghijklmnopqrstuvwxyz") u
  m_LONGEST_NAME : ∃ u, mg "LONGEST_NAME" = some u ∧ RelV (.int 8) u
  a_is_integer : At K mg "is_integer" s_is_integer
  a_is_count : At K mg "is_count" s_is_count
  a_is_name : At K mg "is_name" s_is_name
  a_is_among : At K mg "is_among" s_is_among
  a_is_tuple_of : At K mg "is_tuple_of" s_is_tuple_of
  a_is_names : At K mg "is_names" s_is_names
  a_is_counted : At K mg "is_counted" s_is_counted
  a_first_names : At K mg "first_names" s_first_names
  a_is_article : At K mg "is_article" s_is_article
  a_is_row : At K mg "is_row" s_is_row
  a_want : At K mg "want" s_want
  a_want_sales : At K mg "want_sales" s_want_sales
  a_stocks_by : At K mg "stocks_by" s_stocks_by
  a_packs_by : At K mg "packs_by" s_packs_by
  a_outer_names : At K mg "outer_names" s_outer_names
  a_numbers_by : At K mg "numbers_by" s_numbers_by
  a_names_at_bottom : At K mg "names_at_bottom" s_names_at_bottom
  a_turns_and_asks : At K mg "turns_and_asks" s_turns_and_asks
  a_left_by : At K mg "left_by" s_left_by
  a_net_told : At K mg "net_told" s_net_told
  a_netted : At K mg "netted" s_netted
  a__law_feed : At K mg "_law_feed" s__law_feed
  a__law_draw : At K mg "_law_draw" s__law_draw
  a__law_any : At K mg "_law_any" s__law_any
  a__law_labels : At K mg "_law_labels" s__law_labels
  a__law_pack : At K mg "_law_pack" s__law_pack
  a__law_options : At K mg "_law_options" s__law_options
  a__law_shop : At K mg "_law_shop" s__law_shop
  a__law_articles : At K mg "_law_articles" s__law_articles
  a__law_row : At K mg "_law_row" s__law_row
  a__law_net : At K mg "_law_net" s__law_net
  a__law_due : At K mg "_law_due" s__law_due
  a__law_with : At K mg "_law_with" s__law_with
  a__law_is_rising : At K mg "_law_is_rising" s__law_is_rising
  a__law_odd_rows : At K mg "_law_odd_rows" s__law_odd_rows
  a__law_heard : At K mg "_law_heard" s__law_heard
  a__law_is_right : At K mg "_law_is_right" s__law_is_right
  a_law : At K mg "law" s_law

/-- a def with its promise, as callers see it -/
structure Def (P : Program) (w : World) (K : PySem.W.Frag) (mg : Str → Option Value) (base : Heap) (CX : CXT) (k : Nat) (x : Str) (sp : Sp) : Prop where
  ex : ∃ (f : Addr) (fd : FuncData) (ps : List Str), FnOk P w K mg base CX k f fd ps sp ∧ mg x = some (.ref f) ∧ PySem.W.keepIn K (.ref f) = true ∧ Binds K fd ps []
section
variable {X : Cx} {CX : CXT} {k j : Nat} {x : Str} {sp : Sp} {E : XK} {e : Expr} {es : List Expr} {t : TA} {p pos : Pos}
theorem pe_d (c : Def X.prog X.w X.K X.mg X.base CX k x sp) (hr : Room j X.A) (hk : k ≤ j) (hg : Gl X x) (hx : Passes CX X E) (ha : PA X (e :: es) t)
    (hdb : (x == ("__debug__" : Str)) = false := by decide) (he : starEach (e :: es) X.env = (false, eval e X.env) :: starEach es X.env := by rfl) (hpl : (backTo pos (starEach es X.env)).any (·.1) = false := by rfl) :
    PE X (.Call (.Name x p) (e :: es) [] pos) (tCall sp [] E t) := by
  obtain ⟨f, fd, ps, F, hm, kp, b⟩ := c.ex
  exact pe_call F (hr.mono hk) hg hm kp b .nil hx ha hdb he hpl
theorem pe_gc {v : V} (hg : Gl X x) (h : ∃ u, X.mg x = some u ∧ RelV v u) (hd : (x == ("__debug__" : Str)) = false := by decide) : PE X (.Name x p) (tC v) := by
  obtain ⟨u, h1, h2⟩ := h
  exact pe_glob hg h1 h2 hd
end
section
variable {P : Program} {w : World} {K : PySem.W.Frag} {mg : Str → Option Value} {base : Heap}
theorem mk_def {x : Str} {st : Stmt} {N ps : List Str} {k : Nat} {sp : Sp} (A : At K mg x st) (S : FnScope N ps (defScope st))
    (hb : ∀ (kV doc pm : Value) (an : Option Addr) (cdv ct : Value) (us : List Value), us.length = ps.length → bindArgs (PySem.W.fnOf x x (defArgs st) (defBody st) (defScope st) .none kV doc pm an cdv ct) ⟨us, []⟩ = pure (ps.zip us))
    (len : ∀ vs H Q E, sp vs H Q E → vs.length = ps.length)
    (hbody : ∀ (f : Addr) (cdv : Value) (A : Around) (outer : List Env) (s : Shared) (H : Hp) (vs : List V) (Q : VK) (E : XK), Room k (A.deeper (envOfC x (defScope st) s.heap.objs.size f cdv)) → sp vs H Q E →
      ∃ t, PSs (cxOf CX0 P w K mg base N x (defScope st) f cdv A outer s H E).nox (defBody st) t ∧ t { nx := fun _ H' => Q .non H', rt := Q } (start N vs) H) : Def P w K mg base CX0 (k + 1) x sp := by
  obtain ⟨f, fd, F, hm⟩ := A.ex
  exact ⟨f, fd, ps, F.ok S len (hbody f), hm, F.kp, F.binds hb⟩
theorem mk_defX {x : Str} {st : Stmt} {N ps : List Str} {k : Nat} {sp : Sp} (A : At K mg x st) (S : FnScope N ps (defScope st))
    (hb : ∀ (kV doc pm : Value) (an : Option Addr) (cdv ct : Value) (us : List Value), us.length = ps.length → bindArgs (PySem.W.fnOf x x (defArgs st) (defBody st) (defScope st) .none kV doc pm an cdv ct) ⟨us, []⟩ = pure (ps.zip us))
    (len : ∀ vs H Q E, sp vs H Q E → vs.length = ps.length)
    (hbody : ∀ (f : Addr) (cdv : Value) (A : Around) (outer : List Env) (s : Shared) (H : Hp) (vs : List V) (Q : VK) (E : XK), Room k (A.deeper (envOfC x (defScope st) s.heap.objs.size f cdv)) → sp vs H Q E →
      ∃ t, PSs (cxOf (L2.CX P w) P w K mg base N x (defScope st) f cdv A outer s H E) (defBody st) t ∧ t { nx := fun _ H' => Q .non H', rt := Q } (start N vs) H) : Def P w K mg base (L2.CX P w) (k + 1) x sp := by
  obtain ⟨f, fd, F, hm⟩ := A.ex
  exact ⟨f, fd, ps, F.okX S len (hbody f), hm, F.kp, F.binds hb⟩
/-- a pure def: what is asked of its body -/
theorem mk_pure {x : Str} {st : Stmt} {N ps : List Str} {k : Nat} {R : List PyData → PyData → Prop} (A : At K mg x st) (S : FnScope N ps (defScope st))
    (hb : ∀ (kV doc pm : Value) (an : Option Addr) (cdv ct : Value) (us : List Value), us.length = ps.length → bindArgs (PySem.W.fnOf x x (defArgs st) (defBody st) (defScope st) .none kV doc pm an cdv ct) ⟨us, []⟩ = pure (ps.zip us))
    (hn : ∀ ds d, R ds d → ds.length = ps.length)
    (hbody : ∀ (f : Addr) (cdv : Value) (A : Around) (outer : List Env) (s : Shared) (H : Hp) (vs : List V) (ds : List PyData) (d : PyData) (E : XK), Room k (A.deeper (envOfC x (defScope st) s.heap.objs.size f cdv)) → R ds d → DDs H ds vs →
      ∃ t, PSs (cxOf CX0 P w K mg base N x (defScope st) f cdv A outer s H E).nox (defBody st) t ∧ ∀ (Q : VK), (∀ v H', Same H H' → DD H' d v → Q v H') → t { nx := fun _ H' => Q .non H', rt := Q } (start N vs) H) : Def P w K mg base CX0 (k + 1) x (spD R) := by
  refine mk_def A S hb (fun vs H Q E h => ?_) fun f cdv A outer s H vs Q E hr h => ?_
  · obtain ⟨ds, d, r, hd, _⟩ := h
    rw [hd.length, hn ds d r]
  · obtain ⟨ds, d, r, hd, k⟩ := h
    obtain ⟨t, ht, hq⟩ := hbody f cdv A outer s H vs ds d E hr r hd
    exact ⟨t, ht, hq Q k⟩
end
end KL

/-! ## kinds -/
namespace KL
open PySem PySem.Spec PyProof.Rows L2
def isIntD : PyData → Bool
  | .int _ => true
  | _ => false
def isCountD : PyData → Bool
  | .int i => decide (1 ≤ i)
  | _ => false
def isNameS (s : Str) : Bool := decide (1 ≤ (s.length : Int)) && decide ((s.length : Int) ≤ 8) && s.cps.toList.all fun c => decide (c ∈ ("abcdefghijklmnopqrstuvwxyz" : Str).cps.toList)
def isNameD : PyData → Bool
  | .str s => isNameS s
  | _ => false
def isAmongD (d : PyData) (names : List Str) : Bool := match d with
  | .str s => decide (s ∈ names)
  | _ => false
def isTupOfD (d : PyData) (n : Int) : Bool := match d with
  | .tuple ds => decide ((ds.length : Int) = n)
  | _ => false
def ltD : PyData → PyData → Bool
  | .str a, .str b => decide (a.cps.toList < b.cps.toList)
  | _, _ => false
def ltsD : List PyData → Bool
  | a :: b :: r => ltD a b && ltsD (b :: r)
  | _ => true
def isNamesD : PyData → Bool
  | .tuple ds => ds.all isNameD && ltsD ds
  | _ => false
def isCountedD : PyData → Bool
  | .tuple [a, b] => isNameD a && isCountD b
  | _ => false
/-- the first item -/
def fstD : PyData → PyData
  | .tuple (a :: _) => a
  | _ => .none
theorem scis_integer : FnScope ["thing"] ["thing"] (defScope s_is_integer) := ⟨rfl, rfl, rfl, by decide +kernel, rfl, by decide +kernel, by decide +kernel⟩
theorem scis_count : FnScope ["thing"] ["thing"] (defScope s_is_count) := ⟨rfl, rfl, rfl, by decide +kernel, rfl, by decide +kernel, by decide +kernel⟩
theorem scis_name : FnScope ["thing", "sign"] ["thing"] (defScope s_is_name) := ⟨rfl, rfl, rfl, by decide +kernel, rfl, by decide +kernel, by decide +kernel⟩
theorem scis_among : FnScope ["thing", "names"] ["thing", "names"] (defScope s_is_among) := ⟨rfl, rfl, rfl, by decide +kernel, rfl, by decide +kernel, by decide +kernel⟩
theorem scis_tuple_of : FnScope ["thing", "many"] ["thing", "many"] (defScope s_is_tuple_of) := ⟨rfl, rfl, rfl, by decide +kernel, rfl, by decide +kernel, by decide +kernel⟩
theorem scis_names : FnScope ["thing", "one", "other"] ["thing"] (defScope s_is_names) := ⟨rfl, rfl, rfl, by decide +kernel, rfl, by decide +kernel, by decide +kernel⟩
theorem scis_counted : FnScope ["thing"] ["thing"] (defScope s_is_counted) := ⟨rfl, rfl, rfl, by decide +kernel, rfl, by decide +kernel, by decide +kernel⟩
theorem scfirst_names : FnScope ["things", "thing"] ["things"] (defScope s_first_names) := ⟨rfl, rfl, rfl, by decide +kernel, rfl, by decide +kernel, by decide +kernel⟩
section
variable {P : Program} {w : World} {K : PySem.W.Frag} {mg : Str → Option Value} {base : Heap}
theorem kit_int (d : PyData) : PySem.W.kitOne K (.type (clsD d)) (.type "int") = some (match d with | .int _ => true | .bool _ => true | _ => false) := by cases d <;> (refine kit_ty ?_; dsimp only [clsD]; decide +kernel)
theorem kit_bool (d : PyData) : PySem.W.kitOne K (.type (clsD d)) (.type "bool") = some (match d with | .bool _ => true | _ => false) := by cases d <;> (refine kit_ty ?_; dsimp only [clsD]; decide +kernel)
theorem kit_str (d : PyData) : PySem.W.kitOne K (.type (clsD d)) (.type "str") = some (match d with | .str _ => true | _ => false) := by cases d <;> (refine kit_ty ?_; dsimp only [clsD]; decide +kernel)
theorem kit_tup (d : PyData) : PySem.W.kitOne K (.type (clsD d)) (.type "tuple") = some (match d with | .tuple _ => true | _ => false) := by cases d <;> (refine kit_ty ?_; dsimp only [clsD]; decide +kernel)
theorem d_is_integer (T : Txt K mg) : Def P w K mg base CX0 1 "is_integer" (spD fun ds d => ∃ x, ds = [x] ∧ d = .bool (isIntD x)) := by
  refine mk_pure T.a_is_integer scis_integer (fun _ _ _ _ _ _ us hl => match us, hl with | [_], _ => rfl) (fun ds d ⟨x, e, _⟩ => by rw [e]; rfl) fun f cdv A outer s H vs ds d E hr r hv => ?_
  obtain ⟨x, rfl, rfl⟩ := r
  obtain ⟨v, rfl, hx⟩ := hv.one
  refine ⟨_, (pss_one (ps_ret (pe_and (pe_callB call_isi (by rfl) T.n_isinstance (by decide +kernel) (pa_cons (pv 0) (pa_cons (pe_bltn (v := .ty "int") (by rfl) T.n_int (by decide +kernel) rfl) pa_nil))) (pe_one (pe_not (pe_callB call_isi (by rfl) T.n_isinstance (by decide +kernel) (pa_cons (pv 0) (pa_cons (pe_bltn (v := .ty "bool") (by rfl) T.n_bool (by decide +kernel) rfl) pa_nil)))))))), fun Q k => s_retD (ED.is (ed_and (ed_isi (ed_var rfl hx) (kit_int x)) fun _ => ed_not (ed_isi (ed_var rfl hx) (kit_bool x))) ?_) k⟩
  cases x <;> rfl
theorem d_is_count (T : Txt K mg) : Def P w K mg base CX0 2 "is_count" (spD fun ds d => ∃ x, ds = [x] ∧ d = .bool (isCountD x)) := by
  refine mk_pure T.a_is_count scis_count (fun _ _ _ _ _ _ us hl => match us, hl with | [_], _ => rfl) (fun ds d ⟨x, e, _⟩ => by rw [e]; rfl) fun f cdv A outer s H vs ds d E hr r hv => ?_
  obtain ⟨x, rfl, rfl⟩ := r
  obtain ⟨v, rfl, hx⟩ := hv.one
  refine ⟨_, (pss_one (ps_ret (pe_and (pe_d (d_is_integer T) hr (by decide) (by rfl) pass0 (pa_cons (pv 0) pa_nil)) (pe_one (pe_cmpR op_ge (pv 0) pe_int (nomark _)))))), fun Q k => s_retD (ED.is (ed_and (b := isCountD x) (ed_call (ea_cons (ed_var rfl hx) ea_nil) ⟨x, rfl, rfl⟩) fun z => ?_) ?_) k⟩
  · cases x with
    | int i => exact ed_opB (ed_var rfl hx) ed_int
    | _ => cases z
  · cases x <;> rfl
theorem d_is_tuple_of (T : Txt K mg) : Def P w K mg base CX0 1 "is_tuple_of" (spD fun ds d => ∃ x n, ds = [x, .int n] ∧ d = .bool (isTupOfD x n)) := by
  refine mk_pure T.a_is_tuple_of scis_tuple_of (fun _ _ _ _ _ _ us hl => match us, hl with | [_, _], _ => rfl) (fun ds d ⟨x, n, e, _⟩ => by rw [e]; rfl) fun f cdv A outer s H vs ds d E hr r hv => ?_
  obtain ⟨x, n, rfl, rfl⟩ := r
  obtain ⟨v, u, rfl, hx, hn⟩ := hv.two
  refine ⟨_, (pss_one (ps_ret (pe_and (pe_callB call_isi (by rfl) T.n_isinstance (by decide +kernel) (pa_cons (pv 0) (pa_cons (pe_bltn (v := .ty "tuple") (by rfl) T.n_tuple (by decide +kernel) rfl) pa_nil))) (pe_one (pe_cmpR op_eq (pe_callB call_len_seq (by rfl) T.n_len (by decide +kernel) (pa_cons (pv 0) pa_nil)) (pv 1) (nomark _)))))), fun Q k => s_retD (ED.is (ed_and (b := isTupOfD x n) (ed_isi (ed_var rfl hx) (kit_tup x)) fun z => ?_) ?_) k⟩
  · cases x with
    | tuple ds =>
      intro H1 m Q' q
      refine ed_lenT (ed_var rfl hx) H1 m _ fun v2 H2 m2 h2 => ?_
      refine ed_var rfl hn H2 (m.trans m2) _ fun v3 H3 m3 h3 => ?_
      rw [h2.int_eq, h3.int_eq]
      refine ⟨rfl, ?_⟩
      have e : decide (V.int (ds.length : Int) = V.int n) = isTupOfD (.tuple ds) n := by
        show _ = decide ((ds.length : Int) = n)
        by_cases c : (ds.length : Int) = n
        · rw [c, decide_eq_true rfl, decide_eq_true rfl]
        · rw [decide_eq_false c, decide_eq_false fun y => c (V.int.inj y)]
      rw [e]
      exact q _ H3 (m2.trans m3) dd_bl
    | _ => cases z
  · cases x <;> rfl
theorem d_is_among (T : Txt K mg) : Def P w K mg base CX0 1 "is_among" (spD fun ds d => ∃ (x : PyData) (ns : List Str), ds = [x, .list (ns.map PyData.str)] ∧ d = .bool (isAmongD x ns)) := by
  refine mk_pure T.a_is_among scis_among (fun _ _ _ _ _ _ us hl => match us, hl with | [_, _], _ => rfl) (fun ds d ⟨x, n, e, _⟩ => by rw [e]; rfl) fun f cdv A outer s H vs ds d E hr r hv => ?_
  obtain ⟨x, ns, rfl, rfl⟩ := r
  obtain ⟨v, u, rfl, hx, hn⟩ := hv.two
  refine ⟨_, (pss_one (ps_ret (pe_and (pe_callB call_isi (by rfl) T.n_isinstance (by decide +kernel) (pa_cons (pv 0) (pa_cons (pe_bltn (v := .ty "str") (by rfl) T.n_str (by decide +kernel) rfl) pa_nil))) (pe_one (pe_cmpR op_in_seq (pv 0) (pv 1) (by rfl)))))), fun Q k => s_retD (ED.is (ed_and (b := isAmongD x ns) (ed_isi (ed_var rfl hx) (kit_str x)) fun z => ?_) ?_) k⟩
  · cases x with
    | str i => exact ed_inL (ed_var rfl hx) (ed_var rfl hn)
    | _ => cases z
  · cases x <;> rfl
theorem turn_sign {σ : L2.St} {H : Hp} {i : Nat} {c : Nat} {hw : ∀ x, wipe ((wipe σ [i]).set i (some x)) [i] = wipe σ [i]} {r : PyData} {te : TE} (he : ∀ H1, Same H H1 → ED te ((wipe σ [i]).set i (some (.str ⟨#[c]⟩))) H1 r) :
    ∀ H1, Same H H1 → ∀ (Kp : VK) (Nx : Hp → Prop), (∀ y H3, Same H1 H3 → DD H3 r y → Kp y H3) → gName i (.str ⟨#[c]⟩) (wipe σ [i]) H1 fun σ2 H3 => wipe σ2 [i] = wipe σ [i] ∧ tYes σ2 H3 fun b H4 => if b = true then te σ2 H4 Kp else Nx H4 :=
  fun H1 s1 Kp Nx k => ⟨hw _, (show (if true = true then te ((wipe σ [i]).set i (some (.str ⟨#[c]⟩))) H1 Kp else Nx H1) from iteT (he H1 s1 H1 (L2.Same.refl H1) _ fun y H3 s3 hy => k y H3 s3 hy))⟩
theorem ed_inSign {ta tb : TE} {σ : L2.St} {H : Hp} {c : Nat} {z : Str} (ha : ED ta σ H (.str ⟨#[c]⟩)) (hb : ED tb σ H (.str z)) :
    ED (tOp (fun x y H Q => ∃ (c : Nat) (z : Str), x = .str ⟨#[c]⟩ ∧ y = .str z ∧ Q (.bl (decide (c ∈ z.cps.toList))) H) ta tb) σ H (.bool (decide (c ∈ z.cps.toList))) := fun H1 m Q q =>
  ha H1 m _ fun v H2 m2 h2 => hb H2 (m.trans m2) _ fun w H3 m3 h3 => ⟨c, z, h2.str_eq, h3.str_eq, q _ H3 (m2.trans m3) dd_bl⟩
theorem d_is_name (T : Txt K mg) : Def P w K mg base CX0 1 "is_name" (spD fun ds d => ∃ x, ds = [x] ∧ d = .bool (isNameD x) ∧ ∀ z, x = .str z → z.length ≤ 1000) := by
  refine mk_pure T.a_is_name scis_name (fun _ _ _ _ _ _ us hl => match us, hl with | [_], _ => rfl) (fun ds d ⟨x, e, _⟩ => by rw [e]; rfl) fun f cdv A outer s H vs ds d E hr r hv => ?_
  obtain ⟨x, rfl, rfl, hz⟩ := r
  obtain ⟨v, rfl, hx⟩ := hv.one
  have hv0 : ∀ z, x = .str z → ED (tVar 0) (start ["thing", "sign"] [v]) H (.str z) := fun z e => e ▸ ed_var rfl hx
  refine ⟨_, (pss_cons (ps_if (PW.pt (pw_or (pt_not (pt_val (pe_callB call_isi (by rfl) T.n_isinstance (by decide +kernel) (pa_cons (pv 0) (pa_cons (pe_bltn (v := .ty "str") (by rfl) T.n_str (by decide +kernel) rfl) pa_nil))))) (pw_or1 (pt_not (pt_chain op_le op_le pe_int (pe_callB call_len_str (by rfl) T.n_len (by decide +kernel) (pa_cons (pv 0) pa_nil)) (pe_gc (by rfl) T.m_LONGEST_NAME)))))) (pss_one (ps_ret pe_bl)) pss_nil)
      (pss_one (ps_ret (pe_callB (cr_all rfl) (by rfl) T.n_all (by decide +kernel) (pa_cons (pe_lc rfl scis_name.nd (pi_str (pv 0)) (blkOk_by (own := [("sign", 1)]) (N := ["thing", "sign"]) (sc := defScope s_is_name) (by decide +kernel)) (fun _ _ _ _ _ => (pg_name (i := 1) scis_name.nd rfl (Or.inl rfl) (hf := Or.inr rfl))) (fun _ _ _ _ _ => pts_nil) (fun _ _ _ _ _ => (pe_cmpR op_in_sign (pv 1) (pe_gc (by rfl) T.m_LETTERS) (by rfl)))) pa_nil))))), fun Q k => ?_⟩
  refine s_ifD (b := match x with | .str z => !(decide (1 ≤ (z.length : Int)) && decide ((z.length : Int) ≤ 8)) | _ => true)
    (ET.is (et_or (b := match x with | .str z => !(decide (1 ≤ (z.length : Int)) && decide ((z.length : Int) ≤ 8)) | _ => true) (et_not (et_B (ed_isi (ed_var rfl hx) (kit_str x)))) fun z0 => ?_) ?_) (fun hb H1 m => ?_) fun hb H1 m => ?_
  · cases x with
    | str z => exact et_not (et_test (ed_chain ed_int (ed_lenS (hv0 z rfl) (by have := hz z rfl; rw [sizeLine_eq]; omega)) ed_int))
    | _ => cases z0
  · cases x <;> rfl
  · refine s_retD ed_bl fun v2 H2 m2 h2 => k v2 H2 (m.trans m2) ?_
    have e : isNameD x = false := by
      cases x with
      | str z =>
        have hb' : (!(decide (1 ≤ (z.length : Int)) && decide ((z.length : Int) ≤ 8))) = true := hb
        show (decide (1 ≤ (z.length : Int)) && decide ((z.length : Int) ≤ 8) && _) = false
        rw [Bool.not_eq_true'] at hb'
        rw [hb']
        rfl
      | _ => rfl
    rw [e]
    exact h2
  · have hx1 := DD.same m _ _ hx
    cases x with
    | str z =>
      have hb' : (decide (1 ≤ (z.length : Int)) && decide ((z.length : Int) ≤ 8)) = true := by
        have hb2 : (!(decide (1 ≤ (z.length : Int)) && decide ((z.length : Int) ≤ 8))) = false := hb
        rw [Bool.not_eq_false'] at hb2
        exact hb2
      have hz8 : z.cps.size ≤ 8 := by
        obtain ⟨_, h8⟩ := Bool.and_eq_true_iff.mp hb'
        have h8' := of_decide_eq_true h8
        have : (z.cps.size : Int) ≤ 8 := h8'
        omega
      unfold tNext
      dsimp only
      refine s_retD (d := .bool (isNameD (.str z))) ?_ fun v2 H2 m2 h2 => k v2 H2 (m.trans m2) h2
      refine ED.is (ed_all (bs := (List.range z.cps.size).map fun i => decide (z.cps.toList.getD i 0 ∈ ("abcdefghijklmnopqrstuvwxyz" : Str).cps.toList)) fun H2 m2 Q2 q2 => ?_) ?_
      · refine ⟨v, rfl, z, hx1.str_eq, fun D hD => ?_⟩
        refine lcD (walk_str (z := z)) (fun i => some (.bool (decide (z.cps.toList.getD i 0 ∈ ("abcdefghijklmnopqrstuvwxyz" : Str).cps.toList)))) (by omega) (fun i hi e he => by cases he; rfl) (fun _ _ => True.intro) (fun i x H3 H3' hi s3 y Nx Kp k1 k2 => ?_) hD fun H' s' hd => q2 _ H' s' ?_
        · obtain ⟨rfl, c, hc, rfl⟩ := y
          have ec : z.cps.toList.getD i 0 = c := by
            rw [List.getD_eq_getElem?_getD, Array.getElem?_toList, hc]
            rfl
          rw [ec] at k2
          exact turn_sign (σ := start ["thing", "sign"] [v]) (hw := fun _ => rfl) (fun H4 s4 => ed_inSign (ed_var rfl dd_str) ed_str) H3' (L2.Same.refl _) Kp Nx fun y H4 s4 hy => k2 y H4 _ s4 rfl hy
        · rw [List.map_map]
          have e : (List.range z.cps.size).filterMap (fun i => some (PyData.bool (decide (z.cps.toList.getD i 0 ∈ ("abcdefghijklmnopqrstuvwxyz" : Str).cps.toList)))) = (List.range z.cps.size).map (PyData.bool ∘ fun i => decide (z.cps.toList.getD i 0 ∈ ("abcdefghijklmnopqrstuvwxyz" : Str).cps.toList)) := map_some fun _ _ => rfl
          rw [← e]
          exact hd
      · congr 1
        show _ = (decide (1 ≤ (z.length : Int)) && decide ((z.length : Int) ≤ 8) && _)
        rw [hb', Bool.true_and]
        rw [List.all_map]
        have e : z.cps.toList = (List.range z.cps.size).map fun i => z.cps.toList.getD i 0 := by
          apply List.ext_getElem
          · rw [List.length_map, List.length_range, Array.length_toList]
          · intro i h1 h2
            rw [List.getElem_map, List.getElem_range, List.getD_eq_getElem?_getD, List.getElem?_eq_getElem h1]
            rfl
        conv => rhs; rw [e]
        rw [List.all_map]
        rfl
    | _ => cases hb
end
end KL

/-! ## rows -/
namespace KL
open PySem PySem.Spec PyProof.Rows L2
/-! ### zip of two tuples -/
theorem walk_zipT {K : PySem.W.Frag} {a b : Addr} {xs ys : List V} {n : Nat} (hn : n = min xs.length ys.length) : L2.Walk (RZ.ItzT K a b) n (fun H => SqT K H a xs ∧ SqT K H b ys) (YPair (fun i => xs[i]?) (fun i => ys[i]?)) where
  goes := fun i _ hi q => ⟨xs, ys, xs[i]'(by omega), ys[i]'(by omega), q.1, q.2, List.getElem?_eq_getElem (by omega), List.getElem?_eq_getElem (by omega)⟩
  stops := fun _ q => ⟨xs, ys, q.1, q.2, by omega⟩
  yields := fun i H v H' _ q y => by
    obtain ⟨T, x, z, h1, h2, h3, h4, h5⟩ := y
    exact ⟨T, x, z, h1, h2, h3, h4 xs q.1, h5 ys q.2⟩
def TurnZ (tt : TT) (te : TE) (vs : List Nat) (i j : Nat) (σ : L2.St) (H : Hp) (d e : PyData) (r : Option PyData) : Prop :=
  ∀ x y H1, Same H H1 → DD H1 d x → DD H1 e y → ∀ (Nx : Hp → Prop) (Kp : VK), (∀ H3, Same H1 H3 → r = none → Nx H3) → (∀ y H3 e, Same H1 H3 → r = some e → DD H3 e y → Kp y H3) →
    wipe (((wipe σ vs).set i (some x)).set j (some y)) vs = wipe σ vs ∧ tt (((wipe σ vs).set i (some x)).set j (some y)) H1 fun b H4 => if b = true then te (((wipe σ vs).set i (some x)).set j (some y)) H4 Kp else Nx H4
section
variable {K : PySem.W.Frag} {σ : L2.St} {H : Hp} {aA : TA} {te : TE} {tt : TT} {vs : List Nat} {ds es : List PyData} {i j : Nat}
theorem ed_lcZ {f : Nat → Option PyData} (hs : EA aA σ H [.tuple ds, .tuple es]) (hl : ds.length ≤ 10000) (hlf : ∀ k, k < min ds.length es.length → ∀ e, f k = some e → lf e = true)
    (turn : ∀ k d e, ds[k]? = some d → es[k]? = some e → TurnZ tt te vs i j σ H d e (f k)) :
    ED (tLc (RZ.iZipA K aA) (gTup K 2 (gCons (gName i) (gCons (gName j) gNil))) tt te vs) σ H (.list ((List.range (min ds.length es.length)).filterMap f)) := fun H1 m Q q =>
  hs H1 m _ fun v H2 m2 h2 => by
    obtain ⟨u, v, rfl, hu, hv⟩ := h2.two
    obtain ⟨a, xs, rfl, hx, hr⟩ := hu.tup
    obtain ⟨b, ys, rfl, hy, hs'⟩ := hv.tup
    refine ⟨a, b, xs, ys, rfl, .inr ⟨.inl (.inl hx), .inl (.inl hy), fun D hD => ?_⟩⟩
    have l1 := hr.length
    have l2 := hs'.length
    refine lcD (walk_zipT (xs := xs) (ys := ys) (n := min ds.length es.length) (by rw [l1, l2])) f (by omega) hlf (fun H' s => ⟨.inl (.inl (s _ _ hx)), .inl (.inl (s _ _ hy))⟩) (fun k x H3 H3' hk s3 y Nx Kp k1 k2 => ?_) hD fun H' s' hd => q _ H' (m2.trans s') hd
    obtain ⟨t, x1, y1, rfl, ht, rfl, e1, e2⟩ := y
    obtain ⟨d, hd, hdx⟩ := hr.back e1
    obtain ⟨e, he, hey⟩ := hs'.back e2
    have s4 : Same H3 (upd H3 t (.tup [x1, y1])) := Same.new ht
    refine ⟨t, _, rfl, .inl (.inl upd_same), rfl, x1, _, rfl, y1, _, rfl, rfl, ?_⟩
    exact turn k d e hd he x1 y1 _ (((m.trans m2).trans s3).trans s4) (DD.same (s3.trans s4) _ _ hdx) (DD.same (s3.trans s4) _ _ hey) Nx Kp (fun H5 s5 r => k1 H5 (s4.trans s5) r) (fun y H5 e s5 r h => k2 y H5 e (s4.trans s5) r h)
theorem turn_z {d e r : PyData} (hw : ∀ x y, wipe (((wipe σ vs).set i (some x)).set j (some y)) vs = wipe σ vs)
    (he : ∀ x y H1, Same H H1 → DD H1 d x → DD H1 e y → ED te (((wipe σ vs).set i (some x)).set j (some y)) H1 r) : TurnZ tYes te vs i j σ H d e (some r) :=
  fun x y H1 s1 hx hy Nx Kp _ k2 => ⟨hw x y, (show (if true = true then te (((wipe σ vs).set i (some x)).set j (some y)) H1 Kp else Nx H1) from iteT (he x y H1 s1 hx hy H1 (L2.Same.refl H1) _ fun y H3 s3 hy => k2 y H3 r s3 rfl hy))⟩
theorem turn_zt {d e r : PyData} {b : Bool} (hw : ∀ x y, wipe (((wipe σ vs).set i (some x)).set j (some y)) vs = wipe σ vs)
    (ht : ∀ x y H1, Same H H1 → DD H1 d x → DD H1 e y → ET tt (((wipe σ vs).set i (some x)).set j (some y)) H1 b)
    (he : ∀ x y H1, Same H H1 → DD H1 d x → DD H1 e y → ED te (((wipe σ vs).set i (some x)).set j (some y)) H1 r) : TurnZ tt te vs i j σ H d e (if b = true then some r else none) :=
  fun x y H1 s1 hx hy Nx Kp k1 k2 => ⟨hw x y, ht x y H1 s1 hx hy H1 (L2.Same.refl H1) _ fun H3 s3 => by
    cases b with
    | true => exact iteT (he x y H3 (s1.trans s3) (DD.same s3 _ _ hx) (DD.same s3 _ _ hy) H3 (L2.Same.refl H3) _ fun y H4 s4 hy => k2 y H4 r (s3.trans s4) rfl hy)
    | false => exact iteF (k1 H3 s3 rfl)⟩
/-- t[1:] -/
theorem ed_tail {ta : TE} (ha : ED ta σ H (.tuple ds)) : ED (tSl (rSlA K) ta (tPart (tC (.int 1))) tNoPart) σ H (.tuple (ds.drop 1)) := fun H1 m Q q =>
  ha H1 m _ fun v H2 m2 h2 => by
    obtain ⟨a, xs, rfl, hx, hr⟩ := h2.tup
    have e1 : HT.sIx xs.length 0 (some 1) = min 1 xs.length := HT.sIx_nat xs.length 0 1
    have ec : cutV xs (some 1) none = xs.drop 1 := by
      unfold cutV
      rw [e1, HT.sIx_none]
      cases xs with
      | nil => rfl
      | cons x r =>
        have : min 1 (x :: r).length = 1 := by rw [List.length_cons]; omega
        rw [this, List.take_of_length_le]
        rw [List.length_drop]
        omega
    refine ⟨1, rfl, a, xs, rfl, .inl (.inl hx), fun z => ?_, fun _ p hp => q _ _ (m2.trans (Same.new hp)) (dd_tup upd_same ?_)⟩
    · rw [e1] at z
      have l0 : xs = [] := List.eq_nil_of_length_eq_zero (by omega)
      have d0 : ds = [] := List.eq_nil_of_length_eq_zero (by rw [← hr.length, l0]; rfl)
      have e : ds.drop 1 = ds := by rw [d0]; rfl
      exact q _ H2 m2 (by rw [e]; exact dd_tup hx hr)
    · rw [ec]
      exact DDs.same (Same.new hp) _ _ (hr.drop 1)
end
/-! ### texts of bounded length -/
mutual
def smD : PyData → Bool
  | .str z => decide (z.length ≤ 1000)
  | .list ds => smDs ds
  | .tuple ds => smDs ds && decide (ds.length ≤ 1000)
  | _ => true
def smDs : List PyData → Bool
  | [] => true
  | d :: ds => smD d && smDs ds
end
theorem smDs_mem : ∀ {ds : List PyData} {d : PyData}, smDs ds = true → d ∈ ds → smD d = true
  | a :: r, d, h, m => by
    simp only [smDs, Bool.and_eq_true] at h
    rcases List.mem_cons.mp m with e | m
    · rw [e]; exact h.1
    · exact smDs_mem h.2 m
theorem smD_str {z : Str} (h : smD (.str z) = true) : z.length ≤ 1000 := by simpa [smD] using h
theorem smD_tup {ds : List PyData} (h : smD (.tuple ds) = true) : smDs ds = true ∧ ds.length ≤ 1000 := by simpa [smD] using h
section
variable {P : Program} {w : World} {K : PySem.W.Frag} {mg : Str → Option Value} {base : Heap}
theorem ltsD_range : ∀ (ds : List PyData), ((List.range (min ds.length (ds.drop 1).length)).map fun i => ltD (ds.getD i .none) ((ds.drop 1).getD i .none)).all id = ltsD ds
  | [] => rfl
  | [a] => rfl
  | a :: b :: r => by
    have ih := ltsD_range (b :: r)
    have e1 : min (a :: b :: r).length ((a :: b :: r).drop 1).length = min (b :: r).length ((b :: r).drop 1).length + 1 := by
      simp only [List.length_cons, List.length_drop]
      omega
    rw [e1, List.range_succ_eq_map, List.map_cons, List.all_cons, List.map_map]
    show (ltD a b && _) = (ltD a b && ltsD (b :: r))
    rw [← ih]
    rfl
theorem d_is_names (T : Txt K mg) : Def P w K mg base CX0 2 "is_names" (spD fun ds d => ∃ x, ds = [x] ∧ d = .bool (isNamesD x) ∧ smD x = true) := by
  refine mk_pure T.a_is_names scis_names (fun _ _ _ _ _ _ us hl => match us, hl with | [_], _ => rfl) (fun ds d ⟨x, e, _⟩ => by rw [e]; rfl) fun f cdv A outer s H vs ds d E hr r hv => ?_
  obtain ⟨x, rfl, rfl, hz⟩ := r
  obtain ⟨v, rfl, hx⟩ := hv.one
  refine ⟨_, (pss_cons (ps_if (PW.pt (pw_or (pt_not (pt_val (pe_callB call_isi (by rfl) T.n_isinstance (by decide +kernel) (pa_cons (pv 0) (pa_cons (pe_bltn (v := .ty "tuple") (by rfl) T.n_tuple (by decide +kernel) rfl) pa_nil))))) (pw_or1 (pt_not (pt_val (pe_callB (cr_all rfl) (by rfl) T.n_all (by decide +kernel) (pa_cons (pe_lc rfl scis_names.nd (pi_tup (pv 0)) (blkOk_by (own := [("one", 1)]) (N := ["thing", "one", "other"]) (sc := defScope s_is_names) (by decide +kernel)) (fun _ _ _ _ _ => (pg_name (i := 1) scis_names.nd rfl (Or.inl rfl) (hf := Or.inr rfl))) (fun _ _ _ _ _ => pts_nil) (fun _ _ _ _ _ => (pe_d (d_is_name T) hr (by decide) (by rfl) pass0 (pa_cons (pv 1) pa_nil)))) pa_nil))))))) (pss_one (ps_ret pe_bl)) pss_nil)
      (pss_one (ps_ret (pe_callB (cr_all rfl) (by rfl) T.n_all (by decide +kernel) (pa_cons (pe_lc rfl scis_names.nd (RZ.pi_zipA (by rfl) T.n_zip (pa_cons (pv 0) (pa_cons (pe_slice sl_tupA (pv 0) (po_some pe_int) po_none) pa_nil))) (blkOk_by (own := [("one", 1), ("other", 2)]) (N := ["thing", "one", "other"]) (sc := defScope s_is_names) (by decide +kernel)) (fun _ _ _ _ _ => (pg_tup (n := 2) rfl (pgs_cons (pg_name (i := 1) scis_names.nd rfl (Or.inl rfl) (hf := Or.inr rfl)) (pgs_cons (pg_name (i := 2) scis_names.nd rfl (Or.inl rfl) (hf := Or.inr rfl)) pgs_nil)) : PG _ _ (gTup K 2 _))) (fun _ _ _ _ _ => pts_nil) (fun _ _ _ _ _ => (pe_cmpR op_lt_str (pv 1) (pv 2) (nomark _)))) pa_nil))))), fun Q k => ?_⟩
  refine s_ifD (b := match x with | .tuple es => !(es.all isNameD) | _ => true)
    (ET.is (et_or (b := match x with | .tuple es => !(es.all isNameD) | _ => true) (et_not (et_B (ed_isi (ed_var rfl hx) (kit_tup x)))) fun z0 => ?_) ?_) (fun hb H1 m => ?_) fun hb H1 m => ?_
  · cases x with
    | tuple es =>
      obtain ⟨h1, h2⟩ := smD_tup hz
      refine et_not (et_B (ED.is (ed_all (bs := es.map isNameD) (ED.is (ed_lcT (f := fun e => some (.bool (isNameD e))) (ed_var rfl hx) (by omega) (fun _ _ _ e => by cases e; rfl) fun e he => turn_n (fun _ => rfl) fun x1 H1 s1 hx1 => ed_call (ea_cons (ed_var rfl hx1) ea_nil) ⟨e, rfl, rfl, fun z ez => ?_⟩) ?_)) ?_))
      · subst ez
        exact smD_str (smDs_mem h1 he)
      · rw [map_some fun _ _ => rfl, List.map_map]
        rfl
      · rw [List.all_map]
        rfl
    | _ => cases z0
  · cases x <;> rfl
  · refine s_retD ed_bl fun v2 H2 m2 h2 => k v2 H2 (m.trans m2) ?_
    have e : isNamesD x = false := by
      cases x with
      | tuple es =>
        have hb' : (!(es.all isNameD)) = true := hb
        show (es.all isNameD && ltsD es) = false
        rw [Bool.not_eq_true'] at hb'
        rw [hb']
        rfl
      | _ => rfl
    rw [e]
    exact h2
  · have hx1 := DD.same m _ _ hx
    cases x with
    | tuple es =>
      have hb' : es.all isNameD = true := by
        have hb2 : (!(es.all isNameD)) = false := hb
        rw [Bool.not_eq_false'] at hb2
        exact hb2
      obtain ⟨h1, h2⟩ := smD_tup hz
      unfold tNext
      dsimp only
      refine s_retD (d := .bool (isNamesD (.tuple es))) ?_ fun v2 H2 m2 h2 => k v2 H2 (m.trans m2) h2
      have str : ∀ e ∈ es, ∃ z, e = .str z := fun e he => by
        have q := List.all_eq_true.mp hb' e he
        cases e with
        | str z => exact ⟨z, rfl⟩
        | _ => cases q
      refine ED.is (ed_all (bs := (List.range (min es.length (es.drop 1).length)).map fun i => ltD (es.getD i .none) ((es.drop 1).getD i .none)) (ED.is (ed_lcZ (f := fun i => some (.bool (ltD (es.getD i .none) ((es.drop 1).getD i .none)))) (ea_cons (ed_var rfl hx1) (ea_cons (ed_tail (ed_var rfl hx1)) ea_nil)) (by omega)
        (fun _ _ _ e => by cases e; rfl) fun i d e hd he => turn_z (fun _ _ => rfl) fun x1 y1 H3 s3 hx3 hy3 => ?_) ?_)) ?_
      · obtain ⟨z1, rfl⟩ := str d (List.mem_of_getElem? hd)
        obtain ⟨z2, rfl⟩ := str e (List.mem_of_mem_drop (List.mem_of_getElem? he))
        rw [List.getD_eq_getElem?_getD, hd, List.getD_eq_getElem?_getD, he]
        exact ed_ltS (ed_var rfl hx3) (ed_var rfl hy3)
      · rw [map_some fun _ _ => rfl, List.map_map]
        rfl
      · rw [ltsD_range]
        show _ = PyData.bool (es.all isNameD && ltsD es)
        rw [hb', Bool.true_and]
    | _ => cases hb
theorem tup2 {x : PyData} (h : isTupOfD x 2 = true) : ∃ a b, x = .tuple [a, b] := by
  cases x with
  | tuple ds =>
    have h' : decide ((ds.length : Int) = 2) = true := h
    have h2 := of_decide_eq_true h'
    match ds, h2 with
    | [a, b], _ => exact ⟨a, b, rfl⟩
    | [], h2 => simp at h2
    | [_], h2 => simp at h2
    | _ :: _ :: _ :: _, h2 => simp only [List.length_cons] at h2; omega
  | _ => cases h
theorem counted_tup {x : PyData} (h : isCountedD x = true) : ∃ s i, x = .tuple [.str s, .int i] ∧ isNameS s = true ∧ 1 ≤ i := by
  unfold isCountedD at h
  split at h
  · rename_i a b
    rw [Bool.and_eq_true] at h
    obtain ⟨h1, h2⟩ := h
    cases a with
    | str s =>
      cases b with
      | int i => exact ⟨s, i, rfl, h1, of_decide_eq_true h2⟩
      | _ => cases h2
    | _ => cases h1
  · cases h
theorem counted_len {x : PyData} (h : isTupOfD x 2 = false) : isCountedD x = false := by
  cases q : isCountedD x with
  | false => rfl
  | true =>
    obtain ⟨s, i, rfl, _, _⟩ := counted_tup q
    cases h
theorem d_is_counted (T : Txt K mg) : Def P w K mg base CX0 3 "is_counted" (spD fun ds d => ∃ x, ds = [x] ∧ d = .bool (isCountedD x) ∧ smD x = true) := by
  refine mk_pure T.a_is_counted scis_counted (fun _ _ _ _ _ _ us hl => match us, hl with | [_], _ => rfl) (fun ds d ⟨x, e, _⟩ => by rw [e]; rfl) fun f cdv A outer s H vs ds d E hr r hv => ?_
  obtain ⟨x, rfl, rfl, hz⟩ := r
  obtain ⟨v, rfl, hx⟩ := hv.one
  refine ⟨_, (pss_one (ps_ret (pe_and (pe_d (d_is_tuple_of T) hr (by decide) (by rfl) pass0 (pa_cons (pv 0) (pa_cons pe_int pa_nil))) (pe_and (pe_d (d_is_name T) hr (by decide) (by rfl) pass0 (pa_cons (pe_ix ix_tup (pv 0) pe_int (fun _ _ => rfl)) pa_nil)) (pe_one (pe_d (d_is_count T) hr (by decide) (by rfl) pass0 (pa_cons (pe_ix ix_tup (pv 0) pe_int (fun _ _ => rfl)) pa_nil))))))), fun Q k => s_retD (ED.is (ed_and (b := isCountedD x) (ed_call (ea_cons (ed_var rfl hx) (ea_cons ed_int ea_nil)) ⟨x, 2, rfl, rfl⟩) fun z => ?_) ?_) k⟩
  · obtain ⟨a, b, rfl⟩ := tup2 z
    obtain ⟨h1, _⟩ := smD_tup hz
    refine ed_and (ed_call (ea_cons (ed_ixT (j := 0) (ed_var rfl hx) rfl) ea_nil) ⟨a, rfl, rfl, fun z ez => ?_⟩) fun _ => ed_call (ea_cons (ed_ixT (j := 1) (ed_var rfl hx) rfl) ea_nil) ⟨b, rfl, rfl⟩
    subst ez
    exact smD_str (smDs_mem h1 List.mem_cons_self)
  · cases q : isTupOfD x 2 with
    | true => rw [Bool.true_and]
    | false => rw [counted_len q]; rfl
theorem d_first_names (T : Txt K mg) : Def P w K mg base CX0 1 "first_names" (spD fun ds d => ∃ es : List PyData, ds = [.tuple es] ∧ d = .list (es.map fstD) ∧ es.length ≤ 1000 ∧ ∀ e ∈ es, ∃ s r, e = .tuple (.str s :: r)) := by
  refine mk_pure T.a_first_names scfirst_names (fun _ _ _ _ _ _ us hl => match us, hl with | [_], _ => rfl) (fun ds d ⟨x, e, _⟩ => by rw [e]; rfl) fun f cdv A outer s H vs ds d E hr r hv => ?_
  obtain ⟨es, rfl, rfl, hl, hf⟩ := r
  obtain ⟨v, rfl, hx⟩ := hv.one
  refine ⟨_, (pss_one (ps_ret (pe_lc rfl scfirst_names.nd (pi_tup (pv 0)) (blkOk_by (own := [("thing", 1)]) (N := ["things", "thing"]) (sc := defScope s_first_names) (by decide +kernel)) (fun _ _ _ _ _ => (pg_name (i := 1) scfirst_names.nd rfl (Or.inl rfl) (hf := Or.inr rfl))) (fun _ _ _ _ _ => pts_nil) (fun _ _ _ _ _ => (pe_ix (r := rIxT K) ix_tup (pv 1) pe_int (fun _ _ => rfl)))))), fun Q k => s_retD (ED.is (ed_lcT (f := fun e => some (fstD e)) (ed_var rfl hx) (by omega) (fun d hd e he => ?_) fun e he => turn_n (fun _ => rfl) fun x1 H1 s1 hx1 => ?_) ?_) k⟩
  · obtain ⟨s, r, rfl⟩ := hf d hd
    cases he
    rfl
  · obtain ⟨s, r, rfl⟩ := hf e he
    exact ed_ixT (j := 0) (ed_var rfl hx1) rfl
  · rw [map_some fun _ _ => rfl]
end
/-! ### shops as data -/
structure Pack where
  nm : Str
  made : Int
  apart : Bool
  sheet : List (Str × Int)
structure Shop where
  parts : List (Str × Int)
  choices : List (Str × List Str)
  packs : List Pack
def encP (p : Str × Int) : PyData := .tuple [.str p.1, .int p.2]
def encC (c : Str × List Str) : PyData := .tuple [.str c.1, .tuple (c.2.map PyData.str)]
def encK (k : Pack) : PyData := .tuple [.str k.nm, .int k.made, .bool k.apart, .tuple (k.sheet.map encP)]
def encS (S : Shop) : PyData := .tuple [.tuple (S.parts.map encP), .tuple (S.choices.map encC), .tuple (S.packs.map encK)]
structure ShopSz (S : Shop) : Prop where
  parts : S.parts.length ≤ 10
  choices : S.choices.length ≤ 10
  packs : S.packs.length ≤ 10
  sheets : ∀ k ∈ S.packs, k.sheet.length ≤ 10
def pNames (S : Shop) : List Str := S.parts.map fun p => p.1
def cNames (S : Shop) : List Str := S.choices.map fun p => p.1
def kNames (S : Shop) : List Str := S.packs.map fun k => k.nm
def isArtD (S : Shop) (d : PyData) : Bool := isAmongD d (pNames S) || isAmongD d (kNames S)
def isRowD (S : Shop) : PyData → Bool
  | .tuple es => (es.all fun e => isCountedD e && isArtD S (fstD e)) && isNamesD (.tuple (es.map fstD))
  | _ => false
theorem scis_article : FnScope ["shop", "thing"] ["shop", "thing"] (defScope s_is_article) := ⟨rfl, rfl, rfl, by decide +kernel, rfl, by decide +kernel, by decide +kernel⟩
theorem scis_row : FnScope ["shop", "thing", "one"] ["shop", "thing"] (defScope s_is_row) := ⟨rfl, rfl, rfl, by decide +kernel, rfl, by decide +kernel, by decide +kernel⟩
section
variable {P : Program} {w : World} {K : PySem.W.Frag} {mg : Str → Option Value} {base : Heap}
theorem fst_encP (l : List (Str × Int)) : (l.map encP).map fstD = (l.map fun p => p.1).map PyData.str := by rw [List.map_map, List.map_map]; rfl
theorem fst_encC (l : List (Str × List Str)) : (l.map encC).map fstD = (l.map fun p => p.1).map PyData.str := by rw [List.map_map, List.map_map]; rfl
theorem fst_encK (l : List Pack) : (l.map encK).map fstD = (l.map fun k => k.nm).map PyData.str := by rw [List.map_map, List.map_map]; rfl
theorem firsts_encP {l : List (Str × Int)} : ∀ e ∈ l.map encP, ∃ s r, e = PyData.tuple (.str s :: r) := fun e he => by
  obtain ⟨p, _, rfl⟩ := List.mem_map.mp he
  exact ⟨_, _, rfl⟩
theorem firsts_encC {l : List (Str × List Str)} : ∀ e ∈ l.map encC, ∃ s r, e = PyData.tuple (.str s :: r) := fun e he => by
  obtain ⟨p, _, rfl⟩ := List.mem_map.mp he
  exact ⟨_, _, rfl⟩
theorem firsts_encK {l : List Pack} : ∀ e ∈ l.map encK, ∃ s r, e = PyData.tuple (.str s :: r) := fun e he => by
  obtain ⟨p, _, rfl⟩ := List.mem_map.mp he
  exact ⟨_, _, rfl⟩
theorem d_is_article (T : Txt K mg) : Def P w K mg base CX0 2 "is_article" (spD fun ds d => ∃ S x, ds = [encS S, x] ∧ ShopSz S ∧ d = .bool (isArtD S x)) := by
  refine mk_pure T.a_is_article scis_article (fun _ _ _ _ _ _ us hl => match us, hl with | [_, _], _ => rfl) (fun ds d ⟨S, x, e, _⟩ => by rw [e]; rfl) fun f cdv A outer s H vs ds d E hr r hv => ?_
  obtain ⟨S, x, rfl, sz, rfl⟩ := r
  obtain ⟨v, u, rfl, hS, hx⟩ := hv.two
  refine ⟨_, (pss_one (ps_ret (pe_or (pe_d (d_is_among T) hr (by decide) (by rfl) pass0 (pa_cons (pv 1) (pa_cons (pe_d (d_first_names T) hr (by decide) (by rfl) pass0 (pa_cons (pe_ix ix_tup (pv 0) pe_int (fun _ _ => rfl)) pa_nil)) pa_nil))) (pe_one (pe_d (d_is_among T) hr (by decide) (by rfl) pass0 (pa_cons (pv 1) (pa_cons (pe_d (d_first_names T) hr (by decide) (by rfl) pass0 (pa_cons (pe_ix ix_tup (pv 0) pe_int (fun _ _ => rfl)) pa_nil)) pa_nil))))))), fun Q k => s_retD (d := .bool (isArtD S x)) (ed_or (a := isAmongD x (pNames S)) (b := isAmongD x (kNames S)) ?_ fun _ => ?_) k⟩
  · refine ed_call (ea_cons (ed_var rfl hx) (ea_cons (ed_call (d := .list ((pNames S).map PyData.str)) (ea_cons (ed_ixT (j := 0) (ed_var rfl hS) rfl) ea_nil) ⟨S.parts.map encP, rfl, ?_, ?_, firsts_encP⟩) ea_nil)) ⟨x, pNames S, rfl, rfl⟩
    · rw [fst_encP]; rfl
    · rw [List.length_map]; exact Nat.le_trans sz.parts (by decide)
  · refine ed_call (ea_cons (ed_var rfl hx) (ea_cons (ed_call (d := .list ((kNames S).map PyData.str)) (ea_cons (ed_ixT (j := 2) (ed_var rfl hS) rfl) ea_nil) ⟨S.packs.map encK, rfl, ?_, ?_, firsts_encK⟩) ea_nil)) ⟨x, kNames S, rfl, rfl⟩
    · rw [fst_encK]; rfl
    · rw [List.length_map]; exact Nat.le_trans sz.packs (by decide)
theorem d_is_row (T : Txt K mg) : Def P w K mg base CX0 4 "is_row" (spD fun ds d => ∃ S x, ds = [encS S, x] ∧ ShopSz S ∧ smD x = true ∧ d = .bool (isRowD S x)) := by
  refine mk_pure T.a_is_row scis_row (fun _ _ _ _ _ _ us hl => match us, hl with | [_, _], _ => rfl) (fun ds d ⟨S, x, e, _⟩ => by rw [e]; rfl) fun f cdv A outer s H vs ds d E hr r hv => ?_
  obtain ⟨S, x, rfl, sz, hz, rfl⟩ := r
  obtain ⟨u, v, rfl, hS, hx⟩ := hv.two
  refine ⟨_, (pss_cons (ps_if (PW.pt (pw_or (pt_not (pt_val (pe_callB call_isi (by rfl) T.n_isinstance (by decide +kernel) (pa_cons (pv 1) (pa_cons (pe_bltn (v := .ty "tuple") (by rfl) T.n_tuple (by decide +kernel) rfl) pa_nil))))) (pw_or1 (pt_not (pt_val (pe_callB (cr_all rfl) (by rfl) T.n_all (by decide +kernel) (pa_cons (pe_lc rfl scis_row.nd (pi_tup (pv 1)) (blkOk_by (own := [("one", 2)]) (N := ["shop", "thing", "one"]) (sc := defScope s_is_row) (by decide +kernel)) (fun _ _ _ _ _ => (pg_name (i := 2) scis_row.nd rfl (Or.inl rfl) (hf := Or.inr rfl))) (fun _ _ _ _ _ => pts_nil) (fun _ _ _ _ _ => (pe_and (pe_d (d_is_counted T) hr (by decide) (by rfl) pass0 (pa_cons (pv 2) pa_nil)) (pe_one (pe_d (d_is_article T) hr (by decide) (by rfl) pass0 (pa_cons (pv 0) (pa_cons (pe_ix (r := rIxT K) ix_tup (pv 2) pe_int (fun _ _ => rfl)) pa_nil))))))) pa_nil))))))) (pss_one (ps_ret pe_bl)) pss_nil)
      (pss_one (ps_ret (pe_d (d_is_names T) hr (by decide) (by rfl) pass0 (pa_cons (pe_callTy call_tuple_of (by rfl) T.n_tuple (by decide +kernel) (pa_cons (pe_d (d_first_names T) hr (by decide) (by rfl) pass0 (pa_cons (pv 1) pa_nil)) pa_nil)) pa_nil))))), fun Q k => ?_⟩
  refine s_ifD (b := match x with | .tuple es => !(es.all fun e => isCountedD e && isArtD S (fstD e)) | _ => true)
    (ET.is (et_or (b := match x with | .tuple es => !(es.all fun e => isCountedD e && isArtD S (fstD e)) | _ => true) (et_not (et_B (ed_isi (ed_var rfl hx) (kit_tup x)))) fun z0 => ?_) ?_) (fun hb H1 m => ?_) fun hb H1 m => ?_
  · cases x with
    | tuple es =>
      obtain ⟨h1, h2⟩ := smD_tup hz
      refine et_not (et_B (ED.is (ed_all (bs := es.map fun e => isCountedD e && isArtD S (fstD e)) (ED.is (ed_lcT (f := fun e => some (.bool (isCountedD e && isArtD S (fstD e)))) (ed_var rfl hx) (by omega) (fun _ _ _ e => by cases e; rfl) fun e he => turn_n (fun _ => rfl) fun x1 H1 s1 hx1 =>
        ed_and (ed_call (ea_cons (ed_var rfl hx1) ea_nil) ⟨e, rfl, rfl, smDs_mem h1 he⟩) fun hc => ?_) ?_)) ?_))
      · obtain ⟨z, n, rfl, _, _⟩ := counted_tup hc
        exact ed_call (ea_cons (ed_var rfl (DD.same s1 _ _ hS)) (ea_cons (ed_ixT (j := 0) (ed_var rfl hx1) rfl) ea_nil)) ⟨S, _, rfl, sz, rfl⟩
      · rw [map_some fun _ _ => rfl, List.map_map]
        rfl
      · rw [List.all_map]
        rfl
    | _ => cases z0
  · cases x <;> rfl
  · refine s_retD ed_bl fun v2 H2 m2 h2 => k v2 H2 (m.trans m2) ?_
    have e : isRowD S x = false := by
      cases x with
      | tuple es =>
        have hb' : (!(es.all fun e => isCountedD e && isArtD S (fstD e))) = true := hb
        show ((es.all fun e => isCountedD e && isArtD S (fstD e)) && _) = false
        rw [Bool.not_eq_true'] at hb'
        rw [hb']
        rfl
      | _ => rfl
    rw [e]
    exact h2
  · have hx1 := DD.same m _ _ hx
    cases x with
    | tuple es =>
      have hb' : (es.all fun e => isCountedD e && isArtD S (fstD e)) = true := by
        have hb2 : (!(es.all fun e => isCountedD e && isArtD S (fstD e))) = false := hb
        rw [Bool.not_eq_false'] at hb2
        exact hb2
      obtain ⟨h1, h2⟩ := smD_tup hz
      unfold tNext
      dsimp only
      refine s_retD (d := .bool (isRowD S (.tuple es))) ?_ fun v2 H2 m2 h2 => k v2 H2 (m.trans m2) h2
      have cnt : ∀ e ∈ es, ∃ s i, e = PyData.tuple [.str s, .int i] := fun e he => by
        have q := List.all_eq_true.mp hb' e he
        rw [Bool.and_eq_true] at q
        obtain ⟨s, i, e, _, _⟩ := counted_tup q.1
        exact ⟨s, i, e⟩
      refine ED.is (ed_call (d := .bool (isNamesD (.tuple (es.map fstD)))) (ea_cons (ed_tupleL (ed_call (d := .list (es.map fstD)) (ea_cons (ed_var rfl hx1) ea_nil) ⟨es, rfl, rfl, h2, fun e he => ?_⟩)) ea_nil) ⟨_, rfl, rfl, ?_⟩) ?_
      · obtain ⟨s, i, rfl⟩ := cnt e he
        exact ⟨s, _, rfl⟩
      · show (smDs (es.map fstD) && decide ((es.map fstD).length ≤ 1000)) = true
        rw [Bool.and_eq_true, List.length_map]
        refine ⟨?_, decide_eq_true h2⟩
        have all : ∀ l : List PyData, (∀ e ∈ l, smD (fstD e) = true) → smDs (l.map fstD) = true := by
          intro l
          induction l with
          | nil => intro _; rfl
          | cons a r ih =>
            intro h
            show (smD (fstD a) && smDs (r.map fstD)) = true
            rw [h a List.mem_cons_self, ih fun e he => h e (List.mem_cons_of_mem _ he)]
            rfl
        refine all es fun e he => ?_
        obtain ⟨s, i, rfl⟩ := cnt e he
        exact smDs_mem (smD_tup (smDs_mem h1 he)).1 List.mem_cons_self
      · show _ = PyData.bool ((es.all fun e => isCountedD e && isArtD S (fstD e)) && isNamesD (.tuple (es.map fstD)))
        rw [hb', Bool.true_and]
    | _ => cases hb
end
end KL

/-! ## set(list), of any kind of item -/
namespace KL
open PySem PySem.Spec PyProof.Rows L2
abbrev set0 (w : World) : Obj := { cls := .type "set", dict := none, data := .set #[] 0 (.fresh 0 0 (!w.params.followText "set-order")) }
section
variable {P : Program} {w : World} {A : Around} {E : Value → Shared → Prop} {s : Shared}
/-- each item is added: IV i stands at S behind i items -/
def AddsAt (P : Program) (w : World) (A : Around) (S : Addr) (h0 : Heap) (IV : Nat → Heap → Prop) (items : List Value) : Prop :=
  ∀ (E : Value → Shared → Prop) (i : Nat) (v : Value) (s : Shared) (Q : Bool → Shared → Prop), items[i]? = some v → IV i s.heap → (∀ b o, h0.get? b = some o → s.heap.get? b = some o) →
    (∀ b h' tk, Heap.SameBut S s.heap h' → s.toks ≤ tk → IV (i + 1) h' → Q b { s with heap := h', toks := tk }) → wpAny (model P w) A (setAdd S v) Q E s
/-- the set's own part of the heap -/
def StaysAt (S : Addr) (h0 : Heap) (IV : Nat → Heap → Prop) : Prop :=
  ∀ i h h', IV i h → (∀ o, h.get? S = some o → h'.get? S = some o) → (∀ b o, h0.get? b = some o → h'.get? b = some o) → IV i h'
theorem upd_gen {I : Addr} {fp wr : List Addr} {G : Array GenState → Array GenState → Prop} {n : Nat} {Pv : Nat → Value → Prop} {St : Nat → Shared → Prop} {R : Result → Shared → Prop} {IV : Nat → Heap → Prop}
    (W : WalksS P w A.in1 I fp wr G n Pv St) (S : Addr) (nf : S ∉ fp) (items : List Value) (hval : ∀ i v, Pv i v → items[i]? = some v) (h0 : Heap) (hS0 : h0.get? S = none) (hw0 : ∀ b ∈ wr, h0.get? b = none)
    (stay : StaysAt S h0 IV) (adds : AddsAt P w A.in1 S h0 IV items) :
    ∀ (k i : Nat) (s : Shared), n - i = k → i ≤ n → St i s → (∀ b o, h0.get? b = some o → s.heap.get? b = some o) → IV i s.heap →
      (∀ s', Moved (S :: wr) G s s' → IV n s'.heap → (∀ b o, h0.get? b = some o → s'.heap.get? b = some o) → R (.ok (.ret .none)) s') →
      codeAny (model P w) A (.builtin "set.update.loop" ⟨[.ref S, .ref I], []⟩) R s := by
  have nw : S ∉ wr := fun z => nf (W.sub _ z)
  have more : ∀ b ∈ wr, b ∈ S :: wr := fun b z => List.mem_cons_of_mem _ z
  have old : ∀ {x y : Shared}, Moved wr G x y → (∀ b o, h0.get? b = some o → x.heap.get? b = some o) → ∀ b o, h0.get? b = some o → y.heap.get? b = some o := fun m kp b o e =>
    m.heap b o (fun z => by rw [hw0 b z] at e; cases e) (kp b o e)
  intro k
  induction k with
  | zero =>
    intro i s ek hi hst kp iv hR
    obtain rfl : i = n := by omega
    refine codeAny_builtin F.entry_set_update_loop ?_
    rw [Around.under_plainId F.plain_set_update_loop _]
    refine wpAny_bind (m := pyNext (.ref I)) (W.done s _ _ hst fun s2 m => ?_)
    exact wpAny_pure (hR s2 (m.mono more) (stay _ _ _ iv (fun o e => m.heap S o nw e) (old m kp)) (old m kp))
  | succ k ih =>
    intro i s ek hi hst kp iv hR
    have lt : i < n := by omega
    refine codeAny_builtin F.entry_set_update_loop ?_
    rw [Around.under_plainId F.plain_set_update_loop _]
    refine wpAny_bind (m := pyNext (.ref I)) (W.item i s _ _ lt hst fun v s2 hp hst2 m => ?_)
    have kp2 := old m kp
    refine wpAny_bind (m := holding [v] (setAdd S v)) (wpAny_holding ?_)
    refine adds _ i v s2 _ (hval i v hp) (stay _ _ _ iv (fun o e => m.heap S o nw e) kp2) kp2 fun b h' tk sb tl iv2 => ?_
    have kp3 : ∀ b o, h0.get? b = some o → h'.get? b = some o := fun b o e => (sb.2 b (fun z => by rw [z, hS0] at e; cases e)).trans (kp2 b o e)
    refine wpAny_pure ⟨plainId_quiet F.plain_set_update_loop _, ih (i + 1) _ (by omega) lt (W.frame _ s2 _ _ hst2 tl fun b hb o e => ?_) kp3 iv2 fun s3 m3 iv3 kp4 => ?_⟩
    · rw [sb.2 b (fun z : b = S => nf (by rw [← z]; exact hb))]
      exact e
    · refine hR s3 (Moved.trans W.gtrans ((m.mono more).then_heap tl fun b o hb e => ?_) m3) iv3 kp4
      rw [sb.2 b (fun z : b = S => hb (by rw [z]; exact List.mem_cons_self))]
      exact e
set_option maxHeartbeats 3200000 in
theorem set_gen {l : Addr} {items : Array Value} {Q : Value → Shared → Prop} {IV : Nat → Heap → Prop} (hh : A.handled = none) (hl : s.heap.IsList l items)
    (stay : StaysAt s.heap.objs.size s.heap IV) (adds : AddsAt P w A.in1.in1.in1 s.heap.objs.size s.heap IV items.toList)
    (iv0 : ∀ h : Heap, h.get? s.heap.objs.size = some (set0 w) → (∀ b o, s.heap.get? b = some o → h.get? b = some o) → IV 0 h)
    (h : ∀ (h' : Heap) (tk : Nat), IV items.size h' → (∀ b o, s.heap.get? b = some o → h'.get? b = some o) → Q (.ref s.heap.objs.size) { s with heap := h', toks := tk }) :
    wpAny (model P w) A (call (.type "set") [.ref l]) Q E s := by
  obtain ⟨c, tl, hmro⟩ := F.called_set.mro
  have made := F.called_set.made
  have subs := F.called_set.sub
  refine wpAny_call (codeAny_of_tree ?_)
  show wpAny _ _ (callAny (.type "set") _) _ _ _
  refine wpAny_pure ⟨(Code.quiet_builtin _ (by decide +kernel)), (codeAny_builtin F.entry_type_call ?_)⟩
  rw [Around.under_plain (weight_type_call_type "set" [.ref l] []) rfl]
  have h1 := F.called_set.notType
  have h2 := F.called_set.canCreate
  have hct := F.typeCall_set_1 (.ref l)
  repeat (any_goals (first | assumption | wp_step))
  refine codeAny_mono (code_set_led1 (.ref l) (E := E) (Q₁ := fun obj s₁ => obj = .ref s.heap.objs.size ∧ s₁ = { s with heap := s.heap.push (set0 w) }) ⟨rfl, rfl⟩) fun r s₁ hr => ?_
  cases r with
  | error e => exact hr
  | ok fl =>
    cases fl with
    | ret obj =>
      obtain ⟨rfl, rfl⟩ := hr
      have hS : (s.heap.push (set0 w)).get? s.heap.objs.size = some (set0 w) := Heap.get?_push_size _ rfl
      have hT : Shared.TypeIs { s with heap := s.heap.push (set0 w) } (.ref s.heap.objs.size) "set" := ⟨_, hS, rfl⟩
      have hli := F.called_set.init.lookup
      have hbi := F.called_set.init.bind (.ref s.heap.objs.size)
      repeat (any_goals (first | assumption | wp_step))
      refine codeAny_mono (codeAny_call_builtin (R := wants (fun r s₂ => r = .none ∧ ∃ h' tk, s₂ = { s with heap := h', toks := tk } ∧ IV items.size h' ∧ (∀ b o, s.heap.get? b = some o → h'.get? b = some o)) E) F.called_set.init.plain F.entry_set_init (check_set_init_1 hT ?_)) fun r₂ s₂ hr₂ => ?_
      · obtain ⟨⟨ocls, odict, odata, oslots⟩, hol, hcl, nl, hdl⟩ := hl
        simp only at hcl hdl
        subst hcl hdl
        have hol' : (s.heap.push (set0 w)).get? l = some { cls := .type "list", dict := odict, data := .seq items nl, slots := oslots } := Heap.get?_push_of_some _ hol
        have hsls := F.sub_list_set
        have hslf := F.sub_list_frozenset
        have hne : (Value.type "list" == Value.type "dict") = false := by decide
        have hl1 : (s.heap.push (set0 w)).IsList l items := ⟨_, hol', rfl, nl, rfl⟩
        unfold Builtin.«set.__init__» noKeywords Builtin.Frozenset.updateFrom
        generalize hPI : pyIter = PI
        wp_walk
        subst hPI
        refine wpAny_pyIter_list hl1 ?_
        refine wpAny_bind (wpAny_runValue ?_)
        have lS : l < s.heap.objs.size := Heap.lt_size hol
        have hh3 : A.in1.in1.in1.handled = none := by simp [hh]
        have hneI : l ≠ (s.heap.push (set0 w)).objs.size := by
          rw [Heap.size_push]; exact Nat.ne_of_lt (Nat.lt_succ_of_lt lS)
        have nf : s.heap.objs.size ∉ [(s.heap.push (set0 w)).objs.size, l] := by
          rw [Heap.size_push]; simp only [List.mem_cons, List.mem_singleton, List.not_mem_nil, or_false, not_or]
          exact ⟨Nat.ne_of_lt (Nat.lt_succ_self _), Nat.ne_of_gt lS⟩
        have none_of : ∀ b, s.heap.objs.size ≤ b → s.heap.get? b = none := fun b hb => by
          cases q : s.heap.get? b with
          | none => rfl
          | some o => exact absurd (Nat.lt_of_lt_of_le (Heap.lt_size q) hb) (Nat.lt_irrefl _)
        refine upd_gen (IV := IV) ((Walks.list hh3 _ l hneI items).toS) s.heap.objs.size nf items.toList (fun i v hv => by rw [Array.getElem?_toList]; exact hv) s.heap (none_of _ (Nat.le_refl _)) (fun b hb => none_of b (by
            rw [List.mem_singleton.mp hb, Heap.size_push]
            exact Nat.le_succ _)) stay adds (items.size - 0) 0 _ (by omega) (Nat.zero_le _)
          ⟨⟨_, Heap.get?_push_size _ rfl, rfl, rfl⟩, (hl1.push _)⟩ (fun b o e => Heap.get?_push_of_some _ (Heap.get?_push_of_some _ e)) ?_ ?_
        · exact iv0 _ (Heap.get?_push_of_some _ hS) fun b o e => Heap.get?_push_of_some _ (Heap.get?_push_of_some _ e)
        · rintro ⟨h', g2, d', tk', os'⟩ m iv kp
          obtain rfl : g2 = s.gens := m.gens
          obtain rfl : d' = s.drawn := m.drawn
          obtain rfl : os' = s.os := m.os
          show wpAny _ _ _ _ _ _
          refine wpAny_pure ?_
          show wpAny _ _ (ret Value.none) _ _ _
          exact wpAny_pure ⟨rfl, h', tk', rfl, iv, kp⟩
      · cases r₂ with
        | error e => exact hr₂
        | ok fl₂ =>
          cases fl₂ with
          | ret r =>
            obtain ⟨rfl, h', tk, rfl, iv, kp⟩ := hr₂
            repeat (any_goals (first | assumption | wp_step))
            exact h _ _ iv kp
          | _ => exact hr₂.elim
    | _ => exact hr.elim
end
end KL
/-! ## sorted(set(texts)) -/
namespace KL
open PySem PySem.Spec PyProof.Rows L2
def GoodT (w : World) (e : Int × Value) : Prop := ∃ k tk, e.2 = Value.str k tk ∧ e.1 = hashStr w k
def txtOf (e : Int × Value) : Str := match e.2 with | .str k _ => k | _ => Str.empty
/-- the set at a bears the texts ws, in any order -/
def SetT (w : World) (a : Addr) (ws : List Str) (h : Heap) : Prop :=
  ∃ o es ep t, h.get? a = some o ∧ o.ExactSet ∧ o.data = .set es ep t ∧ (∀ e ∈ es.toList, GoodT w e) ∧ (es.toList.map txtOf).Perm ws ∧ t.fits es.size = true ∧ Ris t.place.toList ∧ (w.params.followText "set-order" = true ∨ t.led = true)
section
variable {P : Program} {w : World} {A : Around} {E : Value → Shared → Prop} {s : Shared} {a : Addr}
theorem strAt : ∀ {us : List Value} {xs : List Str}, StrsAre us xs → ∀ (i : Nat) (v : Value), us[i]? = some v → ∃ t, v = .str (xs.getD i Str.empty) t
  | _, _, .nil, i, v, e => by simp at e
  | _, _, .cons n u h, 0, v, e => ⟨u, by simp at e; rw [← e]; rfl⟩
  | _, _, .cons n u h, i + 1, v, e => by
    obtain ⟨t, q⟩ := strAt h i v (by simpa using e)
    exact ⟨t, by rw [q]; rfl⟩
theorem strsLen : ∀ {us : List Value} {xs : List Str}, StrsAre us xs → us.length = xs.length
  | _, _, .nil => rfl
  | _, _, .cons _ _ h => congrArg (· + 1) (strsLen h)
theorem goodT_elems {l : List (Int × Value)} (g : ∀ e ∈ l, GoodT w e) : ElemsOf (strKind P w) l := fun e he => by
  obtain ⟨k, tk, h1, h2⟩ := g e he
  exact ⟨⟨k, by rw [h1]; exact strKind_is P w k tk, h2⟩, by rw [h1] <;> rfl⟩
theorem setT_size {es : Array (Int × Value)} {ws : List Str} (p : (es.toList.map txtOf).Perm ws) : es.size = ws.length := by
  rw [← p.length_eq, List.length_map, Array.length_toList]
theorem setT_tail {g : Bool → Sem Unit} (hg : ∀ (b : Bool) (z : Shared) (Q' : Unit → Shared → Prop), Q' () z → wpAny (model P w) A (g b) Q' E z)
    {o : Obj} {es es1 : Array (Int × Value)} {ep : Nat} {t t2 : SetTable} {ws : List Str} (ho : s.heap.get? a = some o) (hex : o.ExactSet) (hd : o.data = .set es ep t)
    (g1 : ∀ e ∈ es1.toList, GoodT w e) (p1 : (es1.toList.map txtOf).Perm ws) (few : ws.length < 60) (f2 : t2.fits es1.size = true) (r2 : Ris t2.place.toList) (l2 : w.params.followText "set-order" = true ∨ t2.led = true) {wd : Bool} {R : Option Bool → Shared → Prop}
    (hR : ∀ h', Heap.SameBut a s.heap h' → SetT w a ws h' → R (some true) { s with heap := h' }) :
    wpAny (model P w) A (do
        storeSet a es1 t2
        if (!wd && t2.tooFull) = true then do
            g (relayAll t2 es1 (SetTable.grown es1.size)).2.2
            storeSet a (relayAll t2 es1 (SetTable.grown es1.size)).1 (relayAll t2 es1 (SetTable.grown es1.size)).2.1
            pure (some true)
          else pure (some true)) R E s := by
  have sz : ∀ {x : Array (Int × Value)}, (x.toList.map txtOf).Perm ws → x.size ≤ sizeLine := fun {x} p => by
    rw [setT_size p, sizeLine_eq]
    omega
  refine wpAny_bind (wpAny_storeSet_of ho hd ?_ (sz p1))
  have o1 := store_at (es' := es1) (t' := t2) ho hd
  have b1 := Heap.SameBut.update s.heap a (Obj.putSet es1 t2)
  split
  · obtain ⟨pm, f3, r3, l3⟩ : _ ∧ _ ∧ _ ∧ _ := ⟨relayAll_perm t2 es1 (SetTable.grown es1.size), relayAll_fits t2 es1 (SetTable.grown es1.size), relayAll_ris t2 es1 (SetTable.grown es1.size), relayAll_led t2 es1 (SetTable.grown es1.size)⟩
    generalize relayAll t2 es1 (SetTable.grown es1.size) = Z at pm f3 r3 l3 ⊢
    obtain ⟨es2, t3, gv⟩ := Z
    dsimp only at pm f3 r3 l3 ⊢
    have p2 := (pm.map txtOf).trans p1
    refine wpAny_bind (hg _ _ _ ?_)
    refine wpAny_bind (wpAny_storeSet_of o1 rfl ?_ (sz p2))
    have o2 := store_at (es' := es2) (t' := t3) o1 rfl
    exact wpAny_pure (hR _ (b1.trans (Heap.SameBut.update _ a _)) ⟨_, es2, _, t3, o2, hex, rfl, fun e he => g1 e (pm.mem_iff.mp he), p2, f3, r3, l2.imp id fun z => by rw [l3]; exact z⟩)
  · exact wpAny_pure (hR _ b1 ⟨_, es1, _, t2, o1, hex, rfl, g1, p1, f2, r2, l2⟩)
theorem setT_add {k : Str} {tk : Tok} {ws : List Str} {Q : Bool → Shared → Prop} (iv : SetT w a ws s.heap) (nk : k ∉ ws) (few : ws.length + 1 < 60)
    (hQ : ∀ h', Heap.SameBut a s.heap h' → SetT w a (ws ++ [k]) h' → Q true { s with heap := h' }) : wpAny (model P w) A (setAddHashed a (.str k tk) ((strKind P w).hash k)) Q E s := by
  obtain ⟨o, es, ep, t, ho, hex, hd, g, pw, hf, hr, hl⟩ := iv
  have kis : (strKind P w).is k (.str k tk) = true := strKind_is P w k tk
  have ksc : (Value.str k tk).scannable = true := rfl
  have el : ElemsOf (strKind P w) es.toList := goodT_elems g
  have esz := setT_size pw
  have eb : es.size < scanBound := by
    rw [esz]
    exact Nat.lt_of_lt_of_le (Nat.lt_of_succ_lt few) (by decide)
  unfold setAddHashed setAddHashedIn
  refine wpAny_holding (wpAny_bind ((wpAny_setState_of ho hd hf ?_)))
  dsimp only
  rw [byScan_of ksc eb el]
  simp only [↓reduceIte]
  unfold setAddByScan
  refine wpAny_bind ?_
  refine wpAny_bind (wpAny_rule ?_)
  refine wpAny_bind (wpAny_setScan_of kis ho hd hf el ?_)
  have fi : List.findIdx? (fun e => (strKind P w).is k e.2) es.toList = none := List.findIdx?_eq_none_iff.mpr fun e he => by
    obtain ⟨k2, t2, h1, _⟩ := g e he
    cases q : (strKind P w).is k e.2 with
    | false => rfl
    | true =>
      rw [h1] at q
      have e2 := (strKind P w).inj _ _ _ q (strKind_is P w k2 t2)
      refine absurd (pw.mem_iff.mp (List.mem_map.mpr ⟨e, he, ?_⟩)) nk
      unfold txtOf
      rw [h1, e2]
  rw [fi]
  dsimp only
  have gw : ∀ (b : Bool) {z : Shared} {Q' : Unit → Shared → Prop}, Q' () z → wpAny (model P w) A (match b with | true => rule "set.scan.the-table-gave-way" | false => pure ()) Q' E z := fun b z Q' q => by
    cases b <;> first | exact wpAny_pure q | exact wpAny_rule q
  obtain ⟨pm, f1, r1, l1⟩ : _ ∧ _ ∧ _ ∧ _ := ⟨layNew_perm t es ((strKind P w).hash k) (.str k tk), layNew_fits t es ((strKind P w).hash k) (.str k tk), layNew_ris t es ((strKind P w).hash k) (.str k tk) hr, layNew_led t es ((strKind P w).hash k) (.str k tk)⟩
  generalize layNew t es ((strKind P w).hash k) (.str k tk) = Z at pm f1 r1 l1 ⊢
  obtain ⟨es1, t1, wd, gv⟩ := Z
  dsimp only at pm f1 r1 l1 ⊢
  rw [Array.toList_push] at pm
  have g1 : ∀ e ∈ es1.toList, GoodT w e := fun e he => by
    rcases List.mem_append.mp (pm.mem_iff.mp he) with z | z
    · exact g e z
    · rw [List.mem_singleton.mp z]
      exact ⟨k, tk, rfl, rfl⟩
  have p1 : (es1.toList.map txtOf).Perm (ws ++ [k]) := by
    have q := pm.map txtOf
    rw [List.map_append] at q
    exact q.trans (pw.append_right _)
  have few1 : (ws ++ [k]).length < 60 := by rw [List.length_append]; exact few
  have led1 : w.params.followText "set-order" = true ∨ t1.led = true := hl.imp id fun z => by rw [l1]; exact z
  have gw2 : ∀ (b : Bool) (z : Shared) (Q' : Unit → Shared → Prop), Q' () z → wpAny (model P w) A (match b with | true => rule "set.scan.the-table-gave-way" | false => pure ()) Q' E z := fun b z Q' q => gw b q
  refine wpAny_bind (gw _ ?_)
  split
  · refine wpAny_bind ?_
    rw [hashByValue_scannable 8 ksc]
    refine wpAny_pure ?_
    refine setT_tail ?_ ho hex hd g1 p1 few1 ?_ ?_ ?_ ?_
    · intro b z Q' q; cases b <;> first | exact wpAny_pure q | exact wpAny_rule q
    · first | (split <;> first | exact f1 | exact SetTable.fits_plain_off f1) | exact f1
    · first | (split <;> exact r1) | exact r1
    · first | (split <;> exact led1) | exact led1
    · intro h' sb iv; dsimp only; exact wpAny_pure (hQ h' sb iv)
  · refine wpAny_bind (wpAny_pure ?_)
    simp only [↓reduceIte]
    refine setT_tail ?_ ho hex hd g1 p1 few1 f1 r1 led1 ?_
    · intro b z Q' q; cases b <;> first | exact wpAny_pure q | exact wpAny_rule q
    · intro h' sb iv; dsimp only; exact wpAny_pure (hQ h' sb iv)
theorem setT_adds {h0 : Heap} {items : List Value} {ws : List Str} (hi : StrsAre items ws) (nd : ws.Nodup) (few : ws.length < 60) : AddsAt P w A a h0 (fun i h => SetT w a (ws.take i) h) items := fun E i v s Q hv iv kp hQ => by
  obtain ⟨tk, ev⟩ := strAt hi i v hv
  have hlen : items.length = ws.length := strsLen hi
  have il : i < ws.length := by
    have := (List.getElem?_eq_some_iff.mp hv).1
    omega
  have eg : ws.getD i Str.empty = ws[i] := by rw [List.getD_eq_getElem?_getD, List.getElem?_eq_getElem il]; rfl
  rw [eg] at ev
  subst ev
  unfold setAdd
  refine wpAny_holding ?_
  refine wpAny_bind ((strKind P w).pyHash (strKind_is P w ws[i] tk) ?_)
  refine setT_add (s := { s with toks := s.toks + 1 }) iv (fun z => ?_) (by rw [List.length_take]; omega) fun h' sb iv2 => ?_
  · have q := nd
    rw [← List.take_append_drop i ws] at q
    have := (List.nodup_append.mp q).2.2 _ z _ (by rw [List.drop_eq_getElem_cons il]; exact List.mem_cons_self)
    exact this rfl
  · refine hQ true h' _ sb (Nat.le_succ _) ?_
    have e : ws.take (i + 1) = ws.take i ++ [ws[i]] := List.take_succ_eq_append_getElem il
    show SetT w a (ws.take (i + 1)) h'
    rw [e]
    exact iv2
theorem setT_stays {h0 : Heap} {ws : List Str} : StaysAt a h0 (fun i h => SetT w a (ws.take i) h) := fun i h h' ⟨o, es, ep, t, ho, r⟩ k _ => ⟨o, es, ep, t, k o ho, r⟩
theorem setT_nil {h : Heap} (ho : h.get? a = some (set0 w)) : SetT w a [] h :=
  ⟨_, #[], 0, _, ho, ⟨rfl, rfl, rfl⟩, rfl, (fun e he => by simp at he), .nil, by rfl, List.Pairwise.nil, by
    show _ ∨ (!w.params.followText "set-order") = true
    cases w.params.followText "set-order"
    · exact .inr rfl
    · exact .inl rfl⟩
theorem setT_sorted {ws : List Str} {Q : Value → Shared → Prop} (iv : SetT w a ws s.heap) (few : ws.length < 60) (hh : A.handled = none)
    (hQ : ∀ s' p (out : Array Value) (c : Nat) (ys : List Str), (∀ b o, s.heap.get? b = some o → s'.heap.get? b = some o) → s'.gens = s.gens → s'.os = s.os → s.heap.objs.size ≤ p → s'.heap.get? p = some (seqObj "list" out c) → StrsAre out.toList ys → ys.Perm ws → sortedS ys = true → Q (.ref p) s') :
    wpAny (model P w) A (call (.builtin "sorted") [.ref a]) Q E s := by
  obtain ⟨o, es, ep, t, ho, hex, hd, g, pw, hf, hr, hl⟩ := iv
  have esz := setT_size pw
  refine Calls.call_function_entry kind_sorted plain_sorted entry_sorted (args_sorted1 _) ?_
  unfold Builtin.«sorted»
  refine wpAny_bind (m := checkCount "sorted" 1 1 _) (wpAny_pure ?_)
  refine wpAny_bind (collect_set (A := A.in1) hh ⟨o, ho, hex.1, hd⟩ hf (by rw [esz]; exact Nat.lt_of_lt_of_le few (by decide)) hr hl fun s1 vs k1 hz g1 o1 pm => ?_)
  have mkS : ∀ l : List Value, (∀ v ∈ l, ∃ k tk, v = Value.str k tk) → ∃ ks, StrsAre l ks ∧ ks = l.map fun v => txtOf (0, v) := by
    intro l
    induction l with
    | nil => intro _; exact ⟨[], .nil, rfl⟩
    | cons v l ih =>
      intro h
      obtain ⟨k, tk, rfl⟩ := h v List.mem_cons_self
      obtain ⟨ks, h1, h2⟩ := ih fun u hu => h u (List.mem_cons_of_mem _ hu)
      exact ⟨k :: ks, .cons k tk h1, by rw [h2]; rfl⟩
  obtain ⟨ks, hS, eks⟩ := mkS vs fun v hv => by
    obtain ⟨e, he, q⟩ := List.mem_map.mp (pm.mem_iff.mp hv)
    obtain ⟨k, tk, h1, _⟩ := g e he
    exact ⟨k, tk, by rw [← q]; exact h1⟩
  have pk : ks.Perm ws := by
    rw [eks]
    have q := pm.map fun v => txtOf (0, v)
    rw [List.map_map] at q
    exact q.trans pw
  have vl : vs.length < 60 := by rw [strsLen hS, pk.length_eq]; exact few
  refine wpAny_bind (wpAny_newList ?_ (by rw [sizeLine_eq]; omega))
  have oL : (s1.heap.push (seqObj "list" vs.toArray 0)).get? s1.heap.objs.size = some (seqObj "list" vs.toArray 0) := Heap.get?_push_size _ rfl
  refine wpAny_bind (wpAny_holding (wpAny_call_entry PyProof.Rows.slot_list_sort ⟨_, oL, rfl⟩ PyProof.Rows.entry_list_sort
    (list_sort_treeK strKind_oneLt oL hS.keysOf (fun v₁ v₂ rest e => keyKind_strs (by rw [← e]; exact hS)) (by omega) fun st' hp hs => ?_) (PyProof.Rows.args_list_sort _)))
  obtain ⟨ys, y1, y2, y3⟩ := sorted_out_str hS hp hs
  obtain ⟨c, hc⟩ := sortedHeap_at (vs := vs) (out := (arrOf st').map (·.2)) oL
  refine ⟨.none, rfl, wpAny_pure ⟨_, rfl, ?_⟩⟩
  refine hQ _ s1.heap.objs.size _ c ys (fun b u e => ?_) g1 o1 hz hc y1 (y2.trans pk) y3
  have q := k1 b u e
  have lt := Heap.lt_size q
  show (sortedHeap (s1.heap.push (seqObj "list" vs.toArray 0)) s1.heap.objs.size vs _).get? b = some u
  rw [sortedHeap_old (Nat.ne_of_lt lt) (by rw [size_push']; exact Nat.lt_succ_of_lt lt)]
  exact Heap.get?_push_of_some _ q
end
end KL
/-! ## rules that the layer lacks -/
namespace KL
open PySem PySem.Spec PyProof.Rows L2
section
variable {X : Cx} {e a : Expr} {es : List Expr} {t te ta : TE} {aA : TA} {p p2 q pos sp_ : Pos}
/-- e's object, locked from now on -/
def tFz (t : TE) : TE := fun σ H Q => t σ H fun x H1 => ∃ (d : Addr) (u : HO), x = .ref d ∧ H1 d = some u ∧ Mut (some u) ∧ ∀ o, Q x (upd H1 d (.frz o u))
theorem pe_frz (he : PE X e t) : PE X e (tFz t) := by
  refine ⟨fun pins s σ H Q I h => thn (he.run pins s σ H _ I h) fun v s1 r => ?_⟩
  obtain ⟨x, H1, I1, r1, d, u, ex, hd, mu, q⟩ := r
  obtain ⟨od, I2⟩ := I1.lock hd mu
  exact ⟨x, _, I2, r1, q od⟩
/-- *d in a display: its keys -/
def tStarD (te : TE) (t : TA) : TA := fun σ H Q => te σ H fun x H1 => ∃ (p : Addr) (kvs : List (Key × V)), x = V.ref p ∧ Rd H1 p (.dK kvs) ∧ t σ H1 fun ys H2 => Q ((kvs.map fun kv => kV kv.1) ++ ys) H2
theorem pa_starD (he : PE X e te) (hr : PA X es aA) (hc : X.calm = true := by rfl) (hs : starEach (.Starred e p :: es) X.env = (true, eval e X.env) :: starEach es X.env := by rfl) : PA X (.Starred e p :: es) (tStarD te aA) := by
  refine ⟨fun pos pins s σ H Q I h => PySem.W.items_star (thn (he.run pins s σ H _ I h) fun v s1 w => ?_) hs⟩
  obtain ⟨y, H1, I1, ry, a, kvs, ey, hd, q⟩ := w
  subst ey
  obtain rfl : v = Value.ref a := ry
  obtain ⟨z, lo, vs, rel, dd⟩ := dk_rd I1.hok hd
  have hT := dd.typeIs
  obtain ⟨ep, hat⟩ := dd.dictAt
  have ek : (kvs.map fun kv => kV kv.1) = vs.map fun p => kV p.1 := by
    have q1 := congrArg (List.map kV) rel.keys
    rw [List.map_map, List.map_map] at q1
    exact q1
  unfold PySem.W.StarOf notIterableAtAll
  refine wpAny_bind (wpAny_specialOf hT PySem.F.slot_dict_iter.lookup (wpAny_pure ⟨rfl, ?_⟩))
  refine PySem.W.kdu_collect (PySem.W.kdl_dict (knd := mixKind X.prog X.w) (kvs := vs) (ep := ep) lo) (I1.ok.hd hc) hat (by rw [← rel.length]; exact z) fun h' tk acc hk hacc => ?_
  have hv : Vals (vs.map fun p => kV p.1) acc.toList := keys_at (by rw [Array.length_toList]; exact hacc.1) fun j v e1 => hacc.2 j v (by rw [← Array.getElem?_toList]; exact e1)
  have I2 : Inv X pins σ H1 { s1 with heap := h', toks := tk } := I1.kept hk
  refine thn (hr.run pos pins _ σ H1 _ I2 q) fun ws s3 r3 => ?_
  obtain ⟨vs3, H3, I3, rv3, q3⟩ := r3
  exact ⟨_, H3, I3, Vals.append (by rw [ek]; exact hv) rv3, q3⟩
/-- repr of data, where nothing is being shown -/
theorem call_reprD (hg : X.A.guards = some []) (hu : X.A.units + 64 < cLine) : CallR X (.builtin "repr") (fun xs H Q => ∃ (a : Addr) (d : PyData), xs = [.ref a] ∧ Dp X.K H (.ref a) d ∧ d.showable = true ∧ d.hasDict = false ∧ d.depth ≤ 60 ∧ d.shown.length ≤ sizeLine ∧ Q (.str d.shown) H) := by
  intro pins s σ H xs us Q I r h
  obtain ⟨a, d, rfl, hd, h1, h2, h3, h4, q⟩ := h
  obtain ⟨u, rfl, ru⟩ := vals1 r
  cases ru
  obtain ⟨as, hr⟩ := Dp.reads I d _ _ hd rfl
  exact repr_of_reads' hr h1 (fun z => by rw [h2] at z; cases z) hg (by omega) (fun _ _ z => z) (fun h' u tk hk => ⟨.str d.shown, H, I.kept hk, ⟨u, rfl⟩, q⟩) h4
/-- sorted(set(a list of different texts)) -/
def tSrtS (K : PySem.W.Frag) (ta : TE) : TE := fun σ H Q => ta σ H fun x H1 => ∃ (l : Addr) (xs : List Str), x = .ref l ∧ H1 l = some (.lst (xs.map V.str)) ∧ xs.Nodup ∧ xs.length < 60 ∧
  ∀ (ys : List Str) (p : Addr), ys.Perm xs → sortedS ys = true → H1 p = none → Q (.ref p) (upd H1 p (.lst (ys.map V.str)))
theorem pe_srtS (hc : X.calm = true) (hg : Gl X "sorted") (hm : X.mg "sorted" = none) (hg2 : Gl X "set") (hm2 : X.mg "set" = none) (ha : PE X a ta)
    (na : starEach [a] X.env = (false, eval a X.env) :: starEach [] X.env := by rfl) : PE X (.Call (.Name "sorted" p) [.Call (.Name "set" p2) [a] [] q] [] pos) (tSrtS X.K ta) := by
  refine ⟨fun pins s σ H Q I h => ?_⟩
  refine Call_ (ld_blt I hg hm (by rfl) ?_)
  refine PyProof.Rows.callWith_builtin1 (PyProof.Rows.args_cons ?_ rfl) rfl rfl
  refine Call_ (ld_blt I hg2 hm2 (by rfl) ?_)
  refine PyProof.Rows.callWith_type1 (PyProof.Rows.args_cons (thn (ha.run pins s σ H _ I h) fun v s1 r => PyProof.Rows.args_nil ?_) na) na rfl
  obtain ⟨x, H1, I1, r1, l, xs, rfl, hx, nd, few, q1⟩ := r
  cases r1
  obtain ⟨its, rv, pl, hz⟩ := I1.list (.inl (.inl hx))
  have hS : StrsAre its xs := by simpa using rv.strs
  refine set_gen (IV := fun i h => SetT X.w s1.heap.objs.size (xs.take i) h) (I1.ok.hd hc) pl.isList setT_stays (by simpa using setT_adds hS nd few) (fun h ho _ => setT_nil ho) fun h' tk iv k => ?_
  refine PyProof.Rows.args_nil ?_
  have I2 := I1.kept (h' := h') (t' := tk) k
  have iv2 : SetT X.w s1.heap.objs.size xs h' := by
    rw [List.take_of_length_le (by rw [List.size_toArray, strsLen hS]; exact Nat.le_refl _)] at iv
    exact iv
  refine setT_sorted (s := { s1 with heap := h', toks := tk }) iv2 few (I1.ok.hd hc) fun s2 p out c ys k2 g o hp hg hi pm so => ?_
  have hlen : (ys.map V.str).length ≤ sizeLine := by rw [List.length_map, pm.length_eq, sizeLine_eq]; omega
  have hn : H1 p = none := I2.hok.fresh hp
  have J : Inv X pins σ (upd H1 p (.lst (ys.map V.str))) { s1 with heap := s2.heap, gens := s2.gens, drawn := s2.drawn, toks := s2.toks } :=
    Inv.call (s := { s1 with heap := h', toks := tk }) I2 (ch := []) (Un.laid k2 hp hn) (I2.hok.laid k2 hp ⟨hlen, out.toList, c, vals_of_strs hi, hg⟩) (by rw [g]; exact I2.bare) (fun _ z => nomatch z)
  have e : s2 = { s1 with heap := s2.heap, gens := s2.gens, drawn := s2.drawn, toks := s2.toks } := by
    cases s2
    cases s1
    cases o
    rfl
  rw [e]
  exact ⟨.ref p, _, J, rfl, q1 ys p pm so hn⟩
end
end KL

/-! ## dicts as association lists; the netting's defs -/
namespace KL
open PySem PySem.Spec PyProof.Rows L2
abbrev AL := List (Str × Int)
def getS (m : AL) (k : Str) : Option Int := (m.find? fun q => decide (q.1 = k)).map (·.2)
def putS (m : AL) (k : Str) (v : Int) : AL := if (m.any fun q => decide (q.1 = k)) = true then m.map (fun q => if q.1 = k then (q.1, v) else q) else m ++ [(k, v)]
def SI (m : AL) : List (Key × V) := m.map fun q => (Sum.inr q.1, V.int q.2)
theorem inr_dec (a b : Str) : decide ((Sum.inr a : Key) = Sum.inr b) = decide (a = b) := key_rr a b
theorem valV_SI (m : AL) (k : Str) : valV (SI m) (Sum.inr k) = (getS m k).map V.int := by
  unfold valV SI getS
  rw [List.find?_map]
  have e : ((fun kv : Key × V => decide (kv.1 = Sum.inr k)) ∘ fun q : Str × Int => ((Sum.inr q.1 : Key), V.int q.2)) = fun q : Str × Int => decide (q.1 = k) := by
    funext q
    exact inr_dec q.1 k
  rw [e]
  cases m.find? fun q => decide (q.1 = k) <;> rfl
theorem putK_SI (m : AL) (k : Str) (v : Int) : putK (SI m) (Sum.inr k) (.int v) = SI (putS m k v) := by
  have ea : ((SI m).any fun kv => decide (kv.1 = Sum.inr k)) = m.any fun q => decide (q.1 = k) := by
    unfold SI
    rw [List.any_map]
    congr 1
    funext q
    exact inr_dec q.1 k
  unfold putK putS
  rw [ea]
  by_cases c : (m.any fun q => decide (q.1 = k)) = true
  · rw [if_pos c, if_pos c]
    unfold SI
    rw [List.map_map, List.map_map]
    apply List.map_congr_left
    intro q _
    show (if (Sum.inr q.1 : Key) = Sum.inr k then ((Sum.inr q.1 : Key), V.int v) else _) = _
    by_cases e : q.1 = k
    · rw [if_pos (by rw [e])]
      show _ = ((Sum.inr (if q.1 = k then (q.1, v) else q).1 : Key), V.int (if q.1 = k then (q.1, v) else q).2)
      rw [if_pos e]
    · rw [if_neg (fun z => e (Sum.inr.inj z))]
      show _ = ((Sum.inr (if q.1 = k then (q.1, v) else q).1 : Key), V.int (if q.1 = k then (q.1, v) else q).2)
      rw [if_neg e]
  · rw [if_neg c, if_neg c]
    unfold SI
    rw [List.map_append]
    rfl
theorem SI_len (m : AL) : (SI m).length = m.length := List.length_map ..
theorem putS_len (m : AL) (k : Str) (v : Int) : (putS m k v).length ≤ m.length + 1 := by
  unfold putS
  split
  · rw [List.length_map]; omega
  · rw [List.length_append]; exact Nat.le_refl _
theorem getS_any (m : AL) (k : Str) : (m.any fun q => decide (q.1 = k)) = (getS m k).isSome := by
  induction m with
  | nil => rfl
  | cons q r ih =>
    unfold getS at ih ⊢
    rw [List.any_cons, List.find?_cons]
    by_cases e : q.1 = k
    · simp [e]
    · simp only [decide_eq_false e, Bool.false_or]
      exact ih
theorem getS_mem (m : AL) (k : Str) : (getS m k).isSome = decide (k ∈ m.map (·.1)) := by
  rw [← getS_any, Bool.eq_iff_iff, List.any_eq_true, decide_eq_true_eq, List.mem_map]
  constructor
  · rintro ⟨q, h1, h2⟩
    exact ⟨q, h1, of_decide_eq_true h2⟩
  · rintro ⟨q, h1, h2⟩
    exact ⟨q, h1, decide_eq_true h2⟩
theorem getS_put (m : AL) (k j : Str) (v : Int) : getS (putS m k v) j = if j = k then some v else getS m j := by
  have h := valV_put (SI m) (Sum.inr k) (Sum.inr j) (.int v)
  rw [putK_SI, valV_SI, valV_SI] at h
  by_cases e : j = k
  · rw [if_pos e]
    rw [if_pos (by rw [e])] at h
    cases q : getS (putS m k v) j with
    | none => rw [q] at h; cases h
    | some x => rw [q] at h; cases h; rfl
  · rw [if_neg e]
    rw [if_neg (fun z => e (Sum.inr.inj z))] at h
    cases q : getS (putS m k v) j with
    | none =>
      rw [q] at h
      cases q2 : getS m j with
      | none => rfl
      | some y => rw [q2] at h; cases h
    | some x =>
      rw [q] at h
      cases q2 : getS m j with
      | none => rw [q2] at h; cases h
      | some y => rw [q2] at h; cases h; rfl
theorem putS_new {m : AL} {k : Str} (v : Int) (h : getS m k = none) : putS m k v = m ++ [(k, v)] := by
  unfold putS
  rw [getS_any, h]
  rfl
theorem putS_keys {m : AL} {k : Str} (v : Int) (h : (getS m k).isSome = true) : (putS m k v).map (·.1) = m.map (·.1) := by
  unfold putS
  rw [getS_any, h, if_pos rfl, List.map_map]
  apply List.map_congr_left
  intro q _
  show (if q.1 = k then (q.1, v) else q).1 = q.1
  split <;> rfl
/-! ### a dict's pairs as data -/
def KVD (H : Hp) : List (Str × PyData) → List (Key × V) → Prop
  | [], kvs => kvs = []
  | p :: ps, kvs => ∃ v r, kvs = (Sum.inr p.1, v) :: r ∧ DD H p.2 v ∧ KVD H ps r
theorem KVD.kt {H H' : Hp} (e : KT H H') : ∀ {ps : List (Str × PyData)} {kvs : List (Key × V)}, (∀ p ∈ ps, lf p.2 = true) → KVD H ps kvs → KVD H' ps kvs
  | [], _, _, h => h
  | p :: ps, kvs, hl, h => by
    obtain ⟨v, r, h1, h2, h3⟩ := h
    exact ⟨v, r, h1, DD.kt e _ _ (hl p List.mem_cons_self) h2, KVD.kt e (fun q hq => hl q (List.mem_cons_of_mem _ hq)) h3⟩
theorem KVD.same {H H' : Hp} (e : Same H H') : ∀ {ps : List (Str × PyData)} {kvs : List (Key × V)}, KVD H ps kvs → KVD H' ps kvs
  | [], _, h => h
  | p :: ps, kvs, h => by
    obtain ⟨v, r, h1, h2, h3⟩ := h
    exact ⟨v, r, h1, DD.same e _ _ h2, KVD.same e h3⟩
theorem KVD.snoc {H : Hp} : ∀ {ps : List (Str × PyData)} {kvs : List (Key × V)} {p : Str × PyData} {v : V}, KVD H ps kvs → DD H p.2 v → KVD H (ps ++ [p]) (kvs ++ [(Sum.inr p.1, v)])
  | [], _, p, v, h, hd => by
    have h : _ = [] := h
    rw [h]
    exact ⟨v, [], rfl, hd, rfl⟩
  | q :: ps, _, p, v, h, hd => by
    obtain ⟨v', r, rfl, h2, h3⟩ := h
    exact ⟨v', _, rfl, h2, h3.snoc hd⟩
theorem KVD.keys {H : Hp} : ∀ {ps : List (Str × PyData)} {kvs : List (Key × V)}, KVD H ps kvs → kvs.map (·.1) = ps.map fun p => Sum.inr p.1
  | [], _, h => by
    have h : _ = [] := h
    rw [h]
    rfl
  | p :: ps, kvs, h => by
    obtain ⟨v, r, rfl, h2, h3⟩ := h
    rw [List.map_cons, List.map_cons, h3.keys]
theorem KVD.ints {H : Hp} : ∀ {m : AL} {kvs : List (Key × V)}, KVD H (m.map fun q => (q.1, PyData.int q.2)) kvs → kvs = SI m
  | [], _, h => h
  | q :: m, kvs, h => by
    obtain ⟨v, r, rfl, h2, h3⟩ := h
    rw [h2.int_eq, KVD.ints h3]
    rfl
/-- a look-up by a key that is there -/
theorem KVD.get {H : Hp} : ∀ {ps : List (Str × PyData)} {kvs : List (Key × V)} {p : Str × PyData}, KVD H ps kvs → (ps.map (·.1)).Nodup → p ∈ ps → ∃ v, valV kvs (Sum.inr p.1) = some v ∧ DD H p.2 v
  | [], _, _, _, _, m => by cases m
  | q :: ps, kvs, p, h, nd, m => by
    obtain ⟨v, r, rfl, h2, h3⟩ := h
    rw [List.map_cons, List.nodup_cons] at nd
    rcases List.mem_cons.mp m with e | m
    · subst e
      exact ⟨v, valV_pos rfl, h2⟩
    · have ne : ¬ (Sum.inr q.1 : Key) = Sum.inr p.1 := fun z => nd.1 (by rw [Sum.inr.inj z]; exact List.mem_map_of_mem m)
      obtain ⟨u, e1, e2⟩ := h3.get nd.2 m
      exact ⟨u, by rw [valV_neg ne]; exact e1, e2⟩
theorem valV_none_of {kvs : List (Key × V)} {k : Key} (h : k ∉ kvs.map (·.1)) : valV kvs k = none := by
  cases q : valV kvs k with
  | none => rfl
  | some v => exact absurd (valV_in q) h
/-- a dict comprehension over anything that walks -/
theorem dcD {J : It} {n : Nat} {G : Hp → Prop} {Y : Nat → Hp → V → Hp → Prop} (w : L2.Walk J n G Y) {g : TG} {tk tv : TE} {vs : List Nat} {σ : L2.St} {H2 : Hp} (kf : Nat → Str × PyData) (hn : n ≤ 10000)
    (hnd : ((List.range n).map fun i => (kf i).1).Nodup) (hlf : ∀ i, i < n → lf (kf i).2 = true) (hG : ∀ H', Same H2 H' → G H')
    (turn : ∀ i x H1 H1', i < n → Same H2 H1 → Y i H1 x H1' → ∀ (Kp : V → V → Hp → Prop), (∀ v H3, Same H1 H3 → DD H3 (kf i).2 v → Kp (.str (kf i).1) v H3) →
      g x (wipe σ vs) H1' fun σ2 H3 => wipe σ2 vs = wipe σ vs ∧ tk σ2 H3 fun y H5 => tv σ2 H5 fun z H6 => Kp y z H6)
    {D : Addr} (hD : H2 D = none) {Qd : Hp → Prop} (hq : ∀ H' kvs, Same H2 H' → H' D = some (.dK kvs) → KVD H' ((List.range n).map kf) kvs → Qd H') :
    ∃ W : Nat → Nat → Hp → Prop, (∃ m, W 0 m (upd H2 D (.dK []))) ∧ ∀ i m H, W i m H →
      (J.stop i H ∧ Qd H) ∨ (J.go i H ∧ ∃ Nx : Hp → Prop, (∀ H', Nx H' → ∃ m', m' < m ∧ W (i + 1) m' H') ∧ ∀ x H', J.yld i H x H' → g x (wipe σ vs) H' fun σ2 H2 => wipe σ2 vs = wipe σ vs ∧ tYes σ2 H2 fun b H3 =>
        if b = true then tk σ2 H3 fun y H4 => tv σ2 H4 fun z H5 => ∃ kvs k, y = kV k ∧ H5 D = some (.dK kvs) ∧ kvs.length < sizeLine ∧ Nx (upd H5 D (.dK (putK kvs k z))) else Nx H3) := by
  refine ⟨fun i m H => m = n - i ∧ i ≤ n ∧ Same H2 H ∧ ∃ kvs, H D = some (.dK kvs) ∧ KVD H ((List.range i).map kf) kvs, ⟨n, rfl, Nat.zero_le _, Same.new hD, [], upd_same, rfl⟩, ?_⟩
  rintro i m H ⟨rfl, hi, s0, kvs, ha, hk⟩
  by_cases hlt : i < n
  · refine .inr ⟨w.goes i H hlt (hG H s0), _, fun H' p => ⟨n - (i + 1), by omega, rfl, hlt, p⟩, fun x H' y => ?_⟩
    refine turn i x H H' hlt s0 (w.yields i H x H' hlt (hG H s0) y) _ fun v H3 s3 hv => ⟨kvs, Sum.inr (kf i).1, rfl, s3 _ _ ha, ?_, Same.mut (s0.trans s3) hD, _, upd_same, ?_⟩
    · have l := congrArg List.length hk.keys
      rw [List.length_map, List.length_map, List.length_map, List.length_range] at l
      rw [l, sizeLine_eq]
      omega
    · have nk : valV kvs (Sum.inr (kf i).1) = none := valV_none_of fun z => by
        rw [hk.keys, List.map_map] at z
        obtain ⟨j, hj, e⟩ := List.mem_map.mp z
        have hj' := List.mem_range.mp hj
        have e' : (kf j).1 = (kf i).1 := Sum.inr.inj e
        have h1 : ((List.range n).map fun i => (kf i).1)[j]? = some (kf j).1 := by rw [List.getElem?_map, List.getElem?_range (by omega)]; rfl
        have h2 : ((List.range n).map fun i => (kf i).1)[i]? = some (kf j).1 := by rw [List.getElem?_map, List.getElem?_range hlt, e']; rfl
        have := nd_ix hnd h1 h2
        omega
      rw [putK_new v nk, List.range_succ, List.map_append]
      have kt : KT H3 (upd H3 D (.dK (kvs ++ [(Sum.inr (kf i).1, v)]))) := KT.updD (s3 _ _ ha)
      exact KVD.snoc (KVD.kt kt (fun p hp => by
        obtain ⟨j, hj, rfl⟩ := List.mem_map.mp hp
        exact hlf j (by have := List.mem_range.mp hj; omega)) (KVD.same s3 hk)) (DD.kt kt _ _ (hlf i hlt) hv)
  · have e : i = n := by omega
    subst e
    exact .inl ⟨w.stops H (hG H s0), hq H kvs s0 ha hk⟩
section
variable {K : PySem.W.Frag} {σ : L2.St} {H : Hp} {tl tk tv : TE} {g : TG} {vs : List Nat} {ds : List PyData}
/-- what a turn of a dict comprehension owes -/
def TurnD (g : TG) (tk tv : TE) (vs : List Nat) (σ : L2.St) (H : Hp) (d : PyData) (r : Str × PyData) : Prop :=
  ∀ x H1, Same H H1 → DD H1 d x → ∀ (Kp : V → V → Hp → Prop), (∀ v H3, Same H1 H3 → DD H3 r.2 v → Kp (.str r.1) v H3) →
    g x (wipe σ vs) H1 fun σ2 H3 => wipe σ2 vs = wipe σ vs ∧ tk σ2 H3 fun y H5 => tv σ2 H5 fun z H6 => Kp y z H6
/-- what is told of a new dict -/
def DicD (te : TE) (σ : L2.St) (H : Hp) (ps : List (Str × PyData)) : Prop := ∀ H1, Same H H1 → ∀ Q : VK, (∀ p H2 kvs, Same H1 H2 → H1 p = none → H2 p = some (.dK kvs) → KVD H2 ps kvs → Q (.ref p) H2) → te σ H1 Q
theorem map_range {α β : Type} (f : α → β) (d : β) : ∀ (ds : List α), (List.range ds.length).map (fun i => ((ds[i]?).map f).getD d) = ds.map f
  | [] => rfl
  | a :: ds => by
    rw [List.length_cons, List.range_succ_eq_map, List.map_cons, List.map_map, List.map_cons]
    have ih := map_range f d ds
    rw [← ih]
    rfl
theorem dd_dcT {f : PyData → Str × PyData} (hs : ED tl σ H (.tuple ds)) (hl : ds.length ≤ 10000) (hnd : (ds.map fun d => (f d).1).Nodup) (hlf : ∀ d ∈ ds, lf (f d).2 = true)
    (turn : ∀ d ∈ ds, TurnD g tk tv vs σ H d (f d)) : DicD (tDc (iTup K tl) g tYes tk tv vs) σ H (ds.map f) := fun H1 m Q q =>
  hs H1 m _ fun v H2 m2 h2 => by
    obtain ⟨a, xs, rfl, hx, hr⟩ := h2.tup
    refine ⟨a, rfl, ⟨xs, .inl (.inl hx)⟩, fun D hD => ?_⟩
    have hlen := hr.length
    have at_ : ∀ (i : Nat) (d : PyData), ds[i]? = some d → ((ds[i]?).map f).getD (Str.empty, .none) = f d := fun i d h => by rw [h]; rfl
    refine dcD (walk_tup (xs := xs)) (fun i => ((ds[i]?).map f).getD (Str.empty, .none)) (by omega) ?_ (fun i hi => ?_) (fun H' s => .inl (.inl (s _ _ hx))) (fun i x H1 H1' hi s1 y Kp k => ?_) hD fun H' kvs s1 hp hd => ?_
    · rw [hlen]
      have e := map_range f (Str.empty, PyData.none) ds
      have e2 := congrArg (List.map (·.1)) e
      rw [List.map_map, List.map_map] at e2
      have e3 : ((List.range ds.length).map fun i => (((ds[i]?).map f).getD (Str.empty, PyData.none)).1) = ds.map fun d => (f d).1 := e2
      rw [e3]
      exact hnd
    · have hi' : i < ds.length := by omega
      rw [at_ i _ (List.getElem?_eq_getElem hi')]
      exact hlf _ (List.getElem_mem hi')
    · obtain ⟨rfl, hx'⟩ := y
      obtain ⟨d, hd, hdx⟩ := hr.back hx'
      simp only [at_ i d hd] at k
      exact turn d (List.mem_of_getElem? hd) x _ ((m.trans m2).trans s1) (DD.same s1 _ _ hdx) Kp k
    · rw [hlen, map_range] at hd
      exact q D H' kvs (m2.trans s1) (L2.Same.free m2 hD) hp hd
theorem turnD_n {i : Nat} {d : PyData} {r : Str × PyData} (hw : ∀ x, wipe ((wipe σ vs).set i (some x)) vs = wipe σ vs) (hk : ∀ x H1, Same H H1 → DD H1 d x → ED tk ((wipe σ vs).set i (some x)) H1 (.str r.1))
    (hv : ∀ x H1, Same H H1 → DD H1 d x → ED tv ((wipe σ vs).set i (some x)) H1 r.2) : TurnD (gName i) tk tv vs σ H d r :=
  fun x H1 s1 hx Kp k => ⟨hw x, hk x H1 s1 hx H1 (L2.Same.refl H1) _ fun y H3 s3 hy => by
    obtain rfl := hy.str_eq
    exact hv x H1 s1 hx H3 s3 _ fun z H4 s4 hz => k z H4 (s3.trans s4) hz⟩
theorem turnD_p {i j : Nat} {d1 d2 : PyData} {r : Str × PyData} (hw : ∀ x y, wipe (((wipe σ vs).set i (some x)).set j (some y)) vs = wipe σ vs)
    (hk : ∀ x y H1, Same H H1 → DD H1 d1 x → DD H1 d2 y → ED tk (((wipe σ vs).set i (some x)).set j (some y)) H1 (.str r.1))
    (hv : ∀ x y H1, Same H H1 → DD H1 d1 x → DD H1 d2 y → ED tv (((wipe σ vs).set i (some x)).set j (some y)) H1 r.2) : TurnD (gTup K 2 (gCons (gName i) (gCons (gName j) gNil))) tk tv vs σ H (.tuple [d1, d2]) r :=
  fun x H1 s1 hx Kp k => by
    obtain ⟨a, xs, rfl, ha, hr⟩ := hx.tup
    obtain ⟨x1, x2, rfl, h1, h2⟩ := hr.two
    exact ⟨a, _, rfl, .inl (.inl ha), rfl, x1, _, rfl, x2, _, rfl, rfl, hw x1 x2, hk x1 x2 H1 s1 h1 h2 H1 (L2.Same.refl H1) _ fun y H3 s3 hy => by
      obtain rfl := hy.str_eq
      exact hv x1 x2 H1 s1 h1 h2 H3 s3 _ fun z H4 s4 hz => k z H4 (s3.trans s4) hz⟩
end
/-- called with data ds: hands back a new dict of the pairs ps -/
def spK (R : List PyData → List (Str × PyData) → Prop) : Sp := fun vs H Q _ => ∃ ds ps, R ds ps ∧ DDs H ds vs ∧ ∀ p H' kvs, Same H H' → H p = none → H' p = some (.dK kvs) → KVD H' ps kvs → Q (.ref p) H'
theorem s_retK {te : TE} {σ : L2.St} {H : Hp} {ps : List (Str × PyData)} {D : Ends} (h : DicD te σ H ps) (k : ∀ p H1 kvs, Same H H1 → H p = none → H1 p = some (.dK kvs) → KVD H1 ps kvs → D.rt (.ref p) H1) : tRet te D σ H := h H (L2.Same.refl H) _ k
section
variable {P : Program} {w : World} {K : PySem.W.Frag} {mg : Str → Option Value} {base : Heap}
theorem mk_dic {x : Str} {st : Stmt} {N ps : List Str} {k : Nat} {R : List PyData → List (Str × PyData) → Prop} (A : At K mg x st) (S : FnScope N ps (defScope st))
    (hb : ∀ (kV doc pm : Value) (an : Option Addr) (cdv ct : Value) (us : List Value), us.length = ps.length → bindArgs (PySem.W.fnOf x x (defArgs st) (defBody st) (defScope st) .none kV doc pm an cdv ct) ⟨us, []⟩ = pure (ps.zip us))
    (hn : ∀ ds d, R ds d → ds.length = ps.length)
    (hbody : ∀ (f : Addr) (cdv : Value) (A : Around) (outer : List Env) (s : Shared) (H : Hp) (vs : List V) (ds : List PyData) (d : List (Str × PyData)) (E : XK), Room k (A.deeper (envOfC x (defScope st) s.heap.objs.size f cdv)) → R ds d → DDs H ds vs →
      ∃ t, PSs (cxOf CX0 P w K mg base N x (defScope st) f cdv A outer s H E).nox (defBody st) t ∧ ∀ (Q : VK), (∀ p H' kvs, Same H H' → H p = none → H' p = some (.dK kvs) → KVD H' d kvs → Q (.ref p) H') → t { nx := fun _ H' => Q .non H', rt := Q } (start N vs) H) : Def P w K mg base CX0 (k + 1) x (spK R) := by
  refine mk_def A S hb (fun vs H Q E h => ?_) fun f cdv A outer s H vs Q E hr h => ?_
  · obtain ⟨ds, d, r, hd, _⟩ := h
    rw [hd.length, hn ds d r]
  · obtain ⟨ds, d, r, hd, k⟩ := h
    obtain ⟨t, ht, hq⟩ := hbody f cdv A outer s H vs ds d E hr r hd
    exact ⟨t, ht, hq Q k⟩
end
theorem scstocks_by : FnScope ["shop", "name", "stock"] ["shop"] (defScope s_stocks_by) := ⟨rfl, rfl, rfl, by decide +kernel, rfl, by decide +kernel, by decide +kernel⟩
theorem scpacks_by : FnScope ["shop", "pack"] ["shop"] (defScope s_packs_by) := ⟨rfl, rfl, rfl, by decide +kernel, rfl, by decide +kernel, by decide +kernel⟩
theorem scnumbers_by : FnScope ["sales", "name", "number"] ["sales"] (defScope s_numbers_by) := ⟨rfl, rfl, rfl, by decide +kernel, rfl, by decide +kernel, by decide +kernel⟩
section
variable {P : Program} {w : World} {K : PySem.W.Frag} {mg : Str → Option Value} {base : Heap}
def pairI (m : AL) : List (Str × PyData) := m.map fun q => (q.1, PyData.int q.2)
def pairK (ks : List Pack) : List (Str × PyData) := ks.map fun k => (k.nm, encK k)
theorem lf_encP (p : Str × Int) : lf (encP p) = true := rfl
theorem lfs_map {α : Type} {f : α → PyData} : ∀ {l : List α}, (∀ x ∈ l, lf (f x) = true) → lfs (l.map f) = true
  | [], _ => rfl
  | x :: r, h => by
    show (lf (f x) && lfs (r.map f)) = true
    rw [h x List.mem_cons_self, lfs_map fun y hy => h y (List.mem_cons_of_mem _ hy)]
    rfl
theorem lf_encK (k : Pack) : lf (encK k) = true := by
  show (true && (true && (true && (lfs (k.sheet.map encP) && true)))) = true
  rw [lfs_map fun _ _ => rfl]
  rfl
theorem lf_encC (c : Str × List Str) : lf (encC c) = true := by
  show (true && (lfs (c.2.map PyData.str) && true)) = true
  rw [lfs_map fun _ _ => rfl]
  rfl
theorem d_numbers_by (T : Txt K mg) : Def P w K mg base CX0 1 "numbers_by" (spK fun ds ps => ∃ r : AL, ds = [.tuple (r.map encP)] ∧ ps = pairI r ∧ (r.map (·.1)).Nodup ∧ r.length ≤ 1000) := by
  refine mk_dic T.a_numbers_by scnumbers_by (fun _ _ _ _ _ _ us hl => match us, hl with | [_], _ => rfl) (fun ds d ⟨x, e, _⟩ => by rw [e]; rfl) fun f cdv A outer s H vs ds d E hr r hv => ?_
  obtain ⟨m, rfl, rfl, nd, hl⟩ := r
  obtain ⟨v, rfl, hx⟩ := hv.one
  refine ⟨_, (pss_one (ps_ret (pe_dc rfl scnumbers_by.nd (pi_tup (pv 0)) (blkOk_by (own := [("name", 1), ("number", 2)]) (N := ["sales", "name", "number"]) (sc := defScope s_numbers_by) (by decide +kernel)) (fun _ _ _ _ _ => (pg_tup (n := 2) rfl (pgs_cons (pg_name (i := 1) scnumbers_by.nd rfl (Or.inl rfl) (hf := Or.inr rfl)) (pgs_cons (pg_name (i := 2) scnumbers_by.nd rfl (Or.inl rfl) (hf := Or.inr rfl)) pgs_nil)) : PG _ _ (gTup K 2 _))) (fun _ _ _ _ _ => pts_nil) (fun _ _ _ _ _ => (pv 1)) (fun _ _ _ _ _ => (pv 2))))), fun Q k => s_retK ?_ k⟩
  have h := dd_dcT (K := K) (g := gTup K 2 (gCons (gName 1) (gCons (gName 2) gNil))) (tk := tVar 1) (tv := tVar 2) (vs := [1, 2]) (σ := start ["sales", "name", "number"] [v]) (H := H) (tl := tVar 0) (ds := m.map encP)
    (f := fun d => match d with | .tuple [.str a, .int b] => (a, .int b) | _ => (Str.empty, .none)) (ed_var rfl hx) (by rw [List.length_map]; omega) (by rw [List.map_map]; exact nd)
    (fun d hd => by obtain ⟨p, _, rfl⟩ := List.mem_map.mp hd; rfl) (fun d hd => by
      obtain ⟨p, _, rfl⟩ := List.mem_map.mp hd
      exact turnD_p (fun _ _ => rfl) (fun x y H1 s1 hx hy => ed_var rfl hx) fun x y H1 s1 hx hy => ed_var rfl hy)
  rw [List.map_map] at h
  exact h
theorem d_stocks_by (T : Txt K mg) : Def P w K mg base CX0 1 "stocks_by" (spK fun ds ps => ∃ S, ds = [encS S] ∧ ps = pairI S.parts ∧ (pNames S).Nodup ∧ ShopSz S) := by
  refine mk_dic T.a_stocks_by scstocks_by (fun _ _ _ _ _ _ us hl => match us, hl with | [_], _ => rfl) (fun ds d ⟨x, e, _⟩ => by rw [e]; rfl) fun f cdv A outer s H vs ds d E hr r hv => ?_
  obtain ⟨S, rfl, rfl, nd, sz⟩ := r
  obtain ⟨v, rfl, hx⟩ := hv.one
  refine ⟨_, (pss_one (ps_ret (pe_dc rfl scstocks_by.nd (pi_tup (pe_ix ix_tup (pv 0) pe_int (fun _ _ => rfl))) (blkOk_by (own := [("name", 1), ("stock", 2)]) (N := ["shop", "name", "stock"]) (sc := defScope s_stocks_by) (by decide +kernel)) (fun _ _ _ _ _ => (pg_tup (n := 2) rfl (pgs_cons (pg_name (i := 1) scstocks_by.nd rfl (Or.inl rfl) (hf := Or.inr rfl)) (pgs_cons (pg_name (i := 2) scstocks_by.nd rfl (Or.inl rfl) (hf := Or.inr rfl)) pgs_nil)) : PG _ _ (gTup K 2 _))) (fun _ _ _ _ _ => pts_nil) (fun _ _ _ _ _ => (pv 1)) (fun _ _ _ _ _ => (pv 2))))), fun Q k => s_retK ?_ k⟩
  have h := dd_dcT (K := K) (g := gTup K 2 (gCons (gName 1) (gCons (gName 2) gNil))) (tk := tVar 1) (tv := tVar 2) (vs := [1, 2]) (σ := start ["shop", "name", "stock"] [v]) (H := H) (tl := tOp (rIxT K) (tVar 0) (tC (.int 0))) (ds := S.parts.map encP)
    (f := fun d => match d with | .tuple [.str a, .int b] => (a, .int b) | _ => (Str.empty, .none)) (ed_ixT (j := 0) (ed_var rfl hx) rfl) (by rw [List.length_map]; have := sz.parts; omega) (by rw [List.map_map]; exact nd)
    (fun d hd => by obtain ⟨p, _, rfl⟩ := List.mem_map.mp hd; rfl) (fun d hd => by
      obtain ⟨p, _, rfl⟩ := List.mem_map.mp hd
      exact turnD_p (fun _ _ => rfl) (fun x y H1 s1 hx hy => ed_var rfl hx) fun x y H1 s1 hx hy => ed_var rfl hy)
  rw [List.map_map] at h
  exact h
theorem d_packs_by (T : Txt K mg) : Def P w K mg base CX0 1 "packs_by" (spK fun ds ps => ∃ S, ds = [encS S] ∧ ps = pairK S.packs ∧ (kNames S).Nodup ∧ ShopSz S) := by
  refine mk_dic T.a_packs_by scpacks_by (fun _ _ _ _ _ _ us hl => match us, hl with | [_], _ => rfl) (fun ds d ⟨x, e, _⟩ => by rw [e]; rfl) fun f cdv A outer s H vs ds d E hr r hv => ?_
  obtain ⟨S, rfl, rfl, nd, sz⟩ := r
  obtain ⟨v, rfl, hx⟩ := hv.one
  refine ⟨_, (pss_one (ps_ret (pe_dc rfl scpacks_by.nd (pi_tup (pe_ix ix_tup (pv 0) pe_int (fun _ _ => rfl))) (blkOk_by (own := [("pack", 1)]) (N := ["shop", "pack"]) (sc := defScope s_packs_by) (by decide +kernel)) (fun _ _ _ _ _ => (pg_name (i := 1) scpacks_by.nd rfl (Or.inl rfl) (hf := Or.inr rfl))) (fun _ _ _ _ _ => pts_nil) (fun _ _ _ _ _ => (pe_ix (r := rIxT K) ix_tup (pv 1) pe_int (fun _ _ => rfl))) (fun _ _ _ _ _ => (pv 1))))), fun Q k => s_retK ?_ k⟩
  have h := dd_dcT (K := K) (g := gName 1) (tk := tOp (rIxT K) (tVar 1) (tC (.int 0))) (tv := tVar 1) (vs := [1]) (σ := start ["shop", "pack"] [v]) (H := H) (tl := tOp (rIxT K) (tVar 0) (tC (.int 2))) (ds := S.packs.map encK)
    (f := fun d => match d with | .tuple (.str a :: r) => (a, .tuple (.str a :: r)) | _ => (Str.empty, .none)) (ed_ixT (j := 2) (ed_var rfl hx) rfl) (by rw [List.length_map]; have := sz.packs; omega) (by rw [List.map_map]; exact nd)
    (fun d hd => by obtain ⟨p, _, rfl⟩ := List.mem_map.mp hd; exact lf_encK p) (fun d hd => by
      obtain ⟨p, _, rfl⟩ := List.mem_map.mp hd
      exact turnD_n (fun _ => rfl) (fun x H1 s1 hx => ed_ixT (j := 0) (ed_var rfl hx) rfl) fun x H1 s1 hx => ed_var rfl hx)
  rw [List.map_map] at h
  exact h
end
end KL

/-! ## outer_names -/
namespace KL
open PySem PySem.Spec PyProof.Rows L2
def innerN (R : List Pack) : List Str := R.flatMap fun k => k.sheet.map fun p => p.1
def freeB (R : List Pack) (k : Pack) : Bool := !decide (k.nm ∈ innerN R)
/-- the packs, layer by layer -/
def outerOrd : Nat → List Pack → List Pack
  | 0, _ => []
  | n + 1, R => if R = [] then [] else R.filter (freeB R) ++ outerOrd n (R.filter fun k => !freeB R k)
theorem outerOrd_nil : ∀ n, outerOrd n [] = []
  | 0 => rfl
  | n + 1 => if_pos rfl
/-- in each part of the packs one is named by none -/
def Wf (ks : List Pack) : Prop := ∀ R : List Pack, R ≠ [] → (∀ k ∈ R, k ∈ ks) → ∃ k ∈ R, k.nm ∉ innerN R
theorem innerN_snoc (R : List Pack) (k : Pack) : innerN (R ++ [k]) = innerN R ++ k.sheet.map fun p => p.1 := by
  unfold innerN
  rw [List.flatMap_append]
  simp
def nmD : PyData → Str
  | .tuple (.str s :: _) => s
  | _ => Str.empty
theorem scouter_names : FnScope ["shop", "rest", "found", "inner", "pack", "name", "count"] ["shop"] (defScope s_outer_names) := ⟨rfl, rfl, rfl, by decide +kernel, rfl, by decide +kernel, by decide +kernel⟩
theorem s_parD {ta : TA} {σ : L2.St} {H : Hp} {d1 d2 : PyData} {D : Ends} {i j : Nat} (h : EA ta σ H [d1, d2]) (k : ∀ x y H1, Same H H1 → DD H1 d1 x → DD H1 d2 y → D.nx ((σ.set i (some x)).set j (some y)) H1) : tPar i j ta D σ H :=
  h H (L2.Same.refl H) _ fun vs H1 m hv => by
    obtain ⟨x, y, rfl, h1, h2⟩ := hv.two
    exact ⟨x, y, rfl, k x y H1 m h1 h2⟩
theorem s_par3D {ta : TA} {σ : L2.St} {H : Hp} {d1 d2 d3 : PyData} {D : Ends} {i j l : Nat} (h : EA ta σ H [d1, d2, d3]) (k : ∀ x y z H1, Same H H1 → DD H1 d1 x → DD H1 d2 y → DD H1 d3 z → D.nx (((σ.set i (some x)).set j (some y)).set l (some z)) H1) : tPar3 i j l ta D σ H :=
  h H (L2.Same.refl H) _ fun vs H1 m hv => by
    obtain ⟨x, y, z, rfl, h1, h2, h3⟩ := hv.three
    exact ⟨x, y, z, rfl, k x y z H1 m h1 h2 h3⟩
section
variable {K : PySem.W.Frag} {H : Hp}
/-- [name for pack in rest for name, count in pack[3]] -/
theorem ed_inner {s0 s1 s2 s3 : Option V} {R : List Pack} {tl : TE} (hs : ED tl [s0, s1, s2, s3, none, none, none] H (.list (R.map encK))) (hR : R.length ≤ 10) (hsz : ∀ k ∈ R, k.sheet.length ≤ 10) :
    ED (tLc2 (iList K tl) (gName 4) tYes (iTup K (tOp (rIxT K) (tVar 4) (tC (.int 3)))) (gTup K 2 (gCons (gName 5) (gCons (gName 6) gNil))) tYes (tVar 5) [4, 5, 6] [5, 6]) [s0, s1, s2, s3, none, none, none] H (.list ((innerN R).map PyData.str)) := fun H1 m Q q =>
  hs H1 m _ fun v H2 m2 h2 => by
    obtain ⟨a, xs, rfl, hx, hr⟩ := h2.lst
    have hlen := hr.length
    rw [List.length_map] at hlen
    have small : ∀ i, i ≤ R.length → (innerN (R.take i)).length ≤ 10 * i := by
      intro i
      induction i with
      | zero => intro _; simp [innerN]
      | succ i ih =>
        intro hi
        have hi' : i < R.length := hi
        rw [List.take_succ, List.getElem?_eq_getElem hi', Option.toList_some, innerN_snoc, List.length_append, List.length_map]
        have h1 := ih (by omega)
        have h2 := hsz _ (List.getElem_mem hi')
        omega
    refine ⟨a, rfl, ⟨xs, .inl (.inl hx)⟩, fun D hD => ?_⟩
    refine ⟨fun i m H' => m = R.length - i ∧ i ≤ R.length ∧ Same H2 H' ∧ H' D = some (.lst ((innerN (R.take i)).map V.str)), ⟨R.length, rfl, Nat.zero_le _, Same.new hD, upd_same⟩, ?_⟩
    rintro i m' H' ⟨rfl, hi, sH, hd⟩
    by_cases hlt : i < R.length
    · have hx' : xs[i]? = some xs[i] := List.getElem?_eq_getElem (by omega)
      refine .inr ⟨⟨xs, xs[i], .inl (.inl (sH _ _ hx)), hx'⟩, fun H'' => Same H2 H'' ∧ H'' D = some (.lst ((innerN (R.take (i + 1))).map V.str)), fun H'' p => ⟨R.length - (i + 1), by omega, rfl, hlt, p.1, p.2⟩, fun x H3 y => ?_⟩
      obtain ⟨rfl, y⟩ := y
      obtain ⟨d, hd', hdx⟩ := hr.back (y xs (.inl (.inl (sH _ _ hx))))
      rw [List.getElem?_map, List.getElem?_eq_getElem hlt] at hd'
      obtain rfl : encK R[i] = d := Option.some.inj hd'
      have hsz' := hsz _ (List.getElem_mem hlt)
      have sm := small i (Nat.le_of_lt hlt)
      have etake : innerN (R.take (i + 1)) = innerN (R.take i) ++ R[i].sheet.map fun p => p.1 := by rw [List.take_succ, List.getElem?_eq_getElem hlt, Option.toList_some, innerN_snoc]
      generalize hk : R[i] = k at hdx hsz' etake
      have hdx' := DD.same sH _ _ hdx
      refine ⟨rfl, ?_⟩
      unfold tYes
      refine iteT ?_
      refine ed_ixT (σ := [s0, s1, s2, s3, some x, none, none]) (j := 3) (ed_var rfl hdx') rfl _ (L2.Same.refl _) _ fun v4 H4 s4 h4 => ?_
      obtain ⟨b, ys, rfl, hy, hry⟩ := h4.tup
      have hleny := hry.length
      rw [List.length_map] at hleny
      refine ⟨b, rfl, ⟨ys, .inl (.inl hy)⟩, fun j m1 H5 => m1 = k.sheet.length - j ∧ j ≤ k.sheet.length ∧ Same H2 H5 ∧ H5 b = some (.tup ys) ∧ DDs H5 (k.sheet.map encP) ys ∧ H5 D = some (.lst ((innerN (R.take i) ++ (k.sheet.take j).map fun p => p.1).map V.str)),
        ⟨k.sheet.length, rfl, Nat.zero_le _, sH.trans s4, hy, hry, by rw [s4 _ _ hd]; simp⟩, ?_⟩
      rintro j m1 H5 ⟨rfl, hj, s5, hb, hdd, hD5⟩
      by_cases hjl : j < k.sheet.length
      · have hyj : ys[j]? = some ys[j] := List.getElem?_eq_getElem (by omega)
        refine .inr ⟨⟨ys, ys[j], .inl (.inl hb), hyj⟩, _, fun H6 p => ⟨k.sheet.length - (j + 1), by omega, rfl, hjl, p⟩, fun z H6 y2 => ?_⟩
        obtain ⟨rfl, y2⟩ := y2
        obtain ⟨e, he, hez⟩ := hdd.back (y2 ys (.inl (.inl hb)))
        rw [List.getElem?_map, List.getElem?_eq_getElem hjl] at he
        obtain rfl : encP k.sheet[j] = e := Option.some.inj he
        obtain ⟨c, zs, rfl, hc, hrc⟩ := hez.tup
        obtain ⟨z1, z2, rfl, h1, h2⟩ := hrc.two
        obtain rfl := h1.str_eq
        refine ⟨c, _, rfl, .inl (.inl hc), rfl, _, _, rfl, _, _, rfl, rfl, rfl, ?_⟩
        dsimp only
        refine iteT ⟨_, rfl, _, hD5, ?_, Same.mut s5 hD, ?_⟩
        · have l1 : ((k.sheet.take j).map fun p => p.1).length ≤ 10 := by
            rw [List.length_map, List.length_take]
            omega
          rw [List.length_map, List.length_append, sizeLine_eq]
          omega
        · have kt : KT H6 (upd H6 D (.lst (((innerN (R.take i) ++ (k.sheet.take j).map fun p => p.1).map V.str) ++ [V.str k.sheet[j].1]))) := KT.updL hD5
          refine ⟨kt _ _ hb, DDs.kt kt _ _ (lfs_map fun _ _ => rfl) hdd, ?_⟩
          have e1 : k.sheet.take (j + 1) = k.sheet.take j ++ [k.sheet[j]] := by rw [List.take_succ, List.getElem?_eq_getElem hjl]; rfl
          rw [upd_same, e1]
          simp only [List.map_append, List.append_assoc, List.map_cons, List.map_nil]
      · have ej : j = k.sheet.length := by omega
        subst ej
        refine .inl ⟨⟨ys, .inl (.inl hb), by omega⟩, s5, ?_⟩
        rw [hD5, List.take_length, etake]
    · have ei : i = R.length := by omega
      subst ei
      refine .inl ⟨⟨xs, .inl (.inl (sH _ _ hx)), by omega⟩, q _ H' (m2.trans sH) (dd_lst hd ?_)⟩
      rw [List.take_length]
      exact dds_strs _
end
section
variable {P : Program} {w : World} {K : PySem.W.Frag} {mg : Str → Option Value} {base : Heap}
theorem et_gt0 {σ : L2.St} {H : Hp} {te : TE} {ds : List PyData} (h : ED te σ H (.list ds)) : ET (tTest (tOp (rI0 fun i j => .bl (decide (j < i))) (tCB (fun xs H Q => ∃ p ys, xs = [.ref p] ∧ (SqL K H p ys ∨ SqT K H p ys) ∧ Q (.int ys.length) H) (tCons te tNil)) (tC (.int 0)))) σ H (decide (0 < ds.length)) := by
  refine ET.is (et_test (ed_opB (ed_lenL h) ed_int)) ?_
  rw [Bool.eq_iff_iff, decide_eq_true_eq, decide_eq_true_eq]
  omega
theorem ed_inF {σ : L2.St} {H : Hp} {ta tb : TE} {x : Str} {ys : List Str} (ha : ED ta σ H (.str x)) (hb : ED tb σ H (.list (ys.map PyData.str))) : ED (tOp (rIn K true) ta tb) σ H (.bool (!decide (x ∈ ys))) := fun H1 m Q q => by
  refine ha H1 m _ fun v H2 m2 h2 => hb H2 (m.trans m2) _ fun w H3 m3 h3 => ?_
  obtain ⟨a, xs, rfl, hx, hr⟩ := h3.lst
  obtain rfl := hr.strs_eq
  obtain rfl := h2.str_eq
  refine ⟨a, _, rfl, .inl (.inl (.inl hx)), rfl, ?_, ?_⟩
  · rw [List.all_eq_true]
    intro y hy
    obtain ⟨z, _, rfl⟩ := List.mem_map.mp hy
    rfl
  · have e : (if true = true then !inV (V.str x) (ys.map V.str) else inV (V.str x) (ys.map V.str)) = !decide (x ∈ ys) := by
      rw [if_pos rfl]
      congr 1
      show ((ys.map V.str).any fun y => eqV y (V.str x)) = decide (x ∈ ys)
      rw [List.any_map, Bool.eq_iff_iff, List.any_eq_true, decide_eq_true_eq]
      constructor
      · rintro ⟨y, hy, e⟩
        have e' : decide (y = x) = true := e
        rw [← of_decide_eq_true e']
        exact hy
      · intro hx'
        exact ⟨x, hx', decide_eq_true rfl⟩
    rw [e]
    exact q _ H3 (m2.trans m3) dd_bl
theorem filterMap_if {α β : Type} {p : α → Bool} {f : α → β} : ∀ (l : List α), l.filterMap (fun x => if p x = true then some (f x) else none) = (l.filter p).map f
  | [] => rfl
  | x :: l => by
    rw [List.filterMap_cons, List.filter_cons]
    cases p x with
    | true => simp [filterMap_if l]
    | false => simp [filterMap_if l]
theorem flt_len {α : Type} {p : α → Bool} : ∀ (l : List α), (l.filter p).length + (l.filter fun x => !p x).length = l.length
  | [] => rfl
  | x :: l => by
    have := flt_len (p := p) l
    rw [List.filter_cons, List.filter_cons]
    cases p x with
    | true => simp; omega
    | false => simp; omega
theorem d_outer_names (T : Txt K mg) : Def P w K mg base CX0 1 "outer_names" (spD fun ds d => ∃ S, ds = [encS S] ∧ ShopSz S ∧ Wf S.packs ∧ d = .list ((outerOrd S.packs.length S.packs).map fun k => PyData.str k.nm)) := by
  refine mk_pure T.a_outer_names scouter_names (fun _ _ _ _ _ _ us hl => match us, hl with | [_], _ => rfl) (fun ds d ⟨x, e, _⟩ => by rw [e]; rfl) fun f cdv A outer s H vs ds d E hr r hv => ?_
  obtain ⟨S, rfl, sz, wf, rfl⟩ := r
  obtain ⟨v, rfl, hx⟩ := hv.one
  refine ⟨_, (pss_cons (ps_par (i := 1) (j := 2) rfl scouter_names.nd rfl rfl (by decide) rfl rfl (pa_cons (pe_callTy call_list_of (by rfl) T.n_list (by decide +kernel) (pa_cons (pe_ix ix_tup (pv 0) pe_int (fun _ _ => rfl)) pa_nil)) (pa_cons (pe_lst pa_nil) pa_nil)) (by rfl))
      (pss_cons (ps_while PassesOwn.never (pt_cmpR op_gt (pe_callB call_len_seq (by rfl) T.n_len (by decide +kernel) (pa_cons (pv 1) pa_nil)) pe_int (nomark _)) (pss_cons (ps_set (i := 3) scouter_names.nd rfl (Or.inr rfl) (pe_lc2 (vs1 := [5, 6]) rfl scouter_names.nd (pi_list (pv 1)) (blkOk_by (own := [("pack", 4), ("name", 5), ("count", 6)]) (N := ["shop", "rest", "found", "inner", "pack", "name", "count"]) (sc := defScope s_outer_names) (by decide +kernel)) (by decide) (fun _ _ _ _ _ => (pg_name (i := 4) scouter_names.nd rfl (Or.inl rfl) (hf := Or.inr rfl))) (fun _ _ _ _ _ => pts_nil) (fun _ _ _ _ _ => (pi_tup (pe_ix (r := rIxT K) ix_tup (pv 4) pe_int (fun _ _ => rfl)) : PI _ _ _ (iTup K _))) (fun _ _ _ _ _ => (pg_tup (n := 2) rfl (pgs_cons (pg_name (i := 5) scouter_names.nd rfl (Or.inl rfl) (hf := Or.inr rfl)) (pgs_cons (pg_name (i := 6) scouter_names.nd rfl (Or.inl rfl) (hf := Or.inr rfl)) pgs_nil)) : PG _ _ (gTup K 2 _))) (fun _ _ _ _ _ => pts_nil) (fun _ _ _ _ _ => (pv 5))))
      (pss_cons (ps_set (i := 2) scouter_names.nd rfl (Or.inl rfl) (pe_op op_cat (pv 2) (pe_lc rfl scouter_names.nd (pi_list (pv 1)) (blkOk_by (own := [("pack", 4)]) (N := ["shop", "rest", "found", "inner", "pack", "name", "count"]) (sc := defScope s_outer_names) (by decide +kernel)) (fun _ _ _ _ _ => (pg_name (i := 4) scouter_names.nd rfl (Or.inl rfl) (hf := Or.inr rfl))) (fun _ _ _ _ _ => (pts_one (pt_cmpR (r := rIn K true) op_notIn_seq (pe_ix (r := rIxT K) ix_tup (pv 4) pe_int (fun _ _ => rfl)) (pv 3) (by rfl)))) (fun _ _ _ _ _ => (pe_ix (r := rIxT K) ix_tup (pv 4) pe_int (fun _ _ => rfl))))))
      (pss_one (ps_setLc (i := 1) rfl scouter_names.nd rfl rfl (sw_true rfl rfl rfl (by decide +kernel)) (pi_list (pv 1)) (blkOk_by (own := [("pack", 4)]) (N := ["shop", "rest", "found", "inner", "pack", "name", "count"]) (sc := defScope s_outer_names) (by decide +kernel)) (fun _ _ _ _ _ => (pg_name (i := 4) scouter_names.nd rfl (Or.inl rfl) (hf := Or.inr rfl))) (fun _ _ _ _ _ => (pts_one (pt_cmpR (r := rIn K false) op_in_seq (pe_ix (r := rIxT K) ix_tup (pv 4) pe_int (fun _ _ => rfl)) (pv 3) (by rfl)))) (fun _ _ _ _ _ => (pv 4)))))))
      (pss_one (ps_ret (pv 2))))), fun Q k => ?_⟩
  refine s_parD (ea_cons (ed_listT (ed_ixT (j := 2) (ed_var rfl hx) rfl)) (ea_cons (ed_lst ea_nil (by decide)) ea_nil)) fun vR vF H1 m1 h1 hF => ?_
  have xl : ∀ {R : List Pack}, (∀ k ∈ R, k ∈ S.packs) → R.length ≤ S.packs.length → R.length ≤ 10 ∧ ∀ k ∈ R, k.sheet.length ≤ 10 := fun h1 h2 => ⟨Nat.le_trans h2 sz.packs, fun k hk => sz.sheets k (h1 k hk)⟩
  refine ⟨fun m σ H' => ∃ (R : List Pack) (F : List Str) (vR vF : V) (o3 : Option V), σ = [some v, some vR, some vF, o3, none, none, none] ∧ m = R.length ∧ Same H H' ∧ DD H' (.list (R.map encK)) vR ∧ DD H' (.list (F.map PyData.str)) vF ∧ (∀ k ∈ R, k ∈ S.packs) ∧ R.length ≤ S.packs.length ∧ F.length + R.length ≤ S.packs.length ∧
      ∃ n, R.length ≤ n ∧ F ++ (outerOrd n R).map (fun k => k.nm) = (outerOrd S.packs.length S.packs).map fun k => k.nm,
    ⟨_, S.packs, [], vR, vF, none, rfl, rfl, m1, h1, hF, fun _ h => h, Nat.le_refl _, by simp, S.packs.length, Nat.le_refl _, rfl⟩, ?_⟩
  rintro m σ H' ⟨R, F, vR', vF, o3, rfl, rfl, sH, hR, hF', hsub, hlen, hFR, n, hn, heq⟩
  obtain ⟨xl1, xl2⟩ := xl hsub hlen
  refine et_gt0 (ed_var rfl hR) H' (L2.Same.refl _) _ fun H2 s2 => ?_
  rw [List.length_map]
  have hR2 := DD.same s2 _ _ hR
  have hF2 := DD.same s2 _ _ hF'
  cases hb : decide (0 < R.length) with
  | false =>
    refine iteF ?_
    have e0 : R = [] := List.eq_nil_of_length_eq_zero (by have := of_decide_eq_false hb; omega)
    subst e0
    rw [outerOrd_nil, List.map_nil, List.append_nil] at heq
    refine s_retD (ed_var rfl hF2) fun v3 H3 s3 h3 => k v3 H3 ((sH.trans s2).trans s3) ?_
    rw [heq, List.map_map] at h3
    exact h3
  | true =>
    refine iteT ?_
    have hne : R ≠ [] := fun z => by rw [z] at hb; cases hb
    obtain ⟨k0, hk0, hfree⟩ := wf R hne hsub
    have hlt : (R.filter fun k => !freeB R k).length < R.length := by
      refine Nat.lt_of_le_of_ne (List.length_filter_le ..) fun z => ?_
      have q := List.length_filter_eq_length_iff.mp z k0 hk0
      have q2 : freeB R k0 = true := by
        show (!decide (k0.nm ∈ innerN R)) = true
        rw [decide_eq_false hfree]
        rfl
      rw [q2] at q
      cases q
    refine ⟨fun σ' H3 => ∃ (R' : List Pack) (F' : List Str) (vR vF : V) (o3 : Option V), σ' = [some v, some vR, some vF, o3, none, none, none] ∧ R'.length < R.length ∧ Same H H3 ∧ DD H3 (.list (R'.map encK)) vR ∧ DD H3 (.list (F'.map PyData.str)) vF ∧ (∀ k ∈ R', k ∈ S.packs) ∧ R'.length ≤ S.packs.length ∧ F'.length + R'.length ≤ S.packs.length ∧
        ∃ n, R'.length ≤ n ∧ F' ++ (outerOrd n R').map (fun k => k.nm) = (outerOrd S.packs.length S.packs).map fun k => k.nm,
      fun σ' H3 ⟨R', F', vR, vF, o3, e, l, r1, r2, r3, r4, r5, r6, r7⟩ => ⟨_, l, R', F', vR, vF, o3, e, rfl, r1, r2, r3, r4, r5, r6, r7⟩, ?_⟩
    refine s_setD (ed_inner (ed_var rfl hR2) xl1 xl2) fun vI H3 s3 h3 => ?_
    have hR3 := DD.same s3 _ _ hR2
    have hF3 := DD.same s3 _ _ hF2
    have el : ∀ (k : Pack), k ∈ R → (!decide (nmD (encK k) ∈ innerN R)) = freeB R k := fun k _ => rfl
    have hf1 : (R.map encK).filterMap (fun d => if (!decide (nmD d ∈ innerN R)) = true then some (PyData.str (nmD d)) else none) = ((R.filter (freeB R)).map fun k => k.nm).map PyData.str := by
      rw [List.filterMap_map, List.map_map]
      exact filterMap_if R
    have hf2 : (R.map encK).filterMap (fun d => if decide (nmD d ∈ innerN R) = true then some d else none) = (R.filter fun k => !freeB R k).map encK := by
      rw [List.filterMap_map]
      have e : ((fun d => if decide (nmD d ∈ innerN R) = true then some d else none) ∘ encK) = fun k => if (!freeB R k) = true then some (encK k) else none := by
        funext k
        have e : (!freeB R k) = decide (k.nm ∈ innerN R) := Bool.not_not _
        rw [e]
        rfl
      rw [e]
      exact filterMap_if R
    refine s_setD (d := .list ((F ++ (R.filter (freeB R)).map fun k => k.nm).map PyData.str)) (ED.is (ed_cat (ed_var rfl hF3) (ED.is (ed_lcL (f := fun d => if (!decide (nmD d ∈ innerN R)) = true then some (PyData.str (nmD d)) else none) (ed_var rfl hR3) (by rw [List.length_map]; omega) (fun d hd e he => ?_) fun d hd => ?_) (congrArg PyData.list hf1)) ?_) ?_) fun vF3 H4 s4 h4 => ?_
    · split at he
      · cases he; rfl
      · cases he
    · obtain ⟨k1, _, rfl⟩ := List.mem_map.mp hd
      refine turn_nt (fun _ => rfl) (fun x H5 s5 hx5 => et_B (ed_inF (ed_ixT (j := 0) (ed_var rfl hx5) rfl) (ed_var rfl (DD.same s5 _ _ h3)))) fun _ x H5 s5 hx5 => ed_ixT (j := 0) (ed_var rfl hx5) rfl
    · rw [List.length_map, List.length_map, List.length_map]
      have := List.length_filter_le (freeB R) R
      have := sz.packs
      omega
    · rw [List.map_append]
    have hR4 := DD.same s4 _ _ hR3
    refine s_setD (d := .list ((R.filter fun k => !freeB R k).map encK)) (ED.is (ed_lcL (f := fun d => if decide (nmD d ∈ innerN R) = true then some d else none) (ed_var rfl hR4) (by rw [List.length_map]; omega) (fun d hd e he => ?_) fun d hd => ?_) (congrArg PyData.list hf2)) fun vR5 H5 s5 h5 => ?_
    · obtain ⟨k1, _, rfl⟩ := List.mem_map.mp hd
      split at he
      · cases he; exact lf_encK k1
      · cases he
    · obtain ⟨k1, _, rfl⟩ := List.mem_map.mp hd
      refine turn_nt (fun _ => rfl) (fun x H5 s5 hx5 => et_B (ed_inL (ed_ixT (j := 0) (ed_var rfl hx5) rfl) (ed_var rfl (DD.same (s4.trans s5) _ _ h3)))) fun _ x H5 s5 hx5 => ed_var rfl hx5
    · have hsum : (R.filter (freeB R)).length + (R.filter fun k => !freeB R k).length = R.length := by
        exact flt_len R
      have hsub' : ∀ k ∈ R.filter fun k => !freeB R k, k ∈ S.packs := fun k hk => hsub k (List.mem_filter.mp hk).1
      refine ⟨_, F ++ (R.filter (freeB R)).map (fun k => k.nm), vR5, vF3, some vI, rfl, hlt, (((sH.trans s2).trans s3).trans s4).trans s5, h5, DD.same s5 _ _ h4, hsub', by omega, ?_, ?_⟩
      · rw [List.length_append, List.length_map]
        omega
      · cases n with
        | zero => exact absurd (List.eq_nil_of_length_eq_zero (by omega)) hne
        | succ n =>
          refine ⟨n, by omega, ?_⟩
          rw [← heq]
          show _ = F ++ (if R = [] then [] else R.filter (freeB R) ++ outerOrd n (R.filter fun k => !freeB R k)).map fun k => k.nm
          rw [if_neg hne, List.map_append, List.append_assoc]
end
end KL

/-! ## plain: sorted texts, the netting -/
namespace KL
open PySem PySem.Spec PyProof.Rows L2
abbrev leS (a b : Str) : Prop := a.cps.toList ≤ b.cps.toList
def srtBy {α : Type} (f : α → Str) (xs : List α) : List α := xs.mergeSort fun a b => decide (leS (f a) (f b))
def srtS (xs : List Str) : List Str := srtBy id xs
theorem leS_trans {a b c : Str} (h : leS a b) (g : leS b c) : leS a c := List.le_trans h g
theorem leS_total (a b : Str) : leS a b ∨ leS b a := List.le_total _ _
theorem leS_anti {a b : Str} (h : leS a b) (g : leS b a) : a = b := by
  have e := List.le_antisymm h g
  cases a with
  | mk x => cases b with
    | mk y => exact congrArg Str.mk (Array.toList_inj.mp e)
theorem leS_iff {a b : Str} : leS a b ↔ ltCps b.cps.toList a.cps.toList = false := by
  rw [ltCps_eq, decide_eq_false_iff_not]
  exact List.not_lt.symm
theorem srtBy_perm {α : Type} (f : α → Str) (xs : List α) : (srtBy f xs).Perm xs := List.mergeSort_perm _ _
theorem srtBy_rises {α : Type} (f : α → Str) (xs : List α) : (srtBy f xs).Pairwise fun a b => leS (f a) (f b) := by
  have h := List.pairwise_mergeSort (le := fun a b : α => decide (leS (f a) (f b))) (fun a b c h g => decide_eq_true (leS_trans (of_decide_eq_true h) (of_decide_eq_true g)))
    (fun a b => by rw [Bool.or_eq_true, decide_eq_true_eq, decide_eq_true_eq]; exact leS_total _ _) xs
  exact h.imp fun h => of_decide_eq_true h
theorem srtS_perm (xs : List Str) : (srtS xs).Perm xs := srtBy_perm _ _
theorem rising_pair : ∀ (p : Str) (l : List Str), risingS p l = true → (p :: l).Pairwise leS
  | p, [], _ => List.pairwise_singleton _ _
  | p, x :: r, h => by
    have h' : (!ltCps x.cps.toList p.cps.toList && risingS x r) = true := h
    rw [Bool.and_eq_true, Bool.not_eq_true'] at h'
    have ih := rising_pair x r h'.2
    have px : leS p x := leS_iff.mpr h'.1
    refine List.pairwise_cons.mpr ⟨fun y hy => ?_, ih⟩
    rcases List.mem_cons.mp hy with e | hy
    · rw [e]; exact px
    · exact leS_trans px ((List.pairwise_cons.mp ih).1 y hy)
theorem sorted_pair : ∀ (l : List Str), sortedS l = true → l.Pairwise leS
  | [], _ => .nil
  | x :: r, h => rising_pair x r h
theorem srtS_eq {ys xs : List Str} (hp : ys.Perm xs) (hs : sortedS ys = true) : ys = srtS xs :=
  List.Perm.eq_of_pairwise (fun _ _ _ _ a b => leS_anti a b) (sorted_pair ys hs) (srtBy_rises id xs) (hp.trans (srtS_perm xs).symm)
theorem srtS_congr {ys xs : List Str} (hp : ys.Perm xs) : srtS ys = srtS xs :=
  List.Perm.eq_of_pairwise (fun _ _ _ _ a b => leS_anti a b) (srtBy_rises id ys) (srtBy_rises id xs) ((srtS_perm ys).trans (hp.trans (srtS_perm xs).symm))
theorem srtS_len (xs : List Str) : (srtS xs).length = xs.length := (srtS_perm xs).length_eq
theorem srtS_mem {xs : List Str} {x : Str} : x ∈ srtS xs ↔ x ∈ xs := (srtS_perm xs).mem_iff
theorem srtS_nodup {xs : List Str} (h : xs.Nodup) : (srtS xs).Nodup := (srtS_perm xs).nodup_iff.mpr h
/-- different texts rise strictly -/
theorem lt_of_leS {a b : Str} (h : leS a b) (n : a ≠ b) : a.cps.toList < b.cps.toList := by
  rcases Decidable.em (a.cps.toList < b.cps.toList) with q | q
  · exact q
  · exact absurd (leS_anti h (List.not_lt.mp q)) n
theorem ltsD_of : ∀ {l : List Str}, l.Pairwise leS → l.Nodup → ltsD (l.map PyData.str) = true
  | [], _, _ => rfl
  | [_], _, _ => rfl
  | a :: b :: r, h, n => by
    have h1 := (List.pairwise_cons.mp h).1 b List.mem_cons_self
    have n1 : a ≠ b := fun e => (List.nodup_cons.mp n).1 (by rw [e]; exact List.mem_cons_self)
    show (decide (a.cps.toList < b.cps.toList) && ltsD ((b :: r).map PyData.str)) = true
    rw [decide_eq_true (lt_of_leS h1 n1), ltsD_of (List.pairwise_cons.mp h).2 (List.nodup_cons.mp n).2]
    rfl
theorem ltsD_srt {xs : List Str} (n : xs.Nodup) : ltsD ((srtS xs).map PyData.str) = true := ltsD_of (srtBy_rises id xs) (srtS_nodup n)
/-! ### the netting -/
def getI (m : AL) (k : Str) : Int := (getS m k).getD 0
def turnOf (made : Int) (apart : Bool) (x : Int) : Int := if (apart || decide (made < x)) = true then x - made else 0
def addS (t : Int) (a : AL) (p : Str × Int) : AL := putS a p.1 (getI a p.1 + p.2 * t)
def stepK (st : AL × AL) (k : Pack) : AL × AL :=
  let t := turnOf k.made k.apart (getI st.2 k.nm)
  (putS st.1 k.nm t, k.sheet.foldl (addS t) st.2)
def bNames (S : Shop) : List Str := pNames S ++ cNames S
def asks0 (S : Shop) (nums : AL) : AL := (srtS (bNames S) ++ kNames S).map fun n => (n, getI nums n)
def netP (S : Shop) (nums : AL) : AL × AL := (outerOrd S.packs.length S.packs).foldl stepK ([], asks0 S nums)
structure ShopOk (S : Shop) : Prop where
  sz : ShopSz S
  wf : Wf S.packs
  nd : (bNames S ++ kNames S).Nodup
  cl : ∀ k ∈ S.packs, ∀ p ∈ k.sheet, p.1 ∈ bNames S ++ kNames S
  ct : ∀ k ∈ S.packs, ∀ p ∈ k.sheet, 1 ≤ p.2 ∧ p.2 ≤ 10
theorem ShopOk.ndK {S : Shop} (h : ShopOk S) : (kNames S).Nodup := (List.nodup_append.mp h.nd).2.1
theorem ShopOk.ndB {S : Shop} (h : ShopOk S) : (bNames S).Nodup := (List.nodup_append.mp h.nd).1
theorem ShopOk.ndP {S : Shop} (h : ShopOk S) : (pNames S).Nodup := (List.nodup_append.mp h.ndB).1
def keysA (m : AL) : List Str := m.map (·.1)
theorem keysA_asks0 (S : Shop) (nums : AL) : keysA (asks0 S nums) = srtS (bNames S) ++ kNames S := by
  unfold keysA asks0
  rw [List.map_map]
  exact List.map_id _
theorem getS_some {m : AL} {k : Str} (h : k ∈ keysA m) : getS m k = some (getI m k) := by
  have e := getS_mem m k
  rw [decide_eq_true (show k ∈ m.map (·.1) from h)] at e
  unfold getI
  cases q : getS m k with
  | none => rw [q] at e; cases e
  | some v => rfl
theorem keysA_put {m : AL} {k : Str} {v : Int} (h : k ∈ keysA m) : keysA (putS m k v) = keysA m := putS_keys v (by rw [getS_some h]; rfl)
theorem getI_put {m : AL} {k j : Str} {v : Int} : getI (putS m k v) j = if j = k then v else getI m j := by
  unfold getI
  rw [getS_put]
  split <;> rfl
theorem keysA_add {m : AL} {t : Int} {p : Str × Int} (h : p.1 ∈ keysA m) : keysA (addS t m p) = keysA m := keysA_put h
theorem keysA_adds {t : Int} : ∀ {l : List (Str × Int)} {m : AL}, (∀ p ∈ l, p.1 ∈ keysA m) → keysA (l.foldl (addS t) m) = keysA m
  | [], _, _ => rfl
  | p :: l, m, h => by
    have e := keysA_add (t := t) (h p List.mem_cons_self)
    rw [List.foldl_cons, keysA_adds fun q hq => by rw [e]; exact h q (List.mem_cons_of_mem _ hq), e]
theorem outerOrd_sub : ∀ (n : Nat) (R : List Pack), ∀ k ∈ outerOrd n R, k ∈ R
  | 0, _, _, h => by cases h
  | n + 1, R, k, h => by
    unfold outerOrd at h
    split at h
    · cases h
    · rcases List.mem_append.mp h with h | h
      · exact (List.mem_filter.mp h).1
      · exact (List.mem_filter.mp (outerOrd_sub n _ k h)).1
theorem mem_keysA {m : AL} {n : Str} : n ∈ keysA m ↔ (getS m n).isSome = true := by
  rw [getS_mem, decide_eq_true_eq]
  exact Iff.rfl
theorem mem_put {m : AL} {k n : Str} {v : Int} : n ∈ keysA (putS m k v) ↔ n = k ∨ n ∈ keysA m := by
  rw [mem_keysA, mem_keysA, getS_put]
  by_cases e : n = k
  · rw [if_pos e]
    exact ⟨fun _ => .inl e, fun _ => rfl⟩
  · rw [if_neg e]
    exact ⟨.inr, fun h => h.resolve_left e⟩
theorem fold_keys2 : ∀ {l : List Pack} {st : AL × AL}, (∀ k ∈ l, ∀ p ∈ k.sheet, p.1 ∈ keysA st.2) → keysA (l.foldl stepK st).2 = keysA st.2
  | [], _, _ => rfl
  | k :: l, st, h => by
    have e : keysA (stepK st k).2 = keysA st.2 := keysA_adds fun p hp => h k List.mem_cons_self p hp
    rw [List.foldl_cons, fold_keys2 fun k' hk p hp => by rw [e]; exact h k' (List.mem_cons_of_mem _ hk) p hp, e]
theorem fold_keys1 : ∀ {l : List Pack} {st : AL × AL} {n : Str}, n ∈ keysA st.1 ∨ n ∈ l.map (fun k => k.nm) → n ∈ keysA (l.foldl stepK st).1
  | [], _, _, h => h.elim id fun z => by cases z
  | k :: l, st, n, h => by
    rw [List.foldl_cons]
    refine fold_keys1 ?_
    rcases h with h | h
    · exact .inl (mem_put.mpr (.inr h))
    · rcases List.mem_cons.mp h with h | h
      · exact .inl (mem_put.mpr (.inl h))
      · exact .inr h
theorem rest_lt {R : List Pack} {k : Pack} (hk : k ∈ R) (hf : k.nm ∉ innerN R) : (R.filter fun k => !freeB R k).length < R.length := by
  refine Nat.lt_of_le_of_ne (List.length_filter_le ..) fun z => ?_
  have q := List.length_filter_eq_length_iff.mp z k hk
  have q2 : freeB R k = true := by
    show (!decide (k.nm ∈ innerN R)) = true
    rw [decide_eq_false hf]
    rfl
  rw [q2] at q
  cases q
theorem outerOrd_mem {S : List Pack} (wf : Wf S) : ∀ (n : Nat) (R : List Pack), R.length ≤ n → (∀ k ∈ R, k ∈ S) → ∀ k ∈ R, k ∈ outerOrd n R
  | 0, R, hn, _, k, hk => by
    rw [List.eq_nil_of_length_eq_zero (Nat.le_zero.mp hn)] at hk
    cases hk
  | n + 1, R, hn, hs, k, hk => by
    have ne : R ≠ [] := fun z => by rw [z] at hk; cases hk
    obtain ⟨k0, m0, f0⟩ := wf R ne hs
    have hl := rest_lt m0 f0
    unfold outerOrd
    rw [if_neg ne]
    cases e : freeB R k with
    | true => exact List.mem_append_left _ (List.mem_filter.mpr ⟨hk, e⟩)
    | false => exact List.mem_append_right _ (outerOrd_mem wf n _ (by omega) (fun k' h' => hs k' (List.mem_filter.mp h').1) k (List.mem_filter.mpr ⟨hk, by rw [e]; rfl⟩))
theorem netP_keys2 {S : Shop} (ok : ShopOk S) (nums : AL) : keysA (netP S nums).2 = srtS (bNames S) ++ kNames S := by
  unfold netP
  rw [fold_keys2]
  · exact keysA_asks0 S nums
  · intro k hk p hp
    show p.1 ∈ keysA (asks0 S nums)
    rw [keysA_asks0]
    rcases List.mem_append.mp (ok.cl k (outerOrd_sub _ _ _ hk) p hp) with z | z
    · exact List.mem_append_left _ (srtS_mem.mpr z)
    · exact List.mem_append_right _ z
theorem netP_keys1 {S : Shop} (ok : ShopOk S) (nums : AL) {k : Pack} (hk : k ∈ S.packs) : k.nm ∈ keysA (netP S nums).1 :=
  fold_keys1 (.inr (List.mem_map_of_mem (outerOrd_mem ok.wf _ _ (Nat.le_refl _) (fun _ h => h) k hk)))
/-- what the netting tells -/
def toldD (S : Shop) (st : AL × AL) : PyData := .tuple [.tuple (S.packs.map fun k => encP (k.nm, getI st.1 k.nm)), .tuple ((srtS (bNames S)).map fun n => encP (n, getI st.2 n)), .tuple (S.parts.map fun p => encP (p.1, p.2 - getI st.2 p.1))]
theorem outerOrd_len : ∀ (n : Nat) (R : List Pack), (outerOrd n R).length ≤ R.length
  | 0, _ => Nat.zero_le _
  | n + 1, R => by
    unfold outerOrd
    split
    · exact Nat.zero_le _
    · have h1 := outerOrd_len n (R.filter fun k => !freeB R k)
      have h2 := flt_len (p := freeB R) R
      rw [List.length_append]
      omega
end KL

/-! ## x = {k: v for ..} -/
namespace KL
open PySem PySem.Spec PyProof.Rows L2
section
variable {X : Cx} {kx vx tg iter : Expr} {ifs : List Expr} {sc : Scope} {own : List (Str × Nat)} {wi : TI} {g : TG} {tt : TT} {tk tv : TE} {i l : Nat} {y : Str} {py p0 p1 : Pos}
theorem sw_dict (e1 : X.env.scope.kind = .function) (e2 : X.env.scope.names.lookup y = some .local) (e3 : (py.line == p0.line) = true) (e4 : (sc.names.any fun (n, k) => n == y && (k == .local || k == .cell)) = false) :
    swapsWith (.DictComp kx vx [⟨tg, iter, ifs, 0⟩] sc p0) (some (.Name y py)) l X.env = pure true := by
  have a1 : X.env.kindOf y = some .local := e2
  have a2 : X.env.blockKind = .function := by unfold Env.blockKind; rw [e1]; rfl
  unfold swapsWith
  simp only [a1, a2, e3, e4, Expr.pos]
  rfl
theorem ps_setDc (c0 : X.calm = true) (nd : X.N.Nodup) (hy : X.N[i]? = some y) (hl : X.env.scope.names.lookup y = some .local) (hw : swapsWith (.DictComp kx vx [⟨tg, iter, ifs, 0⟩] sc p0) (some (.Name y py)) p1.line X.env = pure true)
    (hi : PI X tg iter wi) (ok : BlkOk X.N X.env.scope sc own)
    (a1 : ∀ (s : Shared) (H : Hp) (C : Addr) (cl : List (Str × Addr)) (fp : List Addr), PG (X.blk s H sc (compEnvC sc cl C X.env) fp) tg g)
    (a2 : ∀ (s : Shared) (H : Hp) (C : Addr) (cl : List (Str × Addr)) (fp : List Addr), PTs (X.blk s H sc (compEnvC sc cl C X.env) fp) ifs tt)
    (a3 : ∀ (s : Shared) (H : Hp) (C : Addr) (cl : List (Str × Addr)) (fp : List Addr), PE (X.blk s H sc (compEnvC sc cl C X.env) fp) kx tk)
    (a4 : ∀ (s : Shared) (H : Hp) (C : Addr) (cl : List (Str × Addr)) (fp : List Addr), PE (X.blk s H sc (compEnvC sc cl C X.env) fp) vx tv) (hs : ∀ x, foldedSetIterable iter X.env x = pure x := by intro _; rfl) :
    PS X (.Assign [.Name y py] (.DictComp kx vx [⟨tg, iter, ifs, 0⟩] sc p0) p1) (tAsg (tDc wi g tt tk tv (own.map (·.2))) (gName i)) := by
  refine ⟨fun pins s0 σ0 H0 Dn J h0 => ?_⟩
  rw [exec_Assign_Name_used _ _ _ _ hw]
  refine wpAny_bind (wpAny_standAt (wpAny_bind ?_))
  have h1 : tDc wi g tt tk tv (own.map (·.2)) σ0 H0 (fun x H1 => gName i x σ0 H1 Dn.nx) := h0
  have main := dc_core (pos := p0) (use := some (assign (.Name y py) X.env)) (pos' := firstIterPos [⟨tg, iter, ifs, 0⟩] p0) (Qf := fun _ z => SP X pins Dn .next z) c0 nd J hi ok a1 a2 a3 a4 hs h1 fun L C t m G J2 q hn fo => by
    show wpAny _ _ (assign (.Name y py) X.env (.ref L)) _ _ _
    refine wpAny_assign_Name (store_ok2 (v := V.ref L) J2 nd hy (.inl hl) rfl (fun t2 J3 ⟨a, sb, ha⟩ => ?_) (.inr hl))
    obtain ⟨g0, g1, g2, g3, g4, g5⟩ := fo
    have ne : C ≠ a := ha.elim (fun z => by rw [z]; exact g1) fun z e => g4 y a z e.symm
    exact ⟨m, hn.sameBut sb ne, fun u sb3 => ⟨_, G, J3.turned (t' := t2.toks) (fun b o hb e => (sb3.2 b hb).trans e) g0 g1 g3 g4 g5, q⟩⟩
  show wpAny _ X.A (do let _ ← comprehension (.DictComp kx vx [⟨tg, iter, ifs, 0⟩] sc p0) sc X.env (firstIterPos [⟨tg, iter, ifs, 0⟩] p0) newDict false (eval iter X.env) (some (assign (.Name y py) X.env))) _ _ s0
  exact wpAny_bind (thn main fun _ z hz => wpAny_pure (wpAny_pure hz))
end
end KL

/-! ## dicts that change, loops over data -/
namespace KL
open PySem PySem.Spec PyProof.Rows L2
/-- all but the dicts stays -/
def KD (H H' : Hp) : Prop := ∀ b u, H b = some u → (∀ kvs, u ≠ .dK kvs) → H' b = some u
theorem KD.refl (H : Hp) : KD H H := fun _ _ h _ => h
theorem KD.trans {H H1 H2 : Hp} (a : KD H H1) (b : KD H1 H2) : KD H H2 := fun c u h n => b c u (a c u h n) n
theorem Same.kd {H H' : Hp} (e : Same H H') : KD H H' := fun b u h _ => e b u h
theorem KD.upd {H : Hp} {a : Addr} {kvs : List (Key × V)} {u : HO} (h : H a = some (.dK kvs)) : KD H (L2.upd H a u) := fun b w e n => by
  rw [upd_ne (fun z => by rw [z, h] at e; exact n kvs (Option.some.inj e).symm)]
  exact e
theorem KD.kt {H H' : Hp} (e : KD H H') : KT H H' := fun b xs h => e b _ h fun _ z => by cases z
mutual
theorem DD.kd {H H' : Hp} (e : KD H H') : ∀ (d : PyData) (v : V), DD H d v → DD H' d v
  | .none, _, h => by simp only [DD] at h ⊢; exact h
  | .bool _, _, h => by simp only [DD] at h ⊢; exact h
  | .int _, _, h => by simp only [DD] at h ⊢; exact h
  | .str _, _, h => by simp only [DD] at h ⊢; exact h
  | .list ds, v, h => by
    obtain ⟨a, xs, h1, h2, h3⟩ := h.lst
    rw [h1]
    exact dd_lst (e _ _ h2 fun _ z => by cases z) (DDs.kd e ds xs h3)
  | .tuple ds, v, h => by
    obtain ⟨a, xs, h1, h2, h3⟩ := h.tup
    rw [h1]
    exact dd_tup (e _ _ h2 fun _ z => by cases z) (DDs.kd e ds xs h3)
  | .dict _, _, h => by simp only [DD] at h
theorem DDs.kd {H H' : Hp} (e : KD H H') : ∀ (ds : List PyData) (xs : List V), DDs H ds xs → DDs H' ds xs
  | [], _, h => by simp only [DDs] at h ⊢; exact h
  | d :: ds, xs, h => by
    simp only [DDs] at h ⊢
    obtain ⟨x, r, h1, h2, h3⟩ := h
    exact ⟨x, r, h1, DD.kd e d x h2, DDs.kd e ds r h3⟩
end
theorem KVD.kd {H H' : Hp} (e : KD H H') : ∀ {ps : List (Str × PyData)} {kvs : List (Key × V)}, KVD H ps kvs → KVD H' ps kvs
  | [], _, h => h
  | p :: ps, kvs, h => by
    obtain ⟨v, r, h1, h2, h3⟩ := h
    exact ⟨v, r, h1, DD.kd e _ _ h2, KVD.kd e h3⟩
section
variable {K : PySem.W.Frag} {σ : L2.St} {H : Hp} {ta te ty tx tv tl tk : TE} {aA : TA} {D : Ends} {i : Nat} {a : Addr} {m : AL} {k : Str} {v : Int} {ds es : List PyData} {g : TG} {vs : List Nat}
theorem ed_dgetS (hv : σ[i]? = some (some (.ref a))) (ha : H a = some (.dK (SI m))) (hk : ED ty σ H (.str k)) (hg : getS m k = some v) : ED (tDGet (tVar i) ty) σ H (.int v) := fun H1 s1 Q q =>
  ⟨.ref a, hv, hk H1 s1 _ fun w H2 s2 h2 => ⟨a, .int v, rfl, by
    obtain rfl := h2.str_eq
    have g := DGet.k (k := (Sum.inr k : Key)) ((s1.trans s2) _ _ ha)
    rw [valV_SI, hg] at g
    exact g, q _ H2 s2 dd_int⟩⟩
theorem ed_dget2S {d : Int} (hv : σ[i]? = some (some (.ref a))) (ha : H a = some (.dK (SI m))) (hk : ED ty σ H (.str k)) (hx : ED tx σ H (.int d)) : ED (tDGet2 (tVar i) ty tx) σ H (.int ((getS m k).getD d)) := fun H1 s1 Q q =>
  ⟨.ref a, hv, a, rfl, .inl ⟨_, .inl (s1 _ _ ha)⟩, hk H1 s1 _ fun w H2 s2 h2 => hx H2 (s1.trans s2) _ fun z H3 s3 h3 => by
    obtain rfl := h2.str_eq
    obtain rfl := h3.int_eq
    have g := DGet.k (k := (Sum.inr k : Key)) (((s1.trans s2).trans s3) _ _ ha)
    rw [valV_SI] at g
    refine ⟨_, g, ?_⟩
    cases e : getS m k with
    | none => rw [e] at q; exact q _ H3 (s2.trans s3) dd_int
    | some y => rw [e] at q; exact q _ H3 (s2.trans s3) dd_int⟩
theorem ed_dgetV {kvs : List (Key × V)} {ps : List (Str × PyData)} {p : Str × PyData} (hv : σ[i]? = some (some (.ref a))) (ha : H a = some (.dK kvs)) (hkv : KVD H ps kvs) (nd : (ps.map (·.1)).Nodup) (hm : p ∈ ps) (hk : ED ty σ H (.str p.1)) : ED (tDGet (tVar i) ty) σ H p.2 := fun H1 s1 Q q =>
  ⟨.ref a, hv, hk H1 s1 _ fun w H2 s2 h2 => by
    obtain rfl := h2.str_eq
    obtain ⟨u, e1, e2⟩ := hkv.get nd hm
    have g := DGet.k (k := (Sum.inr p.1 : Key)) ((s1.trans s2) _ _ ha)
    rw [e1] at g
    exact ⟨a, u, rfl, g, q _ H2 s2 (DD.same (s1.trans s2) _ _ e2)⟩⟩
theorem s_dputS (hv : σ[i]? = some (some (.ref a))) (hval : ED tv σ H (.int v)) (hk : ED ty σ H (.str k)) (ha : H a = some (.dK (SI m))) (hl : m.length ≤ 10000)
    (kk : ∀ H1, Same H H1 → D.nx σ (upd H1 a (.dK (SI (putS m k v))))) : sDPut (tVar i) ty tv D σ H :=
  hval H (L2.Same.refl H) _ fun w H1 s1 h1 => ⟨.ref a, hv, hk H1 s1 _ fun z H2 s2 h2 => by
    obtain rfl := h2.str_eq
    obtain rfl := h1.int_eq
    refine ⟨a, _, rfl, .inl ⟨SI m, Sum.inr k, (s1.trans s2) _ _ ha, rfl, by rw [SI_len, sizeLine_eq]; omega, rfl⟩, ?_⟩
    rw [putK_SI]
    exact kk H2 (s1.trans s2)⟩
theorem ed_srtS {xs : List Str} (ha : ED ta σ H (.list (xs.map PyData.str))) (nd : xs.Nodup) (hl : xs.length < 60) : ED (tSrtS K ta) σ H (.list ((srtS xs).map PyData.str)) := fun H1 m Q q =>
  ha H1 m _ fun w H2 m2 h2 => by
    obtain ⟨l, ys, rfl, hx, hr⟩ := h2.lst
    obtain rfl := hr.strs_eq
    refine ⟨l, xs, rfl, hx, nd, hl, fun ys p hp hs hn => q _ _ (m2.trans (Same.new hn)) (dd_lst upd_same ?_)⟩
    rw [srtS_eq hp hs]
    exact dds_strs _
theorem ed_srtS1 {xs : List Str} (ha : ED ta σ H (.list (xs.map PyData.str))) (hl : xs.length < 60) : ED (tCB (rSortedS K) (tCons ta tNil)) σ H (.list ((srtS xs).map PyData.str)) := fun H1 m Q q =>
  ha H1 m _ fun w H2 m2 h2 => by
    obtain ⟨l, ys, rfl, hx, hr⟩ := h2.lst
    obtain rfl := hr.strs_eq
    refine ⟨l, xs, rfl, .inl (.inl hx), by omega, fun ys p hp hs hn => q _ _ (m2.trans (Same.new hn)) (dd_lst upd_same ?_)⟩
    rw [srtS_eq hp hs]
    exact dds_strs _
theorem ea_star (hs : ED te σ H (.list ds)) (r : EA aA σ H es) : EA (StX.tStar K te aA) σ H (ds ++ es) := fun H1 m Q q =>
  hs H1 m _ fun w H2 m2 h2 => by
    obtain ⟨l, ys, rfl, hx, hr⟩ := h2.lst
    exact ⟨l, ys, rfl, .inr (.inl (.inl hx)), r H2 (m.trans m2) _ fun zs H3 m3 h3 => q _ H3 (m2.trans m3) ((DDs.same m3 _ _ hr).append h3)⟩
theorem ea_starD {kvs : List (Key × V)} {ps : List (Str × PyData)} (hv : σ[i]? = some (some (.ref a))) (ha : H a = some (.dK kvs)) (hkv : KVD H ps kvs) (r : EA aA σ H es) : EA (tStarD (tVar i) aA) σ H (ps.map (fun p => PyData.str p.1) ++ es) := fun H1 m Q q =>
  ⟨.ref a, hv, a, kvs, rfl, .inl (m _ _ ha), r H1 m _ fun zs H3 m3 h3 => q _ H3 m3 (DDs.append (by
    have e : (kvs.map fun kv => kV kv.1) = (ps.map fun p => p.1).map V.str := by
      have e1 := congrArg (List.map kV) hkv.keys
      rw [List.map_map, List.map_map] at e1
      rw [List.map_map]
      exact e1
    rw [e]
    have := dds_strs (H := H3) (ps.map fun p => p.1)
    rw [List.map_map] at this
    exact this) h3)⟩
theorem dd_dcL {f : PyData → Str × PyData} (hs : ED tl σ H (.list ds)) (hl : ds.length ≤ 10000) (hnd : (ds.map fun d => (f d).1).Nodup) (hlf : ∀ d ∈ ds, lf (f d).2 = true)
    (turn : ∀ d ∈ ds, TurnD g tk tv vs σ H d (f d)) : DicD (tDc (iList K tl) g tYes tk tv vs) σ H (ds.map f) := fun H1 m Q q =>
  hs H1 m _ fun v H2 m2 h2 => by
    obtain ⟨a, xs, rfl, hx, hr⟩ := h2.lst
    refine ⟨a, rfl, ⟨xs, .inl (.inl hx)⟩, fun D hD => ?_⟩
    have hlen := hr.length
    have at_ : ∀ (i : Nat) (d : PyData), ds[i]? = some d → ((ds[i]?).map f).getD (Str.empty, .none) = f d := fun i d h => by rw [h]; rfl
    refine dcD (walk_list (xs := xs)) (fun i => ((ds[i]?).map f).getD (Str.empty, .none)) (by omega) ?_ (fun i hi => ?_) (fun H' s => .inl (.inl (s _ _ hx))) (fun i x H1 H1' hi s1 y Kp k => ?_) hD fun H' kvs s1 hp hd => ?_
    · rw [hlen]
      have e := map_range f (Str.empty, PyData.none) ds
      have e2 := congrArg (List.map (·.1)) e
      rw [List.map_map, List.map_map] at e2
      have e3 : ((List.range ds.length).map fun i => (((ds[i]?).map f).getD (Str.empty, PyData.none)).1) = ds.map fun d => (f d).1 := e2
      rw [e3]
      exact hnd
    · have hi' : i < ds.length := by omega
      rw [at_ i _ (List.getElem?_eq_getElem hi')]
      exact hlf _ (List.getElem_mem hi')
    · obtain ⟨rfl, hx'⟩ := y
      obtain ⟨d, hd, hdx⟩ := hr.back hx'
      simp only [at_ i d hd] at k
      exact turn d (List.mem_of_getElem? hd) x _ ((m.trans m2).trans s1) (DD.same s1 _ _ hdx) Kp k
    · rw [hlen, map_range] at hd
      exact q D H' kvs (m2.trans s1) (L2.Same.free m2 hD) hp hd
theorem s_setDic {ps : List (Str × PyData)} (h : DicD te σ H ps) (k : ∀ p H1 kvs, Same H H1 → H p = none → H1 p = some (.dK kvs) → KVD H1 ps kvs → D.nx (σ.set i (some (.ref p))) H1) : tAsg te (gName i) D σ H := h H (L2.Same.refl H) _ k
theorem dic_call {R : List PyData → List (Str × PyData) → Prop} {E : XK} {ps : List (Str × PyData)} (h : EA aA σ H ds) (r : R ds ps) : DicD (tCall (spK R) [] E aA) σ H ps := fun H1 m Q q =>
  h H1 m _ fun vs H2 m2 h2 => by
    rw [List.append_nil]
    exact ⟨ds, ps, r, h2, fun p H' kvs s hn hp hk => q p H' kvs (m2.trans s) (L2.Same.free m2 hn) hp hk⟩
theorem dic_new : DicD tDNewK σ H [] := fun H1 m Q q p hp => q p _ [] (Same.new hp) hp upd_same rfl
/-- a for over a list of data; the dicts may change -/
theorem s_forL {tb : TS} (hs : ED te σ H (.list ds)) (Pv : Nat → L2.St → Hp → Prop) (h0 : ∀ H1, Same H H1 → Pv 0 σ H1)
    (step : ∀ i d x σ' H', ds[i]? = some d → DD H' d x → Pv i σ' H' → ∀ N : L2.St → Hp → Prop, (∀ s h, KD H' h → Pv (i + 1) s h → N s h) → g x σ' H' fun σ2 H2 => tb { D with nx := N, ct := N, bk := D.nx } σ2 H2)
    (hd : ∀ σ' H', Pv ds.length σ' H' → D.nx σ' H') : tFor (iList K te) g tb D σ H :=
  hs H (L2.Same.refl H) _ fun v H2 m2 h2 => by
    obtain ⟨a, xs, rfl, hx, hr⟩ := h2.lst
    refine ⟨a, rfl, ⟨xs, .inl (.inl hx)⟩, ?_⟩
    have hlen := hr.length
    refine for_it (walk_list (xs := xs)) (fun i s h => KD H2 h ∧ Pv i s h) ⟨KD.refl _, h0 H2 m2⟩ (fun i s h _ p => .inl (.inl (p.1 _ _ hx fun _ z => by cases z))) (fun i x s h h' hi p y => ?_) fun s h p => hd s h (by rw [← hlen]; exact p.2)
    obtain ⟨rfl, hx'⟩ := y
    obtain ⟨d, hd', hdx⟩ := hr.back hx'
    exact step i d x s _ hd' (DD.kd p.1 _ _ hdx) p.2 _ fun s2 h2 k q => ⟨p.1.trans k, q⟩
theorem s_forT {tb : TS} (hs : ED te σ H (.tuple ds)) (Pv : Nat → L2.St → Hp → Prop) (h0 : ∀ H1, Same H H1 → Pv 0 σ H1)
    (step : ∀ i d x σ' H', ds[i]? = some d → DD H' d x → Pv i σ' H' → ∀ N : L2.St → Hp → Prop, (∀ s h, KD H' h → Pv (i + 1) s h → N s h) → g x σ' H' fun σ2 H2 => tb { D with nx := N, ct := N, bk := D.nx } σ2 H2)
    (hd : ∀ σ' H', Pv ds.length σ' H' → D.nx σ' H') : tFor (iTup K te) g tb D σ H :=
  hs H (L2.Same.refl H) _ fun v H2 m2 h2 => by
    obtain ⟨a, xs, rfl, hx, hr⟩ := h2.tup
    refine ⟨a, rfl, ⟨xs, .inl (.inl hx)⟩, ?_⟩
    have hlen := hr.length
    refine for_it (walk_tup (xs := xs)) (fun i s h => KD H2 h ∧ Pv i s h) ⟨KD.refl _, h0 H2 m2⟩ (fun i s h _ p => .inl (.inl (p.1 _ _ hx fun _ z => by cases z))) (fun i x s h h' hi p y => ?_) fun s h p => hd s h (by rw [← hlen]; exact p.2)
    obtain ⟨rfl, hx'⟩ := y
    obtain ⟨d, hd', hdx⟩ := hr.back hx'
    exact step i d x s _ hd' (DD.kd p.1 _ _ hdx) p.2 _ fun s2 h2 k q => ⟨p.1.trans k, q⟩
/-- x, y = a pair; w, .. = four -/
theorem g_pair {i j : Nat} {d1 d2 : PyData} {x : V} {Q : L2.St → Hp → Prop} (h : DD H (.tuple [d1, d2]) x) (k : ∀ u v, DD H d1 u → DD H d2 v → Q ((σ.set i (some u)).set j (some v)) H) : gTup K 2 (gCons (gName i) (gCons (gName j) gNil)) x σ H Q := by
  obtain ⟨a, xs, rfl, ha, hr⟩ := h.tup
  obtain ⟨x1, x2, rfl, h1, h2⟩ := hr.two
  exact ⟨a, _, rfl, .inl (.inl ha), rfl, x1, _, rfl, x2, _, rfl, rfl, k x1 x2 h1 h2⟩
theorem g_four {i j l n : Nat} {d1 d2 d3 d4 : PyData} {x : V} {Q : L2.St → Hp → Prop} (h : DD H (.tuple [d1, d2, d3, d4]) x) (k : ∀ u v y z, DD H d1 u → DD H d2 v → DD H d3 y → DD H d4 z → Q ((((σ.set i (some u)).set j (some v)).set l (some y)).set n (some z)) H) :
    gTup K 4 (gCons (gName i) (gCons (gName j) (gCons (gName l) (gCons (gName n) gNil)))) x σ H Q := by
  obtain ⟨a, xs, rfl, ha, hr⟩ := h.tup
  obtain ⟨x1, x2, x3, x4, rfl, h1, h2, h3, h4⟩ := hr.four
  exact ⟨a, _, rfl, .inl (.inl ha), rfl, x1, _, rfl, x2, _, rfl, x3, _, rfl, x4, _, rfl, rfl, k x1 x2 x3 x4 h1 h2 h3 h4⟩
theorem s_asgD {d : PyData} (h : ED te σ H d) (k : ∀ v H1, Same H H1 → DD H1 d v → g v σ H1 D.nx) : tAsg te g D σ H := h H (L2.Same.refl H) _ k
end
end KL

/-! ## the netting's defs -/
namespace KL
open PySem PySem.Spec PyProof.Rows L2
theorem scnames_at_bottom : FnScope ["shop", "name", "stock", "options"] ["shop"] (defScope s_names_at_bottom) := ⟨rfl, rfl, rfl, by decide +kernel, rfl, by decide +kernel, by decide +kernel⟩
theorem scturns_and_asks : FnScope ["shop", "numbers", "packs", "name", "asks", "turns", "own", "made", "apart", "sheet", "turn", "piece", "count"] ["shop", "numbers"] (defScope s_turns_and_asks) := ⟨rfl, rfl, rfl, by decide +kernel, rfl, by decide +kernel, by decide +kernel⟩
theorem scleft_by : FnScope ["shop", "asks", "name", "stock"] ["shop", "asks"] (defScope s_left_by) := ⟨rfl, rfl, rfl, by decide +kernel, rfl, by decide +kernel, by decide +kernel⟩
theorem scnet_told : FnScope ["shop", "numbers", "turns", "asks", "left", "told", "asked", "pack", "name", "stock"] ["shop", "numbers"] (defScope s_net_told) := ⟨rfl, rfl, rfl, by decide +kernel, rfl, by decide +kernel, by decide +kernel⟩
section
variable {P : Program} {w : World} {K : PySem.W.Frag} {mg : Str → Option Value} {base : Heap}
theorem d_names_at_bottom (T : Txt K mg) : Def P w K mg base CX0 1 "names_at_bottom" (spD fun ds d => ∃ S, ds = [encS S] ∧ ShopSz S ∧ (bNames S).Nodup ∧ d = .list ((srtS (bNames S)).map PyData.str)) := by
  refine mk_pure T.a_names_at_bottom scnames_at_bottom (fun _ _ _ _ _ _ us hl => match us, hl with | [_], _ => rfl) (fun ds d ⟨x, e, _⟩ => by rw [e]; rfl) fun f cdv A outer s H vs ds d E hr r hv => ?_
  obtain ⟨S, rfl, sz, nd, rfl⟩ := r
  obtain ⟨v, rfl, hx⟩ := hv.one
  refine ⟨_, (pss_one (ps_ret (pe_srtS rfl (by rfl) T.n_sorted (by rfl) T.n_set (pe_op op_cat (pe_lc rfl scnames_at_bottom.nd (pi_tup (pe_ix ix_tup (pv 0) pe_int (fun _ _ => rfl))) (blkOk_by (own := [("name", 1), ("stock", 2)]) (N := ["shop", "name", "stock", "options"]) (sc := defScope s_names_at_bottom) (by decide +kernel)) (fun _ _ _ _ _ => (pg_tup (n := 2) rfl (pgs_cons (pg_name (i := 1) scnames_at_bottom.nd rfl (Or.inl rfl) (hf := Or.inr rfl)) (pgs_cons (pg_name (i := 2) scnames_at_bottom.nd rfl (Or.inl rfl) (hf := Or.inr rfl)) pgs_nil)) : PG _ _ (gTup K 2 _))) (fun _ _ _ _ _ => pts_nil) (fun _ _ _ _ _ => (pv 1))) (pe_lc rfl scnames_at_bottom.nd (pi_tup (pe_ix ix_tup (pv 0) pe_int (fun _ _ => rfl))) (blkOk_by (own := [("name", 1), ("options", 3)]) (N := ["shop", "name", "stock", "options"]) (sc := defScope s_names_at_bottom) (by decide +kernel)) (fun _ _ _ _ _ => (pg_tup (n := 2) rfl (pgs_cons (pg_name (i := 1) scnames_at_bottom.nd rfl (Or.inl rfl) (hf := Or.inr rfl)) (pgs_cons (pg_name (i := 3) scnames_at_bottom.nd rfl (Or.inl rfl) (hf := Or.inr rfl)) pgs_nil)) : PG _ _ (gTup K 2 _))) (fun _ _ _ _ _ => pts_nil) (fun _ _ _ _ _ => (pv 1))))))), fun Q k => s_retD (ed_srtS (ED.is (ed_cat (ds := (pNames S).map PyData.str) (es := (cNames S).map PyData.str) (ED.is (ed_lcT (f := fun d => some (fstD d)) (ed_ixT (j := 0) (ed_var rfl hx) rfl) ?_ (fun d hd e he => ?_) fun d hd => ?_) ?_) (ED.is (ed_lcT (f := fun d => some (fstD d)) (ed_ixT (j := 1) (ed_var rfl hx) rfl) ?_ (fun d hd e he => ?_) fun d hd => ?_) ?_) ?_) ?_) nd ?_) k⟩
  · rw [List.length_map]; have := sz.parts; omega
  · obtain ⟨p, _, rfl⟩ := List.mem_map.mp hd
    cases he; rfl
  · obtain ⟨p, _, rfl⟩ := List.mem_map.mp hd
    exact turn_p (fun _ _ => rfl) fun x y H1 s1 hx hy => ed_var rfl hx
  · rw [map_some fun _ _ => rfl, fst_encP]; rfl
  · rw [List.length_map]; have := sz.choices; omega
  · obtain ⟨p, _, rfl⟩ := List.mem_map.mp hd
    cases he; rfl
  · obtain ⟨p, _, rfl⟩ := List.mem_map.mp hd
    exact turn_p (fun _ _ => rfl) fun x y H1 s1 hx hy => ed_var rfl hx
  · rw [map_some fun _ _ => rfl, fst_encC]; rfl
  · unfold pNames cNames
    rw [List.length_map, List.length_map, List.length_map, List.length_map]
    have := sz.parts
    have := sz.choices
    omega
  · unfold bNames
    rw [List.map_append]
  · unfold bNames pNames cNames
    rw [List.length_append, List.length_map, List.length_map]
    have := sz.parts
    have := sz.choices
    omega
theorem DicD.is {te : TE} {σ : L2.St} {H : Hp} {ps qs : List (Str × PyData)} (h : DicD te σ H ps) (e : ps = qs) : DicD te σ H qs := e ▸ h
theorem sq {t u : TS} {D : Ends} {σ : L2.St} {H : Hp} (h : t { D with nx := u D } σ H) : tSeq t u D σ H := h
/-- (turns, asks) of a shop and a row's numbers -/
def spTA : Sp := fun vs H Q _ => ∃ S nums vS pn, vs = [vS, .ref pn] ∧ ShopOk S ∧ DD H (encS S) vS ∧ H pn = some (.dK (SI nums)) ∧
  ∀ t pt pa H', Same H H' → H' t = some (.tup [.ref pt, .ref pa]) → H' pt = some (.dK (SI (netP S nums).1)) → H' pa = some (.dK (SI (netP S nums).2)) → Q (.ref t) H'
theorem getS_at : ∀ {m : AL} {k : Str} {v : Int}, (keysA m).Nodup → (k, v) ∈ m → getS m k = some v
  | [], _, _, _, h => by cases h
  | q :: m, k, v, nd, h => by
    unfold getS
    rw [List.find?_cons]
    have nd' := List.nodup_cons.mp (show (q.1 :: keysA m).Nodup from nd)
    rcases List.mem_cons.mp h with e | h
    · rw [← e, decide_eq_true (rfl : (k, v).1 = k)]
      rfl
    · have ne : ¬ q.1 = k := fun z => nd'.1 (by rw [z]; exact List.mem_map.mpr ⟨(k, v), h, rfl⟩)
      rw [decide_eq_false ne]
      exact getS_at nd'.2 h
theorem turnOf_is {H : Hp} {σ : L2.St} {t : TT} {ta : TE} {made x : Int} {apart : Bool} (h : ET t σ H (apart || decide (made < x))) (h1 : ED ta σ H (.int (x - made))) : ED (tIf t ta (tC (.int 0))) σ H (.int (turnOf made apart x)) := by
  refine ed_if h (fun e => ?_) fun e => ?_
  · unfold turnOf
    rw [if_pos e]
    exact h1
  · unfold turnOf
    rw [if_neg (by rw [e]; exact Bool.false_ne_true)]
    exact ed_int
theorem d_turns_and_asks (T : Txt K mg) : Def P w K mg base CX0 2 "turns_and_asks" spTA := by
  refine mk_def T.a_turns_and_asks scturns_and_asks (fun _ _ _ _ _ _ us hl => match us, hl with | [_, _], _ => rfl) (fun vs H Q E ⟨_, _, _, _, e, _⟩ => by rw [e]; rfl) fun f cdv A outer s H vs Q E hr h => ?_
  obtain ⟨S, nums, vS, pn, rfl, ok, hS, hn, q⟩ := h
  refine ⟨_, (pss_cons (ps_set (i := 2) scturns_and_asks.nd rfl (Or.inl rfl) (pe_d (d_packs_by T) hr (by decide) (by rfl) pass0 (pa_cons (pv 0) pa_nil)))
      (pss_cons (ps_setDc (i := 4) rfl scturns_and_asks.nd rfl rfl (sw_dict rfl rfl rfl (by decide +kernel)) (pi_list (pe_lst (StX.pa_star (pe_d (d_names_at_bottom T) hr (by decide) (by rfl) pass0 (pa_cons (pv 0) pa_nil)) (pa_starD (pv 2) pa_nil)))) (blkOk_by (own := [("name", 3)]) (N := ["shop", "numbers", "packs", "name", "asks", "turns", "own", "made", "apart", "sheet", "turn", "piece", "count"]) (sc := defScope s_turns_and_asks) (by decide +kernel)) (fun _ _ _ _ _ => (pg_name (i := 3) scturns_and_asks.nd rfl (Or.inl rfl) (hf := Or.inr rfl))) (fun _ _ _ _ _ => pts_nil) (fun _ _ _ _ _ => (pv 3)) (fun _ _ _ _ _ => (pe_dget2 (hu_of hr) (pv 1) (pv 3) pe_int ⟨rfl, rfl, rfl, rfl⟩)))
      (pss_cons (ps_set (i := 5) scturns_and_asks.nd rfl (Or.inl rfl) pe_dnewK)
      (pss_cons (ps_for PassesOwn.never rfl (pi_list (pe_d (d_outer_names T) hr (by decide) (by rfl) pass0 (pa_cons (pv 0) pa_nil))) (pg_name (i := 3) scturns_and_asks.nd rfl (Or.inl rfl)) (pss_cons (ps_asg (pe_dget (hu_of hr) (pv 2) (pv 3) (fun _ _ => rfl)) (pg_tup (n := 4) rfl (pgs_cons (pg_name (i := 6) scturns_and_asks.nd rfl (Or.inl rfl)) (pgs_cons (pg_name (i := 7) scturns_and_asks.nd rfl (Or.inl rfl)) (pgs_cons (pg_name (i := 8) scturns_and_asks.nd rfl (Or.inl rfl)) (pgs_cons (pg_name (i := 9) scturns_and_asks.nd rfl (Or.inl rfl)) pgs_nil))))))
      (pss_cons (ps_set (i := 10) scturns_and_asks.nd rfl (Or.inl rfl) (pe_ifExp (PW.pt (pw_or (pt_val (pv 8)) (pw_or1 (pt_cmpR op_gt (pe_dget (hu_of hr) (pv 4) (pv 3) (fun _ _ => rfl)) (pv 7) (nomark _))))) (pe_op op_sub (pe_dget (hu_of hr) (pv 4) (pv 3) (fun _ _ => rfl)) (pv 7)) pe_int))
      (pss_cons (ps_dput (hu_of hr) (pv 5) (pv 3) (pv 10) rfl)
      (pss_one (ps_for PassesOwn.never rfl (pi_tup (pv 9)) (pg_tup (n := 2) rfl (pgs_cons (pg_name (i := 11) scturns_and_asks.nd rfl (Or.inl rfl)) (pgs_cons (pg_name (i := 12) scturns_and_asks.nd rfl (Or.inl rfl)) pgs_nil))) (pss_one (ps_dput (hu_of hr) (pv 4) (pv 11) (pe_op op_add (pe_dget (hu_of hr) (pv 4) (pv 11) (fun _ _ => rfl)) (pe_op op_mul (pv 12) (pv 10))) rfl))))))))
      (pss_one (ps_ret (pe_tup (pa_cons (pv 5) (pa_cons (pv 4) pa_nil))))))))), ?_⟩
  have sz := ok.sz
  refine s_setDic (dic_call (ea_cons (ed_var rfl hS) ea_nil) ⟨S, rfl, rfl, ok.ndK, sz⟩) fun pk H1 kvs s1 n1 hpk hkv => ?_
  have hS1 := DD.same s1 _ _ hS
  have keys : ((srtS (bNames S)).map PyData.str ++ ((pairK S.packs).map (fun p => PyData.str p.1) ++ [])) = (srtS (bNames S) ++ kNames S).map PyData.str := by
    rw [List.append_nil, List.map_append]
    unfold pairK kNames
    rw [List.map_map, List.map_map]
    rfl
  have hlen : (srtS (bNames S) ++ kNames S).length ≤ 30 := by
    rw [List.length_append, srtS_len]
    unfold bNames pNames cNames kNames
    rw [List.length_append, List.length_map, List.length_map, List.length_map]
    have := sz.parts
    have := sz.choices
    have := sz.packs
    omega
  have hnd : (srtS (bNames S) ++ kNames S).Nodup := ((srtS_perm (bNames S)).append_right _).nodup_iff.mpr ok.nd
  dsimp only
  refine sq ?_
  refine s_setDic (ps := pairI (asks0 S nums)) ?_ fun pa H2 kvs2 s2 n2 hpa hkv2 => ?_
  · refine DicD.is (dd_dcL (f := fun d => match d with | .str n => (n, .int (getI nums n)) | _ => (Str.empty, .none))
      (ED.is (ed_lst (ea_star (ed_call (d := .list ((srtS (bNames S)).map PyData.str)) (ea_cons (ed_var (i := 0) rfl hS1) ea_nil) ⟨S, rfl, sz, ok.ndB, rfl⟩) (ea_starD (i := 2) rfl hpk hkv ea_nil)) (by rw [keys, List.length_map]; omega)) (congrArg PyData.list keys)) (by rw [List.length_map]; omega) ?_ (fun d hd => ?_) fun d hd => ?_) ?_
    · rw [List.map_map]
      have e : (srtS (bNames S) ++ kNames S).map ((fun d => (match d with | .str n => (n, PyData.int (getI nums n)) | _ => (Str.empty, .none) : Str × PyData).1) ∘ PyData.str) = srtS (bNames S) ++ kNames S := List.map_id _
      rw [e]
      exact hnd
    · obtain ⟨n, _, rfl⟩ := List.mem_map.mp hd
      rfl
    · obtain ⟨n, _, rfl⟩ := List.mem_map.mp hd
      exact turnD_n (fun _ => rfl) (fun x H3 s3 hx => ed_var rfl hx) fun x H3 s3 hx => ed_dget2S rfl (s3 _ _ (s1 _ _ hn)) (ed_var rfl hx) ed_int
    · unfold pairI asks0
      rw [List.map_map, List.map_map]
      rfl
  obtain rfl := hkv2.ints
  dsimp only
  refine sq ?_
  refine s_setDic dic_new fun pt H3 kvs3 s3 n3 hpt hkv3 => ?_
  obtain rfl : kvs3 = [] := hkv3
  have s13 : Same H H3 := (s1.trans s2).trans s3
  have nkn : pk ≠ pa := fun z => by rw [← z, hpk] at n2; cases n2
  have nkt : pk ≠ pt := fun z => by rw [← z, s2 _ _ hpk] at n3; cases n3
  have nat : pa ≠ pt := fun z => by rw [← z, hpa] at n3; cases n3
  have fa : H pa = none := L2.Same.free s1 n2
  have ft : H pt = none := L2.Same.free (s1.trans s2) n3
  dsimp only
  refine sq ?_
  refine s_forL (ds := (outerOrd S.packs.length S.packs).map fun k => PyData.str k.nm) (ed_call (ea_cons (ed_var rfl (DD.same s13 _ _ hS)) ea_nil) ⟨S, rfl, sz, ok.wf, rfl⟩)
    (fun i σ' H' => ∃ st : AL × AL, st = ((outerOrd S.packs.length S.packs).take i).foldl stepK ([], asks0 S nums) ∧ keysA st.2 = srtS (bNames S) ++ kNames S ∧ st.1.length ≤ i ∧ (∃ o3 o6 o7 o8 o9 o10 o11 o12, σ' = [some vS, some (.ref pn), some (.ref pk), o3, some (.ref pa), some (.ref pt), o6, o7, o8, o9, o10, o11, o12]) ∧
      Same H H' ∧ (∃ kvs, H' pk = some (.dK kvs) ∧ KVD H' (pairK S.packs) kvs) ∧ H' pa = some (.dK (SI st.2)) ∧ H' pt = some (.dK (SI st.1)))
    (fun H4 s4 => ⟨_, rfl, keysA_asks0 S nums, Nat.le_refl _, ⟨_, _, _, _, _, _, _, _, rfl⟩, s13.trans s4, ⟨kvs, s4 _ _ (s3 _ _ (s2 _ _ hpk)), KVD.same ((s2.trans s3).trans s4) hkv⟩, s4 _ _ (s3 _ _ hpa), s4 _ _ hpt⟩) (fun i d x σ' H4 hd hx p N hN => ?_) fun σ' H4 p => ?_
  · obtain ⟨st, est, ek, el, ⟨o3, o6, o7, o8, o9, o10, o11, o12, rfl⟩, s4, ⟨kvs4, hpk4, hkv4⟩, ha4, ht4⟩ := p
    rw [List.getElem?_map] at hd
    obtain ⟨kp, hkp, rfl⟩ : ∃ kp, (outerOrd S.packs.length S.packs)[i]? = some kp ∧ PyData.str kp.nm = d := by
      cases e : (outerOrd S.packs.length S.packs)[i]? with
      | none => rw [e] at hd; cases hd
      | some kp => rw [e] at hd; exact ⟨kp, rfl, Option.some.inj hd⟩
    have mem : kp ∈ S.packs := outerOrd_sub _ _ _ (List.mem_of_getElem? hkp)
    have hnx : ((outerOrd S.packs.length S.packs).take (i + 1)).foldl stepK ([], asks0 S nums) = stepK st kp := by
      rw [List.take_succ, hkp, List.foldl_append, ← est]
      rfl
    dsimp only
    refine sq ?_
    refine s_asgD (ed_dgetV (p := (kp.nm, encK kp)) rfl hpk4 hkv4 (by unfold pairK; rw [List.map_map]; exact ok.ndK) (List.mem_map.mpr ⟨kp, mem, rfl⟩) (ed_var rfl hx)) fun v5 H5 s5 h5 => g_four h5 fun u1 u2 u3 u4 e1 e2 e3 e4 => ?_
    have hi10 : i < 10 := by
      have h1 := outerOrd_len S.packs.length S.packs
      have h2 := sz.packs
      have h3 : i < (outerOrd S.packs.length S.packs).length := by
        rcases Nat.lt_or_ge i (outerOrd S.packs.length S.packs).length with q | q
        · exact q
        · rw [List.getElem?_eq_none q] at hkp; cases hkp
      omega
    have hin : kp.nm ∈ keysA st.2 := by
      rw [ek]
      exact List.mem_append_right _ (List.mem_map_of_mem mem)
    dsimp only
    refine sq ?_
    refine s_setD (d := .int (turnOf kp.made kp.apart (getI st.2 kp.nm))) (turnOf_is (et_or (et_B (ed_var rfl e3)) fun _ => et_B (ed_opB (ed_dgetS rfl (s5 _ _ ha4) (ed_var rfl (DD.same s5 _ _ hx)) (getS_some hin)) (ed_var rfl e2))) (ed_opI (ed_dgetS rfl (s5 _ _ ha4) (ed_var rfl (DD.same s5 _ _ hx)) (getS_some hin)) (ed_var rfl e2))) fun v6 H6 s6 h6 => ?_
    obtain rfl := h6.int_eq
    have s56 := s5.trans s6
    dsimp only
    refine sq ?_
    refine s_dputS (i := 5) (m := st.1) (k := kp.nm) rfl (ed_var rfl h6) (ed_var rfl (DD.same s56 _ _ hx)) (s56 _ _ ht4) (by omega) fun H7 s7 => ?_
    have s47 := (s5.trans s6).trans s7
    have h7 : Same H (upd H7 pt (.dK (SI (putS st.1 kp.nm (turnOf kp.made kp.apart (getI st.2 kp.nm)))))) := Same.mut (s4.trans s47) ft
    have kd7 : KD H4 (upd H7 pt (.dK (SI (putS st.1 kp.nm (turnOf kp.made kp.apart (getI st.2 kp.nm)))))) := (Same.kd s47).trans (KD.upd (s47 _ _ ht4))
    have e4' : DD (upd H7 pt (.dK (SI (putS st.1 kp.nm (turnOf kp.made kp.apart (getI st.2 kp.nm)))))) (.tuple (kp.sheet.map encP)) u4 := DD.kd (KD.trans (Same.kd (s6.trans s7)) (KD.upd (s47 _ _ ht4))) _ _ e4
    have ain : ∀ p ∈ kp.sheet, p.1 ∈ keysA st.2 := fun p hp => by
      rw [ek]
      rcases List.mem_append.mp (ok.cl kp mem p hp) with z | z
      · exact List.mem_append_left _ (srtS_mem.mpr z)
      · exact List.mem_append_right _ z
    dsimp only
    refine s_forT (ds := kp.sheet.map encP) (ed_var (i := 9) rfl e4') (fun j σ' H' => ∃ m, m = (kp.sheet.take j).foldl (addS (turnOf kp.made kp.apart (getI st.2 kp.nm))) st.2 ∧ keysA m = srtS (bNames S) ++ kNames S ∧
      (∃ o11 o12, σ' = [some vS, some (.ref pn), some (.ref pk), some (.str kp.nm), some (.ref pa), some (.ref pt), some u1, some u2, some u3, some u4, some (.int (turnOf kp.made kp.apart (getI st.2 kp.nm))), o11, o12]) ∧
      Same H H' ∧ KD H4 H' ∧ (∃ kvs, H' pk = some (.dK kvs) ∧ KVD H' (pairK S.packs) kvs) ∧ H' pa = some (.dK (SI m)) ∧ H' pt = some (.dK (SI (putS st.1 kp.nm (turnOf kp.made kp.apart (getI st.2 kp.nm))))))
      (fun H8 s8 => ⟨_, rfl, ek, ⟨_, _, by rw [hx.str_eq]; rfl⟩, h7.trans s8, kd7.trans (Same.kd s8), ⟨kvs4, s8 _ _ (by rw [upd_ne nkt]; exact s47 _ _ hpk4), KVD.kd (kd7.trans (Same.kd s8)) hkv4⟩, s8 _ _ (by rw [upd_ne nat]; exact s47 _ _ ha4), s8 _ _ upd_same⟩)
      (fun j d2 x2 σ8 H8 hd2 hx2 p N2 hN2 => ?_) fun σ8 H8 p => ?_
    · obtain ⟨m, em, ekm, ⟨o11, o12, rfl⟩, s8, kd8, ⟨kvs8, hpk8, hkv8⟩, ha8, ht8⟩ := p
      rw [List.getElem?_map] at hd2
      obtain ⟨pp, hpp, rfl⟩ : ∃ pp, kp.sheet[j]? = some pp ∧ encP pp = d2 := by
        cases e : kp.sheet[j]? with
        | none => rw [e] at hd2; cases hd2
        | some pp => rw [e] at hd2; exact ⟨pp, rfl, Option.some.inj hd2⟩
      have pm := List.mem_of_getElem? hpp
      have hnx2 : (kp.sheet.take (j + 1)).foldl (addS (turnOf kp.made kp.apart (getI st.2 kp.nm))) st.2 = putS m pp.1 (getI m pp.1 + pp.2 * turnOf kp.made kp.apart (getI st.2 kp.nm)) := by
        rw [List.take_succ, hpp, List.foldl_append, ← em]
        rfl
      have min : pp.1 ∈ keysA m := by
        have z := ain pp pm
        rw [ek] at z
        rw [ekm]
        exact z
      obtain ⟨ct1, ct2⟩ := ok.ct kp mem pp pm
      refine g_pair hx2 fun y1 y2 f1 f2 => ?_
      refine s_dputS (i := 4) (m := m) (k := pp.1) (v := getI m pp.1 + pp.2 * turnOf kp.made kp.apart (getI st.2 kp.nm)) rfl (ed_opI (ed_dgetS rfl ha8 (ed_var rfl f1) (getS_some min)) (ed_opC (ed_var rfl f2) (ed_var rfl dd_int) (.inl (by omega)))) (ed_var rfl f1) ha8 ?_ fun H9 s9 => ?_
      · have l : (keysA m).length = m.length := List.length_map _
        rw [ekm] at l
        omega
      · have kd9 : KD H8 (upd H9 pa (.dK (SI (putS m pp.1 (getI m pp.1 + pp.2 * turnOf kp.made kp.apart (getI st.2 kp.nm)))))) := (Same.kd s9).trans (KD.upd (s9 _ _ ha8))
        refine hN2 _ _ kd9 ⟨_, hnx2.symm, by rw [keysA_put min]; exact ekm, ⟨_, _, rfl⟩, Same.mut (s8.trans s9) fa, kd8.trans kd9, ⟨kvs8, by rw [upd_ne nkn]; exact s9 _ _ hpk8, KVD.kd kd9 hkv8⟩, upd_same, ?_⟩
        rw [upd_ne (Ne.symm nat)]
        exact s9 _ _ ht8
    · obtain ⟨m, em, ekm, ⟨o11, o12, rfl⟩, s8, kd8, hk8, ha8, ht8⟩ := p
      rw [List.length_map, List.take_length] at em
      refine hN _ _ kd8 ⟨stepK st kp, hnx.symm, ?_, ?_, ⟨_, _, _, _, _, _, _, _, rfl⟩, s8, hk8, ?_, ht8⟩
      · show keysA (kp.sheet.foldl _ st.2) = _
        rw [← em]
        exact ekm
      · have := putS_len st.1 kp.nm (turnOf kp.made kp.apart (getI st.2 kp.nm))
        show (putS st.1 kp.nm _).length ≤ i + 1
        omega
      · rw [em] at ha8
        exact ha8
  · obtain ⟨st, est, ek, el, ⟨o3, o6, o7, o8, o9, o10, o11, o12, rfl⟩, s4, hk4, ha4, ht4⟩ := p
    rw [List.length_map, List.take_length] at est
    dsimp only
    refine ⟨_, rfl, _, rfl, by rw [sizeLine_eq]; show 2 ≤ _; omega, fun t ht => ?_⟩
    have s5 : Same H4 (upd H4 t (.tup [.ref pt, .ref pa])) := Same.new ht
    have e : st = netP S nums := est
    refine q t pt pa _ (s4.trans s5) upd_same (s5 _ _ ?_) (s5 _ _ ?_)
    · rw [← e]; exact ht4
    · rw [← e]; exact ha4
def leftA (S : Shop) (m : AL) : AL := S.parts.map fun p => (p.1, p.2 - getI m p.1)
def spLeft : Sp := fun vs H Q _ => ∃ S m vS pa, vs = [vS, .ref pa] ∧ ShopOk S ∧ DD H (encS S) vS ∧ H pa = some (.dK (SI m)) ∧ (∀ n ∈ pNames S, n ∈ keysA m) ∧
  ∀ p H', Same H H' → H' p = some (.dK (SI (leftA S m))) → Q (.ref p) H'
theorem d_left_by (T : Txt K mg) : Def P w K mg base CX0 2 "left_by" spLeft := by
  refine mk_def T.a_left_by scleft_by (fun _ _ _ _ _ _ us hl => match us, hl with | [_, _], _ => rfl) (fun vs H Q E ⟨_, _, _, _, e, _⟩ => by rw [e]; rfl) fun f cdv A outer s H vs Q E hr h => ?_
  obtain ⟨S, m, vS, pa, rfl, ok, hS, ha, hin, q⟩ := h
  have sz := ok.sz
  refine ⟨_, (pss_one (ps_ret (pe_dc rfl scleft_by.nd (pi_items (pe_frz (pe_d (d_stocks_by T) hr (by decide) (by rfl) pass0 (pa_cons (pv 0) pa_nil)))) (blkOk_by (own := [("name", 2), ("stock", 3)]) (N := ["shop", "asks", "name", "stock"]) (sc := defScope s_left_by) (by decide +kernel)) (fun _ _ _ _ _ => (pg_tup (n := 2) rfl (pgs_cons (pg_name (i := 2) scleft_by.nd rfl (Or.inl rfl) (hf := Or.inr rfl)) (pgs_cons (pg_name (i := 3) scleft_by.nd rfl (Or.inl rfl) (hf := Or.inr rfl)) pgs_nil)) : PG _ _ (gTup K 2 _))) (fun _ _ _ _ _ => pts_nil) (fun _ _ _ _ _ => (pv 2)) (fun _ _ _ _ _ => (pe_op op_sub (pv 3) (pe_dget (hu_of hr) (pv 1) (pv 2) (fun _ _ => rfl))))))), s_retK (ps := pairI (leftA S m)) ?_ fun p H1 kvs s1 n1 hp hk => q p H1 s1 (by rw [hp, hk.ints])⟩
  intro H1 s1 Q2 q2
  refine dic_call (ea_cons (ed_var rfl hS) ea_nil) ⟨S, rfl, rfl, ok.ndP, sz⟩ H1 s1 _ fun d H2 kvs s2 nd hd hk => ?_
  obtain rfl := hk.ints
  refine ⟨d, _, rfl, hd, trivial, fun o => ⟨d, o, _, rfl, upd_same, fun D hD => ?_⟩⟩
  have s3 : Same H1 (upd H2 d (.frz o (.dK (SI S.parts)))) := Same.mut s2 nd
  refine dcD (n := S.parts.length) (Y := YPair (fun i => (SI S.parts)[i]?.map fun kv => kV kv.1) (fun i => (SI S.parts)[i]?.map Prod.snd)) (by rw [← SI_len S.parts]; exact walk_items) (fun i => ((S.parts[i]?).map fun p => (p.1, PyData.int (p.2 - getI m p.1))).getD (Str.empty, .none)) (by have := sz.parts; omega) ?_ (fun i hi => ?_) (fun H' s' => s' _ _ upd_same) (fun i x H5 H5' hi s5 y Kp k => ?_) hD fun H' kvs s' hp hd => ?_
  · have e := map_range (fun p : Str × Int => (p.1, PyData.int (p.2 - getI m p.1))) (Str.empty, PyData.none) S.parts
    have e2 := congrArg (List.map (·.1)) e
    rw [List.map_map, List.map_map] at e2
    have e3 : ((List.range S.parts.length).map fun i => (((S.parts[i]?).map fun p => (p.1, PyData.int (p.2 - getI m p.1))).getD (Str.empty, PyData.none)).1) = pNames S := e2
    rw [e3]
    exact ok.ndP
  · rw [List.getElem?_eq_getElem hi]
    rfl
  · obtain ⟨t, y1, y2, rfl, ht, rfl, e1, e2⟩ := y
    have hp : S.parts[i]? = some S.parts[i] := List.getElem?_eq_getElem hi
    have hs : (SI S.parts)[i]? = some (Sum.inr S.parts[i].1, V.int S.parts[i].2) := by
      unfold SI
      rw [List.getElem?_map, hp]
      rfl
    dsimp only at e1 e2
    rw [hs] at e1 e2
    obtain rfl : V.str S.parts[i].1 = y1 := Option.some.inj e1
    obtain rfl : V.int S.parts[i].2 = y2 := Option.some.inj e2
    have s6 : Same H5 (upd H5 t (.tup [.str S.parts[i].1, .int S.parts[i].2])) := Same.new ht
    refine g_pair (d1 := .str S.parts[i].1) (d2 := .int S.parts[i].2) (dd_tup upd_same (dds_cons dd_str (dds_cons dd_int dds_nil))) fun u v hu hv => ⟨rfl, ?_⟩
    have hm : S.parts[i].1 ∈ keysA m := hin _ (List.mem_map_of_mem (List.getElem_mem hi))
    have s16 : Same H (upd H5 t (.tup [.str S.parts[i].1, .int S.parts[i].2])) := ((s1.trans s3).trans s5).trans s6
    refine ed_var (i := 2) rfl hu _ (L2.Same.refl _) _ fun y3 H7 s7 h7 => ?_
    obtain rfl := h7.str_eq
    refine ed_opI (ed_var (i := 3) rfl (DD.same s7 _ _ hv)) (ed_dgetS (i := 1) rfl ((s16.trans s7) _ _ ha) (ed_var (i := 2) rfl (DD.same s7 _ _ hu)) (getS_some hm)) _ (L2.Same.refl _) _ fun y4 H8 s8 h8 => ?_
    rw [hp] at k
    exact k y4 H8 ((s6.trans s7).trans s8) h8
  · have e := map_range (fun p : Str × Int => (p.1, PyData.int (p.2 - getI m p.1))) (Str.empty, PyData.none) S.parts
    rw [e] at hd
    refine q2 D H' kvs (s3.trans s') (L2.Same.free s3 hD) hp ?_
    have e2 : pairI (leftA S m) = S.parts.map fun p => (p.1, PyData.int (p.2 - getI m p.1)) := by
      unfold pairI leftA
      rw [List.map_map]
      rfl
    rw [e2]
    exact hd
def spNet : Sp := fun vs H Q _ => ∃ S nums vS pn, vs = [vS, .ref pn] ∧ ShopOk S ∧ DD H (encS S) vS ∧ H pn = some (.dK (SI nums)) ∧ ∀ v H', Same H H' → DD H' (toldD S (netP S nums)) v → Q v H'
theorem d_net_told (T : Txt K mg) : Def P w K mg base CX0 3 "net_told" spNet := by
  refine mk_def T.a_net_told scnet_told (fun _ _ _ _ _ _ us hl => match us, hl with | [_, _], _ => rfl) (fun vs H Q E ⟨_, _, _, _, e, _⟩ => by rw [e]; rfl) fun f cdv A outer s H vs Q E hr h => ?_
  obtain ⟨S, nums, vS, pn, rfl, ok, hS, hn, q⟩ := h
  have sz := ok.sz
  refine ⟨_, (pss_cons (ps_asg (pe_d (d_turns_and_asks T) hr (by decide) (by rfl) pass0 (pa_cons (pv 0) (pa_cons (pv 1) pa_nil))) (pg_tup (n := 2) rfl (pgs_cons (pg_name (i := 2) scnet_told.nd rfl (Or.inr rfl)) (pgs_cons (pg_name (i := 3) scnet_told.nd rfl (Or.inr rfl)) pgs_nil))))
      (pss_cons (ps_set (i := 4) scnet_told.nd rfl (Or.inr rfl) (pe_d (d_left_by T) hr (by decide) (by rfl) pass0 (pa_cons (pv 0) (pa_cons (pv 3) pa_nil))))
      (pss_cons (ps_setLc (i := 5) rfl scnet_told.nd rfl rfl (sw_true rfl rfl rfl (by decide +kernel)) (pi_tup (pe_ix ix_tup (pv 0) pe_int (fun _ _ => rfl))) (blkOk_by (own := [("pack", 7)]) (N := ["shop", "numbers", "turns", "asks", "left", "told", "asked", "pack", "name", "stock"]) (sc := defScope s_net_told) (by decide +kernel)) (fun _ _ _ _ _ => (pg_name (i := 7) scnet_told.nd rfl (Or.inl rfl) (hf := Or.inr rfl))) (fun _ _ _ _ _ => pts_nil) (fun _ _ _ _ _ => (pe_tup (pa_cons (pe_ix (r := rIxT K) ix_tup (pv 7) pe_int (fun _ _ => rfl)) (pa_cons (pe_dget (hu_of hr) (pv 2) (pe_ix (r := rIxT K) ix_tup (pv 7) pe_int (fun _ _ => rfl)) (fun _ _ => rfl)) pa_nil)))))
      (pss_cons (ps_setLc (i := 6) rfl scnet_told.nd rfl rfl (sw_true rfl rfl rfl (by decide +kernel)) (pi_list (pe_d (d_names_at_bottom T) hr (by decide) (by rfl) pass0 (pa_cons (pv 0) pa_nil))) (blkOk_by (own := [("name", 8)]) (N := ["shop", "numbers", "turns", "asks", "left", "told", "asked", "pack", "name", "stock"]) (sc := defScope s_net_told) (by decide +kernel)) (fun _ _ _ _ _ => (pg_name (i := 8) scnet_told.nd rfl (Or.inl rfl) (hf := Or.inr rfl))) (fun _ _ _ _ _ => pts_nil) (fun _ _ _ _ _ => (pe_tup (pa_cons (pv 8) (pa_cons (pe_dget (hu_of hr) (pv 3) (pv 8) (fun _ _ => rfl)) pa_nil)))))
      (pss_one (ps_ret (pe_tup (pa_cons (pe_callTy call_tuple_of (by rfl) T.n_tuple (by decide +kernel) (pa_cons (pv 5) pa_nil)) (pa_cons (pe_callTy call_tuple_of (by rfl) T.n_tuple (by decide +kernel) (pa_cons (pv 6) pa_nil)) (pa_cons (pe_callTy call_tuple_of (by rfl) T.n_tuple (by decide +kernel) (pa_cons (pe_lc rfl scnet_told.nd (pi_tup (pe_ix ix_tup (pv 0) pe_int (fun _ _ => rfl))) (blkOk_by (own := [("name", 8), ("stock", 9)]) (N := ["shop", "numbers", "turns", "asks", "left", "told", "asked", "pack", "name", "stock"]) (sc := defScope s_net_told) (by decide +kernel)) (fun _ _ _ _ _ => (pg_tup (n := 2) rfl (pgs_cons (pg_name (i := 8) scnet_told.nd rfl (Or.inl rfl) (hf := Or.inr rfl)) (pgs_cons (pg_name (i := 9) scnet_told.nd rfl (Or.inl rfl) (hf := Or.inr rfl)) pgs_nil)) : PG _ _ (gTup K 2 _))) (fun _ _ _ _ _ => pts_nil) (fun _ _ _ _ _ => (pe_tup (pa_cons (pv 8) (pa_cons (pe_dget (hu_of hr) (pv 4) (pv 8) (fun _ _ => rfl)) pa_nil))))) pa_nil)) pa_nil)))))))))), ?_⟩
  refine ⟨_, rfl, _, rfl, ?_⟩
  refine ⟨S, nums, vS, pn, rfl, ok, hS, hn, fun t pt pa H1 s1 ht hpt hpa => ?_⟩
  refine ⟨t, _, rfl, .inl (.inl ht), rfl, _, _, rfl, _, _, rfl, rfl, ?_⟩
  dsimp only
  refine sq ?_
  refine ⟨_, rfl, _, rfl, ?_⟩
  have pin : ∀ n ∈ pNames S, n ∈ keysA (netP S nums).2 := fun n hn => by
    rw [netP_keys2 ok]
    exact List.mem_append_left _ (srtS_mem.mpr (List.mem_append_left _ hn))
  refine ⟨S, (netP S nums).2, vS, pa, rfl, ok, DD.same s1 _ _ hS, hpa, pin, fun pl H2 s2 hpl => ?_⟩
  dsimp only
  refine sq ?_
  have hS2 := DD.same (s1.trans s2) _ _ hS
  refine s_setD (d := .list (S.packs.map fun k => encP (k.nm, getI (netP S nums).1 k.nm))) (ED.is (ed_lcT (f := fun d => some (encP (nmD d, getI (netP S nums).1 (nmD d)))) (ed_ixT (j := 2) (ed_var rfl hS2) rfl) (by rw [List.length_map]; have := sz.packs; omega) (fun d _ e he => by cases he; rfl) fun d hd => ?_) ?_) fun v3 H3 s3 h3 => ?_
  · obtain ⟨k, hk, rfl⟩ := List.mem_map.mp hd
    refine turn_n (fun _ => rfl) fun x H4 s4 hx => ed_tup (ea_cons (ed_ixT (j := 0) (ed_var rfl hx) rfl) (ea_cons (ed_dgetS rfl ((s2.trans s4) _ _ hpt) (ed_ixT (j := 0) (ed_var rfl hx) rfl) (getS_some (netP_keys1 ok nums hk))) ea_nil)) (by show 2 ≤ 1000; omega)
  · rw [map_some fun _ _ => rfl, List.map_map]
    rfl
  dsimp only
  refine sq ?_
  have hS3 := DD.same s3 _ _ hS2
  refine s_setD (d := .list ((srtS (bNames S)).map fun n => encP (n, getI (netP S nums).2 n))) (ED.is (ed_lcL (f := fun d => match d with | .str n => some (encP (n, getI (netP S nums).2 n)) | _ => none) (ed_call (ds := [encS S]) (ea_cons (ed_var rfl hS3) ea_nil) ⟨S, rfl, sz, ok.ndB, rfl⟩) ?_ (fun d hd e he => ?_) fun d hd => ?_) ?_) fun v4 H4 s4 h4 => ?_
  · rw [List.length_map, srtS_len]
    unfold bNames pNames cNames
    rw [List.length_append, List.length_map, List.length_map]
    have := sz.parts
    have := sz.choices
    omega
  · obtain ⟨n, _, rfl⟩ := List.mem_map.mp hd
    cases he; rfl
  · obtain ⟨n, hn', rfl⟩ := List.mem_map.mp hd
    have mn : n ∈ keysA (netP S nums).2 := by
      rw [netP_keys2 ok]
      exact List.mem_append_left _ hn'
    exact turn_n (fun _ => rfl) fun x H5 s5 hx => ed_tup (ea_cons (ed_var rfl hx) (ea_cons (ed_dgetS rfl (((s2.trans s3).trans s5) _ _ hpa) (ed_var rfl hx) (getS_some mn)) ea_nil)) (by show 2 ≤ 1000; omega)
  · rw [List.filterMap_map]
    exact congrArg PyData.list (map_some (g := fun n => encP (n, getI (netP S nums).2 n)) fun _ _ => rfl)
  dsimp only
  have hS4 := DD.same s4 _ _ hS3
  refine s_retD (ed_tup (ea_cons (ed_tupleL (ed_var rfl (DD.same s4 _ _ h3))) (ea_cons (ed_tupleL (ed_var rfl h4)) (ea_cons (ed_tupleL (ds := S.parts.map fun p => encP (p.1, p.2 - getI (netP S nums).2 p.1)) (ED.is (ed_lcT (f := fun d => match d with | .tuple [.str n, .int z] => some (encP (n, z - getI (netP S nums).2 n)) | _ => none) (ed_ixT (j := 0) (ed_var rfl hS4) rfl) (by rw [List.length_map]; have := sz.parts; omega) (fun d hd e he => ?_) fun d hd => ?_) ?_)) ea_nil))) (by show 3 ≤ 1000; omega)) fun v5 H5 s5 h5 => q v5 H5 ((((s1.trans s2).trans s3).trans s4).trans s5) h5
  · obtain ⟨p, _, rfl⟩ := List.mem_map.mp hd
    cases he; rfl
  · obtain ⟨p, hp, rfl⟩ := List.mem_map.mp hd
    have hl : getS (leftA S (netP S nums).2) p.1 = some (p.2 - getI (netP S nums).2 p.1) := getS_at (m := leftA S (netP S nums).2) (k := p.1) (by
      have e : keysA (leftA S (netP S nums).2) = pNames S := by unfold keysA leftA; rw [List.map_map]; rfl
      rw [e]; exact ok.ndP) (List.mem_map.mpr ⟨p, hp, rfl⟩)
    exact turn_p (fun _ _ => rfl) fun x y H6 s6 hx hy => ed_tup (ea_cons (ed_var rfl hx) (ea_cons (ed_dgetS rfl (((s3.trans s4).trans s6) _ _ hpl) (ed_var rfl hx) hl) ea_nil)) (by show 2 ≤ 1000; omega)
  · rw [List.filterMap_map]
    exact congrArg PyData.list (map_some (g := fun p : Str × Int => encP (p.1, p.2 - getI (netP S nums).2 p.1)) fun _ _ => rfl)
end
end KL

/-! ## the law's pure defs -/
namespace KL
open PySem PySem.Spec PyProof.Rows L2
theorem sc_law_articles : FnScope ["_law_store", "_law_pair", "_law_pack_here"] ["_law_store"] (defScope s__law_articles) := ⟨rfl, rfl, rfl, by decide +kernel, rfl, by decide +kernel, by decide +kernel⟩
theorem sc_law_net : FnScope ["_law_store", "_law_wish", "_law_asked", "_law_turns", "_law_waiting", "_law_one", "_law_number", "_law_lap", "_law_inner", "_law_pack_here", "_law_count", "_law_many", "_law_late"] ["_law_store", "_law_wish"] (defScope s__law_net) := ⟨rfl, rfl, rfl, by decide +kernel, rfl, by decide +kernel, by decide +kernel⟩
theorem sc_law_due : FnScope ["_law_store", "_law_wish", "_law_turns", "_law_asked", "_law_items", "_law_left_here", "_law_pairs", "_law_one", "_law_stock", "_law_pack_here"] ["_law_store", "_law_wish"] (defScope s__law_due) := ⟨rfl, rfl, rfl, by decide +kernel, rfl, by decide +kernel, by decide +kernel⟩
theorem sc_law_with : FnScope ["_law_wish", "_law_item", "_law_book", "_law_one"] ["_law_wish", "_law_item"] (defScope s__law_with) := ⟨rfl, rfl, rfl, by decide +kernel, rfl, by decide +kernel, by decide +kernel⟩
theorem sc_law_is_rising : FnScope ["_law_told", "_law_late", "_law_k", "_law_pair", "_law_other"] ["_law_told", "_law_late"] (defScope s__law_is_rising) := ⟨rfl, rfl, rfl, by decide +kernel, rfl, by decide +kernel, by decide +kernel⟩
section
variable {K : PySem.W.Frag} {σ : L2.St} {H : Hp} {ta tb te ti : TE} {aA : TA} {D : Ends} {g : TG} {d : PyData} {ds es : List PyData}
theorem ed_ixTv {j : Nat} (ha : ED ta σ H (.tuple ds)) (hi : ED ti σ H (.int (j : Int))) (hj : ds[j]? = some d) : ED (tOp (rIxT K) ta ti) σ H d := fun H1 m Q q =>
  ha H1 m _ fun v H2 m2 h2 => hi H2 (m.trans m2) _ fun w H3 m3 h3 => by
    obtain ⟨a, xs, rfl, hx, hr⟩ := (DD.same m3 _ _ h2).tup
    obtain ⟨x, e1, e2⟩ := hr.get hj
    exact ⟨a, xs, (j : Int), x, rfl, h3.int_eq, .inl (.inl hx), atI_nat e1, q x H3 (m2.trans m3) e2⟩
theorem ed_ixLv {j : Nat} (ha : ED ta σ H (.list ds)) (hi : ED ti σ H (.int (j : Int))) (hj : ds[j]? = some d) : ED (tOp (rIxL K) ta ti) σ H d := fun H1 m Q q =>
  ha H1 m _ fun v H2 m2 h2 => hi H2 (m.trans m2) _ fun w H3 m3 h3 => by
    obtain ⟨a, xs, rfl, hx, hr⟩ := (DD.same m3 _ _ h2).lst
    obtain ⟨x, e1, e2⟩ := hr.get hj
    exact ⟨a, xs, (j : Int), x, rfl, h3.int_eq, .inl (.inl hx), atI_nat e1, q x H3 (m2.trans m3) e2⟩
theorem ed_neD {e : PyData} (ha : ED ta σ H d) (hb : ED tb σ H e) (s1 : SeqAt.shaped d = true) (s2 : SeqAt.shaped e = true) : ED (tOp (rNeD K) ta tb) σ H (.bool (!PyData.eqv d e)) := fun H1 m Q q =>
  ha H1 m _ fun v H2 m2 h2 => hb H2 (m.trans m2) _ fun w H3 m3 h3 => ⟨d, e, DD.dp _ _ (DD.same m3 _ _ h2), DD.dp _ _ h3, s1, s2, q _ H3 (m2.trans m3) dd_bl⟩
theorem ed_eqD {e : PyData} (ha : ED ta σ H d) (hb : ED tb σ H e) (s1 : SeqAt.shaped d = true) (s2 : SeqAt.shaped e = true) : ED (tOp (rEqD K) ta tb) σ H (.bool (PyData.eqv d e)) := fun H1 m Q q =>
  ha H1 m _ fun v H2 m2 h2 => hb H2 (m.trans m2) _ fun w H3 m3 h3 => ⟨d, e, DD.dp _ _ (DD.same m3 _ _ h2), DD.dp _ _ h3, s1, s2, q _ H3 (m2.trans m3) dd_bl⟩
theorem ed_neS {x y : Str} (ha : ED ta σ H (.str x)) (hb : ED tb σ H (.str y)) : ED (tOp rNe ta tb) σ H (.bool (!decide (x = y))) := fun H1 m Q q =>
  ha H1 m _ fun v H2 m2 h2 => hb H2 (m.trans m2) _ fun w H3 m3 h3 => by
    obtain rfl := h2.str_eq
    obtain rfl := h3.str_eq
    refine ⟨rfl, ?_⟩
    have e : decide (V.str x = V.str y) = decide (x = y) := by rw [Bool.eq_iff_iff]; simp
    rw [e]
    exact q _ H3 (m2.trans m3) dd_bl
theorem s_forR {tb : TS} {n : Nat} (hs : EA aA σ H [.int (n : Int)]) (hn : n ≤ 1000) (Pv : Nat → L2.St → Hp → Prop) (h0 : ∀ H1, Same H H1 → Pv 0 σ H1)
    (step : ∀ (i : Nat) σ' H', i < n → Pv i σ' H' → ∀ N : L2.St → Hp → Prop, (∀ s h, Pv (i + 1) s h → N s h) → g (.int (i : Int)) σ' H' fun σ2 H2 => tb { D with nx := N, ct := N, bk := D.nx } σ2 H2)
    (hd : ∀ σ' H', Pv n σ' H' → D.nx σ' H') : tFor (iRng1 aA) g tb D σ H :=
  hs H (L2.Same.refl H) _ fun vs H2 m2 h2 => by
    obtain ⟨v, rfl, hv⟩ := h2.one
    obtain rfl := hv.int_eq
    refine ⟨(n : Int), rfl, by omega, by omega, ?_⟩
    rw [Int.toNat_natCast]
    refine for_range Pv (h0 H2 m2) (fun i s h hi p => ?_) hd
    rw [Int.zero_add]
    exact step i s h hi p _ fun _ _ q => q
/-- dict(list of pairs) -/
theorem merge_SI : ∀ (m acc : AL), mergeK (SI acc) (SI m) = SI (m.foldl (fun a p => putS a p.1 p.2) acc)
  | [], _ => rfl
  | p :: m, acc => by
    show mergeK (putK (SI acc) (Sum.inr p.1) (.int p.2)) (SI m) = _
    rw [putK_SI, merge_SI m]
    rfl
theorem dic_dictP {m : AL} (h : ED ta σ H (.list (m.map encP))) : DicD (tCB (fun xs H Q => ∃ (a : Addr) (ps : List Addr) (kvs : List (Key × V)), xs = [.ref a] ∧ SqL K H a (ps.map V.ref) ∧ Paired (fun p kv => SqT K H p [kV kv.1, kv.2]) ps kvs ∧
    ∀ p, H p = none → Q (.ref p) (upd H p (.dK (mergeK [] kvs)))) (tCons ta tNil)) σ H (pairI (m.foldl (fun a p => putS a p.1 p.2) [])) := fun H1 s1 Q q =>
  h H1 s1 _ fun v H2 s2 h2 => by
    obtain ⟨a, xs, rfl, hx, hr⟩ := h2.lst
    have pr : ∀ (l : AL) (ys : List V), DDs H2 (l.map encP) ys → ∃ ps : List Addr, ys = ps.map V.ref ∧ Paired (fun p kv => SqT K H2 p [kV kv.1, kv.2]) ps (SI l) := by
      intro l
      induction l with
      | nil => intro ys hy; exact ⟨[], hy.nil_eq, .nil⟩
      | cons p l ih =>
        intro ys hy
        obtain ⟨y, r, rfl, h3, h4⟩ := hy.uncons
        obtain ⟨b, zs, rfl, hb, hz⟩ := h3.tup
        obtain ⟨z1, z2, rfl, e1, e2⟩ := hz.two
        obtain ⟨ps, rfl, pp⟩ := ih r h4
        rw [e1.str_eq, e2.int_eq] at hb
        exact ⟨b :: ps, rfl, .cons (.inl (.inl hb)) pp⟩
    obtain ⟨ps, rfl, pp⟩ := pr m xs hr
    refine ⟨a, ps, SI m, rfl, .inl (.inl hx), pp, fun p hp => q p _ _ (s2.trans (Same.new hp)) (L2.Same.free s2 hp) upd_same ?_⟩
    have e := merge_SI m []
    have e0 : (SI [] : List (Key × V)) = [] := rfl
    rw [e0] at e
    rw [e]
    have kv : ∀ (l : AL) (H' : Hp), KVD H' (pairI l) (SI l) := by
      intro l H'
      induction l with
      | nil => rfl
      | cons p l ih => exact ⟨_, _, rfl, dd_int, ih⟩
    exact kv _ _
/-- list(dict) -/
theorem ed_listD {i : Nat} {a : Addr} {m : AL} (hv : σ[i]? = some (some (.ref a))) (ha : H a = some (.dK (SI m))) :
    ED (tCB (fun xs H Q => ∃ (a : Addr) (kvs : List (Key × V)), xs = [.ref a] ∧ Rd H a (.dK kvs) ∧ ∀ p, H p = none → Q (.ref p) (upd H p (.lst (kvs.map fun kv => kV kv.1)))) (tCons (tVar i) tNil)) σ H (.list ((keysA m).map PyData.str)) := fun H1 s1 Q q =>
  ⟨.ref a, hv, a, SI m, rfl, .inl (s1 _ _ ha), fun p hp => q _ _ (Same.new hp) (dd_lst upd_same (by
    have e : ((SI m).map fun kv => kV kv.1) = (keysA m).map V.str := by
      unfold SI keysA
      rw [List.map_map, List.map_map]
      rfl
    rw [e]
    exact dds_strs _))⟩
end
section
variable {P : Program} {w : World} {K : PySem.W.Frag} {mg : Str → Option Value} {base : Heap}
theorem d__law_articles (T : Txt K mg) : Def P w K mg base CX0 1 "_law_articles" (spD fun ds d => ∃ S, ds = [encS S] ∧ ShopSz S ∧ d = .list ((srtS (pNames S ++ kNames S)).map PyData.str)) := by
  refine mk_pure T.a__law_articles sc_law_articles (fun _ _ _ _ _ _ us hl => match us, hl with | [_], _ => rfl) (fun ds d ⟨x, e, _⟩ => by rw [e]; rfl) fun f cdv A outer s H vs ds d E hr r hv => ?_
  obtain ⟨S, rfl, sz, rfl⟩ := r
  obtain ⟨v, rfl, hx⟩ := hv.one
  refine ⟨_, (pss_one (ps_ret (pe_callB cr_sortedS (by rfl) T.n_sorted (by decide +kernel) (pa_cons (pe_op op_cat (pe_lc rfl sc_law_articles.nd (pi_tup (pe_ix ix_tup (pv 0) pe_int (fun _ _ => rfl))) (blkOk_by (own := [("_law_pair", 1)]) (N := ["_law_store", "_law_pair", "_law_pack_here"]) (sc := defScope s__law_articles) (by decide +kernel)) (fun _ _ _ _ _ => (pg_name (i := 1) sc_law_articles.nd rfl (Or.inl rfl) (hf := Or.inr rfl))) (fun _ _ _ _ _ => pts_nil) (fun _ _ _ _ _ => (pe_ix (r := rIxT K) ix_tup (pv 1) pe_int (fun _ _ => rfl)))) (pe_lc rfl sc_law_articles.nd (pi_tup (pe_ix ix_tup (pv 0) pe_int (fun _ _ => rfl))) (blkOk_by (own := [("_law_pack_here", 2)]) (N := ["_law_store", "_law_pair", "_law_pack_here"]) (sc := defScope s__law_articles) (by decide +kernel)) (fun _ _ _ _ _ => (pg_name (i := 2) sc_law_articles.nd rfl (Or.inl rfl) (hf := Or.inr rfl))) (fun _ _ _ _ _ => pts_nil) (fun _ _ _ _ _ => (pe_ix (r := rIxT K) ix_tup (pv 2) pe_int (fun _ _ => rfl))))) pa_nil)))), fun Q k => s_retD (ed_srtS1 (ED.is (ed_cat (ds := (pNames S).map PyData.str) (es := (kNames S).map PyData.str) (ED.is (ed_lcT (f := fun d => some (fstD d)) (ed_ixT (j := 0) (ed_var rfl hx) rfl) ?_ (fun d hd e he => ?_) fun d hd => ?_) ?_) (ED.is (ed_lcT (f := fun d => some (fstD d)) (ed_ixT (j := 2) (ed_var rfl hx) rfl) ?_ (fun d hd e he => ?_) fun d hd => ?_) ?_) ?_) ?_) ?_) k⟩
  · rw [List.length_map]; have := sz.parts; omega
  · obtain ⟨p, _, rfl⟩ := List.mem_map.mp hd
    cases he; rfl
  · obtain ⟨p, _, rfl⟩ := List.mem_map.mp hd
    exact turn_n (fun _ => rfl) fun x H1 s1 hx => ed_ixT (j := 0) (ed_var rfl hx) rfl
  · rw [map_some fun _ _ => rfl, fst_encP]; rfl
  · rw [List.length_map]; have := sz.packs; omega
  · obtain ⟨p, _, rfl⟩ := List.mem_map.mp hd
    cases he; rfl
  · obtain ⟨p, _, rfl⟩ := List.mem_map.mp hd
    exact turn_n (fun _ => rfl) fun x H1 s1 hx => ed_ixT (j := 0) (ed_var rfl hx) rfl
  · rw [map_some fun _ _ => rfl, fst_encK]; rfl
  · unfold pNames kNames
    rw [List.length_map, List.length_map, List.length_map, List.length_map]
    have := sz.parts
    have := sz.packs
    omega
  · rw [List.map_append]
  · unfold pNames kNames
    rw [List.length_append, List.length_map, List.length_map]
    have := sz.parts
    have := sz.packs
    omega
/-- what the law's netting walks -/
def lawOrd : Nat → List Pack → List Pack
  | 0, _ => []
  | n + 1, R => match R.filter (freeB R) with
    | [] => []
    | k :: _ => k :: lawOrd n (R.filter fun j => !decide (j.nm = k.nm))
def putAll (a m : AL) : AL := m.foldl (fun a p => putS a p.1 p.2) a
def asksL (S : Shop) (wish : AL) : AL := putAll ((bNames S ++ kNames S).foldl (fun a n => putS a n 0) []) wish
def lawP (S : Shop) (wish : AL) : AL × AL := (lawOrd S.packs.length S.packs).foldl stepK ([], asksL S wish)
def spLaw : Sp := fun vs H Q _ => ∃ S wish vS vW, vs = [vS, vW] ∧ ShopOk S ∧ DD H (encS S) vS ∧ DD H (.tuple (wish.map encP)) vW ∧ wish.length ≤ 1000 ∧
  ∀ t pt pa H', Same H H' → H' t = some (.tup [.ref pt, .ref pa]) → H' pt = some (.dK (SI (lawP S wish).1)) → H' pa = some (.dK (SI (lawP S wish).2)) → Q (.ref t) H'
theorem putAll_len : ∀ (m a : AL), (putAll a m).length ≤ a.length + m.length
  | [], a => Nat.le_refl _
  | p :: m, a => by
    have h1 := putAll_len m (putS a p.1 p.2)
    have h2 := putS_len a p.1 p.2
    show (putAll (putS a p.1 p.2) m).length ≤ a.length + (m.length + 1)
    omega
theorem mem_putAll : ∀ {m a : AL} {n : Str}, n ∈ keysA (putAll a m) ↔ n ∈ keysA m ∨ n ∈ keysA a
  | [], a, n => ⟨.inr, fun h => h.elim (fun z => by cases z) id⟩
  | p :: m, a, n => by
    show n ∈ keysA (putAll (putS a p.1 p.2) m) ↔ _
    rw [mem_putAll, mem_put]
    show _ ↔ n ∈ p.1 :: keysA m ∨ n ∈ keysA a
    rw [List.mem_cons]
    constructor
    · rintro (h | h | h)
      · exact .inl (.inr h)
      · exact .inl (.inl h)
      · exact .inr h
    · rintro ((h | h) | h)
      · exact .inr (.inl h)
      · exact .inl h
      · exact .inr (.inr h)
def zeroes (a : AL) (ns : List Str) : AL := ns.foldl (fun a n => putS a n 0) a
theorem zeroes_eq : ∀ (ns : List Str) (a : AL), zeroes a ns = putAll a (ns.map fun n => (n, 0))
  | [], _ => rfl
  | n :: ns, a => zeroes_eq ns (putS a n 0)
theorem mem_asksL {S : Shop} {wish : AL} {n : Str} (h : n ∈ bNames S ++ kNames S) : n ∈ keysA (asksL S wish) := by
  unfold asksL
  rw [mem_putAll]
  refine .inr ?_
  have e := zeroes_eq (bNames S ++ kNames S) []
  unfold zeroes at e
  rw [e, mem_putAll]
  refine .inl ?_
  unfold keysA
  rw [List.map_map]
  exact List.mem_map.mpr ⟨n, h, rfl⟩
theorem freeB_mem {R : List Pack} {k : Pack} : (!decide (nmD (encK k) ∈ innerN R)) = freeB R k := rfl
theorem filt_free (R : List Pack) (I : List Str) : (R.map encK).filterMap (fun d => if (!decide (nmD d ∈ I)) = true then some d else none) = (R.filter fun k => !decide (k.nm ∈ I)).map encK := by
  rw [List.filterMap_map]
  exact filterMap_if R
theorem filt_ne (R : List Pack) (n : Str) : (R.map encK).filterMap (fun d => if (!decide (nmD d = n)) = true then some d else none) = (R.filter fun k => !decide (k.nm = n)).map encK := by
  rw [List.filterMap_map]
  exact filterMap_if R
theorem rest_lt2 {R : List Pack} {k : Pack} (hk : k ∈ R) : (R.filter fun j => !decide (j.nm = k.nm)).length < R.length := by
  refine Nat.lt_of_le_of_ne (List.length_filter_le ..) fun z => ?_
  have q := List.length_filter_eq_length_iff.mp z k hk
  rw [decide_eq_true (rfl : k.nm = k.nm)] at q
  cases q
theorem rest_one : ∀ {R : List Pack} {k : Pack}, (R.map fun k => k.nm).Nodup → k ∈ R → (R.filter fun j => !decide (j.nm = k.nm)).length + 1 = R.length
  | [], _, _, h => by cases h
  | j :: R, k, nd, h => by
    have nd' := List.nodup_cons.mp (show (j.nm :: R.map fun k => k.nm).Nodup from nd)
    rw [List.filter_cons]
    by_cases e : j.nm = k.nm
    · rw [decide_eq_true e]
      have all : ∀ x ∈ R, (!decide (x.nm = k.nm)) = true := fun x hx => by
        rw [decide_eq_false (fun z => nd'.1 (by rw [e, ← z]; exact List.mem_map_of_mem hx))]
        rfl
      rw [List.filter_eq_self.mpr all]
      rfl
    · rw [decide_eq_false e]
      have hk : k ∈ R := (List.mem_cons.mp h).resolve_left fun z => e (by rw [z])
      have ih := rest_one nd'.2 hk
      show ((R.filter fun j => !decide (j.nm = k.nm)).length + 1) + 1 = R.length + 1
      rw [ih]
/-- one lap of the law's netting, its rest -/
def lapK (R : List Pack) : Option (Pack × List Pack) := match R.filter (freeB R) with
  | [] => none
  | k :: _ => some (k, R.filter fun j => !decide (j.nm = k.nm))
theorem lawOrd_succ (n : Nat) (R : List Pack) : lawOrd (n + 1) R = match lapK R with
  | none => []
  | some (k, R') => k :: lawOrd n R' := by
  unfold lapK
  show (match R.filter (freeB R) with | [] => [] | k :: _ => k :: lawOrd n (R.filter fun j => !decide (j.nm = k.nm))) = _
  cases R.filter (freeB R) <;> rfl
theorem lawOrd_nil : ∀ n, lawOrd n [] = []
  | 0 => rfl
  | _ + 1 => rfl
theorem lapK_some {S R : List Pack} (wf : Wf S) (ne : R ≠ []) (sub : ∀ k ∈ R, k ∈ S) : ∃ k l R', R.filter (freeB R) = k :: l ∧ lapK R = some (k, R') ∧ R' = (R.filter fun j => !decide (j.nm = k.nm)) ∧ k ∈ R := by
  obtain ⟨k0, m0, f0⟩ := wf R ne sub
  have hm : k0 ∈ R.filter (freeB R) := List.mem_filter.mpr ⟨m0, by unfold freeB; rw [decide_eq_false f0]; rfl⟩
  cases e : R.filter (freeB R) with
  | nil => rw [e] at hm; cases hm
  | cons k l =>
    refine ⟨k, l, _, rfl, ?_, rfl, (List.mem_filter.mp (show k ∈ R.filter (freeB R) by rw [e]; exact List.mem_cons_self)).1⟩
    unfold lapK
    rw [e]
theorem par3_is {ta tb tc : TE} {σ : L2.St} {H : Hp} {D : Ends} {i j l : Nat} (h : ta σ H fun x H1 => tb σ H1 fun y H2 => tc σ H2 fun z H3 => ∃ u v w, [x, y, z] = [u, v, w] ∧ D.nx (((σ.set i (some u)).set j (some v)).set l (some w)) H3) :
    tPar3 i j l (tCons ta (tCons tb (tCons tc tNil))) D σ H := h
theorem d__law_net (T : Txt K mg) : Def P w K mg base CX0 2 "_law_net" spLaw := by
  refine mk_def T.a__law_net sc_law_net (fun _ _ _ _ _ _ us hl => match us, hl with | [_, _], _ => rfl) (fun vs H Q E ⟨_, _, _, _, e, _⟩ => by rw [e]; rfl) fun f cdv A outer s H vs Q E hr h => ?_
  obtain ⟨S, wish, vS, vW, rfl, ok, hS, hW, hwl, q⟩ := h
  refine ⟨_, (pss_cons (ps_par3 (i := 2) (j := 3) (l := 4) rfl sc_law_net.nd rfl rfl rfl (by decide) (by decide) (by decide) rfl rfl rfl (pa_cons pe_dnewK (pa_cons pe_dnewK (pa_cons (pe_callTy call_list_of (by rfl) T.n_list (by decide +kernel) (pa_cons (pe_ix ix_tup (pv 0) pe_int (fun _ _ => rfl)) pa_nil)) pa_nil))) (by rfl))
      (pss_cons (ps_for PassesOwn.never rfl (pi_tup (pe_op op_catA (pe_op op_catA (pe_ix ix_tup (pv 0) pe_int (fun _ _ => rfl)) (pe_ix ix_tup (pv 0) pe_int (fun _ _ => rfl))) (pe_ix ix_tup (pv 0) pe_int (fun _ _ => rfl)))) (pg_name (i := 5) sc_law_net.nd rfl (Or.inl rfl)) (pss_one (ps_dput (hu_of hr) (pv 2) (pe_ix ix_tup (pv 5) pe_int (fun _ _ => rfl)) pe_int rfl)))
      (pss_cons (ps_for PassesOwn.never rfl (pi_tup (pv 1)) (pg_tup (n := 2) rfl (pgs_cons (pg_name (i := 5) sc_law_net.nd rfl (Or.inl rfl)) (pgs_cons (pg_name (i := 6) sc_law_net.nd rfl (Or.inl rfl)) pgs_nil))) (pss_one (ps_dput (hu_of hr) (pv 2) (pv 5) (pv 6) rfl)))
      (pss_cons (ps_for PassesOwn.never rfl (pi_range1 (by rfl) T.n_range (pa_cons (pe_callB call_len_seq (by rfl) T.n_len (by decide +kernel) (pa_cons (pe_ix ix_tup (pv 0) pe_int (fun _ _ => rfl)) pa_nil)) pa_nil)) (pg_name (i := 7) sc_law_net.nd rfl (Or.inl rfl)) (pss_cons (ps_set (i := 8) sc_law_net.nd rfl (Or.inr rfl) (pe_lst pa_nil))
      (pss_cons (ps_for PassesOwn.never rfl (pi_list (pv 4)) (pg_name (i := 9) sc_law_net.nd rfl (Or.inr rfl)) (pss_one (ps_set (i := 8) sc_law_net.nd rfl (Or.inr rfl) (pe_op op_cat (pv 8) (pe_lc rfl sc_law_net.nd (pi_tup (pe_ix ix_tup (pv 9) pe_int (fun _ _ => rfl))) (blkOk_by (own := [("_law_one", 5), ("_law_count", 10)]) (N := ["_law_store", "_law_wish", "_law_asked", "_law_turns", "_law_waiting", "_law_one", "_law_number", "_law_lap", "_law_inner", "_law_pack_here", "_law_count", "_law_many", "_law_late"]) (sc := defScope s__law_net) (by decide +kernel)) (fun _ _ _ _ _ => (pg_tup (n := 2) rfl (pgs_cons (pg_name (i := 5) sc_law_net.nd rfl (Or.inl rfl) (hf := Or.inr rfl)) (pgs_cons (pg_name (i := 10) sc_law_net.nd rfl (Or.inl rfl) (hf := Or.inr rfl)) pgs_nil)) : PG _ _ (gTup K 2 _))) (fun _ _ _ _ _ => pts_nil) (fun _ _ _ _ _ => (pv 5)))))))
      (pss_cons (ps_set (i := 9) sc_law_net.nd rfl (Or.inr rfl) (pe_ix ix_list (pe_lc rfl sc_law_net.nd (pi_list (pv 4)) (blkOk_by (own := [("_law_late", 12)]) (N := ["_law_store", "_law_wish", "_law_asked", "_law_turns", "_law_waiting", "_law_one", "_law_number", "_law_lap", "_law_inner", "_law_pack_here", "_law_count", "_law_many", "_law_late"]) (sc := defScope s__law_net) (by decide +kernel)) (fun _ _ _ _ _ => (pg_name (i := 12) sc_law_net.nd rfl (Or.inl rfl) (hf := Or.inr rfl))) (fun _ _ _ _ _ => (pts_one (pt_cmpR (r := rIn K true) op_notIn_seq (pe_ix (r := rIxT K) ix_tup (pv 12) pe_int (fun _ _ => rfl)) (pv 8) (by rfl)))) (fun _ _ _ _ _ => (pv 12))) pe_int (fun _ _ => rfl)))
      (pss_cons (ps_setLc (i := 4) rfl sc_law_net.nd rfl rfl (sw_true rfl rfl rfl (by decide +kernel)) (pi_list (pv 4)) (blkOk_by (own := [("_law_late", 12)]) (N := ["_law_store", "_law_wish", "_law_asked", "_law_turns", "_law_waiting", "_law_one", "_law_number", "_law_lap", "_law_inner", "_law_pack_here", "_law_count", "_law_many", "_law_late"]) (sc := defScope s__law_net) (by decide +kernel)) (fun _ _ _ _ _ => (pg_name (i := 12) sc_law_net.nd rfl (Or.inl rfl) (hf := Or.inr rfl))) (fun _ _ _ _ _ => (pts_one (pt_cmpR op_ne (pe_ix (r := rIxT K) ix_tup (pv 12) pe_int (fun _ _ => rfl)) (pe_ix (r := rIxT K) ix_tup (pv 9) pe_int (fun _ _ => rfl)) (nomark _)))) (fun _ _ _ _ _ => (pv 12)))
      (pss_cons (ps_set (i := 11) sc_law_net.nd rfl (Or.inl rfl) (pe_op op_sub (pe_dget (hu_of hr) (pv 2) (pe_ix ix_tup (pv 9) pe_int (fun _ _ => rfl)) (fun _ _ => rfl)) (pe_ix ix_tup (pv 9) pe_int (fun _ _ => rfl))))
      (pss_cons (ps_set (i := 11) sc_law_net.nd rfl (Or.inl rfl) (pe_ifExp (PW.pt (pw_and (pt_cmpR op_lt (pv 11) pe_int (nomark _)) (pw_and1 (pt_not (pt_val (pe_ix ix_tup (pv 9) pe_int (fun _ _ => rfl))))))) pe_int (pv 11)))
      (pss_cons (ps_dput (hu_of hr) (pv 3) (pe_ix ix_tup (pv 9) pe_int (fun _ _ => rfl)) (pv 11) rfl)
      (pss_one (ps_for PassesOwn.never rfl (pi_tup (pe_ix ix_tup (pv 9) pe_int (fun _ _ => rfl))) (pg_tup (n := 2) rfl (pgs_cons (pg_name (i := 5) sc_law_net.nd rfl (Or.inl rfl)) (pgs_cons (pg_name (i := 10) sc_law_net.nd rfl (Or.inl rfl)) pgs_nil))) (pss_one (ps_dput (hu_of hr) (pv 2) (pv 5) (pe_op op_add (pe_dget (hu_of hr) (pv 2) (pv 5) (fun _ _ => rfl)) (pe_op op_mul (pv 10) (pv 11))) rfl))))))))))))
      (pss_one (ps_ret (pe_tup (pa_cons (pv 3) (pa_cons (pv 2) pa_nil))))))))), ?_⟩
  have sz := ok.sz
  refine sq (par3_is ?_)
  refine dic_new (σ := start ["_law_store", "_law_wish", "_law_asked", "_law_turns", "_law_waiting", "_law_one", "_law_number", "_law_lap", "_law_inner", "_law_pack_here", "_law_count", "_law_many", "_law_late"] [vS, vW]) H (L2.Same.refl _) _ fun pa H1 kvs1 s1 n1 ha1 k1 => ?_
  obtain rfl : kvs1 = [] := k1
  refine dic_new (σ := start ["_law_store", "_law_wish", "_law_asked", "_law_turns", "_law_waiting", "_law_one", "_law_number", "_law_lap", "_law_inner", "_law_pack_here", "_law_count", "_law_many", "_law_late"] [vS, vW]) H1 (L2.Same.refl _) _ fun pt H2 kvs2 s2 n2 ht2 k2 => ?_
  obtain rfl : kvs2 = [] := k2
  have s12 := s1.trans s2
  refine ed_listT (ed_ixT (j := 2) (ed_var rfl (DD.same s12 _ _ hS)) rfl) H2 (L2.Same.refl _) _ fun vR H3 s3 hR3 => ?_
  refine ⟨_, _, _, rfl, ?_⟩
  dsimp only
  have s13 := s12.trans s3
  have nat : pa ≠ pt := fun z => by rw [← z, ha1] at n2; cases n2
  have ft : H pt = none := L2.Same.free s1 n2
  have fa : H pa = none := n1
  have hlenN : (bNames S ++ kNames S).length ≤ 30 := by
    unfold bNames pNames cNames kNames
    rw [List.length_append, List.length_append, List.length_map, List.length_map, List.length_map]
    have := sz.parts
    have := sz.choices
    have := sz.packs
    omega
  -- the zeroes
  refine sq ?_
  have hall : ((S.parts.map encP ++ S.choices.map encC) ++ S.packs.map encK).map nmD = bNames S ++ kNames S := by
    unfold bNames pNames cNames kNames
    rw [List.map_append, List.map_append, List.map_map, List.map_map, List.map_map]
    rfl
  have hall2 : ∀ d ∈ (S.parts.map encP ++ S.choices.map encC) ++ S.packs.map encK, ∃ r, d = .tuple (.str (nmD d) :: r) := fun d hd => by
    rcases List.mem_append.mp hd with hd | hd
    · rcases List.mem_append.mp hd with hd | hd
      · obtain ⟨p, _, rfl⟩ := List.mem_map.mp hd
        exact ⟨_, rfl⟩
      · obtain ⟨p, _, rfl⟩ := List.mem_map.mp hd
        exact ⟨_, rfl⟩
    · obtain ⟨p, _, rfl⟩ := List.mem_map.mp hd
      exact ⟨_, rfl⟩
  have hS3 := DD.same s13 _ _ hS
  have hcl : ((S.parts.map encP ++ S.choices.map encC) ++ S.packs.map encK).length ≤ 30 := by
    rw [List.length_append, List.length_append, List.length_map, List.length_map, List.length_map]
    have := sz.parts
    have := sz.choices
    have := sz.packs
    omega
  refine s_forT (ds := (S.parts.map encP ++ S.choices.map encC) ++ S.packs.map encK) (ed_catT (ed_catT (ed_ixT (j := 0) (ed_var rfl hS3) rfl) (ed_ixT (j := 1) (ed_var rfl hS3) rfl) (by rw [List.length_append, List.length_append] at hcl; omega)) (ed_ixT (j := 2) (ed_var rfl hS3) rfl) (by rw [List.length_append] at hcl; omega))
    (fun i σ' H' => (∃ o5, σ' = [some vS, some vW, some (.ref pa), some (.ref pt), some vR, o5, none, none, none, none, none, none, none]) ∧ Same H H' ∧ KD H3 H' ∧ H' pt = some (.dK []) ∧
      ∃ m : AL, m = zeroes [] (((((S.parts.map encP ++ S.choices.map encC) ++ S.packs.map encK).map nmD).take i)) ∧ m.length ≤ i ∧ H' pa = some (.dK (SI m)))
    (fun H4 s4 => ⟨⟨_, rfl⟩, s13.trans s4, Same.kd s4, s4 _ _ (s3 _ _ ht2), [], rfl, Nat.le_refl _, s4 _ _ (s3 _ _ (s2 _ _ ha1))⟩) (fun i d x σ' H4 hd hx p N hN => ?_) fun σ' H4 p => ?_
  · obtain ⟨⟨o5, rfl⟩, s4, kd4, ht4, m, em, el, ha4⟩ := p
    obtain ⟨r, er⟩ := hall2 d (List.mem_of_getElem? hd)
    have hi : i < 30 := by
      rcases Nat.lt_or_ge i ((S.parts.map encP ++ S.choices.map encC) ++ S.packs.map encK).length with z | z
      · omega
      · rw [List.getElem?_eq_none z] at hd; cases hd
    have hx' : DD H4 (.tuple (.str (nmD d) :: r)) x := by rw [← er]; exact hx
    refine s_dputS (i := 2) (m := m) (k := nmD d) (v := 0) rfl ed_int (ed_ixT (j := 0) (ed_var (i := 5) rfl hx') rfl) ha4 (by omega) fun H5 s5 => ?_
    have kd5 : KD H4 (upd H5 pa (.dK (SI (putS m (nmD d) 0)))) := (Same.kd s5).trans (KD.upd (s5 _ _ ha4))
    refine hN _ _ kd5 ⟨⟨_, rfl⟩, Same.mut (s4.trans s5) fa, kd4.trans kd5, by rw [upd_ne (Ne.symm nat)]; exact s5 _ _ ht4, _, ?_, Nat.le_trans (putS_len _ _ _) (by omega), upd_same⟩
    rw [List.take_succ, List.getElem?_map, hd, em]
    unfold zeroes
    rw [List.foldl_append]
    rfl
  obtain ⟨⟨o5, rfl⟩, s4, kd4, ht4, m4, em4, el4, ha4⟩ := p
  have em4' : m4 = zeroes [] (bNames S ++ kNames S) := by
    rw [em4, ← hall]
    congr 1
    exact List.take_of_length_le (by rw [List.length_map]; exact Nat.le_refl _)
  dsimp only
  -- the wish
  refine sq ?_
  refine s_forT (ds := wish.map encP) (ed_var rfl (DD.same s4 _ _ hW))
    (fun i σ' H' => (∃ o5 o6, σ' = [some vS, some vW, some (.ref pa), some (.ref pt), some vR, o5, o6, none, none, none, none, none, none]) ∧ Same H H' ∧ KD H3 H' ∧ H' pt = some (.dK []) ∧
      ∃ m : AL, m = putAll m4 (wish.take i) ∧ m.length ≤ 30 + i ∧ H' pa = some (.dK (SI m)))
    (fun H5 s5 => ⟨⟨_, _, rfl⟩, s4.trans s5, kd4.trans (Same.kd s5), s5 _ _ ht4, m4, rfl, by omega, s5 _ _ ha4⟩) (fun i d x σ' H5 hd hx p N hN => ?_) fun σ' H5 p => ?_
  · obtain ⟨⟨o5, o6, rfl⟩, s5, kd5, ht5, m, em, el, ha5⟩ := p
    rw [List.getElem?_map] at hd
    obtain ⟨pp, hpp, rfl⟩ : ∃ pp, wish[i]? = some pp ∧ encP pp = d := by
      cases e : wish[i]? with
      | none => rw [e] at hd; cases hd
      | some pp => rw [e] at hd; exact ⟨pp, rfl, Option.some.inj hd⟩
    have hi : i < 1000 := by
      rcases Nat.lt_or_ge i wish.length with z | z
      · omega
      · rw [List.getElem?_eq_none z] at hpp; cases hpp
    refine g_pair hx fun y1 y2 f1 f2 => ?_
    refine s_dputS (i := 2) (m := m) (k := pp.1) (v := pp.2) rfl (ed_var (i := 6) rfl f2) (ed_var (i := 5) rfl f1) ha5 (by omega) fun H6 s6 => ?_
    have kd6 : KD H5 (upd H6 pa (.dK (SI (putS m pp.1 pp.2)))) := (Same.kd s6).trans (KD.upd (s6 _ _ ha5))
    refine hN _ _ kd6 ⟨⟨_, _, rfl⟩, Same.mut (s5.trans s6) fa, kd5.trans kd6, by rw [upd_ne (Ne.symm nat)]; exact s6 _ _ ht5, _, ?_, Nat.le_trans (putS_len _ _ _) (by omega), upd_same⟩
    rw [List.take_succ, hpp, em]
    unfold putAll
    rw [List.foldl_append]
    rfl
  obtain ⟨⟨o5, o6, rfl⟩, s5, kd5, ht5, m5, em5, el5, ha5⟩ := p
  have em5' : m5 = asksL S wish := by
    rw [em5, em4', List.length_map, List.take_length]
    rfl
  rw [em5'] at ha5 el5
  rw [List.length_map] at el5
  clear em5 em5' em4 em4' ha4 ht4 el4
  dsimp only
  -- the laps
  refine sq ?_
  have key0 : ∀ n ∈ bNames S ++ kNames S, n ∈ keysA (asksL S wish) := fun n hn => mem_asksL hn
  refine s_forR (n := S.packs.length) (ea_cons (ED.is (ed_lenT (ed_ixT (j := 2) (ed_var rfl (DD.same s5 _ _ hS)) rfl)) (by rw [List.length_map])) ea_nil) (by have := sz.packs; omega)
    (fun i σ' H' => ∃ (R : List Pack) (vR : V) (st : AL × AL), (∃ o5 o6 o7 o8 o9 o10 o11 o12, σ' = [some vS, some vW, some (.ref pa), some (.ref pt), some vR, o5, o6, o7, o8, o9, o10, o11, o12]) ∧ Same H H' ∧ DD H' (.list (R.map encK)) vR ∧
      H' pt = some (.dK (SI st.1)) ∧ H' pa = some (.dK (SI st.2)) ∧ st.1.length ≤ i ∧ keysA st.2 = keysA (asksL S wish) ∧ (∀ k ∈ R, k ∈ S.packs) ∧ R.length ≤ 10 ∧ (lawOrd (S.packs.length - i) R).foldl stepK st = lawP S wish ∧ R.length = S.packs.length - i ∧ (R.map fun k : Pack => k.nm).Nodup)
    (fun H6 s6 => ⟨S.packs, vR, ([], asksL S wish), ⟨_, _, _, _, _, _, _, _, rfl⟩, s5.trans s6, DD.kd (kd5.trans (Same.kd s6)) _ _ hR3, s6 _ _ ht5, s6 _ _ ha5, Nat.le_refl _, rfl, fun _ h => h, sz.packs, rfl, rfl, ok.ndK⟩) (fun i σ' H6 hi p N hN => ?_) fun σ' H6 p => ?_
  · obtain ⟨R, vR, st, ⟨o5, o6, o7, o8, o9, o10, o11, o12, rfl⟩, s6, hR, ht6, ha6, hl6, hk6, sub, hR10, heq, hRl, hnd⟩ := p
    obtain ⟨k, l, R', eF, eL, eR', mk⟩ := lapK_some ok.wf (fun z => by rw [z] at hRl; simp at hRl; omega) sub
    have ksheet : ∀ j ∈ R, j.sheet.length ≤ 10 := fun j hj => sz.sheets j (sub j hj)
    dsimp only
    refine sq ?_
    refine s_setD (d := .list []) (ed_lst ea_nil (by decide)) fun v8 H7 s7 h7 => ?_
    dsimp only
    refine sq ?_
    refine s_forL (ds := R.map encK) (ed_var (i := 4) rfl (DD.same s7 _ _ hR))
      (fun j σ' H' => (∃ o5 vI o9 o10 o11 o12, σ' = [some vS, some vW, some (.ref pa), some (.ref pt), some vR, o5, o6, some (.int (i : Int)), some vI, o9, o10, o11, o12] ∧ DD H' (.list ((innerN (R.take j)).map PyData.str)) vI) ∧ Same H7 H' ∧ (innerN (R.take j)).length ≤ 10 * j)
      (fun H8 s8 => ⟨⟨_, v8, _, _, _, _, rfl, DD.same s8 _ _ h7⟩, s8, Nat.zero_le _⟩) (fun j d x σ' H8 hd hx p N2 hN2 => ?_) fun σ' H8 p => ?_
    · obtain ⟨⟨o5, vI, o9, o10, o11, o12, rfl, hI⟩, s8, hlI⟩ := p
      rw [List.getElem?_map] at hd
      obtain ⟨kj, hkj, rfl⟩ : ∃ kj, R[j]? = some kj ∧ encK kj = d := by
        cases e : R[j]? with
        | none => rw [e] at hd; cases hd
        | some kj => rw [e] at hd; exact ⟨kj, rfl, Option.some.inj hd⟩
      have mj := List.mem_of_getElem? hkj
      have hj10 : j < 10 := by
        rcases Nat.lt_or_ge j R.length with z | z
        · omega
        · rw [List.getElem?_eq_none z] at hkj; cases hkj
      have hsj := ksheet kj mj
      have etake : innerN (R.take (j + 1)) = innerN (R.take j) ++ kj.sheet.map fun p => p.1 := by rw [List.take_succ, hkj, Option.toList_some, innerN_snoc]
      refine s_setD (d := .list ((innerN (R.take (j + 1))).map PyData.str)) (ED.is (ed_cat (es := (kj.sheet.map fun p => p.1).map PyData.str) (ed_var (i := 8) rfl hI) (ED.is (ed_lcT (f := fun d => some (fstD d)) (ed_ixT (j := 3) (ed_var (i := 9) rfl hx) rfl) (by rw [List.length_map]; omega) (fun d hd e he => ?_) fun d hd => ?_) ?_) ?_) ?_) fun v9 H9 s9 h9 => ?_
      · obtain ⟨p, _, rfl⟩ := List.mem_map.mp hd
        cases he; rfl
      · obtain ⟨p, _, rfl⟩ := List.mem_map.mp hd
        exact turn_p (fun _ _ => rfl) fun x y H1 s1 hx hy => ed_var rfl hx
      · rw [map_some fun _ _ => rfl, fst_encP]
      · rw [List.length_map, List.length_map, List.length_map]; omega
      · rw [etake, List.map_append]
      · refine hN2 _ _ (Same.kd s9) ⟨⟨_, v9, _, _, _, _, rfl, h9⟩, s8.trans s9, ?_⟩
        rw [etake, List.length_append, List.length_map]
        omega
    obtain ⟨⟨o5, vI, o9, o10, o11, o12, rfl, hI⟩, s8, hlI⟩ := p
    rw [List.length_map, List.take_length] at hI
    have s78 := s7.trans s8
    have hR8 := DD.same s78 _ _ hR
    dsimp only
    refine sq ?_
    refine s_setD (d := encK k) (ed_ixL (j := 0) (ds := (R.filter (freeB R)).map encK) (ED.is (ed_lcL (f := fun d => if (!decide (nmD d ∈ innerN R)) = true then some d else none) (ed_var (i := 4) rfl hR8) (by rw [List.length_map]; omega) (fun d hd e he => ?_) fun d hd => ?_) (congrArg PyData.list (filt_free R (innerN R)))) (by rw [eF]; rfl)) fun v9 H9 s9 h9 => ?_
    · obtain ⟨k1, _, rfl⟩ := List.mem_map.mp hd
      split at he
      · cases he; exact lf_encK k1
      · cases he
    · obtain ⟨k1, _, rfl⟩ := List.mem_map.mp hd
      exact turn_nt (fun _ => rfl) (fun x H5 s5 hx5 => et_test (ed_inF (ed_ixT (j := 0) (ed_var rfl hx5) rfl) (ed_var (i := 8) rfl (DD.same s5 _ _ hI)))) fun _ x H5 s5 hx5 => ed_var rfl hx5
    have s79 := s78.trans s9
    have hR9 := DD.same s9 _ _ hR8
    dsimp only
    refine sq ?_
    refine s_setD (d := .list (R'.map encK)) (ED.is (ed_lcL (f := fun d => if (!decide (nmD d = k.nm)) = true then some d else none) (ed_var (i := 4) rfl hR9) (by rw [List.length_map]; omega) (fun d hd e he => ?_) fun d hd => ?_) (congrArg PyData.list (by rw [eR']; exact filt_ne R k.nm))) fun v4 H10 s10 h10 => ?_
    · obtain ⟨k1, _, rfl⟩ := List.mem_map.mp hd
      split at he
      · cases he; exact lf_encK k1
      · cases he
    · obtain ⟨k1, _, rfl⟩ := List.mem_map.mp hd
      exact turn_nt (fun _ => rfl) (fun x H5 s5 hx5 => et_test (ed_neS (ed_ixT (j := 0) (ed_var rfl hx5) rfl) (ed_ixT (j := 0) (ed_var (i := 9) rfl (DD.same s5 _ _ h9)) rfl))) fun _ x H5 s5 hx5 => ed_var rfl hx5
    have s710 := s79.trans s10
    have h9' := DD.same s10 _ _ h9
    have ha10 := s710 _ _ ha6
    have ht10 := s710 _ _ ht6
    have kin : k.nm ∈ keysA st.2 := by
      rw [hk6]
      exact key0 _ (List.mem_append_right _ (List.mem_map_of_mem (sub k mk)))
    dsimp only
    refine sq ?_
    refine s_setD (d := .int (getI st.2 k.nm - k.made)) (ed_opI (ed_dgetS (i := 2) rfl ha10 (ed_ixT (j := 0) (ed_var (i := 9) rfl h9') rfl) (getS_some kin)) (ed_ixT (j := 1) (ed_var (i := 9) rfl h9') rfl)) fun v11 H11 s11 h11 => ?_
    dsimp only
    refine sq ?_
    have h9a := DD.same s11 _ _ h9'
    refine s_setD (d := .int (turnOf k.made k.apart (getI st.2 k.nm))) (ed_if (b := decide (getI st.2 k.nm - k.made < 0) && !k.apart) (et_and (et_test (ed_opB (ed_var (i := 11) rfl h11) ed_int)) fun _ => et_not (et_B (ed_ixT (j := 2) (ed_var (i := 9) rfl h9a) rfl))) (fun e => ?_) fun e => ?_) fun v12 H12 s12' h12 => ?_
    · have e0 : turnOf k.made k.apart (getI st.2 k.nm) = 0 := by
        rw [Bool.and_eq_true, decide_eq_true_eq, Bool.not_eq_true'] at e
        unfold turnOf
        rw [e.2, Bool.false_or, if_neg (by rw [decide_eq_true_eq]; omega)]
      rw [e0]
      exact ed_int
    · have e0 : turnOf k.made k.apart (getI st.2 k.nm) = getI st.2 k.nm - k.made := by
        unfold turnOf
        cases ha : k.apart with
        | true => rfl
        | false =>
          rw [ha, Bool.not_false, Bool.and_true, decide_eq_false_iff_not] at e
          rw [Bool.false_or]
          split
          · rfl
          · rename_i z
            rw [decide_eq_true_eq] at z
            omega
      rw [e0]
      exact ed_var (i := 11) rfl h11
    obtain rfl := h12.int_eq
    have s712 := (s710.trans s11).trans s12'
    have h9b := DD.same s12' _ _ h9a
    dsimp only
    refine sq ?_
    refine s_dputS (i := 3) (m := st.1) (k := k.nm) rfl (ed_var (i := 11) rfl h12) (ed_ixT (j := 0) (ed_var (i := 9) rfl h9b) rfl) (s712 _ _ ht6) (by have := sz.packs; omega) fun H13 s13' => ?_
    have s713 := s712.trans s13'
    have h14 : Same H (upd H13 pt (.dK (SI (putS st.1 k.nm (turnOf k.made k.apart (getI st.2 k.nm)))))) := Same.mut (s6.trans s713) ft
    have kd14 : KD H12 (upd H13 pt (.dK (SI (putS st.1 k.nm (turnOf k.made k.apart (getI st.2 k.nm)))))) := (Same.kd s13').trans (KD.upd (s713 _ _ ht6))
    have h9c : DD (upd H13 pt (.dK (SI (putS st.1 k.nm (turnOf k.made k.apart (getI st.2 k.nm)))))) (encK k) v9 := DD.kd kd14 _ _ h9b
    have h4c : DD (upd H13 pt (.dK (SI (putS st.1 k.nm (turnOf k.made k.apart (getI st.2 k.nm)))))) (.list (R'.map encK)) v4 := DD.kd kd14 _ _ (DD.same (s11.trans s12') _ _ h10)
    have ain : ∀ p ∈ k.sheet, p.1 ∈ keysA st.2 := fun p hp => by
      rw [hk6]
      exact key0 _ (ok.cl k (sub k mk) p hp)
    dsimp only
    refine s_forT (ds := k.sheet.map encP) (ed_ixT (j := 3) (ed_var (i := 9) rfl h9c) rfl) (fun j σ' H' => ∃ m, m = (k.sheet.take j).foldl (addS (turnOf k.made k.apart (getI st.2 k.nm))) st.2 ∧ keysA m = keysA (asksL S wish) ∧
      (∃ o5 o10, σ' = [some vS, some vW, some (.ref pa), some (.ref pt), some v4, o5, o6, some (.int (i : Int)), some vI, some v9, o10, some (.int (turnOf k.made k.apart (getI st.2 k.nm))), o12]) ∧
      Same H H' ∧ DD H' (.list (R'.map encK)) v4 ∧ H' pa = some (.dK (SI m)) ∧ H' pt = some (.dK (SI (putS st.1 k.nm (turnOf k.made k.apart (getI st.2 k.nm))))))
      (fun H14 s14 => ⟨_, rfl, hk6, ⟨_, _, rfl⟩, h14.trans s14, DD.same s14 _ _ h4c, s14 _ _ (by rw [upd_ne nat]; exact s713 _ _ ha6), s14 _ _ upd_same⟩)
      (fun j d2 x2 σ8 H15 hd2 hx2 p N2 hN2 => ?_) fun σ8 H15 p => ?_
    · obtain ⟨m, em, ekm, ⟨o5, o10, rfl⟩, s15, h4d, ha15, ht15⟩ := p
      rw [List.getElem?_map] at hd2
      obtain ⟨pp, hpp, rfl⟩ : ∃ pp, k.sheet[j]? = some pp ∧ encP pp = d2 := by
        cases e : k.sheet[j]? with
        | none => rw [e] at hd2; cases hd2
        | some pp => rw [e] at hd2; exact ⟨pp, rfl, Option.some.inj hd2⟩
      have pm := List.mem_of_getElem? hpp
      have hnx2 : (k.sheet.take (j + 1)).foldl (addS (turnOf k.made k.apart (getI st.2 k.nm))) st.2 = putS m pp.1 (getI m pp.1 + pp.2 * turnOf k.made k.apart (getI st.2 k.nm)) := by
        rw [List.take_succ, hpp, List.foldl_append, ← em]
        rfl
      have min : pp.1 ∈ keysA m := by
        have z := ain pp pm
        rw [hk6] at z
        rw [ekm]
        exact z
      obtain ⟨ct1, ct2⟩ := ok.ct k (sub k mk) pp pm
      refine g_pair hx2 fun y1 y2 f1 f2 => ?_
      refine s_dputS (i := 2) (m := m) (k := pp.1) (v := getI m pp.1 + pp.2 * turnOf k.made k.apart (getI st.2 k.nm)) rfl (ed_opI (ed_dgetS (i := 2) rfl ha15 (ed_var (i := 5) rfl f1) (getS_some min)) (ed_opC (ed_var (i := 10) rfl f2) (ed_var (i := 11) rfl dd_int) (.inl (by omega)))) (ed_var (i := 5) rfl f1) ha15 ?_ fun H16 s16 => ?_
      · have l : (keysA m).length = m.length := List.length_map _
        have l2 : (keysA (asksL S wish)).length = (asksL S wish).length := List.length_map _
        rw [ekm] at l
        omega
      · have kd16 : KD H15 (upd H16 pa (.dK (SI (putS m pp.1 (getI m pp.1 + pp.2 * turnOf k.made k.apart (getI st.2 k.nm)))))) := (Same.kd s16).trans (KD.upd (s16 _ _ ha15))
        refine hN2 _ _ kd16 ⟨_, hnx2.symm, by rw [keysA_put min]; exact ekm, ⟨_, _, rfl⟩, Same.mut (s15.trans s16) fa, DD.kd kd16 _ _ h4d, upd_same, ?_⟩
        rw [upd_ne (Ne.symm nat)]
        exact s16 _ _ ht15
    · obtain ⟨m, em, ekm, ⟨o5, o10, rfl⟩, s15, h4d, ha15, ht15⟩ := p
      rw [List.length_map, List.take_length] at em
      have eN : S.packs.length - i = (S.packs.length - (i + 1)) + 1 := by omega
      have hlt := rest_one hnd mk
      rw [← eR'] at hlt
      refine hN _ _ ⟨R', v4, stepK st k, ⟨_, _, _, _, _, _, _, _, rfl⟩, s15, h4d, ht15, ?_, ?_, ?_, ?_, by omega, ?_, by omega, ?_⟩
      · rw [em] at ha15
        exact ha15
      · have := putS_len st.1 k.nm (turnOf k.made k.apart (getI st.2 k.nm))
        show (putS st.1 k.nm _).length ≤ i + 1
        omega
      · show keysA (k.sheet.foldl _ st.2) = _
        rw [← em]
        exact ekm
      · intro j hj
        rw [eR'] at hj
        exact sub j (List.mem_filter.mp hj).1
      · rw [eN, lawOrd_succ, eL] at heq
        exact heq
      · rw [eR']
        exact (List.filter_sublist.map _).nodup hnd
  obtain ⟨R, vR, st, ⟨o5, o6, o7, o8, o9, o10, o11, o12, rfl⟩, s6, hR, ht6, ha6, _, _, _, _, heq, _, _⟩ := p
  rw [Nat.sub_self] at heq
  have e : st = lawP S wish := heq
  dsimp only
  refine ⟨_, rfl, _, rfl, by rw [sizeLine_eq]; show 2 ≤ _; omega, fun t ht => ?_⟩
  have s7 : Same H6 (upd H6 t (.tup [.ref pt, .ref pa])) := Same.new ht
  refine q t pt pa _ (s6.trans s7) upd_same (s7 _ _ ?_) (s7 _ _ ?_)
  · rw [← e]; exact ht6
  · rw [← e]; exact ha6
end
end KL

/-! ## due, with, rising -/
namespace KL
open PySem PySem.Spec PyProof.Rows L2
theorem lawOrd_sub : ∀ (n : Nat) (R : List Pack), ∀ k ∈ lawOrd n R, k ∈ R
  | 0, _, _, h => by cases h
  | n + 1, R, k, h => by
    rw [lawOrd_succ] at h
    unfold lapK at h
    cases e : R.filter (freeB R) with
    | nil => rw [e] at h; cases h
    | cons k0 l =>
      rw [e] at h
      rcases List.mem_cons.mp h with h | h
      · rw [h]
        exact (List.mem_filter.mp (show k0 ∈ R.filter (freeB R) by rw [e]; exact List.mem_cons_self)).1
      · exact (List.mem_filter.mp (lawOrd_sub n _ k h)).1
theorem lawOrd_mem {S : List Pack} (wf : Wf S) : ∀ (n : Nat) (R : List Pack), R.length ≤ n → (R.map fun k : Pack => k.nm).Nodup → (∀ k ∈ R, k ∈ S) → ∀ k ∈ R, k ∈ lawOrd n R
  | 0, R, hn, _, _, k, hk => by
    rw [List.eq_nil_of_length_eq_zero (Nat.le_zero.mp hn)] at hk
    cases hk
  | n + 1, R, hn, nd, hs, k, hk => by
    have ne : R ≠ [] := fun z => by rw [z] at hk; cases hk
    obtain ⟨k0, l, R', eF, eL, eR, m0⟩ := lapK_some wf ne hs
    rw [lawOrd_succ, eL]
    show k ∈ k0 :: lawOrd n R'
    by_cases e : k.nm = k0.nm
    · have : k = k0 := by
        have key : ∀ {L : List Pack}, (L.map fun k : Pack => k.nm).Nodup → k ∈ L → k0 ∈ L → k = k0 := by
          intro L
          induction L with
          | nil => intro _ h _; cases h
          | cons j L ih =>
            intro nd h1 h2
            have nd' := List.nodup_cons.mp (show (j.nm :: L.map fun k : Pack => k.nm).Nodup from nd)
            rcases List.mem_cons.mp h1 with h1 | h1
            · rcases List.mem_cons.mp h2 with h2 | h2
              · rw [h1, h2]
              · exact absurd (List.mem_map_of_mem (f := fun k : Pack => k.nm) h2) (by show ¬ k0.nm ∈ _; rw [← e, h1]; exact nd'.1)
            · rcases List.mem_cons.mp h2 with h2 | h2
              · exact absurd (List.mem_map_of_mem (f := fun k : Pack => k.nm) h1) (by show ¬ k.nm ∈ _; rw [e, h2]; exact nd'.1)
              · exact ih nd'.2 h1 h2
        exact key nd hk m0
      rw [this]
      exact List.mem_cons_self
    · refine List.mem_cons_of_mem _ (lawOrd_mem wf n R' ?_ ?_ ?_ k ?_)
      · have := rest_one nd m0
        rw [← eR] at this
        omega
      · rw [eR]
        exact (List.filter_sublist.map _).nodup nd
      · intro j hj
        rw [eR] at hj
        exact hs j (List.mem_filter.mp hj).1
      · rw [eR]
        exact List.mem_filter.mpr ⟨hk, by rw [decide_eq_false e]; rfl⟩
theorem lawP_keys1 {S : Shop} (ok : ShopOk S) (wish : AL) {k : Pack} (hk : k ∈ S.packs) : k.nm ∈ keysA (lawP S wish).1 :=
  fold_keys1 (.inr (List.mem_map_of_mem (lawOrd_mem ok.wf _ _ (Nat.le_refl _) ok.ndK (fun _ h => h) k hk)))
theorem lawP_keys2 {S : Shop} (ok : ShopOk S) (wish : AL) {n : Str} (hn : n ∈ bNames S ++ kNames S) : n ∈ keysA (lawP S wish).2 := by
  unfold lawP
  rw [fold_keys2]
  · exact mem_asksL hn
  · intro k hk p hp
    exact mem_asksL (ok.cl k (lawOrd_sub _ _ _ hk) p hp)
def withA (wish : AL) (item : Str) : AL :=
  let book := putAll [] wish
  let book2 := putS book item ((getS book item).getD 0 + 1)
  (srtS (keysA book2)).map fun n => (n, getI book2 n)
def toldA (a b c : AL) : PyData := .tuple [.tuple (a.map encP), .tuple (b.map encP), .tuple (c.map encP)]
/-- the law's asking that all rises -/
structure Rises (a b c a2 b2 c2 : AL) : Prop where
  r1 : ∀ (i : Nat) (x y : Str × Int), a[i]? = some x → a2[i]? = some y → ¬ y.2 < x.2
  r2 : ∀ (i : Nat) (x y : Str × Int), b[i]? = some x → b2[i]? = some y → ¬ y.2 < x.2
  r3 : ∀ (i : Nat) (x y : Str × Int), c[i]? = some x → c2[i]? = some y → ¬ x.2 < y.2
section
variable {P : Program} {w : World} {K : PySem.W.Frag} {mg : Str → Option Value} {base : Heap}
theorem d__law_due (T : Txt K mg) : Def P w K mg base CX0 3 "_law_due" (spD fun ds d => ∃ S wish, ds = [encS S, .tuple (wish.map encP)] ∧ ShopOk S ∧ wish.length ≤ 1000 ∧ d = toldD S (lawP S wish)) := by
  refine mk_pure T.a__law_due sc_law_due (fun _ _ _ _ _ _ us hl => match us, hl with | [_, _], _ => rfl) (fun ds d ⟨_, _, e, _⟩ => by rw [e]; rfl) fun f cdv A outer s H vs ds d E hr r hv => ?_
  obtain ⟨S, wish, rfl, ok, hwl, rfl⟩ := r
  obtain ⟨vS, vW, rfl, hS, hW⟩ := hv.two
  have sz := ok.sz
  refine ⟨_, (pss_cons (ps_asg (pe_d (d__law_net T) hr (by decide) (by rfl) pass0 (pa_cons (pv 0) (pa_cons (pv 1) pa_nil))) (pg_tup (n := 2) rfl (pgs_cons (pg_name (i := 2) sc_law_due.nd rfl (Or.inr rfl)) (pgs_cons (pg_name (i := 3) sc_law_due.nd rfl (Or.inr rfl)) pgs_nil))))
      (pss_cons (ps_set (i := 4) sc_law_due.nd rfl (Or.inl rfl) (pe_callB cr_sortedS (by rfl) T.n_sorted (by decide +kernel) (pa_cons (pe_lc rfl sc_law_due.nd (pi_tup (pe_op op_catA (pe_ix ix_tup (pv 0) pe_int (fun _ _ => rfl)) (pe_ix ix_tup (pv 0) pe_int (fun _ _ => rfl)))) (blkOk_by (own := [("_law_one", 7)]) (N := ["_law_store", "_law_wish", "_law_turns", "_law_asked", "_law_items", "_law_left_here", "_law_pairs", "_law_one", "_law_stock", "_law_pack_here"]) (sc := defScope s__law_due) (by decide +kernel)) (fun _ _ _ _ _ => (pg_name (i := 7) sc_law_due.nd rfl (Or.inl rfl) (hf := Or.inr rfl))) (fun _ _ _ _ _ => pts_nil) (fun _ _ _ _ _ => (pe_ix (r := rIxT K) ix_tup (pv 7) pe_int (fun _ _ => rfl)))) pa_nil)))
      (pss_cons (ps_setLc (i := 5) rfl sc_law_due.nd rfl rfl (sw_true rfl rfl rfl (by decide +kernel)) (pi_tup (pe_ix ix_tup (pv 0) pe_int (fun _ _ => rfl))) (blkOk_by (own := [("_law_one", 7), ("_law_stock", 8)]) (N := ["_law_store", "_law_wish", "_law_turns", "_law_asked", "_law_items", "_law_left_here", "_law_pairs", "_law_one", "_law_stock", "_law_pack_here"]) (sc := defScope s__law_due) (by decide +kernel)) (fun _ _ _ _ _ => (pg_tup (n := 2) rfl (pgs_cons (pg_name (i := 7) sc_law_due.nd rfl (Or.inl rfl) (hf := Or.inr rfl)) (pgs_cons (pg_name (i := 8) sc_law_due.nd rfl (Or.inl rfl) (hf := Or.inr rfl)) pgs_nil)) : PG _ _ (gTup K 2 _))) (fun _ _ _ _ _ => pts_nil) (fun _ _ _ _ _ => (pe_tup (pa_cons (pv 7) (pa_cons (pe_op op_sub (pv 8) (pe_dget (hu_of hr) (pv 3) (pv 7) (fun _ _ => rfl))) pa_nil)))))
      (pss_cons (ps_set (i := 6) sc_law_due.nd rfl (Or.inl rfl) (pe_callTy call_tuple_of (by rfl) T.n_tuple (by decide +kernel) (pa_cons (pe_lc rfl sc_law_due.nd (pi_tup (pe_ix ix_tup (pv 0) pe_int (fun _ _ => rfl))) (blkOk_by (own := [("_law_pack_here", 9)]) (N := ["_law_store", "_law_wish", "_law_turns", "_law_asked", "_law_items", "_law_left_here", "_law_pairs", "_law_one", "_law_stock", "_law_pack_here"]) (sc := defScope s__law_due) (by decide +kernel)) (fun _ _ _ _ _ => (pg_name (i := 9) sc_law_due.nd rfl (Or.inl rfl) (hf := Or.inr rfl))) (fun _ _ _ _ _ => pts_nil) (fun _ _ _ _ _ => (pe_tup (pa_cons (pe_ix (r := rIxT K) ix_tup (pv 9) pe_int (fun _ _ => rfl)) (pa_cons (pe_dget (hu_of hr) (pv 2) (pe_ix (r := rIxT K) ix_tup (pv 9) pe_int (fun _ _ => rfl)) (fun _ _ => rfl)) pa_nil))))) pa_nil)))
      (pss_one (ps_ret (pe_tup (pa_cons (pv 6) (pa_cons (pe_callTy call_tuple_of (by rfl) T.n_tuple (by decide +kernel) (pa_cons (pe_lc rfl sc_law_due.nd (pi_list (pv 4)) (blkOk_by (own := [("_law_one", 7)]) (N := ["_law_store", "_law_wish", "_law_turns", "_law_asked", "_law_items", "_law_left_here", "_law_pairs", "_law_one", "_law_stock", "_law_pack_here"]) (sc := defScope s__law_due) (by decide +kernel)) (fun _ _ _ _ _ => (pg_name (i := 7) sc_law_due.nd rfl (Or.inl rfl) (hf := Or.inr rfl))) (fun _ _ _ _ _ => pts_nil) (fun _ _ _ _ _ => (pe_tup (pa_cons (pv 7) (pa_cons (pe_dget (hu_of hr) (pv 3) (pv 7) (fun _ _ => rfl)) pa_nil))))) pa_nil)) (pa_cons (pe_callTy call_tuple_of (by rfl) T.n_tuple (by decide +kernel) (pa_cons (pv 5) pa_nil)) pa_nil)))))))))), fun Q q => ?_⟩
  refine ⟨_, rfl, _, rfl, ?_⟩
  refine ⟨S, wish, vS, vW, rfl, ok, hS, hW, hwl, fun t pt pa H1 s1 ht hpt hpa => ?_⟩
  refine ⟨t, _, rfl, .inl (.inl ht), rfl, _, _, rfl, _, _, rfl, rfl, ?_⟩
  dsimp only
  refine sq ?_
  have hS1 := DD.same s1 _ _ hS
  refine s_setD (d := .list ((srtS (bNames S)).map PyData.str)) (ed_srtS1 (ED.is (ed_lcT (f := fun d => some (.str (nmD d))) (ed_catT (ed_ixT (j := 0) (ed_var rfl hS1) rfl) (ed_ixT (j := 1) (ed_var rfl hS1) rfl) ?_) ?_ (fun d hd e he => by cases he; rfl) fun d hd => ?_) ?_) ?_) fun v4 H2 s2 h2 => ?_
  · rw [List.length_map, List.length_map]; have := sz.parts; have := sz.choices; omega
  · rw [List.length_append, List.length_map, List.length_map]; have := sz.parts; have := sz.choices; omega
  · refine turn_n (fun _ => rfl) fun x H3 s3 hx => ?_
    rcases List.mem_append.mp hd with hd | hd
    · obtain ⟨p, _, rfl⟩ := List.mem_map.mp hd
      exact ed_ixT (j := 0) (ed_var rfl hx) rfl
    · obtain ⟨p, _, rfl⟩ := List.mem_map.mp hd
      exact ed_ixT (j := 0) (ed_var rfl hx) rfl
  · rw [map_some fun _ _ => rfl]
    unfold bNames pNames cNames
    rw [List.map_append, List.map_append, List.map_map, List.map_map, List.map_map, List.map_map]
    rfl
  · unfold bNames pNames cNames
    rw [List.length_append, List.length_map, List.length_map]
    have := sz.parts
    have := sz.choices
    omega
  dsimp only
  refine sq ?_
  have hS2 := DD.same s2 _ _ hS1
  refine s_setD (d := .list (S.parts.map fun p => encP (p.1, p.2 - getI (lawP S wish).2 p.1))) (ED.is (ed_lcT (f := fun d => match d with | .tuple [.str n, .int z] => some (encP (n, z - getI (lawP S wish).2 n)) | _ => none) (ed_ixT (j := 0) (ed_var rfl hS2) rfl) (by rw [List.length_map]; have := sz.parts; omega) (fun d hd e he => ?_) fun d hd => ?_) ?_) fun v5 H3 s3 h3 => ?_
  · obtain ⟨p, _, rfl⟩ := List.mem_map.mp hd
    cases he; rfl
  · obtain ⟨p, hp, rfl⟩ := List.mem_map.mp hd
    have hl := getS_some (lawP_keys2 ok wish (List.mem_append_left _ (List.mem_append_left _ (List.mem_map_of_mem (f := fun p : Str × Int => p.1) hp))))
    exact turn_p (fun _ _ => rfl) fun x y H6 s6 hx hy => ed_tup (ea_cons (ed_var rfl hx) (ea_cons (ed_opI (ed_var rfl hy) (ed_dgetS rfl ((s2.trans s6) _ _ hpa) (ed_var rfl hx) hl)) ea_nil)) (by show 2 ≤ 1000; omega)
  · rw [List.filterMap_map]
    exact congrArg PyData.list (map_some (g := fun p : Str × Int => encP (p.1, p.2 - getI (lawP S wish).2 p.1)) fun _ _ => rfl)
  dsimp only
  refine sq ?_
  have hS3 := DD.same s3 _ _ hS2
  refine s_setD (d := .tuple (S.packs.map fun k => encP (k.nm, getI (lawP S wish).1 k.nm))) (ed_tupleL (ED.is (ed_lcT (f := fun d => some (encP (nmD d, getI (lawP S wish).1 (nmD d)))) (ed_ixT (j := 2) (ed_var rfl hS3) rfl) (by rw [List.length_map]; have := sz.packs; omega) (fun d _ e he => by cases he; rfl) fun d hd => ?_) ?_)) fun v6 H4 s4 h4 => ?_
  · obtain ⟨k, hk, rfl⟩ := List.mem_map.mp hd
    refine turn_n (fun _ => rfl) fun x H5 s5 hx => ed_tup (ea_cons (ed_ixT (j := 0) (ed_var rfl hx) rfl) (ea_cons (ed_dgetS rfl (((s2.trans s3).trans s5) _ _ hpt) (ed_ixT (j := 0) (ed_var rfl hx) rfl) (getS_some (lawP_keys1 ok wish hk))) ea_nil)) (by show 2 ≤ 1000; omega)
  · rw [map_some fun _ _ => rfl, List.map_map]
    rfl
  dsimp only
  have h2' := DD.same (s3.trans s4) _ _ h2
  refine s_retD (ed_tup (ea_cons (ed_var (i := 6) rfl h4) (ea_cons (ed_tupleL (ds := (srtS (bNames S)).map fun n => encP (n, getI (lawP S wish).2 n)) (ED.is (ed_lcL (f := fun d => match d with | .str n => some (encP (n, getI (lawP S wish).2 n)) | _ => none) (ed_var (i := 4) rfl h2') ?_ (fun d hd e he => ?_) fun d hd => ?_) ?_)) (ea_cons (ed_tupleL (ed_var (i := 5) rfl (DD.same s4 _ _ h3))) ea_nil))) (by show 3 ≤ 1000; omega)) fun v7 H5 s5 h5 => q v7 H5 ((((s1.trans s2).trans s3).trans s4).trans s5) h5
  · rw [List.length_map, srtS_len]
    unfold bNames pNames cNames
    rw [List.length_append, List.length_map, List.length_map]
    have := sz.parts
    have := sz.choices
    omega
  · obtain ⟨n, _, rfl⟩ := List.mem_map.mp hd
    cases he; rfl
  · obtain ⟨n, hn', rfl⟩ := List.mem_map.mp hd
    exact turn_n (fun _ => rfl) fun x H5 s5 hx => ed_tup (ea_cons (ed_var rfl hx) (ea_cons (ed_dgetS rfl ((((s2.trans s3).trans s4).trans s5) _ _ hpa) (ed_var rfl hx) (getS_some (lawP_keys2 ok wish (List.mem_append_left _ (srtS_mem.mp hn'))))) ea_nil)) (by show 2 ≤ 1000; omega)
  · rw [List.filterMap_map]
    exact congrArg PyData.list (map_some (g := fun n => encP (n, getI (lawP S wish).2 n)) fun _ _ => rfl)
theorem d__law_with (T : Txt K mg) : Def P w K mg base CX0 1 "_law_with" (spD fun ds d => ∃ wish item, ds = [.tuple (wish.map encP), .str item] ∧ wish.length ≤ 50 ∧ d = .tuple ((withA wish item).map encP)) := by
  refine mk_pure T.a__law_with sc_law_with (fun _ _ _ _ _ _ us hl => match us, hl with | [_, _], _ => rfl) (fun ds d ⟨_, _, e, _⟩ => by rw [e]; rfl) fun f cdv A outer s H vs ds d E hr r hv => ?_
  obtain ⟨wish, item, rfl, hwl, rfl⟩ := r
  obtain ⟨vW, vI, rfl, hW, hI⟩ := hv.two
  obtain rfl := hI.str_eq
  refine ⟨_, (pss_cons (ps_set (i := 2) sc_law_with.nd rfl (Or.inr rfl) (pe_callTy (call_dictP rfl) (by rfl) T.n_dict (by decide +kernel) (pa_cons (pe_callTy call_list_of (by rfl) T.n_list (by decide +kernel) (pa_cons (pv 0) pa_nil)) pa_nil)))
      (pss_cons (ps_dput (hu_of hr) (pv 2) (pv 1) (pe_op op_add (pe_dget2 (hu_of hr) (pv 2) (pv 1) pe_int ⟨rfl, rfl, rfl, rfl⟩) pe_int) rfl)
      (pss_one (ps_ret (pe_callTy call_tuple_of (by rfl) T.n_tuple (by decide +kernel) (pa_cons (pe_lc rfl sc_law_with.nd (pi_list (pe_callB cr_sortedS (by rfl) T.n_sorted (by decide +kernel) (pa_cons (pe_callTy (call_listD rfl) (by rfl) T.n_list (by decide +kernel) (pa_cons (pv 2) pa_nil)) pa_nil))) (blkOk_by (own := [("_law_one", 3)]) (N := ["_law_wish", "_law_item", "_law_book", "_law_one"]) (sc := defScope s__law_with) (by decide +kernel)) (fun _ _ _ _ _ => (pg_name (i := 3) sc_law_with.nd rfl (Or.inl rfl) (hf := Or.inr rfl))) (fun _ _ _ _ _ => pts_nil) (fun _ _ _ _ _ => (pe_tup (pa_cons (pv 3) (pa_cons (pe_dget (hu_of hr) (pv 2) (pv 3) (fun _ _ => rfl)) pa_nil))))) pa_nil)))))), fun Q q => ?_⟩
  refine sq ?_
  refine s_setDic (dic_dictP (ed_listT (ed_var rfl hW))) fun pb H1 kvs s1 n1 hb hk => ?_
  obtain rfl := hk.ints
  have eb : wish.foldl (fun a p => putS a p.1 p.2) [] = putAll [] wish := rfl
  rw [eb] at hb
  clear hk eb
  have lb := putAll_len wish []
  rw [List.length_nil, Nat.zero_add] at lb
  dsimp only
  refine sq ?_
  refine s_dputS (i := 2) (m := putAll [] wish) (k := item) (v := (getS (putAll [] wish) item).getD 0 + 1) rfl (ed_opI (ed_dget2S (i := 2) rfl hb (ed_var rfl dd_str) ed_int) ed_int) (ed_var rfl dd_str) hb (by omega) fun H2 s2 => ?_
  have h2 : Same H (upd H2 pb (.dK (SI (putS (putAll [] wish) item ((getS (putAll [] wish) item).getD 0 + 1))))) := Same.mut (s1.trans s2) n1
  have l2 := putS_len (putAll [] wish) item ((getS (putAll [] wish) item).getD 0 + 1)
  dsimp only
  have ll : (keysA (putS (putAll [] wish) item ((getS (putAll [] wish) item).getD 0 + 1))).length ≤ 51 := by
    unfold keysA
    rw [List.length_map]
    omega
  refine s_retD (ed_tupleL (ED.is (ed_lcL (f := fun d => match d with | .str n => some (encP (n, getI (putS (putAll [] wish) item ((getS (putAll [] wish) item).getD 0 + 1)) n)) | _ => none) (ed_srtS1 (ed_listD (i := 2) (m := putS (putAll [] wish) item ((getS (putAll [] wish) item).getD 0 + 1)) rfl upd_same) (by omega)) (by rw [List.length_map, srtS_len]; omega) (fun d hd e he => ?_) fun d hd => ?_) ?_)) fun v7 H5 s5 h5 => q v7 H5 (h2.trans s5) h5
  · obtain ⟨n, _, rfl⟩ := List.mem_map.mp hd
    cases he; rfl
  · obtain ⟨n, hn', rfl⟩ := List.mem_map.mp hd
    exact turn_n (fun _ => rfl) fun x H5 s5 hx => ed_tup (ea_cons (ed_var rfl hx) (ea_cons (ed_dgetS (i := 2) rfl (s5 _ _ upd_same) (ed_var rfl hx) (getS_some (srtS_mem.mp hn'))) ea_nil)) (by show 2 ≤ 1000; omega)
  · rw [List.filterMap_map]
    unfold withA
    rw [List.map_map]
    exact congrArg PyData.list (map_some (g := fun n => encP (n, getI (putS (putAll [] wish) item ((getS (putAll [] wish) item).getD 0 + 1)) n)) fun _ _ => rfl)
theorem turn_zf {te : TE} {tt : TT} {vs : List Nat} {i j : Nat} {σ : L2.St} {H : Hp} {d e : PyData} (hw : ∀ x y, wipe (((wipe σ vs).set i (some x)).set j (some y)) vs = wipe σ vs)
    (ht : ∀ x y H1, Same H H1 → DD H1 d x → DD H1 e y → ET tt (((wipe σ vs).set i (some x)).set j (some y)) H1 false) : TurnZ tt te vs i j σ H d e (if false = true then some .none else none) :=
  fun x y H1 s1 hx hy Nx Kp k1 _ => ⟨hw x y, ht x y H1 s1 hx hy H1 (L2.Same.refl H1) _ fun H3 s3 => iteF (k1 H3 s3 rfl)⟩
theorem none_zip {n : Nat} {f : Nat → Option PyData} (h : ∀ k, k < n → f k = none) : (List.range n).filterMap f = [] := by
  rw [List.filterMap_eq_nil_iff]
  intro k hk
  exact h k (List.mem_range.mp hk)
theorem d__law_is_rising (T : Txt K mg) : Def P w K mg base CX0 1 "_law_is_rising" (spD fun ds d => ∃ a b c a2 b2 c2 : AL, ds = [toldA a b c, toldA a2 b2 c2] ∧ a.length ≤ 100 ∧ b.length ≤ 100 ∧ c.length ≤ 100 ∧ Rises a b c a2 b2 c2 ∧ d = .bool true) := by
  refine mk_pure T.a__law_is_rising sc_law_is_rising (fun _ _ _ _ _ _ us hl => match us, hl with | [_, _], _ => rfl) (fun ds d ⟨_, _, _, _, _, _, e, _⟩ => by rw [e]; rfl) fun f cdv A outer s H vs ds d E hr r hv => ?_
  obtain ⟨a, b, c, a2, b2, c2, rfl, la, lb, lc, R, rfl⟩ := r
  obtain ⟨v1, v2, rfl, h1, h2⟩ := hv.two
  refine ⟨_, (pss_cons (ps_for PassesOwn.never rfl (pi_tup (pe_tup (pa_cons pe_int (pa_cons pe_int pa_nil)))) (pg_name (i := 2) sc_law_is_rising.nd rfl (Or.inl rfl)) (pss_one (ps_if (pt_cmpR (op_neD hr.units) (pe_lc rfl sc_law_is_rising.nd (RZ.pi_zipA (by rfl) T.n_zip (pa_cons (pe_ix ix_tup (pv 0) (pv 2) (fun _ _ => rfl)) (pa_cons (pe_ix ix_tup (pv 1) (pv 2) (fun _ _ => rfl)) pa_nil))) (blkOk_by (own := [("_law_pair", 3), ("_law_other", 4)]) (N := ["_law_told", "_law_late", "_law_k", "_law_pair", "_law_other"]) (sc := defScope s__law_is_rising) (by decide +kernel)) (fun _ _ _ _ _ => (pg_tup (n := 2) rfl (pgs_cons (pg_name (i := 3) sc_law_is_rising.nd rfl (Or.inl rfl) (hf := Or.inr rfl)) (pgs_cons (pg_name (i := 4) sc_law_is_rising.nd rfl (Or.inl rfl) (hf := Or.inr rfl)) pgs_nil)) : PG _ _ (gTup K 2 _))) (fun _ _ _ _ _ => (pts_one (pt_cmpR op_lt (pe_ix (r := rIxT K) ix_tup (pv 4) pe_int (fun _ _ => rfl)) (pe_ix (r := rIxT K) ix_tup (pv 3) pe_int (fun _ _ => rfl)) (nomark _)))) (fun _ _ _ _ _ => (pv 3))) (pe_lst pa_nil) (nomark _)) (pss_one (ps_ret pe_bl)) pss_nil)))
      (pss_one (ps_ret (pe_cmpR (op_eqD hr.units) (pe_lc rfl sc_law_is_rising.nd (RZ.pi_zipA (by rfl) T.n_zip (pa_cons (pe_ix ix_tup (pv 0) pe_int (fun _ _ => rfl)) (pa_cons (pe_ix ix_tup (pv 1) pe_int (fun _ _ => rfl)) pa_nil))) (blkOk_by (own := [("_law_pair", 3), ("_law_other", 4)]) (N := ["_law_told", "_law_late", "_law_k", "_law_pair", "_law_other"]) (sc := defScope s__law_is_rising) (by decide +kernel)) (fun _ _ _ _ _ => (pg_tup (n := 2) rfl (pgs_cons (pg_name (i := 3) sc_law_is_rising.nd rfl (Or.inl rfl) (hf := Or.inr rfl)) (pgs_cons (pg_name (i := 4) sc_law_is_rising.nd rfl (Or.inl rfl) (hf := Or.inr rfl)) pgs_nil)) : PG _ _ (gTup K 2 _))) (fun _ _ _ _ _ => (pts_one (pt_cmpR op_gt (pe_ix (r := rIxT K) ix_tup (pv 4) pe_int (fun _ _ => rfl)) (pe_ix (r := rIxT K) ix_tup (pv 3) pe_int (fun _ _ => rfl)) (nomark _)))) (fun _ _ _ _ _ => (pv 3))) (pe_lst pa_nil) (nomark _))))), fun Q q => ?_⟩
  refine sq ?_
  refine s_forT (ds := [.int 0, .int 1]) (ed_tup (ea_cons ed_int (ea_cons ed_int ea_nil)) (by show 2 ≤ 1000; omega)) (fun i σ' H' => Same H H' ∧ ∃ o2, σ' = [some v1, some v2, o2, none, none]) (fun H1 s1 => ⟨s1, _, rfl⟩) (fun i d x σ' H1 hd hx p N hN => ?_) fun σ' H1 p => ?_
  · obtain ⟨s1, o2, rfl⟩ := p
    have h1' := DD.same s1 _ _ h1
    have h2' := DD.same s1 _ _ h2
    have go : ∀ (j : Nat) (m m2 : AL), m.length ≤ 100 → [PyData.tuple (a.map encP), .tuple (b.map encP), .tuple (c.map encP)][j]? = some (.tuple (m.map encP)) → [PyData.tuple (a2.map encP), .tuple (b2.map encP), .tuple (c2.map encP)][j]? = some (.tuple (m2.map encP)) →
        (∀ (i : Nat) (x y : Str × Int), m[i]? = some x → m2[i]? = some y → ¬ y.2 < x.2) → ED (tLc (RZ.iZipA K (tCons (tOp (rIxT K) (tVar 0) (tVar 2)) (tCons (tOp (rIxT K) (tVar 1) (tVar 2)) tNil))) (gTup K 2 (gCons (gName 3) (gCons (gName 4) gNil))) (tTest (tOp (rI0 fun i j => .bl (decide (i < j))) (tOp (rIxT K) (tVar 4) (tC (.int 1))) (tOp (rIxT K) (tVar 3) (tC (.int 1))))) (tVar 3) [3, 4]) [some v1, some v2, some (.int (j : Int)), none, none] H1 (.list []) := by
      intro j m m2 lm e1 e2 le
      refine ED.is (ed_lcZ (f := fun _ => if false = true then some .none else none) (ea_cons (ed_ixTv (ed_var rfl h1') (ed_var rfl dd_int) e1) (ea_cons (ed_ixTv (ed_var rfl h2') (ed_var rfl dd_int) e2) ea_nil)) (by rw [List.length_map]; omega) (fun k _ e he => by cases he) fun k d e hd he => ?_) (congrArg PyData.list (none_zip fun _ _ => rfl))
      rw [List.getElem?_map] at hd he
      cases q1 : m[k]? with
      | none => rw [q1] at hd; cases hd
      | some x =>
        cases q2 : m2[k]? with
        | none => rw [q2] at he; cases he
        | some y =>
          rw [q1] at hd
          rw [q2] at he
          obtain rfl : encP x = d := Option.some.inj hd
          obtain rfl : encP y = e := Option.some.inj he
          refine turn_zf (fun _ _ => rfl) fun x1 y1 H3 s3 hx3 hy3 => ET.is (et_test (ed_opB (ed_ixT (j := 1) (ed_var (i := 4) rfl hy3) rfl) (ed_ixT (j := 1) (ed_var (i := 3) rfl hx3) rfl))) (decide_eq_false (le k x y q1 q2))
    match i, hd with
    | 0, hd =>
      obtain rfl : PyData.int 0 = d := Option.some.inj hd
      obtain rfl := hx.int_eq
      refine s_ifD (b := false) (et_test (ED.is (ed_neD (go 0 a a2 la rfl rfl R.r1) (ed_lst ea_nil (by decide)) (by decide) (by decide)) rfl)) (fun z => by cases z) fun _ H2 s2 => hN _ _ (Same.kd s2) ⟨s1.trans s2, _, rfl⟩
    | 1, hd =>
      obtain rfl : PyData.int 1 = d := Option.some.inj hd
      obtain rfl := hx.int_eq
      refine s_ifD (b := false) (et_test (ED.is (ed_neD (go 1 b b2 lb rfl rfl R.r2) (ed_lst ea_nil (by decide)) (by decide) (by decide)) rfl)) (fun z => by cases z) fun _ H2 s2 => hN _ _ (Same.kd s2) ⟨s1.trans s2, _, rfl⟩
    | n + 2, hd => cases hd
  · obtain ⟨s1, o2, rfl⟩ := p
    have h1' := DD.same s1 _ _ h1
    have h2' := DD.same s1 _ _ h2
    dsimp only
    refine s_retD (d := .bool true) (ED.is (ed_eqD (d := .list []) (ED.is (ed_lcZ (f := fun _ => if false = true then some .none else none) (ea_cons (ed_ixT (j := 2) (ed_var rfl h1') rfl) (ea_cons (ed_ixT (j := 2) (ed_var rfl h2') rfl) ea_nil)) (by rw [List.length_map]; omega) (fun k _ e he => by cases he) fun k d e hd he => ?_) (congrArg PyData.list (none_zip fun _ _ => rfl))) (ed_lst ea_nil (by decide)) (by decide) (by decide)) rfl) fun v3 H3 s3 h3 => q v3 H3 (s1.trans s3) h3
    rw [List.getElem?_map] at hd he
    cases q1 : c[k]? with
    | none => rw [q1] at hd; cases hd
    | some x =>
      cases q2 : c2[k]? with
      | none => rw [q2] at he; cases he
      | some y =>
        rw [q1] at hd
        rw [q2] at he
        obtain rfl : encP x = d := Option.some.inj hd
        obtain rfl : encP y = e := Option.some.inj he
        refine turn_zf (fun _ _ => rfl) fun x1 y1 H3 s3 hx3 hy3 => ET.is (et_test (ed_opB (g := fun i j => decide (j < i)) (ed_ixT (j := 1) (ed_var (i := 4) rfl hy3) rfl) (ed_ixT (j := 1) (ed_var (i := 3) rfl hx3) rfl))) (decide_eq_false (R.r3 k x y q1 q2))
end
end KL

/-! ## the feed and its draws -/
namespace KL
open PySem PySem.Spec PyProof.Rows L2
structure FP where
  f : Addr
  c : Addr
  cells : List Int
def feedK (c : Addr) (spot rest turn : Int) : List (Key × V) := [(Sum.inr "cells", .ref c), (Sum.inr "spot", .int spot), (Sum.inr "rest", .int rest), (Sum.inr "turn", .int turn)]
def Feed (p : FP) (H : Hp) : Prop := ∃ spot rest turn : Int, H p.f = some (.dK (feedK p.c spot rest turn)) ∧ H p.c = some (.lst (p.cells.map V.int)) ∧ p.cells.length ≤ 63
theorem Feed.ne {p : FP} {H : Hp} (h : Feed p H) : p.f ≠ p.c := fun z => by
  obtain ⟨_, _, _, h1, h2, _⟩ := h
  rw [z, h2] at h1
  cases h1
/-- all but the feed stays; the feed is a feed before and behind -/
structure LF (p : FP) (H H' : Hp) : Prop where
  a : Feed p H
  b : Feed p H'
  k : ∀ b u, b ≠ p.f → H b = some u → H' b = some u
theorem LF.refl {p : FP} {H : Hp} (h : Feed p H) : LF p H H := ⟨h, h, fun _ _ _ e => e⟩
theorem LF.trans {p : FP} {H H1 H2 : Hp} (x : LF p H H1) (y : LF p H1 H2) : LF p H H2 := ⟨x.a, y.b, fun b u n e => y.k b u n (x.k b u n e)⟩
theorem Feed.same {p : FP} {H H' : Hp} (h : Feed p H) (s : Same H H') : Feed p H' := by
  obtain ⟨a, b, c, h1, h2, h3⟩ := h
  exact ⟨a, b, c, s _ _ h1, s _ _ h2, h3⟩
theorem LF.of_same {p : FP} {H H' : Hp} (h : Feed p H) (s : Same H H') : LF p H H' := ⟨h, h.same s, fun b u _ e => s b u e⟩
theorem LF.same {p : FP} {H H1 H2 : Hp} (x : LF p H H1) (s : Same H1 H2) : LF p H H2 := x.trans (LF.of_same x.b s)
theorem LF.fresh {p : FP} {H H' : Hp} (x : LF p H H') {l : Addr} (n : H' l = none) : H l = none := by
  cases e : H l with
  | none => rfl
  | some u =>
    by_cases z : l = p.f
    · obtain ⟨_, _, _, h1, _⟩ := x.b
      rw [z, h1] at n
      cases n
    · rw [x.k l u z e] at n
      cases n
theorem LF.kd {p : FP} {H H' : Hp} (x : LF p H H') : KD H H' := fun b u e n => x.k b u (fun z => by
  obtain ⟨_, _, _, h1, _⟩ := x.a
  rw [z, h1] at e
  exact n _ (Option.some.inj e).symm) e
theorem LF.dd {p : FP} {H H' : Hp} (x : LF p H H') {d : PyData} {v : V} (h : DD H d v) : DD H' d v := DD.kd x.kd _ _ h
theorem LF.dds {p : FP} {H H' : Hp} (x : LF p H H') {d : List PyData} {v : List V} (h : DDs H d v) : DDs H' d v := DDs.kd x.kd _ _ h
/-- the feed is written -/
theorem LF.put {p : FP} {H H1 : Hp} {a b c : Int} (x : LF p H H1) : LF p H (upd H1 p.f (.dK (feedK p.c a b c))) :=
  ⟨x.a, ⟨a, b, c, upd_same, by rw [upd_ne (Ne.symm x.b.ne)]; obtain ⟨_, _, _, _, h2, _⟩ := x.b; exact h2, by obtain ⟨_, _, _, _, _, h3⟩ := x.b; exact h3⟩, fun b u n e => by rw [upd_ne n]; exact x.k b u n e⟩
/-- a new object elsewhere, then changed -/
theorem LF.mut {p : FP} {H H1 : Hp} {D : Addr} {o : HO} (x : LF p H H1) (n : H D = none) : LF p H (upd H1 D o) := by
  obtain ⟨_, _, _, h1, h2, _⟩ := id x.a
  have n1 : p.f ≠ D := fun z => by rw [← z, h1] at n; cases n
  have n2 : p.c ≠ D := fun z => by rw [← z, h2] at n; cases n
  obtain ⟨i, j, l, g1, g2, g3⟩ := x.b
  exact ⟨x.a, ⟨i, j, l, by rw [upd_ne n1]; exact g1, by rw [upd_ne n2]; exact g2, g3⟩, fun b u nb e => by rw [upd_ne (ne_of_none e n)]; exact x.k b u nb e⟩
theorem val_turn (c : Addr) (a b t : Int) : valV (feedK c a b t) (Sum.inr "turn") = some (.int t) := rfl
theorem val_rest (c : Addr) (a b t : Int) : valV (feedK c a b t) (Sum.inr "rest") = some (.int b) := rfl
theorem val_spot (c : Addr) (a b t : Int) : valV (feedK c a b t) (Sum.inr "spot") = some (.int a) := rfl
theorem val_cells (c : Addr) (a b t : Int) : valV (feedK c a b t) (Sum.inr "cells") = some (.ref c) := rfl
theorem put_turn (c : Addr) (a b t x : Int) : putK (feedK c a b t) (Sum.inr "turn") (.int x) = feedK c a b x := rfl
theorem put_rest (c : Addr) (a b t x : Int) : putK (feedK c a b t) (Sum.inr "rest") (.int x) = feedK c a x t := rfl
theorem put_spot (c : Addr) (a b t x : Int) : putK (feedK c a b t) (Sum.inr "spot") (.int x) = feedK c x b t := rfl
section
variable {K : PySem.W.Frag} {σ : L2.St} {H : Hp} {ta tb te ty tv ti : TE} {aA : TA} {D : Ends} {g : TG} {d : PyData} {ds es : List PyData} {i : Nat} {a : Addr} {k : Str}
theorem ed_dgetK {kvs : List (Key × V)} {v : V} (hv : σ[i]? = some (some (.ref a))) (ha : H a = some (.dK kvs)) (hk : valV kvs (Sum.inr k) = some v) (hd : DD H d v) : ED (tDGet (tVar i) (tC (.str k))) σ H d := fun H1 s1 Q q =>
  ⟨.ref a, hv, a, v, rfl, by
    have g := DGet.k (k := (Sum.inr k : Key)) (s1 _ _ ha)
    rw [hk] at g
    exact g, q _ H1 (L2.Same.refl _) (DD.same s1 _ _ hd)⟩
theorem s_dputK {kvs : List (Key × V)} (hv : σ[i]? = some (some (.ref a))) (hval : ED tv σ H d) (ha : H a = some (.dK kvs)) (hl : kvs.length ≤ 10000) (kk : ∀ v H1, Same H H1 → DD H1 d v → D.nx σ (upd H1 a (.dK (putK kvs (Sum.inr k) v)))) : sDPut (tVar i) (tC (.str k)) tv D σ H :=
  hval H (L2.Same.refl H) _ fun w H1 s1 h1 => ⟨.ref a, hv, a, _, rfl, .inl ⟨kvs, Sum.inr k, s1 _ _ ha, rfl, by rw [sizeLine_eq]; omega, rfl⟩, kk w H1 s1 h1⟩
theorem ed_int1 {x : Int} (h : ED ta σ H (.int x)) : ED (tCB (fun xs H Q => (∃ i, xs = [.int i] ∧ Q (.int i) H) ∨ ∃ k, xs = [.bl k] ∧ Q (.int (if k then 1 else 0)) H) (tCons ta tNil)) σ H (.int x) := fun H1 m Q q =>
  h H1 m _ fun v H2 m2 h2 => .inl ⟨x, by rw [h2.int_eq], q _ H2 m2 dd_int⟩
theorem ed_mod {x y : Int} (ha : ED ta σ H (.int x)) (hb : ED tb σ H (.int y)) (c : 0 < y) : ED (tOp (rI (fun _ j => 0 < j) fun i j => .int (i % j)) ta tb) σ H (.int (x % y)) := ed_opC ha hb c
end
theorem dds_ints {H : Hp} : ∀ (ys : List Int), DDs H (ys.map PyData.int) (ys.map V.int)
  | [] => dds_nil
  | y :: ys => dds_cons dd_int (dds_ints ys)
theorem canLay_ints : ∀ (ys : List Int), PyData.canLayAll0 (ys.map PyData.int) = true
  | [] => rfl
  | y :: ys => by
    have := canLay_ints ys
    simp [PyData.canLayAll0, PyData.canLay0, this]
theorem depth_ints : ∀ (ys : List Int), PyData.depthAll (ys.map PyData.int) ≤ 1
  | [] => by simp [PyData.depthAll]
  | y :: ys => by
    have := depth_ints ys
    simp [PyData.depthAll, PyData.depth]
    omega
theorem shaped_ints (ys : List Int) : SeqAt.shaped (.list (ys.map PyData.int)) = true := by
  have h1 := canLay_ints ys
  have h2 := depth_ints ys
  unfold SeqAt.shaped
  rw [Bool.and_eq_true, decide_eq_true_eq]
  refine ⟨by simp [PyData.canLay0, h1], ?_⟩
  simp [PyData.depth]
  omega
/-- a new feed of the script's cells -/
def spFeed (K : PySem.W.Frag) : Sp := fun vs H Q _ => ∃ (l : Addr) (ns : List Int), vs = [.ref l] ∧ SqL K H l (ns.map V.int) ∧ ∀ p H', Same H H' → H p.f = none → Feed p H' → Q (.ref p.f) H'
def spDraw : Sp := fun vs H Q _ => ∃ p m, vs = [.ref p.f, .int m] ∧ Feed p H ∧ 1 ≤ m ∧ m ≤ 1000 ∧ ∀ r H', LF p H H' → 0 ≤ r → r < m → Q (.int r) H'
def spAny : Sp := fun vs H Q _ => ∃ p ds v, vs = [.ref p.f, v] ∧ Feed p H ∧ DD H (.list ds) v ∧ ds ≠ [] ∧ ds.length ≤ 1000 ∧ ∀ d v H', d ∈ ds → LF p H H' → DD H' d v → Q v H'
theorem sc_law_feed : FnScope ["_law_script", "_law_cell"] ["_law_script"] (defScope s__law_feed) := ⟨rfl, rfl, rfl, by decide +kernel, rfl, by decide +kernel, by decide +kernel⟩
theorem sc_law_draw : FnScope ["_law_feed_here", "_law_many", "_law_digit", "_law_cells", "_law_spot", "_law_cell", "_law_mixed"] ["_law_feed_here", "_law_many"] (defScope s__law_draw) := ⟨rfl, rfl, rfl, by decide +kernel, rfl, by decide +kernel, by decide +kernel⟩
theorem sc_law_any : FnScope ["_law_feed_here", "_law_some"] ["_law_feed_here", "_law_some"] (defScope s__law_any) := ⟨rfl, rfl, rfl, by decide +kernel, rfl, by decide +kernel, by decide +kernel⟩
section
variable {P : Program} {w : World} {K : PySem.W.Frag} {mg : Str → Option Value} {base : Heap}
theorem d__law_draw (T : Txt K mg) : Def P w K mg base CX0 1 "_law_draw" spDraw := by
  refine mk_def T.a__law_draw sc_law_draw (fun _ _ _ _ _ _ us hl => match us, hl with | [_, _], _ => rfl) (fun vs H Q E ⟨_, _, e, _⟩ => by rw [e]; rfl) fun f cdv A outer s H vs Q E hr h => ?_
  obtain ⟨p, m, rfl, F, m1, m2, q⟩ := h
  refine ⟨_, (pss_cons (ps_dput (hu_of hr) (pv 0) pe_str (pe_op op_add (pe_dget (hu_of hr) (pv 0) pe_str (fun _ _ => rfl)) pe_int) rfl)
      (pss_cons (ps_if (pt_cmpR op_gt (pe_dget (hu_of hr) (pv 0) pe_str (fun _ _ => rfl)) pe_int (nomark _)) (pss_cons (ps_set (i := 2) sc_law_draw.nd rfl (Or.inl rfl) (pe_op op_mod (pe_callTy call_int1 (by rfl) T.n_int (by decide +kernel) (pa_cons (pe_dget (hu_of hr) (pv 0) pe_str (fun _ _ => rfl)) pa_nil)) (pv 1)))
      (pss_cons (ps_dput (hu_of hr) (pv 0) pe_str (pe_op op_fdivN (pe_dget (hu_of hr) (pv 0) pe_str (fun _ _ => rfl)) (pv 1)) rfl)
      (pss_one (ps_ret (pv 2))))) pss_nil)
      (pss_cons (ps_par (i := 3) (j := 4) rfl sc_law_draw.nd rfl rfl (by decide) rfl rfl (pa_cons (pe_dget (hu_of hr) (pv 0) pe_str (fun _ _ => rfl)) (pa_cons (pe_dget (hu_of hr) (pv 0) pe_str (fun _ _ => rfl)) pa_nil)) (by rfl))
      (pss_cons (ps_dput (hu_of hr) (pv 0) pe_str (pe_op op_add (pv 4) pe_int) rfl)
      (pss_cons (ps_set (i := 5) sc_law_draw.nd rfl (Or.inl rfl) (pe_ifExp (pt_cmpR (op_neD hr.units) (pv 3) (pe_lst pa_nil) (nomark _)) (pe_ix ix_list (pv 3) (pe_op op_mod (pe_callTy call_int1 (by rfl) T.n_int (by decide +kernel) (pa_cons (pv 4) pa_nil)) (pe_callB call_len_seq (by rfl) T.n_len (by decide +kernel) (pa_cons (pv 3) pa_nil))) (fun _ _ => rfl)) pe_int))
      (pss_cons (ps_if (PW.pt (pw_and (pt_cmpR op_ge (pv 5) (pe_op op_pow pe_int pe_int) (nomark _)) (pw_and1 (pt_cmpR op_lt (pv 4) (pe_callB call_len_seq (by rfl) T.n_len (by decide +kernel) (pa_cons (pv 3) pa_nil)) (nomark _))))) (pss_cons (ps_dput (hu_of hr) (pv 0) pe_str (pe_op op_fdivN (pv 5) (pv 1)) rfl)
      (pss_one (ps_ret (pe_op op_mod (pe_callTy call_int1 (by rfl) T.n_int (by decide +kernel) (pa_cons (pv 5) pa_nil)) (pv 1))))) pss_nil)
      (pss_cons (ps_set (i := 6) sc_law_draw.nd rfl (Or.inl rfl) (pe_op op_mod (pe_callTy call_int1 (by rfl) T.n_int (by decide +kernel) (pa_cons (pe_op op_add (pe_op op_add (pe_op op_mod (pe_callTy call_int1 (by rfl) T.n_int (by decide +kernel) (pa_cons (pv 5) pa_nil)) pe_int) (pe_op op_mul pe_int (pe_dget (hu_of hr) (pv 0) pe_str (fun _ _ => rfl)))) pe_int) pa_nil)) pe_int))
      (pss_cons (ps_set (i := 6) sc_law_draw.nd rfl (Or.inl rfl) (pe_op op_mod (pe_callTy call_int1 (by rfl) T.n_int (by decide +kernel) (pa_cons (pe_op op_add (pe_op op_add (pe_op op_mul (pv 6) (pv 6)) (pe_op op_mul pe_int (pe_dget (hu_of hr) (pv 0) pe_str (fun _ _ => rfl)))) pe_int) pa_nil)) pe_int))
      (pss_one (ps_ret (pe_op op_mod (pe_callTy call_int1 (by rfl) T.n_int (by decide +kernel) (pa_cons (pe_op op_fdivN (pe_op op_mod (pe_callTy call_int1 (by rfl) T.n_int (by decide +kernel) (pa_cons (pe_op op_add (pe_op op_mul (pv 6) (pv 6)) (pe_op op_mul pe_int (pv 6))) pa_nil)) pe_int) pe_int) pa_nil)) (pv 1)))))))))))), ?_⟩
  obtain ⟨spot, rest, turn, e1, e2, e3⟩ := id F
  refine sq ?_
  refine s_dputK (k := "turn") (d := .int (turn + 1)) rfl (ed_opI (ed_dgetK rfl e1 (val_turn _ _ _ _) dd_int) ed_int) e1 (by show 4 ≤ 10000; omega) fun v H1 s1 hv1 => ?_
  obtain rfl := hv1.int_eq
  rw [put_turn]
  dsimp only
  have L1 : LF p H (upd H1 p.f (.dK (feedK p.c spot rest (turn + 1)))) := (LF.of_same F s1).put
  refine sq ?_
  refine s_ifD (b := decide (0 < rest)) (et_test (ed_opB (g := fun i j => decide (j < i)) (ed_dgetK rfl upd_same (val_rest _ _ _ _) dd_int) ed_int)) (fun hb H2 s2 => ?_) fun hb H2 s2 => ?_
  · have F2 : H2 p.f = some (.dK (feedK p.c spot rest (turn + 1))) := s2 _ _ upd_same
    refine sq ?_
    refine s_setD (d := .int (rest % m)) (ed_mod (ed_int1 (ed_dgetK (i := 0) rfl F2 (val_rest _ _ _ _) dd_int)) (ed_var (i := 1) rfl dd_int) (by omega)) fun v3 H3 s3 h3 => ?_
    dsimp only
    refine sq ?_
    refine s_dputK (i := 0) (k := "rest") (d := .int (rest.fdiv m)) rfl (ed_opC (ed_dgetK (i := 0) rfl (s3 _ _ F2) (val_rest _ _ _ _) dd_int) (ed_var (i := 1) rfl dd_int) ⟨by omega, by omega⟩) (s3 _ _ F2) (by show 4 ≤ 10000; omega) fun v H4 s4 hv4 => ?_
    obtain rfl := hv4.int_eq
    obtain rfl := h3.int_eq
    rw [put_rest]
    dsimp only
    have L4 : LF p H (upd H4 p.f (.dK (feedK p.c spot (rest.fdiv m) (turn + 1)))) := ((L1.same s2).same (s3.trans s4)).put
    refine s_retD (d := .int (rest % m)) (ed_var (i := 2) rfl dd_int) fun v H5 s5 h5 => ?_
    obtain rfl := h5.int_eq
    exact q _ H5 (L4.same s5) (Int.emod_nonneg _ (by omega)) (Int.emod_lt_of_pos _ (by omega))
  dsimp only [tNext]
  have F2 : H2 p.f = some (.dK (feedK p.c spot rest (turn + 1))) := s2 _ _ upd_same
  have L2' : LF p H H2 := L1.same s2
  have C2 : H2 p.c = some (.lst (p.cells.map V.int)) := by obtain ⟨_, _, _, _, h2, _⟩ := L2'.b; exact h2
  have hcd : DD H2 (.list (p.cells.map PyData.int)) (.ref p.c) := dd_lst C2 (dds_ints _)
  refine sq ?_
  refine s_parD (d1 := .list (p.cells.map PyData.int)) (d2 := .int spot) (ea_cons (ed_dgetK rfl F2 (val_cells _ _ _ _) hcd) (ea_cons (ed_dgetK rfl F2 (val_spot _ _ _ _) dd_int) ea_nil)) fun vc vs H3 s3 hc hs => ?_
  obtain rfl := hs.int_eq
  dsimp only
  refine sq ?_
  refine s_dputK (i := 0) (k := "spot") (d := .int (spot + 1)) rfl (ed_opI (ed_var (i := 4) rfl hs) ed_int) (s3 _ _ F2) (by show 4 ≤ 10000; omega) fun v H4 s4 hv4 => ?_
  obtain rfl := hv4.int_eq
  rw [put_spot]
  dsimp only
  have L4 : LF p H (upd H4 p.f (.dK (feedK p.c (spot + 1) rest (turn + 1)))) := (L2'.same (s3.trans s4)).put
  have kd4 : KD H3 (upd H4 p.f (.dK (feedK p.c (spot + 1) rest (turn + 1)))) := (Same.kd s4).trans (KD.upd (s4 _ _ (s3 _ _ F2)))
  have hc4 := DD.kd kd4 _ _ hc
  have F4 : (upd H4 p.f (.dK (feedK p.c (spot + 1) rest (turn + 1)))) p.f = some (.dK (feedK p.c (spot + 1) rest (turn + 1))) := upd_same
  generalize upd H4 p.f (.dK (feedK p.c (spot + 1) rest (turn + 1))) = G at L4 kd4 hc4 F4
  refine sq ?_
  have hsh : SeqAt.shaped (.list (p.cells.map PyData.int)) = true := shaped_ints _
  obtain ⟨cell, hcell⟩ : ∃ cell : Int, ED (tIf (tTest (tOp (rNeD K) (tVar 3) (tLst tNil))) (tOp (rIxL K) (tVar 3) (tOp (rI (fun _ j => 0 < j) fun i j => .int (i % j)) (tCB (fun xs H Q => (∃ i, xs = [.int i] ∧ Q (.int i) H) ∨ ∃ k, xs = [.bl k] ∧ Q (.int (if k then 1 else 0)) H) (tCons (tVar 4) tNil)) (tCB (fun xs H Q => ∃ p ys, xs = [.ref p] ∧ (SqL K H p ys ∨ SqT K H p ys) ∧ Q (.int ys.length) H) (tCons (tVar 3) tNil)))) (tC (.int 4404)))
      [some (.ref p.f), some (.int m), none, some vc, some (.int spot), none, none] G (.int cell) := by
    cases hcs : p.cells with
    | nil =>
      refine ⟨4404, ed_if (b := false) (et_test (ED.is (ed_neD (ed_var (i := 3) rfl hc4) (ed_lst ea_nil (by decide)) hsh (by decide)) (by rw [hcs]; rfl))) (fun z => by cases z) fun _ => ed_int⟩
    | cons x r =>
      have hpos : (0 : Int) < ((p.cells.map PyData.int).length : Nat) := by rw [List.length_map, hcs]; simp
      have hix : ∃ n : Nat, spot % ((p.cells.map PyData.int).length : Nat) = (n : Int) ∧ n < p.cells.length := by
        have h1 := Int.emod_nonneg spot (b := ((p.cells.map PyData.int).length : Nat)) (by omega)
        have h2 := Int.emod_lt_of_pos spot hpos
        rw [List.length_map] at h1 h2 ⊢
        exact ⟨(spot % (p.cells.length : Nat)).toNat, by omega, by omega⟩
      obtain ⟨n, en, ln⟩ := hix
      refine ⟨p.cells[n], ed_if (b := true) (et_test (ED.is (ed_neD (ed_var (i := 3) rfl hc4) (ed_lst ea_nil (by decide)) hsh (by decide)) (by rw [hcs]; rfl))) (fun _ => ed_ixLv (j := n) (ed_var (i := 3) rfl hc4) (ED.is (ed_mod (ed_int1 (ed_var (i := 4) rfl dd_int)) (ed_lenL (ed_var (i := 3) rfl hc4)) hpos) (by rw [en])) ?_) (fun z => by cases z)⟩
      rw [List.getElem?_map, List.getElem?_eq_getElem ln]
      rfl
  refine s_setD (d := .int cell) hcell fun v5 H5 s5 h5 => ?_
  obtain rfl := h5.int_eq
  have F5 := s5 _ _ F4
  have L5 : LF p H H5 := L4.same s5
  have hc5 := DD.same s5 _ _ hc4
  dsimp only
  refine sq ?_
  refine s_ifD (b := decide ((10 : Int) ^ (18 : Int).toNat ≤ cell) && decide (spot < (p.cells.map PyData.int).length)) (et_and (et_test (ed_opB (g := fun i j => decide (j ≤ i)) (ed_var (i := 5) rfl h5) (ed_opC ed_int ed_int ⟨by omega, by omega, by decide⟩))) fun _ => et_test (ed_opB (ed_var (i := 4) rfl dd_int) (ed_lenL (ed_var (i := 3) rfl hc5)))) (fun hb H6 s6 => ?_) fun hb H6 s6 => ?_
  · refine sq ?_
    have F6 := s6 _ _ F5
    refine s_dputK (i := 0) (k := "rest") (d := .int (cell.fdiv m)) rfl (ed_opC (ed_var (i := 5) rfl dd_int) (ed_var (i := 1) rfl dd_int) ⟨by omega, by omega⟩) F6 (by show 4 ≤ 10000; omega) fun v H7 s7 hv7 => ?_
    obtain rfl := hv7.int_eq
    rw [put_rest]
    dsimp only
    have L7 : LF p H (upd H7 p.f (.dK (feedK p.c (spot + 1) (cell.fdiv m) (turn + 1)))) := (L5.same (s6.trans s7)).put
    refine s_retD (d := .int (cell % m)) (ed_mod (ed_int1 (ed_var (i := 5) rfl dd_int)) (ed_var (i := 1) rfl dd_int) (by omega)) fun v H8 s8 h8 => ?_
    obtain rfl := h8.int_eq
    exact q _ H8 (L7.same s8) (Int.emod_nonneg _ (by omega)) (Int.emod_lt_of_pos _ (by omega))
  dsimp only [tNext]
  have F6 := s6 _ _ F5
  have L6 := L5.same s6
  refine sq ?_
  refine s_setD (ed_mod (ed_int1 (ed_opI (ed_opI (ed_mod (ed_int1 (ed_var (i := 5) rfl dd_int)) ed_int (by omega)) (ed_opC ed_int (ed_dgetK (i := 0) rfl F6 (val_turn _ _ _ _) dd_int) (.inl (by omega)))) ed_int)) ed_int (by omega)) fun v7 H7 s7 h7 => ?_
  have F7 := s7 _ _ F6
  dsimp only
  refine sq ?_
  have r7 : ∀ x : Int, -(2 ^ 64) < x % 2147483563 ∧ x % 2147483563 < 2 ^ 64 := fun x => by
    have h1 := Int.emod_nonneg x (b := 2147483563) (by omega)
    have h2 := Int.emod_lt_of_pos x (b := 2147483563) (by omega)
    omega
  refine s_setD (ed_mod (ed_int1 (ed_opI (ed_opI (ed_opC (ed_var (i := 6) rfl h7) (ed_var (i := 6) rfl h7) (.inl (r7 _))) (ed_opC ed_int (ed_dgetK (i := 0) rfl F7 (val_turn _ _ _ _) dd_int) (.inl (by omega)))) ed_int)) ed_int (by omega)) fun v8 H8 s8 h8 => ?_
  have r8 : ∀ x : Int, -(2 ^ 64) < x % 2147483477 ∧ x % 2147483477 < 2 ^ 64 := fun x => by
    have h1 := Int.emod_nonneg x (b := 2147483477) (by omega)
    have h2 := Int.emod_lt_of_pos x (b := 2147483477) (by omega)
    omega
  dsimp only
  refine s_retD (ed_mod (ed_int1 (ed_opC (ed_mod (ed_int1 (ed_opI (ed_opC (ed_var (i := 6) rfl h8) (ed_var (i := 6) rfl h8) (.inl (r8 _))) (ed_opC ed_int (ed_var (i := 6) rfl h8) (.inl (by omega))))) ed_int (by omega)) ed_int ⟨by omega, by decide⟩)) (ed_var (i := 1) rfl dd_int) (by omega)) fun v9 H9 s9 h9 => ?_
  obtain rfl := h9.int_eq
  exact q _ H9 (((L6.same s7).same s8).same s9) (Int.emod_nonneg _ (by omega)) (Int.emod_lt_of_pos _ (by omega))
end
end KL

/-! ## what draws -/
namespace KL
open PySem PySem.Spec PyProof.Rows L2
def GE (p : FP) (te : TE) (σ : L2.St) (H : Hp) (P : PyData → Prop) : Prop := ∀ H1, LF p H H1 → ∀ Q : VK, (∀ d v H2, P d → LF p H1 H2 → DD H2 d v → Q v H2) → te σ H1 Q
def GA (p : FP) (ta : TA) (σ : L2.St) (H : Hp) (P : List PyData → Prop) : Prop := ∀ H1, LF p H H1 → ∀ Q : List V → Hp → Prop, (∀ ds vs H2, P ds → LF p H1 H2 → DDs H2 ds vs → Q vs H2) → ta σ H1 Q
def GT (p : FP) (tt : TT) (σ : L2.St) (H : Hp) (P : Bool → Prop) : Prop := ∀ H1, LF p H H1 → ∀ Q : Bool → Hp → Prop, (∀ b H2, P b → LF p H1 H2 → Q b H2) → tt σ H1 Q
/-- a pure expression wherever the feed stands -/
def PD (p : FP) (te : TE) (σ : L2.St) (H : Hp) (d : PyData) : Prop := ∀ H1, LF p H H1 → ED te σ H1 d
section
variable {K : PySem.W.Frag} {p : FP} {σ : L2.St} {H H' : Hp} {ta tb te tl ti : TE} {t u : TT} {aA : TA} {D : Ends} {g : TG} {d : PyData} {ds es : List PyData} {i : Nat} {P R S : PyData → Prop} {E : XK} {vs : List Nat}
theorem GE.mono (h : GE p te σ H P) (x : LF p H H') : GE p te σ H' P := fun H1 y => h H1 (x.trans y)
theorem PD.mono (h : PD p te σ H d) (x : LF p H H') : PD p te σ H' d := fun H1 y => h H1 (x.trans y)
theorem GE.imp (h : GE p te σ H P) (f : ∀ d, P d → R d) : GE p te σ H R := fun H1 x Q q => h H1 x Q fun d v H2 hp => q d v H2 (f d hp)
theorem ge_pure (h : PD p te σ H d) (hp : P d) : GE p te σ H P := fun H1 x Q q => h H1 x H1 (L2.Same.refl _) Q fun v H2 s hd => q d v H2 hp (LF.of_same x.b s) hd
theorem pd_var {v : V} (hv : σ[i]? = some (some v)) (hd : DD H d v) : PD p (tVar i) σ H d := fun H1 x => ed_var hv (x.dd hd)
theorem pd_int {x : Int} : PD p (tC (.int x)) σ H (.int x) := fun _ _ => ed_int
theorem pd_nil : PD p (tLst tNil) σ H (.list []) := fun _ _ => ed_lst ea_nil (by decide)
theorem ga_nil {P : List PyData → Prop} (h : P []) : GA p tNil σ H P := fun H1 x Q q => q [] [] H1 h (LF.refl x.b) dds_nil
theorem ga_cons {P : PyData → Prop} {R : List PyData → Prop} (h : GE p te σ H P) (r : GA p aA σ H R) : GA p (tCons te aA) σ H (fun ds => ∃ d es, ds = d :: es ∧ P d ∧ R es) := fun H1 x Q q =>
  h H1 x _ fun d v H2 hp y hd => r H2 (x.trans y) _ fun es vs H3 hr z he => q _ _ H3 ⟨d, es, rfl, hp, hr⟩ (y.trans z) (dds_cons (z.dd hd) he)
theorem ge_tup {P : List PyData → Prop} (h : GA p aA σ H P) (hl : ∀ ds, P ds → ds.length ≤ 1000) : GE p (tTup aA) σ H (fun d => ∃ ds, d = .tuple ds ∧ P ds) := fun H1 x Q q =>
  h H1 x _ fun ds vs H2 hp y hd => ⟨by rw [hd.length, sizeLine_eq]; have := hl ds hp; omega, fun a ha => q _ _ _ ⟨ds, rfl, hp⟩ (y.same (Same.new ha)) (dd_tup upd_same (DDs.same (Same.new ha) _ _ hd))⟩
theorem ge_lst {P : List PyData → Prop} (h : GA p aA σ H P) (hl : ∀ ds, P ds → ds.length ≤ 1000) : GE p (tLst aA) σ H (fun d => ∃ ds, d = .list ds ∧ P ds) := fun H1 x Q q =>
  h H1 x _ fun ds vs H2 hp y hd => ⟨by rw [hd.length, sizeLine_eq]; have := hl ds hp; omega, fun a ha => q _ _ _ ⟨ds, rfl, hp⟩ (y.same (Same.new ha)) (dd_lst upd_same (DDs.same (Same.new ha) _ _ hd))⟩
def RndI (m : Int) (d : PyData) : Prop := ∃ r : Int, d = .int r ∧ 0 ≤ r ∧ r < m
theorem ge_draw {m : Int} (hv : σ[i]? = some (some (.ref p.f))) (hm : PD p te σ H (.int m)) (m1 : 1 ≤ m) (m2 : m ≤ 1000) : GE p (tCall spDraw [] E (tCons (tVar i) (tCons te tNil))) σ H (RndI m) := fun H1 x Q q =>
  ⟨.ref p.f, hv, hm H1 x H1 (L2.Same.refl _) _ fun w H2 s h2 => ⟨p, m, by rw [h2.int_eq]; rfl, x.b.same s, m1, m2, fun r H3 y r0 r1 => q (.int r) _ H3 ⟨r, rfl, r0, r1⟩ ((LF.of_same x.b s).trans y) dd_int⟩⟩
theorem ge_any (hv : σ[i]? = some (some (.ref p.f))) (hm : PD p te σ H (.list ds)) (ne : ds ≠ []) (hl : ds.length ≤ 1000) : GE p (tCall spAny [] E (tCons (tVar i) (tCons te tNil))) σ H (fun d => d ∈ ds) := fun H1 x Q q =>
  ⟨.ref p.f, hv, hm H1 x H1 (L2.Same.refl _) _ fun w H2 s h2 => ⟨p, ds, w, rfl, x.b.same s, h2, ne, hl, fun d v H3 hd y hv => q d v H3 hd ((LF.of_same x.b s).trans y) hv⟩⟩
theorem ge_opI {f : Int → Int → Int} {A B : Int → Prop} (h1 : GE p ta σ H (fun d => ∃ r, d = .int r ∧ A r)) (h2 : GE p tb σ H (fun d => ∃ r, d = .int r ∧ B r)) : GE p (tOp (rI0 fun i j => .int (f i j)) ta tb) σ H (fun d => ∃ r s, d = .int (f r s) ∧ A r ∧ B s) := fun H1 x Q q =>
  h1 H1 x _ fun d v H2 ⟨r, er, hr⟩ y hd => h2 H2 (x.trans y) _ fun e w H3 ⟨s, es, hs⟩ z he => by
    subst er
    subst es
    exact ⟨r, s, hd.int_eq, he.int_eq, q _ _ H3 ⟨r, s, rfl, hr, hs⟩ (y.trans z) dd_int⟩
/-- a draw compared with a number -/
theorem gq_eq {m n : Int} (h1 : GE p ta σ H (RndI m)) : GE p (tOp rEq ta (tC (.int n))) σ H (fun d => ∃ b, d = .bool b) := fun H1 x Q q =>
  h1 H1 x _ fun d v H2 ⟨r, er, _⟩ y hd => by
    subst er
    obtain rfl := hd.int_eq
    exact ⟨rfl, q _ _ H2 ⟨_, rfl⟩ y dd_bl⟩
theorem gt_eq {m n : Int} (h1 : GE p ta σ H (RndI m)) : GT p (tTest (tOp rEq ta (tC (.int n)))) σ H (fun _ => True) := fun H1 x Q q =>
  gq_eq h1 H1 x _ fun d v H2 ⟨b, eb⟩ y hd => by
    subst eb
    exact ⟨b, hd.bl_eq, q b H2 trivial y⟩
theorem ge_if {b : Bool} (ht : ∀ H1, LF p H H1 → ET t σ H1 b) (h1 : b = true → GE p ta σ H P) (h2 : b = false → GE p tb σ H P) : GE p (tIf t ta tb) σ H P := fun H1 x Q q =>
  ht H1 x H1 (L2.Same.refl _) _ fun H2 s => by
    cases b with
    | true => exact iteT (h1 rfl H2 (x.same s) Q fun d v H3 hp y hd => q d v H3 hp ((LF.of_same x.b s).trans y) hd)
    | false => exact iteF (h2 rfl H2 (x.same s) Q fun d v H3 hp y hd => q d v H3 hp ((LF.of_same x.b s).trans y) hd)
theorem ge_ifG {B : Bool → Prop} (ht : GT p t σ H B) (h1 : GE p ta σ H P) (h2 : GE p tb σ H P) : GE p (tIf t ta tb) σ H P := fun H1 x Q q =>
  ht H1 x _ fun b H2 _ s => by
    cases b with
    | true => exact iteT (h1 H2 (x.trans s) Q fun d v H3 hp y hd => q d v H3 hp (s.trans y) hd)
    | false => exact iteF (h2 H2 (x.trans s) Q fun d v H3 hp y hd => q d v H3 hp (s.trans y) hd)
theorem ge_tupleL {P : List PyData → Prop} (h : GE p ta σ H (fun d => ∃ ds, d = .list ds ∧ P ds)) : GE p (tCB (fun xs H Q => ∃ p ys, xs = [.ref p] ∧ ((SqL K H p ys ∧ ∀ l, H l = none → Q (.ref l) (upd H l (.tup ys))) ∨ (SqT K H p ys ∧ Q (.ref p) H))) (tCons ta tNil)) σ H (fun d => ∃ ds, d = .tuple ds ∧ P ds) := fun H1 x Q q =>
  h H1 x _ fun d v H2 ⟨ds, ed, hp⟩ y hd => by
    subst ed
    obtain ⟨a, xs, rfl, hx, hr⟩ := hd.lst
    exact ⟨a, xs, rfl, .inl ⟨.inl (.inl hx), fun l hl => q _ _ _ ⟨ds, rfl, hp⟩ (y.same (Same.new hl)) (dd_tup upd_same (DDs.same (Same.new hl) _ _ hr))⟩⟩
/-- [-4:] -/
theorem ge_last {P : List PyData → Prop} (h : GE p ta σ H (fun d => ∃ ds, d = .list ds ∧ P ds)) : GE p (tSl (rSlL K) ta (tPart (tUn (rU fun i => .int (-i)) (tC (.int 4)))) tNoPart) σ H (fun d => ∃ ds es, d = .list es ∧ P ds ∧ es.Sublist ds ∧ es.length ≤ 4) := fun H1 x Q q =>
  h H1 x _ fun d v H2 ⟨ds, ed, hp⟩ y hd => by
    subst ed
    obtain ⟨a, xs, rfl, hx, hr⟩ := hd.lst
    refine ⟨4, rfl, -4, rfl, a, xs, rfl, .inl (.inl hx), fun l hl => q (.list (ds.drop (xs.length - 4))) _ _ ⟨ds, _, rfl, hp, List.drop_sublist _ _, ?_⟩ (y.same (Same.new hl)) (dd_lst upd_same ?_)⟩
    · rw [List.length_drop, hr.length]
      omega
    · have e : cutV xs (some (-4)) none = xs.drop (xs.length - 4) := by
        unfold cutV
        have e1 : HT.sIx xs.length 0 (some (-4)) = xs.length - 4 := by
          show (if (-4 : Int) < 0 then ((-4 : Int) + (xs.length : Int)).toNat else min (-4 : Int).toNat xs.length) = xs.length - 4
          rw [if_pos (by omega)]
          omega
        rw [e1, HT.sIx_none, List.take_of_length_le]
        rw [List.length_drop]
        omega
      rw [e]
      exact DDs.same (Same.new hl) _ _ (hr.drop _)
/-- what a comprehension that draws makes of its list -/
inductive Pk (R : PyData → Option PyData → Prop) : List PyData → List PyData → Prop
  | nil : Pk R [] []
  | skip {ds es : List PyData} {d : PyData} : Pk R ds es → R d none → Pk R (ds ++ [d]) es
  | take {ds es : List PyData} {d e : PyData} : Pk R ds es → R d (some e) → Pk R (ds ++ [d]) (es ++ [e])
theorem Pk.len {R : PyData → Option PyData → Prop} {ds es : List PyData} (h : Pk R ds es) : es.length ≤ ds.length := by
  induction h with
  | nil => exact Nat.le_refl _
  | skip _ _ ih => rw [List.length_append]; omega
  | take _ _ ih => rw [List.length_append, List.length_append]; simp; omega
theorem Pk.sub {R : PyData → Option PyData → Prop} {ds es : List PyData} (h : Pk R ds es) (f : ∀ d e, R d (some e) → e = d) : es.Sublist ds := by
  induction h with
  | nil => exact .slnil
  | skip _ _ ih => exact ih.trans (List.sublist_append_left _ _)
  | take _ r ih => rw [f _ _ r]; exact ih.append (List.Sublist.refl _)
def TurnG (p : FP) (g : TG) (tt : TT) (te : TE) (vs : List Nat) (σ : L2.St) (H : Hp) (d : PyData) (R : Option PyData → Prop) : Prop :=
  ∀ x H1, LF p H H1 → DD H1 d x → ∀ (Nx : Hp → Prop) (Kp : VK), (∀ H3, LF p H1 H3 → R none → Nx H3) → (∀ y H3 e, LF p H1 H3 → R (some e) → DD H3 e y → Kp y H3) →
    g x (wipe σ vs) H1 fun σ2 H3 => wipe σ2 vs = wipe σ vs ∧ tt σ2 H3 fun b H4 => if b = true then te σ2 H4 Kp else Nx H4
theorem lfs_snoc : ∀ {es : List PyData} {e : PyData}, lfs es = true → lf e = true → lfs (es ++ [e]) = true
  | [], e, _, h => by show (lf e && true) = true; rw [h]; rfl
  | a :: es, e, h1, h => by
    have h1' : (lf a && lfs es) = true := h1
    rw [Bool.and_eq_true] at h1'
    show (lf a && lfs (es ++ [e])) = true
    rw [h1'.1, lfs_snoc h1'.2 h]
    rfl
theorem ge_lcL {R : PyData → Option PyData → Prop} (hs : PD p tl σ H (.list ds)) (hl : ds.length ≤ 10000) (hlf : ∀ d ∈ ds, ∀ e, R d (some e) → lf e = true)
    (turn : ∀ d ∈ ds, TurnG p g t te vs σ H d (R d)) : GE p (tLc (iList K tl) g t te vs) σ H (fun d => ∃ es, d = .list es ∧ Pk R ds es) := fun H1 m Q q =>
  hs H1 m H1 (L2.Same.refl _) _ fun v H2 m2 h2 => by
    obtain ⟨a, xs, rfl, hx, hr⟩ := h2.lst
    have hlen := hr.length
    have F2 : Feed p H2 := m.b.same m2
    refine ⟨a, rfl, ⟨xs, .inl (.inl hx)⟩, fun C hC => ?_⟩
    have keepA : ∀ {G : Hp}, LF p H2 G → G a = some (.lst xs) := fun {G} z => z.kd _ _ hx fun _ q => by cases q
    refine lc_it (walk_list (xs := xs)) (fun i G => LF p H2 G ∧ ∃ acc es, G C = some (.lst acc) ∧ DDs G es acc ∧ lfs es = true ∧ Pk R (ds.take i) es) ⟨LF.of_same F2 (Same.new hC), [], [], upd_same, dds_nil, rfl, .nil⟩ (fun i G _ z => .inl (.inl (keepA z.1))) ?_ (fun G z => ?_)
    · rintro i x G G' hi ⟨z, acc, es, hacc, hes, hle, hpk⟩ y
      obtain ⟨rfl, hx'⟩ := y
      obtain ⟨d, hd, hdx⟩ := hr.back hx'
      have nC : p.f ≠ C := fun e => by
        obtain ⟨_, _, _, h1, _⟩ := F2
        rw [← e, h1] at hC
        cases hC
      have etake : ds.take (i + 1) = ds.take i ++ [d] := by rw [List.take_succ, hd]; rfl
      refine turn d (List.mem_of_getElem? hd) x _ ((m.same m2).trans z) (z.dd hdx) _ _ (fun H3 y3 r => ⟨z.trans y3, acc, es, y3.k _ _ (Ne.symm nC) hacc, y3.dds hes, hle, by rw [etake]; exact hpk.skip r⟩)
        (fun w H3 e y3 r hw => ⟨acc, y3.k _ _ (Ne.symm nC) hacc, ?_, (z.trans y3).mut hC, acc ++ [w], es ++ [e], upd_same, ?_, ?_, ?_⟩)
      · have l1 := hpk.len
        have l2 := hes.length
        rw [List.length_take] at l1
        rw [sizeLine_eq]
        omega
      · have kt : KT H3 (upd H3 C (.lst (acc ++ [w]))) := KT.updL (y3.k _ _ (Ne.symm nC) hacc)
        exact DDs.snoc (DDs.kt kt _ _ hle (y3.dds hes)) (DD.kt kt _ _ (hlf d (List.mem_of_getElem? hd) e r) hw)
      · exact lfs_snoc hle (hlf d (List.mem_of_getElem? hd) e r)
      · rw [etake]
        exact hpk.take r
    · obtain ⟨z, acc, es, hacc, hes, _, hpk⟩ := z
      refine q (.list es) _ G ⟨es, rfl, ?_⟩ ((LF.of_same m.b m2).trans z) (dd_lst hacc hes)
      rw [List.take_of_length_le (by omega)] at hpk
      exact hpk
/-- [e for x in ..], [x for x in .. if t] -/
theorem turnG_n {R : Option PyData → Prop} {P : PyData → Prop} (hw : ∀ x, wipe ((wipe σ vs).set i (some x)) vs = wipe σ vs) (he : ∀ x H1, LF p H H1 → DD H1 d x → GE p te ((wipe σ vs).set i (some x)) H1 P) (f : ∀ e, P e → R (some e)) : TurnG p (gName i) tYes te vs σ H d R :=
  fun x H1 s1 hx Nx Kp _ k2 => ⟨hw x, (show (if true = true then te ((wipe σ vs).set i (some x)) H1 Kp else Nx H1) from iteT (he x H1 s1 hx H1 (LF.refl s1.b) _ fun e y H3 hp s3 hy => k2 y H3 e s3 (f e hp) hy))⟩
theorem turnG_t {R : Option PyData → Prop} {B : Bool → Prop} (hw : ∀ x, wipe ((wipe σ vs).set i (some x)) vs = wipe σ vs) (ht : ∀ x H1, LF p H H1 → DD H1 d x → GT p t ((wipe σ vs).set i (some x)) H1 B)
    (he : ∀ x H1, LF p H H1 → DD H1 d x → GE p te ((wipe σ vs).set i (some x)) H1 P) (f : ∀ e, P e → R (some e)) (n : R none) : TurnG p (gName i) t te vs σ H d R :=
  fun x H1 s1 hx Nx Kp k1 k2 => ⟨hw x, ht x H1 s1 hx H1 (LF.refl s1.b) _ fun b H3 _ s3 => by
    cases b with
    | true => exact iteT (he x H3 (s1.trans s3) (s3.dd hx) H3 (LF.refl s3.b) _ fun e y H4 hp s4 hy => k2 y H4 e (s3.trans s4) (f e hp) hy)
    | false => exact iteF (k1 H3 s3 n)⟩
theorem s_setG (F : Feed p H) (h : GE p te σ H P) (k : ∀ d v H1, P d → LF p H H1 → DD H1 d v → D.nx (σ.set i (some v)) H1) : tAsg te (gName i) D σ H := h H (LF.refl F) _ k
theorem s_retG (F : Feed p H) (h : GE p te σ H P) (k : ∀ d v H1, P d → LF p H H1 → DD H1 d v → D.rt v H1) : tRet te D σ H := h H (LF.refl F) _ k
end
end KL

/-! ## the defs that draw -/
namespace KL
open PySem PySem.Spec PyProof.Rows L2
def lab1 : List Str := ["lamp", "plug", "bulb", "candle", "trio", "box", "light", "set", "cord", "wick", "tin", "jar", "urn"]
def lab2 : List Str := ["a", "ab", "abc", "b", "ba", "z", "zz", "zzzzzzzz", "zzzzzzza", "y", "m", "mm", "mmm"]
def lab3 : List Str := ["build", "apart", "sell", "held", "short", "part", "turn", "pack", "stock", "made", "row", "go", "no"]
theorem DDs.ints_eq {H : Hp} : ∀ {ys : List Int} {xs : List V}, DDs H (ys.map PyData.int) xs → xs = ys.map V.int
  | [], _, h => h.nil_eq
  | y :: ys, _, h => by
    obtain ⟨x, r, rfl, h1, h2⟩ := h.uncons
    rw [h1.int_eq, h2.ints_eq]
    rfl
structure LabOk (ns : List Str) : Prop where
  len : ns.length = 13
  nd : ns.Nodup
  nm : ∀ n ∈ ns, isNameS n = true ∧ n ≠ "nobody"
theorem LabOk.perm {ns ms : List Str} (h : LabOk ns) (p : ms.Perm ns) : LabOk ms := ⟨p.length_eq.trans h.len, p.nodup_iff.mpr h.nd, fun n hn => h.nm n (p.mem_iff.mp hn)⟩
def labB (ns : List Str) : Bool := decide (ns.length = 13) && decide ns.Nodup && ns.all fun n => isNameS n && !decide (n = "nobody")
theorem labB_ok {ns : List Str} (h : labB ns = true) : LabOk ns := by
  unfold labB at h
  rw [Bool.and_eq_true, Bool.and_eq_true, decide_eq_true_eq, decide_eq_true_eq, List.all_eq_true] at h
  refine ⟨h.1.1, h.1.2, fun n hn => ?_⟩
  have q := h.2 n hn
  rw [Bool.and_eq_true, Bool.not_eq_true', decide_eq_false_iff_not] at q
  exact q
theorem lab1_ok : LabOk lab1 := labB_ok (by decide +kernel)
theorem lab2_ok : LabOk lab2 := labB_ok (by decide +kernel)
theorem lab3_ok : LabOk lab3 := labB_ok (by decide +kernel)
section
variable {K : PySem.W.Frag} {p : FP} {σ : L2.St} {H H' : Hp} {ti : TE} {D : Ends} {d : PyData} {i : Nat} {a : Addr} {xs : List V} {P : PyData → Prop}
theorem s_lst0 (k : ∀ a, H a = none → D.nx (σ.set i (some (.ref a))) (upd H a (.lst []))) : tAsg (tLst tNil) (gName i) D σ H := ⟨Nat.zero_le _, fun a ha => k a ha⟩
theorem s_lst1 (h : ED ti σ H d) (k : ∀ a x H1, Same H H1 → DD H1 d x → H1 a = none → D.nx (σ.set i (some (.ref a))) (upd H1 a (.lst [x]))) : tAsg (tLst (tCons ti tNil)) (gName i) D σ H :=
  h H (L2.Same.refl _) _ fun x H1 s hx => ⟨by rw [sizeLine_eq]; show 1 ≤ _; omega, fun a ha => k a x H1 s hx ha⟩
theorem s_app (hv : σ[i]? = some (some (.ref a))) (ha : H a = some (.lst xs)) (hl : xs.length ≤ 10000) (h : ED ti σ H d) (k : ∀ x H1, Same H H1 → DD H1 d x → D.nx σ (upd H1 a (.lst (xs ++ [x])))) : tDrop (tBM K "list" rAppend (tVar i) (tCons ti tNil)) D σ H :=
  ⟨.ref a, hv, .inl ⟨rfl, xs, .inl (.inl ha)⟩, h H (L2.Same.refl _) _ fun x H1 s hx => ⟨a, xs, x, rfl, rfl, s _ _ ha, by rw [sizeLine_eq]; omega, k x H1 s hx⟩⟩
theorem s_appG (F : Feed p H) (hv : σ[i]? = some (some (.ref a))) (ha : H a = some (.lst xs)) (hl : xs.length ≤ 10000) (h : GE p ti σ H P) (k : ∀ d x H1, P d → LF p H H1 → DD H1 d x → H1 a = some (.lst xs) → D.nx σ (upd H1 a (.lst (xs ++ [x])))) : tDrop (tBM K "list" rAppend (tVar i) (tCons ti tNil)) D σ H :=
  ⟨.ref a, hv, .inl ⟨rfl, xs, .inl (.inl ha)⟩, h H (LF.refl F) _ fun d x H1 hp s hx => by
    have e : H1 a = some (.lst xs) := s.kd _ _ ha fun _ z => by cases z
    exact ⟨a, xs, x, rfl, rfl, e, by rw [sizeLine_eq]; omega, k d x H1 hp s hx e⟩⟩
theorem take_map {α β : Type} (f : α → β) (l : List α) (n : Nat) : (l.map f).take n = (l.take n).map f := (List.map_take).symm
/-- l[k:], l[:k], l[j:k] -/
theorem ed_from {ds : List PyData} {ta ti : TE} {k : Nat} (ha : ED ta σ H (.list ds)) (hi : ED ti σ H (.int (k : Int))) : ED (tSl (rSlL K) ta (tPart ti) tNoPart) σ H (.list (ds.drop k)) := fun H1 m Q q =>
  ha H1 m _ fun v H2 m2 h2 => hi H2 (m.trans m2) _ fun w H3 m3 h3 => by
    obtain ⟨a, xs, rfl, hx, hr⟩ := (DD.same m3 _ _ h2).lst
    refine ⟨(k : Int), h3.int_eq, a, xs, rfl, .inl (.inl hx), fun l hl => q _ _ ((m2.trans m3).trans (Same.new hl)) (dd_lst upd_same ?_)⟩
    have e : cutV xs (some (k : Int)) none = xs.drop k := by
      unfold cutV
      rw [HT.sIx_nat, HT.sIx_none]
      rcases Nat.le_total k xs.length with z | z
      · rw [Nat.min_eq_left z, List.take_of_length_le]
        rw [List.length_drop]
        omega
      · rw [Nat.min_eq_right z, List.drop_of_length_le z, List.drop_length]
        simp
    rw [e]
    exact DDs.same (Same.new hl) _ _ (hr.drop k)
theorem ed_to {ds : List PyData} {ta ti : TE} {k : Nat} (ha : ED ta σ H (.list ds)) (hi : ED ti σ H (.int (k : Int))) : ED (tSl (rSlL K) ta tNoPart (tPart ti)) σ H (.list (ds.take k)) := fun H1 m Q q =>
  ha H1 m _ fun v H2 m2 h2 => hi H2 (m.trans m2) _ fun w H3 m3 h3 => by
    obtain ⟨a, xs, rfl, hx, hr⟩ := (DD.same m3 _ _ h2).lst
    refine ⟨(k : Int), h3.int_eq, a, xs, rfl, .inl (.inl hx), fun l hl => q _ _ ((m2.trans m3).trans (Same.new hl)) (dd_lst upd_same ?_)⟩
    have e : cutV xs none (some (k : Int)) = xs.take k := by
      unfold cutV
      rw [HT.sIx_nat, HT.sIx_none, List.drop_zero, Nat.sub_zero]
      rcases Nat.le_total k xs.length with z | z
      · rw [Nat.min_eq_left z]
      · rw [Nat.min_eq_right z, List.take_of_length_le z, List.take_length]
    rw [e]
    exact DDs.same (Same.new hl) _ _ (hr.take k)
theorem ed_cut {ds : List PyData} {ta ti tj : TE} {j k : Nat} (ha : ED ta σ H (.list ds)) (hi : ED ti σ H (.int (j : Int))) (hj : ED tj σ H (.int (k : Int))) (hk : k ≤ ds.length) : ED (tSl (rSlL K) ta (tPart ti) (tPart tj)) σ H (.list ((ds.drop j).take (k - j))) := fun H1 m Q q =>
  ha H1 m _ fun v H2 m2 h2 => hi H2 (m.trans m2) _ fun w H3 m3 h3 => ⟨(j : Int), h3.int_eq, hj H3 ((m.trans m2).trans m3) _ fun u H4 m4 h4 => by
    obtain ⟨a, xs, rfl, hx, hr⟩ := (DD.same (m3.trans m4) _ _ h2).lst
    refine ⟨(k : Int), h4.int_eq, a, xs, rfl, .inl (.inl hx), fun l hl => q _ _ (((m2.trans m3).trans m4).trans (Same.new hl)) (dd_lst upd_same ?_)⟩
    have hl' := hr.length
    have e : cutV xs (some (j : Int)) (some (k : Int)) = (xs.drop j).take (k - j) := by
      unfold cutV
      rw [HT.sIx_nat, HT.sIx_nat, Nat.min_eq_left (by omega : k ≤ xs.length)]
      rcases Nat.le_total j xs.length with z | z
      · rw [Nat.min_eq_left z]
      · rw [Nat.min_eq_right z, List.drop_of_length_le z, List.drop_length]
        simp
    rw [e]
    exact DDs.same (Same.new hl) _ _ ((hr.drop j).take (k - j))⟩
end
theorem pairs_nil {σ : L2.St} {H : Hp} {Q : List (V × V) → Hp → Prop} (h : Q [] H) : tPairs [] σ H Q := by unfold tPairs; exact h
theorem pairs_cons {σ : L2.St} {H : Hp} {Q : List (V × V) → Hp → Prop} {k : V} {tv : TE} {r : List (TE × TE)} (h : tv σ H fun y H2 => tPairs r σ H2 fun ps H3 => Q ((k, y) :: ps) H3) : tPairs ((tC k, tv) :: r) σ H Q := by unfold tPairs; exact h
theorem pairs_k {σ : L2.St} {H : Hp} {Q : List (V × V) → Hp → Prop} {k v : V} {r : List (TE × TE)} (h : tPairs r σ H fun ps H3 => Q ((k, v) :: ps) H3) : tPairs ((tC k, tC v) :: r) σ H Q := pairs_cons h
def spLabels : Sp := fun vs H Q _ => ∃ p, vs = [V.ref (FP.f p)] ∧ Feed p H ∧ ∀ ns v H', LabOk ns → LF p H H' → DD H' (.list (ns.map PyData.str)) v → Q v H'
theorem sc_law_labels : FnScope ["_law_feed_here", "_law_some", "_law_pool", "_law_k"] ["_law_feed_here"] (defScope s__law_labels) := ⟨rfl, rfl, rfl, by decide +kernel, rfl, by decide +kernel, by decide +kernel⟩
section
variable {P : Program} {w : World} {K : PySem.W.Frag} {mg : Str → Option Value} {base : Heap}
theorem d__law_feed (T : Txt K mg) : Def P w K mg base CX0 1 "_law_feed" (spFeed K) := by
  refine mk_def T.a__law_feed sc_law_feed (fun _ _ _ _ _ _ us hl => match us, hl with | [_], _ => rfl) (fun vs H Q E ⟨_, _, e, _⟩ => by rw [e]; rfl) fun f cdv A outer s H vs Q E hr h => ?_
  obtain ⟨l, ns, rfl, hs, q⟩ := h
  refine ⟨_, (pss_one (ps_ret (pe_disp (pps_cons pe_str (pe_lc rfl sc_law_feed.nd (pi_list (pe_slice sl_list (pv 0) po_none (po_some pe_int))) (blkOk_by (own := [("_law_cell", 1)]) (N := ["_law_script", "_law_cell"]) (sc := defScope s__law_feed) (by decide +kernel)) (fun _ _ _ _ _ => (pg_name (i := 1) sc_law_feed.nd rfl (Or.inl rfl) (hf := Or.inr rfl))) (fun _ _ _ _ _ => pts_nil) (fun _ _ _ _ _ => (pe_callTy call_int1 (by rfl) T.n_int (by decide +kernel) (pa_cons (pv 1) pa_nil)))) (pps_cons pe_str pe_int (pps_cons pe_str pe_int (pps_cons pe_str pe_int pps_nil)))) (by rfl) (by rfl) (fun z => by cases z) (by decide)))), ?_⟩
  intro pf hf
  have keep : ∀ {H1 : Hp}, Same (upd H pf (.dK [])) H1 → SqL K H1 l (ns.map V.int) := fun {H1} s1 => by
    have s2 : Same H H1 := (Same.new hf).trans s1
    rcases hs with (h | ⟨o, h⟩) | h
    · exact .inl (.inl (s2 _ _ h))
    · exact .inl (.inr ⟨o, s2 _ _ h⟩)
    · exact .inr h
  have hsl : ED (tSl (rSlL K) (tVar 0) tNoPart (tPart (tC (.int 63)))) (start ["_law_script", "_law_cell"] [V.ref l]) (upd H pf (.dK [])) (.list ((ns.take 63).map PyData.int)) := fun H1 s1 Q1 q1 => by
    refine ⟨.ref l, rfl, 63, rfl, l, _, rfl, keep s1, fun a ha => q1 _ _ (Same.new ha) (dd_lst upd_same ?_)⟩
    have e : cutV (ns.map V.int) none (some 63) = (ns.take 63).map V.int := by
      unfold cutV
      have e1 : HT.sIx (ns.map V.int).length (ns.map V.int).length (some 63) = min 63 (ns.map V.int).length := HT.sIx_nat _ _ 63
      rw [e1, HT.sIx_none, List.drop_zero, Nat.sub_zero, ← List.map_take]
      congr 1
      rw [List.length_map]
      rcases Nat.le_total 63 ns.length with z | z
      · rw [Nat.min_eq_left z]
      · rw [Nat.min_eq_right z, List.take_of_length_le z, List.take_length]
    rw [e]
    exact dds_ints _
  have hc := ed_lcL (K := K) (g := gName 1) (tt := tYes) (te := tCB (fun xs H Q => (∃ i, xs = [.int i] ∧ Q (.int i) H) ∨ ∃ k, xs = [.bl k] ∧ Q (.int (if k then 1 else 0)) H) (tCons (tVar 1) tNil)) (vs := [1]) (f := fun d => some d) hsl (by rw [List.length_map, List.length_take]; omega) (fun d hd e he => by
    obtain ⟨z, _, rfl⟩ := List.mem_map.mp hd
    cases he; rfl) (fun d hd => by
      obtain ⟨z, _, rfl⟩ := List.mem_map.mp hd
      exact turn_n (fun _ => rfl) fun x H1 s1 hx => ed_int1 (ed_var rfl hx))
  rw [map_some fun _ _ => rfl, List.map_id'] at hc
  refine pairs_cons (hc _ (L2.Same.refl _) _ fun v H2 s2 h2 => pairs_k (pairs_k (pairs_k (pairs_nil ?_))))
  obtain ⟨c, xs, rfl, hx, hr'⟩ := h2.lst
  obtain rfl := hr'.ints_eq
  refine ⟨s2 _ _ upd_same, feedK c 0 0 0, rfl, by show 4 ≤ 15; omega, ?_⟩
  have n1 : c ≠ pf := fun z => by
    rw [z, s2 _ _ upd_same] at hx
    cases hx
  have hn : H pf = none := hf
  refine q ⟨pf, c, ns.take 63⟩ _ (Same.mut ((Same.new hf).trans s2) hf) hf ⟨0, 0, 0, upd_same, ?_, ?_⟩
  · show upd H2 pf _ c = _
    rw [upd_ne n1]
    exact hx
  · show (ns.take 63).length ≤ 63
    rw [List.length_take]
    omega
theorem d__law_any (T : Txt K mg) : Def P w K mg base CX0 2 "_law_any" spAny := by
  refine mk_def T.a__law_any sc_law_any (fun _ _ _ _ _ _ us hl => match us, hl with | [_, _], _ => rfl) (fun vs H Q E ⟨_, _, _, e, _⟩ => by rw [e]; rfl) fun f cdv A outer s H vs Q E hr h => ?_
  obtain ⟨p, ds, v, rfl, F, hv, ne, hl, q⟩ := h
  refine ⟨_, (pss_one (ps_ret (pe_ix ix_list (pv 1) (pe_d (d__law_draw T) hr (by decide) (by rfl) pass0 (pa_cons (pv 0) (pa_cons (pe_callB call_len_seq (by rfl) T.n_len (by decide +kernel) (pa_cons (pv 1) pa_nil)) pa_nil))) (fun _ _ => rfl)))), ?_⟩
  have l1 : 1 ≤ ds.length := List.length_pos_iff.mpr ne
  refine ⟨v, rfl, ?_⟩
  refine ge_draw (σ := start ["_law_feed_here", "_law_some"] [.ref p.f, v]) (i := 0) (m := (ds.length : Nat)) rfl (fun H1 x => ed_lenL (ed_var (i := 1) rfl (x.dd hv))) (by omega) (by omega) H (LF.refl F) _ fun d y H1 ⟨r, er, r0, r1⟩ x hy => ?_
  subst er
  obtain ⟨a, xs, rfl, hx, hr'⟩ := (x.dd hv).lst
  have hi : r.toNat < ds.length := by omega
  obtain ⟨z, e1, e2⟩ := hr'.get (List.getElem?_eq_getElem hi)
  refine ⟨a, xs, r, z, rfl, hy.int_eq, .inl (.inl hx), ?_, q _ z H1 (List.getElem_mem hi) x e2⟩
  have er : r = (r.toNat : Int) := by omega
  rw [er]
  exact atI_nat e1
theorem d__law_labels (T : Txt K mg) : Def P w K mg base CX0 3 "_law_labels" spLabels := by
  refine mk_def T.a__law_labels sc_law_labels (fun _ _ _ _ _ _ us hl => match us, hl with | [_], _ => rfl) (fun vs H Q E ⟨_, e, _⟩ => by rw [e]; rfl) fun f cdv A outer s H vs Q E hr h => ?_
  obtain ⟨p, rfl, F, q⟩ := h
  refine ⟨_, (pss_cons (ps_set (i := 1) sc_law_labels.nd rfl (Or.inl rfl) (pe_lst (pa_cons (pe_lst (pa_cons pe_str (pa_cons pe_str (pa_cons pe_str (pa_cons pe_str (pa_cons pe_str (pa_cons pe_str (pa_cons pe_str (pa_cons pe_str (pa_cons pe_str (pa_cons pe_str (pa_cons pe_str (pa_cons pe_str (pa_cons pe_str pa_nil)))))))))))))) pa_nil)))
      (pss_cons (ps_expr (pe_bm PySem.F.plainAttrs_list PySem.F.slot_list_append PySem.F.type_list_append mt_append (pv 1) (pa_cons (pe_lst (pa_cons pe_str (pa_cons pe_str (pa_cons pe_str (pa_cons pe_str (pa_cons pe_str (pa_cons pe_str (pa_cons pe_str (pa_cons pe_str (pa_cons pe_str (pa_cons pe_str (pa_cons pe_str (pa_cons pe_str (pa_cons pe_str pa_nil)))))))))))))) pa_nil)))
      (pss_cons (ps_expr (pe_bm PySem.F.plainAttrs_list PySem.F.slot_list_append PySem.F.type_list_append mt_append (pv 1) (pa_cons (pe_lst (pa_cons pe_str (pa_cons pe_str (pa_cons pe_str (pa_cons pe_str (pa_cons pe_str (pa_cons pe_str (pa_cons pe_str (pa_cons pe_str (pa_cons pe_str (pa_cons pe_str (pa_cons pe_str (pa_cons pe_str (pa_cons pe_str pa_nil)))))))))))))) pa_nil)))
      (pss_cons (ps_par (i := 2) (j := 3) rfl sc_law_labels.nd rfl rfl (by decide) rfl rfl (pa_cons (pe_d (d__law_any T) hr (by decide) (by rfl) pass0 (pa_cons (pv 0) (pa_cons (pv 1) pa_nil))) (pa_cons (pe_d (d__law_draw T) hr (by decide) (by rfl) pass0 (pa_cons (pv 0) (pa_cons pe_int pa_nil))) pa_nil)) (by rfl))
      (pss_one (ps_ret (pe_op op_cat (pe_slice sl_list (pv 2) (po_some (pv 3)) po_none) (pe_slice sl_list (pv 2) po_none (po_some (pv 3)))))))))), ?_⟩
  refine sq ?_
  refine s_lst1 (d := .list (lab1.map PyData.str)) (ed_lst (ea_cons ed_str (ea_cons ed_str (ea_cons ed_str (ea_cons ed_str (ea_cons ed_str (ea_cons ed_str (ea_cons ed_str (ea_cons ed_str (ea_cons ed_str (ea_cons ed_str (ea_cons ed_str (ea_cons ed_str (ea_cons ed_str ea_nil))))))))))))) (by decide)) fun a x1 H1 s1 h1 na1 => ?_
  have na : H a = none := L2.Same.free s1 na1
  obtain ⟨b1, ys1, rfl, hb1, hr1⟩ := h1.lst
  obtain rfl := hr1.strs_eq
  have n1 : b1 ≠ a := ne_of_none hb1 na1
  dsimp only
  refine sq ?_
  refine s_app (i := 1) (d := .list (lab2.map PyData.str)) rfl upd_same (by show 1 ≤ 10000; omega) (ed_lst (ea_cons ed_str (ea_cons ed_str (ea_cons ed_str (ea_cons ed_str (ea_cons ed_str (ea_cons ed_str (ea_cons ed_str (ea_cons ed_str (ea_cons ed_str (ea_cons ed_str (ea_cons ed_str (ea_cons ed_str (ea_cons ed_str ea_nil))))))))))))) (by decide)) fun x2 H2 s2 h2 => ?_
  obtain ⟨b2, ys2, rfl, hb2, hr2⟩ := h2.lst
  obtain rfl := hr2.strs_eq
  have ha2 := s2 _ _ (upd_same (H := H1) (a := a) (o := .lst [V.ref b1]))
  have n2 : b2 ≠ a := fun z => by
    rw [z, ha2] at hb2
    have e := HO.lst.inj (Option.some.inj hb2)
    cases e
  dsimp only
  refine sq ?_
  refine s_app (i := 1) (d := .list (lab3.map PyData.str)) rfl upd_same (by show 2 ≤ 10000; omega) (ed_lst (ea_cons ed_str (ea_cons ed_str (ea_cons ed_str (ea_cons ed_str (ea_cons ed_str (ea_cons ed_str (ea_cons ed_str (ea_cons ed_str (ea_cons ed_str (ea_cons ed_str (ea_cons ed_str (ea_cons ed_str (ea_cons ed_str ea_nil))))))))))))) (by decide)) fun x3 H3 s3 h3 => ?_
  obtain ⟨b3, ys3, rfl, hb3, hr3⟩ := h3.lst
  obtain rfl := hr3.strs_eq
  have ha3 := s3 _ _ (upd_same (H := H2) (a := a) (o := .lst ([V.ref b1] ++ [V.ref b2])))
  have n3 : b3 ≠ a := fun z => by
    rw [z, ha3] at hb3
    have e := HO.lst.inj (Option.some.inj hb3)
    cases e
  have L1 : LF p H (upd H1 a (.lst [V.ref b1])) := (LF.of_same F s1).mut na
  have L2' : LF p H (upd H2 a (.lst ([V.ref b1] ++ [V.ref b2]))) := (L1.same s2).mut na
  have L3 : LF p H (upd H3 a (.lst (([V.ref b1] ++ [V.ref b2]) ++ [V.ref b3]))) := (L2'.same s3).mut na
  have k1 : (upd H3 a (.lst (([V.ref b1] ++ [V.ref b2]) ++ [V.ref b3]))) b1 = some (.lst (lab1.map V.str)) := by
    rw [upd_ne n1]
    refine s3 _ _ ?_
    rw [upd_ne n1]
    refine s2 _ _ ?_
    rw [upd_ne n1]
    exact hb1
  have k2 : (upd H3 a (.lst (([V.ref b1] ++ [V.ref b2]) ++ [V.ref b3]))) b2 = some (.lst (lab2.map V.str)) := by
    rw [upd_ne n2]
    refine s3 _ _ ?_
    rw [upd_ne n2]
    exact hb2
  have k3 : (upd H3 a (.lst (([V.ref b1] ++ [V.ref b2]) ++ [V.ref b3]))) b3 = some (.lst (lab3.map V.str)) := by
    rw [upd_ne n3]
    exact hb3
  have ka : DD (upd H3 a (.lst (([V.ref b1] ++ [V.ref b2]) ++ [V.ref b3]))) (.list [.list (lab1.map PyData.str), .list (lab2.map PyData.str), .list (lab3.map PyData.str)]) (.ref a) :=
    dd_lst upd_same (dds_cons (dd_lst k1 (dds_strs _)) (dds_cons (dd_lst k2 (dds_strs _)) (dds_cons (dd_lst k3 (dds_strs _)) dds_nil)))
  clear k1 k2 k3
  generalize upd H3 a (.lst (([V.ref b1] ++ [V.ref b2]) ++ [V.ref b3])) = G at L3 ka
  dsimp only
  refine sq ?_
  refine ga_cons (P := fun d => d ∈ [PyData.list (lab1.map PyData.str), .list (lab2.map PyData.str), .list (lab3.map PyData.str)]) (R := fun es => ∃ r, es = [.int r] ∧ 0 ≤ r ∧ r < 13) (ge_any (i := 0) rfl (pd_var (i := 1) rfl ka) (fun z => by cases z) (by show 3 ≤ 1000; omega))
    (fun H1 x Q q => ge_draw (i := 0) (m := 13) rfl pd_int (by omega) (by omega) H1 x _ fun d v H2 ⟨r, er, h⟩ y hd => q _ _ _ ⟨r, by rw [er], h⟩ y (dds_cons hd dds_nil)) G (LF.refl L3.b) _ fun ds vs H4 hds L4 hvs => ?_
  obtain ⟨d, es, rfl, hd, r, rfl, r0, r1⟩ := hds
  obtain ⟨u1, u2, rfl, g1, g2⟩ := hvs.two
  obtain rfl := g2.int_eq
  refine ⟨u1, _, rfl, ?_⟩
  obtain ⟨ns, en, hn⟩ : ∃ ns, d = .list (ns.map PyData.str) ∧ LabOk ns := by
    rcases List.mem_cons.mp hd with e | hd
    · exact ⟨_, e, lab1_ok⟩
    · rcases List.mem_cons.mp hd with e | hd
      · exact ⟨_, e, lab2_ok⟩
      · rcases List.mem_cons.mp hd with e | hd
        · exact ⟨_, e, lab3_ok⟩
        · cases hd
  subst en
  have er : r = (r.toNat : Int) := by omega
  rw [er]
  dsimp only
  refine s_retD (ED.is (ed_cat (ed_from (k := r.toNat) (ed_var (i := 2) rfl g1) (ed_var (i := 3) rfl dd_int)) (ed_to (k := r.toNat) (ed_var (i := 2) rfl g1) (ed_var (i := 3) rfl dd_int)) (by rw [List.length_drop, List.length_take, List.length_map, hn.len]; omega)) (by rw [← List.map_drop, ← List.map_take, ← List.map_append])) fun v5 H5 s5 h5 => q _ v5 H5 (hn.perm ?_) ((L3.trans L4).same s5) h5
  have pe : (ns.drop r.toNat ++ ns.take r.toNat).Perm (ns.take r.toNat ++ ns.drop r.toNat) := List.perm_append_comm
  rw [List.take_append_drop] at pe
  exact pe
end
end KL

/-! ## packs as keys: small questions -/
namespace KL
open PySem PySem.Spec PyProof.Rows L2
mutual
def nkD : PyData → NestedKey
  | .none => .none
  | .bool b => .num (if b = true then 1 else 0)
  | .int i => .num i
  | .str x => .text x
  | .tuple ds => .tup (nkDs ds)
  | .list _ => .none
  | .dict _ => .none
def nkDs : List PyData → List NestedKey
  | [] => []
  | d :: ds => nkD d :: nkDs ds
end
section
variable {X : Cx} {pins : List (Addr × Obj)} {σ : L2.St} {H : Hp} {s : Shared}
mutual
theorem nest_of (I : Inv X pins σ H s) : ∀ (d : PyData) (v : V) (u : Value), lf d = true → DD H d v → RelV v u → NestedIs s.heap (nkD d) u
  | .none, v, u, _, h, r => by
    simp only [DD] at h
    subst h
    obtain rfl : u = Value.none := r
    simp only [nkD]
    exact .none
  | .bool b, v, u, _, h, r => by
    obtain rfl := h.bl_eq
    obtain rfl : u = Value.bool b := r
    simp only [nkD]
    exact .bool rfl
  | .int i, v, u, _, h, r => by
    obtain rfl := h.int_eq
    obtain ⟨t, rfl⟩ := r
    simp only [nkD]
    exact .int i t
  | .str x, v, u, _, h, r => by
    obtain rfl := h.str_eq
    obtain ⟨t, rfl⟩ := r
    simp only [nkD]
    exact .text x t
  | .tuple ds, v, u, l, h, r => by
    obtain ⟨a, xs, rfl, h2, h3⟩ := h.tup
    obtain rfl : u = Value.ref a := r
    obtain ⟨its, rv, pl, _⟩ := I.tuple (.inl (.inl h2))
    obtain ⟨o, ho, hc, n, hd⟩ := pl
    simp only [nkD]
    exact .tup ho hc hd (nests_of I ds xs its (by simpa [lf] using l) h3 rv)
  | .list _, _, _, l, _, _ => by simp [lf] at l
  | .dict _, _, _, _, h, _ => by simp only [DD] at h
theorem nests_of (I : Inv X pins σ H s) : ∀ (ds : List PyData) (xs : List V) (us : List Value), lfs ds = true → DDs H ds xs → Vals xs us → NestedAll s.heap (nkDs ds) us
  | [], _, _, _, h, r => by
    simp only [DDs] at h
    subst h
    cases r
    simp only [nkDs]
    exact .nil
  | d :: ds, _, _, l, h, r => by
    simp only [DDs] at h
    obtain ⟨x, rs, rfl, h1, h2⟩ := h
    cases r with
    | cons r1 r2 =>
      have l' : (lf d && lfs ds) = true := by simpa [lfs] using l
      rw [Bool.and_eq_true] at l'
      simp only [nkDs]
      exact .cons (nest_of I d x _ l'.1 h1 r1) (nests_of I ds rs _ l'.2 h2 r2)
end
end
section
variable {P : Program} {w : World} {A : Around} {E : Value → Shared → Prop} {s : Shared}
mutual
theorem cls_key : ∀ (k : NestedKey) (v : Value) (n : Nat) (s : Shared), NestedIs s.heap k v → k.depth ≤ n → ∀ (A : Around) (E : Value → Shared → Prop) (Q : Bool → Shared → Prop), Q false s → wpAny (model P w) A (ofAClassStatement n v) Q E s
  | .none, _, n, s, x, _, A, E, Q, q => by cases x; cases n <;> exact wpAny_pure q
  | .num i, _, n, s, x, _, A, E, Q, q => by cases x <;> cases n <;> exact wpAny_pure q
  | .text y, _, n, s, x, _, A, E, Q, q => by cases x; cases n <;> exact wpAny_pure q
  | .tup ks, _, n, s, x, hn, A, E, Q, q => by
    cases x with
    | tup hg hc hd hk =>
      simp only [NestedKey.depth] at hn
      cases n with
      | zero => omega
      | succ n =>
        unfold ofAClassStatement
        refine wpAny_bind (wpAny_typeOf (T := "tuple") ⟨_, hg, hc⟩ ?_)
        dsimp only
        have e : (("tuple" : String) == "tuple") = true := by decide
        simp only [e, if_true, Bool.not_true, Bool.false_eq_true, if_false]
        try refine wpAny_bind (wpAny_pure ?_)
        try simp only [Bool.not_true, Bool.false_eq_true, if_false]
        refine wpAny_bind (wpAny_seqItems hg hd ?_)
        dsimp only
        refine wpAny_bind ?_
        have all := cls_keys ks _ n s hk (by omega)
        rw [← Array.forIn_toList]
        refine wpAny_forIn_list _ (fun rest r z => r.1 = none ∧ z = s ∧ ∀ v ∈ rest, ∀ (A : Around) (E : Value → Shared → Prop) (Q : Bool → Shared → Prop), Q false s → wpAny (model P w) A (ofAClassStatement n v) Q E s) _ ?_ ?_ _ _ ⟨rfl, rfl, all⟩
        · rintro v rest r z ⟨hr, rfl, al⟩
          refine wpAny_bind (al v List.mem_cons_self _ _ _ ?_)
          simp only [Bool.false_eq_true, if_false]
          exact wpAny_pure ⟨rfl, rfl, fun u hu => al u (List.mem_cons_of_mem _ hu)⟩
        · rintro ⟨r1, r2⟩ z ⟨hr, rfl, _⟩
          simp only at hr
          subst hr
          exact wpAny_pure q
theorem cls_keys : ∀ (ks : List NestedKey) (vs : List Value) (n : Nat) (s : Shared), NestedAll s.heap ks vs → NestedKey.depthAll ks ≤ n → ∀ v ∈ vs, ∀ (A : Around) (E : Value → Shared → Prop) (Q : Bool → Shared → Prop), Q false s → wpAny (model P w) A (ofAClassStatement n v) Q E s
  | [], vs, n, s, x, _, v, hv => by cases x; cases hv
  | k :: ks, _, n, s, x, hn, v, hv => by
    cases x with
    | cons x1 x2 =>
      simp only [NestedKey.depthAll] at hn
      rcases List.mem_cons.mp hv with e | hv
      · rw [e]
        exact cls_key k _ n s x1 (by omega)
      · exact cls_keys ks _ n s x2 (by omega) v hv
end
abbrev NK (P : Program) (w : World) (h : Heap) (k : NestedKey) (b : Addr) : Prop := (nestedKind P w).is h k b
theorem cls_nk {k : NestedKey} {b : Addr} {Q : Bool → Shared → Prop} (x : NK P w s.heap k b) (q : Q false s) : wpAny (model P w) A (ofAClassStatement 8 (.ref b)) Q E s := cls_key k _ 8 s x.1 x.2 A E Q q
/-- a tuple that begins with a text is not hashed by value alone -/
theorem hby_nk {t : Str} {ks : List NestedKey} {b : Addr} {Q : Bool → Shared → Prop} (x : NK P w s.heap (.tup (.text t :: ks)) b) (q : Q false s) : wpAny (model P w) A (hashByValue 8 (.ref b)) Q E s := by
  obtain ⟨x, _⟩ := x
  cases x with
  | tup hg hc hd hk =>
    rename_i o vs n
    unfold hashByValue
    refine wpAny_bind (wpAny_specialOf (T := "tuple") ⟨_, hg, hc⟩ F.slot_tuple_hash.lookup ?_)
    show wpAny _ _ (seqItems? (.ref b) >>= _) _ _ s
    refine wpAny_bind (wpAny_seqItems hg hd ?_)
    refine wpAny_bind ?_
    show wpAny _ _ (forIn vs _ _) _ _ s
    rw [← Array.forIn_toList]
    generalize vs.toList = l at hk
    cases hk with
    | cons k1 k2 =>
      cases k1
      rw [List.forIn_cons]
      refine wpAny_bind ?_
      refine wpAny_bind (m := hashByValue 7 (.str t _)) (wpAny_pure ?_)
      simp only [Bool.not_false, if_true]
      refine wpAny_pure ?_
      exact wpAny_pure (wpAny_pure q)
/-- a search among such tuples shows nothing -/
theorem seen_nk {k : NestedKey} {b : Addr} {Q : Bool → Shared → Prop} (x : NK P w s.heap k b) {ys : List Value} (hy : ∀ y ∈ ys, ∃ k2 c, y = Value.ref c ∧ NK P w s.heap k2 c) (q : Q false s) : wpAny (model P w) A (searchCouldBeSeen (.ref b) ys) Q E s := by
  unfold searchCouldBeSeen
  refine wpAny_bind ?_
  refine wpAny_forIn_list _ (fun rest r z => r.1 = none ∧ z = s ∧ ∀ y ∈ rest, ∃ k2 c, y = Value.ref c ∧ NK P w s.heap k2 c) _ ?_ ?_ _ _ ⟨rfl, rfl, hy⟩
  · rintro v rest r z ⟨hr, rfl, all⟩
    obtain ⟨k2, c, rfl, hc⟩ := all v List.mem_cons_self
    have more : ∀ y ∈ rest, ∃ k2 c, y = Value.ref c ∧ NK P w z.heap k2 c := fun u hu => all u (List.mem_cons_of_mem _ hu)
    dsimp only
    by_cases hv : (b == c || (carriedByValue (.ref b) && carriedByValue (.ref c))) = true
    · refine wp_if_pos hv ?_
      exact wpAny_pure ⟨rfl, rfl, more⟩
    · refine wp_if_neg hv ?_
      refine wpAny_bind ((nestedKind P w).quiet x ?_)
      simp only [Bool.not_true, Bool.false_eq_true, if_false]
      refine wpAny_bind ((nestedKind P w).quiet hc ?_)
      simp only [Bool.not_true, Bool.false_eq_true, if_false]
      refine wpAny_bind (cls_nk x ?_)
      simp only [Bool.false_eq_true, if_false]
      refine wpAny_bind (cls_nk hc ?_)
      simp only [Bool.false_eq_true, if_false]
      exact wpAny_pure ⟨rfl, rfl, more⟩
  · rintro ⟨r1, r2⟩ z ⟨hr, rfl, _⟩
    simp only at hr
    subst hr
    exact wpAny_pure q
end
end KL

/-! ## a set of few packs: search and add -/
namespace KL
open PySem PySem.Spec PyProof.Rows L2
def rowsK (w : World) (L : List (Addr × NestedKey)) : List (Int × Value) := L.map fun p => (p.2.hash w, Value.ref p.1)
structure SetK (P : Program) (w : World) (h : Heap) (a : Addr) (L : List (Addr × NestedKey)) (es : Array (Int × Value)) (ep : Nat) (t : SetTable) : Prop where
  ob : ∃ o, h.get? a = some o ∧ o.ExactSet ∧ o.data = .set es ep t
  rows : es.toList = rowsK w L
  tab : TabOk t (L.map fun p => p.2.hash w)
  keys : ∀ p ∈ L, NK P w h p.2 p.1
  led : w.params.followText "set-order" = true ∨ t.led = true
  mask : t.mask = 7
  few : L.length ≤ 4
section
variable {P : Program} {w : World} {A : Around} {E : Value → Shared → Prop} {s : Shared} {a : Addr} {L : List (Addr × NestedKey)} {es : Array (Int × Value)} {ep : Nat} {t : SetTable}
theorem SetK.size {h : Heap} (R : SetK P w h a L es ep t) : es.size = L.length := by
  rw [← Array.length_toList, R.rows]
  exact List.length_map _
theorem SetK.place {h : Heap} (R : SetK P w h a L es ep t) : t.place.size = L.length := R.tab.sz.trans (List.length_map _)
theorem SetK.fits {h : Heap} (R : SetK P w h a L es ep t) : t.fits es.size = true := by
  have h1 := R.place
  have h2 := R.size
  have h3 := R.few
  have h4 := R.mask
  unfold SetTable.fits SetTable.fill
  rw [R.tab.dm, Bool.and_eq_true, beq_iff_eq, decide_eq_true_eq]
  show t.place.size = es.size ∧ t.place.size + 0 ≤ t.mask
  omega
theorem SetK.entry {h : Heap} (R : SetK P w h a L es ep t) {i : Nat} {p : Addr × NestedKey} (e : L[i]? = some p) : es[i]? = some (p.2.hash w, Value.ref p.1) := by
  rw [← Array.getElem?_toList, R.rows]
  unfold rowsK
  rw [List.getElem?_map, e] <;> rfl
theorem SetK.gave {h : Heap} (R : SetK P w h a L es ep t) : ¬ t.gaveWay = true := by
  unfold SetTable.gaveWay
  rw [mask_odd R.tab.mok]
  decide
theorem nth_clean (m : Nat) : ∀ (n : Nat) (p : SetTable.Probe), p.dummy = none → (nth m p n).dummy = none
  | 0, _, h => h
  | n + 1, p, h => nth_clean m n (adv m p) (by
    unfold adv
    split <;> exact h)
abbrev startK (t : SetTable) (h : Int) : SetTable.Probe := runAt t.mask (SetTable.bits h % (t.mask + 1)) (SetTable.bits h)
/-- the search for what isn't there -/
theorem searchK (R : SetK P w s.heap a L es ep t) {x : Addr} {k : NestedKey} (hx : NK P w s.heap k x) (hu : A.units + 8 < cLine) (nk : ∀ p ∈ L, p.2 ≠ k) {K : Nat} (hKf : K < 10 * SetTable.turns t.mask)
    (hK : way t.mask (k.hash w) K ∉ t.place.toList) (hKb : ∀ c, c < K → way t.mask (k.hash w) c ∈ t.place.toList) {Q : SetFound → Shared → Prop} (out : Q (.free (way t.mask (k.hash w) K) false) s) :
    ∀ (f c : Nat) (stand : Option SetTable.Probe), stand.getD (t.probeStart (k.hash w)) = nth t.mask (startK t (k.hash w)) c → c ≤ K → K - c < f → wpAny (model P w) A (setSearchFrom a (.ref x) (k.hash w) true f stand) Q E s
  | 0, c, stand, _, _, hf => absurd hf (Nat.not_lt_zero _)
  | f + 1, c, stand, hst, hc, hf => by
    obtain ⟨o, ho, hex, hd⟩ := R.ob
    rw [setSearchFrom_succ]
    refine wpAny_bind ((wpAny_setState_of ho hd R.fits ?_))
    dsimp only
    refine wp_if_neg R.gave ?_
    try refine wpAny_bind (wpAny_pure ?_)
    have sh : ∀ q, nth t.mask (nth t.mask (startK t (k.hash w)) c) q = nth t.mask (startK t (k.hash w)) (c + q) := fun q => (nth_add t.mask c _ q).symm
    have e1 : ∀ q, (nth t.mask (nth t.mask (startK t (k.hash w)) c) q).j = way t.mask (k.hash w) (c + q) := fun q => congrArg SetTable.Probe.j (sh q)
    have eK : c + (K - c) = K := by omega
    rcases go_spec t R.tab.ris R.tab.dm (fun i => (es[i]?.map (·.1)).getD 0) (k.hash w) (10 * SetTable.turns t.mask) (K - c) (nth t.mask (startK t (k.hash w)) c) (nth_clean _ _ _ rfl) (by omega)
      (fun q hq => by rw [e1]; exact hKb (c + q) (by omega)) (by rw [e1, eK]; exact hK) with ⟨q, i, hq, hi, _, _, pr⟩ | ⟨_, pr⟩
    · have pr2 : t.probe (fun i => (es[i]?.map (·.1)).getD 0) (k.hash w) (stand.getD (t.probeStart (k.hash w))) = some (.candidate (way t.mask (k.hash w) (c + q)) i (nth t.mask (startK t (k.hash w)) (c + (q + 1)))) := by
        rw [hst, ← e1, ← sh]
        exact pr
      rw [pr2]
      dsimp only
      rw [e1] at hi
      have il : i < L.length := by
        have z := (List.getElem?_eq_some_iff.mp hi).1
        rw [Array.length_toList, R.place] at z
        exact z
      obtain ⟨p, hp⟩ : ∃ p, L[i]? = some p := ⟨_, List.getElem?_eq_getElem il⟩
      have pm := List.mem_of_getElem? hp
      have ne : decide (p.2 = k) = false := decide_eq_false (nk p pm)
      have rest : wpAny (model P w) A (searchRest a (.ref x) (k.hash w) true f es t (way t.mask (k.hash w) (c + q)) i (nth t.mask (startK t (k.hash w)) (c + (q + 1)))) Q E s := by
        unfold searchRest
        rw [R.entry hp]
        dsimp only
        refine wpAny_bind (wpAny_holding ((nestedKind P w).eqBool hu (R.keys p pm) hx ?_))
        rw [ne]
        refine wpAny_bind ((wpAny_setState_of ho hd R.fits ?_))
        dsimp only
        refine wp_if_neg (by simp) ?_
        try refine wpAny_bind (wpAny_pure ?_)
        rw [sameMem]
        dsimp only
        have sl : t.slot (way t.mask (k.hash w) (c + q)) = .live i := slot_live R.tab.ris hi
        simp only [if_true, sl, R.entry hp]
        refine wpAny_bind (wpAny_isSame_ref_self (wpAny_bind (wpAny_pure ?_)))
        simp only [if_true]
        refine wp_if_neg (by simp) ?_
        exact searchK R hx hu nk hKf hK hKb out f (c + (q + 1)) _ rfl (by omega) (by omega)
      by_cases hl : t.led = true
      · refine wp_if_neg (by simp [hl]) ?_
        try refine wpAny_bind (wpAny_pure ?_)
        exact rest
      · refine wp_if_pos (by simp [hl]) ?_
        refine wpAny_bind (seen_nk hx (fun y hy => ?_) ?_)
        · obtain ⟨e, he, ee⟩ := List.mem_map.mp hy
          have he1 : e ∈ es ∧ e.1 = k.hash w := by simpa using he
          have he2 : e ∈ es.toList := by simpa using he1.1
          rw [R.rows] at he2
          obtain ⟨p2, hp2, e2⟩ := List.mem_map.mp he2
          exact ⟨p2.2, p2.1, by rw [← ee, ← e2], R.keys p2 hp2⟩
        · refine wp_if_neg (by decide) ?_
          try refine wpAny_bind (wpAny_pure ?_)
          exact rest
    · have pr2 : t.probe (fun i => (es[i]?.map (·.1)).getD 0) (k.hash w) (stand.getD (t.probeStart (k.hash w))) = some (.empty (way t.mask (k.hash w) K) none) := by
        have e2 := e1 (K - c)
        rw [eK] at e2
        rw [hst, ← e2]
        exact pr
      rw [pr2]
      dsimp only
      exact wpAny_pure out
theorem searchK_at (R : SetK P w s.heap a L es ep t) {x : Addr} {k : NestedKey} (hx : NK P w s.heap k x) (hu : A.units + 8 < cLine) (nk : ∀ p ∈ L, p.2 ≠ k) {Q : SetFound → Shared → Prop}
    (out : ∀ K, way t.mask (k.hash w) K ∉ t.place.toList → (∀ c, c < K → way t.mask (k.hash w) c ∈ t.place.toList) → Q (.free (way t.mask (k.hash w) K) false) s) : wpAny (model P w) A (setSearch a (.ref x) (k.hash w) true) Q E s := by
  have hm := R.mask
  have hf := R.few
  obtain ⟨K, hKf, hK, hKb⟩ := R.tab.first (by rw [List.length_map]; omega) (k.hash w)
  have big : K < 100000 := by
    have : 10 * SetTable.turns t.mask ≤ 1420 := by
      unfold SetTable.turns
      omega
    omega
  unfold setSearch
  exact searchK R hx hu nk hKf hK hKb (out K hK hKb) 100000 0 none rfl (Nat.zero_le _) (by omega)
theorem nk_same {h h' : Heap} {k : NestedKey} {b : Addr} {o : Obj} (x : NK P w h k b) (ho : h.get? a = some o) (hd : o.data = .set es ep t) (hs : Heap.SameBut a h h') : NK P w h' k b :=
  (nestedKind_stays (prog := P) (w := w)).stays (fun c oc vs n e d => (hs.2 c (fun z => by
    rw [z, ho] at e
    rw [← Option.some.inj e, hd] at d
    cases d)).trans e) x
/-- one pack more -/
theorem addK (R : SetK P w s.heap a L es ep t) {x : Addr} {tx : Str} {ks : List NestedKey} (hx : NK P w s.heap (.tup (.text tx :: ks)) x) (hu : A.units + 8 < cLine) (nk : ∀ p ∈ L, p.2 ≠ .tup (.text tx :: ks)) (few : L.length + 1 ≤ 4) {Q : Bool → Shared → Prop}
    (hQ : ∀ h' L2 es2 ep2 t2, Heap.SameBut a s.heap h' → SetK P w h' a L2 es2 ep2 t2 → L2.Perm ((x, .tup (.text tx :: ks)) :: L) → Q true { s with heap := h' }) :
    wpAny (model P w) A (setAddHashed a (.ref x) ((NestedKey.tup (.text tx :: ks)).hash w)) Q E s := by
  generalize hk : NestedKey.tup (.text tx :: ks) = k at hx nk hQ ⊢
  obtain ⟨o, ho, hex, hd⟩ := R.ob
  unfold setAddHashed
  refine wpAny_holding ?_
  rw [show (100000 : Nat) = 99999 + 1 from rfl, setAddHashedIn_succ]
  refine wpAny_bind ((wpAny_setState_of ho hd R.fits ?_))
  dsimp only
  refine wp_if_neg (by simp [byScan, Value.scannable]) ?_
  try refine wpAny_bind (wpAny_pure ?_)
  refine wpAny_bind (searchK_at R hx hu nk fun K hK hb => ?_)
  dsimp only
  refine wpAny_bind ((wpAny_setState_of ho hd R.fits ?_))
  dsimp only
  obtain ⟨q1, q2, q3, q4, q5, q6, q7, q8, q9⟩ := R.tab.put hK hb
  generalize t.put (way t.mask (k.hash w) K) = pt at q1 q3 q4 q5 q6 q7 q8 q9 ⊢
  obtain ⟨t1, p⟩ := pt
  dsimp only at q1 q3 q4 q5 q6 q7 q8 q9 ⊢
  subst q1
  have ins : (SetTable.insertAt es (SetTable.below t.place (way t.mask (k.hash w) K)) (k.hash w, Value.ref x)).toList = rowsK w (L.take (SetTable.below t.place (way t.mask (k.hash w) K)) ++ (x, k) :: L.drop (SetTable.below t.place (way t.mask (k.hash w) K))) := by
    rw [SetTable.toList_insertAt, R.rows]
    unfold rowsK
    rw [List.map_append, List.map_cons, List.map_take, List.map_drop]
  generalize SetTable.below t.place (way t.mask (k.hash w) K) = p at q2 q3 ins ⊢
  have pm := put_perm L p (x, k)
  have q3' : TabOk t1 ((L.take p ++ (x, k) :: L.drop p).map fun p => p.2.hash w) := by
    rw [List.map_append, List.map_cons, List.map_take, List.map_drop]
    exact q3
  have len1 : (L.take p ++ (x, k) :: L.drop p).length = L.length + 1 := pm.length_eq
  generalize SetTable.insertAt es p (k.hash w, Value.ref x) = es1 at ins ⊢
  generalize L.take p ++ (x, k) :: L.drop p = L1 at pm ins q3' len1
  have sz1 : es1.size = L.length + 1 := by
    rw [← Array.length_toList, ins, ← len1]
    exact List.length_map _
  -- the end, whatever the table says of its plainness
  have fin : ∀ t2 : SetTable, TabOk t2 (L1.map fun p => p.2.hash w) → t2.mask = t.mask → t2.led = t.led → t2.tooFull = false → ∀ (R2 : Bool → Shared → Prop), (∀ h' , Heap.SameBut a s.heap h' → SetK P w h' a L1 es1 (ep + 1) t2 → R2 true { s with heap := h' }) →
      wpAny (model P w) A (do
        storeSet a es1 t2
        if (!false && t2.tooFull) = true then setRelay a (SetTable.grown (es.size + 1))
        pure true) R2 E s := fun t2 T2 m2 l2 nf R2 hR => by
    refine wpAny_bind (wpAny_storeSet_of ho hd ?_ (by rw [sz1, sizeLine_eq]; omega))
    have sb : Heap.SameBut a s.heap (s.heap.update a (Obj.putSet es1 t2)) := Heap.SameBut.update ..
    have ho1 := store_at (es' := es1) (t' := t2) ho hd
    generalize s.heap.update a (Obj.putSet es1 t2) = h1 at sb ho1 ⊢
    have R1 : SetK P w h1 a L1 es1 (ep + 1) t2 := ⟨⟨_, ho1, ⟨hex.1, hex.2.1, hex.2.2⟩, rfl⟩, ins, T2, fun p hp => by
      rcases List.mem_cons.mp (pm.mem_iff.mp hp) with e | hp
      · rw [e]; exact nk_same hx ho hd sb
      · exact nk_same (R.keys p hp) ho hd sb, by rw [l2]; exact R.led, m2.trans R.mask, by omega⟩
    first
      | refine wp_if_neg (by simp [nf]) ?_
      | (refine wpAny_bind ?_; refine wp_if_neg (by simp [nf]) ?_; refine wpAny_pure ?_)
    exact wpAny_pure (hR h1 sb R1)
  have nf : t1.tooFull = false := by
    unfold SetTable.tooFull
    refine decide_eq_false fun z => ?_
    rw [q9, List.length_map, q4, R.mask] at z
    omega
  by_cases pl : t1.plain = true
  · have goal := fin { t1 with plain := false } ⟨q3'.ris, q3'.dm, q3'.sz, q3'.mok, q3'.bd, q3'.reach⟩ q4 q5 nf
    first
      | (refine wpAny_bind ?_; refine wp_if_pos pl ?_; rw [← hk] at hx; refine hby_nk hx ?_)
      | (refine wp_if_pos pl ?_; rw [← hk] at hx; refine wpAny_bind (hby_nk hx ?_))
    simp only [Bool.false_eq_true, if_false]
    exact goal _ fun h' sb R1 => hQ h' L1 es1 (ep + 1) _ sb R1 pm
  · have goal := fin t1 q3' q4 q5 nf
    first
      | (refine wpAny_bind ?_; refine wp_if_neg pl ?_; refine wpAny_pure ?_)
      | (refine wp_if_neg pl ?_; refine wpAny_bind (wpAny_pure ?_))
    simp only [if_true]
    exact goal _ fun h' sb R1 => hQ h' L1 es1 (ep + 1) _ sb R1 pm
end
end KL

/-! ## a list of packs of different names, sorted -/
namespace KL
open PySem PySem.Spec PyProof.Rows L2
/-- at b stands a tuple that begins with the text x -/
def TopAt (h : Heap) (b : Addr) (x : Str) : Prop := ∃ (o : Obj) (vs : Array Value) (n : Nat) (t : Tok) (r : List Value), h.get? b = some o ∧ o.cls = .type "tuple" ∧ o.data = .seq vs n ∧ vs.toList = .str x t :: r
abbrev PL := List (Addr × Pack)
def packAt (N : PL) (v : Value) : Option Pack := match v with
  | .ref b => N.lookup b
  | _ => none
abbrev kindK (N : PL) : PyProof.Rows.KeyKind where
  toKeyOrd := PyProof.Rows.strKind.toKeyOrd
  keyOf := fun v => (packAt N v).map fun k => k.nm.cps.toList
  dflt := []
theorem look_mem : ∀ {N : PL} {p : Addr × Pack}, (N.map (·.1)).Nodup → p ∈ N → N.lookup p.1 = some p.2
  | q :: N, p, nd, h => by
    obtain ⟨n1, n2⟩ := List.nodup_cons.mp nd
    rcases List.mem_cons.mp h with e | h
    · rw [e, List.lookup_cons, beq_self_eq_true]
    · have ne : (p.1 == q.1) = false := by
        refine beq_eq_false_iff_ne.mpr fun z => n1 ?_
        exact List.mem_map.mpr ⟨p, h, z⟩
      rw [List.lookup_cons, ne]
      exact look_mem n2 h
theorem look_in : ∀ {N : PL} {b : Addr} {k : Pack}, N.lookup b = some k → (b, k) ∈ N
  | q :: N, b, k, h => by
    rw [List.lookup_cons] at h
    by_cases e : b = q.1
    · rw [e, beq_self_eq_true] at h
      obtain rfl := Option.some.inj h
      rw [e]
      exact List.mem_cons_self
    · rw [beq_eq_false_iff_ne.mpr e] at h
      exact List.mem_cons_of_mem _ (look_in h)
theorem same_nm : ∀ {N : PL} {p q : Addr × Pack}, (N.map fun p => p.2.nm).Nodup → p ∈ N → q ∈ N → p.2.nm = q.2.nm → p = q
  | x :: N, p, q, nd, hp, hq, e => by
    obtain ⟨n1, n2⟩ := List.nodup_cons.mp nd
    rcases List.mem_cons.mp hp with e1 | h1 <;> rcases List.mem_cons.mp hq with e2 | h2
    · rw [e1, e2]
    · exact absurd (List.mem_map.mpr ⟨q, h2, by rw [← e, e1]⟩) n1
    · exact absurd (List.mem_map.mpr ⟨p, h1, by rw [e, e2]⟩) n1
    · exact same_nm n2 h1 h2 e
section
variable {prog : Program} {w : World} {A : Around} {E : Value → Shared → Prop} {s : Shared} {N : PL}
theorem katSelf {b fin : Bool} {Q : Bool → Shared → Prop} (q : Q fin s) : ∀ (l : List Value) (i : Nat), PySem.W.KatLex prog w A b fin Q (l.zip l) i s
  | [], _ => PySem.W.kat_nil q
  | v :: l, i => PySem.W.kat_cons (SeqAt.EqAt.same v _ _ _ _ (PySem.W.kat_yes (katSelf q l (i + 1))))
theorem ltK (top : ∀ p ∈ N, TopAt s.heap p.1 p.2.nm) (nd : (N.map fun p => p.2.nm).Nodup) : PyProof.Rows.G.LtAt prog w s (kindK N) (tuples' true) := by
  intro A E x y a b Q hx hy hq
  have open' : ∀ {v : Value} {c : List Nat}, (packAt N v).map (fun k => k.nm.cps.toList) = some c → ∃ bx k, v = .ref bx ∧ (bx, k) ∈ N ∧ c = k.nm.cps.toList := fun {v c} e => by
    obtain ⟨k, e1, e2⟩ := Option.map_eq_some_iff.mp e
    cases v with
    | ref bx => exact ⟨bx, k, rfl, look_in e1, e2.symm⟩
    | _ => cases e1
  obtain ⟨bx, kx, rfl, mx, rfl⟩ := open' hx
  obtain ⟨b2, ky, rfl, my, rfl⟩ := open' hy
  obtain ⟨ox, vx, nx, t1, r1, hox, hcx, hdx, ex⟩ := top _ mx
  obtain ⟨oy, vy, ny, t2, r2, hoy, hcy, hdy, ey⟩ := top _ my
  refine PySem.W.kat_lt hox hdx hoy hdy ?_
  by_cases e : kx.nm = ky.nm
  · obtain ⟨rfl, rfl⟩ := Prod.mk.inj (same_nm nd mx my e)
    obtain rfl := Option.some.inj (hox.symm.trans hoy)
    rw [hdx] at hdy
    obtain ⟨rfl, rfl⟩ := Data.seq.inj hdy
    refine katSelf ?_ _ _
    rw [decide_eq_false (Nat.lt_irrefl _)]
    have z : decide (kx.nm.cps.toList < kx.nm.cps.toList) = false := decide_eq_false (List.lt_irrefl _)
    have hq' : Q (decide (kx.nm.cps.toList < kx.nm.cps.toList)) s := hq
    rw [z] at hq'
    exact hq'
  · rw [ex, ey, List.zip_cons_cons]
    refine PySem.W.kat_cons (wpAny_eqBool_str ?_)
    rw [decide_eq_false e]
    refine PySem.W.kat_no ?_
    exact oneLt_str hq
theorem katTups : ∀ (vs : List Value), (∀ v ∈ vs, ∃ b x, v = .ref b ∧ TopAt s.heap b x) → ∃ fs, PySem.W.KatTups s.heap vs fs ∧ fs.length = vs.length ∧ ∀ f ∈ fs, ∃ x t, f = Value.str x t
  | [], _ => ⟨[], PySem.W.KatTups.nil, rfl, fun f h => by cases h⟩
  | v :: vs, h => by
    obtain ⟨b, x, rfl, o, xs, n, t, r, ho, hc, hd, ex⟩ := h v List.mem_cons_self
    obtain ⟨fs, h1, h2, h3⟩ := katTups vs fun u hu => h u (List.mem_cons_of_mem _ hu)
    refine ⟨.str x t :: fs, PySem.W.KatTups.cons ho hc hd (by rw [← Array.getElem?_toList, ex]; rfl) h1, by rw [List.length_cons, List.length_cons, h2], fun f hf => ?_⟩
    rcases List.mem_cons.mp hf with e | hf
    · exact ⟨x, t, e⟩
    · exact h3 f hf
theorem top_keep {h h' : Heap} {b : Addr} {x : Str} (k : PyProof.Rows.G.KeepsTups h h') (t : TopAt h b x) : TopAt h' b x := by
  obtain ⟨o, vs, n, tk, r, ho, hc, hd, e⟩ := t
  exact ⟨o, vs, n, tk, r, k b o ho hc, hc, hd, e⟩
/-- list.sort of the packs -/
theorem sortK {a : Addr} {vs : List Value} {n : Nat} {R : PySem.Fin → Shared → Prop} (ho : s.heap.get? a = some (seqObj "list" vs.toArray n)) (pm : vs.Perm (N.map fun p => Value.ref p.1)) (few : vs.length ≤ 60)
    (top : ∀ p ∈ N, TopAt s.heap p.1 p.2.nm) (nd : (N.map fun p => p.2.nm).Nodup) (nda : (N.map (·.1)).Nodup)
    (h : ∀ (out : Array Value) (N2 : PL), out.toList = N2.map (fun p => Value.ref p.1) → N2.Perm N → N2.Pairwise (fun p q => leS p.2.nm q.2.nm) → R (.done (.ret .none)) { s with heap := sortedHeap s.heap a vs out }) :
    wpAny (model prog w) A (Builtin.«list.sort» ⟨[.ref a], []⟩) R E s := by
  have isr : ∀ v ∈ vs, ∃ p ∈ N, v = Value.ref p.1 := fun v hv => by
    obtain ⟨p, hp, e⟩ := List.mem_map.mp (pm.mem_iff.mp hv)
    exact ⟨p, hp, e.symm⟩
  have k6 := PyProof.Rows.G.keeps_sort6 (vs := vs) ho
  refine PyProof.Rows.G.list_sort_treeG (κ := kindK N) (kd := tuples' true) ho (fun p hp => ?_) (ltK (s := { s with heap := PyProof.Rows.G.sortHeap6 s.heap a vs }) (fun p hp => top_keep k6 (top p hp)) nd) (fun h2 Q q => ?_) (by rw [sizeLine_eq]; omega) fun st xp xs _ => ?_
  · rw [pairsOf_toList] at hp
    obtain ⟨_, hm⟩ := mem_zip_self hp
    obtain ⟨q, hq, e⟩ := isr _ hm
    exact ⟨_, by show (packAt N p.1).map _ = _; rw [e]; show (N.lookup q.1).map _ = _; rw [look_mem nda hq]; rfl⟩
  · obtain ⟨fs, f1, f2, f3⟩ := katTups (s := { s with heap := PyProof.Rows.G.sortHeap6 s.heap a vs }) vs fun v hv => by
      obtain ⟨p, hp, e⟩ := isr v hv
      exact ⟨p.1, p.2.nm, e, top_keep k6 (top p hp)⟩
    refine PySem.W.kat_kind (s := { s with heap := PyProof.Rows.G.sortHeap6 s.heap a vs }) (T := .type "str") f1 (by omega) (fun f hf => ?_) rfl ?_
    · obtain ⟨x, t, rfl⟩ := f3 f hf
      exact fun A Q E s k q => wpAny_pure q
    · exact q
  · have hl : (arrOf st).toList.Perm (vs.zip vs) := by rw [← pairsOf_toList]; exact Array.perm_iff_toList_perm.mp xp
    have same : ∀ p ∈ (arrOf st).toList, p.1 = p.2 ∧ p.1 ∈ vs := fun p hp => mem_zip_self (hl.mem_iff.mp hp)
    let g : Value → Addr × Pack := fun v => match v with
      | .ref b => (b, (N.lookup b).getD ⟨Str.empty, 0, false, []⟩)
      | _ => (0, ⟨Str.empty, 0, false, []⟩)
    have gr : ∀ p ∈ N, g (Value.ref p.1) = p := fun p hp => by
      show (p.1, (N.lookup p.1).getD _) = p
      rw [look_mem nda hp]
      rfl
    refine h _ ((arrOf st).toList.map fun p => g p.1) ?_ ?_ ?_
    · rw [Array.toList_map, List.map_map]
      refine List.map_congr_left fun p hp => ?_
      obtain ⟨e, hm⟩ := same p hp
      obtain ⟨q, hq, e2⟩ := isr _ hm
      show p.2 = Value.ref (g p.1).1
      rw [← e, e2, gr q hq]
    · have h1 := hl.map fun p => g p.1
      have e2 : (vs.zip vs).map (fun p => g p.1) = vs.map g := by
        have : (vs.zip vs).map (fun p => g p.1) = ((vs.zip vs).map Prod.fst).map g := by rw [List.map_map]; rfl
        rw [this, List.map_fst_zip (Nat.le_refl _)]
      rw [e2] at h1
      have e3 : (N.map fun p => Value.ref p.1).map g = N := by
        rw [List.map_map]
        exact (List.map_congr_left fun p hp => gr p hp).trans (List.map_id _)
      have h2 := pm.map g
      rw [e3] at h2
      exact h1.trans h2
    · rw [List.pairwise_map, List.pairwise_iff_getElem]
      intro i j hi hj hij
      have hi' : i < (arrOf st).size := by simpa using hi
      have hj' : j < (arrOf st).size := by simpa using hj
      have z := xs i j (Nat.le_of_lt hij) (by rw [← xp.size_eq]; exact hj')
      have kk : ∀ i (hi : i < (arrOf st).size), KK (kindK N) (arrOf st) i = (g (arrOf st).toList[i].1).2.nm.cps.toList := fun i hi => by
        obtain ⟨_, hm⟩ := same (arrOf st).toList[i] (List.getElem_mem (by simpa using hi))
        obtain ⟨q, hq, e2⟩ := isr _ hm
        unfold KK
        rw [Array.getElem?_eq_getElem hi]
        have e3 : (arrOf st)[i].1 = Value.ref q.1 := by rw [← e2, Array.getElem_toList]
        show ((packAt N (arrOf st)[i].1).map _).getD _ = _
        rw [e2, e3, gr q hq]
        show ((N.lookup q.1).map _).getD _ = _
        rw [look_mem nda hq]
        rfl
      rw [kk i hi', kk j hj'] at z
      have z' : decide ((g (arrOf st).toList[j].1).2.nm.cps.toList < (g (arrOf st).toList[i].1).2.nm.cps.toList) = false := z
      exact List.not_lt.mp (of_decide_eq_false z')
end
end KL

/-! ## sorted(set(list of packs)) -/
namespace KL
open PySem PySem.Spec PyProof.Rows L2
section
variable {P : Program} {w : World} {A : Around} {E : Value → Shared → Prop} {s : Shared} {a : Addr}
theorem addsK {h0 : Heap} {ps : List (Addr × NestedKey)} (hu : A.units + 8 < cLine) (nd : (ps.map (·.2)).Nodup) (few : ps.length ≤ 4) (key : ∀ p ∈ ps, NK P w h0 p.2 p.1) (txt : ∀ p ∈ ps, ∃ x r, p.2 = .tup (.text x :: r)) :
    AddsAt P w A a h0 (fun i h => ∃ L es ep t, SetK P w h a L es ep t ∧ L.Perm (ps.take i)) (ps.map fun p => Value.ref p.1) := fun E i v s Q hv iv kp hQ => by
  obtain ⟨L, es, ep, t, R, pm⟩ := iv
  rw [List.getElem?_map] at hv
  obtain ⟨p, hp, rfl⟩ := Option.map_eq_some_iff.mp hv
  have pmem := List.mem_of_getElem? hp
  obtain ⟨x, r, ep2⟩ := txt p pmem
  have hx : NK P w s.heap p.2 p.1 := (nestedKind_stays (prog := P) (w := w)).stays (fun b o vs n e _ => kp b o e) (key p pmem)
  have il : i < ps.length := (List.getElem?_eq_some_iff.mp hp).1
  have e2 : ps.take (i + 1) = ps.take i ++ [p] := by
    have := (List.getElem?_eq_some_iff.mp hp).2
    rw [List.take_succ_eq_append_getElem il, this]
  unfold setAdd
  refine wpAny_holding ?_
  refine wpAny_bind ((nestedKind P w).pyHash hu hx ?_)
  rw [ep2] at hx ⊢
  refine addK (s := { s with toks := s.toks + (nestedKind P w).draws (.tup (.text x :: r)) }) R hx hu (fun q hq z => ?_) (by rw [pm.length_eq, List.length_take]; omega) fun h' L2 es2 ep3 t2 sb R2 pm2 => hQ true h' _ sb (Nat.le_add_right _ _) ⟨L2, es2, ep3, t2, R2, ?_⟩
  · have q2 := nd
    rw [← List.take_append_drop i ps, List.map_append] at q2
    refine (List.nodup_append.mp q2).2.2 _ (List.mem_map_of_mem (f := fun p : Addr × NestedKey => p.2) (pm.mem_iff.mp hq)) p.2 ?_ (by show q.2 = p.2; rw [z, ep2])
    rw [List.drop_eq_getElem_cons il, (List.getElem?_eq_some_iff.mp hp).2]
    exact List.mem_cons_self
  · rw [e2]
    refine pm2.trans ?_
    rw [← ep2]
    exact ((pm.cons p).trans (List.perm_append_singleton _ _).symm)
theorem staysK {h0 : Heap} {ps : List (Addr × NestedKey)} (key : ∀ p ∈ ps, NK P w h0 p.2 p.1) : StaysAt a h0 (fun i h => ∃ L es ep t, SetK P w h a L es ep t ∧ L.Perm (ps.take i)) := fun i h h' ⟨L, es, ep, t, R, pm⟩ k kp => by
  obtain ⟨o, ho, r⟩ := R.ob
  exact ⟨L, es, ep, t, ⟨⟨o, k o ho, r⟩, R.rows, R.tab, fun p hp => (nestedKind_stays (prog := P) (w := w)).stays (fun b o vs n e _ => kp b o e) (key p (List.mem_of_mem_take (pm.mem_iff.mp hp))), R.led, R.mask, R.few⟩, pm⟩
theorem freshK {h : Heap} (ho : h.get? a = some (set0 w)) : SetK P w h a [] #[] 0 (.fresh 0 0 (!w.params.followText "set-order")) where
  ob := ⟨_, ho, ⟨rfl, rfl, rfl⟩, rfl⟩
  rows := rfl
  tab := ⟨List.Pairwise.nil, rfl, rfl, (Or.inl rfl), (fun x hx => by cases hx), (fun i h j hi => by simp at hi)⟩
  keys := (fun p hp => by cases hp)
  led := by
    show _ ∨ (!w.params.followText "set-order") = true
    cases w.params.followText "set-order"
    · exact .inr rfl
    · exact .inl rfl
  mask := rfl
  few := Nat.zero_le _
theorem sortedK {L : List (Addr × NestedKey)} {N : PL} {es : Array (Int × Value)} {ep : Nat} {t : SetTable} {Q : Value → Shared → Prop} (R : SetK P w s.heap a L es ep t) (pm : L.Perm (N.map fun p => (p.1, nkD (encK p.2)))) (hh : A.handled = none)
    (top : ∀ p ∈ N, TopAt s.heap p.1 p.2.nm) (nd : (N.map fun p => p.2.nm).Nodup) (nda : (N.map (·.1)).Nodup)
    (hQ : ∀ s' p (out : Array Value) (c : Nat) (N2 : PL), (∀ b o, s.heap.get? b = some o → s'.heap.get? b = some o) → s'.gens = s.gens → s'.os = s.os → s.heap.objs.size ≤ p → s'.heap.get? p = some (seqObj "list" out c) → out.toList = N2.map (fun p => Value.ref p.1) → N2.Perm N → N2.Pairwise (fun p q => leS p.2.nm q.2.nm) → Q (.ref p) s') :
    wpAny (model P w) A (call (.builtin "sorted") [.ref a]) Q E s := by
  obtain ⟨o, ho, hex, hd⟩ := R.ob
  refine Calls.call_function_entry kind_sorted plain_sorted entry_sorted (args_sorted1 _) ?_
  unfold Builtin.«sorted»
  refine wpAny_bind (m := checkCount "sorted" 1 1 _) (wpAny_pure ?_)
  refine wpAny_bind (collect_set (A := A.in1) hh ⟨o, ho, hex.1, hd⟩ R.fits (by rw [R.size]; exact Nat.lt_of_le_of_lt R.few (by decide)) R.tab.ris R.led fun s1 vs k1 hz g1 o1 pv => ?_)
  have pv2 : vs.Perm (N.map fun p => Value.ref p.1) := by
    rw [R.rows] at pv
    unfold rowsK at pv
    rw [List.map_map] at pv
    have q := pm.map fun p => Value.ref p.1
    rw [List.map_map] at q
    exact pv.trans q
  have vl : vs.length ≤ 4 := by
    rw [pv2.length_eq, List.length_map]
    have := pm.length_eq
    rw [List.length_map] at this
    rw [← this]
    exact R.few
  refine wpAny_bind (wpAny_newList ?_ (by rw [sizeLine_eq]; omega))
  have oL : (s1.heap.push (seqObj "list" vs.toArray 0)).get? s1.heap.objs.size = some (seqObj "list" vs.toArray 0) := Heap.get?_push_size _ rfl
  refine wpAny_bind (wpAny_holding (wpAny_call_entry PyProof.Rows.slot_list_sort ⟨_, oL, rfl⟩ PyProof.Rows.entry_list_sort
    (sortK (N := N) oL pv2 (by omega) (fun p hp => top_keep (fun b o e _ => Heap.get?_push_of_some _ (k1 b o e)) (top p hp)) nd nda fun out N2 e2 p2 w2 => ?_) (PyProof.Rows.args_list_sort _)))
  obtain ⟨c, hc⟩ := sortedHeap_at (vs := vs) (out := out) oL
  refine ⟨.none, rfl, wpAny_pure ⟨_, rfl, ?_⟩⟩
  refine hQ _ s1.heap.objs.size _ c N2 (fun b u e => ?_) g1 o1 hz hc e2 p2 w2
  have q := k1 b u e
  have lt := Heap.lt_size q
  show (sortedHeap (s1.heap.push (seqObj "list" vs.toArray 0)) s1.heap.objs.size vs _).get? b = some u
  rw [sortedHeap_old (Nat.ne_of_lt lt) (by rw [size_push']; exact Nat.lt_succ_of_lt lt)]
  exact Heap.get?_push_of_some _ q
end
theorem nk_pack (k : Pack) : nkD (encK k) = .tup (.text k.nm :: nkDs [.int k.made, .bool k.apart, .tuple (k.sheet.map encP)]) := by simp only [encK, nkD, nkDs]
theorem nk_depth (k : Pack) : (nkD (encK k)).depth ≤ 8 := by
  have h : ∀ l : AL, NestedKey.depthAll (nkDs (l.map encP)) ≤ 3 := by
    intro l
    induction l with
    | nil => simp [nkDs, NestedKey.depthAll]
    | cons q l ih =>
      simp only [List.map_cons, nkDs, NestedKey.depthAll, encP, nkD, NestedKey.depth]
      omega
  have := h k.sheet
  rw [nk_pack]
  simp only [nkDs, nkD, NestedKey.depthAll, NestedKey.depth]
  omega
theorem lf_pack (k : Pack) : lf (encK k) = true := by
  have h : ∀ l : AL, lfs (l.map encP) = true := by
    intro l
    induction l with
    | nil => rfl
    | cons q l ih =>
      show (lf (encP q) && lfs (l.map encP)) = true
      rw [ih]
      rfl
  show (true && (true && (true && (lfs (k.sheet.map encP) && true)))) = true
  rw [h]
  rfl
theorem top_nk {P : Program} {w : World} {h : Heap} {b : Addr} {k : Pack} (x : NK P w h (nkD (encK k)) b) : TopAt h b k.nm := by
  obtain ⟨x, _⟩ := x
  rw [nk_pack] at x
  cases x with
  | tup hg hc hd hk =>
    rename_i o vs n
    generalize e : vs.toList = l at hk
    cases hk with
    | cons k1 k2 =>
      cases k1
      exact ⟨o, vs, n, _, _, hg, hc, hd, e⟩
theorem top_one {h : Heap} {b : Addr} {x y : Str} (t : TopAt h b x) (u : TopAt h b y) : x = y := by
  obtain ⟨o, vs, n, tk, r, ho, _, hd, e⟩ := t
  obtain ⟨o2, vs2, n2, tk2, r2, ho2, _, hd2, e2⟩ := u
  obtain rfl := Option.some.inj (ho.symm.trans ho2)
  rw [hd] at hd2
  obtain ⟨rfl, rfl⟩ := Data.seq.inj hd2
  rw [e] at e2
  exact (Value.str.inj (List.cons.inj e2).1).1
theorem addr_nodup {h : Heap} : ∀ {N : PL}, (N.map fun p => p.2.nm).Nodup → (∀ p ∈ N, TopAt h p.1 p.2.nm) → (N.map (·.1)).Nodup
  | [], _, _ => List.nodup_nil
  | q :: N, nd, top => by
    obtain ⟨n1, n2⟩ := List.nodup_cons.mp nd
    refine List.nodup_cons.mpr ⟨fun z => ?_, addr_nodup n2 fun p hp => top p (List.mem_cons_of_mem _ hp)⟩
    obtain ⟨p, hp, e⟩ := List.mem_map.mp z
    have t1 := top p (List.mem_cons_of_mem _ hp)
    have e' : p.1 = q.1 := e
    rw [e'] at t1
    exact n1 (List.mem_map.mpr ⟨p, hp, top_one t1 (top q List.mem_cons_self)⟩)
theorem packs_of {H : Hp} : ∀ {ks : List Pack} {xs : List V}, DDs H (ks.map encK) xs → ∃ N : PL, xs = N.map (fun p => V.ref p.1) ∧ N.map (·.2) = ks ∧ ∀ p ∈ N, DD H (encK p.2) (.ref p.1)
  | [], _, h => by
    obtain rfl := h.nil_eq
    exact ⟨[], rfl, rfl, fun p hp => by cases hp⟩
  | k :: ks, _, h => by
    obtain ⟨x, r, rfl, h1, h2⟩ := h.uncons
    obtain ⟨N, rfl, e2, h3⟩ := packs_of h2
    obtain ⟨a, ys, rfl, _, _⟩ := h1.tup
    refine ⟨(a, k) :: N, rfl, by rw [List.map_cons, e2], fun p hp => ?_⟩
    rcases List.mem_cons.mp hp with e | hp
    · rw [e]; exact h1
    · exact h3 p hp
theorem of_packs {H : Hp} : ∀ {N : PL}, (∀ p ∈ N, DD H (encK p.2) (.ref p.1)) → DDs H ((N.map (·.2)).map encK) (N.map fun p => V.ref p.1)
  | [], _ => dds_nil
  | q :: N, h => dds_cons (h q List.mem_cons_self) (of_packs fun p hp => h p (List.mem_cons_of_mem _ hp))
theorem vals_packs : ∀ {N : PL} {us : List Value}, Vals (N.map fun p => V.ref p.1) us → us = N.map fun p => Value.ref p.1
  | [], _, r => by cases r; rfl
  | q :: N, _, r => by
    cases r with
    | cons r1 r2 =>
      rw [vals_packs r2, show _ = Value.ref q.1 from r1]
      rfl
theorem packs_vals : ∀ (N : PL), Vals (N.map fun p => V.ref p.1) (N.map fun p => Value.ref p.1)
  | [] => .nil
  | q :: N => .cons rfl (packs_vals N)
theorem srt_packs {N N2 : PL} {ks : List Pack} (e : N.map (·.2) = ks) (pm : N2.Perm N) (pw : N2.Pairwise fun p q => leS p.2.nm q.2.nm) (nd : (ks.map fun k : Pack => k.nm).Nodup) : N2.map (·.2) = srtBy Pack.nm ks := by
  have p2 : (N2.map (·.2)).Perm ks := by rw [← e]; exact pm.map _
  refine List.Perm.eq_of_pairwise (le := fun a b : Pack => leS a.nm b.nm) (fun a b ha hb x y => ?_) (by rw [List.pairwise_map]; exact pw) (srtBy_rises Pack.nm ks) (p2.trans (srtBy_perm _ _).symm)
  have inj : ∀ {l : List Pack}, (l.map fun k : Pack => k.nm).Nodup → ∀ {a b : Pack}, a ∈ l → b ∈ l → a.nm = b.nm → a = b := by
    intro l
    induction l with
    | nil => intro _ _ _ h; cases h
    | cons q l ih =>
      intro n a b ha hb z
      obtain ⟨n1, n2⟩ := List.nodup_cons.mp n
      rcases List.mem_cons.mp ha with e1 | h1 <;> rcases List.mem_cons.mp hb with e2 | h2
      · rw [e1, e2]
      · exact absurd (List.mem_map.mpr ⟨b, h2, by rw [← z, e1]⟩) n1
      · exact absurd (List.mem_map.mpr ⟨a, h1, by rw [z, e2]⟩) n1
      · exact ih n2 h1 h2 z
  exact inj nd (p2.mem_iff.mp ha) ((srtBy_perm _ _).mem_iff.mp hb) (leS_anti x y)
/-- sorted(set(a list of packs of different names)) -/
def tSrtK (K : PySem.W.Frag) (ta : TE) : TE := fun σ H Q => ta σ H fun x H1 => ∃ (ks : List Pack), DD H1 (.list (ks.map encK)) x ∧ (ks.map fun k : Pack => k.nm).Nodup ∧ ks.length ≤ 4 ∧ (∀ k ∈ ks, k.sheet.length ≤ 10) ∧
  ∀ v H2, Same H1 H2 → DD H2 (.list ((srtBy Pack.nm ks).map encK)) v → Q v H2
section
variable {X : Cx} {a : Expr} {ta : TE} {p p2 q pos : Pos}
theorem pe_srtK (hu : X.A.units + 64 < cLine) (hc : X.calm = true) (hg : Gl X "sorted") (hm : X.mg "sorted" = none) (hg2 : Gl X "set") (hm2 : X.mg "set" = none) (ha : PE X a ta)
    (na : starEach [a] X.env = (false, eval a X.env) :: starEach [] X.env := by rfl) : PE X (.Call (.Name "sorted" p) [.Call (.Name "set" p2) [a] [] q] [] pos) (tSrtK X.K ta) := by
  refine ⟨fun pins s σ H Q I h => ?_⟩
  refine Call_ (ld_blt I hg hm (by rfl) ?_)
  refine PyProof.Rows.callWith_builtin1 (PyProof.Rows.args_cons ?_ rfl) rfl rfl
  refine Call_ (ld_blt I hg2 hm2 (by rfl) ?_)
  refine PyProof.Rows.callWith_type1 (PyProof.Rows.args_cons (thn (ha.run pins s σ H _ I h) fun v s1 r => PyProof.Rows.args_nil ?_) na) na rfl
  obtain ⟨x, H1, I1, r1, ks, hx, nd, few, _, q1⟩ := r
  obtain ⟨l, xs, rfl, hl, hd⟩ := hx.lst
  cases r1
  obtain ⟨N, rfl, rfl, hN⟩ := packs_of hd
  obtain ⟨its, rv, pl, hz⟩ := I1.list (.inl (.inl hl))
  obtain rfl := vals_packs rv
  have key : ∀ p ∈ (N.map fun p => (p.1, nkD (encK p.2))), NK X.prog X.w s1.heap p.2 p.1 := fun p hp => by
    obtain ⟨q, hq, rfl⟩ := List.mem_map.mp hp
    exact ⟨nest_of I1 (encK q.2) (.ref q.1) (.ref q.1) (lf_pack q.2) (hN q hq) rfl, nk_depth q.2⟩
  have top : ∀ p ∈ N, TopAt s1.heap p.1 p.2.nm := fun p hp => top_nk (key (p.1, nkD (encK p.2)) (List.mem_map_of_mem (f := fun p : Addr × Pack => (p.1, nkD (encK p.2))) hp))
  have ndN : (N.map fun p => p.2.nm).Nodup := by
    rw [List.map_map] at nd
    exact nd
  have nda := addr_nodup ndN top
  have lenN : N.length ≤ 4 := by rw [List.length_map] at few; exact few
  have ndk : ((N.map fun p => (p.1, nkD (encK p.2))).map (·.2)).Nodup := by
    rw [List.map_map]
    have q : (N.map fun p => p.2.nm) = (N.map ((·.2) ∘ fun p => (p.1, nkD (encK p.2)))).map fun k => match k with
      | .tup (.text x :: _) => x
      | _ => Str.empty := by
      rw [List.map_map]
      exact List.map_congr_left fun p _ => by simp only [Function.comp_def, nk_pack]
    rw [q] at ndN
    exact nodup_of_map ndN
  have adds := addsK (P := X.prog) (w := X.w) (A := X.A.in1.in1.in1) (a := s1.heap.objs.size) (h0 := s1.heap) (ps := N.map fun p => (p.1, nkD (encK p.2))) (by show X.A.units + 3 + 8 < cLine; omega) ndk (by rw [List.length_map]; exact lenN) key (fun p hp => by
    obtain ⟨q, _, rfl⟩ := List.mem_map.mp hp
    exact ⟨_, _, nk_pack q.2⟩)
  rw [List.map_map] at adds
  refine set_gen (IV := fun i h => ∃ L es ep t, SetK X.prog X.w h s1.heap.objs.size L es ep t ∧ L.Perm ((N.map fun p => (p.1, nkD (encK p.2))).take i)) (I1.ok.hd hc) pl.isList (staysK key) (by rw [List.toList_toArray]; exact adds) (fun h ho _ => ⟨_, _, _, _, freshK ho, .nil⟩) fun h' tk iv k => ?_
  refine PyProof.Rows.args_nil ?_
  have I2 := I1.kept (h' := h') (t' := tk) k
  obtain ⟨L, es, ep, t, R, pm⟩ := iv
  rw [List.take_of_length_le (by rw [List.size_toArray, List.length_map, List.length_map]; exact Nat.le_refl _)] at pm
  refine sortedK (s := { s1 with heap := h', toks := tk }) R pm (I1.ok.hd hc) (fun p hp => top_keep (fun b o e _ => k b o e) (top p hp)) ndN nda fun s2 p out c N2 k2 g o hp hg ho2 pm2 pw => ?_
  have hlen : (N2.map fun p => V.ref p.1).length ≤ sizeLine := by rw [List.length_map, pm2.length_eq, sizeLine_eq]; omega
  have hn : H1 p = none := I2.hok.fresh hp
  have J : Inv X pins σ (upd H1 p (.lst (N2.map fun p => V.ref p.1))) { s1 with heap := s2.heap, gens := s2.gens, drawn := s2.drawn, toks := s2.toks } :=
    Inv.call (s := { s1 with heap := h', toks := tk }) I2 (ch := []) (Un.laid k2 hp hn) (I2.hok.laid k2 hp ⟨hlen, out.toList, c, by rw [ho2]; exact packs_vals N2, hg⟩) (by rw [g]; exact I2.bare) (fun _ z => nomatch z)
  have e : s2 = { s1 with heap := s2.heap, gens := s2.gens, drawn := s2.drawn, toks := s2.toks } := by
    cases s2
    cases s1
    cases o
    rfl
  rw [e]
  refine ⟨.ref p, _, J, rfl, q1 _ _ (Same.new hn) ?_⟩
  rw [← srt_packs rfl pm2 pw nd]
  exact dd_lst upd_same (DDs.same (Same.new hn) _ _ (of_packs fun p hp => hN p (pm2.mem_iff.mp hp)))
end
end KL

/-! ## options, packs, rows, shops -/
namespace KL
open PySem PySem.Spec PyProof.Rows L2
def spOptions : Sp := fun vs H Q _ => ∃ p low v, vs = [V.ref (FP.f p), v] ∧ Feed p H ∧ DD H (.list (low.map PyData.str)) v ∧ low ≠ [] ∧ low.length ≤ 10 ∧
  ∀ (os : List Str) v H', (∀ o ∈ os, o ∈ low) → os.length ≤ 10 → LF p H H' → DD H' (.tuple (os.map PyData.str)) v → Q v H'
def spPack : Sp := fun vs H Q _ => ∃ p name pool eithers top v2 v3, vs = [V.ref (FP.f p), .str name, v2, v3, .int top] ∧ Feed p H ∧ DD H (.list (pool.map PyData.str)) v2 ∧ DD H (.list (eithers.map PyData.str)) v3 ∧ pool ≠ [] ∧ pool.length ≤ 20 ∧ eithers.length ≤ 20 ∧ 1 ≤ top ∧ top ≤ 10 ∧ (∀ n ∈ pool ++ eithers, PyData.strOk n = true) ∧
  ∀ (k : Pack) v H', k.nm = name → 0 ≤ k.made → k.made ≤ 2 → k.sheet.length ≤ 4 → (∀ q ∈ k.sheet, q.1 ∈ pool ++ eithers ∧ 1 ≤ q.2 ∧ q.2 ≤ top) → LF p H H' → DD H' (encK k) v → Q v H'
def spRow : Sp := fun vs H Q _ => ∃ p S high vS, vs = [V.ref (FP.f p), vS, .int high] ∧ Feed p H ∧ ShopSz S ∧ DD H (encS S) vS ∧ 1 ≤ high ∧ high ≤ 1000 ∧
  ∀ (r : AL) v H', (keysA r).Sublist (srtS (pNames S ++ kNames S)) → (∀ q ∈ r, 1 ≤ q.2 ∧ q.2 < high) → LF p H H' → DD H' (.tuple (r.map encP)) v → Q v H'
theorem sc_law_options : FnScope ["_law_feed_here", "_law_low", "_law_some", "_law_one"] ["_law_feed_here", "_law_low"] (defScope s__law_options) := ⟨rfl, rfl, rfl, by decide +kernel, rfl, by decide +kernel, by decide +kernel⟩
theorem sc_law_pack : FnScope ["_law_feed_here", "_law_name", "_law_pool", "_law_eithers", "_law_top", "_law_is_apart", "_law_some", "_law_pick", "_law_sheet", "_law_one"] ["_law_feed_here", "_law_name", "_law_pool", "_law_eithers", "_law_top"] (defScope s__law_pack) := ⟨rfl, rfl, rfl, by decide +kernel, rfl, by decide +kernel, by decide +kernel⟩
theorem sc_law_row : FnScope ["_law_feed_here", "_law_store", "_law_high", "_law_pairs", "_law_one", "_law_number"] ["_law_feed_here", "_law_store", "_law_high"] (defScope s__law_row) := ⟨rfl, rfl, rfl, by decide +kernel, rfl, by decide +kernel, by decide +kernel⟩
section
variable {P : Program} {w : World} {K : PySem.W.Frag} {mg : Str → Option Value} {base : Heap}
theorem strs_of_sub {ys : List Str} {es : List PyData} (h : es.Sublist (ys.map PyData.str)) : ∃ zs : List Str, es = zs.map PyData.str ∧ zs.Sublist ys := by
  obtain ⟨l, h1, h2⟩ := List.sublist_map_iff.mp h
  exact ⟨l, h2, h1⟩
theorem shaped_strs (ys : List Str) (hok : ∀ y ∈ ys, PyData.strOk y = true) : SeqAt.shaped (.list (ys.map PyData.str)) = true := by
  have h1 : ∀ ys : List Str, (∀ y ∈ ys, PyData.strOk y = true) → PyData.canLayAll0 (ys.map PyData.str) = true := by
    intro ys
    induction ys with
    | nil => intro _; rfl
    | cons y ys ih =>
      intro h
      simp [PyData.canLayAll0, PyData.canLay0, ih fun z hz => h z (List.mem_cons_of_mem _ hz), h y List.mem_cons_self]
  have h2 : ∀ ys : List Str, PyData.depthAll (ys.map PyData.str) ≤ 1 := by
    intro ys
    induction ys with
    | nil => simp [PyData.depthAll]
    | cons y ys ih => simp [PyData.depthAll, PyData.depth]; omega
  have h1' := h1 ys hok
  have h2' := h2 ys
  unfold SeqAt.shaped
  rw [Bool.and_eq_true, decide_eq_true_eq]
  refine ⟨by simp [PyData.canLay0, h1'], ?_⟩
  simp [PyData.depth]
  omega
theorem eqv_nil (ds : List PyData) : PyData.eqv (.list ds) (.list []) = decide (ds = []) := by
  cases ds with
  | nil => simp [PyData.eqv, PyData.eqvAll]
  | cons d ds => simp [PyData.eqv, PyData.eqvAll]
/-- [x for x in texts if draw(m) == 0] -/
theorem ge_pick {p : FP} {tl : TE} {σ : L2.St} {H : Hp} {ys : List Str} {m : Int} {j i : Nat} {E : XK} {vs : List Nat} (hs : PD p tl σ H (.list (ys.map PyData.str))) (hl : ys.length ≤ 1000) (m1 : 1 ≤ m) (m2 : m ≤ 1000) (hw : ∀ x, wipe ((wipe σ vs).set i (some x)) vs = wipe σ vs)
    (hf : ∀ x, ((wipe σ vs).set i (some x))[j]? = some (some (.ref p.f))) (hi : ∀ x, ((wipe σ vs).set i (some x))[i]? = some (some x)) :
    GE p (tLc (iList K tl) (gName i) (tTest (tOp rEq (tCall spDraw [] E (tCons (tVar j) (tCons (tC (.int m)) tNil))) (tC (.int 0)))) (tVar i) vs) σ H (fun d => ∃ ds, d = .list ds ∧ ∃ zs : List Str, ds = zs.map PyData.str ∧ zs.Sublist ys) := by
  refine (ge_lcL (R := fun d o => o = none ∨ o = some d) hs (by rw [List.length_map]; omega) (fun d hd e he => ?_) fun d hd => ?_).imp fun d ⟨es, e, h⟩ => ⟨es, e, ?_⟩
  · obtain ⟨y, _, rfl⟩ := List.mem_map.mp hd
    rcases he with he | he
    · cases he
    · cases he; rfl
  · refine turnG_t (B := fun _ => True) (P := fun e => e = d) hw (fun x H1 s1 hx => gt_eq (ge_draw (hf x) pd_int m1 m2)) (fun x H1 s1 hx => ge_pure (pd_var (hi x) hx) rfl) (fun e he => .inr (by rw [he])) (.inl rfl)
  · exact strs_of_sub (h.sub fun d e he => by
      rcases he with he | he
      · cases he
      · exact Option.some.inj he)
theorem d__law_options (T : Txt K mg) : Def P w K mg base CX0 2 "_law_options" spOptions := by
  refine mk_def T.a__law_options sc_law_options (fun _ _ _ _ _ _ us hl => match us, hl with | [_, _], _ => rfl) (fun vs H Q E ⟨_, _, _, e, _⟩ => by rw [e]; rfl) fun f cdv A outer s H vs Q E hr h => ?_
  obtain ⟨p, low, v, rfl, F, hv, ne, hl, q⟩ := h
  refine ⟨_, (pss_cons (ps_setLc (i := 2) rfl sc_law_options.nd rfl rfl (sw_true rfl rfl rfl (by decide +kernel)) (pi_list (pv 1)) (blkOk_by (own := [("_law_one", 3)]) (N := ["_law_feed_here", "_law_low", "_law_some", "_law_one"]) (sc := defScope s__law_options) (by decide +kernel)) (fun _ _ _ _ _ => (pg_name (i := 3) sc_law_options.nd rfl (Or.inl rfl) (hf := Or.inr rfl))) (fun _ _ _ _ _ => (pts_one (pt_cmpR op_eq (pe_d (d__law_draw T) hr (by decide) (by rfl) pass0 (pa_cons (pv 0) (pa_cons pe_int pa_nil))) pe_int (nomark _)))) (fun _ _ _ _ _ => (pv 3)))
      (pss_one (ps_ret (pe_ifExp (pt_cmpR op_gt (pe_callB call_len_seq (by rfl) T.n_len (by decide +kernel) (pa_cons (pv 2) pa_nil)) pe_int (nomark _)) (pe_callTy call_tuple_of (by rfl) T.n_tuple (by decide +kernel) (pa_cons (pv 2) pa_nil)) (pe_tup (pa_cons (pe_ix ix_list (pv 1) pe_int (fun _ _ => rfl)) (pa_cons (pe_ix ix_list (pv 1) (pe_un un_neg pe_int) (fun _ _ => rfl)) pa_nil))))))), ?_⟩
  refine sq ?_
  refine s_setG F (ge_pick (j := 0) (i := 3) (m := 2) (pd_var (i := 1) rfl hv) (by omega) (by omega) (by omega) (fun _ => rfl) (fun _ => rfl) fun _ => rfl) fun d v2 H1 ⟨ds, e1, zs, e2, hz⟩ L1 h2 => ?_
  subst e1
  subst e2
  have zl := hz.length_le
  have hv1 := L1.dd hv
  dsimp only
  have l1 : 1 ≤ low.length := List.length_pos_iff.mpr ne
  have hm : ∃ os : List Str, (∀ o ∈ os, o ∈ low) ∧ os.length ≤ 10 ∧ ED (tIf (tTest (tOp (rI0 fun i j => .bl (decide (j < i))) (tCB (fun xs H Q => ∃ p ys, xs = [.ref p] ∧ (SqL K H p ys ∨ SqT K H p ys) ∧ Q (.int ys.length) H) (tCons (tVar 2) tNil)) (tC (.int 1))))
      (tCB (fun xs H Q => ∃ p ys, xs = [.ref p] ∧ ((SqL K H p ys ∧ ∀ l, H l = none → Q (.ref l) (upd H l (.tup ys))) ∨ (SqT K H p ys ∧ Q (.ref p) H))) (tCons (tVar 2) tNil)) (tTup (tCons (tOp (rIxL K) (tVar 1) (tC (.int 0))) (tCons (tOp (rIxL K) (tVar 1) (tUn (rU fun i => .int (-i)) (tC (.int 1)))) tNil))))
      [some (.ref p.f), some v, some v2, none] H1 (.tuple (os.map PyData.str)) := by
    by_cases c : 1 < zs.length
    · refine ⟨zs, fun o ho => hz.subset ho, by omega, ed_if (b := true) (ET.is (et_test (ed_opB (g := fun i j => decide (j < i)) (ed_lenL (ed_var (i := 2) rfl h2)) ed_int)) (decide_eq_true (by rw [List.length_map]; omega))) (fun _ => ed_tupleL (ed_var rfl h2)) (fun z => by cases z)⟩
    · obtain ⟨x, r, rfl⟩ : ∃ x r, low = x :: r := by
        cases low with
        | nil => exact absurd rfl ne
        | cons x r => exact ⟨x, r, rfl⟩
      refine ⟨[x, (x :: r).getLast (by simp)], fun o ho => ?_, by show 2 ≤ 10; omega, ed_if (b := false) (ET.is (et_test (ed_opB (g := fun i j => decide (j < i)) (ed_lenL (ed_var (i := 2) rfl h2)) ed_int)) (decide_eq_false (by rw [List.length_map]; omega))) (fun z => by cases z) fun _ =>
        ed_tup (ea_cons (ed_ixL (j := 0) (ed_var rfl hv1) rfl) (ea_cons (fun H2 s2 Q2 q2 => ?_) ea_nil)) (by show 2 ≤ 1000; omega)⟩
      · rcases List.mem_cons.mp ho with e | ho
        · rw [e]; exact List.mem_cons_self
        · rcases List.mem_cons.mp ho with e | ho
          · rw [e]; exact List.getLast_mem _
          · cases ho
      · obtain ⟨a, xs, rfl, hx, hr'⟩ := (DD.same s2 _ _ hv1).lst
        obtain rfl := hr'.strs_eq
        refine ⟨.ref a, rfl, 1, rfl, a, _, -1, .str ((x :: r).getLast (by simp)), rfl, rfl, .inl (.inl hx), ?_, q2 _ H2 (L2.Same.refl _) dd_str⟩
        have e := List.dropLast_concat_getLast (l := x :: r) (by simp)
        have e2 : (x :: r).map V.str = ((x :: r).dropLast.map V.str) ++ [V.str ((x :: r).getLast (by simp))] := by
          have e3 := congrArg (List.map V.str) e
          rw [List.map_append] at e3
          exact e3.symm
        rw [e2]
        exact atI_last _ _
  obtain ⟨os, h1, h2', h3⟩ := hm
  exact s_retD h3 fun v5 H5 s5 h5 => q os v5 H5 h1 h2' (L1.same s5) h5
theorem d__law_pack (T : Txt K mg) : Def P w K mg base CX0 3 "_law_pack" spPack := by
  refine mk_def T.a__law_pack sc_law_pack (fun _ _ _ _ _ _ us hl => match us, hl with | [_, _, _, _, _], _ => rfl) (fun vs H Q E ⟨_, _, _, _, _, _, _, e, _⟩ => by rw [e]; rfl) fun f cdv A outer s H vs Q E hr h => ?_
  obtain ⟨p, name, pool, eithers, top, v2, v3, rfl, F, hp, he, ne, pl, el, t1, t2, hok, q⟩ := h
  refine ⟨_, (pss_cons (ps_set (i := 5) sc_law_pack.nd rfl (Or.inl rfl) (pe_cmpR op_eq (pe_d (d__law_draw T) hr (by decide) (by rfl) pass0 (pa_cons (pv 0) (pa_cons pe_int pa_nil))) pe_int (nomark _)))
      (pss_cons (ps_set (i := 6) sc_law_pack.nd rfl (Or.inl rfl) (pe_op op_cat (pv 2) (pe_ifExp (pt_val (pv 5)) (pe_lst pa_nil) (pv 3))))
      (pss_cons (ps_set (i := 7) sc_law_pack.nd rfl (Or.inl rfl) (pe_slice sl_list (pe_lc rfl sc_law_pack.nd (pi_list (pv 6)) (blkOk_by (own := [("_law_one", 9)]) (N := ["_law_feed_here", "_law_name", "_law_pool", "_law_eithers", "_law_top", "_law_is_apart", "_law_some", "_law_pick", "_law_sheet", "_law_one"]) (sc := defScope s__law_pack) (by decide +kernel)) (fun _ _ _ _ _ => (pg_name (i := 9) sc_law_pack.nd rfl (Or.inl rfl) (hf := Or.inr rfl))) (fun _ _ _ _ _ => (pts_one (pt_cmpR op_eq (pe_d (d__law_draw T) hr (by decide) (by rfl) pass0 (pa_cons (pv 0) (pa_cons pe_int pa_nil))) pe_int (nomark _)))) (fun _ _ _ _ _ => (pv 9))) (po_some (pe_un un_neg pe_int)) po_none))
      (pss_cons (ps_set (i := 7) sc_law_pack.nd rfl (Or.inl rfl) (pe_ifExp (pt_cmpR (op_neD hr.units) (pv 7) (pe_lst pa_nil) (nomark _)) (pv 7) (pe_lst (pa_cons (pe_d (d__law_any T) hr (by decide) (by rfl) pass0 (pa_cons (pv 0) (pa_cons (pv 6) pa_nil))) pa_nil))))
      (pss_cons (ps_set (i := 8) sc_law_pack.nd rfl (Or.inl rfl) (pe_callTy call_tuple_of (by rfl) T.n_tuple (by decide +kernel) (pa_cons (pe_lc rfl sc_law_pack.nd (pi_list (pe_callB cr_sortedS (by rfl) T.n_sorted (by decide +kernel) (pa_cons (pv 7) pa_nil))) (blkOk_by (own := [("_law_one", 9)]) (N := ["_law_feed_here", "_law_name", "_law_pool", "_law_eithers", "_law_top", "_law_is_apart", "_law_some", "_law_pick", "_law_sheet", "_law_one"]) (sc := defScope s__law_pack) (by decide +kernel)) (fun _ _ _ _ _ => (pg_name (i := 9) sc_law_pack.nd rfl (Or.inl rfl) (hf := Or.inr rfl))) (fun _ _ _ _ _ => pts_nil) (fun _ _ _ _ _ => (pe_tup (pa_cons (pv 9) (pa_cons (pe_op op_add pe_int (pe_d (d__law_draw T) hr (by decide) (by rfl) pass0 (pa_cons (pv 0) (pa_cons (pv 4) pa_nil)))) pa_nil))))) pa_nil)))
      (pss_one (ps_ret (pe_tup (pa_cons (pv 1) (pa_cons (pe_d (d__law_any T) hr (by decide) (by rfl) pass0 (pa_cons (pv 0) (pa_cons (pe_lst (pa_cons pe_int (pa_cons pe_int (pa_cons pe_int (pa_cons pe_int pa_nil))))) pa_nil))) (pa_cons (pv 5) (pa_cons (pv 8) pa_nil)))))))))))), ?_⟩
  refine sq ?_
  refine s_setG F (gq_eq (m := 2) (n := 0) (ge_draw (i := 0) rfl pd_int (by omega) (by omega))) fun d v5 H1 ⟨b, eb⟩ L1 h5 => ?_
  subst eb
  dsimp only
  refine sq ?_
  refine s_setD (d := .list ((pool ++ if b = true then [] else eithers).map PyData.str)) (ED.is (ed_cat (es := (if b = true then [] else eithers).map PyData.str) (ed_var (i := 2) rfl (L1.dd hp)) (ed_if (b := b) (et_B (ed_var (i := 5) rfl h5)) (fun e => ?_) fun e => ?_) ?_) ?_) fun v6 H2 s2 h6 => ?_
  · rw [if_pos e]
    exact ed_lst ea_nil (by decide)
  · rw [if_neg (by rw [e]; exact Bool.false_ne_true)]
    exact ed_var (i := 3) rfl (L1.dd he)
  · rw [List.length_map, List.length_map]
    split
    · simp; omega
    · omega
  · rw [List.map_append]
  have hsub : ∀ z ∈ pool ++ (if b = true then [] else eithers), z ∈ pool ++ eithers := fun z hz => by
    rcases List.mem_append.mp hz with hz | hz
    · exact List.mem_append_left _ hz
    · split at hz
      · cases hz
      · exact List.mem_append_right _ hz
  have hsl : (pool ++ if b = true then [] else eithers).length ≤ 40 := by
    rw [List.length_append]
    split
    · simp; omega
    · omega
  have hsne : (pool ++ if b = true then [] else eithers) ≠ [] := fun z => ne (List.append_eq_nil_iff.mp z).1
  generalize (pool ++ if b = true then [] else eithers) = some_ at h6 hsub hsl hsne
  have L2' := L1.same s2
  dsimp only
  refine sq ?_
  refine s_setG (P := fun d => ∃ zs : List Str, d = .list (zs.map PyData.str) ∧ (∀ z ∈ zs, z ∈ some_) ∧ zs.length ≤ 4) L2'.b ((ge_last (P := fun ds => ∃ zs : List Str, ds = zs.map PyData.str ∧ zs.Sublist some_) (ge_pick (j := 0) (i := 9) (m := 3) (pd_var (i := 6) rfl h6) (by omega) (by omega) (by omega) (fun _ => rfl) (fun _ => rfl) fun _ => rfl)).imp fun d h => ?_) fun d v7 H3 ⟨zs, e7, hz, zl⟩ L3 h7 => ?_
  · obtain ⟨ds, es, e, ⟨zs, e2, hz⟩, sub, l4⟩ := h
    rw [e2] at sub
    obtain ⟨ws, e3, hw⟩ := strs_of_sub sub
    refine ⟨ws, by rw [e, e3], fun z h => hz.subset (hw.subset h), ?_⟩
    rw [e3, List.length_map] at l4
    exact l4
  subst e7
  have h6' := L3.dd h6
  dsimp only
  refine sq ?_
  refine s_setG (P := fun d => ∃ zs : List Str, d = .list (zs.map PyData.str) ∧ (∀ z ∈ zs, z ∈ some_) ∧ zs.length ≤ 4) L3.b (ge_if (b := !decide (zs.map PyData.str = [])) (fun H1 x => et_test (ED.is (ed_neD (ed_var (i := 7) rfl (x.dd h7)) (ed_lst ea_nil (by decide)) (shaped_strs zs fun z h => hok z (hsub z (hz z h))) (by decide)) (by rw [eqv_nil]))) (fun _ => ge_pure (pd_var (i := 7) rfl h7) ⟨zs, rfl, hz, zl⟩)
    (fun _ => (ge_lst (ga_cons (ge_any (i := 0) rfl (pd_var (i := 6) rfl h6') (by intro z; exact hsne (List.map_eq_nil_iff.mp z)) (by rw [List.length_map]; omega)) (ga_nil (P := fun ds => ds = []) rfl)) (fun ds ⟨d, es, e1, _, e2⟩ => by rw [e1, e2]; show 1 ≤ 1000; omega)).imp fun d ⟨ds, e0, d1, es, e1, h1, e2⟩ => ?_)) fun d v8 H4 ⟨zs2, e8, hz2, zl2⟩ L4 h8 => ?_
  · obtain ⟨z, hz1, rfl⟩ := List.mem_map.mp h1
    refine ⟨[z], by rw [e0, e1, e2]; rfl, fun y hy => ?_, by show 1 ≤ 4; omega⟩
    rw [List.mem_singleton.mp hy]
    exact hz1
  subst e8
  clear h7 hz zl
  dsimp only
  refine sq ?_
  have L24 := (L2'.trans L3).trans L4
  refine s_setG (P := fun d => ∃ sh : AL, d = .tuple (sh.map encP) ∧ (∀ z ∈ sh, z.1 ∈ some_ ∧ 1 ≤ z.2 ∧ z.2 ≤ top) ∧ sh.length ≤ 4) L24.b ((ge_tupleL (P := fun ds => ∃ sh : AL, ds = sh.map encP ∧ (∀ z ∈ sh, z.1 ∈ some_ ∧ 1 ≤ z.2 ∧ z.2 ≤ top) ∧ sh.length ≤ 4)
      ((ge_lcL (R := fun d o => ∃ n r, d = .str n ∧ o = some (encP (n, 1 + r)) ∧ 0 ≤ r ∧ r < top) (fun H1 x => ed_srtS1 (ed_var (i := 7) rfl (x.dd h8)) (by omega)) (by rw [List.length_map, srtS_len]; omega) (fun d hd e he => ?_) fun d hd => ?_).imp fun d h => ?_)).imp fun d h => ?_) fun d v9 H5 ⟨sh, e9, hsh, shl⟩ L5 h9 => ?_
  · obtain ⟨n, r, _, e2, _⟩ := he
    cases e2
    rfl
  · obtain ⟨n, hn, rfl⟩ := List.mem_map.mp hd
    refine turnG_n (P := fun e => ∃ r, e = encP (n, 1 + r) ∧ 0 ≤ r ∧ r < top) (fun _ => rfl) (fun x H1 s1 hx => (ge_tup (ga_cons (P := fun d => d = .str n) (ge_pure (pd_var (i := 9) rfl hx) rfl) (ga_cons (ge_opI (f := fun i j => i + j) (A := fun r => r = 1) (B := fun r => 0 ≤ r ∧ r < top) (ge_pure pd_int ⟨1, rfl, rfl⟩) (ge_draw (i := 0) (m := top) rfl (fun H2 y => ed_var (i := 4) rfl dd_int) t1 (by omega))) (ga_nil (P := fun ds => ds = []) rfl)))
      (fun ds h => ?_)).imp fun d h => ?_) fun e ⟨r, e1, e2⟩ => ⟨n, r, rfl, by rw [e1], e2⟩
    · obtain ⟨d1, es, e1, _, d2, es2, e2, _, e3⟩ := h
      rw [e1, e2, e3]
      show 2 ≤ 1000
      omega
    · obtain ⟨ds, e0, d1, es, e1, h1, d2, es2, e2, ⟨r, s, h2, hr1, hs1⟩, e3⟩ := h
      refine ⟨s, ?_, hs1⟩
      rw [e0, e1, h1, e2, h2, e3, hr1]
      rfl
  · obtain ⟨es, e1, hpk⟩ := h
    refine ⟨es, e1, ?_⟩
    have key : ∀ {ds es : List PyData}, Pk (fun d o => ∃ n r, d = .str n ∧ o = some (encP (n, 1 + r)) ∧ 0 ≤ r ∧ r < top) ds es → (∀ d ∈ ds, ∀ n, d = .str n → n ∈ some_) → ∃ sh : AL, es = sh.map encP ∧ (∀ z ∈ sh, z.1 ∈ some_ ∧ 1 ≤ z.2 ∧ z.2 ≤ top) := by
      intro ds es h
      induction h with
      | nil => intro _; exact ⟨[], rfl, fun z hz => by cases hz⟩
      | skip _ r ih => obtain ⟨_, _, _, e, _⟩ := r; cases e
      | take _ r ih =>
        intro hall
        obtain ⟨n, r, ed, e, r0, r1⟩ := r
        obtain ⟨sh, es', hsh⟩ := ih fun d hd => hall d (List.mem_append_left _ hd)
        refine ⟨sh ++ [(n, 1 + r)], by rw [es', List.map_append, Option.some.inj e]; rfl, fun z hz => ?_⟩
        rcases List.mem_append.mp hz with hz | hz
        · exact hsh z hz
        · rw [List.mem_singleton.mp hz]
          exact ⟨hall _ (List.mem_append_right _ List.mem_cons_self) n ed, by show 1 ≤ 1 + r; omega, by show 1 + r ≤ top; omega⟩
    obtain ⟨sh, e2, hsh⟩ := key hpk fun d hd n e => by
      obtain ⟨m, hm, e3⟩ := List.mem_map.mp hd
      rw [e] at e3
      rw [← PyData.str.inj e3]
      exact hz2 _ (srtS_mem.mp hm)
    have ll := hpk.len
    rw [e2, List.length_map, List.length_map, srtS_len] at ll
    exact ⟨sh, e2, hsh, by omega⟩
  · obtain ⟨ds, e1, sh, e2, h⟩ := h
    exact ⟨sh, by rw [e1, e2], h⟩
  subst e9
  dsimp only
  have L25 := L24.trans L5
  have L05 : LF p H H5 := L1.trans ((LF.of_same L1.b s2).trans ((L3.trans L4).trans L5))
  have h5' := ((LF.of_same L1.b s2).trans ((L3.trans L4).trans L5)).dd h5
  refine s_retG (P := fun d => ∃ m : Int, 0 ≤ m ∧ m ≤ 2 ∧ d = encK ⟨name, m, b, sh⟩) L25.b ((ge_tup (ga_cons (P := fun d => d = .str name) (ge_pure (pd_var (i := 1) rfl dd_str) rfl) (ga_cons (ge_any (i := 0) (ds := [.int 0, .int 0, .int 1, .int 2]) rfl (fun H1 x => ed_lst (ea_cons ed_int (ea_cons ed_int (ea_cons ed_int (ea_cons ed_int ea_nil)))) (by show 4 ≤ 1000; omega)) (fun z => by cases z) (by show 4 ≤ 1000; omega)) (ga_cons (P := fun d => d = .bool b) (ge_pure (pd_var (i := 5) rfl h5') rfl) (ga_cons (P := fun d => d = .tuple (sh.map encP)) (ge_pure (pd_var (i := 8) rfl h9) rfl) (ga_nil (P := fun ds => ds = []) rfl)))))
    (fun ds h => ?_)).imp fun d h => ?_) fun d v10 H6 ⟨m, m1, m2, e⟩ L6 h10 => q _ v10 H6 rfl m1 m2 shl (fun z hz => ⟨hsub _ (hsh z hz).1, (hsh z hz).2⟩) (L05.trans L6) (by rw [← e]; exact h10)
  · obtain ⟨d1, es, e1, _, d2, es2, e2, _, d3, es3, e3, _, d4, es4, e4, _, e5⟩ := h
    rw [e1, e2, e3, e4, e5]
    show 4 ≤ 1000
    omega
  · obtain ⟨ds, e0, d1, es, e1, h1, d2, es2, e2, h2, d3, es3, e3, h3, d4, es4, e4, h4, e5⟩ := h
    have hm : ∃ m : Int, 0 ≤ m ∧ m ≤ 2 ∧ d2 = .int m := by
      rcases List.mem_cons.mp h2 with h | h2
      · exact ⟨0, by omega, by omega, h⟩
      · rcases List.mem_cons.mp h2 with h | h2
        · exact ⟨0, by omega, by omega, h⟩
        · rcases List.mem_cons.mp h2 with h | h2
          · exact ⟨1, by omega, by omega, h⟩
          · rcases List.mem_cons.mp h2 with h | h2
            · exact ⟨2, by omega, by omega, h⟩
            · cases h2
    obtain ⟨m, m1, m2, e6⟩ := hm
    refine ⟨m, m1, m2, ?_⟩
    rw [e0, e1, e2, e3, e4, e5, h1, e6, h3, h4]
    rfl
end
end KL

/-! ## rows, shops -/
namespace KL
open PySem PySem.Spec PyProof.Rows L2
/-- packs as they are made: a sheet names what is there already -/
def Cre (base : List Str) (ks : List Pack) : Prop := ∀ i k, ks[i]? = some k → ∀ q ∈ k.sheet, q.1 ∈ base ++ (ks.take i).map fun k : Pack => k.nm
theorem Cre.snoc {base : List Str} {ks : List Pack} {k : Pack} (h : Cre base ks) (hk : ∀ q ∈ k.sheet, q.1 ∈ base ++ ks.map fun k : Pack => k.nm) : Cre base (ks ++ [k]) := by
  intro i j e q hq
  by_cases c : i < ks.length
  · rw [List.getElem?_append_left c] at e
    rw [List.take_append_of_le_length (by omega)]
    exact h i j e q hq
  · by_cases c2 : i = ks.length
    · subst c2
      rw [List.getElem?_append_right (Nat.le_refl _), Nat.sub_self] at e
      obtain rfl : k = j := Option.some.inj e
      rw [List.take_left]
      exact hk q hq
    · rw [List.getElem?_eq_none (by rw [List.length_append]; simp; omega)] at e
      cases e
theorem cre_wf {base : List Str} {ks : List Pack} (h : Cre base ks) (nd : (base ++ ks.map fun k : Pack => k.nm).Nodup) : ∀ (n : Nat) (R : List Pack), R ≠ [] → (∀ k ∈ R, ∃ i, i < n ∧ ks[i]? = some k) → ∃ k ∈ R, k.nm ∉ innerN R
  | 0, R, ne, hR => by
    cases R with
    | nil => exact absurd rfl ne
    | cons k R =>
      obtain ⟨i, hi, _⟩ := hR k List.mem_cons_self
      omega
  | n + 1, R, ne, hR => by
    by_cases c : ∃ k ∈ R, ks[n]? = some k
    · obtain ⟨k, hk, ek⟩ := c
      refine ⟨k, hk, fun hin => ?_⟩
      obtain ⟨j, hj, hx⟩ := List.mem_flatMap.mp hin
      obtain ⟨q, hq, eq⟩ := List.mem_map.mp hx
      obtain ⟨i, hi, ei⟩ := hR j hj
      have hb := h i j ei q hq
      rw [eq] at hb
      have nd' := List.nodup_append.mp nd
      have mk : k.nm ∈ ks.map fun k : Pack => k.nm := List.mem_map_of_mem (List.mem_of_getElem? ek)
      rcases List.mem_append.mp hb with hb | hb
      · exact nd'.2.2 _ hb _ mk rfl
      · obtain ⟨j2, hj2, e2⟩ := List.mem_map.mp hb
        obtain ⟨i2, hi2, e3⟩ := List.mem_iff_getElem.mp hj2
        rw [List.length_take] at hi2
        rw [List.getElem_take] at e3
        have h1 : (ks.map fun k : Pack => k.nm)[i2]? = some k.nm := by
          rw [List.getElem?_map, List.getElem?_eq_getElem (by omega), e3]
          show some j2.nm = _
          rw [e2]
        have h2 : (ks.map fun k : Pack => k.nm)[n]? = some k.nm := by
          rw [List.getElem?_map, ek]
          rfl
        have := nd_ix nd'.2.1 h1 h2
        omega
    · refine cre_wf h nd n R ne fun k hk => ?_
      obtain ⟨i, hi, ei⟩ := hR k hk
      refine ⟨i, ?_, ei⟩
      rcases Nat.lt_or_ge i n with z | z
      · exact z
      · have : i = n := by omega
        subst this
        exact absurd ⟨k, hk, ei⟩ c
structure ShopGood (S : Shop) : Prop where
  ok : ShopOk S
  ne : S.parts ≠ []
  nm : ∀ n ∈ bNames S ++ kNames S, isNameS n = true ∧ n ≠ "nobody"
  np : S.parts.length ≤ 4
  nc : S.choices.length ≤ 3
  nk : S.packs.length ≤ 4
  no : ∀ c ∈ S.choices, c.2.length ≤ 10 ∧ ∀ o ∈ c.2, o ∈ pNames S
  st : ∀ q ∈ S.parts, 0 ≤ q.2 ∧ q.2 ≤ 20
  md : ∀ k ∈ S.packs, 0 ≤ k.made ∧ k.made ≤ 2 ∧ k.sheet.length ≤ 4
theorem good_of {ns : List Str} {m l s : Nat} {parts : AL} {choices : List (Str × List Str)} {ks : List Pack} (hn : LabOk ns) (m1 : 1 ≤ m) (m2 : m ≤ 4) (l2 : l ≤ 3) (s2 : s ≤ 4)
    (hp : keysA parts = srtS (ns.take m)) (hst : ∀ q ∈ parts, 0 ≤ q.2 ∧ q.2 ≤ 20) (hc : choices.map (fun c => c.1) = srtS ((ns.drop m).take l)) (hco : ∀ c ∈ choices, c.2.length ≤ 10 ∧ ∀ o ∈ c.2, o ∈ srtS (ns.take m))
    (hk : ks.map (fun k : Pack => k.nm) = (ns.drop (m + l)).take s) (hcr : Cre (srtS (ns.take m) ++ srtS ((ns.drop m).take l)) ks) (hks : ∀ k ∈ ks, 0 ≤ k.made ∧ k.made ≤ 2 ∧ k.sheet.length ≤ 4 ∧ ∀ q ∈ k.sheet, 1 ≤ q.2 ∧ q.2 ≤ 10) :
    ShopGood ⟨parts, choices, srtBy Pack.nm ks⟩ := by
  have pk : (srtBy Pack.nm ks).Perm ks := srtBy_perm _ _
  have e0 : ns.take m ++ ((ns.drop m).take l ++ (ns.drop (m + l)).take s) = ns.take (m + l + s) := by
    rw [Nat.add_assoc, List.take_add, List.take_add, ← List.drop_drop]
  have nd0 : (ns.take m ++ ((ns.drop m).take l ++ (ns.drop (m + l)).take s)).Nodup := by
    rw [e0]
    exact (List.take_sublist _ _).nodup hn.nd
  have pm : ((srtS (ns.take m) ++ srtS ((ns.drop m).take l)) ++ (srtBy Pack.nm ks).map fun k : Pack => k.nm).Perm (ns.take m ++ ((ns.drop m).take l ++ (ns.drop (m + l)).take s)) := by
    rw [← hk, ← List.append_assoc]
    exact ((srtS_perm _).append (srtS_perm _)).append (pk.map _)
  have pm2 : ((srtS (ns.take m) ++ srtS ((ns.drop m).take l)) ++ ks.map fun k : Pack => k.nm).Perm (ns.take m ++ ((ns.drop m).take l ++ (ns.drop (m + l)).take s)) := by
    rw [← hk, ← List.append_assoc]
    exact ((srtS_perm _).append (srtS_perm _)).append (List.Perm.refl _)
  have eb : bNames ⟨parts, choices, srtBy Pack.nm ks⟩ = srtS (ns.take m) ++ srtS ((ns.drop m).take l) := by
    unfold bNames pNames cNames
    rw [← hp, ← hc]
    rfl
  have lp : parts.length = m := by
    have := congrArg List.length hp
    unfold keysA at this
    rw [List.length_map, srtS_len, List.length_take, hn.len] at this
    omega
  have lc : choices.length ≤ 3 := by
    have := congrArg List.length hc
    rw [List.length_map, srtS_len, List.length_take] at this
    omega
  have lk : (srtBy Pack.nm ks).length ≤ 4 := by
    have := congrArg List.length hk
    rw [List.length_map, List.length_take] at this
    rw [pk.length_eq]
    omega
  have nd2 := pm2.nodup_iff.mpr nd0
  refine ⟨⟨⟨by rw [show (Shop.parts ⟨parts, choices, srtBy Pack.nm ks⟩) = parts from rfl, lp]; omega, by show choices.length ≤ 10; omega, by show (srtBy Pack.nm ks).length ≤ 10; omega, fun k hk' => ?_⟩, ?_, ?_, ?_, ?_⟩, ?_, ?_, by show parts.length ≤ 4; omega, lc, lk, ?_, hst, fun k hk' => ?_⟩
  · have := (hks k (pk.mem_iff.mp hk')).2.2.1
    omega
  · intro R ne hR
    exact cre_wf hcr nd2 ks.length R ne fun k hk' => by
      obtain ⟨i, hi, e⟩ := List.mem_iff_getElem.mp (pk.mem_iff.mp (hR k hk'))
      exact ⟨i, hi, by rw [List.getElem?_eq_getElem hi, e]⟩
  · rw [eb]
    exact pm.nodup_iff.mpr nd0
  · intro k hk' q hq
    rw [eb]
    obtain ⟨i, hi, e⟩ := List.mem_iff_getElem.mp (pk.mem_iff.mp hk')
    have h := hcr i k (by rw [List.getElem?_eq_getElem hi, e]) q hq
    rcases List.mem_append.mp h with h | h
    · exact List.mem_append_left _ h
    · refine List.mem_append_right _ ?_
      obtain ⟨j, hj, ej⟩ := List.mem_map.mp h
      exact List.mem_map.mpr ⟨j, pk.mem_iff.mpr (List.mem_of_mem_take hj), ej⟩
  · intro k hk' q hq
    exact (hks k (pk.mem_iff.mp hk')).2.2.2 q hq
  · intro z
    have z' : parts = [] := z
    rw [z'] at lp
    simp at lp
    omega
  · intro n hn'
    rw [eb] at hn'
    have h := pm.mem_iff.mp hn'
    rw [e0] at h
    exact hn.nm n (List.mem_of_mem_take h)
  · intro c hc'
    refine ⟨(hco c hc').1, fun o ho => ?_⟩
    have := (hco c hc').2 o ho
    rw [← hp] at this
    exact this
  · have h := hks k (pk.mem_iff.mp hk')
    exact ⟨h.1, h.2.1, h.2.2.1⟩
def spShop : Sp := fun vs H Q _ => ∃ p, vs = [V.ref (FP.f p), .int 4] ∧ Feed p H ∧ ∀ S v H', ShopGood S → LF p H H' → DD H' (encS S) v → Q v H'
theorem sc_law_shop : FnScope ["_law_feed_here", "_law_most", "_law_names", "_law_many", "_law_size", "_law_lots", "_law_low", "_law_top", "_law_one", "_law_parts", "_law_choices", "_law_pool", "_law_packs", "_law_pair"] ["_law_feed_here", "_law_most"] (defScope s__law_shop) := ⟨rfl, rfl, rfl, by decide +kernel, rfl, by decide +kernel, by decide +kernel⟩
section
variable {P : Program} {w : World} {K : PySem.W.Frag} {mg : Str → Option Value} {base : Heap}
theorem d__law_row (T : Txt K mg) : Def P w K mg base CX0 2 "_law_row" spRow := by
  refine mk_def T.a__law_row sc_law_row (fun _ _ _ _ _ _ us hl => match us, hl with | [_, _, _], _ => rfl) (fun vs H Q E ⟨_, _, _, _, e, _⟩ => by rw [e]; rfl) fun f cdv A outer s H vs Q E hr h => ?_
  obtain ⟨p, S, high, vS, rfl, F, sz, hS, h1, h2, q⟩ := h
  refine ⟨_, (pss_cons (ps_set (i := 3) sc_law_row.nd rfl (Or.inl rfl) (pe_lst pa_nil))
      (pss_cons (ps_for PassesOwn.never rfl (pi_list (pe_d (d__law_articles T) hr (by decide) (by rfl) pass0 (pa_cons (pv 1) pa_nil))) (pg_name (i := 4) sc_law_row.nd rfl (Or.inl rfl)) (pss_cons (ps_set (i := 5) sc_law_row.nd rfl (Or.inl rfl) (pe_ifExp (pt_cmpR op_eq (pe_d (d__law_draw T) hr (by decide) (by rfl) pass0 (pa_cons (pv 0) (pa_cons pe_int pa_nil))) pe_int (nomark _)) (pe_d (d__law_draw T) hr (by decide) (by rfl) pass0 (pa_cons (pv 0) (pa_cons (pv 2) pa_nil))) pe_int))
      (pss_one (ps_if (pt_cmpR op_gt (pv 5) pe_int (nomark _)) (pss_one (ps_expr (pe_bm PySem.F.plainAttrs_list PySem.F.slot_list_append PySem.F.type_list_append mt_append (pv 3) (pa_cons (pe_tup (pa_cons (pv 4) (pa_cons (pv 5) pa_nil))) pa_nil)))) pss_nil))))
      (pss_one (ps_ret (pe_callTy call_tuple_of (by rfl) T.n_tuple (by decide +kernel) (pa_cons (pv 3) pa_nil)))))), ?_⟩
  refine sq ?_
  refine s_lst0 fun a ha => ?_
  dsimp only
  refine sq ?_
  have L1 : LF p H (upd H a (.lst [])) := (LF.refl F).mut ha
  have hN : (srtS (pNames S ++ kNames S)).length ≤ 20 := by
    rw [srtS_len]
    unfold pNames kNames
    rw [List.length_append, List.length_map, List.length_map]
    have := sz.parts
    have := sz.packs
    omega
  refine ed_call (d := .list ((srtS (pNames S ++ kNames S)).map PyData.str)) (σ := [some (.ref p.f), some vS, some (.int high), some (.ref a), none, none]) (ea_cons (ed_var (i := 1) rfl (L1.dd hS)) ea_nil) ⟨S, rfl, sz, rfl⟩ _ (L2.Same.refl _) _ fun v H2 s2 h2' => ?_
  obtain ⟨l, xs, rfl, hl, hr'⟩ := h2'.lst
  obtain rfl := hr'.strs_eq
  generalize srtS (pNames S ++ kNames S) = N at hl hN q hr'
  refine ⟨l, rfl, ⟨_, .inl (.inl hl)⟩, ?_⟩
  have L2' := L1.same s2
  have ha2 := s2 _ _ (upd_same (H := H) (a := a) (o := .lst []))
  have nf : ∀ {G : Hp} {b : Addr} {ys : List V}, Feed p G → G b = some (.lst ys) → b ≠ p.f := fun {G b ys} hf hb z => by
    obtain ⟨_, _, _, h1, _⟩ := hf
    rw [z, h1] at hb
    cases hb
  by_cases nla : l = a
  · -- the articles' list is the empty list: no turn
    subst nla
    rw [ha2] at hl
    have e0 : N.map V.str = [] := (HO.lst.inj (Option.some.inj hl)).symm
    have e1 : N = [] := List.map_eq_nil_iff.mp e0
    subst e1
    refine for_it (walk_list (K := K) (a := l) (xs := [])) (fun i s h => s = [some (.ref p.f), some vS, some (.int high), some (.ref l), none, none] ∧ h = H2) ⟨rfl, rfl⟩ (fun i s h _ z => by rw [z.2]; exact .inl (.inl ha2)) (fun i x s h h' hi => by cases hi) fun s h z => ?_
    obtain ⟨rfl, rfl⟩ := z
    refine s_retD (d := .tuple []) (ed_tupleL (ed_var (i := 3) rfl (dd_lst ha2 dds_nil))) fun v5 H5 s5 h5 => q [] v5 H5 (List.Sublist.refl _) (fun _ z => by cases z) (L2'.same s5) h5
  refine for_it (walk_list (xs := N.map V.str)) (fun i s h => LF p H h ∧ h l = some (.lst (N.map V.str)) ∧ ∃ (r : AL) (acc : List V) (o4 o5 : Option V), s = [some (.ref p.f), some vS, some (.int high), some (.ref a), o4, o5] ∧ h a = some (.lst acc) ∧ DDs h (r.map encP) acc ∧ (keysA r).Sublist (N.take i) ∧ (∀ z ∈ r, 1 ≤ z.2 ∧ z.2 < high))
    ⟨L2', hl, [], [], none, none, rfl, ha2, dds_nil, List.nil_sublist _, fun _ z => by cases z⟩ (fun i s h _ z => .inl (.inl z.2.1)) (fun i x s h h' hi z y => ?_) fun s h z => ?_
  · obtain ⟨rfl, hx⟩ := y
    obtain ⟨L3, hl3, r, acc, o4, o5, rfl, ha3, hdd, hsub, hval⟩ := z
    rw [List.getElem?_map] at hx
    obtain ⟨n, hn, rfl⟩ : ∃ n, N[i]? = some n ∧ V.str n = x := by
      cases e : N[i]? with
      | none => rw [e] at hx; cases hx
      | some n => rw [e] at hx; exact ⟨n, rfl, Option.some.inj hx⟩
    refine sq ?_
    refine s_setG (P := fun d => ∃ z : Int, d = .int z ∧ z < high) L3.b (ge_ifG (gt_eq (m := 2) (ge_draw (i := 0) rfl pd_int (by omega) (by omega))) ((ge_draw (i := 0) (m := high) rfl (fun H1 x => ed_var (i := 2) rfl dd_int) h1 h2).imp fun d ⟨z, e, _, z2⟩ => ⟨z, e, z2⟩) (ge_pure pd_int ⟨0, rfl, by omega⟩)) fun d v5 H4 ⟨z, ez, zh⟩ L4 h5 => ?_
    subst ez
    obtain rfl := h5.int_eq
    have hl4 := L4.k _ _ (nf L3.b hl3) hl3
    have ha4 := L4.k _ _ (nf L3.b ha3) ha3
    have hdd4 := L4.dds hdd
    have etake : N.take (i + 1) = N.take i ++ [n] := by rw [List.take_succ, hn]; rfl
    dsimp only
    refine s_ifD (b := decide (0 < z)) (et_test (ed_opB (g := fun i j => decide (j < i)) (ed_var (i := 5) rfl h5) ed_int)) (fun hb H5 s5 => ?_) fun hb H5 s5 => ?_
    · have z1 := of_decide_eq_true hb
      have lacc : acc.length ≤ 10000 := by
        have l1 := hdd.length
        have l2 := hsub.length_le
        unfold keysA at l2
        rw [List.length_map] at l1 l2
        rw [List.length_take] at l2
        omega
      refine s_app (i := 3) (d := encP (n, z)) rfl (s5 _ _ ha4) lacc (ed_tup (ea_cons (ed_var (i := 4) rfl dd_str) (ea_cons (ed_var (i := 5) rfl dd_int) ea_nil)) (by show 2 ≤ 1000; omega)) fun x H6 s6 hx6 => ?_
      have kt : KT H6 (upd H6 a (.lst (acc ++ [x]))) := KT.updL (s6 _ _ (s5 _ _ ha4))
      refine ⟨((L3.trans L4).same (s5.trans s6)).mut ha, by rw [upd_ne nla]; exact s6 _ _ (s5 _ _ hl4), r ++ [(n, z)], acc ++ [x], _, _, rfl, upd_same, ?_, ?_, ?_⟩
      · rw [List.map_append]
        exact DDs.snoc (DDs.kt kt _ _ (lfs_map fun _ _ => rfl) (DDs.same (s5.trans s6) _ _ hdd4)) (DD.kt kt _ _ rfl hx6)
      · unfold keysA at hsub ⊢
        rw [List.map_append, etake]
        exact hsub.append (List.Sublist.refl _)
      · intro y hy
        rcases List.mem_append.mp hy with hy | hy
        · exact hval y hy
        · rw [List.mem_singleton.mp hy]
          exact ⟨by show 1 ≤ z; omega, zh⟩
    · refine ⟨(L3.trans L4).same s5, s5 _ _ hl4, r, acc, _, _, rfl, s5 _ _ ha4, DDs.same s5 _ _ hdd4, ?_, hval⟩
      rw [etake]
      exact hsub.trans (List.sublist_append_left _ _)
  · obtain ⟨L3, hl3, r, acc, o4, o5, rfl, ha3, hdd, hsub, hval⟩ := z
    rw [List.length_map, List.take_length] at hsub
    dsimp only
    exact s_retD (d := .tuple (r.map encP)) (ed_tupleL (ed_var (i := 3) rfl (dd_lst ha3 hdd))) fun v5 H5 s5 h5 => q r v5 H5 hsub hval (L3.same s5) h5
end
end KL

/-! ## the drawn shop -/
namespace KL
open PySem PySem.Spec PyProof.Rows L2
section
variable {P : Program} {w : World} {K : PySem.W.Frag} {mg : Str → Option Value} {base : Heap}
theorem strOk_name {n : Str} (h : isNameS n = true) : PyData.strOk n = true := by
  unfold isNameS at h
  rw [Bool.and_eq_true] at h
  have h2 := List.all_eq_true.mp h.2
  unfold PyData.strOk
  rw [← Array.all_toList, List.all_eq_true]
  intro c hc
  have h3 := of_decide_eq_true (h2 c hc)
  have all : ∀ c ∈ ("abcdefghijklmnopqrstuvwxyz" : Str).cps.toList, c < 0x110000 := by decide +kernel
  exact decide_eq_true (all c h3)
theorem par2_is {ta tb : TE} {σ : L2.St} {H : Hp} {D : Ends} {i j : Nat} (h : ta σ H fun x H1 => tb σ H1 fun y H2 => ∃ u v, [x, y] = [u, v] ∧ D.nx ((σ.set i (some u)).set j (some v)) H2) : tPar i j (tCons ta (tCons tb tNil)) D σ H := h
theorem map_strInj : ∀ {xs ys : List Str}, xs.map PyData.str = ys.map PyData.str → xs = ys
  | [], [], _ => rfl
  | [], _ :: _, h => by cases h
  | _ :: _, [], h => by cases h
  | x :: xs, y :: ys, h => by
    have h1 : PyData.str x = PyData.str y := (List.cons.inj h).1
    have h2 : xs.map PyData.str = ys.map PyData.str := (List.cons.inj h).2
    rw [PyData.str.inj h1, map_strInj h2]
theorem d__law_shop (T : Txt K mg) : Def P w K mg base CX0 4 "_law_shop" spShop := by
  refine mk_def T.a__law_shop sc_law_shop (fun _ _ _ _ _ _ us hl => match us, hl with | [_, _], _ => rfl) (fun vs H Q E ⟨_, e, _⟩ => by rw [e]; rfl) fun f cdv A outer s H vs Q E hr h => ?_
  obtain ⟨p, rfl, F, q⟩ := h
  refine ⟨_, (pss_cons (ps_par3 (i := 2) (j := 3) (l := 4) rfl sc_law_shop.nd rfl rfl rfl (by decide) (by decide) (by decide) rfl rfl rfl (pa_cons (pe_d (d__law_labels T) hr (by decide) (by rfl) pass0 (pa_cons (pv 0) pa_nil)) (pa_cons (pe_op op_add pe_int (pe_d (d__law_draw T) hr (by decide) (by rfl) pass0 (pa_cons (pv 0) (pa_cons pe_int pa_nil)))) (pa_cons (pe_d (d__law_draw T) hr (by decide) (by rfl) pass0 (pa_cons (pv 0) (pa_cons (pe_op op_add (pv 1) pe_int) pa_nil))) pa_nil))) (by rfl))
      (pss_cons (ps_set (i := 5) sc_law_shop.nd rfl (Or.inl rfl) (pe_ifExp (pt_cmpR op_gt (pv 3) pe_int (nomark _)) (pe_d (d__law_draw T) hr (by decide) (by rfl) pass0 (pa_cons (pv 0) (pa_cons pe_int pa_nil))) pe_int))
      (pss_cons (ps_asg (pe_tup (pa_cons (pe_callB cr_sortedS (by rfl) T.n_sorted (by decide +kernel) (pa_cons (pe_slice sl_list (pv 2) po_none (po_some (pv 3))) pa_nil)) (pa_cons (pe_ifExp (pt_cmpR op_lt (pv 4) pe_int (nomark _)) pe_int (pe_op op_sub pe_int (pv 4))) pa_nil))) (pg_tup (n := 2) rfl (pgs_cons (pg_name (i := 6) sc_law_shop.nd rfl (Or.inr rfl)) (pgs_cons (pg_name (i := 7) sc_law_shop.nd rfl (Or.inl rfl)) pgs_nil))))
      (pss_cons (ps_set (i := 9) sc_law_shop.nd rfl (Or.inl rfl) (pe_callTy call_tuple_of (by rfl) T.n_tuple (by decide +kernel) (pa_cons (pe_lc rfl sc_law_shop.nd (pi_list (pv 6)) (blkOk_by (own := [("_law_one", 8)]) (N := ["_law_feed_here", "_law_most", "_law_names", "_law_many", "_law_size", "_law_lots", "_law_low", "_law_top", "_law_one", "_law_parts", "_law_choices", "_law_pool", "_law_packs", "_law_pair"]) (sc := defScope s__law_shop) (by decide +kernel)) (fun _ _ _ _ _ => (pg_name (i := 8) sc_law_shop.nd rfl (Or.inl rfl) (hf := Or.inr rfl))) (fun _ _ _ _ _ => pts_nil) (fun _ _ _ _ _ => (pe_tup (pa_cons (pv 8) (pa_cons (pe_d (d__law_any T) hr (by decide) (by rfl) pass0 (pa_cons (pv 0) (pa_cons (pe_lst (pa_cons pe_int (pa_cons pe_int (pa_cons pe_int (pa_cons pe_int (pa_cons pe_int (pa_cons pe_int (pa_cons pe_int (pa_cons pe_int pa_nil))))))))) pa_nil))) pa_nil))))) pa_nil)))
      (pss_cons (ps_set (i := 10) sc_law_shop.nd rfl (Or.inl rfl) (pe_callTy call_tuple_of (by rfl) T.n_tuple (by decide +kernel) (pa_cons (pe_lc rfl sc_law_shop.nd (pi_list (pe_callB cr_sortedS (by rfl) T.n_sorted (by decide +kernel) (pa_cons (pe_slice sl_list (pv 2) (po_some (pv 3)) (po_some (pe_op op_add (pv 3) (pv 5)))) pa_nil))) (blkOk_by (own := [("_law_one", 8)]) (N := ["_law_feed_here", "_law_most", "_law_names", "_law_many", "_law_size", "_law_lots", "_law_low", "_law_top", "_law_one", "_law_parts", "_law_choices", "_law_pool", "_law_packs", "_law_pair"]) (sc := defScope s__law_shop) (by decide +kernel)) (fun _ _ _ _ _ => (pg_name (i := 8) sc_law_shop.nd rfl (Or.inl rfl) (hf := Or.inr rfl))) (fun _ _ _ _ _ => pts_nil) (fun _ _ _ _ _ => (pe_tup (pa_cons (pv 8) (pa_cons (pe_d (d__law_options T) hr (by decide) (by rfl) pass0 (pa_cons (pv 0) (pa_cons (pv 6) pa_nil))) pa_nil))))) pa_nil)))
      (pss_cons (ps_par (i := 11) (j := 12) rfl sc_law_shop.nd rfl rfl (by decide) rfl rfl (pa_cons (pe_callTy call_list_of (by rfl) T.n_list (by decide +kernel) (pa_cons (pv 6) pa_nil)) (pa_cons (pe_lst pa_nil) pa_nil)) (by rfl))
      (pss_cons (ps_for PassesOwn.never rfl (pi_list (pe_slice sl_list (pv 2) (po_some (pe_op op_add (pv 3) (pv 5))) (po_some (pe_op op_add (pe_op op_add (pv 3) (pv 5)) (pv 4))))) (pg_name (i := 8) sc_law_shop.nd rfl (Or.inl rfl)) (pss_cons (ps_expr (pe_bm PySem.F.plainAttrs_list PySem.F.slot_list_append PySem.F.type_list_append mt_append (pv 12) (pa_cons (pe_d (d__law_pack T) hr (by decide) (by rfl) pass0 (pa_cons (pv 0) (pa_cons (pv 8) (pa_cons (pv 11) (pa_cons (pe_lc rfl sc_law_shop.nd (pi_tup (pv 10)) (blkOk_by (own := [("_law_pair", 13)]) (N := ["_law_feed_here", "_law_most", "_law_names", "_law_many", "_law_size", "_law_lots", "_law_low", "_law_top", "_law_one", "_law_parts", "_law_choices", "_law_pool", "_law_packs", "_law_pair"]) (sc := defScope s__law_shop) (by decide +kernel)) (fun _ _ _ _ _ => (pg_name (i := 13) sc_law_shop.nd rfl (Or.inl rfl) (hf := Or.inr rfl))) (fun _ _ _ _ _ => pts_nil) (fun _ _ _ _ _ => (pe_ix (r := rIxT K) ix_tup (pv 13) pe_int (fun _ _ => rfl)))) (pa_cons (pv 7) pa_nil)))))) pa_nil)))
      (pss_one (ps_set (i := 11) sc_law_shop.nd rfl (Or.inl rfl) (pe_op op_cat (pv 11) (pe_lst (pa_cons (pv 8) pa_nil)))))))
      (pss_one (ps_ret (pe_tup (pa_cons (pv 9) (pa_cons (pv 10) (pa_cons (pe_callTy call_tuple_of (by rfl) T.n_tuple (by decide +kernel) (pa_cons (pe_srtK hr.units rfl (by rfl) T.n_sorted (by rfl) T.n_set (pv 12)) pa_nil)) pa_nil))))))))))))), ?_⟩
  refine sq (par3_is ?_)
  refine ⟨.ref p.f, rfl, p, rfl, F, fun ns v2 H1 hn L1 h2 => ?_⟩
  refine ge_opI (σ := start ["_law_feed_here", "_law_most", "_law_names", "_law_many", "_law_size", "_law_lots", "_law_low", "_law_top", "_law_one", "_law_parts", "_law_choices", "_law_pool", "_law_packs", "_law_pair"] [.ref p.f, .int 4]) (f := fun i j => i + j) (A := fun r => r = 1) (B := fun r => 0 ≤ r ∧ r < 4) (ge_pure pd_int ⟨1, rfl, rfl⟩) (ge_draw (i := 0) (m := 4) rfl pd_int (by omega) (by omega)) H1 (LF.refl L1.b) _ fun d v3 H2 ⟨r1, m0, ed, e1, m1, m2⟩ L2' h3 => ?_
  subst e1
  subst ed
  obtain rfl := h3.int_eq
  refine ge_draw (σ := start ["_law_feed_here", "_law_most", "_law_names", "_law_many", "_law_size", "_law_lots", "_law_low", "_law_top", "_law_one", "_law_parts", "_law_choices", "_law_pool", "_law_packs", "_law_pair"] [.ref p.f, .int 4]) (i := 0) (m := 4 + 1) rfl (fun H3 x => ed_opI (g := fun i j => i + j) (ed_var (i := 1) rfl dd_int) ed_int) (by omega) (by omega) H2 (LF.refl L2'.b) _ fun d v4 H3 ⟨s0, ed, s1, s2⟩ L3 h4 => ?_
  subst ed
  obtain rfl := h4.int_eq
  refine ⟨_, _, _, rfl, ?_⟩
  have L03 := (L1.trans L2').trans L3
  have h2' := (L2'.trans L3).dd h2
  clear h2 h3 h4 L1 L2' L3
  obtain ⟨m, em⟩ : ∃ m : Nat, 1 + m0 = (m : Int) := ⟨(1 + m0).toNat, by omega⟩
  obtain ⟨sz, es⟩ : ∃ sz : Nat, s0 = (sz : Int) := ⟨s0.toNat, by omega⟩
  rw [em, es]
  have m1' : 1 ≤ m := by omega
  have m2' : m ≤ 4 := by omega
  have s2' : sz ≤ 4 := by omega
  clear em es m1 m2 s1 s2
  dsimp only
  refine sq ?_
  refine s_setG (P := RndI 4) L03.b (ge_if (b := decide (1 < (m : Int))) (fun H1 x => et_test (ed_opB (g := fun i j => decide (j < i)) (ed_var (i := 3) rfl dd_int) ed_int)) (fun _ => ge_draw (i := 0) rfl pd_int (by omega) (by omega)) fun _ => ge_pure pd_int ⟨0, rfl, by omega, by omega⟩) fun d v5 H4 ⟨l0, el, l1, l2⟩ L4 h5 => ?_
  subst el
  obtain rfl := h5.int_eq
  obtain ⟨l, el⟩ : ∃ l : Nat, l0 = (l : Int) := ⟨l0.toNat, by omega⟩
  subst el
  have l2' : l ≤ 3 := by omega
  have L04 := L03.trans L4
  have h24 := L4.dd h2'
  clear h2' h5
  dsimp only
  refine sq ?_
  -- low, top
  obtain ⟨top, t1, t2, ht⟩ : ∃ top : Int, 1 ≤ top ∧ top ≤ 10 ∧ ED (tIf (tTest (tOp (rI0 fun i j => .bl (decide (i < j))) (tVar 4) (tC (.int 3)))) (tC (.int 4)) (tOp (rI0 fun i j => .int (i - j)) (tC (.int 6)) (tVar 4))) [some (.ref p.f), some (.int 4), some v2, some (.int (m : Int)), some (.int (sz : Int)), some (.int (l : Int)), none, none, none, none, none, none, none, none] H4 (.int top) := by
    by_cases c : (sz : Int) < 3
    · exact ⟨4, by omega, by omega, ed_if (b := true) (ET.is (et_test (ed_opB (ed_var (i := 4) rfl dd_int) ed_int)) (decide_eq_true c)) (fun _ => ed_int) fun z => by cases z⟩
    · exact ⟨6 - sz, by omega, by omega, ed_if (b := false) (ET.is (et_test (ed_opB (ed_var (i := 4) rfl dd_int) ed_int)) (decide_eq_false c)) (fun z => by cases z) fun _ => ed_opI ed_int (ed_var (i := 4) rfl dd_int)⟩
  refine s_asgD (d := .tuple [.list ((srtS (ns.take m)).map PyData.str), .int top]) (ed_tup (ea_cons (ed_srtS1 (ED.is (ed_to (k := m) (ed_var (i := 2) rfl h24) (ed_var (i := 3) rfl dd_int)) (by rw [← List.map_take])) (by rw [List.length_take]; omega)) (ea_cons ht ea_nil)) (by show 2 ≤ 1000; omega)) fun v H5 s5 hv => g_pair hv fun v6 v7 h6 h7 => ?_
  obtain rfl := h7.int_eq
  have L05 := L04.same s5
  have h25 := DD.same s5 _ _ h24
  have lowl : (srtS (ns.take m)).length = m := by rw [srtS_len, List.length_take, hn.len]; omega
  have lowne : srtS (ns.take m) ≠ [] := fun z => by rw [z] at lowl; simp at lowl; omega
  clear hv ht h24
  dsimp only
  refine sq ?_
  -- parts
  refine s_setG (P := fun d => ∃ parts : AL, d = .tuple (parts.map encP) ∧ keysA parts = srtS (ns.take m) ∧ ∀ z ∈ parts, 0 ≤ z.2 ∧ z.2 ≤ 20) L05.b ((ge_tupleL (P := fun ds => ∃ parts : AL, ds = parts.map encP ∧ keysA parts = srtS (ns.take m) ∧ ∀ z ∈ parts, 0 ≤ z.2 ∧ z.2 ≤ 20)
      ((ge_lcL (R := fun d o => ∃ n r, d = .str n ∧ o = some (encP (n, r)) ∧ 0 ≤ r ∧ r ≤ 20) (pd_var (i := 6) rfl h6) (by rw [List.length_map]; omega) (fun d hd e he => ?_) fun d hd => ?_).imp fun d h => ?_)).imp fun d h => ?_) fun d v9 H6 ⟨parts, e9, hpk, hpv⟩ L6 h9 => ?_
  · obtain ⟨n, r, _, e2, _⟩ := he
    cases e2
    rfl
  · obtain ⟨n, hn', rfl⟩ := List.mem_map.mp hd
    refine turnG_n (P := fun e => ∃ r, e = encP (n, r) ∧ 0 ≤ r ∧ r ≤ 20) (fun _ => rfl) (fun x H1 s1 hx => (ge_tup (ga_cons (P := fun d => d = .str n) (ge_pure (pd_var (i := 8) rfl hx) rfl) (ga_cons (ge_any (i := 0) (ds := [.int 0, .int 1, .int 2, .int 3, .int 4, .int 6, .int 9, .int 20]) rfl (fun H2 y => ed_lst (ea_cons ed_int (ea_cons ed_int (ea_cons ed_int (ea_cons ed_int (ea_cons ed_int (ea_cons ed_int (ea_cons ed_int (ea_cons ed_int ea_nil)))))))) (by show 8 ≤ 1000; omega)) (fun z => by cases z) (by show 8 ≤ 1000; omega)) (ga_nil (P := fun ds => ds = []) rfl)))
      (fun ds h => ?_)).imp fun d h => ?_) fun e ⟨r, e1, e2⟩ => ⟨n, r, rfl, by rw [e1], e2⟩
    · obtain ⟨d1, es, e1, _, d2, es2, e2, _, e3⟩ := h
      rw [e1, e2, e3]
      show 2 ≤ 1000
      omega
    · obtain ⟨ds, e0, d1, es, e1, h1, d2, es2, e2, h2, e3⟩ := h
      have hr : ∃ r : Int, 0 ≤ r ∧ r ≤ 20 ∧ d2 = .int r := by
        have key : ∀ l : List Int, (∀ z ∈ l, 0 ≤ z ∧ z ≤ 20) → d2 ∈ l.map PyData.int → ∃ r : Int, 0 ≤ r ∧ r ≤ 20 ∧ d2 = .int r := fun l hl hd => by
          obtain ⟨z, hz, e⟩ := List.mem_map.mp hd
          exact ⟨z, (hl z hz).1, (hl z hz).2, e.symm⟩
        exact key [0, 1, 2, 3, 4, 6, 9, 20] (by decide) h2
      obtain ⟨r, r1, r2, er⟩ := hr
      refine ⟨r, ?_, r1, r2⟩
      rw [e0, e1, h1, e2, e3, er]
      rfl
  · obtain ⟨es, e1, hp⟩ := h
    have key : ∀ {ds es : List PyData}, Pk (fun d o => ∃ n r, d = .str n ∧ o = some (encP (n, r)) ∧ 0 ≤ r ∧ r ≤ 20) ds es → ∃ parts : AL, es = parts.map encP ∧ ds = (keysA parts).map PyData.str ∧ ∀ z ∈ parts, 0 ≤ z.2 ∧ z.2 ≤ 20 := by
      intro ds es h
      induction h with
      | nil => exact ⟨[], rfl, rfl, fun z hz => by cases hz⟩
      | skip _ r ih => obtain ⟨_, _, _, e, _⟩ := r; cases e
      | take _ r ih =>
        obtain ⟨n, r, ed, e, r0⟩ := r
        obtain ⟨sh, e1, e2, hsh⟩ := ih
        refine ⟨sh ++ [(n, r)], by rw [e1, List.map_append, Option.some.inj e]; rfl, ?_, fun z hz => ?_⟩
        · unfold keysA at e2 ⊢
          rw [List.map_append, List.map_append, e2, ed]
          rfl
        · rcases List.mem_append.mp hz with hz | hz
          · exact hsh z hz
          · rw [List.mem_singleton.mp hz]
            exact r0
    obtain ⟨parts, h1, h2, h3⟩ := key hp
    refine ⟨es, e1, parts, h1, ?_, h3⟩
    exact (map_strInj h2).symm
  · obtain ⟨ds, e1, parts, e2, h⟩ := h
    exact ⟨parts, by rw [e1, e2], h⟩
  subst e9
  have L06 := L05.trans L6
  have h26 := L6.dd h25
  have h66 := L6.dd h6
  clear h25 h6
  dsimp only
  refine sq ?_
  -- choices
  have hcut : PD p (tSl (rSlL K) (tVar 2) (tPart (tVar 3)) (tPart (tOp (rI0 fun i j => .int (i + j)) (tVar 3) (tVar 5)))) [some (.ref p.f), some (.int 4), some v2, some (.int (m : Int)), some (.int (sz : Int)), some (.int (l : Int)), some v6, some (.int top), none, some v9, none, none, none, none] H6 (.list (((ns.drop m).take l).map PyData.str)) := fun H7 x => by
    refine ED.is (ed_cut (j := m) (k := m + l) (ed_var (i := 2) rfl (x.dd h26)) (ed_var (i := 3) rfl dd_int) (ED.is (ed_opI (ed_var (i := 3) rfl dd_int) (ed_var (i := 5) rfl dd_int)) (by congr 1)) (by rw [List.length_map, hn.len]; omega)) ?_
    rw [← List.map_drop, ← List.map_take, Nat.add_sub_cancel_left]
  refine s_setG (P := fun d => ∃ cs : List (Str × List Str), d = .tuple (cs.map encC) ∧ cs.map (fun c => c.1) = srtS ((ns.drop m).take l) ∧ ∀ c ∈ cs, c.2.length ≤ 10 ∧ ∀ o ∈ c.2, o ∈ srtS (ns.take m)) L06.b ((ge_tupleL (P := fun ds => ∃ cs : List (Str × List Str), ds = cs.map encC ∧ cs.map (fun c => c.1) = srtS ((ns.drop m).take l) ∧ ∀ c ∈ cs, c.2.length ≤ 10 ∧ ∀ o ∈ c.2, o ∈ srtS (ns.take m))
      ((ge_lcL (R := fun d o => ∃ n os, d = .str n ∧ o = some (encC (n, os)) ∧ os.length ≤ 10 ∧ ∀ o ∈ os, o ∈ srtS (ns.take m)) (fun H7 x => ed_srtS1 (hcut H7 x) (by rw [List.length_take]; omega)) (by rw [List.length_map, srtS_len, List.length_take]; omega) (fun d hd e he => ?_) fun d hd => ?_).imp fun d h => ?_)).imp fun d h => ?_) fun d v10 H7 ⟨cs, e10, hck, hcv⟩ L7 h10 => ?_
  · obtain ⟨n, os, _, e2, _⟩ := he
    cases e2
    exact lf_encC _
  · obtain ⟨n, hn', rfl⟩ := List.mem_map.mp hd
    refine turnG_n (P := fun e => ∃ os : List Str, e = encC (n, os) ∧ os.length ≤ 10 ∧ ∀ o ∈ os, o ∈ srtS (ns.take m)) (fun _ => rfl) (fun x H1 s1 hx => (ge_tup (ga_cons (P := fun d => d = .str n) (ge_pure (pd_var (i := 8) rfl hx) rfl) (ga_cons (P := fun d => ∃ os : List Str, d = .tuple (os.map PyData.str) ∧ os.length ≤ 10 ∧ ∀ o ∈ os, o ∈ srtS (ns.take m)) (fun H2 y Q2 q2 => ?_) (ga_nil (P := fun ds => ds = []) rfl)))
      (fun ds h => ?_)).imp fun d h => ?_) fun e ⟨os, e1, e2⟩ => ⟨n, os, rfl, by rw [e1], e2⟩
    · refine ⟨.ref p.f, rfl, v6, rfl, p, srtS (ns.take m), v6, rfl, y.b, (s1.trans y).dd h66, lowne, by omega, fun os v H3 h1 h2 z hv => q2 _ v H3 ⟨os, rfl, h2, h1⟩ z hv⟩
    · obtain ⟨d1, es, e1, _, d2, es2, e2, _, e3⟩ := h
      rw [e1, e2, e3]
      show 2 ≤ 1000
      omega
    · obtain ⟨ds, e0, d1, es, e1, h1, d2, es2, e2, ⟨os, h2, h3⟩, e3⟩ := h
      refine ⟨os, ?_, h3⟩
      rw [e0, e1, h1, e2, e3, h2]
      rfl
  · obtain ⟨es, e1, hp⟩ := h
    have key : ∀ {ds es : List PyData}, Pk (fun d o => ∃ n os, d = .str n ∧ o = some (encC (n, os)) ∧ os.length ≤ 10 ∧ ∀ o ∈ os, o ∈ srtS (ns.take m)) ds es → ∃ cs : List (Str × List Str), es = cs.map encC ∧ ds = (cs.map fun c => c.1).map PyData.str ∧ ∀ c ∈ cs, c.2.length ≤ 10 ∧ ∀ o ∈ c.2, o ∈ srtS (ns.take m) := by
      intro ds es h
      induction h with
      | nil => exact ⟨[], rfl, rfl, fun z hz => by cases hz⟩
      | skip _ r ih => obtain ⟨_, _, _, e, _⟩ := r; cases e
      | take _ r ih =>
        obtain ⟨n, r, ed, e, r0⟩ := r
        obtain ⟨sh, e1, e2, hsh⟩ := ih
        refine ⟨sh ++ [(n, r)], by rw [e1, List.map_append, Option.some.inj e]; rfl, ?_, fun z hz => ?_⟩
        · rw [List.map_append, List.map_append, e2, ed]
          rfl
        · rcases List.mem_append.mp hz with hz | hz
          · exact hsh z hz
          · rw [List.mem_singleton.mp hz]
            exact r0
    obtain ⟨cs, h1, h2, h3⟩ := key hp
    exact ⟨es, e1, cs, h1, (map_strInj h2).symm, h3⟩
  · obtain ⟨ds, e1, cs, e2, h⟩ := h
    exact ⟨cs, by rw [e1, e2], h⟩
  subst e10
  have L07 := L06.trans L7
  have h27 := L7.dd h26
  have h67 := L7.dd h66
  have h97 := L7.dd h9
  clear h26 h66 h9 hcut
  dsimp only
  refine sq ?_
  -- pool, packs
  refine par2_is ?_
  refine ed_listL (ed_var (i := 6) (σ := [some (.ref p.f), some (.int 4), some v2, some (.int (m : Int)), some (.int (sz : Int)), some (.int (l : Int)), some v6, some (.int top), none, some v9, some v10, none, none, none]) rfl h67) H7 (L2.Same.refl _) _ fun v11 H8 s8 h11 => ?_
  refine ⟨Nat.zero_le _, fun a ha8 => ⟨_, _, rfl, ?_⟩⟩
  have ha7 : H7 a = none := L2.Same.free s8 ha8
  have sA : Same H8 (upd H8 a (.lst [])) := Same.new ha8
  have L08 : LF p H7 (upd H8 a (.lst [])) := (LF.of_same L07.b s8).mut ha7
  have h118 := DD.same sA _ _ h11
  have ha9 : (upd H8 a (.lst [])) a = some (.lst []) := upd_same
  generalize upd H8 a (.lst []) = G at L08 h118 ha9
  clear h11 sA
  dsimp only
  refine sq ?_
  -- the packs
  have hcs : (ns.drop (m + l)).take sz = (ns.drop (m + l)).take (m + l + sz - (m + l)) := by congr 1; omega
  refine ED.is (e := .list (((ns.drop (m + l)).take sz).map PyData.str)) (ed_cut (σ := [some (.ref p.f), some (.int 4), some v2, some (.int (m : Int)), some (.int (sz : Int)), some (.int (l : Int)), some v6, some (.int top), none, some v9, some v10, some v11, some (.ref a), none]) (j := m + l) (k := m + l + sz) (ed_var (i := 2) rfl (L08.dd h27)) (ED.is (ed_opI (ed_var (i := 3) rfl dd_int) (ed_var (i := 5) rfl dd_int)) (by congr 1)) (ED.is (ed_opI (ed_opI (ed_var (i := 3) rfl dd_int) (ed_var (i := 5) rfl dd_int)) (ed_var (i := 4) rfl dd_int)) (by congr 1)) (by rw [List.length_map, hn.len]; omega))
    (by rw [hcs, ← List.map_drop, ← List.map_take]) G (L2.Same.refl _) _ fun vl H9 s9 hl9 => ?_
  obtain ⟨lp, xs, rfl, hlp, hrp⟩ := hl9.lst
  obtain rfl := hrp.strs_eq
  clear hrp hl9
  have hpl : ((ns.drop (m + l)).take sz).length ≤ 4 := by rw [List.length_take]; omega
  refine ⟨lp, rfl, ⟨_, .inl (.inl hlp)⟩, ?_⟩
  have L09 : LF p H7 H9 := L08.same s9
  have ha9' := s9 _ _ ha9
  have nf : ∀ {G : Hp} {b : Addr} {ys : List V}, Feed p G → G b = some (.lst ys) → b ≠ p.f := fun {G b ys} hf hb z => by
    obtain ⟨_, _, _, h1, _⟩ := hf
    rw [z, h1] at hb
    cases hb
  -- behind the loop
  have fin : ∀ (G : Hp) (ks : List Pack) (acc : List V) (o8 o11 : Option V), LF p H7 G → G a = some (.lst acc) → DDs G (ks.map encK) acc → ks.map (fun k : Pack => k.nm) = (ns.drop (m + l)).take sz → Cre (srtS (ns.take m) ++ srtS ((ns.drop m).take l)) ks → (∀ k ∈ ks, 0 ≤ k.made ∧ k.made ≤ 2 ∧ k.sheet.length ≤ 4 ∧ ∀ q ∈ k.sheet, 1 ≤ q.2 ∧ q.2 ≤ 10) →
      tRet (tTup (tCons (tVar 9) (tCons (tVar 10) (tCons (tCB (fun xs H Q => ∃ p ys, xs = [.ref p] ∧ ((SqL K H p ys ∧ ∀ l, H l = none → Q (.ref l) (upd H l (.tup ys))) ∨ (SqT K H p ys ∧ Q (.ref p) H))) (tCons (tSrtK K (tVar 12)) tNil)) tNil)))) { nx := fun _ H' => Q .non H', rt := Q }
        [some (.ref p.f), some (.int 4), some v2, some (.int (m : Int)), some (.int (sz : Int)), some (.int (l : Int)), some v6, some (.int top), o8, some v9, some v10, o11, some (.ref a), none] G := by
    intro G ks acc o8 o11 LG hG hacc hkn hcr hks
    have nd : (ks.map fun k : Pack => k.nm).Nodup := by
      rw [hkn]
      exact ((List.take_sublist _ _).trans (List.drop_sublist _ _)).nodup hn.nd
    have lk : ks.length ≤ 4 := by
      have := congrArg List.length hkn
      rw [List.length_map] at this
      omega
    have hsrt : ED (tSrtK K (tVar 12)) [some (.ref p.f), some (.int 4), some v2, some (.int (m : Int)), some (.int (sz : Int)), some (.int (l : Int)), some v6, some (.int top), o8, some v9, some v10, o11, some (.ref a), none] G (.list ((srtBy Pack.nm ks).map encK)) := fun H1 s1 Q1 q1 =>
      ⟨.ref a, rfl, ks, DD.same s1 _ _ (dd_lst hG hacc), nd, lk, fun k hk => by have := (hks k hk).2.2.1; omega, fun v H2 s2 hv => q1 v H2 s2 hv⟩
    refine s_retD (d := encS ⟨parts, cs, srtBy Pack.nm ks⟩) (ed_tup (ea_cons (ed_var (i := 9) rfl (LG.dd h97)) (ea_cons (ed_var (i := 10) rfl (LG.dd h10)) (ea_cons (ed_tupleL hsrt) ea_nil))) (by show 3 ≤ 1000; omega)) fun v H1 s1 hv => ?_
    exact q ⟨parts, cs, srtBy Pack.nm ks⟩ v H1 (good_of hn m1' m2' l2' s2' hpk hpv hck hcv hkn hcr hks) ((L07.trans LG).same s1) hv
  by_cases nla : lp = a
  · subst nla
    rw [ha9'] at hlp
    have e0 : ((ns.drop (m + l)).take sz).map V.str = [] := (HO.lst.inj (Option.some.inj hlp)).symm
    have e1 : (ns.drop (m + l)).take sz = [] := List.map_eq_nil_iff.mp e0
    refine for_it (walk_list (K := K) (a := lp) (xs := [])) (fun i s h => s = [some (.ref p.f), some (.int 4), some v2, some (.int (m : Int)), some (.int (sz : Int)), some (.int (l : Int)), some v6, some (.int top), none, some v9, some v10, some v11, some (.ref lp), none] ∧ h = H9) ⟨rfl, rfl⟩ (fun i s h _ z => by rw [z.2]; exact .inl (.inl ha9')) (fun i x s h h' hi => by cases hi) fun s h z => ?_
    obtain ⟨rfl, rfl⟩ := z
    exact fin _ [] [] _ _ L09 ha9' dds_nil (by rw [e1]; rfl) (fun i k e => by cases e) (fun k hk => by cases hk)
  have hbase : ∀ n ∈ srtS (ns.take m) ++ srtS ((ns.drop m).take l), isNameS n = true := fun n h => by
    rcases List.mem_append.mp h with h | h
    · exact (hn.nm n (List.mem_of_mem_take (srtS_mem.mp h))).1
    · exact (hn.nm n (List.mem_of_mem_drop (List.mem_of_mem_take (srtS_mem.mp h)))).1
  refine for_it (walk_list (xs := ((ns.drop (m + l)).take sz).map V.str)) (fun i s h => LF p H7 h ∧ h lp = some (.lst (((ns.drop (m + l)).take sz).map V.str)) ∧ ∃ (ks : List Pack) (acc : List V) (o8 : Option V) (vp : V), s = [some (.ref p.f), some (.int 4), some v2, some (.int (m : Int)), some (.int (sz : Int)), some (.int (l : Int)), some v6, some (.int top), o8, some v9, some v10, some vp, some (.ref a), none] ∧
      h a = some (.lst acc) ∧ DDs h (ks.map encK) acc ∧ DD h (.list ((srtS (ns.take m) ++ ((ns.drop (m + l)).take sz).take i).map PyData.str)) vp ∧ ks.map (fun k : Pack => k.nm) = ((ns.drop (m + l)).take sz).take i ∧ Cre (srtS (ns.take m) ++ srtS ((ns.drop m).take l)) ks ∧ ∀ k ∈ ks, 0 ≤ k.made ∧ k.made ≤ 2 ∧ k.sheet.length ≤ 4 ∧ ∀ q ∈ k.sheet, 1 ≤ q.2 ∧ q.2 ≤ 10)
    ⟨L09, hlp, [], [], none, v11, rfl, ha9', dds_nil, by rw [List.take_zero, List.append_nil]; exact DD.same s9 _ _ h118, rfl, (fun i k e => by cases e), fun k hk => by cases hk⟩ (fun i s h _ z => .inl (.inl z.2.1)) (fun i x s h h' hi z y => ?_) fun s h z => ?_
  · obtain ⟨rfl, hx⟩ := y
    obtain ⟨LG, hlG, ks, acc, o8, vp, rfl, haG, hacc, hvp, hkn, hcr, hks⟩ := z
    rw [List.getElem?_map] at hx
    obtain ⟨n, hn', rfl⟩ : ∃ n, ((ns.drop (m + l)).take sz)[i]? = some n ∧ V.str n = x := by
      cases e : ((ns.drop (m + l)).take sz)[i]? with
      | none => rw [e] at hx; cases hx
      | some n => rw [e] at hx; exact ⟨n, rfl, Option.some.inj hx⟩
    have etake : ((ns.drop (m + l)).take sz).take (i + 1) = ((ns.drop (m + l)).take sz).take i ++ [n] := by rw [List.take_succ, hn']; rfl
    have li : (((ns.drop (m + l)).take sz).take i).length ≤ 4 := by rw [List.length_take]; omega
    have lks : ks.length ≤ 4 := by
      have := congrArg List.length hkn
      rw [List.length_map] at this
      omega
    refine sq ?_
    refine s_appG (P := fun d => ∃ k : Pack, d = encK k ∧ k.nm = n ∧ 0 ≤ k.made ∧ k.made ≤ 2 ∧ k.sheet.length ≤ 4 ∧ ∀ q ∈ k.sheet, q.1 ∈ (srtS (ns.take m) ++ ((ns.drop (m + l)).take sz).take i) ++ srtS ((ns.drop m).take l) ∧ 1 ≤ q.2 ∧ q.2 ≤ top) LG.b (i := 12) rfl haG (by have := hacc.length; rw [List.length_map] at this; omega) (fun H10 x10 Q10 q10 => ?_) fun d x H10 ⟨k, ek, kn, k1, k2, k3, k4⟩ L10 hk10 ha10 => ?_
    · refine ⟨.ref p.f, rfl, .str n, rfl, vp, rfl, ?_⟩
      refine ED.is (e := .list ((srtS ((ns.drop m).take l)).map PyData.str)) (ed_lcT (f := fun d => some (fstD d)) (σ := [some (.ref p.f), some (.int 4), some v2, some (.int (m : Int)), some (.int (sz : Int)), some (.int (l : Int)), some v6, some (.int top), some (.str n), some v9, some v10, some vp, some (.ref a), none]) (ed_var (i := 10) rfl ((LG.trans x10).dd h10)) ?_ (fun d hd e he => ?_) fun d hd => ?_) ?_ H10 (L2.Same.refl _) _ fun v3 H11 s11 h3 => ⟨.int top, rfl, ?_⟩
      · have := congrArg List.length hck
        rw [List.length_map, srtS_len, List.length_take] at this
        rw [List.length_map]
        omega
      · obtain ⟨c, _, rfl⟩ := List.mem_map.mp hd
        cases he; rfl
      · obtain ⟨c, _, rfl⟩ := List.mem_map.mp hd
        exact turn_n (fun _ => rfl) fun x H1 s1 hx => ed_ixT (j := 0) (ed_var rfl hx) rfl
      · rw [map_some fun _ _ => rfl, fst_encC, hck]
      · refine ⟨p, n, srtS (ns.take m) ++ ((ns.drop (m + l)).take sz).take i, srtS ((ns.drop m).take l), top, vp, v3, rfl, x10.b.same s11, DD.same s11 _ _ (x10.dd hvp), h3, ?_, ?_, ?_, t1, t2, ?_, fun k v H12 e1 e2 e3 e4 e5 L12 hv => q10 _ v H12 ⟨k, rfl, e1, e2, e3, e4, e5⟩ ((LF.of_same x10.b s11).trans L12) hv⟩
        · intro z
          exact lowne (List.append_eq_nil_iff.mp z).1
        · rw [List.length_append]; omega
        · rw [srtS_len, List.length_take]; omega
        · intro z hz
          refine strOk_name ?_
          rcases List.mem_append.mp hz with hz | hz
          · rcases List.mem_append.mp hz with hz | hz
            · exact hbase z (List.mem_append_left _ hz)
            · exact (hn.nm z (List.mem_of_mem_drop (List.mem_of_mem_take (List.mem_of_mem_take hz)))).1
          · exact hbase z (List.mem_append_right _ hz)
    subst ek
    have hl10 := L10.k _ _ (nf LG.b hlG) hlG
    have hacc10 := L10.dds hacc
    have hvp10 := L10.dd hvp
    have LG10 := LG.trans L10
    have kt : KT H10 (upd H10 a (.lst (acc ++ [x]))) := KT.updL ha10
    have hacc11 : DDs (upd H10 a (.lst (acc ++ [x]))) ((ks ++ [k]).map encK) (acc ++ [x]) := by
      rw [List.map_append]
      exact DDs.snoc (DDs.kt kt _ _ (lfs_map fun _ _ => lf_encK _) hacc10) (DD.kt kt _ _ (lf_encK _) hk10)
    have LG11 : LF p H7 (upd H10 a (.lst (acc ++ [x]))) := LG10.mut ha7
    obtain ⟨bp, xsp, rfl, hbp, hrp⟩ := hvp10.lst
    obtain rfl := hrp.strs_eq
    have hcr' : Cre (srtS (ns.take m) ++ srtS ((ns.drop m).take l)) (ks ++ [k]) := hcr.snoc fun z hz => by
      have h := (k4 z hz).1
      rw [hkn]
      rcases List.mem_append.mp h with h | h
      · rcases List.mem_append.mp h with h | h
        · exact List.mem_append_left _ (List.mem_append_left _ h)
        · exact List.mem_append_right _ h
      · exact List.mem_append_left _ (List.mem_append_right _ h)
    have hkn' : (ks ++ [k]).map (fun k : Pack => k.nm) = ((ns.drop (m + l)).take sz).take (i + 1) := by
      rw [List.map_append, etake, hkn]
      show _ ++ [k.nm] = _
      rw [kn]
    have hks' : ∀ j ∈ ks ++ [k], 0 ≤ j.made ∧ j.made ≤ 2 ∧ j.sheet.length ≤ 4 ∧ ∀ q ∈ j.sheet, 1 ≤ q.2 ∧ q.2 ≤ 10 := fun j hj => by
      rcases List.mem_append.mp hj with hj | hj
      · exact hks j hj
      · rw [List.mem_singleton.mp hj]
        exact ⟨k1, k2, k3, fun z hz => ⟨(k4 z hz).2.1, by have := (k4 z hz).2.2; omega⟩⟩
    dsimp only
    -- pool's list is another than packs'
    have nbp : bp ≠ a ∨ (srtS (ns.take m) ++ ((ns.drop (m + l)).take sz).take i).map V.str = acc := by
      by_cases c : bp = a
      · right
        rw [c, ha10] at hbp
        exact (HO.lst.inj (Option.some.inj hbp)).symm
      · exact .inl c
    have nbp' : bp ≠ a := by
      rcases nbp with c | c
      · exact c
      · exfalso
        cases ks with
        | nil =>
          have e0 := hacc10.nil_eq
          rw [e0] at c
          exact lowne (List.append_eq_nil_iff.mp (List.map_eq_nil_iff.mp c)).1
        | cons k0 ks =>
          obtain ⟨y, r, e1, h1, _⟩ := hacc10.uncons
          obtain ⟨b, ys, e2, _⟩ := h1.tup
          rw [e1, e2] at c
          cases h : srtS (ns.take m) with
          | nil => exact lowne h
          | cons w0 ws =>
            rw [h] at c
            cases c
    have hbp' : (upd H10 a (.lst (acc ++ [x]))) bp = some (.lst ((srtS (ns.take m) ++ ((ns.drop (m + l)).take sz).take i).map V.str)) := by rw [upd_ne nbp']; exact hbp
    have hl11 : (upd H10 a (.lst (acc ++ [x]))) lp = some (.lst (((ns.drop (m + l)).take sz).map V.str)) := by rw [upd_ne nla]; exact hl10
    refine s_setD (d := .list ((srtS (ns.take m) ++ ((ns.drop (m + l)).take sz).take (i + 1)).map PyData.str)) (ED.is (ed_cat (es := [n].map PyData.str) (ed_var (i := 11) rfl (dd_lst hbp' (dds_strs _))) (ed_lst (ea_cons (ed_var (i := 8) rfl dd_str) ea_nil) (by show 1 ≤ 1000; omega)) (by rw [List.length_map, List.length_append]; show _ + 1 ≤ _; omega)) (by rw [etake, ← List.map_append, List.append_assoc])) fun v12 H12 s12 h12 => ?_
    exact ⟨LG11.same s12, s12 _ _ hl11, ks ++ [k], acc ++ [x], _, v12, rfl, s12 _ _ upd_same, DDs.same s12 _ _ hacc11, h12, hkn', hcr', hks'⟩
  · obtain ⟨LG, hlG, ks, acc, o8, vp, rfl, haG, hacc, hvp, hkn, hcr, hks⟩ := z
    rw [List.length_map, List.take_length] at hkn
    dsimp only
    exact fin h ks acc _ _ LG haG hacc hkn hcr hks
end
end KL

/-! ## the netting does not hang on the order -/
namespace KL
open PySem PySem.Spec PyProof.Rows L2
def sumI : List Int → Int
  | [] => 0
  | x :: r => x + sumI r
theorem sumI_perm {l m : List Int} (h : l.Perm m) : sumI l = sumI m := by
  induction h with
  | nil => rfl
  | cons x _ ih => show x + _ = x + _; rw [ih]
  | swap x y l => show y + (x + sumI l) = x + (y + sumI l); omega
  | trans _ _ h1 h2 => rw [h1, h2]
theorem sumI_le {α : Type} {f g : α → Int} : ∀ {l : List α}, (∀ x ∈ l, f x ≤ g x) → sumI (l.map f) ≤ sumI (l.map g)
  | [], _ => Int.le_refl _
  | x :: l, h => by
    have h1 := h x List.mem_cons_self
    have h2 := sumI_le fun y hy => h y (List.mem_cons_of_mem x hy)
    show f x + sumI (l.map f) ≤ g x + sumI (l.map g)
    omega
/-- how many of n a sheet takes -/
def cnt (sh : AL) (n : Str) : Int := sumI (sh.map fun q => if n = q.1 then q.2 else 0)
theorem cnt_none : ∀ {sh : AL} {n : Str}, n ∉ sh.map (fun p => p.1) → cnt sh n = 0
  | [], _, _ => rfl
  | q :: sh, n, h => by
    have h1 : n ≠ q.1 := fun e => h (by rw [e]; exact List.mem_cons_self)
    have h2 := cnt_none (sh := sh) (n := n) fun z => h (List.mem_cons_of_mem _ z)
    show (if n = q.1 then q.2 else 0) + cnt sh n = 0
    rw [if_neg h1, h2]
    rfl
theorem cnt_pos : ∀ {sh : AL} {n : Str}, (∀ q ∈ sh, 0 ≤ q.2) → 0 ≤ cnt sh n
  | [], _, _ => Int.le_refl _
  | q :: sh, n, h => by
    have h1 := h q List.mem_cons_self
    have h2 := cnt_pos (sh := sh) (n := n) fun z hz => h z (List.mem_cons_of_mem _ hz)
    show 0 ≤ (if n = q.1 then q.2 else 0) + cnt sh n
    split <;> omega
theorem getI_adds {t : Int} : ∀ {sh m : AL} {n : Str}, getI (sh.foldl (addS t) m) n = getI m n + cnt sh n * t
  | [], m, n => by
    show getI m n = getI m n + 0 * t
    rw [Int.zero_mul, Int.add_zero]
  | q :: sh, m, n => by
    rw [List.foldl_cons, getI_adds]
    show getI (putS m q.1 (getI m q.1 + q.2 * t)) n + cnt sh n * t = getI m n + ((if n = q.1 then q.2 else 0) + cnt sh n) * t
    rw [getI_put, Int.add_mul]
    by_cases e : n = q.1
    · rw [if_pos e, if_pos e, e]
      omega
    · rw [if_neg e, if_neg e, Int.zero_mul]
      omega
/-- later ones do not take what is earlier -/
def Topo : List Pack → Prop
  | [] => True
  | k :: r => k.nm ∉ innerN (k :: r) ∧ Topo r
theorem innerN_sub {R S : List Pack} (h : ∀ k ∈ R, k ∈ S) {n : Str} (hn : n ∈ innerN R) : n ∈ innerN S := by
  obtain ⟨k, hk, hx⟩ := List.mem_flatMap.mp hn
  exact List.mem_flatMap.mpr ⟨k, h k hk, hx⟩
theorem topo_app : ∀ {F R : List Pack}, (∀ k ∈ F, k.nm ∉ innerN (F ++ R)) → Topo R → Topo (F ++ R)
  | [], _, _, h => h
  | k :: F, R, hf, h => ⟨hf k List.mem_cons_self, topo_app (fun j hj z => hf j (List.mem_cons_of_mem _ hj) (innerN_sub (fun x hx => List.mem_cons_of_mem _ hx) z)) h⟩
theorem outer_topo {S : List Pack} : ∀ (n : Nat) (R : List Pack), Topo (outerOrd n R)
  | 0, _ => trivial
  | n + 1, R => by
    unfold outerOrd
    split
    · trivial
    · refine topo_app (fun k hk z => ?_) (outer_topo (S := S) n _)
      have hf := (List.mem_filter.mp hk).2
      have hz : k.nm ∈ innerN R := innerN_sub (fun x hx => by
        rcases List.mem_append.mp hx with hx | hx
        · exact (List.mem_filter.mp hx).1
        · exact (List.mem_filter.mp (outerOrd_sub _ _ x hx)).1) z
      unfold freeB at hf
      rw [decide_eq_true hz] at hf
      cases hf
theorem law_topo : ∀ (n : Nat) (R : List Pack), Topo (lawOrd n R)
  | 0, _ => trivial
  | n + 1, R => by
    rw [lawOrd_succ]
    unfold lapK
    cases e : R.filter (freeB R) with
    | nil => trivial
    | cons k l =>
      show Topo (k :: lawOrd n (R.filter fun j => !decide (j.nm = k.nm)))
      have hk : k ∈ R.filter (freeB R) := by rw [e]; exact List.mem_cons_self
      refine ⟨fun z => ?_, law_topo n _⟩
      have hf := (List.mem_filter.mp hk).2
      have hz : k.nm ∈ innerN R := innerN_sub (fun x hx => by
        rcases List.mem_cons.mp hx with hx | hx
        · rw [hx]; exact (List.mem_filter.mp hk).1
        · exact (List.mem_filter.mp (lawOrd_sub _ _ x hx)).1) z
      unfold freeB at hf
      rw [decide_eq_true hz] at hf
      cases hf
theorem outer_perm {S : List Pack} (wf : Wf S) : ∀ (n : Nat) (R : List Pack), R.length ≤ n → (∀ k ∈ R, k ∈ S) → (outerOrd n R).Perm R
  | 0, R, hn, _ => by
    rw [List.eq_nil_of_length_eq_zero (Nat.le_zero.mp hn)]
    exact .nil
  | n + 1, R, hn, hs => by
    unfold outerOrd
    split
    · rename_i e
      rw [e]
    · rename_i ne
      obtain ⟨k0, m0, f0⟩ := wf R ne hs
      have hl := rest_lt m0 f0
      have ih := outer_perm wf n (R.filter fun k => !freeB R k) (by omega) fun k hk => hs k (List.mem_filter.mp hk).1
      exact (ih.append_left _).trans (List.filter_append_perm _ _)
theorem only_one : ∀ {R : List Pack} {k : Pack}, (R.map fun k : Pack => k.nm).Nodup → k ∈ R → R.filter (fun j => decide (j.nm = k.nm)) = [k]
  | [], _, _, h => by cases h
  | j :: R, k, nd, h => by
    have nd' := List.nodup_cons.mp (show (j.nm :: R.map fun k : Pack => k.nm).Nodup from nd)
    rw [List.filter_cons]
    by_cases e : j.nm = k.nm
    · rw [decide_eq_true e]
      have hjk : k = j := by
        rcases List.mem_cons.mp h with h | h
        · exact h
        · exact absurd (List.mem_map_of_mem (f := fun k : Pack => k.nm) h) (by show ¬ k.nm ∈ _; rw [← e]; exact nd'.1)
      have none_ : R.filter (fun j => decide (j.nm = k.nm)) = [] := by
        rw [List.filter_eq_nil_iff]
        intro x hx z
        exact nd'.1 (by rw [e, ← of_decide_eq_true z]; exact List.mem_map_of_mem (f := fun k : Pack => k.nm) hx)
      rw [none_, hjk]
      rfl
    · rw [decide_eq_false e]
      have hk : k ∈ R := (List.mem_cons.mp h).resolve_left fun z => e (by rw [z])
      exact only_one nd'.2 hk
theorem law_perm {S : List Pack} (wf : Wf S) : ∀ (n : Nat) (R : List Pack), R.length ≤ n → (R.map fun k : Pack => k.nm).Nodup → (∀ k ∈ R, k ∈ S) → (lawOrd n R).Perm R
  | 0, R, hn, _, _ => by
    rw [List.eq_nil_of_length_eq_zero (Nat.le_zero.mp hn)]
    exact .nil
  | n + 1, R, hn, nd, hs => by
    by_cases ne : R = []
    · rw [ne]
      exact .nil
    · obtain ⟨k, l, R', eF, eL, eR, mk⟩ := lapK_some wf ne hs
      rw [lawOrd_succ, eL]
      show (k :: lawOrd n R').Perm R
      have h1 := rest_one nd mk
      have ih := law_perm wf n R' (by rw [eR]; omega) (by rw [eR]; exact (List.filter_sublist.map _).nodup nd) fun j hj => by
        rw [eR] at hj
        exact hs j (List.mem_filter.mp hj).1
      have p2 := List.filter_append_perm (fun j : Pack => decide (j.nm = k.nm)) R
      rw [only_one nd mk, ← eR] at p2
      exact (ih.cons k).trans p2
/-- what the netting comes to -/
def Fix (ks : List Pack) (a F : Str → Int) : Prop := ∀ n, F n = a n + sumI (ks.map fun k => cnt k.sheet n * turnOf k.made k.apart (F k.nm))
theorem Fix.perm {ks js : List Pack} {a F : Str → Int} (h : Fix ks a F) (p : ks.Perm js) : Fix js a F := fun n => by
  rw [h n, sumI_perm (p.map _)]
theorem innerN_cons (k : Pack) (r : List Pack) : innerN (k :: r) = (k.sheet.map fun p => p.1) ++ innerN r := rfl
theorem sum_none : ∀ {r : List Pack} {n : Str} {f : Pack → Int}, n ∉ innerN r → sumI (r.map fun k => cnt k.sheet n * f k) = 0
  | [], _, _, _ => rfl
  | k :: r, n, f, h => by
    rw [innerN_cons] at h
    have h1 : n ∉ k.sheet.map fun p => p.1 := fun z => h (List.mem_append_left _ z)
    have h2 : n ∉ innerN r := fun z => h (List.mem_append_right _ z)
    show cnt k.sheet n * f k + sumI _ = 0
    rw [cnt_none h1, Int.zero_mul, sum_none h2]
    rfl
theorem fold_fix : ∀ {ord : List Pack} {tu m : AL}, Topo ord → Fix ord (getI m) (getI (ord.foldl stepK (tu, m)).2)
  | [], tu, m, _ => fun n => by
    show getI m n = getI m n + 0
    rw [Int.add_zero]
  | k :: r, tu, m, h => fun n => by
    have ih := fold_fix (ord := r) (tu := putS tu k.nm (turnOf k.made k.apart (getI m k.nm))) (m := k.sheet.foldl (addS (turnOf k.made k.apart (getI m k.nm))) m) h.2
    have hk : getI ((k :: r).foldl stepK (tu, m)).2 k.nm = getI m k.nm := by
      show getI (r.foldl stepK (putS tu k.nm (turnOf k.made k.apart (getI m k.nm)), k.sheet.foldl (addS (turnOf k.made k.apart (getI m k.nm))) m)).2 k.nm = _
      have h1 := h.1
      rw [innerN_cons] at h1
      rw [ih k.nm, sum_none fun z => h1 (List.mem_append_right _ z), Int.add_zero, getI_adds, cnt_none fun z => h1 (List.mem_append_left _ z), Int.zero_mul, Int.add_zero]
    have e := ih n
    rw [getI_adds] at e
    show getI (r.foldl stepK (putS tu k.nm (turnOf k.made k.apart (getI m k.nm)), k.sheet.foldl (addS (turnOf k.made k.apart (getI m k.nm))) m)).2 n = getI m n + (cnt k.sheet n * turnOf k.made k.apart (getI ((k :: r).foldl stepK (tu, m)).2 k.nm) + sumI _)
    rw [hk, e, Int.add_assoc]
    rfl
theorem turns_keep : ∀ {ord : List Pack} {st : AL × AL} {n : Str}, n ∉ ord.map (fun k : Pack => k.nm) → getI (ord.foldl stepK st).1 n = getI st.1 n
  | [], _, _, _ => rfl
  | k :: r, st, n, h => by
    rw [List.foldl_cons, turns_keep fun z => h (List.mem_cons_of_mem _ z)]
    show getI (putS st.1 k.nm _) n = _
    rw [getI_put, if_neg fun z => h (by rw [z]; exact List.mem_cons_self)]
theorem fold_turns : ∀ {ord : List Pack} {tu m : AL}, Topo ord → (ord.map fun k : Pack => k.nm).Nodup → ∀ k ∈ ord, getI (ord.foldl stepK (tu, m)).1 k.nm = turnOf k.made k.apart (getI (ord.foldl stepK (tu, m)).2 k.nm)
  | [], _, _, _, _, _, h => by cases h
  | j :: r, tu, m, h, nd, k, hk => by
    have nd' := List.nodup_cons.mp (show (j.nm :: r.map fun k : Pack => k.nm).Nodup from nd)
    rcases List.mem_cons.mp hk with e | hk
    · subst e
      have hm : getI ((k :: r).foldl stepK (tu, m)).2 k.nm = getI m k.nm := by
        have f := fold_fix (tu := tu) (m := m) h k.nm
        rw [sum_none h.1, Int.add_zero] at f
        exact f
      rw [hm]
      show getI (r.foldl stepK (putS tu k.nm (turnOf k.made k.apart (getI m k.nm)), _)).1 k.nm = _
      rw [turns_keep nd'.1]
      show getI (putS tu k.nm (turnOf k.made k.apart (getI m k.nm))) k.nm = _
      rw [getI_put, if_pos rfl]
    · exact fold_turns h.2 nd'.2 k hk
theorem turn_mono {made x y : Int} {apart : Bool} (h : x ≤ y) : turnOf made apart x ≤ turnOf made apart y := by
  unfold turnOf
  cases apart with
  | true => simp; omega
  | false =>
    simp only [Bool.false_or, decide_eq_true_eq]
    split <;> split <;> omega
theorem topo_ix : ∀ {ord : List Pack}, Topo ord → ∀ (i j : Nat) (a b : Pack), ord[i]? = some a → ord[j]? = some b → i ≤ j → a.nm ∉ b.sheet.map fun p => p.1
  | [], _, i, _, _, _, h, _, _ => by simp at h
  | k :: r, h, 0, j, a, b, h1, h2, _ => by
    obtain rfl : k = a := Option.some.inj h1
    intro z
    exact h.1 (List.mem_flatMap.mpr ⟨b, List.mem_of_getElem? h2, z⟩)
  | k :: r, h, i + 1, 0, _, _, _, _, l => by omega
  | k :: r, h, i + 1, j + 1, a, b, h1, h2, l => topo_ix h.2 i j a b h1 h2 (by omega)
/-- more asked, nothing less comes -/
theorem fix_mono {ord : List Pack} {a a2 F G : Str → Int} (ht : Topo ord) (hc : ∀ k ∈ ord, ∀ q ∈ k.sheet, 0 ≤ q.2) (hF : Fix ord a F) (hG : Fix ord a2 G) (ha : ∀ n, a n ≤ a2 n) : ∀ n, F n ≤ G n := by
  have main : ∀ (N i : Nat) (k : Pack), i < N → ord[i]? = some k → F k.nm ≤ G k.nm := by
    intro N
    induction N with
    | zero => intro i _ h; omega
    | succ N ih =>
      intro i k hi hk
      rw [hF k.nm, hG k.nm]
      have s := sumI_le (l := ord) (f := fun j => cnt j.sheet k.nm * turnOf j.made j.apart (F j.nm)) (g := fun j => cnt j.sheet k.nm * turnOf j.made j.apart (G j.nm)) fun j hj => by
        obtain ⟨ij, hij, ej⟩ := List.mem_iff_getElem.mp hj
        have ej' : ord[ij]? = some j := by rw [List.getElem?_eq_getElem hij, ej]
        by_cases c : ij < i
        · exact Int.mul_le_mul_of_nonneg_left (turn_mono (ih ij j (by omega) ej')) (cnt_pos (hc j hj))
        · have z := cnt_none (topo_ix ht i ij k j hk ej' (by omega))
          show cnt j.sheet k.nm * _ ≤ cnt j.sheet k.nm * _
          rw [z, Int.zero_mul, Int.zero_mul]
          exact Int.le_refl _
      have := ha k.nm
      omega
  intro n
  rw [hF n, hG n]
  have s := sumI_le (l := ord) (f := fun j => cnt j.sheet n * turnOf j.made j.apart (F j.nm)) (g := fun j => cnt j.sheet n * turnOf j.made j.apart (G j.nm)) fun j hj => by
    obtain ⟨ij, hij, ej⟩ := List.mem_iff_getElem.mp hj
    have ej' : ord[ij]? = some j := by rw [List.getElem?_eq_getElem hij, ej]
    exact Int.mul_le_mul_of_nonneg_left (turn_mono (main (ij + 1) ij j (Nat.lt_succ_self _) ej')) (cnt_pos (hc j hj))
  have := ha n
  omega
end KL

/-! ## told is due; all rises; rows -/
namespace KL
open PySem PySem.Spec PyProof.Rows L2
theorem getI_nil (n : Str) : getI [] n = 0 := rfl
theorem getS_none {m : AL} {n : Str} (h : n ∉ keysA m) : getS m n = none := by
  cases e : getS m n with
  | none => rfl
  | some v => exact absurd (mem_keysA.mpr (by rw [e]; rfl)) h
theorem getI_none {m : AL} {n : Str} (h : n ∉ keysA m) : getI m n = 0 := by
  unfold getI
  rw [getS_none h]
  rfl
theorem getS_cons (q : Str × Int) (m : AL) (n : Str) : getS (q :: m) n = if q.1 = n then some q.2 else getS m n := by
  unfold getS
  rw [List.find?_cons]
  by_cases e : q.1 = n
  · rw [decide_eq_true e, if_pos e]
    rfl
  · rw [decide_eq_false e, if_neg e]
theorem getI_putAll : ∀ {m a : AL} {n : Str}, (keysA m).Nodup → getI (putAll a m) n = (getS m n).getD (getI a n)
  | [], _, _, _ => rfl
  | q :: m, a, n, nd => by
    have nd' := List.nodup_cons.mp (show (q.1 :: keysA m).Nodup from nd)
    show getI (putAll (putS a q.1 q.2) m) n = _
    rw [getI_putAll nd'.2, getI_put, getS_cons]
    by_cases e : q.1 = n
    · rw [if_pos e, ← e, getS_none nd'.1, if_pos rfl]
      rfl
    · rw [if_neg e, if_neg fun z => e z.symm]
theorem getI_zeroes : ∀ {ns : List Str} {a : AL} {n : Str}, getI a n = 0 → getI (zeroes a ns) n = 0
  | [], _, _, h => h
  | k :: ns, a, n, h => by
    refine getI_zeroes (ns := ns) (a := putS a k 0) ?_
    rw [getI_put]
    split
    · rfl
    · exact h
theorem getI_asksL {S : Shop} {wish : AL} (nd : (keysA wish).Nodup) (n : Str) : getI (asksL S wish) n = getI wish n := by
  unfold asksL
  rw [getI_putAll nd]
  have z : getI ((bNames S ++ kNames S).foldl (fun a n => putS a n 0) []) n = 0 := getI_zeroes (ns := bNames S ++ kNames S) (a := []) rfl
  rw [z]
  rfl
theorem getS_mapKey {f : Str → Int} : ∀ {ns : List Str} {n : Str}, getS (ns.map fun n => (n, f n)) n = if n ∈ ns then some (f n) else none
  | [], _ => rfl
  | k :: ns, n => by
    rw [List.map_cons, getS_cons, getS_mapKey]
    by_cases e : k = n
    · rw [if_pos e, if_pos (by rw [e]; exact List.mem_cons_self), e]
    · rw [if_neg e]
      by_cases c : n ∈ ns
      · rw [if_pos c, if_pos (List.mem_cons_of_mem _ c)]
      · rw [if_neg c, if_neg fun z => (List.mem_cons.mp z).elim (fun q => e q.symm) c]
theorem getI_mapKey {f : Str → Int} {ns : List Str} {n : Str} (h : n ∉ ns → f n = 0) : getI (ns.map fun n => (n, f n)) n = f n := by
  unfold getI
  rw [getS_mapKey]
  by_cases c : n ∈ ns
  · rw [if_pos c]
    rfl
  · rw [if_neg c, h c]
    rfl
theorem getI_asks0 {S : Shop} {r : AL} (sub : ∀ n ∈ keysA r, n ∈ bNames S ++ kNames S) (n : Str) : getI (asks0 S r) n = getI r n := by
  unfold asks0
  refine getI_mapKey fun h => getI_none fun z => h ?_
  rcases List.mem_append.mp (sub n z) with q | q
  · exact List.mem_append_left _ (srtS_mem.mpr q)
  · exact List.mem_append_right _ q
structure RowOk (S : Shop) (b : Int) (r : AL) : Prop where
  nd : (keysA r).Nodup
  sub : ∀ n ∈ keysA r, n ∈ pNames S ++ kNames S
  val : ∀ q ∈ r, 1 ≤ q.2 ∧ q.2 ≤ b
  up : (keysA r).Pairwise leS
theorem RowOk.sub2 {S : Shop} {b : Int} {r : AL} (h : RowOk S b r) : ∀ n ∈ keysA r, n ∈ bNames S ++ kNames S := fun n hn => by
  rcases List.mem_append.mp (h.sub n hn) with q | q
  · exact List.mem_append_left _ (List.mem_append_left _ q)
  · exact List.mem_append_right _ q
theorem getS_mem2 : ∀ {m : AL} {k : Str} {v : Int}, getS m k = some v → (k, v) ∈ m
  | [], _, _, h => by cases h
  | q :: m, k, v, h => by
    rw [getS_cons] at h
    by_cases e : q.1 = k
    · rw [if_pos e] at h
      have : q = (k, v) := by rw [← e, ← Option.some.inj h]
      rw [this]
      exact List.mem_cons_self
    · rw [if_neg e] at h
      exact List.mem_cons_of_mem _ (getS_mem2 h)
theorem RowOk.getI {S : Shop} {b : Int} {r : AL} (h : RowOk S b r) (n : Str) : 0 ≤ getI r n ∧ (n ∈ keysA r → 1 ≤ KL.getI r n ∧ KL.getI r n ≤ b) := by
  by_cases c : n ∈ keysA r
  · have q := h.val _ (getS_mem2 (getS_some c))
    have q1 : 1 ≤ KL.getI r n := q.1
    exact ⟨by omega, fun _ => q⟩
  · rw [getI_none c]
    exact ⟨by omega, fun z => absurd z c⟩
/-! ### told is due -/
theorem net_fix {S : Shop} (ok : ShopOk S) {r : AL} (sub : ∀ n ∈ keysA r, n ∈ bNames S ++ kNames S) : Fix (outerOrd S.packs.length S.packs) (getI r) (getI (netP S r).2) := by
  have h := fold_fix (ord := outerOrd S.packs.length S.packs) (tu := []) (m := asks0 S r) (outer_topo (S := S.packs) _ _)
  have e : getI (asks0 S r) = getI r := funext (getI_asks0 sub)
  rw [e] at h
  exact h
theorem law_fix {S : Shop} (ok : ShopOk S) {r : AL} (nd : (keysA r).Nodup) : Fix (outerOrd S.packs.length S.packs) (getI r) (getI (lawP S r).2) := by
  have h := fold_fix (ord := lawOrd S.packs.length S.packs) (tu := []) (m := asksL S r) (law_topo _ _)
  have e : getI (asksL S r) = getI r := funext (getI_asksL nd)
  rw [e] at h
  exact h.perm ((law_perm ok.wf _ _ (Nat.le_refl _) ok.ndK fun _ h => h).trans (outer_perm ok.wf _ _ (Nat.le_refl _) fun _ h => h).symm)
theorem ord_cnt {S : Shop} (ok : ShopOk S) : ∀ k ∈ outerOrd S.packs.length S.packs, ∀ q ∈ k.sheet, 0 ≤ q.2 := fun k hk q hq => by
  have := (ok.ct k (outerOrd_sub _ _ _ hk) q hq).1
  omega
theorem net_law {S : Shop} (ok : ShopOk S) {r : AL} (nd : (keysA r).Nodup) (sub : ∀ n ∈ keysA r, n ∈ bNames S ++ kNames S) (n : Str) : getI (netP S r).2 n = getI (lawP S r).2 n := by
  have t := outer_topo (S := S.packs) S.packs.length S.packs
  have h1 := fix_mono t (ord_cnt ok) (net_fix ok sub) (law_fix ok nd) (fun _ => Int.le_refl _) n
  have h2 := fix_mono t (ord_cnt ok) (law_fix ok nd) (net_fix ok sub) (fun _ => Int.le_refl _) n
  omega
theorem nd_outer {S : Shop} (ok : ShopOk S) : ((outerOrd S.packs.length S.packs).map fun k : Pack => k.nm).Nodup := ((outer_perm ok.wf _ _ (Nat.le_refl _) fun _ h => h).map _).nodup_iff.mpr ok.ndK
theorem nd_law {S : Shop} (ok : ShopOk S) : ((lawOrd S.packs.length S.packs).map fun k : Pack => k.nm).Nodup := ((law_perm ok.wf _ _ (Nat.le_refl _) ok.ndK fun _ h => h).map _).nodup_iff.mpr ok.ndK
theorem net_turn {S : Shop} (ok : ShopOk S) (r : AL) {k : Pack} (hk : k ∈ S.packs) : getI (netP S r).1 k.nm = turnOf k.made k.apart (getI (netP S r).2 k.nm) :=
  fold_turns (outer_topo (S := S.packs) _ _) (nd_outer ok) k (outerOrd_mem ok.wf _ _ (Nat.le_refl _) (fun _ h => h) k hk)
theorem law_turn {S : Shop} (ok : ShopOk S) (r : AL) {k : Pack} (hk : k ∈ S.packs) : getI (lawP S r).1 k.nm = turnOf k.made k.apart (getI (lawP S r).2 k.nm) :=
  fold_turns (law_topo _ _) (nd_law ok) k (lawOrd_mem ok.wf _ _ (Nat.le_refl _) ok.ndK (fun _ h => h) k hk)
theorem told_due {S : Shop} (ok : ShopOk S) {r : AL} (nd : (keysA r).Nodup) (sub : ∀ n ∈ keysA r, n ∈ bNames S ++ kNames S) : toldD S (netP S r) = toldD S (lawP S r) := by
  have e := net_law ok nd sub
  unfold toldD
  have e1 : (S.packs.map fun k => encP (k.nm, getI (netP S r).1 k.nm)) = S.packs.map fun k => encP (k.nm, getI (lawP S r).1 k.nm) := List.map_congr_left fun k hk => by rw [net_turn ok r hk, law_turn ok r hk, e]
  have e2 : ((srtS (bNames S)).map fun n => encP (n, getI (netP S r).2 n)) = (srtS (bNames S)).map fun n => encP (n, getI (lawP S r).2 n) := List.map_congr_left fun n _ => by rw [e]
  have e3 : (S.parts.map fun p => encP (p.1, p.2 - getI (netP S r).2 p.1)) = S.parts.map fun p => encP (p.1, p.2 - getI (lawP S r).2 p.1) := List.map_congr_left fun p _ => by rw [e]
  rw [e1, e2, e3]
def told1 (S : Shop) (r : AL) : AL := S.packs.map fun k => (k.nm, getI (netP S r).1 k.nm)
def told2 (S : Shop) (r : AL) : AL := (srtS (bNames S)).map fun n => (n, getI (netP S r).2 n)
def told3 (S : Shop) (r : AL) : AL := S.parts.map fun p => (p.1, p.2 - getI (netP S r).2 p.1)
theorem toldD_A (S : Shop) (r : AL) : toldD S (netP S r) = toldA (told1 S r) (told2 S r) (told3 S r) := by
  unfold toldD toldA told1 told2 told3
  rw [List.map_map, List.map_map, List.map_map]
  rfl
theorem told_rises {S : Shop} (ok : ShopOk S) {r r2 : AL} (s1 : ∀ n ∈ keysA r, n ∈ bNames S ++ kNames S) (s2 : ∀ n ∈ keysA r2, n ∈ bNames S ++ kNames S) (le : ∀ n, getI r n ≤ getI r2 n) : Rises (told1 S r) (told2 S r) (told3 S r) (told1 S r2) (told2 S r2) (told3 S r2) := by
  have m := fix_mono (outer_topo (S := S.packs) S.packs.length S.packs) (ord_cnt ok) (net_fix ok s1) (net_fix ok s2) le
  refine ⟨fun i x y hx hy => ?_, fun i x y hx hy => ?_, fun i x y hx hy => ?_⟩
  · unfold told1 at hx hy
    rw [List.getElem?_map] at hx hy
    cases e : S.packs[i]? with
    | none => rw [e] at hx; cases hx
    | some k =>
      rw [e] at hx hy
      obtain rfl := Option.some.inj hx
      obtain rfl := Option.some.inj hy
      have hk := List.mem_of_getElem? e
      have := turn_mono (made := k.made) (apart := k.apart) (m k.nm)
      show ¬ getI (netP S r2).1 k.nm < getI (netP S r).1 k.nm
      rw [net_turn ok r hk, net_turn ok r2 hk]
      omega
  · unfold told2 at hx hy
    rw [List.getElem?_map] at hx hy
    cases e : (srtS (bNames S))[i]? with
    | none => rw [e] at hx; cases hx
    | some k =>
      rw [e] at hx hy
      obtain rfl := Option.some.inj hx
      obtain rfl := Option.some.inj hy
      have := m k
      show ¬ getI (netP S r2).2 k < getI (netP S r).2 k
      omega
  · unfold told3 at hx hy
    rw [List.getElem?_map] at hx hy
    cases e : S.parts[i]? with
    | none => rw [e] at hx; cases hx
    | some k =>
      rw [e] at hx hy
      obtain rfl := Option.some.inj hx
      obtain rfl := Option.some.inj hy
      have := m k.1
      show ¬ k.2 - getI (netP S r).2 k.1 < k.2 - getI (netP S r2).2 k.1
      omega
/-! ### a row with one more -/
theorem nd_putS {m : AL} {k : Str} {v : Int} (h : (keysA m).Nodup) : (keysA (putS m k v)).Nodup := by
  by_cases c : k ∈ keysA m
  · rw [keysA_put c]
    exact h
  · have e := putS_new (m := m) (k := k) v (getS_none c)
    rw [e]
    unfold keysA at h c ⊢
    rw [List.map_append]
    exact List.nodup_append.mpr ⟨h, List.nodup_cons.mpr ⟨by simp, .nil⟩, fun a ha b hb z => c (by
      have hb' : b = k := List.mem_singleton.mp hb
      rw [← hb', ← z]
      exact ha)⟩
theorem nd_putAll : ∀ {m a : AL}, (keysA a).Nodup → (keysA (putAll a m)).Nodup
  | [], _, h => h
  | q :: m, a, h => nd_putAll (m := m) (nd_putS h)
theorem with_get {r : AL} (nd : (keysA r).Nodup) (item n : Str) : getI (withA r item) n = if n = item then getI r n + 1 else getI r n := by
  unfold withA
  have e0 : ∀ x, getI (putAll [] r) x = getI r x := fun x => by
    rw [getI_putAll nd]
    rfl
  rw [getI_mapKey]
  · rw [getI_put]
    by_cases c : n = item
    · rw [if_pos c, if_pos c, c]
      show getI (putAll [] r) item + 1 = _
      rw [e0]
    · rw [if_neg c, if_neg c, e0]
  · intro h
    exact getI_none fun z => h (srtS_mem.mpr z)
theorem with_ok {S : Shop} {b : Int} {r : AL} (h : RowOk S b r) {item : Str} (hi : item ∈ pNames S ++ kNames S) (hb : 0 ≤ b) : RowOk S (b + 1) (withA r item) := by
  have ek : keysA (withA r item) = srtS (keysA (putS (putAll [] r) item ((getS (putAll [] r) item).getD 0 + 1))) := by
    unfold withA keysA
    rw [List.map_map]
    exact List.map_id _
  have hm : ∀ n, n ∈ keysA (withA r item) → n = item ∨ n ∈ keysA r := fun n hn => by
    rw [ek] at hn
    rcases mem_put.mp (srtS_mem.mp hn) with z | z
    · exact .inl z
    · rcases mem_putAll.mp z with z | z
      · exact .inr z
      · cases z
  have nd2 : (keysA (withA r item)).Nodup := by
    rw [ek]
    exact srtS_nodup (nd_putS (nd_putAll .nil))
  refine ⟨nd2, fun n hn => ?_, fun q hq => ?_, ?_⟩
  · rcases hm n hn with z | z
    · rw [z]; exact hi
    · exact h.sub n z
  · have hq1 : q.1 ∈ keysA (withA r item) := List.mem_map_of_mem (f := fun p : Str × Int => p.1) hq
    have hv : getI (withA r item) q.1 = q.2 := by
      unfold KL.getI
      rw [getS_at nd2 hq]
      rfl
    rw [with_get h.nd] at hv
    have g := h.getI q.1
    by_cases c : q.1 = item
    · rw [if_pos c] at hv
      by_cases c2 : q.1 ∈ keysA r
      · have := g.2 c2
        omega
      · rw [getI_none c2] at hv
        omega
    · rw [if_neg c] at hv
      have := g.2 ((hm _ hq1).resolve_left c)
      omega
  · rw [ek]
    exact srtBy_rises id _
theorem with_le {r : AL} (nd : (keysA r).Nodup) (item n : Str) : getI r n ≤ getI (withA r item) n := by
  rw [with_get nd]
  split <;> omega
theorem row_of {S : Shop} (ok : ShopOk S) {b : Int} {r : AL} (hs : (keysA r).Sublist (srtS (pNames S ++ kNames S))) (hv : ∀ q ∈ r, 1 ≤ q.2 ∧ q.2 ≤ b) : RowOk S b r := by
  have nd : (pNames S ++ kNames S).Nodup := by
    have h := ok.nd
    unfold bNames at h
    have h2 : (pNames S ++ kNames S).Sublist ((pNames S ++ cNames S) ++ kNames S) := (List.sublist_append_left _ _).append (List.Sublist.refl _)
    exact h2.nodup h
  exact ⟨hs.nodup (srtS_nodup nd), fun n hn => srtS_mem.mp (hs.subset hn), hv, (srtBy_rises id _).sublist hs⟩
theorem row_is {S : Shop} (gd : ∀ n ∈ bNames S ++ kNames S, isNameS n = true ∧ n ≠ "nobody") {b : Int} {r : AL} (h : RowOk S b r) : isRowD S (.tuple (r.map encP)) = true := by
  show (((r.map encP).all fun e => isCountedD e && isArtD S (fstD e)) && isNamesD (.tuple ((r.map encP).map fstD))) = true
  have nm : ∀ q ∈ r, isNameS q.1 = true := fun q hq => (gd q.1 (h.sub2 q.1 (List.mem_map_of_mem (f := fun p : Str × Int => p.1) hq))).1
  rw [Bool.and_eq_true]
  constructor
  · rw [List.all_eq_true]
    intro e he
    obtain ⟨q, hq, rfl⟩ := List.mem_map.mp he
    rw [Bool.and_eq_true]
    constructor
    · show (isNameS q.1 && decide (1 ≤ q.2)) = true
      rw [nm q hq, decide_eq_true (h.val q hq).1]
      rfl
    · show (isAmongD (.str q.1) (pNames S) || isAmongD (.str q.1) (kNames S)) = true
      show (decide (q.1 ∈ pNames S) || decide (q.1 ∈ kNames S)) = true
      rw [Bool.or_eq_true, decide_eq_true_eq, decide_eq_true_eq]
      exact List.mem_append.mp (h.sub q.1 (List.mem_map_of_mem (f := fun p : Str × Int => p.1) hq))
  · rw [fst_encP]
    show (((keysA r).map PyData.str).all isNameD && ltsD ((keysA r).map PyData.str)) = true
    rw [ltsD_of h.up h.nd, Bool.and_true, List.all_map, List.all_eq_true]
    intro n hn
    obtain ⟨q, hq, rfl⟩ := List.mem_map.mp hn
    exact nm q hq
end KL

/-! ## what is shown is short -/
namespace KL
open PySem PySem.Spec PyProof.Rows L2
/-- data whose text is short -/
structure RD (w k : Nat) (d : PyData) : Prop where
  sh : d.showable = true
  nd : d.hasDict = false
  dp : d.depth ≤ k
  wt : d.weight ≤ w
  lv : d.leavesShort 80 = true
theorem RD.mono {w k w2 k2 : Nat} {d : PyData} (h : RD w k d) (a : w ≤ w2) (b : k ≤ k2) : RD w2 k2 d := ⟨h.sh, h.nd, Nat.le_trans h.dp b, Nat.le_trans h.wt a, h.lv⟩
theorem rd_str {x : Str} (h : isNameS x = true) {w k : Nat} (hw : 8 ≤ w) (hk : 1 ≤ k) : RD w k (.str x) := by
  have hl : x.length ≤ 8 := by
    unfold isNameS at h
    rw [Bool.and_eq_true, Bool.and_eq_true, decide_eq_true_eq, decide_eq_true_eq] at h
    omega
  have ho := strOk_name h
  refine ⟨by simp [PyData.showable], by simp [PyData.hasDict], by simp [PyData.depth], ?_, ?_⟩
  · have e : (PyData.str x).weight = x.length := by simp only [PyData.weight]; rfl
    omega
  · unfold PyData.strOk at ho
    rw [← Array.all_toList] at ho
    simp only [PyData.leavesShort, List.all_eq_true, decide_eq_true_eq]
    intro c hc
    have := of_decide_eq_true (List.all_eq_true.mp ho c hc)
    omega
theorem rd_bool {b : Bool} {w k : Nat} (hk : 1 ≤ k) : RD w k (.bool b) := ⟨by simp [PyData.showable], by simp [PyData.hasDict], by simp [PyData.depth], by simp [PyData.weight], by simp [PyData.leavesShort]⟩
theorem rd_int {i : Int} (h : i.natAbs < 2 ^ 64) {w k : Nat} (hw : 65 ≤ w) (hk : 1 ≤ k) : RD w k (.int i) := by
  have hl : i.natAbs.log2 < 65 := by
    by_cases z : i.natAbs = 0
    · rw [z]; decide
    · have := (Nat.log2_lt z).mpr h
      omega
  refine ⟨?_, by simp [PyData.hasDict], by simp [PyData.depth], ?_, ?_⟩
  · simp only [PyData.showable, decide_eq_true_eq]
    omega
  · simp only [PyData.weight]
    split <;> omega
  · have h1 := int_text_length_le (a := i) (k := 65) (by omega) hl
    have h2 : (Str.ofString (toString i)).length = (toString i).length := PySem.ofString_length _
    have e : (PyData.shown (.int i)) = Str.ofString (toString i) := by simp only [PyData.shown]
    simp only [PyData.leavesShort]
    rw [e]
    exact decide_eq_true (by omega)
structure RDs (w k : Nat) (ds : List PyData) : Prop where
  sh : PyData.showableAll ds = true
  nd : PyData.hasDictAll ds = false
  dp : PyData.depthAll ds ≤ k
  wt : PyData.weightAll ds ≤ w
  lv : PyData.leavesShortAll 80 ds = true
theorem rds_nil {k : Nat} : RDs 0 k [] := ⟨by simp [PyData.showableAll], by simp [PyData.hasDictAll], by simp [PyData.depthAll], by simp [PyData.weightAll], by simp [PyData.leavesShortAll]⟩
theorem rds_cons {w1 w2 k : Nat} {d : PyData} {ds : List PyData} (h1 : RD w1 k d) (h2 : RDs w2 k ds) : RDs (w1 + 1 + w2) k (d :: ds) := by
  refine ⟨by simp [PyData.showableAll, h1.sh, h2.sh], by simp [PyData.hasDictAll, h1.nd, h2.nd], ?_, ?_, by simp [PyData.leavesShortAll, h1.lv, h2.lv]⟩
  · simp only [PyData.depthAll]
    exact Nat.max_le.mpr ⟨h1.dp, h2.dp⟩
  · simp only [PyData.weightAll]
    have a := h1.wt
    have b := h2.wt
    omega
theorem rds_of {w k : Nat} : ∀ {ds : List PyData}, (∀ d ∈ ds, RD w k d) → RDs (ds.length * (w + 1)) k ds
  | [], _ => ⟨by simp [PyData.showableAll], by simp [PyData.hasDictAll], by simp [PyData.depthAll], by simp [PyData.weightAll], by simp [PyData.leavesShortAll]⟩
  | d :: ds, h => by
    have h1 := h d List.mem_cons_self
    have h2 := rds_of fun e he => h e (List.mem_cons_of_mem d he)
    refine ⟨by simp [PyData.showableAll, h1.sh, h2.sh], by simp [PyData.hasDictAll, h1.nd, h2.nd], ?_, ?_, by simp [PyData.leavesShortAll, h1.lv, h2.lv]⟩
    · simp only [PyData.depthAll]
      exact Nat.max_le.mpr ⟨h1.dp, h2.dp⟩
    · simp only [PyData.weightAll]
      have a := h1.wt
      have b := h2.wt
      rw [List.length_cons, Nat.succ_mul]
      omega
theorem RDs.list {w k : Nat} {ds : List PyData} (h : RDs w k ds) : RD w (k + 1) (.list ds) :=
  ⟨by simp [PyData.showable, h.sh], by simp [PyData.hasDict, h.nd], by have := h.dp; simp only [PyData.depth]; omega, by have := h.wt; simp only [PyData.weight]; omega, by simp [PyData.leavesShort, h.lv]⟩
theorem RDs.tuple {w k : Nat} {ds : List PyData} (h : RDs w k ds) : RD w (k + 1) (.tuple ds) :=
  ⟨by simp [PyData.showable, h.sh], by simp [PyData.hasDict, h.nd], by have := h.dp; simp only [PyData.depth]; omega, by have := h.wt; simp only [PyData.weight]; omega, by simp [PyData.leavesShort, h.lv]⟩
theorem rd_list {w k n : Nat} {ds : List PyData} (h : ∀ d ∈ ds, RD w k d) (hn : ds.length ≤ n) : RD (n * (w + 1)) (k + 1) (.list ds) := (rds_of h).list.mono (Nat.mul_le_mul_right _ hn) (Nat.le_refl _)
theorem rd_tup {w k n : Nat} {ds : List PyData} (h : ∀ d ∈ ds, RD w k d) (hn : ds.length ≤ n) : RD (n * (w + 1)) (k + 1) (.tuple ds) := (rds_of h).tuple.mono (Nat.mul_le_mul_right _ hn) (Nat.le_refl _)
theorem RD.len {w k : Nat} {d : PyData} (h : RD w k d) (hw : w ≤ 100000) : d.shown.length ≤ sizeLine := by
  have a := PyData.shown_le 80 (by omega) d h.lv
  have b := h.wt
  rw [sizeLine_eq]
  have c : (80 + 2) * d.weight ≤ 82 * 100000 := Nat.mul_le_mul (Nat.le_refl _) (by omega)
  omega
theorem rd_encP {q : Str × Int} (h : isNameS q.1 = true) (hi : q.2.natAbs < 2 ^ 64) : RD 132 2 (encP q) :=
  rd_tup (w := 65) (k := 1) (n := 2) (fun d hd => by
    rcases List.mem_cons.mp hd with e | hd
    · rw [e]; exact rd_str h (by omega) (by omega)
    · rcases List.mem_cons.mp hd with e | hd
      · rw [e]; exact rd_int hi (by omega) (by omega)
      · cases hd) (Nat.le_refl _)
theorem rd_pairs {m : AL} {n : Nat} (h : ∀ q ∈ m, isNameS q.1 = true ∧ q.2.natAbs < 2 ^ 64) (hn : m.length ≤ n) : RD (n * 133) 3 (.tuple (m.map encP)) :=
  rd_tup (w := 132) (k := 2) (fun d hd => by
    obtain ⟨q, hq, rfl⟩ := List.mem_map.mp hd
    exact rd_encP (h q hq).1 (h q hq).2) (by rw [List.length_map]; exact hn)
/-! ### bounds -/
def upB (B : Nat) : Nat := B + 100 * (B + 2)
def itB : Nat → Nat → Nat
  | 0, B => B
  | n + 1, B => itB n (upB B)
theorem itB_up : ∀ (n B : Nat), B ≤ itB n B
  | 0, B => Nat.le_refl _
  | n + 1, B => by
    have := itB_up n (upB B)
    show B ≤ itB n (upB B)
    unfold upB at this ⊢
    omega
theorem itB_mono : ∀ (n : Nat) {B C : Nat}, B ≤ C → itB n B ≤ itB n C
  | 0, _, _, h => h
  | n + 1, B, C, h => itB_mono n (by unfold upB; omega)
theorem itB_len : ∀ {m n : Nat} (B : Nat), m ≤ n → itB m B ≤ itB n B
  | 0, n, B, _ => itB_up n B
  | m + 1, 0, _, h => by omega
  | m + 1, n + 1, B, h => itB_len (upB B) (by omega)
theorem cnt_abs : ∀ {sh : AL} {n : Str}, (∀ q ∈ sh, 1 ≤ q.2 ∧ q.2 ≤ 10) → (cnt sh n).natAbs ≤ 10 * sh.length
  | [], _, _ => Nat.zero_le _
  | q :: sh, n, h => by
    have h1 := h q List.mem_cons_self
    have h2 := cnt_abs (n := n) fun z hz => h z (List.mem_cons_of_mem q hz)
    show ((if n = q.1 then q.2 else 0) + cnt sh n).natAbs ≤ 10 * (sh.length + 1)
    have h3 := Int.natAbs_add_le (if n = q.1 then q.2 else 0) (cnt sh n)
    have h4 : (if n = q.1 then q.2 else 0).natAbs ≤ 10 := by split <;> omega
    omega
theorem turn_abs {made x : Int} {apart : Bool} (h : 0 ≤ made ∧ made ≤ 2) : (turnOf made apart x).natAbs ≤ x.natAbs + 2 := by
  unfold turnOf
  split <;> omega
theorem fold_abs : ∀ {ord : List Pack} {st : AL × AL} {B : Nat}, (∀ k ∈ ord, 0 ≤ k.made ∧ k.made ≤ 2 ∧ k.sheet.length ≤ 10 ∧ ∀ q ∈ k.sheet, 1 ≤ q.2 ∧ q.2 ≤ 10) → (∀ n, (getI st.2 n).natAbs ≤ B) → ∀ n, (getI (ord.foldl stepK st).2 n).natAbs ≤ itB ord.length B
  | [], _, _, _, h, n => h n
  | k :: r, st, B, hk, h, n => by
    have k1 := hk k List.mem_cons_self
    refine fold_abs (ord := r) (st := stepK st k) (B := upB B) (fun j hj => hk j (List.mem_cons_of_mem _ hj)) (fun x => ?_) n
    show (getI (k.sheet.foldl (addS (turnOf k.made k.apart (getI st.2 k.nm))) st.2) x).natAbs ≤ upB B
    rw [getI_adds]
    have a1 := h x
    have a2 := turn_abs (x := getI st.2 k.nm) (apart := k.apart) ⟨k1.1, k1.2.1⟩
    have a3 := h k.nm
    have a4 := cnt_abs (n := x) k1.2.2.2
    have a5 := Int.natAbs_add_le (getI st.2 x) (cnt k.sheet x * turnOf k.made k.apart (getI st.2 k.nm))
    have a6 := Int.natAbs_mul (cnt k.sheet x) (turnOf k.made k.apart (getI st.2 k.nm))
    have a7 : (cnt k.sheet x).natAbs * (turnOf k.made k.apart (getI st.2 k.nm)).natAbs ≤ 100 * (B + 2) := Nat.mul_le_mul (by have := k1.2.2.1; omega) (by omega)
    unfold upB
    omega
theorem net_abs {S : Shop} (g : ShopGood S) {r : AL} {b : Int} (h : RowOk S b r) (hb : b ≤ 100) (n : Str) : (getI (netP S r).2 n).natAbs ≤ 10 ^ 12 := by
  have f := fold_abs (ord := outerOrd S.packs.length S.packs) (st := ([], asks0 S r)) (B := 100) (fun k hk => ⟨(g.md k (outerOrd_sub _ _ _ hk)).1, (g.md k (outerOrd_sub _ _ _ hk)).2.1, by have := (g.md k (outerOrd_sub _ _ _ hk)).2.2; omega, g.ok.ct k (outerOrd_sub _ _ _ hk)⟩) (fun n => by
    show (getI (asks0 S r) n).natAbs ≤ 100
    rw [getI_asks0 h.sub2]
    by_cases c : n ∈ keysA r
    · have := (h.getI n).2 c
      omega
    · rw [getI_none c]
      decide) n
  have l : (outerOrd S.packs.length S.packs).length ≤ 4 := Nat.le_trans (outerOrd_len _ _) g.nk
  have e : itB 4 100 ≤ 10 ^ 12 := by decide
  exact Nat.le_trans f (Nat.le_trans (itB_len 100 l) e)
theorem rd_told {S : Shop} (g : ShopGood S) {r : AL} {b : Int} (h : RowOk S b r) (hb : b ≤ 100) : RD 4500 4 (toldD S (netP S r)) := by
  have na := net_abs g h hb
  rw [toldD_A]
  have p1 : RD 1330 3 (.tuple ((told1 S r).map encP)) := rd_pairs (n := 10) (fun q hq => by
    obtain ⟨k, hk, rfl⟩ := List.mem_map.mp hq
    refine ⟨(g.nm _ (List.mem_append_right _ (List.mem_map_of_mem (f := fun k : Pack => k.nm) hk))).1, ?_⟩
    show (getI (netP S r).1 k.nm).natAbs < _
    rw [net_turn g.ok r hk]
    have := turn_abs (x := getI (netP S r).2 k.nm) (apart := k.apart) ⟨(g.md k hk).1, (g.md k hk).2.1⟩
    have := na k.nm
    omega) (by unfold told1; rw [List.length_map]; exact g.ok.sz.packs)
  have p2 : RD 1330 3 (.tuple ((told2 S r).map encP)) := rd_pairs (n := 10) (fun q hq => by
    obtain ⟨n, hn, rfl⟩ := List.mem_map.mp hq
    refine ⟨(g.nm _ (List.mem_append_left _ (srtS_mem.mp hn))).1, ?_⟩
    show (getI (netP S r).2 n).natAbs < _
    have := na n
    omega) (by
      unfold told2 bNames pNames cNames
      rw [List.length_map, srtS_len, List.length_append, List.length_map, List.length_map]
      have := g.np
      have := g.nc
      omega)
  have p3 : RD 1330 3 (.tuple ((told3 S r).map encP)) := rd_pairs (n := 10) (fun q hq => by
    obtain ⟨p, hp, rfl⟩ := List.mem_map.mp hq
    refine ⟨(g.nm _ (List.mem_append_left _ (List.mem_append_left _ (List.mem_map_of_mem (f := fun p : Str × Int => p.1) hp)))).1, ?_⟩
    show (p.2 - getI (netP S r).2 p.1).natAbs < _
    have := g.st p hp
    have := na p.1
    omega) (by unfold told3; rw [List.length_map]; exact g.ok.sz.parts)
  refine (rd_tup (w := 1330) (k := 3) (n := 3) (fun d hd => ?_) (Nat.le_refl _)).mono (by omega) (Nat.le_refl _)
  rcases List.mem_cons.mp hd with e | hd
  · rw [e]; exact p1
  · rcases List.mem_cons.mp hd with e | hd
    · rw [e]; exact p2
    · rcases List.mem_cons.mp hd with e | hd
      · rw [e]; exact p3
      · cases hd
theorem rd_row {S : Shop} (g : ShopGood S) {r : AL} {b : Int} (h : RowOk S b r) (hb : b ≤ 100) (hl : r.length ≤ 20) : RD 2660 3 (.tuple (r.map encP)) := rd_pairs (n := 20) (fun q hq => by
  refine ⟨(g.nm _ (h.sub2 _ (List.mem_map_of_mem (f := fun p : Str × Int => p.1) hq))).1, ?_⟩
  have := h.val q hq
  omega) hl
theorem rd_shop {S : Shop} (g : ShopGood S) : RD 30000 6 (encS S) := by
  have p1 : RD 20000 3 (.tuple (S.parts.map encP)) := (rd_pairs (n := 4) (fun q hq => by
    refine ⟨(g.nm _ (List.mem_append_left _ (List.mem_append_left _ (List.mem_map_of_mem (f := fun p : Str × Int => p.1) hq)))).1, ?_⟩
    have := g.st q hq
    omega) g.np).mono (by omega) (by omega)
  have p2 : RD 400 4 (.tuple (S.choices.map encC)) := (rd_tup (w := 120) (k := 3) (n := 3) (fun d hd => by
    obtain ⟨c, hc, rfl⟩ := List.mem_map.mp hd
    have nc := (g.nm c.1 (List.mem_append_left _ (List.mem_append_right _ (List.mem_map_of_mem (f := fun c : Str × List Str => c.1) hc)))).1
    have no := g.no c hc
    have q1 : RD 90 2 (.tuple (c.2.map PyData.str)) := rd_tup (w := 8) (k := 1) (n := 10) (fun d hd => by
      obtain ⟨o, ho, rfl⟩ := List.mem_map.mp hd
      exact rd_str (g.nm o (List.mem_append_left _ (List.mem_append_left _ (no.2 o ho)))).1 (by omega) (by omega)) (by rw [List.length_map]; exact no.1)
    exact ((rds_cons (rd_str nc (w := 8) (k := 2) (by omega) (by omega)) (rds_cons q1 rds_nil)).tuple).mono (by omega) (by omega)) (by rw [List.length_map]; exact g.nc)).mono (by omega) (by omega)
  have p3 : RD 4000 5 (.tuple (S.packs.map encK)) := (rd_tup (w := 900) (k := 4) (n := 4) (fun d hd => by
    obtain ⟨k, hk, rfl⟩ := List.mem_map.mp hd
    have nk := (g.nm _ (List.mem_append_right _ (List.mem_map_of_mem (f := fun k : Pack => k.nm) hk))).1
    have mk := g.md k hk
    have q1 : RD 532 3 (.tuple (k.sheet.map encP)) := rd_pairs (n := 4) (fun q hq => by
      refine ⟨(g.nm _ (g.ok.cl k hk q hq)).1, ?_⟩
      have := g.ok.ct k hk q hq
      omega) mk.2.2
    exact ((rds_cons (rd_str nk (w := 8) (k := 3) (by omega) (by omega)) (rds_cons (rd_int (i := k.made) (w := 65) (k := 3) (by omega) (by omega) (by omega)) (rds_cons (rd_bool (b := k.apart) (w := 0) (k := 3) (by omega)) (rds_cons q1 rds_nil)))).tuple).mono (by omega) (by omega)) (by rw [List.length_map]; exact g.nk)).mono (by omega) (by omega)
  exact ((rds_cons (p1.mono (Nat.le_refl _) (by omega : 3 ≤ 5)) (rds_cons (p2.mono (Nat.le_refl _) (by omega : 4 ≤ 5)) (rds_cons p3 rds_nil))).tuple).mono (by omega) (by omega)
end KL

/-! ## super().__init__(..) of an error over ValueError -/
namespace KL
open PySem PySem.Spec PyProof.Rows PySem.W PySem.Calls
/-- ValueError.__init__ bound to x -/
def mwV (x : Addr) : Obj := ⟨.type "method-wrapper", none, .fields #[.builtin "ValueError.__init__", .ref x], #[]⟩
theorem tyV0 : typeOf (.builtin "ValueError.__init__") = pure (.type "wrapper_descriptor") := by
  show builtinType _ = _
  rw [builtinType_eq_fast]
  kernel_rfl
theorem nacV : (kfb_private% "nameAndClass") (Value.builtin "ValueError.__init__") = (pure (("__init__" : Str), Value.type "ValueError") : Sem (Str × Value)) := by kernel_rfl
section
variable {P : Program} {w : World} {A : Around} {E : Value → Shared → Prop} {h : Heap} {g : Array GenState} {d : Drawn} {t : Nat} {os : OsState}
theorem get_mwV {x C : Addr} {R : Fin → Shared → Prop} (li : W.Looks (model P w) h (isInstance (.ref x) (.type "ValueError")) true)
    (k : R (.done (.ret (.ref h.objs.size))) ⟨h.push (mwV x), g, d, t, os⟩) :
    wpAny (model P w) A (Builtin.«wrapper_descriptor.__get__» ⟨[.builtin "ValueError.__init__", .ref x, .ref C], []⟩) R E ⟨h, g, d, t, os⟩ := by
  unfold Builtin.«wrapper_descriptor.__get__»
  refine wpAny_bind (wpAny_of_eq (a := (.builtin "ValueError.__init__", some (.ref x), some (.ref C)))
    (by first | rfl | kernel_rfl) ?_)
  show wpAny _ A ((kfb_private% "checkInstance") (.builtin "ValueError.__init__") (.ref x) >>= fun _ =>
    newFields "method-wrapper" [.builtin "ValueError.__init__", .ref x] >>= fun r => ret r) R E _
  refine wpAny_bind ?_
  show wpAny _ A ((kfb_private% "nameAndClass") (.builtin "ValueError.__init__") >>= _) _ E _
  refine wpAny_bind (wpAny_of_eq nacV ?_)
  show wpAny _ A (isInstance (.ref x) (.type "ValueError") >>= _) _ E _
  exact wpAny_bind (li.at (KFB.if_not rfl (wpAny_pure (wpAny_bind (wpAny_newObj_type (wpAny_pure k))))))
theorem ga_super {so D x C : Addr} {ms l : List Value} {K : Frag} {nm : Str} {tk : Tok} {R : Fin → Shared → Prop} (o1 : h.get? so = some (ks_superObj D x C)) (o2 : W.Looks (model P w) h (opaqueClassAbove (.ref C)) none)
    (o3 : W.Looks (model P w) h (mroOf (.ref C)) ms) (o4 : (ms.dropWhile (· != .ref D)).drop 1 = l) (kin : K.In h) (o5 : alongIn K nm l = some (some (.builtin "ValueError.__init__"))) (o6 : x ≠ C)
    (o7 : (nm == ("__class__" : Str)) = false) (o8 : W.Looks (model P w) h (isInstance (.ref x) (.type "ValueError")) true) (k : R (.done (.ret (.ref h.objs.size))) ⟨h.push (mwV x), g, d, t, os⟩) :
    wpAny (model P w) A (Builtin.«super.__getattribute__» ⟨[.ref so, .str nm tk], []⟩) R E ⟨h, g, d, t, os⟩ := by
  have sl := ESX.slot_wd.lookup
  have xc : (Value.ref x == Value.ref C) = false := by simp [o6]
  have ty : typeOf (.builtin "ValueError.__init__") = pure (.type "wrapper_descriptor") := tyV0
  have ti : Shared.TypeIs ⟨h, g, d, t, os⟩ (.builtin "ValueError.__init__") "wrapper_descriptor" := tyV0
  have hd : (ks_superObj D x C).data = .fields #[.ref D, .ref x, .ref C] := rfl
  have e0 : (#[.ref D, .ref x, .ref C] : Array Value)[0]? = some (.ref D) := rfl
  have e1 : (#[.ref D, .ref x, .ref C] : Array Value)[1]? = some (.ref x) := rfl
  have e2 : (#[.ref D, .ref x, .ref C] : Array Value)[2]? = some (.ref C) := rfl
  unfold Builtin.«super.__getattribute__»
  repeat (first
    | (with_reducible refine wpAny_field o1 hd e0 ?_)
    | (with_reducible refine wpAny_field o1 hd e1 ?_)
    | (with_reducible refine wpAny_field o1 hd e2 ?_)
    | (with_reducible refine ks_wpAny_notOpaque o2 ?_)
    | (with_reducible refine Looks.at o3 ?_; rw [o4])
    | (refine ks_forIn_along kin (fun _ _ => rfl) rfl ?_ o5)
    | (with_reducible refine wpAny_call_entry ESX.slot_wd ti ESX.entry_wd ?_ (ESX.args_wd _ _ _))
    | (with_reducible refine get_mwV o8 ?_)
    | (with_reducible refine ⟨_, rfl, ?_⟩)
    | (simp only [o7, xc, Bool.or_false, Bool.false_eq_true, if_false])
    | wp_step
    | dsimp only)
  all_goals exact k
theorem meth_super {so D x C : Addr} {ms l : List Value} {K : Frag} {nm : Str} {pl : Sem Bool} {R : Value × List Value → Shared → Prop} (o1 : h.get? so = some (ks_superObj D x C)) (o2 : W.Looks (model P w) h (opaqueClassAbove (.ref C)) none)
    (o3 : W.Looks (model P w) h (mroOf (.ref C)) ms) (o4 : (ms.dropWhile (· != .ref D)).drop 1 = l) (kin : K.In h) (o5 : alongIn K nm l = some (some (.builtin "ValueError.__init__"))) (o6 : x ≠ C)
    (o7 : (nm == ("__class__" : Str)) = false) (o8 : W.Looks (model P w) h (isInstance (.ref x) (.type "ValueError")) true) (k : R (.ref h.objs.size, []) ⟨h.push (mwV x), g, d, t + 1, os⟩) :
    wpAny (model P w) A (getMethod (.ref so) nm pl) R E ⟨h, g, d, t, os⟩ := by
  have sl := F.ks_slot_super_ga.lookup
  have ty : ∀ t', (⟨h, g, d, t', os⟩ : Shared).TypeIs (.ref so) "super" := fun _ => ⟨_, o1, rfl⟩
  unfold getMethod
  refine wpAny_bind (wpAny_specialOf (ty _) sl ?_)
  show wpAny _ _ (if (Manifest.canonical "super.__getattribute__" != "object.__getattribute__") = true then _ else _) _ _ _
  rw [if_pos F.ks_canon_super_ga]
  unfold getAttr getAttrBy
  refine wpAny_bind (wpAny_bind (wpAny_mkText (wpAny_holding (wpAny_bind (wpAny_typeOf (ty _) (wpAny_bind (wpAny_of_eq sl ?_)))))))
  show wpAny _ _ (getAttrByItsOwn (.ref so) (.str nm t) (.type "super") (.builtin "super.__getattribute__") true false) _ _ _
  unfold getAttrByItsOwn hookBefore callGetattribute boundAndCalled
  refine wpAny_bind (wpAny_of_eq (show (if onTheHeap (.type "super") then typeLookup (.type "super") "__getattr__" else pure none) = pure none from rfl) ?_)
  refine wpAny_bind (wpAny_attempt (wpAny_holding ?_))
  show wpAny _ _ (bindSpecial (.builtin "super.__getattribute__") (.ref so) >>= _) _ _ _
  refine wpAny_bind (wpAny_of_eq (F.ks_slot_super_ga.bind _) ?_)
  have main := wpAny_call_entry (Q := fun v z => v = .ref h.objs.size ∧ z = ⟨h.push (mwV x), g, d, t + 1, os⟩) (E := fun _ _ => False) (A := A) F.ks_slot_super_ga (ty _) F.ks_entry_super_ga
    (ga_super (tk := t) o1 o2 o3 o4 kin o5 o6 o7 o8 ⟨_, rfl, rfl, rfl⟩) (F.ks_gaArgs_super _ _)
  refine wpAny_mono main (fun v z hv => ?_) fun _ _ q => q.elim
  obtain ⟨rfl, rfl⟩ := hv
  exact wpAny_pure (wpAny_pure k)
end
section
variable {P : Program} {w : World} {M : Model} {A : Around} {E : Value → Shared → Prop} {s : Shared}
theorem with_mwV {pos : Pos} {u x : Addr} {env : Env} {e : Expr} {r : List Expr} {R : Value → Shared → Prop} (he : starEach (e :: r) env = (false, eval e env) :: starEach r env) (pl : (backTo pos (starEach r env)).any (·.1) = false)
    (k : wpAny M A (spliced (backTo pos (starEach (e :: r) env))) (fun vs z => z.heap.get? u = some (mwV x) ∧ wpAny M A (call (.ref u) vs) R E z) E s) :
    wpAny M A (callWith pos (.ref u) [] (backTo pos (starEach (e :: r) env)) []) R E s := by
  rw [he] at k ⊢
  have pl2 : (backTo pos ((false, eval e env) :: starEach r env)).any (·.1) = false := by
    show (false || (backTo pos (starEach r env)).any (·.1)) = false
    rw [pl]
    rfl
  have q : wpAny M A (evalArgs (.ref u) true (backTo pos ((false, eval e env) :: starEach r env)) []) (fun a z => z.heap.get? u = some (mwV x) ∧ wpAny M A (call (.ref u) a.pos a.kw) R E z) E s :=
    evalArgs_plain (Q := fun a z => z.heap.get? u = some (mwV x) ∧ wpAny M A (call (.ref u) a.pos a.kw) R E z) k
  unfold callWith
  refine wpAny_bind (wpAny_holding (wpAny_mono q (fun a z hz => wpAny_bind (wpAny_standAt ?_)) fun _ _ y => y))
  obtain ⟨ho, hc⟩ := hz
  simp only [pl2, List.any_nil, Bool.or_false]
  refine wpAny_bind (m := keeperOf (.ref u)) ?_
  unfold keeperOf
  refine wpAny_bind (wpAny_load ho ?_)
  have n1 : (Value.type "method-wrapper" != Value.type "method") = true := by decide
  have n2 : (Value.type "method-wrapper" == Value.type "builtin_function_or_method" || Value.type "method-wrapper" == Value.type "method-wrapper") = true := by decide
  simp only [mwV, n1, n2, if_true]
  refine wpAny_pure ?_
  exact wpAny_bind (wpAny_mono hc (fun v z2 hv => wpAny_bind (wpAny_holding (wpAny_point (wpAny_pure hv)))) fun _ _ y => y)
end
section
variable {P : Program} {w : World} {A : Around} {E : Value → Shared → Prop} {h : Heap} {g : Array GenState} {d : Drawn} {t : Nat} {os : OsState}
variable {nm q : Str} {C N : Addr} {bs bm : List Value} {hdct : Bool} {sn : List Str} {sub : List Value} {ab : Bool} {col : Option Bool} {dd : Option Addr} {k0 k1 k2 k3 k5 : Option Value}
theorem call_mwV {u e t0 : Addr} {us : List Value} {R : Value → Shared → Prop} (hC : h.get? C = some (excClassObj nm q C N bs bm hdct sn sub ab col dd k0 k1 k2 k3 k5 "ValueError.__new__"))
    (he : h.get? e = some (HandSPX.excO C t0)) (hu : h.get? u = some (mwV e)) (hl : us.length ≤ sizeLine)
    (k : ∀ h' t1, (∀ b o, b ≠ e → h.get? b = some o → h'.get? b = some o) → h'.get? e = some (HandSPX.excO C t1) → R .none ⟨h', g, d, t, os⟩) :
    wpAny (model P w) A (call (.ref u) us) R E ⟨h, g, d, t, os⟩ := by
  refine wpAny_call (codeAny_of_tree ?_)
  show wpAny _ A.in1 (callAny (.ref u) ⟨us, []⟩) _ _ _
  simp only [callAny]
  refine wpAny_bind (wpAny_load hu ?_)
  have n1 : (Value.type "method-wrapper" == Value.type "method" || Value.type "method-wrapper" == Value.type "builtin_function_or_method" || Value.type "method-wrapper" == Value.type "method-wrapper") = true := by decide
  simp only [mwV, n1, if_true]
  refine W.KFB.if_so (by decide) ?_
  refine wpAny_bind (ESX.check_bound F.excBase_ValueError hC he rfl ?_)
  refine wpAny_bind (wpAny_pure (wpAny_pure ?_))
  refine ⟨Code.quiet_builtin _ (by decide +kernel), codeAny_builtin F.excBase_ValueError.initEntry ?_⟩
  rw [Around.under_plainId F.excBase_ValueError.init.plain _]
  wp_walk
  refine k _ h.objs.size (fun b o nb ho => ?_) ?_
  · rw [Heap.get?_update_other _ _ (Ne.symm nb)]
    exact Heap.get?_push_of_some _ ho
  · rw [Heap.get?_update_self _ (Heap.get?_push_of_some _ he) rfl]
    rfl
end
end KL

/-! ## NotUsable's __init__ -/
namespace KL
open PySem PySem.Spec PyProof.Rows L2
def s_ini : Stmt := (C8.clsBody (topS 7)).getD 0 (.Pass ⟨0, 0, 0, 0⟩)
structure IniC (P : Program) (K : PySem.W.Frag) (C fI : Addr) (fd : FuncData) : Prop where
  oex : OexC K C
  lkI : PySem.W.findIn K (.ref C) "__init__" = some (some (.ref fI))
  tyI : PySem.W.typeIn K (.ref fI) = some (.type "function")
  obj : ∃ (oc : Value) (od : Option Addr) (dV kV doc pm : Value) (an : Option Addr) (ct : Value) (osl : Array (Option Value)) (cc cda : Addr) (ccl : Value) (cdd : Option Addr) (vs : Array Value) (ccs : Array (Option Value)) (file : Str) (tf : Tok) (cl : Value) (cld : Option Addr) (csl : Array (Option Value)),
    fd = PySem.W.ksFn "__init__" "NotUsable.__init__" (defArgs s_ini) (defBody s_ini) (defScope s_ini) dV kV doc pm an (.ref cda) ct cc ∧
    K.lookup fI = some ⟨oc, od, .func fd, osl⟩ ∧ PySem.W.codeIn K (.ref cda) "NotUsable.__init__" = true ∧
    K.lookup cda = some ⟨ccl, cdd, .fields vs, ccs⟩ ∧ vs[2]? = some (.str file tf) ∧ ((P.main.file : Str) == file) = true ∧
    K.lookup cc = some ⟨cl, cld, .cell (some (.ref C)), csl⟩
  opq : PySem.W.nsIn K cStatics "thirdparty.any" = some none
  sup : ∃ cd, PySem.W.clsIn K C = some cd ∧ PySem.W.alongIn K "__init__" ((cd.mro.dropWhile (· != .ref C)).drop 1) = some (some (.builtin "ValueError.__init__"))
  mrC : PySem.W.mroIn K C (.ref C) = some true
  mrV : PySem.W.mroIn K C (.type "ValueError") = some true
  top : (P.main.scope.names.lookup ("super" : Str)).isSome = false
  nw : PySem.W.findIn K (.ref C) "word" = some none
  na : PySem.W.findIn K (.ref C) "at" = some none
def spIni (C : Addr) : Sp := fun vs H Q _ => ∃ (a : Addr) (x y : V), vs = [.ref a, x, y] ∧ H a = some (exo a C none) ∧
  ∀ dx, H dx = none → dx ≠ a → Q .non (upd (upd (upd H dx (exd dx [("word", x)])) a (exo a C (some dx))) dx (exd dx [("at", y), ("word", x)]))
section
variable {P : Program} {w : World} {K : PySem.W.Frag} {mg : Str → Option Value} {base : Heap}
theorem scini : NdefX.NScope ["self", "word", "at", "__class__"] ["self", "word", "at"] ["__class__"] (defScope s_ini) := NdefX.nscope_by (by decide +kernel)
theorem ok_ini {C fI : Addr} {fd : FuncData} (F : IniC P K C fI fd) (hsup : mg "super" = none) : FnOk P w K mg base CX0 1 fI fd ["self", "word", "at"] (spIni C) := by
  refine ⟨fun vs H Q E ⟨_, _, _, e, _⟩ => by rw [e]; rfl, fun A outer s H args us vs Q E hr e0 hb r hsp => ?_⟩
  obtain ⟨oc, od, dV, kV, doc, pm, an, ct, osl, cc, cda, ccl, cdd, fs, ccs, file, tf, cl, cld, csl, rfl, lk, hcd, lcd, hfs, hfile, lcc⟩ := F.obj
  obtain ⟨a, x, y, rfl, ha, q⟩ := hsp
  have kin : K.In s.heap := e0.mod.kin.keeps fun b o e => (e0.bs b o e).1
  have lim : s.heap.NoLimit := e0.mod.nolimit.keeps fun b o e => (e0.bs b o e).1
  have bcc := e0.bs cc _ (e0.mod.kin _ _ lcc)
  have lk0 : ∀ (z : Str) (c : Addr), ([(("__class__" : Str), cc)] : List (Str × Addr)).lookup z = some c → z = "__class__" ∧ c = cc := fun z c e => by
    by_cases h : z = "__class__"
    · subst h
      simp [List.lookup] at e
      exact ⟨rfl, e.symm⟩
    · have h' : (z == ("__class__" : Str)) = false := by simpa using h
      simp [List.lookup, h'] at e
  have cells : NdefX.CellsAt [("__class__", cc)] ["__class__"] [none] s.heap H := by
    refine ⟨rfl, fun z c e => ?_, fun u v c e1 e2 => ?_, fun i z e => ?_⟩
    · obtain ⟨_, rfl⟩ := lk0 z c e
      exact ⟨bcc.2, _, _, bcc.1, rfl⟩
    · rw [(lk0 u c e1).1, (lk0 v c e2).1]
    · cases i with
      | zero =>
        obtain rfl : ("__class__" : Str) = z := Option.some.inj e
        exact ⟨cc, by simp [List.lookup], fun v e => by cases e⟩
      | succ i => cases e
  obtain ⟨nm, qn, Nn, bs, bm, sn, sub, ab, col, dd, k0, k1, k2, k3, k5, hC, hbm⟩ := F.oex.cls
  obtain ⟨u0, us1, rfl⟩ : ∃ u0 us1, us = u0 :: us1 := by
    cases r with
    | cons r1 r2 => exact ⟨_, _, rfl⟩
  have hu0 : u0 = Value.ref a := by
    cases r with
    | cons r1 r2 => exact r1
  subst hu0
  refine ks_codeAny_call_defAt (body := defBody s_ini) (binds := (["self", "word", "at"] : List Str).zip (Value.ref a :: us1)) hr.depth (kin _ _ lk) rfl lim (PySem.W.codeRec_of kin hcd) rfl hb scini.nocell (fun z hz => ?_) (fun h₁ hns kp => ?_) scini.co scini.gen scini.kind
  · obtain ⟨z1, z2⟩ := z
    exact scini.par _ (List.of_mem_zip hz).1
  have I := NdefX.inv_startN (CX := CX0) (P := P) (w := w) (E := E) (F := ⟨"__init__", "NotUsable.__init__", defArgs s_ini, defBody s_ini, defScope s_ini, [("__class__", cc)], cda⟩) (f := fI) (tk := s.toks + ((["self", "word", "at"] : List Str).zip (Value.ref a :: us1)).length) scini hr.hd e0 rfl r cells hns kp
  have lcl : PySem.W.clsIn K C = some { name := nm, bases := bs, mro := .ref C :: bm, ns := Nn, qualname := qn, hasDict := true, slotNames := sn, subclasses := sub, abstract := ab, collection := col, hasDel := false } := by unfold PySem.W.clsIn; rw [hC] <;> rfl
  refine ks_wpAt_execs_cons (ks_wpAt_Expr_any (ks_wpAt_MethodCall (ks_wpAt_super_base rfl rfl (by decide) rfl (I.kIn _ _ lk) rfl rfl rfl (I.kIn _ _ lcd) rfl hfs hfile F.top ?_)))
  refine PySem.W.ks_loadName_global rfl rfl ?_
  obtain ⟨mb, b1, b2⟩ := I.mod.blt
  refine Calls.loadGlobal_builtin (I.mod.glob.keeps I.bk) hsup (b1.keeps I.bk) ((b2 "super" (by decide)).trans (show bootBuiltins "super" = some (.type "super") by rfl)) ⟨rfl, ?_⟩
  refine wpAny_loadName_free rfl rfl rfl ⟨_, I.kIn _ _ lcc, rfl⟩ ?_
  refine wpAny_loadName_local rfl rfl hns (show _ = some (Value.ref a) from NdefX.zip_look (i := 0) (by decide) rfl rfl) ?_
  obtain ⟨t1, hx⟩ := exo_at I.hok ha
  refine ks_wpAny_isType_cls (I.kIn _ _ hC) rfl ⟨rfl, ?_⟩
  have inst : PySem.W.InstAt h₁ a { cls := .ref C, data := .fields #[.ref t1, .none, .none, .none, .bool false, .none] } C none := ⟨hx, rfl, rfl, trivial⟩
  refine ks_wpAny_call_super (I.kIn _ _ hC) rfl hx rfl (fun c z => by cases z) (PySem.W.looks_mroIn I.kIn F.mrC) fun h2 o2 kp2 => ?_
  have I2 := I.kept (t' := s.toks + ((["self", "word", "at"] : List Str).zip (Value.ref a :: us1)).length) kp2
  have lv : PySem.W.Looks (model P w) h2 (isInstance (.ref a) (.type "ValueError")) true := (PySem.W.InstAt.type (M := model P w) (⟨kp2 _ _ hx, rfl, rfl, trivial⟩ : PySem.W.InstAt h2 a _ C none)).andThen (PySem.W.looks_mroIn I2.kIn F.mrV)
  obtain ⟨cd0, lcl0, al⟩ := F.sup
  rw [lcl] at lcl0
  obtain rfl := Option.some.inj lcl0
  have naC : a ≠ C := fun z => by
    have e := e0.bs C _ (e0.mod.kin _ _ hC)
    rw [z, e.2] at ha
    cases ha
  refine meth_super o2 (PySem.W.looks_opaque I2.kIn F.opq) ((PySem.W.looks_clsIn I2.kIn lcl).andThen .now) rfl I2.kIn al naC (by decide) lv ?_
  have I3 := I2.kept (h' := h2.push (mwV a)) (t' := s.toks + ((["self", "word", "at"] : List Str).zip (Value.ref a :: us1)).length + 1) (fun b o e => Heap.get?_push_of_some _ e)
  have hu : (h2.push (mwV a)).get? h2.objs.size = some (mwV a) := Heap.get?_push_at rfl rfl
  have hun : H h2.objs.size = none := I2.hok.fresh (Nat.le_refl _)
  have I3p := I3.pins_of (pins' := [(h2.objs.size, mwV a)]) (fun p hp => by
    obtain rfl := List.mem_singleton.mp hp
    exact ⟨hu, hun, fun z => by
      have l := I2.lt
      exact Nat.lt_irrefl _ (Nat.lt_of_lt_of_le (show _ < h2.objs.size from l) (Nat.le_of_eq z)), fun z => I2.nofs (Nat.le_refl _) z, fun v z => by cases z⟩)
  have wargs := pa_cons (X := NdefX.ncx CX0 P w K mg base ["self", "word", "at", "__class__"] ⟨"__init__", "NotUsable.__init__", defArgs s_ini, defBody s_ini, defScope s_ini, [("__class__", cc)], cda⟩ fI A outer s H E) (e := .Name "word" ⟨21, 25, 21, 29⟩) (pe_var (i := 1) rfl (.inl rfl)) (pa_cons (e := .Name "at" ⟨21, 31, 21, 33⟩) (pe_var (i := 2) rfl (.inl rfl)) pa_nil)
  refine with_mwV (x := a) rfl rfl (thn (wargs.run ⟨21, 8, 21, 34⟩ _ _ _ H (fun vs H1 => vs = [x, y] ∧ H1 = H) I3p ⟨x, rfl, y, rfl, rfl, rfl⟩) fun vs4 s4 h4 => ?_)
  obtain ⟨ws, H4, I4, r4, rfl, rfl⟩ := h4
  refine ⟨(I4.pin _ (List.mem_append_right _ List.mem_cons_self)).1, ?_⟩
  obtain ⟨t4, hx4⟩ := exo_at I4.hok ha
  have hu4 := (I4.pin _ (List.mem_append_right _ List.mem_cons_self)).1
  have hl4 : vs4.length ≤ sizeLine := by
    rw [← r4.length, sizeLine_eq]
    show 2 ≤ _
    omega
  obtain ⟨h4, g4, d4, tk4, os4⟩ := s4
  refine call_mwV (I4.kIn _ _ hC) hx4 hu4 hl4 fun h5 t5 kp5 hx5 => ?_
  have J := I4.write (t' := tk4) (x := a) (e := a) (o := exo a C none) (by rw [ha]; exact True.intro) (.inl rfl) kp5 ⟨_, hx5⟩ (exo_ok hx5)
  have eu : upd H4 a (exo a C none) = H4 := by
    funext b
    by_cases hb : b = a
    · rw [hb, upd_same, ha]
    · rw [upd_ne hb]
  rw [eu] at J
  have J1 := J.unpinned (pins := [])
  have rest : PSs (NdefX.ncx CX0 P w K mg base ["self", "word", "at", "__class__"] ⟨"__init__", "NotUsable.__init__", defArgs s_ini, defBody s_ini, defScope s_ini, [("__class__", cc)], cda⟩ fI A outer s H4 E) (defBody s_ini).tail (tSeq (tOst K "word" (tVar 0) (tVar 1)) (tOst K "at" (tVar 0) (tVar 2))) :=
    pss_cons (ps_ost (pe_var (i := 0) rfl (.inl rfl)) (pe_var (i := 1) rfl (.inl rfl))) (pss_one (ps_ost (pe_var (i := 0) rfl (.inl rfl)) (pe_var (i := 2) rfl (.inl rfl))))
  have go := rest.run [] _ _ H4 { nx := fun _ H' => Q .non H', rt := Q } J1 ⟨x, rfl, .ref a, rfl, a, C, rfl, F.oex, F.nw, .inl ⟨ha, fun dx n ne => ⟨y, rfl, .ref a, rfl, a, C, rfl, F.oex, F.na, .inr ⟨dx, [("word", x)], upd_same, by rw [upd_ne ne]; exact upd_same, by show 1 ≤ 900; omega, q dx n ne⟩⟩⟩⟩
  refine wpAt_of_wpAny (wpAny_mono go (fun fl s6 h6 => ?_) fun _ _ z => z)
  cases fl with
  | next =>
    obtain ⟨σ6, H6, I6, q6⟩ := h6
    exact ⟨.non, H6, I6.os, I6.bare, I6.base, I6.hok, rfl, q6⟩
  | ret u =>
    obtain ⟨v6, σ6, H6, I6, r6, q6⟩ := h6
    exact ⟨v6, H6, I6.os, I6.bare, I6.base, I6.hok, r6, q6⟩
  | brk =>
    obtain ⟨σ6, H6, I6, q6⟩ := h6
    exact False.elim q6
  | cont =>
    obtain ⟨σ6, H6, I6, q6⟩ := h6
    exact False.elim q6
end
end KL

/-! ## want, netted -/
namespace KL
open PySem PySem.Spec PyProof.Rows L2
structure ErrT (P : Program) (K : PySem.W.Frag) (mg : Str → Option Value) (C : Addr) : Prop where
  ini : ∃ fI fd, IniC P K C fI fd ∧ Binds K fd ["self", "word", "at"] []
  nm : mg "NotUsable" = some (.ref C)
def errFs (w : Str) : List (Str × V) := [("at", .int (-1)), ("word", .str w)]
def spWant (C : Addr) : Sp := fun vs H Q E => ∃ (b : Bool) (w : Str), vs = [.bl b, .str w] ∧ (b = true → ∀ H', Same H H' → Q .non H') ∧ (b = false → ∀ d H', Same H H' → H' d = some (.xd (errFs w)) → E (.ref C) (some d) H')
def spWS (C : Addr) : Sp := fun vs H Q E => ∃ S x vS vX, vs = [vS, vX] ∧ ShopSz S ∧ smD x = true ∧ DD H (encS S) vS ∧ DD H x vX ∧ (isRowD S x = true → ∀ H', Same H H' → Q .non H') ∧
  (isRowD S x = false → ∀ d H', Same H H' → H' d = some (.xd (errFs "sales")) → E (.ref C) (some d) H')
def spNX (C : Addr) : Sp := fun vs H Q E => ∃ S x vS vX, vs = [vS, vX] ∧ ShopOk S ∧ smD x = true ∧ DD H (encS S) vS ∧ DD H x vX ∧
  (isRowD S x = true → ∃ r : AL, x = .tuple (r.map encP) ∧ (keysA r).Nodup ∧ r.length ≤ 1000 ∧ ∀ v H', Same H H' → DD H' (toldD S (netP S r)) v → Q v H') ∧
  (isRowD S x = false → ∀ d H', Same H H' → H' d = some (.xd (errFs "sales")) → E (.ref C) (some d) H')
theorem scwant : FnScope ["is_right", "word"] ["is_right", "word"] (defScope s_want) := ⟨rfl, rfl, rfl, by decide +kernel, rfl, by decide +kernel, by decide +kernel⟩
theorem scwant_sales : FnScope ["shop", "sales"] ["shop", "sales"] (defScope s_want_sales) := ⟨rfl, rfl, rfl, by decide +kernel, rfl, by decide +kernel, by decide +kernel⟩
theorem scnetted : FnScope ["shop", "sales"] ["shop", "sales"] (defScope s_netted) := ⟨rfl, rfl, rfl, by decide +kernel, rfl, by decide +kernel, by decide +kernel⟩
theorem ed_neg {σ : L2.St} {H : Hp} {i : Int} : ED (tUn (rU fun i => .int (-i)) (tC (.int i))) σ H (.int (-i)) := fun H1 _ Q q => ⟨i, rfl, q _ H1 (L2.Same.refl _) dd_int⟩
section
variable {P : Program} {w : World} {K : PySem.W.Frag} {mg : Str → Option Value} {base : Heap} {C : Addr}
theorem d_want (T : Txt K mg) (N : ErrT P K mg C) : Def P w K mg base (L2.CX P w) 3 "want" (spWant C) := by
  obtain ⟨fI, fd, I, hbi⟩ := N.ini
  refine mk_defX T.a_want scwant (fun _ _ _ _ _ _ us hl => match us, hl with | [_, _], _ => rfl) (fun vs H Q E ⟨_, _, e, _⟩ => by rw [e]; rfl) fun f cdv A outer s H vs Q E hr h => ?_
  obtain ⟨b, wd, rfl, h1, h2⟩ := h
  refine ⟨_, (pss_one (ps_if (pt_not (pt_val (pv 0))) (pss_one (ps_raise rfl (takes_of rfl rfl rfl rfl) (pmk_oex I.oex I.lkI I.tyI (ok_ini I T.n_super) hr hbi .nil pass0 (by rfl) N.nm (pa_cons (pv 1) (pa_cons (pe_un un_neg pe_int) pa_nil))))) pss_nil)), ?_⟩
  refine s_ifD (b := !b) (et_not (et_B (ed_var (i := 0) rfl dd_bl))) (fun e H1 s1 => ?_) fun e H1 s1 => ?_
  · refine ⟨.str wd, rfl, 1, rfl, ?_⟩
    refine ⟨by show 2 ≤ 1000; omega, fun a na => ⟨a, .str wd, .int (-1), rfl, upd_same, fun dx nx ne => ⟨rfl, dx, _, ?_, upd_same, ?_, ?_⟩⟩⟩
    · rw [upd_ne (Ne.symm ne)]
      exact upd_same
    · rw [upd_ne ne] at nx
      exact nx
    · have nx1 : H1 dx = none := by rw [upd_ne ne] at nx; exact nx
      refine h2 (by rw [Bool.not_eq_true'] at e; exact e) dx _ (fun z u hz => ?_) upd_same
      have hz1 := s1 _ _ hz
      have z1 : z ≠ dx := ne_of_none hz1 nx1
      have z2 : z ≠ a := ne_of_none hz1 na
      rw [upd_ne z1, del_ne z2, upd_ne z1, upd_ne z2, upd_ne z1, upd_ne z2]
      exact hz1
  · unfold tNext
    exact h1 (by rw [Bool.not_eq_false'] at e; exact e) H1 s1
theorem d_want_sales (T : Txt K mg) (N : ErrT P K mg C) : Def P w K mg base (L2.CX P w) 5 "want_sales" (spWS C) := by
  refine mk_defX T.a_want_sales scwant_sales (fun _ _ _ _ _ _ us hl => match us, hl with | [_, _], _ => rfl) (fun vs H Q E ⟨_, _, _, _, e, _⟩ => by rw [e]; rfl) fun f cdv A outer s H vs Q E hr h => ?_
  obtain ⟨S, x, vS, vX, rfl, sz, hz, hS, hX, h1, h2⟩ := h
  refine ⟨_, (pss_one (ps_expr (pe_d (d_want T N) hr (by decide) (by rfl) (passes_call (takes_of rfl rfl rfl rfl) fun _ _ _ _ h => h) (pa_cons (pe_d (d_is_row T) hr (by decide) (by rfl) pass0 (pa_cons (pv 0) (pa_cons (pv 1) pa_nil))) (pa_cons pe_str pa_nil))))), ?_⟩
  refine ed_call (d := .bool (isRowD S x)) (σ := start ["shop", "sales"] [vS, vX]) (ea_cons (ed_var (i := 0) rfl hS) (ea_cons (ed_var (i := 1) rfl hX) ea_nil)) ⟨S, x, rfl, sz, hz, rfl⟩ H (L2.Same.refl _) _ fun v H1 s1 hv => ?_
  obtain rfl := hv.bl_eq
  exact ⟨isRowD S x, "sales", rfl, fun e H' s' => h1 e H' (s1.trans s'), fun e d H' s' hd => h2 e d H' (s1.trans s') hd⟩
/-- netted, its keywords too -/
structure DefN (P : Program) (w : World) (K : PySem.W.Frag) (mg : Str → Option Value) (base : Heap) (k : Nat) (sp : Sp) : Prop where
  ex : ∃ (f : Addr) (fd : FuncData), FnOk P w K mg base (L2.CX P w) k f fd ["shop", "sales"] sp ∧ mg "netted" = some (.ref f) ∧ PySem.W.keepIn K (.ref f) = true ∧ Binds K fd ["shop", "sales"] [] ∧
    KBn K fd ["shop", "sales"] 0 ["sales", "shop"] (fun _ ws => [ws.getD 1 .none, ws.getD 0 .none]) (fun _ zs => [zs.getD 1 .non, zs.getD 0 .non])
theorem DefN.d {k : Nat} {sp : Sp} (h : DefN P w K mg base k sp) : Def P w K mg base (L2.CX P w) k "netted" sp := by
  obtain ⟨f, fd, F, m, kp, b, _⟩ := h.ex
  exact ⟨f, fd, _, F, m, kp, b⟩
theorem d_netted (T : Txt K mg) (N : ErrT P K mg C) : DefN P w K mg base 6 (spNX C) := by
  obtain ⟨f, fd, FF, hm⟩ := T.a_netted.ex
  refine ⟨f, fd, FF.okX scnetted (fun vs H Q E ⟨_, _, _, _, e, _⟩ => by rw [e]; rfl) (fun cdv A outer s H vs Q E hr h => ?_), hm, FF.kp, FF.binds (fun _ _ _ _ _ _ us hl => match us, hl with | [_, _], _ => rfl), ?_⟩
  · obtain ⟨S, x, vS, vX, rfl, ok, hz, hS, hX, h1, h2⟩ := h
    refine ⟨_, (pss_cons (ps_expr (pe_d (d_want_sales T N) hr (by decide) (by rfl) (passes_call (takes_of rfl rfl rfl rfl) fun _ _ _ _ h => h) (pa_cons (pv 0) (pa_cons (pv 1) pa_nil))))
      (pss_one (ps_ret (pe_d (d_net_told T) hr (by decide) (by rfl) pass0 (pa_cons (pv 0) (pa_cons (pe_d (d_numbers_by T) hr (by decide) (by rfl) pass0 (pa_cons (pv 1) pa_nil)) pa_nil)))))), ?_⟩
    refine sq ?_
    refine ⟨vS, rfl, vX, rfl, S, x, vS, vX, rfl, ok.sz, hz, hS, hX, fun e H1 s1 => ?_, h2⟩
    obtain ⟨r, rfl, nd, hl, q⟩ := h1 e
    have hS1 := DD.same s1 _ _ hS
    have hX1 := DD.same s1 _ _ hX
    dsimp only
    refine ⟨vS, rfl, ?_⟩
    refine dic_call (σ := start ["shop", "sales"] [vS, vX]) (ea_cons (ed_var (i := 1) rfl hX1) ea_nil) ⟨r, rfl, rfl, nd, hl⟩ H1 (L2.Same.refl _) _ fun pn H2 kvs s2 n2 hpn hk => ?_
    obtain rfl := hk.ints
    exact ⟨S, r, vS, pn, rfl, ok, DD.same s2 _ _ hS1, hpn, fun v H3 s3 hv => q v H3 ((s1.trans s2).trans s3) hv⟩
  · obtain ⟨oc, od, kV, doc, pm, an, cdv, ct, osl, rfl, lk, hcd⟩ := FF.ex
    refine ⟨fun s us ws _ l1 l2 => ?_, fun {vs us zs ws} r rz => ?_⟩
    · match us, ws, l1, l2 with
      | [], [w0, w1], _, _ => exact BindsTo.of_eq rfl
    · have l := rz.length
      cases rz with
      | nil => exact .cons rfl (.cons rfl .nil)
      | cons h1 h2 =>
        cases h2 with
        | nil => exact .cons rfl (.cons h1 .nil)
        | cons h3 h4 => exact .cons h3 (.cons h1 .nil)
end
section
variable {X : Cx} {CX : CXT} {k : Nat} {f : Addr} {fd : FuncData} {ps ks : List Str} {sp : Sp} {E : XK} {x : Str} {p pos : Pos} {kws : List Keyword} {tk : TA} {g : List Value → List Value → List Value} {gV : List V → List V → List V}
/-- f(k = v, ..): keywords alone -/
theorem pe_callK0 (Fn : FnOk X.prog X.w X.K X.mg X.base CX k f fd ps sp) (hr : Room k X.A) (hg : Gl X x) (hm : X.mg x = some (.ref f)) (hk : PySem.W.keepIn X.K (.ref f) = true) (hb : KBn X.K fd ps 0 ks g gV) (hx : Passes CX X E) (hkw : PK X kws tk)
    (o1 : (backToKw pos (keywordEach kws X.env)).all (·.1.isSome) = true := by rfl) (o2 : (backToKw pos (keywordEach kws X.env)).filterMap (·.1) = ks := by rfl) (o3 : (x == ("__debug__" : Str)) = false := by decide)
    (o4 : ((backTo pos (starEach [] X.env)).any (·.1) || (backToKw pos (keywordEach kws X.env)).any (·.1.isNone)) = false := by rfl) :
    PE X (.Call (.Name x p) [] kws pos) (fun σ H Q => tk σ H fun zs H2 => zs.length = ks.length ∧ sp (gV [] zs) H2 Q E) := by
  refine ⟨fun pins s σ H Q I h => ?_⟩
  refine wpAny_Call_Name_kw (ld_glob I hg hm ?_ o3)
  refine PySem.W.callWith_KW0 (h₀ := X.base) I.ok.mod.kin hk o1 ?_ o4
  refine thn (hkw.run pos pins s σ H _ I h) fun ws s2 hq => ?_
  obtain ⟨zs, H2, I2, rz, l2, q2⟩ := hq
  refine ⟨I2.kIn, ?_⟩
  rw [o2]
  exact run_fnN (us := []) (vs := []) Fn hr hb hx I2 .nil rz rfl l2 q2
end
end KL

/-! ## the odd rows -/
namespace KL
open PySem PySem.Spec PyProof.Rows L2
def odd1 (a : Str) (wish : AL) : List PyData := [.none, .int 0, .bool true, .str a, .list [], .list (wish.map encP), .tuple [.tuple [.str a, .int 0]], .tuple [.tuple [.str a, .int (-1)]], .tuple [.tuple [.str a, .bool true]], .tuple [.tuple [.str a, .none]], .tuple [.tuple [.str a, .str "1"]], .tuple [.tuple [.str a]]]
def odd2 (a : Str) : List PyData := [.tuple [.tuple [.str a, .int 1, .int 1]], .tuple [.list [.str a, .int 1]], .tuple [.str a, .int 1], .tuple [.tuple [.str "nobody", .int 1]], .tuple [.tuple [.str a, .int 1], .tuple [.str a, .int 1]], .tuple [.tuple [.str "", .int 1]], .tuple [.tuple [.str (Txt.upper a), .int 1]]]
def odd3 (a : Str) (wish : AL) : List PyData := [.tuple [.tuple [.none, .int 1]], .tuple [.tuple [.tuple [.str a, .int 1]]], .tuple [.tuple [.str a, .tuple [.int 1]]], .tuple (wish.map encP ++ [.tuple [.str "zzzzzzzzz", .int 1]]), .tuple [.none]]
def odd4 (a b : Str) : List PyData := [.tuple [.tuple [.str b, .int 1], .tuple [.str a, .int 1]], .tuple [.tuple [.str a, .int 1], .tuple [.str b, .int 0]]]
def odd5 (S : Shop) : List PyData := (cNames S).map fun c => .tuple [.tuple [.str c, .int 1]]
def oddD (S : Shop) (wish : AL) : List PyData := match srtS (pNames S ++ kNames S) with
  | [] => []
  | [a] => ((odd1 a wish ++ odd2 a) ++ odd3 a wish) ++ odd5 S
  | a :: b :: _ => (((odd1 a wish ++ odd2 a) ++ odd3 a wish) ++ odd4 a b) ++ odd5 S
theorem sc_law_odd_rows : FnScope ["_law_store", "_law_wish", "_law_items", "_law_a", "_law_some", "_law_one"] ["_law_store", "_law_wish"] (defScope s__law_odd_rows) := ⟨rfl, rfl, rfl, by decide +kernel, rfl, by decide +kernel, by decide +kernel⟩
section
variable {K : PySem.W.Frag} {σ : L2.St} {H : Hp} {te : TE} {x : Str}
theorem ed_upper (h : ED te σ H (.str x)) (hl : x.length ≤ 1000) : ED (tM0 (fun x xs H Q => ∃ a, x = .str a ∧ xs = [] ∧ a.length ≤ 5592405 ∧ Q (.str (Txt.upper a)) H) te) σ H (.str (Txt.upper x)) := fun H1 m Q q =>
  h H1 m _ fun v H2 s2 h2 => ⟨⟨x, h2.str_eq⟩, x, h2.str_eq, rfl, by omega, q _ H2 s2 dd_str⟩
end
section
variable {P : Program} {w : World} {K : PySem.W.Frag} {mg : Str → Option Value} {base : Heap}
theorem d__law_odd_rows (T : Txt K mg) : Def P w K mg base CX0 2 "_law_odd_rows" (spD fun ds d => ∃ S wish, ds = [encS S, .tuple (wish.map encP)] ∧ ShopSz S ∧ S.parts ≠ [] ∧ (∀ n ∈ pNames S ++ kNames S, n.length ≤ 1000) ∧ wish.length ≤ 50 ∧ d = .list (oddD S wish)) := by
  refine mk_pure T.a__law_odd_rows sc_law_odd_rows (fun _ _ _ _ _ _ us hl => match us, hl with | [_, _], _ => rfl) (fun ds d ⟨_, _, e, _⟩ => by rw [e]; rfl) fun f cdv A outer s H vs ds d E hr r hv => ?_
  obtain ⟨S, wish, rfl, sz, ne, hlen, hwl, rfl⟩ := r
  obtain ⟨vS, vW, rfl, hS, hW⟩ := hv.two
  refine ⟨_, (pss_cons (ps_set (i := 2) sc_law_odd_rows.nd rfl (Or.inl rfl) (pe_d (d__law_articles T) hr (by decide) (by rfl) pass0 (pa_cons (pv 0) pa_nil)))
      (pss_cons (ps_set (i := 3) sc_law_odd_rows.nd rfl (Or.inl rfl) (pe_ix ix_list (pv 2) pe_int (fun _ _ => rfl)))
      (pss_cons (ps_set (i := 4) sc_law_odd_rows.nd rfl (Or.inl rfl) (pe_lst (pa_cons pe_non (pa_cons pe_int (pa_cons pe_bl (pa_cons (pv 3) (pa_cons (pe_lst pa_nil) (pa_cons (pe_callTy call_list_of (by rfl) T.n_list (by decide +kernel) (pa_cons (pv 1) pa_nil)) (pa_cons (pe_tup (pa_cons (pe_tup (pa_cons (pv 3) (pa_cons pe_int pa_nil))) pa_nil)) (pa_cons (pe_tup (pa_cons (pe_tup (pa_cons (pv 3) (pa_cons (pe_un un_neg pe_int) pa_nil))) pa_nil)) (pa_cons (pe_tup (pa_cons (pe_tup (pa_cons (pv 3) (pa_cons pe_bl pa_nil))) pa_nil)) (pa_cons (pe_tup (pa_cons (pe_tup (pa_cons (pv 3) (pa_cons pe_non pa_nil))) pa_nil)) (pa_cons (pe_tup (pa_cons (pe_tup (pa_cons (pv 3) (pa_cons pe_str pa_nil))) pa_nil)) (pa_cons (pe_tup (pa_cons (pe_tup (pa_cons (pv 3) pa_nil)) pa_nil)) pa_nil))))))))))))))
      (pss_cons (ps_set (i := 4) sc_law_odd_rows.nd rfl (Or.inl rfl) (pe_op op_cat (pv 4) (pe_lst (pa_cons (pe_tup (pa_cons (pe_tup (pa_cons (pv 3) (pa_cons pe_int (pa_cons pe_int pa_nil)))) pa_nil)) (pa_cons (pe_tup (pa_cons (pe_lst (pa_cons (pv 3) (pa_cons pe_int pa_nil))) pa_nil)) (pa_cons (pe_tup (pa_cons (pv 3) (pa_cons pe_int pa_nil))) (pa_cons (pe_tup (pa_cons (pe_tup (pa_cons pe_str (pa_cons pe_int pa_nil))) pa_nil)) (pa_cons (pe_tup (pa_cons (pe_tup (pa_cons (pv 3) (pa_cons pe_int pa_nil))) (pa_cons (pe_tup (pa_cons (pv 3) (pa_cons pe_int pa_nil))) pa_nil))) (pa_cons (pe_tup (pa_cons (pe_tup (pa_cons pe_str (pa_cons pe_int pa_nil))) pa_nil)) (pa_cons (pe_tup (pa_cons (pe_tup (pa_cons (pe_upper (pv 3)) (pa_cons pe_int pa_nil))) pa_nil)) pa_nil))))))))))
      (pss_cons (ps_set (i := 4) sc_law_odd_rows.nd rfl (Or.inl rfl) (pe_op op_cat (pv 4) (pe_lst (pa_cons (pe_tup (pa_cons (pe_tup (pa_cons pe_non (pa_cons pe_int pa_nil))) pa_nil)) (pa_cons (pe_tup (pa_cons (pe_tup (pa_cons (pe_tup (pa_cons (pv 3) (pa_cons pe_int pa_nil))) pa_nil)) pa_nil)) (pa_cons (pe_tup (pa_cons (pe_tup (pa_cons (pv 3) (pa_cons (pe_tup (pa_cons pe_int pa_nil)) pa_nil))) pa_nil)) (pa_cons (pe_op op_catA (pv 1) (pe_tup (pa_cons (pe_tup (pa_cons pe_str (pa_cons pe_int pa_nil))) pa_nil))) (pa_cons (pe_tup (pa_cons pe_non pa_nil)) pa_nil))))))))
      (pss_cons (ps_if (pt_cmpR op_gt (pe_callB call_len_seq (by rfl) T.n_len (by decide +kernel) (pa_cons (pv 2) pa_nil)) pe_int (nomark _)) (pss_one (ps_set (i := 4) sc_law_odd_rows.nd rfl (Or.inl rfl) (pe_op op_cat (pv 4) (pe_lst (pa_cons (pe_tup (pa_cons (pe_tup (pa_cons (pe_ix ix_list (pv 2) pe_int (fun _ _ => rfl)) (pa_cons pe_int pa_nil))) (pa_cons (pe_tup (pa_cons (pv 3) (pa_cons pe_int pa_nil))) pa_nil))) (pa_cons (pe_tup (pa_cons (pe_tup (pa_cons (pv 3) (pa_cons pe_int pa_nil))) (pa_cons (pe_tup (pa_cons (pe_ix ix_list (pv 2) pe_int (fun _ _ => rfl)) (pa_cons pe_int pa_nil))) pa_nil))) pa_nil)))))) pss_nil)
      (pss_one (ps_ret (pe_op op_cat (pv 4) (pe_lc rfl sc_law_odd_rows.nd (pi_tup (pe_ix ix_tup (pv 0) pe_int (fun _ _ => rfl))) (blkOk_by (own := [("_law_one", 5)]) (N := ["_law_store", "_law_wish", "_law_items", "_law_a", "_law_some", "_law_one"]) (sc := defScope s__law_odd_rows) (by decide +kernel)) (fun _ _ _ _ _ => (pg_name (i := 5) sc_law_odd_rows.nd rfl (Or.inl rfl) (hf := Or.inr rfl))) (fun _ _ _ _ _ => pts_nil) (fun _ _ _ _ _ => (pe_tup (pa_cons (pe_tup (pa_cons (pe_ix (r := rIxT K) ix_tup (pv 5) pe_int (fun _ _ => rfl)) (pa_cons pe_int pa_nil))) pa_nil))))))))))))), fun Q q => ?_⟩
  refine sq ?_
  have hne : srtS (pNames S ++ kNames S) ≠ [] := fun z => by
    have l := srtS_len (pNames S ++ kNames S)
    rw [z] at l
    unfold pNames at l
    rw [List.length_append, List.length_map] at l
    simp at l
    exact ne (List.eq_nil_of_length_eq_zero (by omega))
  have hmem : ∀ n ∈ srtS (pNames S ++ kNames S), n.length ≤ 1000 := fun n hn => hlen n (srtS_mem.mp hn)
  refine s_setD (d := .list ((srtS (pNames S ++ kNames S)).map PyData.str)) (ed_call (ea_cons (ed_var (i := 0) rfl hS) ea_nil) ⟨S, rfl, sz, rfl⟩) fun vN H1 s1 hN => ?_
  unfold oddD at q
  generalize srtS (pNames S ++ kNames S) = N at hN hne hmem q
  obtain ⟨a, r, rfl⟩ : ∃ a r, N = a :: r := by
    cases N with
    | nil => exact absurd rfl hne
    | cons a r => exact ⟨a, r, rfl⟩
  have hal := hmem a List.mem_cons_self
  have hW1 := DD.same s1 _ _ hW
  have hS1 := DD.same s1 _ _ hS
  dsimp only
  refine sq ?_
  refine s_setD (d := .str a) (ed_ixL (j := 0) (ed_var (i := 2) rfl hN) rfl) fun va H2 s2 ha => ?_
  obtain rfl := ha.str_eq
  have hW2 := DD.same s2 _ _ hW1
  have hS2 := DD.same s2 _ _ hS1
  have hN2 := DD.same s2 _ _ hN
  dsimp only
  refine sq ?_
  refine s_setD (d := .list (odd1 a wish)) (ed_lst (ea_cons ed_non (ea_cons ed_int (ea_cons ed_bl (ea_cons (ed_var (i := 3) rfl dd_str) (ea_cons (ed_lst ea_nil (by decide)) (ea_cons (ed_listT (ed_var (i := 1) rfl hW2)) (ea_cons (ed_tup (ea_cons (ed_tup (ea_cons (ed_var (i := 3) rfl dd_str) (ea_cons ed_int ea_nil)) (by show 2 ≤ 1000; omega)) ea_nil) (by show 1 ≤ 1000; omega)) (ea_cons (ed_tup (ea_cons (ed_tup (ea_cons (ed_var (i := 3) rfl dd_str) (ea_cons ed_neg ea_nil)) (by show 2 ≤ 1000; omega)) ea_nil) (by show 1 ≤ 1000; omega)) (ea_cons (ed_tup (ea_cons (ed_tup (ea_cons (ed_var (i := 3) rfl dd_str) (ea_cons ed_bl ea_nil)) (by show 2 ≤ 1000; omega)) ea_nil) (by show 1 ≤ 1000; omega)) (ea_cons (ed_tup (ea_cons (ed_tup (ea_cons (ed_var (i := 3) rfl dd_str) (ea_cons ed_non ea_nil)) (by show 2 ≤ 1000; omega)) ea_nil) (by show 1 ≤ 1000; omega)) (ea_cons (ed_tup (ea_cons (ed_tup (ea_cons (ed_var (i := 3) rfl dd_str) (ea_cons ed_str ea_nil)) (by show 2 ≤ 1000; omega)) ea_nil) (by show 1 ≤ 1000; omega)) (ea_cons (ed_tup (ea_cons (ed_tup (ea_cons (ed_var (i := 3) rfl dd_str) ea_nil) (by show 1 ≤ 1000; omega)) ea_nil) (by show 1 ≤ 1000; omega)) ea_nil)))))))))))) (by show 12 ≤ 1000; omega)) fun v4 H3 s3 h3 => ?_
  have hW3 := DD.same s3 _ _ hW2
  have hS3 := DD.same s3 _ _ hS2
  have hN3 := DD.same s3 _ _ hN2
  dsimp only
  refine sq ?_
  refine s_setD (d := .list (odd1 a wish ++ odd2 a)) (ed_cat (ed_var (i := 4) rfl h3) (ED.is (e := .list (odd2 a)) (ed_lst (ea_cons (ed_tup (ea_cons (ed_tup (ea_cons (ed_var (i := 3) rfl dd_str) (ea_cons ed_int (ea_cons ed_int ea_nil))) (by show 3 ≤ 1000; omega)) ea_nil) (by show 1 ≤ 1000; omega)) (ea_cons (ed_tup (ea_cons (ed_lst (ea_cons (ed_var (i := 3) rfl dd_str) (ea_cons ed_int ea_nil)) (by show 2 ≤ 1000; omega)) ea_nil) (by show 1 ≤ 1000; omega)) (ea_cons (ed_tup (ea_cons (ed_var (i := 3) rfl dd_str) (ea_cons ed_int ea_nil)) (by show 2 ≤ 1000; omega)) (ea_cons (ed_tup (ea_cons (ed_tup (ea_cons ed_str (ea_cons ed_int ea_nil)) (by show 2 ≤ 1000; omega)) ea_nil) (by show 1 ≤ 1000; omega)) (ea_cons (ed_tup (ea_cons (ed_tup (ea_cons (ed_var (i := 3) rfl dd_str) (ea_cons ed_int ea_nil)) (by show 2 ≤ 1000; omega)) (ea_cons (ed_tup (ea_cons (ed_var (i := 3) rfl dd_str) (ea_cons ed_int ea_nil)) (by show 2 ≤ 1000; omega)) ea_nil)) (by show 2 ≤ 1000; omega)) (ea_cons (ed_tup (ea_cons (ed_tup (ea_cons ed_str (ea_cons ed_int ea_nil)) (by show 2 ≤ 1000; omega)) ea_nil) (by show 1 ≤ 1000; omega)) (ea_cons (ed_tup (ea_cons (ed_tup (ea_cons (ed_upper (ed_var (i := 3) rfl dd_str) hal) (ea_cons ed_int ea_nil)) (by show 2 ≤ 1000; omega)) ea_nil) (by show 1 ≤ 1000; omega)) ea_nil))))))) (by show 7 ≤ 1000; omega)) rfl) (by show 12 + 7 ≤ 10000; omega)) fun v5 H4 s4 h4 => ?_
  have hW4 := DD.same s4 _ _ hW3
  have hS4 := DD.same s4 _ _ hS3
  have hN4 := DD.same s4 _ _ hN3
  dsimp only
  refine sq ?_
  refine s_setD (d := .list ((odd1 a wish ++ odd2 a) ++ odd3 a wish)) (ed_cat (ed_var (i := 4) rfl h4) (ED.is (e := .list (odd3 a wish)) (ed_lst (ea_cons (ed_tup (ea_cons (ed_tup (ea_cons ed_non (ea_cons ed_int ea_nil)) (by show 2 ≤ 1000; omega)) ea_nil) (by show 1 ≤ 1000; omega)) (ea_cons (ed_tup (ea_cons (ed_tup (ea_cons (ed_tup (ea_cons (ed_var (i := 3) rfl dd_str) (ea_cons ed_int ea_nil)) (by show 2 ≤ 1000; omega)) ea_nil) (by show 1 ≤ 1000; omega)) ea_nil) (by show 1 ≤ 1000; omega)) (ea_cons (ed_tup (ea_cons (ed_tup (ea_cons (ed_var (i := 3) rfl dd_str) (ea_cons (ed_tup (ea_cons ed_int ea_nil) (by show 1 ≤ 1000; omega)) ea_nil)) (by show 2 ≤ 1000; omega)) ea_nil) (by show 1 ≤ 1000; omega)) (ea_cons (ed_catT (ed_var (i := 1) rfl hW4) (ed_tup (ea_cons (ed_tup (ea_cons ed_str (ea_cons ed_int ea_nil)) (by show 2 ≤ 1000; omega)) ea_nil) (by show 1 ≤ 1000; omega)) (by rw [List.length_map]; show _ + 1 ≤ _; omega)) (ea_cons (ed_tup (ea_cons ed_non ea_nil) (by show 1 ≤ 1000; omega)) ea_nil))))) (by show 5 ≤ 1000; omega)) rfl) (by show 19 + 5 ≤ 10000; omega)) fun v6 H5 s5 h5 => ?_
  have hW5 := DD.same s5 _ _ hW4
  have hS5 := DD.same s5 _ _ hS4
  have hN5 := DD.same s5 _ _ hN4
  dsimp only
  have s05 := (((s1.trans s2).trans s3).trans s4).trans s5
  -- the end
  have fin : ∀ (L : List PyData) (v7 : V) (o5 : Option V) (H6 : Hp), L.length ≤ 100 → Same H H6 → DD H6 (encS S) vS → DD H6 (.list L) v7 → (∀ v H', Same H H' → DD H' (.list (L ++ odd5 S)) v → Q v H') →
      tRet (tOp rCat (tVar 4) (tLc (iTup K (tOp (rIxT K) (tVar 0) (tC (.int 1)))) (gName 5) tYes (tTup (tCons (tTup (tCons (tOp (rIxT K) (tVar 5) (tC (.int 0))) (tCons (tC (.int 1)) tNil))) tNil)) [5])) { nx := fun _ H' => Q .non H', rt := Q } [some vS, some vW, some vN, some (.str a), some v7, o5] H6 := by
    intro L v7 o5 H6 hL s6 hS6 h7 q6
    refine s_retD (ed_cat (ed_var (i := 4) rfl h7) (ED.is (e := .list (odd5 S)) (ed_lcT (f := fun d => some (.tuple [.tuple [.str (nmD d), .int 1]])) (ed_ixT (j := 1) (ed_var (i := 0) rfl hS6) rfl) ?_ (fun d hd e he => ?_) fun d hd => ?_) ?_) ?_) fun v8 H7 s7 h8 => q6 v8 H7 (s6.trans s7) h8
    · rw [List.length_map]; have := sz.choices; omega
    · cases he; rfl
    · obtain ⟨c, _, rfl⟩ := List.mem_map.mp hd
      exact turn_n (fun _ => rfl) fun x H1 s1 hx => ed_tup (ea_cons (ed_tup (ea_cons (ed_ixT (j := 0) (ed_var rfl hx) rfl) (ea_cons ed_int ea_nil)) (by show 2 ≤ 1000; omega)) ea_nil) (by show 1 ≤ 1000; omega)
    · rw [map_some fun _ _ => rfl]
      unfold odd5 cNames
      rw [List.map_map, List.map_map]
      rfl
    · unfold odd5 cNames
      rw [List.length_map, List.length_map]
      have := sz.choices
      omega
  refine sq ?_
  cases r with
  | nil =>
    refine s_ifD (b := false) (ET.is (et_test (ed_opB (g := fun i j => decide (j < i)) (ed_lenL (ed_var (i := 2) rfl hN5)) ed_int)) rfl) (fun z => by cases z) fun _ H6 s6 => ?_
    unfold tNext
    exact fin _ v6 _ H6 (by show 24 ≤ 100; omega) (s05.trans s6) (DD.same s6 _ _ hS5) (DD.same s6 _ _ h5) fun v H' s' h => q v H' s' h
  | cons b r =>
    refine s_ifD (b := true) (ET.is (et_test (ed_opB (g := fun i j => decide (j < i)) (ed_lenL (ed_var (i := 2) rfl hN5)) ed_int)) (decide_eq_true (by rw [List.length_map]; simp; omega))) (fun _ H6 s6 => ?_) fun z => by cases z
    have hb : ((a :: b :: r).map PyData.str)[1]? = some (.str b) := rfl
    have hN6 := DD.same s6 _ _ hN5
    have hW6 := DD.same s6 _ _ hW5
    refine s_setD (d := .list (((odd1 a wish ++ odd2 a) ++ odd3 a wish) ++ odd4 a b)) (ed_cat (ed_var (i := 4) rfl (DD.same s6 _ _ h5)) (ED.is (e := .list (odd4 a b)) (ed_lst (ea_cons (ed_tup (ea_cons (ed_tup (ea_cons (ed_ixL (j := 1) (ed_var (i := 2) rfl hN6) hb) (ea_cons ed_int ea_nil)) (by show 2 ≤ 1000; omega)) (ea_cons (ed_tup (ea_cons (ed_var (i := 3) rfl dd_str) (ea_cons ed_int ea_nil)) (by show 2 ≤ 1000; omega)) ea_nil)) (by show 2 ≤ 1000; omega)) (ea_cons (ed_tup (ea_cons (ed_tup (ea_cons (ed_var (i := 3) rfl dd_str) (ea_cons ed_int ea_nil)) (by show 2 ≤ 1000; omega)) (ea_cons (ed_tup (ea_cons (ed_ixL (j := 1) (ed_var (i := 2) rfl hN6) hb) (ea_cons ed_int ea_nil)) (by show 2 ≤ 1000; omega)) ea_nil)) (by show 2 ≤ 1000; omega)) ea_nil)) (by show 2 ≤ 1000; omega)) rfl) (by show 24 + 2 ≤ 10000; omega)) fun v7 H7 s7 h7 => ?_
    exact fin _ v7 _ H7 (by show 26 ≤ 100; omega) ((s05.trans s6).trans s7) (DD.same (s6.trans s7) _ _ hS5) h7 fun v H' s' h => q v H' s' h
end
end KL

/-! ## no odd row is a row -/
namespace KL
open PySem PySem.Spec PyProof.Rows L2
theorem name_low {a : Str} (h : isNameS a = true) : ∀ c ∈ a.cps.toList, 97 ≤ c ∧ c ≤ 122 := by
  unfold isNameS at h
  rw [Bool.and_eq_true] at h
  intro c hc
  have h3 := of_decide_eq_true (List.all_eq_true.mp h.2 c hc)
  have all : ∀ c ∈ ("abcdefghijklmnopqrstuvwxyz" : Str).cps.toList, 97 ≤ c ∧ c ≤ 122 := by decide +kernel
  exact all c h3
theorem name_len {a : Str} (h : isNameS a = true) : 1 ≤ a.length ∧ a.length ≤ 8 := by
  unfold isNameS at h
  rw [Bool.and_eq_true, Bool.and_eq_true, decide_eq_true_eq, decide_eq_true_eq] at h
  omega
theorem upper_eq {a : Str} (h : isNameS a = true) : Txt.upper a = ⟨a.cps.map up1⟩ := upper_ascii fun c hc => by
  have := name_low h c hc
  omega
theorem upper_no {a : Str} (h : isNameS a = true) : isNameS (Txt.upper a) = false := by
  cases e : isNameS (Txt.upper a) with
  | false => rfl
  | true =>
    exfalso
    have hu := name_low e
    rw [upper_eq h] at hu
    have hl := (name_len h).1
    have hne : a.cps.toList ≠ [] := fun z => by
      have l : a.length = a.cps.toList.length := by show a.cps.size = _; simp
      rw [z] at l
      simp at l
      omega
    obtain ⟨c, r, ec⟩ : ∃ c r, a.cps.toList = c :: r := by
      cases q : a.cps.toList with
      | nil => exact absurd q hne
      | cons c r => exact ⟨c, r, rfl⟩
    have hc := name_low h c (by rw [ec]; exact List.mem_cons_self)
    have := hu (up1 c) (by
      show up1 c ∈ (a.cps.map up1).toList
      rw [Array.toList_map, ec]
      exact List.mem_cons_self)
    unfold up1 at this
    rw [if_pos hc] at this
    omega
theorem sm_row (m : AL) (h : ∀ q ∈ m, q.1.length ≤ 1000) : smDs (m.map encP) = true := by
  induction m with
  | nil => rfl
  | cons q m ih =>
    have h1 := h q List.mem_cons_self
    have h2 := ih fun z hz => h z (List.mem_cons_of_mem _ hz)
    show (smD (encP q) && smDs (m.map encP)) = true
    rw [h2]
    simp [encP, smD, smDs, h1]
def oddOk (S : Shop) (d : PyData) : Prop := isRowD S d = false ∧ smD d = true
theorem odd_app {S : Shop} {xs ys : List PyData} (h1 : ∀ d ∈ xs, oddOk S d) (h2 : ∀ d ∈ ys, oddOk S d) : ∀ d ∈ xs ++ ys, oddOk S d := fun d hd => by
  rcases List.mem_append.mp hd with z | z
  · exact h1 d z
  · exact h2 d z
theorem odd_all {S : Shop} {d : PyData} {r : List PyData} (h1 : oddOk S d) (h2 : ∀ e ∈ r, oddOk S e) : ∀ e ∈ d :: r, oddOk S e := fun e he => by
  rcases List.mem_cons.mp he with z | z
  · rw [z]; exact h1
  · exact h2 e z
theorem odd_nil {S : Shop} : ∀ e ∈ ([] : List PyData), oddOk S e := fun e he => by cases he
/-- a row with an item that is not counted, or is no article -/
theorem odd_tup {S : Shop} {es : List PyData} {e : PyData} (he : e ∈ es) (h : isCountedD e = false ∨ isArtD S (fstD e) = false) (sm : smD (.tuple es) = true) : oddOk S (.tuple es) := by
  refine ⟨?_, sm⟩
  show ((es.all fun e => isCountedD e && isArtD S (fstD e)) && isNamesD (.tuple (es.map fstD))) = false
  have z : (es.all fun e => isCountedD e && isArtD S (fstD e)) = false := by
    rw [List.all_eq_false]
    refine ⟨e, he, ?_⟩
    rcases h with h | h
    · rw [h]; simp
    · rw [h]; simp
  rw [z]
  rfl
theorem odd_ok {S : Shop} (g : ShopGood S) {b : Int} {wish : AL} (hw : RowOk S b wish) (hl : wish.length ≤ 50) : ∀ d ∈ oddD S wish, oddOk S d := by
  have nmA : ∀ n ∈ srtS (pNames S ++ kNames S), isNameS n = true := fun n hn => by
    rcases List.mem_append.mp (srtS_mem.mp hn) with z | z
    · exact (g.nm n (List.mem_append_left _ (List.mem_append_left _ z))).1
    · exact (g.nm n (List.mem_append_right _ z)).1
  have smW : smDs (wish.map encP) = true := sm_row wish fun q hq => by
    have := name_len (g.nm _ (hw.sub2 _ (List.mem_map_of_mem (f := fun p : Str × Int => p.1) hq))).1
    omega
  have up_ : (srtS (pNames S ++ kNames S)).Pairwise leS := srtBy_rises id _
  have s1 : ∀ {a : Str}, isNameS a = true → smD (.str a) = true := fun {a} h => by
    have := name_len h
    simp [smD]
    omega
  have o1 : ∀ {a : Str}, isNameS a = true → ∀ d ∈ odd1 a wish, oddOk S d := fun {a} ha => by
    have sa := s1 ha
    unfold odd1
    refine odd_all ⟨rfl, rfl⟩ (odd_all ⟨rfl, rfl⟩ (odd_all ⟨rfl, rfl⟩ (odd_all ⟨rfl, sa⟩ (odd_all ⟨rfl, rfl⟩ (odd_all ⟨rfl, by simp [smD, smW]⟩ ?_)))))
    refine odd_all (odd_tup List.mem_cons_self (.inl ?_) ?_) (odd_all (odd_tup List.mem_cons_self (.inl ?_) ?_) (odd_all (odd_tup List.mem_cons_self (.inl ?_) ?_) (odd_all (odd_tup List.mem_cons_self (.inl ?_) ?_) (odd_all (odd_tup List.mem_cons_self (.inl ?_) ?_) (odd_all (odd_tup List.mem_cons_self (.inl ?_) ?_) odd_nil)))))
    all_goals first
      | (simp [isCountedD, isNameD, isCountD]; done)
      | (simp [smD, smDs] at sa ⊢; first | exact sa | decide | exact ⟨sa, by decide⟩)
  have o2 : ∀ {a : Str}, isNameS a = true → ∀ d ∈ odd2 a, oddOk S d := fun {a} ha => by
    have sa := s1 ha
    have su : smD (.str (Txt.upper a)) = true := by
      rw [upper_eq ha]
      have := name_len ha
      have e : (Str.mk (a.cps.map up1)).length = a.length := by show (a.cps.map up1).size = a.cps.size; simp
      simp only [smD, e]
      exact decide_eq_true (by omega)
    unfold odd2
    refine odd_all (odd_tup List.mem_cons_self (.inl ?_) ?_) (odd_all (odd_tup List.mem_cons_self (.inl ?_) ?_) (odd_all (odd_tup List.mem_cons_self (.inl ?_) ?_) (odd_all (odd_tup List.mem_cons_self (.inr ?_) ?_) (odd_all ⟨?_, ?_⟩ (odd_all (odd_tup List.mem_cons_self (.inl ?_) ?_) (odd_all (odd_tup List.mem_cons_self (.inl ?_) ?_) odd_nil))))))
    · rfl
    · simp [smD, smDs] at sa ⊢; exact sa
    · rfl
    · simp [smD, smDs] at sa ⊢; exact sa
    · rfl
    · simp [smD, smDs] at sa ⊢; exact sa
    · show (decide (("nobody" : Str) ∈ pNames S) || decide (("nobody" : Str) ∈ kNames S)) = false
      rw [Bool.or_eq_false_iff, decide_eq_false_iff_not, decide_eq_false_iff_not]
      exact ⟨fun z => (g.nm _ (List.mem_append_left _ (List.mem_append_left _ z))).2 rfl, fun z => (g.nm _ (List.mem_append_right _ z)).2 rfl⟩
    · decide
    · show (_ && ((isNameD (.str a) && (isNameD (.str a) && true)) && (decide (a.cps.toList < a.cps.toList) && true))) = false
      have z : decide (a.cps.toList < a.cps.toList) = false := decide_eq_false (List.lt_irrefl _)
      rw [z]
      simp
    · simp [smD, smDs] at sa ⊢; exact sa
    · decide
    · decide
    · show (isNameS (Txt.upper a) && _) = false
      rw [upper_no ha]
      rfl
    · simp [smD, smDs] at su ⊢; exact su
  have o3 : ∀ {a : Str}, isNameS a = true → ∀ d ∈ odd3 a wish, oddOk S d := fun {a} ha => by
    have sa := s1 ha
    unfold odd3
    refine odd_all (odd_tup List.mem_cons_self (.inl ?_) ?_) (odd_all (odd_tup List.mem_cons_self (.inl ?_) ?_) (odd_all (odd_tup List.mem_cons_self (.inl ?_) ?_) (odd_all (odd_tup (List.mem_append_right _ List.mem_cons_self) (.inl ?_) ?_) (odd_all (odd_tup List.mem_cons_self (.inl ?_) ?_) odd_nil))))
    · rfl
    · rfl
    · rfl
    · simp [smD, smDs] at sa ⊢; exact sa
    · show (isNameS a && false) = false
      simp
    · simp [smD, smDs] at sa ⊢; exact sa
    · decide +kernel
    · have app : ∀ xs : List PyData, smDs xs = true → smDs (xs ++ [PyData.tuple [.str "zzzzzzzzz", .int 1]]) = true := by
        intro xs
        induction xs with
        | nil => intro _; decide
        | cons x xs ih =>
          intro h
          have h' : (smD x && smDs xs) = true := h
          rw [Bool.and_eq_true] at h'
          show (smD x && smDs (xs ++ _)) = true
          rw [h'.1, ih h'.2]
          rfl
      show (smDs (wish.map encP ++ [PyData.tuple [.str "zzzzzzzzz", .int 1]]) && decide ((wish.map encP ++ [PyData.tuple [.str "zzzzzzzzz", .int 1]]).length ≤ 1000)) = true
      rw [app _ smW, Bool.true_and]
      refine decide_eq_true ?_
      rw [List.length_append, List.length_map]
      show _ + 1 ≤ 1000
      omega
    · rfl
    · rfl
  have o4 : ∀ {a b : Str}, isNameS a = true → isNameS b = true → leS a b → ∀ d ∈ odd4 a b, oddOk S d := fun {a b} ha hb hab => by
    have sa := s1 ha
    have sb := s1 hb
    unfold odd4
    refine odd_all ⟨?_, ?_⟩ (odd_all (odd_tup (List.mem_cons_of_mem _ List.mem_cons_self) (.inl ?_) ?_) odd_nil)
    · show (_ && ((isNameD (.str b) && (isNameD (.str a) && true)) && (decide (b.cps.toList < a.cps.toList) && true))) = false
      have z : decide (b.cps.toList < a.cps.toList) = false := decide_eq_false (List.not_lt.mpr hab)
      rw [z]
      simp
    · simp [smD, smDs] at sa sb ⊢; exact ⟨sb, sa⟩
    · show (isNameS b && false) = false
      simp
    · simp [smD, smDs] at sa sb ⊢; exact ⟨sa, sb⟩
  have o5 : ∀ d ∈ odd5 S, oddOk S d := fun d hd => by
    obtain ⟨c, hc, rfl⟩ := List.mem_map.mp hd
    have hcn := (g.nm c (List.mem_append_left _ (List.mem_append_right _ hc))).1
    have nd := g.ok.nd
    refine odd_tup List.mem_cons_self (.inr ?_) ?_
    · show (decide (c ∈ pNames S) || decide (c ∈ kNames S)) = false
      rw [Bool.or_eq_false_iff, decide_eq_false_iff_not, decide_eq_false_iff_not]
      have h1 := List.nodup_append.mp nd
      have h2 := List.nodup_append.mp h1.1
      exact ⟨fun z => h2.2.2 _ z _ hc rfl, fun z => h1.2.2 _ (List.mem_append_right _ hc) _ z rfl⟩
    · have sc := s1 hcn
      simp [smD, smDs] at sc ⊢; exact sc
  unfold oddD
  cases e : srtS (pNames S ++ kNames S) with
  | nil => exact odd_nil
  | cons a r =>
    rw [e] at nmA up_
    have ha := nmA a List.mem_cons_self
    cases r with
    | nil => exact odd_app (odd_app (odd_app (o1 ha) (o2 ha)) (o3 ha)) o5
    | cons b r =>
      have hb := nmA b (List.mem_cons_of_mem _ List.mem_cons_self)
      have hab := (List.pairwise_cons.mp up_).1 b List.mem_cons_self
      exact odd_app (odd_app (odd_app (odd_app (o1 ha) (o2 ha)) (o3 ha)) (o4 ha hb hab)) o5
end KL

/-! ## the law's end, run at the caller's own surroundings -/
namespace KL
open PySem PySem.Spec PyProof.Rows L2
theorem guards_deep {A : Around} {env : Env} (h : A.guards = some []) : (A.deeper env).guards = some [] := h
section
variable {P : Program} {w : World} {K : PySem.W.Frag} {mg mb : Str → Option Value} {fa a : Addr} {tb : List (Addr × Addr)} {z : Shared} {vs : List Value} {ns : List Int}
/-- what is tracked at the start: the tables, and the script unless the written part holds it -/
def H0 (K : PySem.W.Frag) (tb : List (Addr × Addr)) (a : Addr) (vs : List Value) (ns : List Int) : Hp := fun b =>
  if b = a ∧ K.lookup a = none then some (.frz { cls := .type "list", data := .seq vs.toArray } (.lst (ns.map V.int))) else if b ∈ tb.map (·.2) then some (.tbl #[]) else none
theorem run_lawG (kin : K.In z.heap) (gl : z.heap.Ns mainGlobals mg) (bl : z.heap.Ns builtinsNs mb) (bb : ∀ x : Str, x ≠ "__name__" → mb x = bootBuiltins x) (nl : z.heap.NoLimit) (gs : z.gens = #[])
    (t1 : ∀ p ∈ tb, z.heap.get? p.2 = some { cls := .none, data := .fields #[] }) (t2 : ∀ p ∈ tb, K.lookup p.2 = none) (t3 : ∀ p ∈ tb, PySem.W.CodeHd z.heap p.1 p.2)
    (bm : ∃ (m : Addr) (o : Obj), mg "__builtins__" = some (.ref m) ∧ m ≠ builtinsNs ∧ z.heap.get? m = some o ∧ o.cls = .type "module" ∧ o.dict = some builtinsNs ∧ o.data = .plain)
    (la : z.heap.get? a = some { cls := .type "list", data := .seq vs.toArray }) (li : IntsAre vs ns) (ll : ns.length ≤ sizeLine)
    (go : ∀ (base : Heap) (H : Hp), (∀ p ∈ tb, LamX.TabB base mg p.1 p.2) → Env0 P w K mg base callerA [] z H → (∀ p ∈ tb, H p.2 = some (.tbl #[])) → SqL K H a (ns.map V.int) →
      codeAny (model P w) callerA (.call (.ref fa) ⟨[.ref a], []⟩) (CR CX0 [] P w H z (fun v _ => v = .bl true) fun _ _ _ => False) z) :
    codeAny (model P w) callerA (.call (.ref fa) ⟨[.ref a], []⟩) (fun r y => r = .ok (.ret (.bool true)) ∧ OldK z.heap y.heap ∧ y.os = z.os ∧ AllBare y.gens) z := by
  have vi := vals_ints li
  have vl := li.length
  -- the tables' addresses
  have inT : ∀ b : Addr, b ∈ tb.map (·.2) → z.heap.get? b = some { cls := .none, data := .fields #[] } := fun b m => by
    obtain ⟨p, hp, rfl⟩ := List.mem_map.mp m
    exact t1 p hp
  have aNo : a ∉ tb.map (·.2) := fun m => by
    have e := inT a m
    rw [la] at e
    cases e
  have H0t : ∀ b, b ∈ tb.map (·.2) → H0 K tb a vs ns b = some (.tbl #[]) := fun b m => by
    unfold H0
    rw [if_neg (fun e => aNo (by rw [← e.1]; exact m)), if_pos m]
  have H0e : ∀ b u, H0 K tb a vs ns b = some u → (b = a ∧ K.lookup a = none ∧ u = .frz { cls := .type "list", data := .seq vs.toArray } (.lst (ns.map V.int))) ∨ (b ∈ tb.map (·.2) ∧ u = .tbl #[]) := fun b u e => by
    unfold H0 at e
    split at e
    · rename_i c
      exact .inl ⟨c.1, c.2, (Option.some.inj e).symm⟩
    · split at e
      · rename_i c
        exact .inr ⟨c, (Option.some.inj e).symm⟩
      · cases e
  -- an object that is neither a sequence nor an empty record is not tracked
  have plain : ∀ {b : Addr} {o : Obj}, z.heap.get? b = some o → (∀ us n, o.data ≠ .seq us n) → o.data ≠ .fields #[] → H0 K tb a vs ns b = none := fun {b o} e n1 n2 => by
    cases q : H0 K tb a vs ns b with
    | none => rfl
    | some u =>
      rcases H0e b u q with ⟨rfl, _, _⟩ | ⟨m, _⟩
      · rw [la] at e
        obtain rfl := Option.some.inj e
        exact absurd rfl (n1 _ _)
      · rw [inT b m] at e
        obtain rfl := Option.some.inj e
        exact absurd rfl n2
  have see : ∀ {b : Addr} {o : Obj}, z.heap.get? b = some o → H0 K tb a vs ns b = none → (hidT z.heap (H0 K tb a vs ns)).get? b = some o := hidT_get
  have nsd : ∀ {b : Addr} {m : Str → Option Value}, z.heap.Ns b m → (hidT z.heap (H0 K tb a vs ns)).Ns b m := fun {b m} h => by
    obtain ⟨o, es, ep, e, d, r⟩ := h
    exact ⟨o, es, ep, see e (plain e (fun us n q => by rw [d] at q; cases q) fun q => by rw [d] at q; cases q), d, r⟩
  have kin2 : K.In (hidT z.heap (H0 K tb a vs ns)) := fun b o e => see (kin b o e) (by
    cases q : H0 K tb a vs ns b with
    | none => rfl
    | some u =>
      rcases H0e b u q with ⟨rfl, n, _⟩ | ⟨m, _⟩
      · rw [n] at e
        cases e
      · obtain ⟨p, hp, rfl⟩ := List.mem_map.mp m
        rw [t2 p hp] at e
        cases e)
  obtain ⟨lm, l1, l2⟩ := id nl
  have md : L2.Mod K mg (hidT z.heap (H0 K tb a vs ns)) := ⟨kin2, nsd gl, ⟨mb, nsd bl, bb⟩, ⟨lm, nsd l1, l2⟩⟩
  have tabs : ∀ p ∈ tb, LamX.TabB (hidT z.heap (H0 K tb a vs ns)) mg p.1 p.2 := fun p hp => by
    have ep := t1 p hp
    refine ⟨?_, ?_, fun q => ?_⟩
    · obtain ⟨o, us, fi, tf, fl, tg, inF, tx, tt, c0, c1, c2, c3, c4, c5, c6, c7, c8, c9⟩ := t3 p hp
      refine ⟨o, us, fi, tf, fl, tg, inF, tx, tt, see c0 (plain c0 (fun ws n q => ?_) fun q => ?_), c1, c2, c3, c4, c5, c6, c7, c8, c9⟩
      · rw [c2] at q
        cases q
      · rw [c2] at q
        cases q
        simp at c3
    · obtain ⟨m, o, b1, b2, b3, b4, b5, b6⟩ := bm
      have n1 : m ≠ mainGlobals := fun q => by
        obtain ⟨o', _, _, e, d, _⟩ := gl
        rw [q, e] at b3
        obtain rfl := Option.some.inj b3
        rw [d] at b6
        cases b6
      have n2 : m ≠ p.2 := fun q => by
        rw [q, ep] at b3
        obtain rfl := Option.some.inj b3
        cases b6
      exact ⟨m, o, b1, b2, n1, n2, see b3 (plain b3 (fun us n q => by rw [b6] at q; cases q) fun q => by rw [b6] at q; cases q), b4, b5, b6⟩
    · obtain ⟨o, _, _, e, d, _⟩ := gl
      rw [q, ep] at e
      obtain rfl := Option.some.inj e
      cases d
  have ok0 : HOk P w (H0 K tb a vs ns) z.heap := fun b u e => by
    rcases H0e b u e with ⟨rfl, _, rfl⟩ | ⟨m, rfl⟩
    · exact ⟨la, by rw [List.length_map]; exact ll, vs, _, vi, la⟩
    · exact inT b m
  have sq : SqL K (H0 K tb a vs ns) a (ns.map V.int) := by
    cases q : K.lookup a with
    | none =>
      refine .inl (.inr ⟨{ cls := .type "list", data := .seq vs.toArray }, ?_⟩)
      unfold H0
      rw [if_pos ⟨rfl, q⟩]
    | some o =>
      have e := kin a o q
      rw [la] at e
      obtain rfl := Option.some.inj e
      exact .inr ⟨_, vs.toArray, _, q, rfl, rfl, rfl, by rw [List.size_toArray, vl]; exact ll, by simpa using vi⟩
  have env : Env0 P w K mg (hidT z.heap (H0 K tb a vs ns)) callerA [] z (H0 K tb a vs ns) :=
    ⟨rfl, md, fun b o e => of_hidT e, Nat.le_of_eq (hidT_size _ _), trivial, fun b m => (by cases m), ok0, .of_eq gs⟩
  refine codeAny_mono (go _ _ tabs env (fun p hp => H0t _ (List.mem_map_of_mem hp)) sq) fun r y h => ?_
  cases r with
  | error e => exact False.elim h
  | ok fl =>
    cases fl with
    | next => exact False.elim h
    | brk => exact False.elim h
    | cont => exact False.elim h
    | ret u =>
      obtain ⟨v, H1, e1, e2, un, ok1, r1, q⟩ := h
      obtain rfl : v = .bl true := q
      obtain rfl : u = Value.bool true := r1
      have stay : ∀ b o, b ∉ tb.map (·.2) → z.heap.get? b = some o → y.heap.get? b = some o := fun b o nb e => by
        cases q : H0 K tb a vs ns b with
        | none => exact un.keep b o e q (fun m => by cases m) (by simp)
        | some u =>
          rcases H0e b u q with ⟨rfl, _, rfl⟩ | ⟨m, _⟩
          · have f1 := un.frzs _ _ _ q
            obtain ⟨g1, _⟩ := ok0 _ _ q
            obtain ⟨g2, _⟩ := ok1 _ _ f1
            rw [e] at g1
            obtain rfl := Option.some.inj g1
            exact g2
          · exact absurd m nb
      have more : ∀ p ∈ tb, ∃ xs : Array Value, y.heap.get? p.2 = some { cls := .none, data := .fields xs } := fun p hp => by
        obtain ⟨xs, e⟩ := un.tbls p.2 #[] (H0t _ (List.mem_map_of_mem hp))
        exact ⟨_, ok1 p.2 _ e⟩
      refine ⟨rfl, ⟨fun b o e => ?_, fun b o e => ?_⟩, e1, e2⟩
      · by_cases c : b ∈ tb.map (·.2)
        · obtain ⟨p, hp, rfl⟩ := List.mem_map.mp c
          obtain ⟨xs, hx⟩ := more p hp
          rw [t1 p hp] at e
          obtain rfl := Option.some.inj e
          exact .inr (.inl ⟨((t3 p hp).tab (t1 p hp)).isCodeTable, rfl, #[], xs, rfl, by rw [Array.empty_append]; exact hx⟩)
        · exact .inl (stay b o c e)
      · by_cases c : b ∈ tb.map (·.2)
        · obtain ⟨p, hp, rfl⟩ := List.mem_map.mp c
          obtain ⟨xs, hx⟩ := more p hp
          exact ⟨_, hx⟩
        · exact ⟨o, stay b o c e⟩
end
end KL

/-! ## what needs a known list of guards: repr; _law_is_right -/
namespace KL
open PySem PySem.Spec PyProof.Rows L2
/-- a def that is run only where nothing is being shown -/
structure DefG (P : Program) (w : World) (K : PySem.W.Frag) (mg : Str → Option Value) (base : Heap) (k : Nat) (x : Str) (sp : Sp) : Prop where
  ex : ∃ (f : Addr) (fd : FuncData) (ps : List Str), mg x = some (.ref f) ∧ PySem.W.keepIn K (.ref f) = true ∧ Binds K fd ps [] ∧ (∀ vs H Q E, sp vs H Q E → vs.length = ps.length) ∧
    ∀ (A : Around) (outer : List Env) (s : Shared) (H : Hp) (args : Args) (us : List Value) (vs : List V) (Q : VK) (E : XK), Room k A → A.guards = some [] → Env0 P w K mg base A outer s H → BindsTo s fd args (ps.zip us) → Vals vs us → sp vs H Q E →
      codeAny (model P w) A (.call (.ref f) args) (CR CX0 outer P w H s Q E) s
theorem passF {X : Cx} {P : Program} {w : World} : Passes (L2.CX P w) X (fun _ _ _ => False) := fun _ _ _ _ _ _ _ h => by
  obtain ⟨_, _, _, _, _, _, _, _, _, _, _, _, z⟩ := h
  exact z.elim
section
variable {X : Cx} {k j : Nat} {x : Str} {sp : Sp} {E : XK} {e : Expr} {es : List Expr} {t : TA} {p pos : Pos}
theorem pe_dG (c : DefG X.prog X.w X.K X.mg X.base k x sp) (hr : Room j X.A) (hk : k ≤ j) (hG : X.A.guards = some []) (hg : Gl X x) (ha : PA X (e :: es) t)
    (o1 : (x == ("__debug__" : Str)) = false := by decide) (o2 : starEach (e :: es) X.env = (false, eval e X.env) :: starEach es X.env := by rfl) (o3 : (backTo pos (starEach es X.env)).any (·.1) = false := by rfl) :
    PE X (.Call (.Name x p) (e :: es) [] pos) (tCall sp [] E t) := by
  obtain ⟨f, fd, ps, hm, kp, b, len, run⟩ := c.ex
  refine ⟨fun pins s σ H Q I h => ?_⟩
  refine wpAny_Call_Name_kw (ld_glob I hg hm ?_ o1)
  refine PySem.W.callWith_K (h₀ := X.base) I.ok.mod.kin kp (thn (ha.run pos pins s σ H _ I h) fun us z hz => ?_) o2 o3
  obtain ⟨vs, H1, J, r, q⟩ := hz
  refine ⟨J.kIn, ?_⟩
  rw [List.append_nil] at q
  have hl : (us ++ []).length = ps.length := by rw [List.append_nil, ← r.length]; exact len _ _ _ _ q
  have hb := b z us J.kIn hl
  rw [List.append_nil] at hb
  refine wpAny_call (codeAny_mono (run X.A X.stack z H1 ⟨us, []⟩ us vs Q E (hr.mono hk) hG J.env0 hb r q) fun fl y hy => ?_)
  cases fl with
  | error er => exact False.elim hy
  | ok fl =>
    cases fl with
    | ret u => exact J.after hy
    | next => exact False.elim hy
    | brk => exact False.elim hy
    | cont => exact False.elim hy
end
section
variable {K : PySem.W.Frag} {σ : L2.St} {H : Hp} {ta : TE} {ds : List PyData} {wt k : Nat}
theorem ed_repr (h : ED ta σ H (.list ds)) (r : RD wt k (.list ds)) (h1 : wt ≤ 100000) (h2 : k ≤ 60) :
    ED (tCB (fun xs H Q => ∃ (a : Addr) (d : PyData), xs = [.ref a] ∧ Dp K H (.ref a) d ∧ d.showable = true ∧ d.hasDict = false ∧ d.depth ≤ 60 ∧ d.shown.length ≤ sizeLine ∧ Q (.str d.shown) H) (tCons ta tNil)) σ H (.str (PyData.list ds).shown) := fun H1 m Q q =>
  h H1 m _ fun v H2 m2 hv => by
    have hd : Dp K H2 v (.list ds) := DD.dp _ _ hv
    obtain ⟨a, xs, rfl, _, _⟩ := hv.lst
    exact ⟨a, _, rfl, hd, r.sh, r.nd, Nat.le_trans r.dp h2, r.len h1, q _ H2 m2 dd_str⟩
theorem ed_reprT (h : ED ta σ H (.tuple ds)) (r : RD wt k (.tuple ds)) (h1 : wt ≤ 100000) (h2 : k ≤ 60) :
    ED (tCB (fun xs H Q => ∃ (a : Addr) (d : PyData), xs = [.ref a] ∧ Dp K H (.ref a) d ∧ d.showable = true ∧ d.hasDict = false ∧ d.depth ≤ 60 ∧ d.shown.length ≤ sizeLine ∧ Q (.str d.shown) H) (tCons ta tNil)) σ H (.str (PyData.tuple ds).shown) := fun H1 m Q q =>
  h H1 m _ fun v H2 m2 hv => by
    have hd : Dp K H2 v (.tuple ds) := DD.dp _ _ hv
    obtain ⟨a, xs, rfl, _, _⟩ := hv.tup
    exact ⟨a, _, rfl, hd, r.sh, r.nd, Nat.le_trans r.dp h2, r.len h1, q _ H2 m2 dd_str⟩
end
def spRight : Sp := fun vs H Q _ => ∃ p S r vS vW, vs = [V.ref (FP.f p), vS, vW] ∧ Feed p H ∧ ShopGood S ∧ RowOk S 61 r ∧ r.length ≤ 20 ∧ DD H (encS S) vS ∧ DD H (.tuple (r.map encP)) vW ∧ ∀ H', LF p H H' → Q (.bl true) H'
theorem sc_law_is_right : FnScope ["_law_feed_here", "_law_store", "_law_wish", "_law_due_here", "_law_more", "_law_told", "_law_late"] ["_law_feed_here", "_law_store", "_law_wish"] (defScope s__law_is_right) := ⟨rfl, rfl, rfl, by decide +kernel, rfl, by decide +kernel, by decide +kernel⟩
theorem row_len {S : Shop} (g : ShopGood S) {b : Int} {r : AL} (h : RowOk S b r) : r.length ≤ 20 := by
  have nd : (pNames S ++ kNames S).length ≤ 20 := by
    unfold pNames kNames
    rw [List.length_append, List.length_map, List.length_map]
    have := g.np
    have := g.nk
    omega
  have sub : ∀ {l m : List Str}, l.Nodup → (∀ x ∈ l, x ∈ m) → l.length ≤ m.length := by
    intro l
    induction l with
    | nil => intro _ _ _; exact Nat.zero_le _
    | cons x l ih =>
      intro m hn hs
      have hn' := List.nodup_cons.mp hn
      have hx := hs x List.mem_cons_self
      have h1 := ih (m := m.erase x) hn'.2 fun y hy => by
        refine (List.mem_erase_of_ne fun e => ?_).mpr (hs y (List.mem_cons_of_mem _ hy))
        rw [e] at hy
        exact hn'.1 hy
      rw [List.length_erase_of_mem hx] at h1
      have := List.length_pos_of_mem hx
      show l.length + 1 ≤ m.length
      omega
  have l := sub h.nd h.sub
  unfold keysA at l
  rw [List.length_map] at l
  omega
theorem sm_tup {S : Shop} (g : ShopGood S) {b : Int} {r : AL} (h : RowOk S b r) : smD (.tuple (r.map encP)) = true := by
  have h1 := sm_row r fun q hq => by
    have := name_len (g.nm _ (h.sub2 _ (List.mem_map_of_mem (f := fun p : Str × Int => p.1) hq))).1
    omega
  have h2 := row_len g h
  show (smDs (r.map encP) && decide ((r.map encP).length ≤ 1000)) = true
  rw [h1, Bool.true_and]
  exact decide_eq_true (by rw [List.length_map]; omega)
section
variable {P : Program} {w : World} {K : PySem.W.Frag} {mg : Str → Option Value} {base : Heap} {C : Addr}
theorem ed_netted {σ : L2.St} {H : Hp} {S : Shop} (g : ShopGood S) {b : Int} {r : AL} (h : RowOk S b r) {ta : TA} {E : XK} (ha : EA ta σ H [encS S, .tuple (r.map encP)]) : ED (tCall (spNX C) [] E ta) σ H (toldD S (netP S r)) := fun H1 m Q q =>
  ha H1 m _ fun vs H2 m2 hv => by
    obtain ⟨v1, v2, rfl, h1, h2⟩ := hv.two
    exact ⟨S, _, v1, v2, rfl, g.ok, sm_tup g h, h1, h2, fun _ => ⟨r, rfl, h.nd, by have := row_len g h; omega, fun v H' s' hd => q v H' (m2.trans s') hd⟩, fun e => by rw [row_is g.nm h] at e; cases e⟩
theorem d__law_is_right (T : Txt K mg) (N : ErrT P K mg C) : DefG P w K mg base 7 "_law_is_right" spRight := by
  obtain ⟨f, fd, FF, hm⟩ := T.a__law_is_right.ex
  refine ⟨f, fd, ["_law_feed_here", "_law_store", "_law_wish"], hm, FF.kp, FF.binds (fun _ _ _ _ _ _ us hl => match us, hl with | [_, _, _], _ => rfl), fun vs H Q E ⟨_, _, _, _, _, e, _⟩ => by rw [e]; rfl, fun A outer s H args us vs Q E hr hG0 e0 hb rV hsp => ?_⟩
  obtain ⟨oc, od, kV, doc, pm, an, cdv, ct, osl, rfl, lk, hcd⟩ := FF.ex
  refine LamX.run_ofS lk hcd sc_law_is_right hr e0 hb rV (by obtain ⟨_, _, _, _, _, e, _⟩ := hsp; rw [e]; rfl) fun hr => ?_
  have hG : (cxOf CX0 P w K mg base ["_law_feed_here", "_law_store", "_law_wish", "_law_due_here", "_law_more", "_law_told", "_law_late"] "_law_is_right" (defScope s__law_is_right) f cdv A outer s H E).A.guards = some [] := hG0
  obtain ⟨fN, fdN, FN, hmN, kpN, bN, kbN⟩ := (d_netted (P := P) (w := w) (base := base) T N).ex
  obtain ⟨p, S, r, vS, vW, rfl, F, g, rk, rl, hS, hW, q⟩ := hsp
  refine ⟨_, (pss_cons (ps_par (i := 3) (j := 4) rfl sc_law_is_right.nd rfl rfl (by decide) rfl rfl (pa_cons (pe_d (d__law_due T) hr (by decide) (by rfl) pass0 (pa_cons (pv 1) (pa_cons (pv 2) pa_nil))) (pa_cons (pe_d (d__law_with T) hr (by decide) (by rfl) pass0 (pa_cons (pv 2) (pa_cons (pe_d (d__law_any T) hr (by decide) (by rfl) pass0 (pa_cons (pv 0) (pa_cons (pe_d (d__law_articles T) hr (by decide) (by rfl) pass0 (pa_cons (pv 1) pa_nil)) pa_nil))) pa_nil))) pa_nil)) (by rfl))
      (pss_cons (ps_par (i := 5) (j := 6) rfl sc_law_is_right.nd rfl rfl (by decide) rfl rfl (pa_cons (pe_d (d_netted T N).d hr (by decide) (by rfl) passF (pa_cons (pv 1) (pa_cons (pv 2) pa_nil))) (pa_cons (pe_d (d_netted T N).d hr (by decide) (by rfl) passF (pa_cons (pv 1) (pa_cons (pv 4) pa_nil))) pa_nil)) (by rfl))
      (pss_cons (ps_if (pt_cmpR op_ne (pe_callB (call_reprD hG hr.units) (by rfl) T.n_repr (by decide +kernel) (pa_cons (pe_lst (pa_cons (pv 5) (pa_cons (pe_callK0 FN (hr.mono (by decide)) (by rfl) hmN kpN kbN passF (pk_cons (pv 2) (pk_cons (pv 1) pk_nil))) (pa_cons (pv 6) pa_nil)))) pa_nil)) (pe_callB (call_reprD hG hr.units) (by rfl) T.n_repr (by decide +kernel) (pa_cons (pe_lst (pa_cons (pv 3) (pa_cons (pv 3) (pa_cons (pe_d (d__law_due T) hr (by decide) (by rfl) pass0 (pa_cons (pv 1) (pa_cons (pv 4) pa_nil))) pa_nil)))) pa_nil)) (nomark _)) (pss_one (ps_ret pe_bl)) pss_nil)
      (pss_one (ps_ret (pe_d (d__law_is_rising T) hr (by decide) (by rfl) pass0 (pa_cons (pv 5) (pa_cons (pv 6) pa_nil)))))))), ?_⟩
  have sz := g.ok.sz
  refine sq (par2_is ?_)
  refine ed_call (d := toldD S (lawP S r)) (σ := start ["_law_feed_here", "_law_store", "_law_wish", "_law_due_here", "_law_more", "_law_told", "_law_late"] [.ref p.f, vS, vW]) (ea_cons (ed_var (i := 1) rfl hS) (ea_cons (ed_var (i := 2) rfl hW) ea_nil)) ⟨S, r, rfl, g.ok, by omega, rfl⟩ H (L2.Same.refl _) _ fun v3 H1 s1 h3 => ?_
  refine ⟨vW, rfl, ?_⟩
  have F1 := F.same s1
  have nl : (srtS (pNames S ++ kNames S)).length ≤ 20 := by
    rw [srtS_len]
    unfold pNames kNames
    rw [List.length_append, List.length_map, List.length_map]
    have := g.np
    have := g.nk
    omega
  refine ge_any (σ := start ["_law_feed_here", "_law_store", "_law_wish", "_law_due_here", "_law_more", "_law_told", "_law_late"] [.ref p.f, vS, vW]) (ds := (srtS (pNames S ++ kNames S)).map PyData.str) (i := 0) rfl (fun H2 x => ed_call (ea_cons (ed_var (i := 1) rfl (x.dd (DD.same s1 _ _ hS))) ea_nil) ⟨S, rfl, sz, rfl⟩) (fun z => ?_) (by rw [List.length_map]; omega) H1 (LF.refl F1) _ fun d vI H2 hd L2' hI => ?_
  · have e := congrArg List.length z
    rw [List.length_map, srtS_len] at e
    unfold pNames at e
    rw [List.length_append, List.length_map] at e
    have e2 : S.parts.length + (kNames S).length = 0 := e
    exact g.ne (List.eq_nil_of_length_eq_zero (by omega))
  obtain ⟨item, hit, rfl⟩ := List.mem_map.mp hd
  have hit' := srtS_mem.mp hit
  refine ⟨_, _, ⟨r, item, rfl, by omega, rfl⟩, dds_cons (L2'.dd (DD.same s1 _ _ hW)) (dds_cons hI dds_nil), fun v4 H3 s3 h4 => ?_⟩
  have rk2 : RowOk S 62 (withA r item) := with_ok rk hit' (by omega)
  have L03 : LF p H H3 := ((LF.of_same F s1).trans L2').same s3
  have L13 := L2'.same s3
  refine ⟨_, _, rfl, ?_⟩
  have h3' := L13.dd h3
  have hS3 := L03.dd hS
  have hW3 := L03.dd hW
  dsimp only
  refine sq ?_
  refine s_parD (d1 := toldD S (netP S r)) (d2 := toldD S (netP S (withA r item))) (ea_cons (ed_netted g rk (ea_cons (ed_var (i := 1) rfl hS3) (ea_cons (ed_var (i := 2) rfl hW3) ea_nil))) (ea_cons (ed_netted g rk2 (ea_cons (ed_var (i := 1) rfl hS3) (ea_cons (ed_var (i := 4) rfl h4) ea_nil))) ea_nil)) fun v5 v6 H4 s4 h5 h6 => ?_
  have hS4 := DD.same s4 _ _ hS3
  have hW4 := DD.same s4 _ _ hW3
  have h44 := DD.same s4 _ _ h4
  have h34 := DD.same s4 _ _ h3'
  have L04 := L03.same s4
  dsimp only
  refine sq ?_
  have e1 := told_due g.ok rk.nd rk.sub2
  have e2 := told_due g.ok rk2.nd rk2.sub2
  have t1 := rd_told g rk (by omega)
  have t2 := rd_told g rk2 (by omega)
  have rd : RD 30000 5 (.list [toldD S (netP S r), toldD S (netP S r), toldD S (netP S (withA r item))]) := ((rds_cons t1 (rds_cons t1 (rds_cons t2 rds_nil))).list).mono (by omega) (by omega)
  refine s_ifD (b := false) (et_test (ED.is (ed_neS (ed_repr (ed_lst (ea_cons (ed_var (i := 5) rfl h5) (ea_cons (d := toldD S (netP S r)) ?_ (ea_cons (ed_var (i := 6) rfl h6) ea_nil))) (by show 3 ≤ 1000; omega)) rd (by omega) (by omega))
    (ed_repr (ds := [toldD S (lawP S r), toldD S (lawP S r), toldD S (lawP S (withA r item))]) (ed_lst (ea_cons (ed_var (i := 3) rfl h34) (ea_cons (ed_var (i := 3) rfl h34) (ea_cons (ed_call (ea_cons (ed_var (i := 1) rfl hS4) (ea_cons (ed_var (i := 4) rfl h44) ea_nil)) ⟨S, withA r item, rfl, g.ok, by have := row_len g rk2; omega, rfl⟩) ea_nil))) (by show 3 ≤ 1000; omega)) (by rw [← e1, ← e2]; exact rd) (by omega) (by omega))) ?_)) (fun z => by cases z) fun _ H5 s5 => ?_
  · refine fun H5 s5 Q5 q5 => ⟨vW, rfl, vS, rfl, rfl, ?_⟩
    exact ⟨S, _, vS, vW, rfl, g.ok, sm_tup g rk, DD.same s5 _ _ hS4, DD.same s5 _ _ hW4, fun _ => ⟨r, rfl, rk.nd, by omega, fun v H' s' hd => q5 v H' s' hd⟩, fun e => by rw [row_is g.nm rk] at e; cases e⟩
  · rw [e1, e2, decide_eq_true rfl]
    rfl
  dsimp only [tNext]
  refine s_retD (d := .bool true) (ed_call (ea_cons (ed_var (i := 5) rfl (DD.same s5 _ _ h5)) (ea_cons (ed_var (i := 6) rfl (DD.same s5 _ _ h6)) ea_nil)) ⟨told1 S r, told2 S r, told3 S r, told1 S (withA r item), told2 S (withA r item), told3 S (withA r item), by rw [toldD_A, toldD_A], ?_, ?_, ?_, told_rises g.ok rk.sub2 rk2.sub2 (with_le rk.nd item), rfl⟩) fun v7 H6 s6 h7 => ?_
  · unfold told1; rw [List.length_map]; have := g.nk; omega
  · unfold told2 bNames pNames cNames
    rw [List.length_map, srtS_len, List.length_append, List.length_map, List.length_map]
    have := g.np
    have := g.nc
    omega
  · unfold told3; rw [List.length_map]; have := g.np; omega
  · obtain rfl := h7.bl_eq
    exact q H6 ((L04.same s5).same s6)
end
end KL

/-! ## what asks a caught exception: isinstance, count; _law_heard -/
namespace KL
open PySem PySem.Spec PyProof.Rows L2
def rIsX (K : PySem.W.Frag) (a : Addr) (cls : Value) (d : Option Addr) (C : Addr) : List V → Hp → VK → Prop := fun xs H Q =>
  ∃ (c : V) (cv : Value) (b : Bool), xs = [.ref a, c] ∧ (∀ u, RelV c u → u = cv) ∧ cls = .ref C ∧ (∃ (dd : Addr) (fs : List (Str × V)), d = some dd ∧ H dd = some (.xd fs)) ∧ PySem.W.kitOne K (.ref C) cv = some b ∧ Q (.bl b) H
theorem call_isX {X : Cx} {a C : Addr} {oe : Obj} {cls : Value} {d : Option Addr} {pn : List (Addr × Obj)} (F : ExcC X.K C) (hz : Zc cls d oe) (hf : ∃ vs, oe.data = .fields vs) : CallR (X.suite a ((a, oe) :: pn)) (.builtin "isinstance") (rIsX X.K a cls d C) := by
  intro pins s σ H xs us Q I r h
  obtain ⟨c, cv, b, rfl, hcv, rfl, ⟨dd, fs, rfl, ea⟩, e, q⟩ := h
  cases r with
  | cons rx rr =>
    cases rr with
    | cons rt rr =>
      cases rr
      cases rx
      obtain rfl := hcv _ rt
      obtain ⟨hget, _⟩ := I.pin (a, oe) (List.mem_append_left _ List.mem_cons_self)
      obtain ⟨vs, hd⟩ := hf
      have hx : ObjOk X.prog X.w H s.heap dd (.xd fs) := I.hok dd _ ea
      obtain ⟨mA, hns, _⟩ := hx
      obtain ⟨od, ho, _⟩ := lookIn_ns hns
      have J : PySem.W.InstAt s.heap a oe C (some od) := ⟨hget, hz.1, by unfold PySem.W.notCls; rw [hd] <;> rfl, by rw [hz.2]; exact ho⟩
      obtain ⟨cd, hc, _⟩ := PySem.W.any_some F.hd
      exact PySem.W.kia_one (PySem.W.kitx_exc (by rw [hc] <;> rfl) F.hg F.hk F.hs F.ha F.hn F.ht F.hm) I.kIn J e (fun z => nomatch z) fun tk => ⟨.bl b, H, I.kept (t' := tk) fun _ _ z => z, rfl, q⟩
theorem vals_bools : ∀ {bs : List Bool} {us : List Value}, Vals (bs.map V.bl) us → us = bs.map Value.bool
  | [], _, r => by cases r; rfl
  | b :: bs, _, r => by
    cases r with
    | cons r1 r2 =>
      rw [vals_bools r2, show _ = Value.bool b from r1]
      rfl
theorem count_bools (k : Bool) : ∀ bs : List Bool, (bs.map Value.bool).countP (isBoolOf k) = bs.count k
  | [] => rfl
  | b :: bs => by
    rw [List.map_cons, List.countP_cons, List.count_cons, count_bools k bs]
    cases b <;> cases k <;> rfl
def rCntB (K : PySem.W.Frag) : V → List V → Hp → VK → Prop := fun x xs H Q => ∃ (p : Addr) (bs : List Bool) (k : Bool), x = .ref p ∧ xs = [.bl k] ∧ SqL K H p (bs.map V.bl) ∧ Q (.int (bs.count k : Nat)) H
theorem mt_lcountB {X : Cx} : MtR X "list.count" (rCntB X.K) := by
  intro pins s σ H x xs v us Q I rx rxs h
  obtain ⟨p, bs, k, rfl, rfl, hs, q⟩ := h
  cases rx
  obtain ⟨u, rfl, ru⟩ := rxs.one
  obtain rfl : u = Value.bool k := ru
  obtain ⟨its, rv, ⟨⟨cls, dd, data, sl⟩, n, ho, hc, hdn, hd⟩, hlen⟩ := I.list hs
  simp only at hc hd
  subst hc hd
  obtain rfl := vals_bools rv
  refine call_meets PySem.F.slot_list_count ⟨_, ho, rfl⟩ PySem.F.entry_list_count (PySem.F.args_list_count_2 _ _)
    (SeqAt.list_countAt p (bs.map Value.bool).toArray n dd sl (.bool k) (isBoolOf k)) ⟨ho, fun y hy => ?_, ?_⟩
  · obtain ⟨b, _, rfl⟩ := List.mem_map.mp (show y ∈ bs.map Value.bool by simpa using hy)
    exact SeqAt.EqAt.bool_bool b k
  · refine ⟨.int (bs.count k : Nat), H, I.tok _, ⟨s.toks, ?_⟩, q⟩
    show Value.int (((bs.map Value.bool).toArray.toList.countP (isBoolOf k) : Nat) : Int) s.toks = _
    rw [show (bs.map Value.bool).toArray.toList = bs.map Value.bool from rfl, count_bools]
theorem takes_len {X : Cx} {W : WX} (t : Takes X W) : Takes X (fun c d σ H => σ.length = X.N.length → W c d σ H) := fun u s' ⟨a, B, sI, pins, σ, H, cls, d, e, I, nb, up, sky, na, os, ag, w⟩ =>
  t u s' ⟨a, B, sI, pins, σ, H, cls, d, e, I, nb, up, sky, na, os, ag, w I.len⟩
/-- what the classes must say, so that _law_heard hears a NotUsable -/
structure HeardF (K : PySem.W.Frag) (mg : Str → Option Value) (C : Addr) : Prop where
  xf : XfC K C
  xc : ExcC K C
  ns : PySem.W.findIn K (.ref C) "short" = some none
  vE : mg "ValueError" = none
  kV : PySem.W.kitOne K (.ref C) (.type "ValueError") = some true
  kE : ∃ D, mg "KitError" = some (.ref D) ∧ PySem.W.exmOne K (.ref C) (.ref D) = some true
  kU : ∃ D, mg "NotUsable" = some (.ref D) ∧ PySem.W.kitOne K (.ref C) (.ref D) = some true
  kH : ∃ D, mg "NotHeld" = some (.ref D) ∧ PySem.W.kitOne K (.ref C) (.ref D) = some false
  kP : ∃ D, mg "NotPossible" = some (.ref D) ∧ PySem.W.kitOne K (.ref C) (.ref D) = some false
  kI : ∃ D, mg "InvalidPaper" = some (.ref D) ∧ PySem.W.kitOne K (.ref C) (.ref D) = some false
  kS : ∃ D, mg "ShopError" = some (.ref D) ∧ PySem.W.kitOne K (.ref C) (.ref D) = some true
  kQ : ∃ D, mg "PaperError" = some (.ref D) ∧ PySem.W.kitOne K (.ref C) (.ref D) = some false
  kL : ∃ D, mg "LiveError" = some (.ref D) ∧ PySem.W.kitOne K (.ref C) (.ref D) = some false
  kT : ∃ D, mg "TextError" = some (.ref D) ∧ PySem.W.kitOne K (.ref C) (.ref D) = some false
def heardD : PyData := .tuple [.str "use", .str "sales", .int (-1)]
def XHeard (C : Addr) (Q : VK) : XK := fun cls d H' => cls = .ref C ∧ ∃ dd, d = some dd ∧ H' dd = some (.xd (errFs "sales")) ∧ ∀ v H'', Same H' H'' → DD H'' heardD v → Q v H''
def TTH (C : Addr) : (XK → Hp → VK → Prop) → Hp → VK → Prop := fun tl H Q => ∀ Q', tl (XHeard C Q) H Q'
theorem sc_law_heard : FnScope ["_law_ask", "e", "_law_own", "_law_sorts"] ["_law_ask"] (defScope s__law_heard) := ⟨rfl, rfl, rfl, by decide +kernel, rfl, by decide +kernel, by decide +kernel⟩
abbrev hCx (X : Cx) (g : Addr) (cdg : Value) (s : Shared) (H : Hp) : Cx := (cxOf C8.CX0 X.prog X.w X.K X.mg X.base ["_law_ask", "e", "_law_own", "_law_sorts"] "_law_heard" (defScope s__law_heard) g cdg X.A X.stack s H C8.E0).nox
section
variable {K : PySem.W.Frag} {σ : L2.St} {H : Hp} {a C dd : Addr} {fs : List (Str × V)} {b : Bool} {D : V} {cv : Value} {v : V} {d : PyData} {n : Str}
theorem ed_isx (hσ : σ[1]? = some (some (.ref a))) (hd : H dd = some (.xd fs)) (hk : PySem.W.kitOne K (.ref C) cv = some b) (hcv : ∀ u, RelV D u → u = cv) : ED (tCB (rIsX K a (.ref C) (some dd) C) (tCons (tVar 1) (tCons (tC D) tNil))) σ H (.bool b) := fun H1 m Q q =>
  ⟨.ref a, hσ, D, cv, b, rfl, hcv, rfl, ⟨dd, fs, rfl, m _ _ hd⟩, hk, q _ H1 (L2.Same.refl _) dd_bl⟩
theorem ed_isR {E : Addr} (hσ : σ[1]? = some (some (.ref a))) (hd : H dd = some (.xd fs)) (hk : PySem.W.kitOne K (.ref C) (.ref E) = some b) : ED (tCB (rIsX K a (.ref C) (some dd) C) (tCons (tVar 1) (tCons (tC (.ref E)) tNil))) σ H (.bool b) := ed_isx hσ hd hk fun u e => e
theorem ed_xf (hσ : σ[1]? = some (some (.ref a))) (hd : H dd = some (.xd fs)) (hl : fs.lookup n = some v) (hv : DD H d v) : ED (tXf a (.ref C) (some dd) C n (tVar 1)) σ H d := fun H1 m Q q =>
  ⟨.ref a, hσ, rfl, rfl, dd, fs, v, rfl, m _ _ hd, hl, q _ H1 (L2.Same.refl _) (DD.same m _ _ hv)⟩
theorem s_lstN {aA : TA} {D : Ends} {i : Nat} {ds : List PyData} (h : EA aA σ H ds) (hl : ds.length ≤ 1000) (k : ∀ a xs H1, Same H H1 → DDs H1 ds xs → H1 a = none → D.nx (σ.set i (some (.ref a))) (upd H1 a (.lst xs))) : tAsg (tLst aA) (gName i) D σ H :=
  h H (L2.Same.refl _) _ fun vs H1 s h1 => ⟨by rw [h1.length, sizeLine_eq]; omega, fun a ha => k a vs H1 s h1 ha⟩
theorem ed_neI {ta tb : TE} {i j : Int} (ha : ED ta σ H (.int i)) (hb : ED tb σ H (.int j)) : ED (tOp rNe ta tb) σ H (.bool (!decide (V.int i = V.int j))) := fun H1 m Q q =>
  ha H1 m _ fun v H2 m2 h2 => hb H2 (m.trans m2) _ fun w H3 m3 h3 => by
    rw [h2.int_eq, h3.int_eq]
    exact ⟨rfl, q _ H3 (m2.trans m3) dd_bl⟩
theorem ed_cntB {i : Nat} {p : Addr} {bs : List Bool} {k : Bool} (hσ : σ[i]? = some (some (.ref p))) (hp : H p = some (.lst (bs.map V.bl))) : ED (tBM K "list" (rCntB K) (tVar i) (tCons (tC (.bl k)) tNil)) σ H (.int (bs.count k : Nat)) := fun H1 m Q q =>
  ⟨.ref p, hσ, .inl ⟨rfl, _, .inl (.inl (m _ _ hp))⟩, p, bs, k, rfl, rfl, .inl (.inl (m _ _ hp)), q _ H1 (L2.Same.refl _) dd_int⟩
end
section
variable {X : Cx} {C : Addr}
theorem heard_gives (T : Txt X.K X.mg) (I : ∃ fI fd, IniC X.prog X.K C fI fd) (F : HeardF X.K X.mg C) {g : Addr} {cdg : Value} {q : Str} (hr : Room 1 X.A) :
    LamX.GivesTo X ["_law_ask", "e", "_law_own", "_law_sorts"] "_law_heard" (defScope s__law_heard) g cdg (defBody s__law_heard) "_law_ask" q (TTH C) := by
  intro f c' s H Q tl act hc h
  obtain ⟨fI, fd, I⟩ := I
  obtain ⟨KEr, hKE, eKE⟩ := F.kE
  obtain ⟨cNotUsable, hNotUsable, eU⟩ := F.kU
  obtain ⟨cNotHeld, hNotHeld, eH⟩ := F.kH
  obtain ⟨cNotPossible, hNotPossible, eP⟩ := F.kP
  obtain ⟨cInvalidPaper, hInvalidPaper, eI⟩ := F.kI
  obtain ⟨cShopError, hShopError, eS⟩ := F.kS
  obtain ⟨cPaperError, hPaperError, eQ⟩ := F.kQ
  obtain ⟨cLiveError, hLiveError, eL⟩ := F.kL
  obtain ⟨cTextError, hTextError, eT⟩ := F.kT
  have hu : (X.A.deeper (envOfC "_law_heard" (defScope s__law_heard) s.heap.objs.size g cdg)).units + 64 < cLine := by have := (hr.deeper (envOfC "_law_heard" (defScope s__law_heard) s.heap.objs.size g cdg)).un; omega
  have hgl : Gl (hCx X g cdg s H) "KitError" := by rfl
  have cX : ∀ {a : Addr} {oe : Obj} {cls : Value} {d : Option Addr} {pn : List (Addr × Obj)}, Zc cls d oe → (∃ vs, oe.data = .fields vs) → CallR ((hCx X g cdg s H).suite a ((a, oe) :: pn)) (.builtin "isinstance") (rIsX X.K a cls d C) := fun hz hf => call_isX (X := hCx X g cdg s H) F.xc hz hf
  have xX : ∀ {a : Addr} {oe : Obj} {cls : Value} {d : Option Addr} {pn : List (Addr × Obj)} {e : Expr} {te : TE} {pos : Pos} {n : Str}, PySem.W.findIn X.K (.ref C) n = some none → Zc cls d oe → (∃ vs, oe.data = .fields vs) → PE ((hCx X g cdg s H).suite a ((a, oe) :: pn)) e te →
      (hb : attributeBase e n (hCx X g cdg s H).env (eval e (hCx X g cdg s H).env) = eval e (hCx X g cdg s H).env := by rfl) → PE ((hCx X g cdg s H).suite a ((a, oe) :: pn)) (.Attribute e n pos) (tXf a cls d C n te) := fun hn hz hf he hb => pe_xf (X := hCx X g cdg s H) F.xf hn hz hf he hb
  have bmA : ∀ {a : Addr} {oe : Obj} {pn : List (Addr × Obj)} {o : Expr} {as : List Expr} {n : Str} {p1 p2 apos cpos : Pos} {to : TE} {t : TA}, PE ((hCx X g cdg s H).suite a ((a, oe) :: pn)) o to → PA ((hCx X g cdg s H).suite a ((a, oe) :: pn)) [.Call (.Name n p1) as [] p2] t →
      (hl : (apos.endLine == cpos.line) = true) → (hb : attributeBase o "append" (hCx X g cdg s H).env (eval o (hCx X g cdg s H).env) = eval o (hCx X g cdg s H).env) → PE ((hCx X g cdg s H).suite a ((a, oe) :: pn)) (.Call (.Attribute o "append" apos) [.Call (.Name n p1) as [] p2] [] cpos) (tBM X.K "list" rAppend to t) :=
    fun ho ha hl hb => pe_bm PySem.F.plainAttrs_list PySem.F.slot_list_append PySem.F.type_list_append mt_append ho ha hb rfl hl
  have bmC : ∀ {a : Addr} {oe : Obj} {pn : List (Addr × Obj)} {o : Expr} {b : Bool} {j : Nat} {p1 apos cpos : Pos} {to : TE} {t : TA}, PE ((hCx X g cdg s H).suite a ((a, oe) :: pn)) o to → PA ((hCx X g cdg s H).suite a ((a, oe) :: pn)) [.Constant (.bool b) j p1] t →
      (hl : (apos.endLine == cpos.line) = true) → (hb : attributeBase o "count" (hCx X g cdg s H).env (eval o (hCx X g cdg s H).env) = eval o (hCx X g cdg s H).env) → PE ((hCx X g cdg s H).suite a ((a, oe) :: pn)) (.Call (.Attribute o "count" apos) [.Constant (.bool b) j p1] [] cpos) (tBM X.K "list" (rCntB X.K) to t) :=
    fun ho ha hl hb => pe_bm PySem.F.plainAttrs_list PySem.F.slot_list_count PySem.F.type_list_count mt_lcountB ho ha hb rfl hl
  refine ⟨_, pss_one (ps_try_as (X := (hCx X g cdg s H)) (c := .ref KEr) (i := 1)
      (tb := fun W D σ H => ∃ Ech : XK, (∀ cls d (σ' : L2.St) H', Ech cls d H' → σ'.length = 4 → W cls d σ' H') ∧ tRet (tTup (tCons (tC (.str "told")) (tCons (fun σZ HZ Q => σZ[0]? = some (some (.ref f)) ∧ HZ c' = some (LamX.CodeO c' q) ∧ tl Ech HZ Q) tNil))) D σ H)
      rfl rfl sc_law_heard.nd rfl rfl ⟨hgl, rfl, .inl hKE⟩ LamX.takes0 (fun W pn xe tk _ => ?_) (fun a oe cls d pn hz hf => (pss_cons (ps_set (i := 2) sc_law_heard.nd rfl (Or.inl rfl) (pe_lst (pa_cons (pe_callB (cX hz hf) (by rfl) T.n_isinstance (by decide +kernel) (pa_cons (pv 1) (pa_cons (pe_glob (v := .ref cNotUsable) (by rfl) hNotUsable rfl) pa_nil))) (pa_cons (pe_callB (cX hz hf) (by rfl) T.n_isinstance (by decide +kernel) (pa_cons (pv 1) (pa_cons (pe_glob (v := .ref cNotHeld) (by rfl) hNotHeld rfl) pa_nil))) (pa_cons (pe_callB (cX hz hf) (by rfl) T.n_isinstance (by decide +kernel) (pa_cons (pv 1) (pa_cons (pe_glob (v := .ref cNotPossible) (by rfl) hNotPossible rfl) pa_nil))) pa_nil)))))
      (pss_cons (ps_expr (bmA (pv 2) (pa_cons (pe_callB (cX hz hf) (by rfl) T.n_isinstance (by decide +kernel) (pa_cons (pv 1) (pa_cons (pe_glob (v := .ref cInvalidPaper) (by rfl) hInvalidPaper rfl) pa_nil))) pa_nil) (by rfl) (by rfl)))
      (pss_cons (ps_set (i := 3) sc_law_heard.nd rfl (Or.inl rfl) (pe_lst (pa_cons (pe_callB (cX hz hf) (by rfl) T.n_isinstance (by decide +kernel) (pa_cons (pv 1) (pa_cons (pe_glob (v := .ref cShopError) (by rfl) hShopError rfl) pa_nil))) (pa_cons (pe_callB (cX hz hf) (by rfl) T.n_isinstance (by decide +kernel) (pa_cons (pv 1) (pa_cons (pe_glob (v := .ref cPaperError) (by rfl) hPaperError rfl) pa_nil))) (pa_cons (pe_callB (cX hz hf) (by rfl) T.n_isinstance (by decide +kernel) (pa_cons (pv 1) (pa_cons (pe_glob (v := .ref cLiveError) (by rfl) hLiveError rfl) pa_nil))) pa_nil)))))
      (pss_cons (ps_if (PW.pt (pw_or (pt_not (pt_val (pe_callB (cX hz hf) (by rfl) T.n_isinstance (by decide +kernel) (pa_cons (pv 1) (pa_cons (pe_bltn (v := .ty "ValueError") (by rfl) F.vE (by decide +kernel) rfl) pa_nil))))) (pw_or (pt_cmpR op_ne (bmC (pv 2) (pa_cons pe_bl pa_nil) (by rfl) (by rfl)) pe_int (nomark _)) (pw_or1 (pt_val (pe_callB (cX hz hf) (by rfl) T.n_isinstance (by decide +kernel) (pa_cons (pv 1) (pa_cons (pe_glob (v := .ref cTextError) (by rfl) hTextError rfl) pa_nil)))))))) (pss_one (ps_ret (pe_tup (pa_cons pe_str pa_nil)))) pss_nil)
      (pss_cons (ps_if (pt_cmpR (r := rNeD X.K) (op_neD hu) (pv 3) (pe_lst (pa_cons (pe_not (pe_ix (X := (hCx X g cdg s H).suite a ((a, oe) :: pn)) (r := rIxL X.K) ix_list (pv 2) pe_int (fun _ _ => rfl))) (pa_cons (pe_ix (X := (hCx X g cdg s H).suite a ((a, oe) :: pn)) (r := rIxL X.K) ix_list (pv 2) pe_int (fun _ _ => rfl)) (pa_cons pe_bl pa_nil)))) (nomark _)) (pss_one (ps_ret (pe_tup (pa_cons pe_str pa_nil)))) pss_nil)
      (pss_cons (ps_if (pt_val (pe_ix (X := (hCx X g cdg s H).suite a ((a, oe) :: pn)) (r := rIxL X.K) ix_list (pv 2) pe_int (fun _ _ => rfl))) (pss_one (ps_ret (pe_tup (pa_cons pe_str (pa_cons (xX F.ns hz hf (pv 1)) pa_nil))))) pss_nil)
      (pss_cons (ps_if (pt_val (pe_ix (X := (hCx X g cdg s H).suite a ((a, oe) :: pn)) (r := rIxL X.K) ix_list (pv 2) pe_int (fun _ _ => rfl))) (pss_one (ps_ret (pe_tup (pa_cons pe_str (pa_cons (xX I.na hz hf (pv 1)) pa_nil))))) pss_nil)
      (pss_one (ps_ret (pe_tup (pa_cons (pe_ifExp (pt_val (pe_ix (X := (hCx X g cdg s H).suite a ((a, oe) :: pn)) (r := rIxL X.K) ix_list (pv 2) pe_int (fun _ _ => rfl))) pe_str pe_str) (pa_cons (xX I.nw hz hf (pv 1)) (pa_cons (xX I.na hz hf (pv 1)) pa_nil))))))))))))))), ?_⟩
  · refine ⟨fun pins s' σ H' D J h' => ?_⟩
    obtain ⟨Ech, hW, h1⟩ := h'
    have hp := fun p1 p2 => act (fun c d (σ : L2.St) H => σ.length = 4 → W c d σ H) pn xe Ech p1 p2 (takes_len tk) (fun cls d σ' H' e l => hW cls d σ' H' e l)
    exact (pss_one (ps_ret (pe_tup (pa_cons pe_str (pa_cons (hp _ _) pa_nil))))).run pins s' σ H' D J h1
  · refine ⟨XHeard C Q, fun cls d σ' H' he hl => ?_, ?_⟩
    · obtain ⟨rfl, dd, rfl, hdd, q⟩ := he
      obtain ⟨x0, x1, x2, x3, rfl⟩ : ∃ a b c d, σ' = [a, b, c, d] := by
        match σ', hl with
        | [a, b, c, d], _ => exact ⟨a, b, c, d, rfl⟩
      refine ⟨true, eKE, fun _ a ha => ?_, fun e => by cases e⟩
      dsimp only [List.set]
      refine sq ?_
      refine s_lstN (ds := [.bool true, .bool false, .bool false]) (ea_cons (ed_isR rfl hdd eU) (ea_cons (ed_isR rfl hdd eH) (ea_cons (ed_isR rfl hdd eP) ea_nil))) (by show 3 ≤ 1000; omega) fun p vs H1 s1 h1 hp => ?_
      obtain ⟨v1, v2, v3, rfl, e1, e2, e3⟩ := h1.three
      obtain rfl := e1.bl_eq
      obtain rfl := e2.bl_eq
      obtain rfl := e3.bl_eq
      have pdd : p ≠ dd := fun z => by
        have := s1 _ _ hdd
        rw [← z, hp] at this
        cases this
      dsimp only [List.set]
      refine sq ?_
      refine s_app (i := 2) rfl upd_same (by show 3 ≤ 10000; omega) (ed_isR (b := false) rfl (by rw [upd_ne (Ne.symm pdd)]; exact s1 _ _ hdd) eI) fun x H2 s2 h2 => ?_
      obtain rfl := h2.bl_eq
      have hp2 := s2 _ _ (upd_same (H := H1) (a := p))
      have hdd2 : H2 dd = some (.xd (errFs "sales")) := s2 _ _ (by rw [upd_ne (Ne.symm pdd)]; exact s1 _ _ hdd)
      have S3 : Same H' (upd H2 p (.lst ([V.bl true, V.bl false, V.bl false] ++ [V.bl false]))) := fun z u hz => by
        have zp : z ≠ p := fun e => by
          have := s1 _ _ hz
          rw [e, hp] at this
          cases this
        rw [upd_ne zp]
        exact s2 _ _ (by rw [upd_ne zp]; exact s1 _ _ hz)
      have hdd3 := S3 _ _ hdd
      have hp3 : upd H2 p (.lst ([V.bl true, V.bl false, V.bl false] ++ [V.bl false])) p = some (.lst ([true, false, false, false].map V.bl)) := upd_same
      generalize upd H2 p (.lst ([V.bl true, V.bl false, V.bl false] ++ [V.bl false])) = H3 at S3 hdd3 hp3 ⊢
      have hL3 : DD H3 (.list [.bool true, .bool false, .bool false, .bool false]) (.ref p) := dd_lst hp3 (dds_cons dd_bl (dds_cons dd_bl (dds_cons dd_bl (dds_cons dd_bl dds_nil))))
      dsimp only
      refine sq ?_
      refine s_setD (d := .list [.bool true, .bool false, .bool false]) (ed_lst (ea_cons (ed_isR rfl hdd3 eS) (ea_cons (ed_isR rfl hdd3 eQ) (ea_cons (ed_isR rfl hdd3 eL) ea_nil))) (by show 3 ≤ 1000; omega)) fun vS H4 s4 hS => ?_
      have hdd4 := s4 _ _ hdd3
      have hp4 := s4 _ _ hp3
      have hL4 := DD.same s4 _ _ hL3
      dsimp only [List.set]
      refine sq ?_
      refine s_ifD (b := false) (ET.is (et_or (et_not (et_test (ed_isx (D := .ty "ValueError") rfl hdd4 F.kV (fun u e => e)))) fun _ => et_or (et_test (b := false) (ED.is (ed_neI (ed_cntB (i := 2) rfl hp4) ed_int) rfl)) fun _ => et_test (ed_isR rfl hdd4 eT)) rfl) (fun e => by cases e) fun _ H5 s5 => ?_
      have hdd5 := s5 _ _ hdd4
      have hL5 := DD.same s5 _ _ hL4
      have hS5 := DD.same s5 _ _ hS
      dsimp only [tNext]
      refine sq ?_
      refine s_ifD (b := false) (ET.is (et_test (ed_neD (ed_var (i := 3) rfl hS5) (ed_lst (ea_cons (ed_not (ed_ixL (j := 3) (ed_var (i := 2) rfl hL5) rfl)) (ea_cons (ed_ixL (j := 3) (ed_var (i := 2) rfl hL5) rfl) (ea_cons ed_bl ea_nil))) (by show 3 ≤ 1000; omega)) (by rfl) (by rfl))) rfl) (fun e => by cases e) fun _ H6 s6 => ?_
      have hdd6 := s6 _ _ hdd5
      have hL6 := DD.same s6 _ _ hL5
      dsimp only [tNext]
      refine sq ?_
      refine s_ifD (b := false) (et_test (ed_ixL (j := 1) (ed_var (i := 2) rfl hL6) rfl)) (fun e => by cases e) fun _ H7 s7 => ?_
      have hdd7 := s7 _ _ hdd6
      have hL7 := DD.same s7 _ _ hL6
      dsimp only [tNext]
      refine sq ?_
      refine s_ifD (b := false) (et_test (ed_ixL (j := 2) (ed_var (i := 2) rfl hL7) rfl)) (fun e => by cases e) fun _ H8 s8 => ?_
      have hdd8 := s8 _ _ hdd7
      have hL8 := DD.same s8 _ _ hL7
      dsimp only [tNext]
      refine s_retD (d := heardD) (ed_tup (ea_cons (ed_if (et_test (ed_ixL (j := 3) (ed_var (i := 2) rfl hL8) rfl)) (fun e => by cases e) (fun _ => ed_str)) (ea_cons (ed_xf rfl hdd8 rfl dd_str) (ea_cons (ed_xf rfl hdd8 rfl dd_int) ea_nil))) (by show 3 ≤ 1000; omega)) fun v H9 s9 h9 => ?_
      exact q v H9 (((((S3.trans s4).trans s5).trans s6).trans (s7.trans s8)).trans s9) h9
    · exact ⟨rfl, hc, h _⟩
end
end KL

/-! ## law -/
namespace KL
open PySem PySem.Spec PyProof.Rows L2
/-- lists and tuples stay -/
def KX (H H' : Hp) : Prop := ∀ b u, H b = some u → (∃ xs, u = .lst xs ∨ u = .tup xs) → H' b = some u
theorem KX.refl (H : Hp) : KX H H := fun _ _ h _ => h
theorem KX.trans {H H1 H2 : Hp} (a : KX H H1) (b : KX H1 H2) : KX H H2 := fun c u h n => b c u (a c u h n) n
theorem KD.kx {H H' : Hp} (e : KD H H') : KX H H' := fun b u h n => e b u h fun kvs z => by
  obtain ⟨xs, q | q⟩ := n <;> rw [q] at z <;> cases z
theorem Same.kx {H H' : Hp} (e : Same H H') : KX H H' := fun b u h _ => e b u h
theorem ext_kx {H H' : Hp} (e : LamX.ExtN H H') : KX H H' := fun b u h n => e b u h fun kvs z => by
  obtain ⟨xs, q | q⟩ := n <;> rw [q] at z <;> cases z
mutual
theorem DD.kx {H H' : Hp} (e : KX H H') : ∀ (d : PyData) (v : V), DD H d v → DD H' d v
  | .none, _, h => by simp only [DD] at h ⊢; exact h
  | .bool _, _, h => by simp only [DD] at h ⊢; exact h
  | .int _, _, h => by simp only [DD] at h ⊢; exact h
  | .str _, _, h => by simp only [DD] at h ⊢; exact h
  | .list ds, v, h => by
    obtain ⟨a, xs, h1, h2, h3⟩ := h.lst
    rw [h1]
    exact dd_lst (e _ _ h2 ⟨_, .inl rfl⟩) (DDs.kx e ds xs h3)
  | .tuple ds, v, h => by
    obtain ⟨a, xs, h1, h2, h3⟩ := h.tup
    rw [h1]
    exact dd_tup (e _ _ h2 ⟨_, .inr rfl⟩) (DDs.kx e ds xs h3)
  | .dict _, _, h => by simp only [DD] at h
theorem DDs.kx {H H' : Hp} (e : KX H H') : ∀ (ds : List PyData) (xs : List V), DDs H ds xs → DDs H' ds xs
  | [], _, h => by simp only [DDs] at h ⊢; exact h
  | d :: ds, xs, h => by
    simp only [DDs] at h ⊢
    obtain ⟨x, r, h1, h2, h3⟩ := h
    exact ⟨x, r, h1, DD.kx e d x h2, DDs.kx e ds r h3⟩
end
theorem tabs_kd {T : List (Addr × Str)} {H H' : Hp} (t : LamX.Tabs T H) (e : KD H H') : LamX.Tabs T H' := fun p hp => by
  obtain ⟨ps, h1, h2, h3⟩ := t p hp
  exact ⟨ps, e _ _ h1 (fun _ z => by cases z), h2, fun pos cv hc => by
    obtain ⟨c, a, b⟩ := h3 pos cv hc
    exact ⟨c, a, e _ _ b fun _ z => by unfold LamX.CodeO at z; cases z⟩⟩
theorem feed_ext {p : FP} {H H' : Hp} (h : Feed p H) (e : LamX.ExtN H H') : Feed p H' := by
  obtain ⟨a, b, c, h1, h2, h3⟩ := h
  exact ⟨a, b, c, e _ _ h1 (fun _ z => by cases z), e _ _ h2 (fun _ z => by cases z), h3⟩
section
variable {K : PySem.W.Frag} {p : FP} {σ : L2.St} {H : Hp} {ta te : TE} {aA : TA} {t : TT} {tb : TS} {D : Ends} {g : TG} {ds : List PyData} {vs : List Nat}
theorem s_forX (hs : ED te σ H (.list ds)) (Pv : Nat → L2.St → Hp → Prop) (h0 : ∀ H1, Same H H1 → Pv 0 σ H1)
    (step : ∀ i d x σ' H', ds[i]? = some d → DD H' d x → Pv i σ' H' → ∀ N : L2.St → Hp → Prop, (∀ s h, KX H' h → Pv (i + 1) s h → N s h) → g x σ' H' fun σ2 H2 => tb { D with nx := N, ct := N, bk := D.nx } σ2 H2)
    (hd : ∀ σ' H', Pv ds.length σ' H' → D.nx σ' H') : tFor (iList K te) g tb D σ H :=
  hs H (L2.Same.refl H) _ fun v H2 m2 h2 => by
    obtain ⟨a, xs, rfl, hx, hr⟩ := h2.lst
    refine ⟨a, rfl, ⟨xs, .inl (.inl hx)⟩, ?_⟩
    have hlen := hr.length
    refine for_it (walk_list (xs := xs)) (fun i s h => KX H2 h ∧ Pv i s h) ⟨KX.refl _, h0 H2 m2⟩ (fun i s h _ p => .inl (.inl (p.1 _ _ hx ⟨_, .inl rfl⟩))) (fun i x s h h' hi p y => ?_) fun s h p => hd s h (by rw [← hlen]; exact p.2)
    obtain ⟨rfl, hx'⟩ := y
    obtain ⟨d, hd', hdx⟩ := hr.back hx'
    exact step i d x s _ hd' (DD.kx p.1 _ _ hdx) p.2 _ fun s2 h2 k q => ⟨p.1.trans k, q⟩
theorem ge_lcR {n : Nat} {P : PyData → Prop} (hs : ∀ H1, LF p H H1 → EA aA σ H1 [.int (n : Int)]) (hn : n ≤ 1000) (hlf : ∀ e, P e → lf e = true)
    (turn : ∀ i : Nat, i < n → TurnG p g t te vs σ H (.int (i : Int)) (fun o => ∃ e, o = some e ∧ P e)) : GE p (tLc (iRng1 aA) g t te vs) σ H (fun d => ∃ es, d = .list es ∧ es.length = n ∧ ∀ e ∈ es, P e) := fun H1 m Q q =>
  hs H1 m H1 (L2.Same.refl _) _ fun vs2 H2 m2 h2 => by
    obtain ⟨v, rfl, hv⟩ := h2.one
    obtain rfl := hv.int_eq
    have F2 : Feed p H2 := m.b.same m2
    refine ⟨(n : Int), rfl, by omega, by omega, fun C hC => ?_⟩
    rw [Int.toNat_natCast]
    refine lc_range (fun i G => LF p H2 G ∧ ∃ acc es, G C = some (.lst acc) ∧ DDs G es acc ∧ lfs es = true ∧ es.length = i ∧ ∀ e ∈ es, P e) ⟨LF.of_same F2 (Same.new hC), [], [], upd_same, dds_nil, rfl, rfl, fun e he => by cases he⟩ ?_ ?_
    · rintro i G hi ⟨z, acc, es, hacc, hes, hle, hl, hP⟩
      have nC : p.f ≠ C := fun e => by
        obtain ⟨_, _, _, h1, _⟩ := F2
        rw [← e, h1] at hC
        cases hC
      rw [Int.zero_add]
      refine turn i hi _ _ ((m.same m2).trans z) dd_int _ _ (fun H3 y3 ⟨e, r, _⟩ => by cases r) (fun w H3 e y3 ⟨e', r, hp⟩ hw => ⟨acc, y3.k _ _ (Ne.symm nC) hacc, ?_, (z.trans y3).mut hC, acc ++ [w], es ++ [e], upd_same, ?_, ?_, ?_, ?_⟩)
      · have l2 := hes.length
        rw [sizeLine_eq]
        omega
      · obtain rfl := Option.some.inj r
        have kt : KT H3 (upd H3 C (.lst (acc ++ [w]))) := KT.updL (y3.k _ _ (Ne.symm nC) hacc)
        exact DDs.snoc (DDs.kt kt _ _ hle (y3.dds hes)) (DD.kt kt _ _ (hlf e hp) hw)
      · obtain rfl := Option.some.inj r
        exact lfs_snoc hle (hlf e hp)
      · rw [List.length_append, hl]
        rfl
      · obtain rfl := Option.some.inj r
        intro e2 he2
        rcases List.mem_append.mp he2 with q | q
        · exact hP e2 q
        · rw [List.mem_singleton.mp q]
          exact hp
    · rintro G ⟨z, acc, es, hacc, hes, _, hl, hP⟩
      exact q (.list es) _ G ⟨es, rfl, hl, hP⟩ ((LF.of_same m.b m2).trans z) (dd_lst hacc hes)
end
theorem s_ifX {te : TE} {t u : TS} {D : Ends} {σ : L2.St} {H : Hp} (h : te σ H fun x H1 => ∃ k, x = .bl k ∧ (if k = true then t D σ H1 else u D σ H1)) : tIfS (tTest te) t u D σ H := h
theorem op_x {r : R2} {ta tb : TE} {σ : L2.St} {H : Hp} {Q : VK} (h : ta σ H fun x H1 => tb σ H1 fun y H2 => r x y H2 Q) : tOp r ta tb σ H Q := h
theorem lf_row (r : AL) : lf (.tuple (r.map encP)) = true := by
  show lfs (r.map encP) = true
  induction r with
  | nil => rfl
  | cons q r ih =>
    show (lf (encP q) && lfs (r.map encP)) = true
    rw [ih]
    rfl
theorem pk_none {R : PyData → Option PyData → Prop} {ds es : List PyData} (h : Pk R ds es) (n : ∀ d e, ¬ R d (some e)) : es = [] := by
  induction h with
  | nil => rfl
  | skip _ _ ih => exact ih
  | take _ r _ => exact absurd r (n _ _)
def spLawS (K : PySem.W.Frag) : Sp := fun vs H Q _ => ∃ (a : Addr) (ns : List Int), vs = [.ref a] ∧ SqL K H a (ns.map V.int) ∧ ∀ H', Q (.bl true) H'
theorem sclaw : FnScope ["_law_script", "_law_feed_here", "_law_lap", "_law_rows", "_law_kept", "_law_odd", "_law_store", "_law_turn", "_law_wish"] ["_law_script"] (defScope s_law) := ⟨rfl, rfl, rfl, by decide +kernel, rfl, by decide +kernel, by decide +kernel⟩
section
variable {P : Program} {w : World} {K : PySem.W.Frag} {mg : Str → Option Value} {base : Heap} {C : Addr}
theorem run_law (T : Txt K mg) (NE : ErrT P K mg C) (HF : HeardF K mg C) {fa c tA : Addr} {oc : Value} {od an : Option Addr} {kV doc pm ct : Value} {osl : Array (Option Value)}
    (lk : K.lookup fa = some ⟨oc, od, .func (PySem.W.fnOf "law" "law" (defArgs s_law) (defBody s_law) (defScope s_law) .none kV doc pm an (.ref c) ct), osl⟩) (hcd : PySem.W.codeIn K (.ref c) "law" = true) (TB : LamX.TabB base mg c tA)
    {A : Around} {outer : List Env} {s : Shared} {H : Hp} (hr : Room 9 A) (hG0 : A.guards = some []) (e0 : Env0 P w K mg base A outer s H) (htA : H tA = some (.tbl #[])) {a : Addr} {ns : List Int} (hs : SqL K H a (ns.map V.int)) :
    codeAny (model P w) A (.call (.ref fa) ⟨[.ref a], []⟩) (CR CX0 outer P w H s (fun v _ => v = .bl true) fun _ _ _ => False) s := by
  have kin : K.In s.heap := e0.mod.kin.keeps fun b o e => (e0.bs b o e).1
  have hb : L2.Binds K (PySem.W.fnOf "law" "law" (defArgs s_law) (defBody s_law) (defScope s_law) .none kV doc pm an (.ref c) ct) ["_law_script"] [] := .all fun us hl => match us, hl with | [_], _ => rfl
  refine LamX.run_ofS lk hcd sclaw (us := [.ref a]) (vs := [.ref a]) (ps := ["_law_script"]) hr e0 (hb s [.ref a] kin rfl) (.cons rfl .nil) rfl fun hr => ?_
  have hG : (cxOf CX0 P w K mg base ["_law_script", "_law_feed_here", "_law_lap", "_law_rows", "_law_kept", "_law_odd", "_law_store", "_law_turn", "_law_wish"] "law" (defScope s_law) fa (.ref c) A outer s H (fun _ _ _ => False)).nox.A.guards = some [] := hG0
  obtain ⟨gH, fdH, FH, hmH⟩ := T.a__law_heard.ex
  have bH := FH.binds (ps := ["_law_ask"]) (fun _ _ _ _ _ _ us hl => match us, hl with | [_], _ => rfl)
  have kpH := FH.kp
  obtain ⟨ocH, odH, kVH, docH, pmH, anH, cdvH, ctH, oslH, rfl, lkH, hcH⟩ := FH.ex
  have IN : ∃ fI fd, IniC P K C fI fd := by obtain ⟨fI, fd, I, _⟩ := NE.ini; exact ⟨fI, fd, I⟩
  let TT0 : List (Addr × Str) := [(tA, (envOfC "law" (defScope s_law) s.heap.objs.size fa (.ref c)).qual ++ "<lambda>")]
  refine ⟨_, PSs.nox (X := (cxOf CX0 P w K mg base ["_law_script", "_law_feed_here", "_law_lap", "_law_rows", "_law_kept", "_law_odd", "_law_store", "_law_turn", "_law_wish"] "law" (defScope s_law) fa (.ref c) A outer s H (fun _ _ _ => False))) (pss_cons (ps_set (i := 1) sclaw.nd rfl (Or.inr rfl) (pe_d (d__law_feed T) hr (by decide) (by rfl) pass0 (pa_cons (pv 0) pa_nil)))
      (pss_cons (ps_for PassesOwn.never rfl (pi_range1 (by rfl) T.n_range (pa_cons pe_int pa_nil)) (pg_name (i := 2) sclaw.nd rfl (Or.inl rfl)) (pss_cons (ps_set (i := 6) sclaw.nd rfl (Or.inr rfl) (pe_d (d__law_shop T) hr (by decide) (by rfl) pass0 (pa_cons (pv 1) (pa_cons pe_int pa_nil))))
      (pss_cons (ps_setLc (i := 3) rfl sclaw.nd rfl rfl (sw_true rfl rfl rfl (by decide +kernel)) (pi_range1 (by rfl) T.n_range (pa_cons pe_int pa_nil)) (blkOk_by (own := [("_law_turn", 7)]) (N := ["_law_script", "_law_feed_here", "_law_lap", "_law_rows", "_law_kept", "_law_odd", "_law_store", "_law_turn", "_law_wish"]) (sc := defScope s_law) (by decide +kernel)) (fun _ _ _ _ _ => (pg_name (i := 7) sclaw.nd rfl (Or.inl rfl) (hf := Or.inr rfl))) (fun _ _ _ _ _ => pts_nil) (fun _ _ _ _ _ => (pe_d (d__law_row T) hr (by decide) (by rfl) pass0 (pa_cons (pv 1) (pa_cons (pv 6) (pa_cons (pe_d (d__law_any T) hr (by decide) (by rfl) pass0 (pa_cons (pv 1) (pa_cons (pe_lst (pa_cons pe_int (pa_cons pe_int (pa_cons pe_int pa_nil)))) pa_nil))) pa_nil))))))
      (pss_cons (ps_set (i := 4) sclaw.nd rfl (Or.inl rfl) (pe_callB (call_reprD hG hr.units) (by rfl) T.n_repr (by decide +kernel) (pa_cons (pe_lst (pa_cons (pv 6) (pa_cons (pv 3) pa_nil))) pa_nil)))
      (pss_cons (ps_if (pt_cmpR (op_neD hr.units) (pe_lc rfl sclaw.nd (pi_list (pv 3)) (blkOk_by (own := [("_law_wish", 8)]) (N := ["_law_script", "_law_feed_here", "_law_lap", "_law_rows", "_law_kept", "_law_odd", "_law_store", "_law_turn", "_law_wish"]) (sc := defScope s_law) (by decide +kernel)) (fun _ _ _ _ _ => (pg_name (i := 8) sclaw.nd rfl (Or.inl rfl) (hf := Or.inr rfl))) (fun _ _ _ _ _ => (pts_one (pt_not (pt_val (pe_dG (E := fun _ _ _ => False) (d__law_is_right T NE) hr (by decide) hG (by rfl) (pa_cons (pv 1) (pa_cons (pv 6) (pa_cons (pv 8) pa_nil)))))))) (fun _ _ _ _ _ => (pv 8))) (pe_lst pa_nil) (nomark _)) (pss_one (ps_ret pe_bl)) pss_nil)
      (pss_cons (ps_for PassesOwn.never rfl (pi_list (pe_d (d__law_odd_rows T) hr (by decide) (by rfl) pass0 (pa_cons (pv 6) (pa_cons (pe_ix ix_list (pv 3) pe_int (fun _ _ => rfl)) pa_nil)))) (pg_name (i := 5) sclaw.nd rfl (Or.inr rfl)) (pss_one (ps_if (pt_cmpR op_ne (pe_callB (call_reprD hG hr.units) (by rfl) T.n_repr (by decide +kernel) (pa_cons (LamX.pe_lamcall (T := TT0) (TT := TTH C) (k := 6) (by rfl) hmH kpH lkH hcH bH sc_law_heard rfl (.inl rfl) (heard_gives T IN HF (hr.mono (by decide))) TB rfl (List.mem_singleton.mpr rfl) (fun p hp _ => by rw [List.mem_singleton.mp hp]; rfl) hr (LamX.lamS_by (by show LamX.lamSB (defScope s_law) _ = true; decide +kernel)) (by rfl) (fun _ _ _ _ _ => rfl) (fun A outer s H E f c hr => pe_d (d_netted T NE).d hr (by decide) (by rfl) (passes_call (takes_of rfl rfl rfl rfl) fun _ _ _ _ h => h) (pa_cons (pv 6) (pa_cons (pv 5) pa_nil)))) pa_nil)) (pe_callB (call_reprD hG hr.units) (by rfl) T.n_repr (by decide +kernel) (pa_cons (pe_tup (pa_cons pe_str (pa_cons pe_str (pa_cons (pe_un un_neg pe_int) pa_nil)))) pa_nil)) (nomark _)) (pss_one (ps_ret pe_bl)) pss_nil)))
      (pss_one (ps_if (pt_cmpR op_ne (pe_callB (call_reprD hG hr.units) (by rfl) T.n_repr (by decide +kernel) (pa_cons (pe_lst (pa_cons (pv 6) (pa_cons (pv 3) pa_nil))) pa_nil)) (pv 4) (nomark _)) (pss_one (ps_ret pe_bl)) pss_nil))))))))
      (pss_one (ps_ret pe_bl)))), ?_⟩
  have hT : LamX.Tabs TT0 H := fun p hp => by rw [List.mem_singleton.mp hp]; exact LamX.TabS.nil htA
  refine sq ?_
  refine ⟨.ref a, rfl, a, ns, rfl, hs, fun p H1 s1 hn F => ?_⟩
  have hT1 := hT.ext s1
  refine s_forR (n := 3) (ea_cons ed_int ea_nil) (by omega) (fun _ σ' H' => Feed p H' ∧ LamX.Tabs TT0 H' ∧ ∃ o2 o3 o4 o5 o6, σ' = [some (.ref a), some (.ref p.f), o2, o3, o4, o5, o6, none, none])
    (fun H2 s2 => ⟨F.same s2, hT1.ext s2, _, _, _, _, _, rfl⟩) (fun i σ' H2 hi ⟨F2, hT2, o2, o3, o4, o5, o6, eσ⟩ N hN => ?_) fun σ' H2 _ => ?_
  · subst eσ
    dsimp only
    refine sq ?_
    refine ⟨.ref p.f, rfl, p, rfl, F2, fun S vS H3 g L3 hS => ?_⟩
    have hT3 := tabs_kd hT2 L3.kd
    have F3 := L3.b
    have sz := g.ok.sz
    dsimp only
    refine sq ?_
    refine s_setG (σ := [some (.ref a), some (.ref p.f), some (.int (i : Int)), o3, o4, o5, some vS, none, none]) (P := fun d => ∃ es, d = .list es ∧ es.length = 3 ∧ ∀ e ∈ es, ∃ r : AL, e = .tuple (r.map encP) ∧ RowOk S 61 r) F3
      (ge_lcR (n := 3) (fun _ _ => ea_cons ed_int ea_nil) (by omega) (fun e ⟨r, q, _⟩ => by rw [q]; exact lf_row r) fun j hj => ?_) fun d vR H4 ⟨es, ed, el, er⟩ L4 hR => ?_
    · refine turnG_n (P := fun e => ∃ r : AL, e = .tuple (r.map encP) ∧ RowOk S 61 r) (fun _ => rfl) (fun x H5 L5 hx => ?_) fun e he => ⟨e, rfl, he⟩
      refine fun H6 L6 Q q => ⟨.ref p.f, rfl, vS, rfl, ?_⟩
      refine ge_any (σ := [some (.ref a), some (.ref p.f), some (.int (i : Int)), o3, o4, o5, some vS, some x, none]) (ds := [.int 3, .int 9, .int 61]) (i := 1) rfl (fun H7 L7 => ed_lst (ea_cons ed_int (ea_cons ed_int (ea_cons ed_int ea_nil))) (by show 3 ≤ 1000; omega)) (by simp) (by show 3 ≤ 1000; omega) H6 (LF.refl L6.b) _ fun d7 v7 H7 hd7 L7 hv7 => ?_
      have key : ∃ hi : Int, d7 = .int hi ∧ 1 ≤ hi ∧ hi ≤ 61 := by
        rcases List.mem_cons.mp hd7 with e | hd7
        · exact ⟨3, e, by omega, by omega⟩
        rcases List.mem_cons.mp hd7 with e | hd7
        · exact ⟨9, e, by omega, by omega⟩
        rcases List.mem_cons.mp hd7 with e | hd7
        · exact ⟨61, e, by omega, by omega⟩
        · cases hd7
      obtain ⟨hi, rfl, h1, h2⟩ := key
      obtain rfl := hv7.int_eq
      exact ⟨p, S, hi, vS, rfl, L7.b, sz, ((L5.trans L6).trans L7).dd hS, h1, by omega, fun r v H8 hk hv L8 hd => q _ v H8 ⟨r, rfl, row_of g.ok hk fun q hq => by have := hv q hq; omega⟩ (L7.trans L8) hd⟩
    subst ed
    obtain ⟨r0, er0, rk0⟩ := er (es.getD 0 .none) (by
      cases es with
      | nil => simp at el
      | cons e es => exact List.mem_cons_self)
    have e0 : es[0]? = some (.tuple (r0.map encP)) := by
      cases es with
      | nil => simp at el
      | cons e es => rw [← er0]; rfl
    have rl0 := row_len g rk0
    have hT4 := tabs_kd hT3 L4.kd
    have hS4 := L4.dd hS
    have rdR0 : RD (3 * (2660 + 1)) (3 + 1) (.list es) := rd_list (fun d hd => by
      obtain ⟨r, q, rk⟩ := er d hd
      rw [q]
      exact rd_row g rk (by omega) (row_len g rk)) (Nat.le_of_eq el)
    have rdR : RD 10000 6 (.list es) := rdR0.mono (by omega) (by omega)
    have rdA : RD 50000 7 (.list [encS S, .list es]) := ((rds_cons (rd_shop g) (rds_cons rdR rds_nil)).list).mono (by omega) (by omega)
    dsimp only
    refine sq ?_
    refine s_setD (σ := [some (.ref a), some (.ref p.f), some (.int (i : Int)), some vR, o4, o5, some vS, none, none]) (d := .str (PyData.list [encS S, .list es]).shown) (ed_repr (ed_lst (ea_cons (ed_var (i := 6) rfl hS4) (ea_cons (ed_var (i := 3) rfl hR) ea_nil)) (by show 2 ≤ 1000; omega)) rdA (by omega) (by omega)) fun vK H5 s5 hK => ?_
    have hT5 := hT4.ext s5
    have hS5 := DD.same s5 _ _ hS4
    have hR5 := DD.same s5 _ _ hR
    have F5 := L4.b.same s5
    dsimp only
    refine sq ?_
    refine s_ifX (op_x ?_)
    refine ge_lcL (σ := [some (.ref a), some (.ref p.f), some (.int (i : Int)), some vR, some vK, o5, some vS, none, none]) (R := fun _ o => o = none) (pd_var (i := 3) rfl hR5) (by omega) (fun _ _ _ z => by cases z) (fun d hd x H7 L7 hx Nx Kp k1 k2 => ?_) H5 (LF.refl F5) _ fun d6 v6 H6 ⟨es6, e6, pk6⟩ L6 h6 => ?_
    · obtain ⟨r, rfl, rk⟩ := er d hd
      refine ⟨rfl, .ref p.f, rfl, vS, rfl, x, rfl, p, S, r, vS, x, rfl, L7.b, g, rk, row_len g rk, L7.dd hS5, hx, fun H8 L8 => ⟨true, rfl, ?_⟩⟩
      exact iteF (k1 H8 L8 rfl)
    obtain rfl := pk_none pk6 (fun _ _ z => by cases z)
    subst e6
    have ev : (!PyData.eqv (.list []) (.list [])) = false := by rw [eqv_nil]; rfl
    refine ed_lst (σ := [some (.ref a), some (.ref p.f), some (.int (i : Int)), some vR, some vK, o5, some vS, none, none]) ea_nil (by decide) H6 (L2.Same.refl _) _ fun v7 H7 s7 h7 => ?_
    refine ⟨.list [], .list [], DD.dp _ _ (DD.same s7 _ _ h6), DD.dp _ _ h7, by rfl, by rfl, _, rfl, ?_⟩
    rw [ev]
    refine iteF ?_
    have L57 := L6.same s7
    have F7 := L57.b
    have hT7 := tabs_kd hT5 L57.kd
    have hS7 := L57.dd hS5
    have hR7 := L57.dd hR5
    have hK7 := L57.dd hK
    dsimp only [tNext]
    refine sq ?_
    have rdH : RD 1000 10 heardD := ((rds_cons (rd_str (w := 8) (k := 1) (by decide +kernel) (by omega) (by omega)) (rds_cons (rd_str (w := 8) (k := 1) (by decide +kernel) (by omega) (by omega)) (rds_cons (rd_int (w := 65) (k := 1) (by decide) (by omega) (by omega)) rds_nil))).tuple).mono (by omega) (by omega)
    refine s_forX (ds := oddD S r0) (ed_call (ea_cons (ed_var (i := 6) rfl hS7) (ea_cons (ed_ixL (j := 0) (ed_var (i := 3) rfl hR7) e0) ea_nil)) ⟨S, r0, rfl, sz, g.ne, fun n hn => ?_, by omega, rfl⟩)
      (fun _ σ' H' => Feed p H' ∧ LamX.Tabs TT0 H' ∧ KX H7 H' ∧ ∃ o5, σ' = [some (.ref a), some (.ref p.f), some (.int (i : Int)), some vR, some vK, o5, some vS, none, none]) (fun H8 s8 => ⟨F7.same s8, hT7.ext s8, Same.kx s8, _, rfl⟩)
      (fun j d x σ' H8 hd hx ⟨F8, hT8, kx8, o5, eσ⟩ N8 hN8 => ?_) fun σ' H8 ⟨F8, hT8, kx8, o5, eσ⟩ => ?_
    · have := name_len (g.nm n (by
        rcases List.mem_append.mp hn with z | z
        · exact List.mem_append_left _ (List.mem_append_left _ z)
        · exact List.mem_append_right _ z)).1
      omega
    · subst eσ
      obtain ⟨od1, od2⟩ := odd_ok g rk0 (by omega) d (List.mem_of_getElem? hd)
      refine ⟨hT8, fun H9 eN hT9 Q' => ⟨vS, rfl, x, rfl, S, d, vS, x, rfl, g.ok, od2, DD.kx (kx8.trans (ext_kx eN)) _ _ hS7, DD.kx (ext_kx eN) _ _ hx, fun e => (by rw [od1] at e; cases e), fun _ dd H10 s10 h10 => ⟨rfl, dd, rfl, h10, fun v H11 s11 h11 => ?_⟩⟩⟩
      obtain ⟨b, xs, rfl, _, _⟩ := (show DD H11 (.tuple [.str "use", .str "sales", .int (-1)]) v from h11).tup
      refine ⟨b, heardD, rfl, DD.dp _ _ h11, rdH.sh, rdH.nd, Nat.le_trans rdH.dp (by omega), rdH.len (by omega), ?_⟩
      refine ed_reprT (σ := [some (.ref a), some (.ref p.f), some (.int (i : Int)), some vR, some vK, some x, some vS, none, none]) (ds := [.str "use", .str "sales", .int (-1)]) (ed_tup (ea_cons ed_str (ea_cons ed_str (ea_cons ed_neg ea_nil))) (by show 3 ≤ 1000; omega)) rdH (by omega) (by omega) H11 (L2.Same.refl _) _ fun v12 H12 s12 h12 => ?_
      obtain rfl := h12.str_eq
      refine ⟨rfl, _, rfl, ?_⟩
      rw [show (!decide (V.str heardD.shown = V.str (PyData.tuple [.str "use", .str "sales", .int (-1)]).shown)) = false by rw [show V.str heardD.shown = V.str (PyData.tuple [.str "use", .str "sales", .int (-1)]).shown from rfl, decide_eq_true rfl]; rfl]
      refine iteF ?_
      have s912 : Same H9 H12 := (s10.trans s11).trans s12
      exact hN8 _ _ ((ext_kx eN).trans (Same.kx s912)) ⟨(feed_ext F8 eN).same s912, hT9.ext s912, (kx8.trans (ext_kx eN)).trans (Same.kx s912), _, rfl⟩
    · subst eσ
      refine s_ifD (b := false) (et_test (ED.is (ed_neS (ed_repr (ed_lst (ea_cons (ed_var (i := 6) rfl (DD.kx kx8 _ _ hS7)) (ea_cons (ed_var (i := 3) rfl (DD.kx kx8 _ _ hR7)) ea_nil)) (by show 2 ≤ 1000; omega)) rdA (by omega) (by omega)) (ed_var (i := 4) rfl (DD.kx kx8 _ _ hK7))) (by rw [decide_eq_true rfl]; rfl))) (fun e => by cases e) fun _ H9 s9 => ?_
      dsimp only [tNext]
      exact hN _ _ ⟨F8.same s9, hT8.ext s9, _, _, _, _, _, rfl⟩
  · exact (rfl : V.bl true = V.bl true)
end
end KL

/-! ## the join -/
namespace KL
open PySem PySem.Spec PyProof.Rows L2
section
variable {P : Program} {w : World} {K : PySem.W.Frag} {mg : Str → Option Value} {h : Heap}
theorem at_mk {x : Str} {st : Stmt} {f : Addr} {oc : Value} {od an : Option Addr} {osl : Array (Option Value)} {kV doc pm cdv ct : Value} (X : K.In h) (G : h.Ns mainGlobals mg) (a : PySem.W.nsIn K mainGlobals x = some (some (.ref f)))
    (l : K.lookup f = some ⟨oc, od, .func (PySem.W.fnOf x x (defArgs st) (defBody st) (defScope st) .none kV doc pm an cdv ct), osl⟩) (c : PySem.W.codeIn K cdv x = true) (k : PySem.W.keepIn K (.ref f) = true) : At K mg x st := ⟨f, _, fun_mk l c k, PySem.W.mg_of X G a⟩
theorem kit_self {C : Addr} : PySem.W.kitOne K (.ref C) (.ref C) = some true := by
  unfold PySem.W.kitOne
  rw [if_pos (beq_self_eq_true _)]
theorem kit_ref {C D : Addr} {b : Bool} (ne : (Value.ref C == Value.ref D) = false) (hd : PySem.W.hasDictIn K D = true) (ht : PySem.W.typeIn K (.ref D) = some (.type "type")) (hs : PySem.W.subIn K (.ref C) (.ref D) = some b) : PySem.W.kitOne K (.ref C) (.ref D) = some b := by
  obtain ⟨cd, hc, _⟩ := PySem.W.any_some hd
  have e2 : ((PySem.W.clsIn K D).isSome && PySem.W.typeIn K (.ref D) == some (.type "type")) = true := by rw [hc, ht] <;> rfl
  unfold PySem.W.kitOne
  rw [ne, if_neg Bool.false_ne_true]
  show (if ((PySem.W.clsIn K D).isSome && PySem.W.typeIn K (.ref D) == some (.type "type")) = true then PySem.W.subIn K (.ref C) (.ref D) else none) = some b
  rw [if_pos e2]
  exact hs
theorem withH {p q : Prop} (h : p) (k : p → q) : q := k h
theorem str_mk {x : Str} {y : Str} {t : Tok} (X : K.In h) (G : h.Ns mainGlobals mg) (a : PySem.W.nsIn K mainGlobals x = some (some (.str y t))) : ∃ u, mg x = some u ∧ RelV (.str y) u := ⟨_, PySem.W.mg_of X G a, t, rfl⟩
theorem int_mk {x : Str} {y : Int} {t : Tok} (X : K.In h) (G : h.Ns mainGlobals mg) (a : PySem.W.nsIn K mainGlobals x = some (some (.int y t))) : ∃ u, mg x = some u ∧ RelV (.int y) u := ⟨_, PySem.W.mg_of X G a, t, rfl⟩
theorem kit_rt {C : Addr} {T : String} {b : Bool} (hm : PySem.W.kitMeta T = true) (hs : PySem.W.subIn K (.ref C) (.type T) = some b) : PySem.W.kitOne K (.ref C) (.type T) = some b := by
  unfold PySem.W.kitOne
  rw [show (Value.ref C == Value.type T) = false from rfl, if_neg Bool.false_ne_true]
  show (if PySem.W.kitMeta T = true then PySem.W.subIn K (.ref C) (.type T) else none) = some b
  rw [if_pos hm]
  exact hs
theorem cls_mk {C D : Addr} {x : Str} {b : Bool} (X : K.In h) (G : h.Ns mainGlobals mg) (a : PySem.W.nsIn K mainGlobals x = some (some (.ref D))) (ne : (Value.ref C == Value.ref D) = false) (hd : PySem.W.hasDictIn K D = true) (ht : PySem.W.typeIn K (.ref D) = some (.type "type")) (hs : PySem.W.subIn K (.ref C) (.ref D) = some b) :
    ∃ D, mg x = some (.ref D) ∧ PySem.W.kitOne K (.ref C) (.ref D) = some b := ⟨D, PySem.W.mg_of X G a, kit_ref ne hd ht hs⟩
theorem exm_mk {C D : Addr} {x : Str} (X : K.In h) (G : h.Ns mainGlobals mg) (a : PySem.W.nsIn K mainGlobals x = some (some (.ref D))) (h1 : PySem.W.subIn K (.ref D) (.type "BaseException") = some true) (hd : PySem.W.hasDictIn K D = true) (ht : PySem.W.typeIn K (.ref D) = some (.type "type")) (hs : PySem.W.subIn K (.ref C) (.ref D) = some true) :
    ∃ D, mg x = some (.ref D) ∧ PySem.W.exmOne K (.ref C) (.ref D) = some true := ⟨D, PySem.W.mg_of X G a, PySem.W.exm_ref h1 hd ht hs⟩
theorem oex_mk {C N : Addr} {nm q : Str} {bs bm : List Value} {sn : List Str} {sub : List Value} {ab : Bool} {col : Option Bool} {dd : Option Addr} {k0 k1 k2 k3 k5 : Option Value} (cls : K.lookup C = some (excClassObj nm q C N bs bm true sn sub ab col dd k0 k1 k2 k3 k5 "ValueError.__new__")) (bmk : PySem.HandSPX.refsVE bm = true)
    (sa : PySem.W.findIn K (.ref C) "__setattr__" = some (some (.builtin "object.__setattr__"))) (exC : PySem.W.subIn K (.ref C) (.type "BaseException") = some true) (tyC : PySem.W.typeIn K (.ref C) = some (.type "type")) (kC : PySem.W.keepIn K (.ref C) = true) : OexC K C :=
  ⟨⟨nm, q, N, bs, bm, sn, sub, ab, col, dd, k0, k1, k2, k3, k5, cls, bmk⟩, sa, exC, tyC, kC⟩
theorem sup_mk {C : Addr} {cd : ClassData} (c : PySem.W.clsIn K C = some cd) (a : PySem.W.alongIn K "__init__" ((cd.mro.dropWhile (· != .ref C)).drop 1) = some (some (.builtin "ValueError.__init__"))) :
    ∃ cd, PySem.W.clsIn K C = some cd ∧ PySem.W.alongIn K "__init__" ((cd.mro.dropWhile (· != .ref C)).drop 1) = some (some (.builtin "ValueError.__init__")) := ⟨cd, c, a⟩
theorem err_mk {C : Addr} (X : K.In h) (G : h.Ns mainGlobals mg) (i : ∃ fI fd, IniC P K C fI fd ∧ Binds K fd ["self", "word", "at"] []) (a : PySem.W.nsIn K mainGlobals "NotUsable" = some (some (.ref C))) : ErrT P K mg C := ⟨i, PySem.W.mg_of X G a⟩
theorem ini_mk {C fI cda cc : Addr} {oc doc pm ct ccl cl : Value} {od an cdd cld : Option Addr} {osl ccs csl : Array (Option Value)} {vs : Array Value} {file : Str} {tf : Tok}
    (ox : OexC K C) (lkI : PySem.W.findIn K (.ref C) "__init__" = some (some (.ref fI))) (tyI : PySem.W.typeIn K (.ref fI) = some (.type "function"))
    (lk : K.lookup fI = some ⟨oc, od, .func (PySem.W.ksFn "__init__" "NotUsable.__init__" (defArgs s_ini) (defBody s_ini) (defScope s_ini) .none .none doc pm an (.ref cda) ct cc), osl⟩) (hcd : PySem.W.codeIn K (.ref cda) "NotUsable.__init__" = true)
    (lcd : K.lookup cda = some ⟨ccl, cdd, .fields vs, ccs⟩) (hfs : vs[2]? = some (.str file tf)) (hfile : ((P.main.file : Str) == file) = true) (lcc : K.lookup cc = some ⟨cl, cld, .cell (some (.ref C)), csl⟩)
    (opq : PySem.W.nsIn K cStatics "thirdparty.any" = some none) (sup : ∃ cd, PySem.W.clsIn K C = some cd ∧ PySem.W.alongIn K "__init__" ((cd.mro.dropWhile (· != .ref C)).drop 1) = some (some (.builtin "ValueError.__init__")))
    (mrC : PySem.W.mroIn K C (.ref C) = some true) (mrV : PySem.W.mroIn K C (.type "ValueError") = some true) (top : (P.main.scope.names.lookup ("super" : Str)).isSome = false) (nw : PySem.W.findIn K (.ref C) "word" = some none) (na : PySem.W.findIn K (.ref C) "at" = some none) :
    ∃ fI fd, IniC P K C fI fd ∧ Binds K fd ["self", "word", "at"] [] :=
  ⟨fI, _, ⟨ox, lkI, tyI, ⟨oc, od, .none, .none, doc, pm, an, ct, osl, cc, cda, ccl, cdd, vs, ccs, file, tf, cl, cld, csl, rfl, lk, hcd, lcd, hfs, hfile, lcc⟩, opq, sup, mrC, mrV, top, nw, na⟩, .all fun us hl => match us, hl with | [_, _, _], _ => rfl⟩
structure FactsAll (P : Program) (K : PySem.W.Frag) (mg : Str → Option Value) (C fa c tA : Addr) : Prop where
  txt : Txt K mg
  err : ErrT P K mg C
  hrd : HeardF K mg C
  hfa : mg "law" = some (.ref fa)
  law : ∃ (oc : Value) (od an : Option Addr) (kV doc pm ct : Value) (osl : Array (Option Value)), K.lookup fa = some ⟨oc, od, .func (PySem.W.fnOf "law" "law" (defArgs s_law) (defBody s_law) (defScope s_law) .none kV doc pm an (.ref c) ct), osl⟩
  hcd : PySem.W.codeIn K (.ref c) "law" = true
  hd : PySem.W.codeHdIn K c tA = true
  nT : K.lookup tA = none
  ob : ∃ (e : Value) (dd : Option Addr) (vs : Array Value) (sl : Array (Option Value)), K.lookup c = some ⟨e, dd, .fields vs, sl⟩ ∧ vs[11]? = some (.ref tA)
end
theorem facts_mk {P : Program} {K : PySem.W.Frag} {mg : Str → Option Value} {h : Heap} {C fa c tA : Addr} {oc kV doc pm ct cdv e : Value} {od an dd : Option Addr} {osl sl : Array (Option Value)} {vs : Array Value} (X : K.In h) (G : h.Ns mainGlobals mg) (txt : Txt K mg) (err : ErrT P K mg C) (hrd : HeardF K mg C)
    (a : PySem.W.nsIn K mainGlobals "law" = some (some (.ref fa))) (l : K.lookup fa = some ⟨oc, od, .func (PySem.W.fnOf "law" "law" (defArgs s_law) (defBody s_law) (defScope s_law) .none kV doc pm an cdv ct), osl⟩) (ec : cdv = .ref c) (hcd : PySem.W.codeIn K cdv "law" = true)
    (o1 : K.lookup c = some ⟨e, dd, .fields vs, sl⟩) (o2 : vs[11]? = some (.ref tA)) (hd : PySem.W.codeHdIn K c tA = true) (nT : K.lookup tA = none) : ∃ C fa c tA, FactsAll P K mg C fa c tA := by
  subst ec
  exact ⟨C, fa, c, tA, txt, err, hrd, PySem.W.mg_of X G a, ⟨oc, od, an, kV, doc, pm, ct, osl, l⟩, hcd, hd, nT, ⟨e, dd, vs, sl, o1, o2⟩⟩
theorem fin_walk {l : PySem.W.OpenLaw} {q : Program} {loose : List Str} {XP : (Str → Option Value) → Heap → Prop} {YP : World → Heap → Prop} {d : DefRec} {K : Params → PySem.W.Frag} (hn : l.most = some 63) (hdf : d.params.defaults = []) (hrec : ((recsOf q).any fun e => e.name == d.name) = true) (hnm : d.name = "law")
    (hY : ∀ (w : World) (h : Heap), YP w h → (K w.params).In h)
    (F : ∀ (w : World) (mg : Str → Option Value) (h : Heap), (K w.params).In h → h.Ns mainGlobals mg → ∃ C fa c tA, FactsAll l.prog (K w.params) mg C fa c tA) :
    PySem.W.WalkO q loose XP YP l.row.toRowW d [] (fun f vs => PySem.call f vs) := by
  refine Att.attach_callB hn hdf fun w s₀ s₁ mg mb fa0 o pm cd doc a vs ns G Y ho hd hcd hmg hobj hints hlen hbits hg => ?_
  have KX := hY w _ Y
  obtain ⟨C, fa, c, tA, A⟩ := F w mg _ KX G.T.g
  obtain ⟨oc, od, an, kV, dc, pm1, ct, osl, lk⟩ := A.law
  obtain ⟨e, dd, vc, sl, k4, k5⟩ := A.ob
  rw [hnm, A.hfa] at hmg
  obtain rfl : fa = fa0 := Value.ref.inj (Option.some.inj hmg)
  have tabE : s₁.heap.get? tA = some { cls := .none, data := .fields #[] } := by
    obtain ⟨dL, hm, hn1⟩ := List.any_eq_true.mp hrec
    have hn2 : dL.name = "law" := (beq_iff_eq.mp hn1).trans hnm
    obtain ⟨a1, o1, f1, c1, p1, h1, h2, h3, h4, _, ⟨⟨_, _, e1, _, e3, e4⟩, hP⟩⟩ := G.T.tab dL hm
    rw [hn2, A.hfa] at h1
    obtain rfl := Value.ref.inj (Option.some.inj h1)
    obtain rfl := Option.some.inj ((KX _ _ lk).symm.trans h2)
    obtain rfl := Data.func.inj h3
    obtain rfl := Value.ref.inj h4
    obtain rfl := Option.some.inj ((KX _ _ k4).symm.trans e1)
    obtain rfl := Data.fields.inj e3
    obtain rfl := Value.ref.inj (Option.some.inj (k5.symm.trans e4))
    exact hP
  exact run_lawG (P := l.prog) (w := w) (tb := [(c, tA)]) KX G.T.g G.T.b G.T.builtins G.T.nolimit hg (fun p hp => by rw [List.mem_singleton.mp hp]; exact tabE) (fun p hp => by rw [List.mem_singleton.mp hp]; exact A.nT)
    (fun p hp => by rw [List.mem_singleton.mp hp]; exact PySem.W.codeHd_of_K KX A.hd) G.T.bmain hobj hints (Nat.le_trans hlen (by rw [sizeLine_eq]; omega)) fun base H tabs e0 hH hS =>
      run_law A.txt A.err A.hrd lk A.hcd (tabs (c, tA) (List.mem_singleton.mpr rfl)) ⟨rfl, by decide, by decide⟩ rfl e0 (hH (c, tA) (List.mem_singleton.mpr rfl)) hS
end KL

open PySem PySem.W PyProof.Rows in
set_option maxRecDepth 100000 in
set_option maxHeartbeats 0 in
theorem PySem.Challenge.cw_kitsleft_k17_whole_nettings_drawn_holds : PySem.Challenge.rw_kitsleft_k17_whole_nettings_drawn.Holds := by
  w_on; o_law; k_head; (case hw => w_witness2)
  k_fill
  refine KL.fin_walk (l := PySem.Challenge.rw_kitsleft_k17_whole_nettings_drawn) rfl rfl (by kernel_rfl) rfl (fun w h Y => PySem.W.km_in_of Y) ?F
  case F =>
    intro w mg h KX G
    refine' KL.withH (KL.at_mk (x := "is_integer") (st := KL.s_is_integer) KX G ?a_1 ?l_1 ?c_1 ?k_1) ?n_1
    (case a_1 => k_is)
    (case l_1 => k_is)
    (case c_1 => k_is)
    (case k_1 => k_is)
    intro a_is_integer
    refine' KL.withH (KL.at_mk (x := "is_count") (st := KL.s_is_count) KX G ?a_2 ?l_2 ?c_2 ?k_2) ?n_2
    (case a_2 => k_is)
    (case l_2 => k_is)
    (case c_2 => k_is)
    (case k_2 => k_is)
    intro a_is_count
    refine' KL.withH (KL.at_mk (x := "is_name") (st := KL.s_is_name) KX G ?a_3 ?l_3 ?c_3 ?k_3) ?n_3
    (case a_3 => k_is)
    (case l_3 => k_is)
    (case c_3 => k_is)
    (case k_3 => k_is)
    intro a_is_name
    refine' KL.withH (KL.at_mk (x := "is_among") (st := KL.s_is_among) KX G ?a_4 ?l_4 ?c_4 ?k_4) ?n_4
    (case a_4 => k_is)
    (case l_4 => k_is)
    (case c_4 => k_is)
    (case k_4 => k_is)
    intro a_is_among
    refine' KL.withH (KL.at_mk (x := "is_tuple_of") (st := KL.s_is_tuple_of) KX G ?a_5 ?l_5 ?c_5 ?k_5) ?n_5
    (case a_5 => k_is)
    (case l_5 => k_is)
    (case c_5 => k_is)
    (case k_5 => k_is)
    intro a_is_tuple_of
    refine' KL.withH (KL.at_mk (x := "is_names") (st := KL.s_is_names) KX G ?a_6 ?l_6 ?c_6 ?k_6) ?n_6
    (case a_6 => k_is)
    (case l_6 => k_is)
    (case c_6 => k_is)
    (case k_6 => k_is)
    intro a_is_names
    refine' KL.withH (KL.at_mk (x := "is_counted") (st := KL.s_is_counted) KX G ?a_7 ?l_7 ?c_7 ?k_7) ?n_7
    (case a_7 => k_is)
    (case l_7 => k_is)
    (case c_7 => k_is)
    (case k_7 => k_is)
    intro a_is_counted
    refine' KL.withH (KL.at_mk (x := "first_names") (st := KL.s_first_names) KX G ?a_8 ?l_8 ?c_8 ?k_8) ?n_8
    (case a_8 => k_is)
    (case l_8 => k_is)
    (case c_8 => k_is)
    (case k_8 => k_is)
    intro a_first_names
    refine' KL.withH (KL.at_mk (x := "is_article") (st := KL.s_is_article) KX G ?a_9 ?l_9 ?c_9 ?k_9) ?n_9
    (case a_9 => k_is)
    (case l_9 => k_is)
    (case c_9 => k_is)
    (case k_9 => k_is)
    intro a_is_article
    refine' KL.withH (KL.at_mk (x := "is_row") (st := KL.s_is_row) KX G ?a_10 ?l_10 ?c_10 ?k_10) ?n_10
    (case a_10 => k_is)
    (case l_10 => k_is)
    (case c_10 => k_is)
    (case k_10 => k_is)
    intro a_is_row
    refine' KL.withH (KL.at_mk (x := "want") (st := KL.s_want) KX G ?a_11 ?l_11 ?c_11 ?k_11) ?n_11
    (case a_11 => k_is)
    (case l_11 => k_is)
    (case c_11 => k_is)
    (case k_11 => k_is)
    intro a_want
    refine' KL.withH (KL.at_mk (x := "want_sales") (st := KL.s_want_sales) KX G ?a_12 ?l_12 ?c_12 ?k_12) ?n_12
    (case a_12 => k_is)
    (case l_12 => k_is)
    (case c_12 => k_is)
    (case k_12 => k_is)
    intro a_want_sales
    refine' KL.withH (KL.at_mk (x := "stocks_by") (st := KL.s_stocks_by) KX G ?a_13 ?l_13 ?c_13 ?k_13) ?n_13
    (case a_13 => k_is)
    (case l_13 => k_is)
    (case c_13 => k_is)
    (case k_13 => k_is)
    intro a_stocks_by
    refine' KL.withH (KL.at_mk (x := "packs_by") (st := KL.s_packs_by) KX G ?a_14 ?l_14 ?c_14 ?k_14) ?n_14
    (case a_14 => k_is)
    (case l_14 => k_is)
    (case c_14 => k_is)
    (case k_14 => k_is)
    intro a_packs_by
    refine' KL.withH (KL.at_mk (x := "outer_names") (st := KL.s_outer_names) KX G ?a_15 ?l_15 ?c_15 ?k_15) ?n_15
    (case a_15 => k_is)
    (case l_15 => k_is)
    (case c_15 => k_is)
    (case k_15 => k_is)
    intro a_outer_names
    refine' KL.withH (KL.at_mk (x := "numbers_by") (st := KL.s_numbers_by) KX G ?a_16 ?l_16 ?c_16 ?k_16) ?n_16
    (case a_16 => k_is)
    (case l_16 => k_is)
    (case c_16 => k_is)
    (case k_16 => k_is)
    intro a_numbers_by
    refine' KL.withH (KL.at_mk (x := "names_at_bottom") (st := KL.s_names_at_bottom) KX G ?a_17 ?l_17 ?c_17 ?k_17) ?n_17
    (case a_17 => k_is)
    (case l_17 => k_is)
    (case c_17 => k_is)
    (case k_17 => k_is)
    intro a_names_at_bottom
    refine' KL.withH (KL.at_mk (x := "turns_and_asks") (st := KL.s_turns_and_asks) KX G ?a_18 ?l_18 ?c_18 ?k_18) ?n_18
    (case a_18 => k_is)
    (case l_18 => k_is)
    (case c_18 => k_is)
    (case k_18 => k_is)
    intro a_turns_and_asks
    refine' KL.withH (KL.at_mk (x := "left_by") (st := KL.s_left_by) KX G ?a_19 ?l_19 ?c_19 ?k_19) ?n_19
    (case a_19 => k_is)
    (case l_19 => k_is)
    (case c_19 => k_is)
    (case k_19 => k_is)
    intro a_left_by
    refine' KL.withH (KL.at_mk (x := "net_told") (st := KL.s_net_told) KX G ?a_20 ?l_20 ?c_20 ?k_20) ?n_20
    (case a_20 => k_is)
    (case l_20 => k_is)
    (case c_20 => k_is)
    (case k_20 => k_is)
    intro a_net_told
    refine' KL.withH (KL.at_mk (x := "netted") (st := KL.s_netted) KX G ?a_21 ?l_21 ?c_21 ?k_21) ?n_21
    (case a_21 => k_is)
    (case l_21 => k_is)
    (case c_21 => k_is)
    (case k_21 => k_is)
    intro a_netted
    refine' KL.withH (KL.at_mk (x := "_law_feed") (st := KL.s__law_feed) KX G ?a_22 ?l_22 ?c_22 ?k_22) ?n_22
    (case a_22 => k_is)
    (case l_22 => k_is)
    (case c_22 => k_is)
    (case k_22 => k_is)
    intro a__law_feed
    refine' KL.withH (KL.at_mk (x := "_law_draw") (st := KL.s__law_draw) KX G ?a_23 ?l_23 ?c_23 ?k_23) ?n_23
    (case a_23 => k_is)
    (case l_23 => k_is)
    (case c_23 => k_is)
    (case k_23 => k_is)
    intro a__law_draw
    refine' KL.withH (KL.at_mk (x := "_law_any") (st := KL.s__law_any) KX G ?a_24 ?l_24 ?c_24 ?k_24) ?n_24
    (case a_24 => k_is)
    (case l_24 => k_is)
    (case c_24 => k_is)
    (case k_24 => k_is)
    intro a__law_any
    refine' KL.withH (KL.at_mk (x := "_law_labels") (st := KL.s__law_labels) KX G ?a_25 ?l_25 ?c_25 ?k_25) ?n_25
    (case a_25 => k_is)
    (case l_25 => k_is)
    (case c_25 => k_is)
    (case k_25 => k_is)
    intro a__law_labels
    refine' KL.withH (KL.at_mk (x := "_law_pack") (st := KL.s__law_pack) KX G ?a_26 ?l_26 ?c_26 ?k_26) ?n_26
    (case a_26 => k_is)
    (case l_26 => k_is)
    (case c_26 => k_is)
    (case k_26 => k_is)
    intro a__law_pack
    refine' KL.withH (KL.at_mk (x := "_law_options") (st := KL.s__law_options) KX G ?a_27 ?l_27 ?c_27 ?k_27) ?n_27
    (case a_27 => k_is)
    (case l_27 => k_is)
    (case c_27 => k_is)
    (case k_27 => k_is)
    intro a__law_options
    refine' KL.withH (KL.at_mk (x := "_law_shop") (st := KL.s__law_shop) KX G ?a_28 ?l_28 ?c_28 ?k_28) ?n_28
    (case a_28 => k_is)
    (case l_28 => k_is)
    (case c_28 => k_is)
    (case k_28 => k_is)
    intro a__law_shop
    refine' KL.withH (KL.at_mk (x := "_law_articles") (st := KL.s__law_articles) KX G ?a_29 ?l_29 ?c_29 ?k_29) ?n_29
    (case a_29 => k_is)
    (case l_29 => k_is)
    (case c_29 => k_is)
    (case k_29 => k_is)
    intro a__law_articles
    refine' KL.withH (KL.at_mk (x := "_law_row") (st := KL.s__law_row) KX G ?a_30 ?l_30 ?c_30 ?k_30) ?n_30
    (case a_30 => k_is)
    (case l_30 => k_is)
    (case c_30 => k_is)
    (case k_30 => k_is)
    intro a__law_row
    refine' KL.withH (KL.at_mk (x := "_law_net") (st := KL.s__law_net) KX G ?a_31 ?l_31 ?c_31 ?k_31) ?n_31
    (case a_31 => k_is)
    (case l_31 => k_is)
    (case c_31 => k_is)
    (case k_31 => k_is)
    intro a__law_net
    refine' KL.withH (KL.at_mk (x := "_law_due") (st := KL.s__law_due) KX G ?a_32 ?l_32 ?c_32 ?k_32) ?n_32
    (case a_32 => k_is)
    (case l_32 => k_is)
    (case c_32 => k_is)
    (case k_32 => k_is)
    intro a__law_due
    refine' KL.withH (KL.at_mk (x := "_law_with") (st := KL.s__law_with) KX G ?a_33 ?l_33 ?c_33 ?k_33) ?n_33
    (case a_33 => k_is)
    (case l_33 => k_is)
    (case c_33 => k_is)
    (case k_33 => k_is)
    intro a__law_with
    refine' KL.withH (KL.at_mk (x := "_law_is_rising") (st := KL.s__law_is_rising) KX G ?a_34 ?l_34 ?c_34 ?k_34) ?n_34
    (case a_34 => k_is)
    (case l_34 => k_is)
    (case c_34 => k_is)
    (case k_34 => k_is)
    intro a__law_is_rising
    refine' KL.withH (KL.at_mk (x := "_law_odd_rows") (st := KL.s__law_odd_rows) KX G ?a_35 ?l_35 ?c_35 ?k_35) ?n_35
    (case a_35 => k_is)
    (case l_35 => k_is)
    (case c_35 => k_is)
    (case k_35 => k_is)
    intro a__law_odd_rows
    refine' KL.withH (KL.at_mk (x := "_law_heard") (st := KL.s__law_heard) KX G ?a_36 ?l_36 ?c_36 ?k_36) ?n_36
    (case a_36 => k_is)
    (case l_36 => k_is)
    (case c_36 => k_is)
    (case k_36 => k_is)
    intro a__law_heard
    refine' KL.withH (KL.at_mk (x := "_law_is_right") (st := KL.s__law_is_right) KX G ?a_37 ?l_37 ?c_37 ?k_37) ?n_37
    (case a_37 => k_is)
    (case l_37 => k_is)
    (case c_37 => k_is)
    (case k_37 => k_is)
    intro a__law_is_right
    refine' KL.withH (KL.at_mk (x := "law") (st := KL.s_law) KX G ?a_38 ?l_38 ?c_38 ?k_38) ?n_38
    (case a_38 => k_is)
    (case l_38 => k_is)
    (case c_38 => k_is)
    (case k_38 => k_is)
    intro a_law
    refine' KL.withH (KL.str_mk (x := "LETTERS") (y := "abcdefghijklmnopqrstuvwxyz") KX G ?a_39) ?n_39
    (case a_39 => k_is)
    intro mL
    refine' KL.withH (KL.int_mk (x := "LONGEST_NAME") (y := 8) KX G ?a_40) ?n_40
    (case a_40 => k_is)
    intro mN
    refine' KL.withH (PySem.W.mg_none_of (n := "isinstance") KX G ?a_41) ?n_41
    (case a_41 => k_is)
    intro n_isinstance
    refine' KL.withH (PySem.W.mg_none_of (n := "int") KX G ?a_42) ?n_42
    (case a_42 => k_is)
    intro n_int
    refine' KL.withH (PySem.W.mg_none_of (n := "bool") KX G ?a_43) ?n_43
    (case a_43 => k_is)
    intro n_bool
    refine' KL.withH (PySem.W.mg_none_of (n := "str") KX G ?a_44) ?n_44
    (case a_44 => k_is)
    intro n_str
    refine' KL.withH (PySem.W.mg_none_of (n := "tuple") KX G ?a_45) ?n_45
    (case a_45 => k_is)
    intro n_tuple
    refine' KL.withH (PySem.W.mg_none_of (n := "len") KX G ?a_46) ?n_46
    (case a_46 => k_is)
    intro n_len
    refine' KL.withH (PySem.W.mg_none_of (n := "all") KX G ?a_47) ?n_47
    (case a_47 => k_is)
    intro n_all
    refine' KL.withH (PySem.W.mg_none_of (n := "zip") KX G ?a_48) ?n_48
    (case a_48 => k_is)
    intro n_zip
    refine' KL.withH (PySem.W.mg_none_of (n := "sorted") KX G ?a_49) ?n_49
    (case a_49 => k_is)
    intro n_sorted
    refine' KL.withH (PySem.W.mg_none_of (n := "set") KX G ?a_50) ?n_50
    (case a_50 => k_is)
    intro n_set
    refine' KL.withH (PySem.W.mg_none_of (n := "list") KX G ?a_51) ?n_51
    (case a_51 => k_is)
    intro n_list
    refine' KL.withH (PySem.W.mg_none_of (n := "dict") KX G ?a_52) ?n_52
    (case a_52 => k_is)
    intro n_dict
    refine' KL.withH (PySem.W.mg_none_of (n := "range") KX G ?a_53) ?n_53
    (case a_53 => k_is)
    intro n_range
    refine' KL.withH (PySem.W.mg_none_of (n := "repr") KX G ?a_54) ?n_54
    (case a_54 => k_is)
    intro n_repr
    refine' KL.withH (PySem.W.mg_none_of (n := "super") KX G ?a_55) ?n_55
    (case a_55 => k_is)
    intro n_super
    refine' KL.withH (PySem.W.mg_none_of (n := "ValueError") KX G ?a_56) ?n_56
    (case a_56 => k_is)
    intro n_ValueError
    refine' KL.withH (KL.err_mk (P := PySem.Challenge.pw_kitsleft_k17_whole_nettings_drawn) KX G ?ierr ?aerr) ?nerr
    (case aerr => k_is)
    case ierr =>
      refine' KL.ini_mk (KL.oex_mk ?cls ?bm ?sa ?ex ?ty ?kc) ?lkI ?tyI ?lk ?hcd ?lcd ?hfs ?hfi ?lcc ?opq (KL.sup_mk ?s1 ?s2) ?mrC ?mrV ?top ?nw ?na
      (case cls => k_is)
      (case bm => kernel_rfl)
      (case sa => k_is)
      (case ex => k_is)
      (case ty => k_is)
      (case kc => k_is)
      (case lkI => k_is)
      (case tyI => k_is)
      (case lk => k_is)
      (case hcd => k_is)
      (case lcd => k_is)
      (case hfs => rfl)
      (case hfi => rfl)
      (case lcc => k_is)
      (case opq => k_is)
      (case s1 => k_is)
      (case s2 => kernel_rfl)
      (case mrC => k_is)
      (case mrV => k_is)
      (case top => kernel_rfl)
      (case nw => k_is)
      (case na => k_is)
    intro err
    refine' KL.facts_mk (P := PySem.Challenge.pw_kitsleft_k17_whole_nettings_drawn) KX G ⟨n_isinstance, n_int, n_bool, n_str, n_tuple, n_len, n_all, n_zip, n_sorted, n_set, n_list, n_dict, n_range, n_repr, n_super, n_ValueError, mL, mN, a_is_integer, a_is_count, a_is_name, a_is_among, a_is_tuple_of, a_is_names, a_is_counted, a_first_names, a_is_article, a_is_row, a_want, a_want_sales, a_stocks_by, a_packs_by, a_outer_names, a_numbers_by, a_names_at_bottom, a_turns_and_asks, a_left_by, a_net_told, a_netted, a__law_feed, a__law_draw, a__law_any, a__law_labels, a__law_pack, a__law_options, a__law_shop, a__law_articles, a__law_row, a__law_net, a__law_due, a__law_with, a__law_is_rising, a__law_odd_rows, a__law_heard, a__law_is_right, a_law⟩ err ?hrd ?lw ?ll ?lc ?lh ?lo ?lp ?lq ?lr
    case hrd =>
        refine' KL.HeardF.mk ⟨?x1, ?x2, ?x3, ?x4⟩ ⟨?x1, ?x2, ?x3, ?x4, ?x5, ?x6, ?x7, ?x8⟩ ?ns n_ValueError (KL.kit_rt ?v1 ?v2) (KL.exm_mk (x := "KitError") KX G ?q1 ?q2 ?q3 ?q4 ?q5) ⟨_, err.nm, KL.kit_self⟩ (KL.cls_mk (x := "NotHeld") KX G ?akH ?bkH ?ckH ?dkH ?ekH) (KL.cls_mk (x := "NotPossible") KX G ?akP ?bkP ?ckP ?dkP ?ekP) (KL.cls_mk (x := "InvalidPaper") KX G ?akI ?bkI ?ckI ?dkI ?ekI) (KL.cls_mk (x := "ShopError") KX G ?akS ?bkS ?ckS ?dkS ?ekS) (KL.cls_mk (x := "PaperError") KX G ?akQ ?bkQ ?ckQ ?dkQ ?ekQ) (KL.cls_mk (x := "LiveError") KX G ?akL ?bkL ?ckL ?dkL ?ekL) (KL.cls_mk (x := "TextError") KX G ?akT ?bkT ?ckT ?dkT ?ekT)
        (case x1 => k_is)
        (case x2 => k_is)
        (case x3 => k_is)
        (case x4 => k_is)
        (case x5 => k_is)
        (case x6 => k_is)
        (case x7 => k_is)
        (case x8 => k_is)
        (case ns => k_is)
        (case v1 => kernel_rfl)
        (case v2 => k_is)
        (case q1 => k_is)
        (case q2 => k_is)
        (case q3 => k_is)
        (case q4 => k_is)
        (case q5 => k_is)
        (case akH => k_is)
        (case bkH => rfl)
        (case ckH => k_is)
        (case dkH => k_is)
        (case ekH => k_is)
        (case akP => k_is)
        (case bkP => rfl)
        (case ckP => k_is)
        (case dkP => k_is)
        (case ekP => k_is)
        (case akI => k_is)
        (case bkI => rfl)
        (case ckI => k_is)
        (case dkI => k_is)
        (case ekI => k_is)
        (case akS => k_is)
        (case bkS => rfl)
        (case ckS => k_is)
        (case dkS => k_is)
        (case ekS => k_is)
        (case akQ => k_is)
        (case bkQ => rfl)
        (case ckQ => k_is)
        (case dkQ => k_is)
        (case ekQ => k_is)
        (case akL => k_is)
        (case bkL => rfl)
        (case ckL => k_is)
        (case dkL => k_is)
        (case ekL => k_is)
        (case akT => k_is)
        (case bkT => rfl)
        (case ckT => k_is)
        (case dkT => k_is)
        (case ekT => k_is)
    (case lw => k_is)
    (case ll => k_is)
    (case lc => exact rfl)
    (case lh => k_is)
    (case lo => k_is)
    (case lp => exact rfl)
    (case lq => kernel_rfl)
    (case lr => kernel_rfl)
