import PyProof.Rows.All
import Wide.All
import OpenK.AllK
import Wide.FinOn
import HandS.ForMost
import HandS.Evl
import HandS.IsInst
import HandS.TupAny
import HandS.Walk
import HandS.Gcd
import KE.KMathGC
import HandS.Codes
import PySem.Challenge.RW_taprows_k87_whole_filtered_rows
import KE.GoesMore
import KE.KSorted
import KE.SortData
import HandS.TupSets
import HandS.SetFor
import HandS.Strs
import HandS.SortKw
import KE.DatumOrd
set_option Elab.async false
set_option linter.all false
set_option maxRecDepth 100000
set_option maxHeartbeats 2000000
set_option autoImplicit false
namespace LX
open PySem PySem.Spec PyProof.Rows L2 Evl

/-! ### data in a heap -/
mutual
inductive Dt (H : Hp) : V → PyData → Prop
  | non : Dt H .non .none
  | bl (b : Bool) : Dt H (.bl b) (.bool b)
  | int (i : Int) : Dt H (.int i) (.int i)
  | lst {a : Addr} {xs : List V} {ds : List PyData} : H a = some (.lst xs) → DtA H xs ds → Dt H (.ref a) (.list ds)
  | tup {a : Addr} {xs : List V} {ds : List PyData} : H a = some (.tup xs) → DtA H xs ds → Dt H (.ref a) (.tuple ds)
inductive DtA (H : Hp) : List V → List PyData → Prop
  | nil : DtA H [] []
  | cons {v : V} {vs : List V} {d : PyData} {ds : List PyData} : Dt H v d → DtA H vs ds → DtA H (v :: vs) (d :: ds)
end

mutual
theorem Dt.mono {H H' : Hp} (e : Ex H H') : ∀ {v : V} {d : PyData}, Dt H v d → Dt H' v d
  | _, _, .non => .non
  | _, _, .bl b => .bl b
  | _, _, .int i => .int i
  | _, _, .lst h r => .lst (e _ _ h) (DtA.mono e r)
  | _, _, .tup h r => .tup (e _ _ h) (DtA.mono e r)
theorem DtA.mono {H H' : Hp} (e : Ex H H') : ∀ {v : List V} {d : List PyData}, DtA H v d → DtA H' v d
  | _, _, .nil => .nil
  | _, _, .cons h r => .cons (Dt.mono e h) (DtA.mono e r)
end
mutual
theorem Dt.dp {K : PySem.W.Frag} {H : Hp} : ∀ {v : V} {d : PyData}, Dt H v d → Dp K H v d
  | _, _, .non => .non
  | _, _, .bl b => .bl b
  | _, _, .int i => .int i
  | _, _, .lst h r => .lst (.inl (.inl h)) (DtA.dp r)
  | _, _, .tup h r => .tup (.inl (.inl h)) (DtA.dp r)
theorem DtA.dp {K : PySem.W.Frag} {H : Hp} : ∀ {v : List V} {d : List PyData}, DtA H v d → DpAll K H v d
  | _, _, .nil => .nil
  | _, _, .cons h r => .cons (Dt.dp h) (DtA.dp r)
end
theorem Dt.int_eq {H : Hp} {v : V} {i : Int} (h : Dt H v (.int i)) : v = .int i := by cases h; rfl
theorem Dt.bl_eq {H : Hp} {v : V} {b : Bool} (h : Dt H v (.bool b)) : v = .bl b := by cases h; rfl
theorem Dt.lst_eq {H : Hp} {v : V} {ds : List PyData} (h : Dt H v (.list ds)) : ∃ a xs, v = .ref a ∧ H a = some (.lst xs) ∧ DtA H xs ds := by
  cases h with
  | lst h r => exact ⟨_, _, rfl, h, r⟩
theorem Dt.tup_eq {H : Hp} {v : V} {ds : List PyData} (h : Dt H v (.tuple ds)) : ∃ a xs, v = .ref a ∧ H a = some (.tup xs) ∧ DtA H xs ds := by
  cases h with
  | tup h r => exact ⟨_, _, rfl, h, r⟩
theorem DtA.len {H : Hp} : ∀ {xs : List V} {ds : List PyData}, DtA H xs ds → xs.length = ds.length
  | _, _, .nil => rfl
  | _, _, .cons _ r => by rw [List.length_cons, List.length_cons, DtA.len r]
theorem DtA.get {H : Hp} : ∀ {xs : List V} {ds : List PyData} {i : Nat} {d : PyData}, DtA H xs ds → ds[i]? = some d → ∃ x, xs[i]? = some x ∧ Dt H x d
  | _, _, _, _, .nil, h => by simp at h
  | _, _, 0, _, .cons h r, e => by
    simp at e
    subst e
    exact ⟨_, rfl, h⟩
  | _, _, i + 1, _, .cons h r, e => by
    obtain ⟨x, h1, h2⟩ := DtA.get r (i := i) (by simpa using e)
    exact ⟨x, by simpa using h1, h2⟩
theorem DtA.get' {H : Hp} : ∀ {xs : List V} {ds : List PyData} {i : Nat} {x : V}, DtA H xs ds → xs[i]? = some x → ∃ d, ds[i]? = some d ∧ Dt H x d
  | _, _, _, _, .nil, h => by simp at h
  | _, _, 0, _, .cons h r, e => by
    simp at e
    subst e
    exact ⟨_, rfl, h⟩
  | _, _, i + 1, _, .cons h r, e => by
    obtain ⟨x, h1, h2⟩ := DtA.get' r (i := i) (by simpa using e)
    exact ⟨x, by simpa using h1, h2⟩
theorem DtA.app {H : Hp} : ∀ {xs ys : List V} {ds es : List PyData}, DtA H xs ds → DtA H ys es → DtA H (xs ++ ys) (ds ++ es)
  | _, _, _, _, .nil, h => h
  | _, _, _, _, .cons h r, g => .cons h (DtA.app r g)
theorem DtA.one {H : Hp} {x : V} {d : PyData} (h : Dt H x d) : DtA H [x] [d] := .cons h .nil
theorem DtA.rep {H : Hp} {x : V} {d : PyData} (h : Dt H x d) : ∀ n : Nat, DtA H (List.replicate n x) (List.replicate n d)
  | 0 => .nil
  | n + 1 => .cons h (DtA.rep h n)
theorem DtA.drop {H : Hp} : ∀ {xs : List V} {ds : List PyData} (n : Nat), DtA H xs ds → DtA H (xs.drop n) (ds.drop n)
  | _, _, 0, h => h
  | _, _, _ + 1, .nil => .nil
  | _, _, n + 1, .cons _ r => DtA.drop n r
theorem DtA.take {H : Hp} : ∀ {xs : List V} {ds : List PyData} (n : Nat), DtA H xs ds → DtA H (xs.take n) (ds.take n)
  | _, _, 0, _ => .nil
  | _, _, _ + 1, .nil => .nil
  | _, _, n + 1, .cons h r => .cons h (DtA.take n r)
theorem DtA.set {H : Hp} : ∀ {xs : List V} {ds : List PyData} (n : Nat) {x : V} {d : PyData}, DtA H xs ds → Dt H x d → DtA H (xs.set n x) (ds.set n d)
  | _, _, _, _, _, .nil, _ => .nil
  | _, _, 0, _, _, .cons _ r, g => .cons g r
  | _, _, n + 1, _, _, .cons h r, g => .cons h (DtA.set n r g)
theorem DtA.ints {H : Hp} : ∀ {xs : List V} {ns : List Int}, DtA H xs (ns.map PyData.int) → xs = ns.map V.int
  | _, [], .nil => rfl
  | _, n :: ns, .cons h r => by rw [h.int_eq, DtA.ints r]; rfl
theorem DtA.ofInts {H : Hp} : ∀ (ns : List Int), DtA H (ns.map V.int) (ns.map PyData.int)
  | [] => .nil
  | n :: ns => .cons (.int n) (DtA.ofInts ns)
theorem DtA.bools {H : Hp} : ∀ {xs : List V} {ns : List Bool}, DtA H xs (ns.map PyData.bool) → xs = ns.map V.bl
  | _, [], .nil => rfl
  | _, n :: ns, .cons h r => by rw [h.bl_eq, DtA.bools r]; rfl

/-! ### pairs of heaps: what is known, what there is -/
/-- from (Hb, H1) to (Hr, H2): what is known grows by new things alone -/
structure Fr (Hb H1 Hr H2 : Hp) : Prop where
  b : Ex Hb Hr
  h : Ex H1 H2
  r : Ex Hr H2
  n : ∀ a, Hb a = none → H1 a ≠ none → Hr a = none
theorem Fr.refl {Hb H : Hp} (e : Ex Hb H) : Fr Hb H Hb H := ⟨Ex.refl _, Ex.refl _, e, fun _ h _ => h⟩
theorem Fr.trans {Hb H1 Hr H2 Hs H3 : Hp} (x : Fr Hb H1 Hr H2) (y : Fr Hr H2 Hs H3) : Fr Hb H1 Hs H3 :=
  ⟨x.b.trans y.b, x.h.trans y.h, y.r, fun a h1 h2 => y.n a (x.n a h1 h2) fun z => by
    cases q : H1 a with
    | none => exact h2 q
    | some o =>
      have := x.h a o q
      rw [this] at z
      cases z⟩
theorem ex_upd2 {H H' : Hp} {p : Addr} {o : HO} (e : Ex H H') : Ex (upd H p o) (upd H' p o) := fun a u h => by
  by_cases ha : a = p
  · subst ha
    rw [upd_same] at h ⊢
    exact h
  · rw [upd_ne ha] at h ⊢
    exact e a u h
theorem Fr.new {Hb H : Hp} {p : Addr} {o : HO} (e : Ex Hb H) (hp : H p = none) : Fr Hb H (upd Hb p o) (upd H p o) :=
  ⟨Ex.new (fresh_back e hp), Ex.new hp, ex_upd2 e, fun a h1 h2 => by
    have : a ≠ p := fun z => h2 (z ▸ hp)
    rw [upd_ne this]
    exact h1⟩
/-- a thing not known stays as it is -/
theorem Fr.mut {Hb H Hr H2 : Hp} (x : Fr Hb H Hr H2) {a : Addr} {o : HO} (h1 : Hb a = none) (h2 : H a = some o) : Hr a = none ∧ H2 a = some o :=
  ⟨x.n a h1 (by rw [h2]; exact fun z => nomatch z), x.h a o h2⟩

/-! ### what evaluates to what -/
def ED (te : TE) (σ : L2.St) (Hb : Hp) (d : PyData) : Prop := ∀ H1, Ex Hb H1 → ∀ Q : VK, (∀ v Hr H2, Fr Hb H1 Hr H2 → Dt Hr v d → Q v H2) → te σ H1 Q
def EB (tt : TT) (σ : L2.St) (Hb : Hp) (b : Bool) : Prop := ∀ H1, Ex Hb H1 → ∀ Q : Bool → Hp → Prop, (∀ Hr H2, Fr Hb H1 Hr H2 → Q b H2) → tt σ H1 Q
def EA (ta : TA) (σ : L2.St) (Hb : Hp) (ds : List PyData) : Prop := ∀ H1, Ex Hb H1 → ∀ Q : List V → Hp → Prop, (∀ vs Hr H2, Fr Hb H1 Hr H2 → DtA Hr vs ds → Q vs H2) → ta σ H1 Q
def EO (to : TO) (σ : L2.St) (Hb : Hp) (o : Option Int) : Prop := ∀ H1, Ex Hb H1 → ∀ Q : Option Int → Hp → Prop, (∀ Hr H2, Fr Hb H1 Hr H2 → Q o H2) → to σ H1 Q
/-- an operation by values, a call by values -/
def OR (r : R2) (x y d : PyData) : Prop := ∀ (Hb H : Hp) (vx vy : V), Ex Hb H → Dt Hb vx x → Dt Hb vy y → ∀ Q : VK, (∀ v Hr H2, Fr Hb H Hr H2 → Dt Hr v d → Q v H2) → r vx vy H Q
def BR (r : List V → Hp → VK → Prop) (ds : List PyData) (d : PyData) : Prop := ∀ (Hb H : Hp) (vs : List V), Ex Hb H → DtA Hb vs ds → ∀ Q : VK, (∀ v Hr H2, Fr Hb H Hr H2 → Dt Hr v d → Q v H2) → r vs H Q

/-- the slots as data -/
abbrev Env' := List (Option PyData)
structure En (σ : L2.St) (Hb : Hp) (ρ : Env') : Prop where
  len : σ.length = ρ.length
  at_ : ∀ (i : Nat) (d : PyData), ρ[i]? = some (some d) → ∃ v : V, σ[i]? = some (some v) ∧ Dt Hb v d
def wipeD (ρ : Env') : List Nat → Env'
  | [] => ρ
  | v :: vs => (wipeD ρ vs).set v none
section
variable {σ : L2.St} {Hb Hr : Hp} {ρ : Env'}
theorem En.mono (h : En σ Hb ρ) (e : Ex Hb Hr) : En σ Hr ρ := ⟨h.len, fun i d z => let ⟨v, a, b⟩ := h.at_ i d z; ⟨v, a, b.mono e⟩⟩
theorem En.fr {H H2 : Hp} (h : En σ Hb ρ) (x : Fr Hb H Hr H2) : En σ Hr ρ := h.mono x.b
theorem En.set (h : En σ Hb ρ) {i : Nat} {v : V} {d : PyData} (hv : Dt Hb v d) : En (σ.set i (some v)) Hb (ρ.set i (some d)) :=
  ⟨by rw [List.length_set, List.length_set, h.len], fun j d' z => by
    by_cases e : i = j
    · subst e
      by_cases hl : i < ρ.length
      · rw [List.getElem?_set_self hl] at z
        rw [List.getElem?_set_self (by rw [h.len]; exact hl)]
        cases z
        exact ⟨v, rfl, hv⟩
      · rw [List.getElem?_eq_none (by rw [List.length_set]; omega)] at z
        cases z
    · rw [List.getElem?_set_ne e] at z ⊢
      exact h.at_ j d' z⟩
theorem En.setN (h : En σ Hb ρ) {i : Nat} {o : Option V} : En (σ.set i o) Hb (ρ.set i none) :=
  ⟨by rw [List.length_set, List.length_set, h.len], fun j d' z => by
    by_cases e : i = j
    · subst e
      by_cases hl : i < ρ.length
      · rw [List.getElem?_set_self hl] at z
        cases z
      · rw [List.getElem?_eq_none (by rw [List.length_set]; omega)] at z
        cases z
    · rw [List.getElem?_set_ne e] at z ⊢
      exact h.at_ j d' z⟩
theorem En.wipe (h : En σ Hb ρ) : ∀ vs : List Nat, En (L2.wipe σ vs) Hb (wipeD ρ vs)
  | [] => h
  | v :: vs => (En.wipe h vs).setN
theorem En.start {N : List PySem.Str} {vs : List V} {ds : List PyData} (h : DtA Hb vs ds) : En (L2.start N vs) Hb (ds.map some ++ List.replicate (N.length - ds.length) none) := by
  have hl := h.len
  refine ⟨?_, fun i d z => ?_⟩
  · unfold L2.start
    rw [List.length_append, List.length_append, List.length_map, List.length_map, List.length_replicate, List.length_replicate, hl]
  · unfold L2.start
    by_cases hi : i < ds.length
    · rw [List.getElem?_append_left (by rw [List.length_map]; exact hi), List.getElem?_map] at z
      obtain ⟨d', hd', e⟩ := Option.map_eq_some_iff.mp z
      cases e
      obtain ⟨x, hx, hd⟩ := h.get hd'
      exact ⟨x, by rw [List.getElem?_append_left (by rw [List.length_map, hl]; exact hi), List.getElem?_map, hx]; rfl, hd⟩
    · rw [List.getElem?_append_right (by rw [List.length_map]; omega)] at z
      rw [List.getElem?_replicate] at z
      split at z <;> cases z
/-- fewer facts -/
theorem En.weak {ρ' : Env'} (h : En σ Hb ρ) (hl : ρ'.length = ρ.length) (hw : ∀ (i : Nat) (d : PyData), ρ'[i]? = some (some d) → ρ[i]? = some (some d)) : En σ Hb ρ' := ⟨h.len.trans hl.symm, fun i d z => h.at_ i d (hw i d z)⟩
theorem En.put (h : En σ Hb ρ) {i : Nat} {v : V} {d : PyData} (hv : σ[i]? = some (some v)) (hd : Dt Hb v d) : En σ Hb (ρ.set i (some d)) :=
  ⟨by rw [List.length_set, h.len], fun j d' z => by
    by_cases e : i = j
    · subst e
      have hl : i < ρ.length := by
        have := (List.getElem?_eq_some_iff.mp hv).1
        rw [h.len] at this
        exact this
      rw [List.getElem?_set_self hl] at z
      cases z
      exact ⟨v, hv, hd⟩
    · rw [List.getElem?_set_ne e] at z
      exact h.at_ j d' z⟩
end

/-- the things of Hs laid over Hr -/
def jn (Hr Hs : Hp) : Hp := fun a => match Hr a with
  | some o => some o
  | none => Hs a
theorem Fr.over {Hb Hr H1 Hs H2 : Hp} (e : Ex Hb Hr) (a : Ex Hr H1) (f : Fr Hb H1 Hs H2) : Fr Hr H1 (jn Hr Hs) H2 ∧ Ex Hs (jn Hr Hs) := by
  refine ⟨⟨fun a o ho => ?_, f.h, fun b o ho => ?_, fun b h1 h2 => ?_⟩, fun b o ho => ?_⟩
  · unfold jn
    rw [ho]
  · unfold jn at ho
    cases q1 : Hr b with
    | none =>
      rw [q1] at ho
      exact f.r b o ho
    | some u =>
      rw [q1] at ho
      cases ho
      exact f.h b _ (a b _ q1)
  · unfold jn
    rw [h1]
    refine f.n b ?_ h2
    cases q1 : Hb b with
    | none => rfl
    | some o =>
      have := e b o q1
      rw [this] at h1
      cases h1
  · unfold jn
    cases q1 : Hr b with
    | none => exact ho
    | some u =>
      have h1 := f.h b u (a b u q1)
      have h2 := f.r b o ho
      rw [h1] at h2
      exact h2
section
variable {K : PySem.W.Frag} {σ : L2.St} {Hb Hr : Hp} {ρ : Env'} {ta tb tc te tx : TE} {t u : TT} {x y z d : PyData} {r r' : R2}
theorem ED.mono (h : ED te σ Hb d) (e : Ex Hb Hr) : ED te σ Hr d := fun H1 a Q q => h H1 (e.trans a) Q fun v Hs H2 f hd =>
  let g := f.over e a
  q v _ H2 g.1 (hd.mono g.2)
theorem EB.mono {b : Bool} (h : EB t σ Hb b) (e : Ex Hb Hr) : EB t σ Hr b := fun H1 a Q q => h H1 (e.trans a) Q fun Hs H2 f => q _ H2 (f.over e a).1
theorem EA.mono {ta : TA} {ds : List PyData} (h : EA ta σ Hb ds) (e : Ex Hb Hr) : EA ta σ Hr ds := fun H1 a Q q => h H1 (e.trans a) Q fun v Hs H2 f hd =>
  let g := f.over e a
  q v _ H2 g.1 (hd.mono g.2)
theorem EO.mono {to : TO} {o : Option Int} (h : EO to σ Hb o) (e : Ex Hb Hr) : EO to σ Hr o := fun H1 a Q q => h H1 (e.trans a) Q fun Hs H2 f => q _ H2 (f.over e a).1

/-! ### expressions -/
theorem ed_var (en : En σ Hb ρ) {i : Nat} (h : ρ[i]? = some (some d)) : ED (tVar i) σ Hb d := fun H1 e Q q => by
  obtain ⟨v, a, b⟩ := en.at_ i d h
  exact ⟨v, a, q v Hb H1 (Fr.refl e) b⟩
theorem ed_at {i : Nat} {v : V} (h : σ[i]? = some (some v)) (hd : Dt Hb v d) : ED (tVar i) σ Hb d := fun H1 e Q q => ⟨v, h, q v Hb H1 (Fr.refl e) hd⟩
theorem ed_int {i : Int} : ED (tC (.int i)) σ Hb (.int i) := fun H1 e Q q => q _ Hb H1 (Fr.refl e) (.int i)
theorem ed_bl {i : Bool} : ED (tC (.bl i)) σ Hb (.bool i) := fun H1 e Q q => q _ Hb H1 (Fr.refl e) (.bl i)
theorem ed_non : ED (tC .non) σ Hb .none := fun H1 e Q q => q _ Hb H1 (Fr.refl e) .non
theorem ed_is (h : ED te σ Hb x) (e : x = y) : ED te σ Hb y := e ▸ h
theorem eb_is {a b : Bool} (h : EB t σ Hb a) (e : a = b) : EB t σ Hb b := e ▸ h
theorem ed_op (ha : ED ta σ Hb x) (hb : ED tb σ Hb y) (hr : OR r x y d) : ED (tOp r ta tb) σ Hb d := fun H1 e Q q =>
  ha H1 e _ fun vx Hr H2 f hx => (hb.mono f.b) H2 f.r _ fun vy Hs H3 g hy => hr Hs H3 vx vy g.r (hx.mono g.b) hy Q fun v Ht H4 k hd => q v Ht H4 ((f.trans g).trans k) hd
theorem ed_neg {i : Int} (h : ED te σ Hb (.int i)) : ED (tUn (rU fun i => .int (-i)) te) σ Hb (.int (-i)) := fun H1 e Q q =>
  h H1 e _ fun v Hr H2 f hd => ⟨i, hd.int_eq, q _ Hr H2 f (.int _)⟩
theorem or_I0 {g : Int → Int → V} {i j : Int} (hd : ∀ H, Dt H (g i j) d) : OR (rI0 g) (.int i) (.int j) d := fun Hb H vx vy e hx hy Q q => ⟨i, j, hx.int_eq, hy.int_eq, q _ Hb H (Fr.refl e) (hd Hb)⟩
theorem or_I {C : Int → Int → Prop} {g : Int → Int → V} {i j : Int} (hc : C i j) (hd : ∀ H, Dt H (g i j) d) : OR (rI C g) (.int i) (.int j) d := fun Hb H vx vy e hx hy Q q => ⟨i, j, hx.int_eq, hy.int_eq, hc, q _ Hb H (Fr.refl e) (hd Hb)⟩
theorem or_add {i j : Int} : OR (rI0 fun i j => .int (i + j)) (.int i) (.int j) (.int (i + j)) := or_I0 fun _ => .int _
theorem or_sub {i j : Int} : OR (rI0 fun i j => .int (i - j)) (.int i) (.int j) (.int (i - j)) := or_I0 fun _ => .int _
theorem or_mul {i j : Int} (h : CMul i j) : OR (rI CMul fun i j => .int (i * j)) (.int i) (.int j) (.int (i * j)) := or_I h fun _ => .int _
theorem or_mod {i j : Int} (h : 0 < j) : OR (rI (fun _ j => 0 < j) fun i j => .int (i % j)) (.int i) (.int j) (.int (i % j)) := or_I (C := fun _ j => 0 < j) h fun _ => .int _
theorem or_fdiv {i j : Int} (h : CDiv i j) : OR (rI CDiv fun i j => .int (i / j)) (.int i) (.int j) (.int (i / j)) := or_I h fun _ => .int _
theorem or_lt {i j : Int} : OR (rI0 fun i j => .bl (decide (i < j))) (.int i) (.int j) (.bool (decide (i < j))) := or_I0 fun _ => .bl _
theorem or_le {i j : Int} : OR (rI0 fun i j => .bl (decide (i ≤ j))) (.int i) (.int j) (.bool (decide (i ≤ j))) := or_I0 fun _ => .bl _
theorem or_gt {i j : Int} : OR (rI0 fun i j => .bl (decide (j < i))) (.int i) (.int j) (.bool (decide (j < i))) := or_I0 fun _ => .bl _
theorem or_ge {i j : Int} : OR (rI0 fun i j => .bl (decide (j ≤ i))) (.int i) (.int j) (.bool (decide (j ≤ i))) := or_I0 fun _ => .bl _
theorem or_eq {i j : Int} : OR rEq (.int i) (.int j) (.bool (decide (i = j))) := fun Hb H vx vy e hx hy Q q => by
  rw [hx.int_eq, hy.int_eq]
  refine ⟨rfl, q _ Hb H (Fr.refl e) ?_⟩
  have : decide (V.int i = V.int j) = decide (i = j) := by
    by_cases h : i = j
    · rw [decide_eq_true h, decide_eq_true (by rw [h])]
    · rw [decide_eq_false h, decide_eq_false (fun z => h (V.int.inj z))]
  rw [this]
  exact .bl _
theorem or_ne {i j : Int} : OR rNe (.int i) (.int j) (.bool (!decide (i = j))) := fun Hb H vx vy e hx hy Q q => by
  rw [hx.int_eq, hy.int_eq]
  refine ⟨rfl, q _ Hb H (Fr.refl e) ?_⟩
  have : decide (V.int i = V.int j) = decide (i = j) := by
    by_cases h : i = j
    · rw [decide_eq_true h, decide_eq_true (by rw [h])]
    · rw [decide_eq_false h, decide_eq_false (fun z => h (V.int.inj z))]
  rw [this]
  exact .bl _
theorem or_eqB {i j : Bool} : OR rEq (.bool i) (.bool j) (.bool (decide (i = j))) := fun Hb H vx vy e hx hy Q q => by
  rw [hx.bl_eq, hy.bl_eq]
  refine ⟨rfl, q _ Hb H (Fr.refl e) ?_⟩
  have : decide (V.bl i = V.bl j) = decide (i = j) := by cases i <;> cases j <;> rfl
  rw [this]
  exact .bl _
theorem or_neB {i j : Bool} : OR rNe (.bool i) (.bool j) (.bool (!decide (i = j))) := fun Hb H vx vy e hx hy Q q => by
  rw [hx.bl_eq, hy.bl_eq]
  refine ⟨rfl, q _ Hb H (Fr.refl e) ?_⟩
  have : decide (V.bl i = V.bl j) = decide (i = j) := by cases i <;> cases j <;> rfl
  rw [this]
  exact .bl _
theorem or_eqD (hs : SeqAt.shaped x = true) (ht : SeqAt.shaped y = true) : OR (rEqD K) x y (.bool (PyData.eqv x y)) := fun Hb H vx vy e hx hy Q q =>
  ⟨x, y, (hx.mono e).dp, (hy.mono e).dp, hs, ht, q _ Hb H (Fr.refl e) (.bl _)⟩
theorem or_neD (hs : SeqAt.shaped x = true) (ht : SeqAt.shaped y = true) : OR (rNeD K) x y (.bool (!PyData.eqv x y)) := fun Hb H vx vy e hx hy Q q =>
  ⟨x, y, (hx.mono e).dp, (hy.mono e).dp, hs, ht, q _ Hb H (Fr.refl e) (.bl _)⟩
theorem atI_dt {H : Hp} {xs : List V} {ds : List PyData} {i : Int} {d : PyData} (h : DtA H xs ds) (e : atI ds i = some d) : ∃ v, atI xs i = some v ∧ Dt H v d := by
  unfold atI at e ⊢
  rw [h.len]
  cases q : ixN ds.length i with
  | none =>
    rw [q] at e
    cases e
  | some j =>
    rw [q] at e
    exact h.get e
theorem or_ixL {ds : List PyData} {i : Int} (h : atI ds i = some d) : OR (rIxL K) (.list ds) (.int i) d := fun Hb H vx vy e hx hy Q q => by
  obtain ⟨a, xs, rfl, h1, h2⟩ := hx.lst_eq
  obtain ⟨v, hv, hd⟩ := atI_dt h2 h
  exact ⟨a, xs, i, v, rfl, hy.int_eq, .inl (.inl (e _ _ h1)), hv, q v Hb H (Fr.refl e) hd⟩
theorem or_ixT {ds : List PyData} {i : Int} (h : atI ds i = some d) : OR (rIxT K) (.tuple ds) (.int i) d := fun Hb H vx vy e hx hy Q q => by
  obtain ⟨a, xs, rfl, h1, h2⟩ := hx.tup_eq
  obtain ⟨v, hv, hd⟩ := atI_dt h2 h
  exact ⟨a, xs, i, v, rfl, hy.int_eq, .inl (.inl (e _ _ h1)), hv, q v Hb H (Fr.refl e) hd⟩
theorem or_cat {ds es : List PyData} (h : ds.length + es.length ≤ 100000) : OR rCat (.list ds) (.list es) (.list (ds ++ es)) := fun Hb H vx vy e hx hy Q q => by
  obtain ⟨a, xs, rfl, h1, h2⟩ := hx.lst_eq
  obtain ⟨b, ys, rfl, g1, g2⟩ := hy.lst_eq
  exact ⟨a, b, xs, ys, rfl, rfl, e _ _ h1, e _ _ g1, by rw [h2.len, g2.len]; exact sz_of h, fun p hp => q _ _ _ (Fr.new e hp) (.lst upd_same ((h2.app g2).mono (Ex.new (fresh_back e hp))))⟩
theorem or_catA {ds es : List PyData} (h : ds.length + es.length ≤ 100000) : OR (rCatA K) (.tuple ds) (.tuple es) (.tuple (ds ++ es)) := fun Hb H vx vy e hx hy Q q => by
  obtain ⟨a, xs, rfl, h1, h2⟩ := hx.tup_eq
  obtain ⟨b, ys, rfl, g1, g2⟩ := hy.tup_eq
  refine ⟨a, b, xs, ys, rfl, rfl, .inl (.inl (e _ _ h1)), .inl (.inl (e _ _ g1)), by rw [h2.len, g2.len]; exact sz_of h, fun z => ?_, fun z1 z2 => ?_, fun _ _ p hp => q _ _ _ (Fr.new e hp) (.tup upd_same ((h2.app g2).mono (Ex.new (fresh_back e hp))))⟩
  · subst z
    cases h2
    exact q _ Hb H (Fr.refl e) hy
  · subst z2
    cases g2
    rw [List.append_nil] at *
    exact q _ Hb H (Fr.refl e) hx
theorem flat_rep {α : Type} (x : α) : ∀ n : Nat, (List.replicate n [x]).flatten = List.replicate n x
  | 0 => rfl
  | n + 1 => by rw [List.replicate_succ, List.flatten_cons, flat_rep x n]; rfl
theorem or_rep {k : Int} (h0 : k ≤ 100000) (h1 : -100000 ≤ k) : OR rRep (.list [d]) (.int k) (.list (List.replicate k.toNat d)) := fun Hb H vx vy e hx hy Q q => by
  obtain ⟨a, xs, rfl, h1, h2⟩ := hx.lst_eq
  obtain ⟨x, rfl⟩ : ∃ x, xs = [x] := by
    cases h2 with
    | cons _ r => cases r; exact ⟨_, rfl⟩
  cases h2 with
  | cons h r =>
    refine ⟨a, k, [x], rfl, hy.int_eq, e _ _ h1, by omega, by omega, ?_, fun p hp => q _ _ _ (Fr.new e hp) (.lst upd_same ?_)⟩
    · show 1 * k.toNat ≤ _
      exact sz_of (by omega)
    · rw [flat_rep]
      exact (DtA.rep h _).mono (Ex.new (fresh_back e hp))
theorem ed_chain {a b : Bool} (ha : ED ta σ Hb x) (hb : ED tb σ Hb y) (hr : OR r x y (.bool a)) (hc : a = true → ED tc σ Hb z) (hr' : a = true → OR r' y z (.bool b)) : ED (tChain r r' ta tb tc) σ Hb (.bool (a && b)) := fun H1 e Q q =>
  ha H1 e _ fun vx Hr H2 f hx => (hb.mono f.b) H2 f.r _ fun vy Hs H3 g hy => hr Hs H3 vx vy g.r (hx.mono g.b) hy _ fun v Ht H4 k hd => ⟨a, hd.bl_eq, by
    have fg := (f.trans g).trans k
    cases a with
    | false =>
      show Q (.bl false) H4
      exact q _ Ht H4 fg (.bl _)
    | true =>
      show tc σ H4 _
      exact ((hc rfl).mono fg.b) H4 k.r _ fun vz Hu H5 l hz => (hr' rfl) Hu H5 vy vz l.r ((hy.mono k.b).mono l.b) hz Q fun v Hw H6 m hd => q v Hw H6 ((fg.trans l).trans m) hd⟩
theorem ed_andV {a b : Bool} (h1 : ED ta σ Hb (.bool a)) (h2 : a = true → ED tb σ Hb (.bool b)) : ED (tAndV ta tb) σ Hb (.bool (a && b)) := fun H1 e Q q => h1 H1 e _ fun v Hr H2 f hd => ⟨a, hd.bl_eq, by
  cases a with
  | true =>
    show tb σ H2 Q
    exact ((h2 rfl).mono f.b) H2 f.r Q fun w Hs H3 g hd => q w Hs H3 (f.trans g) hd
  | false =>
    show Q (.bl false) H2
    exact q _ Hr H2 f (.bl _)⟩
theorem ed_orV {a b : Bool} (h1 : ED ta σ Hb (.bool a)) (h2 : a = false → ED tb σ Hb (.bool b)) : ED (tOrV ta tb) σ Hb (.bool (a || b)) := fun H1 e Q q => h1 H1 e _ fun v Hr H2 f hd => ⟨a, hd.bl_eq, by
  cases a with
  | true =>
    show Q (.bl true) H2
    exact q _ Hr H2 f (.bl _)
  | false =>
    show tb σ H2 Q
    exact ((h2 rfl).mono f.b) H2 f.r Q fun w Hs H3 g hd => q w Hs H3 (f.trans g) hd⟩
theorem ed_notV {a : Bool} (h1 : ED ta σ Hb (.bool a)) : ED (tNotV ta) σ Hb (.bool (!a)) := fun H1 e Q q => h1 H1 e _ fun v Hr H2 f hd => ⟨a, hd.bl_eq, q _ Hr H2 f (.bl _)⟩
theorem ed_if {b : Bool} (h : EB t σ Hb b) (h1 : b = true → ED ta σ Hb d) (h2 : b = false → ED tb σ Hb d) : ED (tIf t ta tb) σ Hb d := fun H1 e Q q => h H1 e _ fun Hr H2 f => by
  cases b with
  | true =>
    show ta σ H2 Q
    exact ((h1 rfl).mono f.b) H2 f.r Q fun w Hs H3 g hd => q w Hs H3 (f.trans g) hd
  | false =>
    show tb σ H2 Q
    exact ((h2 rfl).mono f.b) H2 f.r Q fun w Hs H3 g hd => q w Hs H3 (f.trans g) hd
theorem eb_test {b : Bool} (h : ED te σ Hb (.bool b)) : EB (tTest te) σ Hb b := fun H1 e Q q => h H1 e _ fun v Hr H2 f hd => ⟨b, hd.bl_eq, q Hr H2 f⟩
theorem eb_B {b : Bool} (h : ED te σ Hb (.bool b)) : EB (tB te) σ Hb b := fun H1 e Q q => h H1 e _ fun v Hr H2 f hd => ⟨b, hd.bl_eq, q Hr H2 f⟩
theorem eb_and {a b : Bool} (h1 : EB t σ Hb a) (h2 : a = true → EB u σ Hb b) : EB (tAnd t u) σ Hb (a && b) := fun H1 e Q q => h1 H1 e _ fun Hr H2 f => by
  cases a with
  | true =>
    show u σ H2 Q
    exact ((h2 rfl).mono f.b) H2 f.r Q fun Hs H3 g => q Hs H3 (f.trans g)
  | false =>
    show Q false H2
    exact q Hr H2 f
theorem eb_or {a b : Bool} (h1 : EB t σ Hb a) (h2 : a = false → EB u σ Hb b) : EB (tOr t u) σ Hb (a || b) := fun H1 e Q q => h1 H1 e _ fun Hr H2 f => by
  cases a with
  | true =>
    show Q true H2
    exact q Hr H2 f
  | false =>
    show u σ H2 Q
    exact ((h2 rfl).mono f.b) H2 f.r Q fun Hs H3 g => q Hs H3 (f.trans g)
theorem eb_not {a : Bool} (h1 : EB t σ Hb a) : EB (tNot t) σ Hb (!a) := fun H1 e Q q => h1 H1 e _ fun Hr H2 f => q Hr H2 f
theorem eb_yes : EB tYes σ Hb true := fun H1 e Q q => q Hb H1 (Fr.refl e)
theorem ea_nil : EA tNil σ Hb [] := fun H1 e Q q => q [] Hb H1 (Fr.refl e) .nil
theorem ea_cons {tr : TA} {ds : List PyData} (h : ED ta σ Hb x) (hr : EA tr σ Hb ds) : EA (tCons ta tr) σ Hb (x :: ds) := fun H1 e Q q =>
  h H1 e _ fun v Hr H2 f hd => (hr.mono f.b) H2 f.r _ fun vs Hs H3 g hds => q _ Hs H3 (f.trans g) (.cons (hd.mono g.b) hds)
theorem ed_tup {t : TA} {ds : List PyData} (h : EA t σ Hb ds) (hl : ds.length ≤ 100000) : ED (tTup t) σ Hb (.tuple ds) := fun H1 e Q q =>
  h H1 e _ fun vs Hr H2 f hd => ⟨by rw [hd.len]; exact sz_of hl, fun p hp => q _ _ _ (f.trans (Fr.new f.r hp)) (.tup upd_same (hd.mono (Ex.new (fresh_back f.r hp))))⟩
theorem ed_lst {t : TA} {ds : List PyData} (h : EA t σ Hb ds) (hl : ds.length ≤ 100000) : ED (tLst t) σ Hb (.list ds) := fun H1 e Q q =>
  h H1 e _ fun vs Hr H2 f hd => ⟨by rw [hd.len]; exact sz_of hl, fun p hp => q _ _ _ (f.trans (Fr.new f.r hp)) (.lst upd_same (hd.mono (Ex.new (fresh_back f.r hp))))⟩
theorem eo_none : EO tNoPart σ Hb none := fun H1 e Q q => q Hb H1 (Fr.refl e)
theorem eo_some {i : Int} (h : ED te σ Hb (.int i)) : EO (tPart te) σ Hb (some i) := fun H1 e Q q => h H1 e _ fun v Hr H2 f hd => ⟨i, hd.int_eq, q Hr H2 f⟩
def cutD (xs : List PyData) (lo hi : Option Int) : List PyData := (xs.drop (HT.sIx xs.length 0 lo)).take (HT.sIx xs.length xs.length hi - HT.sIx xs.length 0 lo)
theorem cut_dt {H : Hp} {xs : List V} {ds : List PyData} {lo hi : Option Int} (h : DtA H xs ds) : DtA H (cutV xs lo hi) (cutD ds lo hi) := by
  unfold cutV cutD
  rw [h.len]
  exact DtA.take _ (DtA.drop _ h)
theorem ed_sl {tl th : TO} {ds : List PyData} {lo hi : Option Int} (h : ED te σ Hb (.list ds)) (h1 : EO tl σ Hb lo) (h2 : EO th σ Hb hi) : ED (tSl (rSlL K) te tl th) σ Hb (.list (cutD ds lo hi)) := fun H1 e Q q =>
  h H1 e _ fun v Hr H2 f hd => (h1.mono f.b) H2 f.r _ fun Hs H3 g => (h2.mono (f.b.trans g.b)) H3 g.r _ fun Ht H4 k => by
    have fg := (f.trans g).trans k
    obtain ⟨a, xs, rfl, e1, e2⟩ := ((hd.mono g.b).mono k.b).lst_eq
    exact ⟨a, xs, rfl, .inl (.inl (k.r _ _ e1)), fun p hp => q _ _ _ (fg.trans (Fr.new k.r hp)) (.lst upd_same ((cut_dt e2).mono (Ex.new (fresh_back k.r hp))))⟩
theorem ed_cb {r : List V → Hp → VK → Prop} {t : TA} {ds : List PyData} (h : EA t σ Hb ds) (hr : BR r ds d) : ED (tCB r t) σ Hb d := fun H1 e Q q =>
  h H1 e _ fun vs Hr H2 f hd => hr Hr H2 vs f.r hd Q fun v Hs H3 g hv => q v Hs H3 (f.trans g) hv

/-! ### calls -/
/-- the promise of a def without side effects: R relates its arguments' data and its answer's -/
def spD (R : List PyData → PyData → Prop) : Sp := fun vs H Q _ => ∃ (ds : List PyData) (d : PyData) (Hb : Hp), Ex Hb H ∧ DtA Hb vs ds ∧ R ds d ∧ ∀ v Hr H2, Fr Hb H Hr H2 → Dt Hr v d → Q v H2
theorem ed_call {R : List PyData → PyData → Prop} {ds : List PyData} {E : XK} {t : TA} (h : EA t σ Hb ds) (hr : R ds d) : ED (tCall (spD R) [] E t) σ Hb d := fun H1 e Q q =>
  h H1 e _ fun vs Hr H2 f hd => ⟨ds, d, Hr, f.r, by rw [List.append_nil]; exact hd, hr, fun v Hs H3 g hv => q v Hs H3 (f.trans g) hv⟩

/-! ### built-ins -/
theorem DtA.one_eq {H : Hp} {vs : List V} {d : PyData} (h : DtA H vs [d]) : ∃ v, vs = [v] ∧ Dt H v d := by
  cases h with
  | cons h r =>
    cases r
    exact ⟨_, rfl, h⟩
theorem DtA.two_eq {H : Hp} {vs : List V} {d d' : PyData} (h : DtA H vs [d, d']) : ∃ v w, vs = [v, w] ∧ Dt H v d ∧ Dt H w d' := by
  cases h with
  | cons h r =>
    obtain ⟨w, rfl, h2⟩ := r.one_eq
    exact ⟨_, _, rfl, h, h2⟩
abbrev rLenQ (K : PySem.W.Frag) : List V → Hp → VK → Prop := fun xs H Q => ∃ p ys, xs = [.ref p] ∧ (SqL K H p ys ∨ SqT K H p ys) ∧ Q (.int ys.length) H
theorem br_len {ds : List PyData} : BR (rLenQ K) [.list ds] (.int (ds.length : Nat)) := fun Hb H vs e h Q q => by
  obtain ⟨v, rfl, hv⟩ := h.one_eq
  obtain ⟨a, xs, rfl, h1, h2⟩ := hv.lst_eq
  refine ⟨a, xs, rfl, .inl (.inl (.inl (e _ _ h1))), q _ Hb H (Fr.refl e) ?_⟩
  rw [h2.len]
  exact .int _
theorem br_lenT {ds : List PyData} : BR (rLenQ K) [.tuple ds] (.int (ds.length : Nat)) := fun Hb H vs e h Q q => by
  obtain ⟨v, rfl, hv⟩ := h.one_eq
  obtain ⟨a, xs, rfl, h1, h2⟩ := hv.tup_eq
  refine ⟨a, xs, rfl, .inr (.inl (.inl (e _ _ h1))), q _ Hb H (Fr.refl e) ?_⟩
  rw [h2.len]
  exact .int _
theorem br_sum {ns : List Int} : BR (rSum K) [.list (ns.map .int)] (.int ns.sum) := fun Hb H vs e h Q q => by
  obtain ⟨v, rfl, hv⟩ := h.one_eq
  obtain ⟨a, xs, rfl, h1, h2⟩ := hv.lst_eq
  exact ⟨a, ns, rfl, .inl (.inl (by rw [e _ _ h1, h2.ints])), q _ Hb H (Fr.refl e) (.int _)⟩
theorem br_all {bs : List Bool} : BR (rAll K) [.list (bs.map .bool)] (.bool (bs.all id)) := fun Hb H vs e h Q q => by
  obtain ⟨v, rfl, hv⟩ := h.one_eq
  obtain ⟨a, xs, rfl, h1, h2⟩ := hv.lst_eq
  exact ⟨a, bs, rfl, .inl (.inl (by rw [e _ _ h1, h2.bools])), q _ Hb H (Fr.refl e) (.bl _)⟩
theorem br_any {bs : List Bool} : BR (rAny K) [.list (bs.map .bool)] (.bool (bs.any id)) := fun Hb H vs e h Q q => by
  obtain ⟨v, rfl, hv⟩ := h.one_eq
  obtain ⟨a, xs, rfl, h1, h2⟩ := hv.lst_eq
  exact ⟨a, bs, rfl, .inl (.inl (by rw [e _ _ h1, h2.bools])), q _ Hb H (Fr.refl e) (.bl _)⟩
theorem br_max {ns : List Int} {m : Int} (hm : m ∈ ns) (hle : ∀ y ∈ ns, y ≤ m) : BR (rMax K) [.list (ns.map .int)] (.int m) := fun Hb H vs e h Q q => by
  obtain ⟨v, rfl, hv⟩ := h.one_eq
  obtain ⟨a, xs, rfl, h1, h2⟩ := hv.lst_eq
  refine ⟨a, ns, rfl, .inl (.inl (by rw [e _ _ h1, h2.ints])), List.length_pos_of_mem hm, fun m' h' hle' => ?_⟩
  have : m' = m := Int.le_antisymm (hle m' h') (hle' m hm)
  subst this
  exact q _ Hb H (Fr.refl e) (.int _)
abbrev rInt1 : List V → Hp → VK → Prop := fun xs H Q => (∃ i, xs = [.int i] ∧ Q (.int i) H) ∨ ∃ k, xs = [.bl k] ∧ Q (.int (if k then 1 else 0)) H
theorem br_int {i : Int} : BR rInt1 [.int i] (.int i) := fun Hb H vs e h Q q => by
  obtain ⟨v, rfl, hv⟩ := h.one_eq
  rw [hv.int_eq]
  exact .inl ⟨i, rfl, q _ Hb H (Fr.refl e) (.int _)⟩
theorem br_intB {b : Bool} : BR rInt1 [.bool b] (.int (if b then 1 else 0)) := fun Hb H vs e h Q q => by
  obtain ⟨v, rfl, hv⟩ := h.one_eq
  rw [hv.bl_eq]
  exact .inr ⟨b, rfl, q _ Hb H (Fr.refl e) (.int _)⟩
abbrev rTupOf (K : PySem.W.Frag) : List V → Hp → VK → Prop := fun xs H Q => ∃ p ys, xs = [.ref p] ∧ ((SqL K H p ys ∧ ∀ l, H l = none → Q (.ref l) (upd H l (.tup ys))) ∨ (SqT K H p ys ∧ Q (.ref p) H))
theorem br_tuple {ds : List PyData} : BR (rTupOf K) [.list ds] (.tuple ds) := fun Hb H vs e h Q q => by
  obtain ⟨v, rfl, hv⟩ := h.one_eq
  obtain ⟨a, xs, rfl, h1, h2⟩ := hv.lst_eq
  exact ⟨a, xs, rfl, .inl ⟨.inl (.inl (e _ _ h1)), fun l hl => q _ _ _ (Fr.new e hl) (.tup upd_same (h2.mono (Ex.new (fresh_back e hl))))⟩⟩
abbrev rListOf (K : PySem.W.Frag) : List V → Hp → VK → Prop := fun xs H Q => ∃ p ys, xs = [.ref p] ∧ (SqL K H p ys ∨ SqT K H p ys) ∧ ∀ l, H l = none → Q (.ref l) (upd H l (.lst ys))
theorem br_list {ds : List PyData} : BR (rListOf K) [.tuple ds] (.list ds) := fun Hb H vs e h Q q => by
  obtain ⟨v, rfl, hv⟩ := h.one_eq
  obtain ⟨a, xs, rfl, h1, h2⟩ := hv.tup_eq
  exact ⟨a, xs, rfl, .inr (.inl (.inl (e _ _ h1))), fun l hl => q _ _ _ (Fr.new e hl) (.lst upd_same (h2.mono (Ex.new (fresh_back e hl))))⟩
abbrev rMax2Q : List V → Hp → VK → Prop := fun xs H Q => ∃ i j, xs = [.int i, .int j] ∧ Q (.int (if j > i then j else i)) H
abbrev rMin2Q : List V → Hp → VK → Prop := fun xs H Q => ∃ i j, xs = [.int i, .int j] ∧ Q (.int (if j < i then j else i)) H
theorem br_max2 {i j : Int} : BR rMax2Q [.int i, .int j] (.int (if j > i then j else i)) := fun Hb H vs e h Q q => by
  obtain ⟨v, w, rfl, hv, hw⟩ := h.two_eq
  rw [hv.int_eq, hw.int_eq]
  exact ⟨i, j, rfl, q _ Hb H (Fr.refl e) (.int _)⟩
theorem br_min2 {i j : Int} : BR rMin2Q [.int i, .int j] (.int (if j < i then j else i)) := fun Hb H vs e h Q q => by
  obtain ⟨v, w, rfl, hv, hw⟩ := h.two_eq
  rw [hv.int_eq, hw.int_eq]
  exact ⟨i, j, rfl, q _ Hb H (Fr.refl e) (.int _)⟩
/-- a datum's type -/
def tyN : PyData → String
  | .none => "NoneType"
  | .bool _ => "bool"
  | .int _ => "int"
  | .list _ => "list"
  | .tuple _ => "tuple"
  | _ => ""
theorem Dt.ty {H : Hp} {v : V} {d : PyData} (h : Dt H v d) : TyX K H v (.type (tyN d)) := by
  cases h with
  | non => exact .base .non
  | bl b => exact .base (.bl b)
  | int i => exact .base (.int i)
  | lst h _ => exact .base (.lst h)
  | tup h _ => exact .base (.tup h)
theorem ed_isi {n : String} {b : Bool} (h : ED te σ Hb d) (hk : kitB (tyN d) n = some b) : ED (tCB (rIsi K) (tCons te (tCons (tC (.ty n)) tNil))) σ Hb (.bool b) := fun H1 e Q q =>
  h H1 e _ fun v Hr H2 f hd => ⟨v, .ty n, .type (tyN d), .type n, b, rfl, .ty n, (hd.mono f.r).ty, kit_ty hk, q _ Hr H2 f (.bl b)⟩
theorem ed_isiT {n m : String} {b c : Bool} (h : ED te σ Hb d) (hk : kitB (tyN d) n = some b) (hm : kitB (tyN d) m = some c) :
    ED (tCB (rIsiT K) (tCons te (tCons (tTup (tCons (tC (.ty n)) (tCons (tC (.ty m)) tNil))) tNil))) σ Hb (.bool (b || c)) := fun H1 e Q q =>
  h H1 e _ fun v Hr H2 f hd => ⟨by show 2 ≤ sizeLine; decide, fun p hp => by
    have g := Fr.new (o := .tup [.ty n, .ty m]) f.r hp
    refine ⟨v, p, [.ty n, .ty m], .type (tyN d), [.type n, .type m], b || c, rfl, upd_same, .cons (.ty n) (.cons (.ty m) .nil), ((hd.mono f.r).mono g.h).ty, ?_, q _ _ _ (f.trans g) (.bl _)⟩
    refine kitAny_cons (kit_ty hk) (fun hb => ?_) (fun hb => by rw [hb]; rfl)
    rw [hb]
    exact kitAny_cons (kit_ty hm) (fun hc => by rw [hc]; exact kitAny_nil) (fun hc => by rw [hc]; rfl)⟩
end
end LX

set_option Elab.async false
set_option linter.all false
set_option maxRecDepth 100000
set_option maxHeartbeats 2000000
set_option autoImplicit false
namespace LX
open PySem PySem.Spec PyProof.Rows L2 Evl

theorem Fr.mutate {Hb H1 Hr H2 : Hp} {D : Addr} {o : HO} (x : Fr Hb H1 Hr H2) (h1 : H1 D = none) (h2 : Hr D = none) : Fr Hb H1 Hr (upd H2 D o) :=
  ⟨x.b, x.h.mut h1, x.r.mut h2, x.n⟩
theorem Fr.freeze {Hb H1 Hr H2 : Hp} {D : Addr} {o : HO} (x : Fr Hb H1 Hr H2) (h1 : H1 D = none) (h2 : Hr D = none) (h3 : H2 D = some o) : Fr Hb H1 (upd Hr D o) H2 := by
  refine ⟨x.b.trans (Ex.new h2), x.h, fun a u h => ?_, fun a g1 g2 => ?_⟩
  · by_cases e : a = D
    · subst e
      rw [upd_same] at h
      rw [h3]
      exact h
    · rw [upd_ne e] at h
      exact x.r a u h
  · have : a ≠ D := fun z => g2 (z ▸ h1)
    rw [upd_ne this]
    exact x.n a g1 g2

/-! ### what is walked -/
def EW (wi : TI) (σ : L2.St) (Hb : Hp) (ds : List PyData) : Prop := ∀ H1, Ex Hb H1 → ∀ R : It → Hp → Prop, (∀ (J : It) (G : Hp → Prop) (xs : List V) (Hr H2 : Hp), Fr Hb H1 Hr H2 → Walk J xs.length G (YAt xs) → (∀ H', Ex Hr H' → G H') → DtA Hr xs ds → R J H2) → wi σ H1 R
section
variable {K : PySem.W.Frag} {σ : L2.St} {Hb Hr H : Hp} {ρ : Env'} {ta tb tc te tl : TE} {t tt : TT} {x y z d : PyData} {wi wi1 : TI} {vs : List Nat}
theorem ew_list {ds : List PyData} (h : ED tl σ Hb (.list ds)) : EW (iList K tl) σ Hb ds := fun H1 e R k => h H1 e _ fun v Hr H2 f hd => by
  obtain ⟨a, xs, rfl, h1, h2⟩ := hd.lst_eq
  exact ⟨a, rfl, ⟨xs, .inl (.inl (f.r _ _ h1))⟩, k _ _ xs Hr H2 f walk_list (fun H' e' => .inl (.inl (e' _ _ h1))) h2⟩
theorem ew_tup {ds : List PyData} (h : ED tl σ Hb (.tuple ds)) : EW (iTup K tl) σ Hb ds := fun H1 e R k => h H1 e _ fun v Hr H2 f hd => by
  obtain ⟨a, xs, rfl, h1, h2⟩ := hd.tup_eq
  exact ⟨a, rfl, ⟨xs, .inl (.inl (f.r _ _ h1))⟩, k _ _ xs Hr H2 f walk_tup (fun H' e' => .inl (.inl (e' _ _ h1))) h2⟩
theorem walk_rng {lo : Int} {n : Nat} : Walk (Itr lo n) ((List.range n).map fun i : Nat => V.int (lo + i)).length (fun _ => True) (YAt ((List.range n).map fun i : Nat => V.int (lo + i))) := by
  have e : ((List.range n).map fun i : Nat => V.int (lo + i)).length = n := by rw [List.length_map, List.length_range]
  rw [e]
  refine walk_range.mono (fun _ h => h) fun i H x H' hi _ h => ⟨h.1, ?_⟩
  rw [List.getElem?_map, List.getElem?_range hi, h.2] <;> rfl
theorem dta_rng {H : Hp} {lo : Int} (l : List Nat) : DtA H (l.map fun i : Nat => V.int (lo + i)) (l.map fun i : Nat => PyData.int (lo + i)) := by
  induction l with
  | nil => exact .nil
  | cons a r ih => exact .cons (.int _) ih
theorem ew_rng1 {ta : TA} {n : Int} (h : EA ta σ Hb [.int n]) (hn : -100000 ≤ n ∧ n ≤ 100000) : EW (iRng1 ta) σ Hb ((List.range n.toNat).map fun i : Nat => PyData.int i) := fun H1 e R k => h H1 e _ fun vs Hr H2 f hd => by
  obtain ⟨v, rfl, hv⟩ := hd.one_eq
  refine ⟨n, by rw [hv.int_eq], by omega, by omega, k _ _ _ Hr H2 f (walk_rng (lo := 0) (n := n.toNat)) (fun _ _ => trivial) ?_⟩
  have h0 := dta_rng (H := Hr) (lo := 0) (List.range n.toNat)
  have e : (fun i : Nat => PyData.int ((0 : Int) + i)) = fun i : Nat => PyData.int i := funext fun i => by rw [Int.zero_add]
  rw [e] at h0
  exact h0
theorem ew_rng2 {ta : TA} {lo n : Int} (h : EA ta σ Hb [.int lo, .int n]) (hl : -100000 ≤ lo ∧ lo ≤ 100000) (hn : -100000 ≤ n ∧ n ≤ 100000) : EW (iRng2 ta) σ Hb ((List.range (n - lo).toNat).map fun i : Nat => PyData.int (lo + i)) := fun H1 e R k => h H1 e _ fun vs Hr H2 f hd => by
  obtain ⟨v, w, rfl, hv, hw⟩ := hd.two_eq
  exact ⟨lo, n, by rw [hv.int_eq, hw.int_eq], by omega, k _ _ _ Hr H2 f (walk_rng (lo := lo) (n := (n - lo).toNat)) (fun _ _ => trivial) (dta_rng _)⟩
theorem EW.mono {ds : List PyData} (h : EW wi σ Hb ds) (e : Ex Hb Hr) : EW wi σ Hr ds := fun H1 a R k => h H1 (e.trans a) R fun J G xs Hs H2 f w g hd =>
  let q := f.over e a
  k J G xs _ H2 q.1 w (fun H' z => g H' (q.2.trans z)) (hd.mono q.2)

/-! ### comprehensions -/
theorem wipe_wipe : ∀ {vs : List Nat} {j : Nat} {o : Option V}, j ∈ vs → L2.wipe ((L2.wipe σ vs).set j o) vs = L2.wipe σ vs := by
  have key : ∀ (vs : List Nat) (σ : L2.St) (i : Nat), (L2.wipe σ vs)[i]? = if i ∈ vs then (if i < σ.length then some none else none) else σ[i]? := by
    intro vs
    induction vs with
    | nil => intro σ i; simp [L2.wipe]
    | cons v r ih =>
      intro σ i
      show ((L2.wipe σ r).set v none)[i]? = _
      by_cases e : v = i
      · subst e
        rw [List.getElem?_set]
        simp [wipe_length]
      · rw [List.getElem?_set_ne e, ih σ i]
        simp [show ¬ i = v from fun z => e z.symm]
  intro vs j o hj
  apply List.ext_getElem?
  intro i
  rw [key, key, List.length_set, wipe_length]
  by_cases hi : i ∈ vs
  · rw [if_pos hi, if_pos hi]
  · rw [if_neg hi, if_neg hi]
    have : j ≠ i := fun z => hi (z ▸ hj)
    rw [List.getElem?_set_ne this, key, if_neg hi]

theorem yes_go {σ : L2.St} {H : Hp} {A B : Hp → Prop} (h : A H) : tYes σ H fun b H3 => if b = true then A H3 else B H3 := iteT (B := B H) h
theorem ed_lc {α : Type} {A : List α} {enc enc' : α → PyData} {p : α → Bool} {j : Nat} (w : EW wi σ Hb (A.map enc)) (hz : A.length ≤ 100000) (en : En σ Hb ρ) (hj : j ∈ vs)
    (ht : ∀ a ∈ A, ∀ σ' H', Ex Hb H' → En σ' H' ((wipeD ρ vs).set j (some (enc a))) → EB tt σ' H' (p a))
    (he : ∀ a ∈ A, p a = true → ∀ σ' H', Ex Hb H' → En σ' H' ((wipeD ρ vs).set j (some (enc a))) → ED te σ' H' (enc' a)) :
    ED (tLc wi (gName j) tt te vs) σ Hb (.list ((A.filter p).map enc')) := fun H0 e0 Q q => w H0 e0 _ fun J G xs Hr H1 f wk hG hx D hD => by
  have hl : xs.length = A.length := by rw [hx.len, List.length_map]
  refine lc_it wk (fun i H' => ∃ Hs ys, Fr Hr H1 Hs H' ∧ Hs D = none ∧ H' D = some (.lst ys) ∧ DtA Hs ys (((A.take i).filter p).map enc') ∧ ys.length ≤ i) ?_ ?_ ?_ ?_
  · have hrD := fresh_back f.r hD
    exact ⟨Hr, [], (Fr.refl f.r).mutate hD hrD, hrD, upd_same, .nil, Nat.le_refl _⟩
  · rintro i H' hi ⟨Hs, ys, g, g1, g2, g3, g4⟩
    exact hG H' (g.b.trans g.r)
  · rintro i v H' H'' hi ⟨Hs, ys, g, g1, g2, g3, g4⟩ ⟨rfl, hv⟩
    obtain ⟨a, ha⟩ : ∃ a, A[i]? = some a := ⟨A[i]'(by omega), List.getElem?_eq_getElem (by omega)⟩
    have hmem : a ∈ A := List.mem_of_getElem? ha
    obtain ⟨v', hv', hd⟩ := hx.get (i := i) (d := enc a) (by rw [List.getElem?_map, ha]; rfl)
    rw [hv] at hv'
    cases hv'
    have en' : En ((L2.wipe σ vs).set j (some v)) Hs ((wipeD ρ vs).set j (some (enc a))) := ((en.mono (f.b.trans g.b)).wipe vs).set (hd.mono g.b)
    refine ⟨wipe_wipe hj, ht a hmem _ Hs (f.b.trans g.b) en' H'' g.r _ fun Ht H3 k => ?_⟩
    obtain ⟨k1, k2⟩ := k.mut g1 g2
    have ek : A.take (i + 1) = A.take i ++ [a] := by rw [List.take_add_one, ha] <;> rfl
    cases hp : p a with
    | false =>
      rw [if_neg (by decide)]
      refine ⟨Ht, ys, g.trans k, k1, k2, ?_, by omega⟩
      rw [ek, List.filter_append, List.filter_cons, if_neg (by rw [hp]; decide)]
      show DtA Ht ys (List.map enc' ((A.take i).filter p ++ []))
      rw [List.append_nil]
      exact g3.mono k.b
    | true =>
      rw [if_pos rfl]
      refine (he a hmem hp _ Ht (f.b.trans (g.b.trans k.b)) (en'.mono k.b)) H3 k.r _ fun y Hu H4 l hy => ?_
      obtain ⟨l1, l2⟩ := l.mut k1 k2
      refine ⟨ys, l2, sz_lt (by omega), Hu, ys ++ [y], ((g.trans k).trans l).mutate hD l1, l1, upd_same, ?_, by rw [List.length_append]; show ys.length + 1 ≤ _; omega⟩
      rw [ek, List.filter_append, List.filter_cons, if_pos hp, List.map_append]
      exact (g3.mono (k.b.trans l.b)).app (.one hy)
  · rintro H' ⟨Hs, ys, g, g1, g2, g3, g4⟩
    refine q _ (upd Hs D (.lst ys)) H' (f.trans (g.freeze hD g1 g2)) (.lst upd_same ?_)
    rw [hl, List.take_length] at g3
    exact g3.mono (Ex.new g1)
/-- without a test -/
theorem ed_lc0 {α : Type} {A : List α} {enc enc' : α → PyData} {j : Nat} (w : EW wi σ Hb (A.map enc)) (hz : A.length ≤ 100000) (en : En σ Hb ρ) (hj : j ∈ vs)
    (he : ∀ a ∈ A, ∀ σ' H', Ex Hb H' → En σ' H' ((wipeD ρ vs).set j (some (enc a))) → ED te σ' H' (enc' a)) :
    ED (tLc wi (gName j) tYes te vs) σ Hb (.list (A.map enc')) := by
  have h := ed_lc (tt := tYes) (te := te) (enc' := enc') (p := fun _ => true) w hz en hj (fun _ _ _ _ _ _ => eb_yes) (fun a ha _ => he a ha)
  rw [List.filter_eq_self.mpr (fun _ _ => rfl)] at h
  exact h
/-- two clauses without tests -/
theorem ed_lc2 {α β : Type} {A : List α} {B : α → List β} {enc : α → PyData} {enc1 enc2 : α → β → PyData} {j j1 : Nat} {vs1 : List Nat} (w : EW wi σ Hb (A.map enc)) (hz : A.length ≤ 10000) (hz1 : ∀ a ∈ A, (B a).length ≤ 10) (en : En σ Hb ρ) (hj : j ∈ vs) (hj1 : j1 ∈ vs1)
    (w1 : ∀ a ∈ A, ∀ σ' H', Ex Hb H' → En σ' H' ((wipeD ρ vs).set j (some (enc a))) → EW wi1 σ' H' ((B a).map (enc1 a)))
    (he : ∀ a ∈ A, ∀ b ∈ B a, ∀ σ' H', Ex Hb H' → En σ' H' ((wipeD ((wipeD ρ vs).set j (some (enc a))) vs1).set j1 (some (enc1 a b))) → ED te σ' H' (enc2 a b)) :
    ED (tLc2 wi (gName j) tYes wi1 (gName j1) tYes te vs vs1) σ Hb (.list (A.flatMap fun a => (B a).map (enc2 a))) := fun H0 e0 Q q => w H0 e0 _ fun J G xs Hr H1 f wk hG hx D hD => by
  have hl : xs.length = A.length := by rw [hx.len, List.length_map]
  let Pv : Nat → Hp → Prop := fun i H' => ∃ Hs ys, Fr Hr H1 Hs H' ∧ Hs D = none ∧ H' D = some (.lst ys) ∧ DtA Hs ys ((A.take i).flatMap fun a => (B a).map (enc2 a)) ∧ ys.length ≤ 10 * i
  refine ⟨fun i m H => m = xs.length - i ∧ i ≤ xs.length ∧ Pv i H, ⟨xs.length, by simp, Nat.zero_le _, ?_⟩, ?_⟩
  · have hrD := fresh_back f.r hD
    exact ⟨Hr, [], (Fr.refl f.r).mutate hD hrD, hrD, upd_same, .nil, Nat.le_refl _⟩
  rintro i m H' ⟨rfl, hi, p⟩
  have hGi : G H' := by
    obtain ⟨Hs, ys, g, g1, g2, g3, g4⟩ := p
    exact hG H' (g.b.trans g.r)
  by_cases hlt : i < xs.length
  · refine .inr ⟨wk.goes i H' hlt hGi, Pv (i + 1), fun H'' p' => ⟨xs.length - (i + 1), by omega, rfl, hlt, p'⟩, fun v H'' hy => ?_⟩
    obtain ⟨rfl, hv⟩ := wk.yields i H' v H'' hlt hGi hy
    obtain ⟨Hs, ys, g, g1, g2, g3, g4⟩ := p
    obtain ⟨a, ha⟩ : ∃ a, A[i]? = some a := ⟨A[i]'(by omega), List.getElem?_eq_getElem (by omega)⟩
    have hmem : a ∈ A := List.mem_of_getElem? ha
    obtain ⟨v', hv', hd⟩ := hx.get (i := i) (d := enc a) (by rw [List.getElem?_map, ha]; rfl)
    rw [hv] at hv'
    cases hv'
    have en' : En ((L2.wipe σ vs).set j (some v)) Hs ((wipeD ρ vs).set j (some (enc a))) := ((en.mono (f.b.trans g.b)).wipe vs).set (hd.mono g.b)
    have ek : A.take (i + 1) = A.take i ++ [a] := by rw [List.take_add_one, ha] <;> rfl
    refine ⟨wipe_wipe hj, ?_⟩
    refine yes_go ?_
    refine w1 a hmem _ Hs (f.b.trans g.b) en' H'' g.r _ fun J1 G1 xs1 Ht H4 k wk1 hG1 hx1 => ?_
    obtain ⟨k1, k2⟩ := k.mut g1 g2
    have gk := g.trans k
    have hl1 : xs1.length = (B a).length := by rw [hx1.len, List.length_map]
    have hb := hz1 a hmem
    let Pw : Nat → Hp → Prop := fun u H => ∃ Hs2 ys2, Fr Hr H1 Hs2 H ∧ Ex Ht Hs2 ∧ Hs2 D = none ∧ H D = some (.lst ys2) ∧ DtA Hs2 ys2 (((A.take i).flatMap fun a => (B a).map (enc2 a)) ++ ((B a).take u).map (enc2 a)) ∧ ys2.length ≤ 10 * i + u
    refine ⟨fun u m H => m = xs1.length - u ∧ u ≤ xs1.length ∧ Pw u H, ⟨xs1.length, by simp, Nat.zero_le _, ?_⟩, ?_⟩
    · refine ⟨Ht, ys, gk, Ex.refl _, k1, k2, ?_, by omega⟩
      show DtA Ht ys (_ ++ [])
      rw [List.append_nil]
      exact g3.mono k.b
    rintro u m H5 ⟨rfl, hu, Hs2, ys2, l, le, l1, l2, l3, l4⟩
    have hG1u : G1 H5 := hG1 H5 (le.trans l.r)
    by_cases hlu : u < xs1.length
    · refine .inr ⟨wk1.goes u H5 hlu hG1u, Pw (u + 1), fun H6 p' => ⟨xs1.length - (u + 1), by omega, rfl, hlu, p'⟩, fun v1 H6 hy1 => ?_⟩
      obtain ⟨rfl, hv1⟩ := wk1.yields u H5 v1 H6 hlu hG1u hy1
      obtain ⟨b, hb1⟩ : ∃ b, (B a)[u]? = some b := ⟨(B a)[u]'(by omega), List.getElem?_eq_getElem (by omega)⟩
      have hmb : b ∈ B a := List.mem_of_getElem? hb1
      obtain ⟨v1', hv1', hd1⟩ := hx1.get (i := u) (d := enc1 a b) (by rw [List.getElem?_map, hb1]; rfl)
      rw [hv1] at hv1'
      cases hv1'
      have en2 : En ((L2.wipe ((L2.wipe σ vs).set j (some v)) vs1).set j1 (some v1)) Hs2 ((wipeD ((wipeD ρ vs).set j (some (enc a))) vs1).set j1 (some (enc1 a b))) := ((en'.mono (k.b.trans le)).wipe vs1).set (hd1.mono le)
      refine ⟨wipe_wipe hj1, ?_⟩
      refine yes_go ?_
      refine he a hmem b hmb _ Hs2 (f.b.trans (g.b.trans (k.b.trans le))) en2 H6 l.r _ fun y Hu H7 o hy => ?_
      obtain ⟨o1, o2⟩ := o.mut l1 l2
      refine ⟨ys2, o2, sz_lt (by omega), Hu, ys2 ++ [y], (l.trans o).mutate hD o1, le.trans o.b, o1, upd_same, ?_, by rw [List.length_append]; show ys2.length + 1 ≤ _; omega⟩
      have eu : (B a).take (u + 1) = (B a).take u ++ [b] := by rw [List.take_add_one, hb1] <;> rfl
      rw [eu, List.map_append, ← List.append_assoc]
      exact (l3.mono o.b).app (.one hy)
    · have eu : u = xs1.length := by omega
      subst eu
      refine .inl ⟨wk1.stops H5 hG1u, Hs2, ys2, l, l1, l2, ?_, by omega⟩
      rw [hl1, List.take_length] at l3
      rw [ek, List.flatMap_append]
      show DtA Hs2 ys2 (_ ++ (List.map (enc2 a) (B a) ++ []))
      rw [List.append_nil]
      exact l3
  · have e : i = xs.length := by omega
    subst e
    obtain ⟨Hs, ys, g, g1, g2, g3, g4⟩ := p
    refine .inl ⟨wk.stops H' hGi, q _ (upd Hs D (.lst ys)) H' (f.trans (g.freeze hD g1 g2)) (.lst upd_same ?_)⟩
    rw [hl, List.take_length] at g3
    exact g3.mono (Ex.new g1)

/-! ### statements -/
variable {D : Ends} {tu tw tz : TS}
theorem st_set {i : Nat} (en : En σ Hb ρ) (eb : Ex Hb H) (h : ED te σ Hb d) (k : ∀ σ' Hr H', Fr Hb H Hr H' → En σ' Hr (ρ.set i (some d)) → tz D σ' H') : tSeq (tAsg te (gName i)) tz D σ H :=
  h H eb _ fun v Hr H' f hd => k _ Hr H' f ((en.mono f.b).set hd)
/-- with the slots as they are -/
theorem st_setS {i : Nat} (eb : Ex Hb H) (h : ED te σ Hb d) (k : ∀ v Hr H', Fr Hb H Hr H' → Dt Hr v d → tz D (σ.set i (some v)) H') : tSeq (tAsg te (gName i)) tz D σ H :=
  h H eb _ fun v Hr H' f hd => k v Hr H' f hd
theorem st_ret (eb : Ex Hb H) (h : ED te σ Hb d) (k : ∀ v Hr H', Fr Hb H Hr H' → Dt Hr v d → D.rt v H') : tRet te D σ H := h H eb _ k
theorem st_retQ (eb : Ex Hb H) (h : ED te σ Hb d) (k : ∀ v Hr H', Fr Hb H Hr H' → Dt Hr v d → D.rt v H') : tSeq (tRet te) tz D σ H := h H eb _ k
theorem st_drop (eb : Ex Hb H) (h : ED te σ Hb d) (k : ∀ Hr H', Fr Hb H Hr H' → tz D σ H') : tSeq (tDrop te) tz D σ H := h H eb _ fun v Hr H' f _ => k Hr H' f
theorem st_drop1 (eb : Ex Hb H) (h : ED te σ Hb d) (k : ∀ Hr H', Fr Hb H Hr H' → D.nx σ H') : tDrop te D σ H := h H eb _ fun v Hr H' f _ => k Hr H' f
/-- if test: raise, the test false -/
theorem st_guard (eb : Ex Hb H) (h : EB t σ Hb false) (k : ∀ Hr H', Fr Hb H Hr H' → tz D σ H') : tSeq (tIfS t tu tNext) tz D σ H := h H eb _ fun Hr H' f => k Hr H' f
theorem st_guard1 (eb : Ex Hb H) (h : EB t σ Hb false) (k : ∀ Hr H', Fr Hb H Hr H' → D.nx σ H') : tIfS t tu tNext D σ H := h H eb _ fun Hr H' f => k Hr H' f
theorem st_if {b : Bool} (eb : Ex Hb H) (h : EB t σ Hb b) (h1 : b = true → ∀ Hr H', Fr Hb H Hr H' → tu { D with nx := tz D } σ H') (h2 : b = false → ∀ Hr H', Fr Hb H Hr H' → tw { D with nx := tz D } σ H') : tSeq (tIfS t tu tw) tz D σ H :=
  h H eb _ fun Hr H' f => by
    cases b with
    | true => exact iteT (h1 rfl Hr H' f)
    | false => exact iteF (h2 rfl Hr H' f)
theorem st_if1 {b : Bool} (eb : Ex Hb H) (h : EB t σ Hb b) (h1 : b = true → ∀ Hr H', Fr Hb H Hr H' → tu D σ H') (h2 : b = false → ∀ Hr H', Fr Hb H Hr H' → tw D σ H') : tIfS t tu tw D σ H :=
  h H eb _ fun Hr H' f => by
    cases b with
    | true => exact iteT (h1 rfl Hr H' f)
    | false => exact iteF (h2 rfl Hr H' f)
/-- xs = [] -/
theorem st_new {i : Nat} (k : ∀ l H', H l = none → H' = upd H l (.lst []) → tz D (σ.set i (some (.ref l))) H') : tSeq (tAsg (tLst tNil) (gName i)) tz D σ H := ⟨Nat.zero_le _, fun l hl => k l _ hl rfl⟩
/-- xs.append(e) -/
theorem st_app {i : Nat} {l : Addr} {xs : List V} (hs : σ[i]? = some (some (.ref l))) (hb : Hb l = none) (hl : H l = some (.lst xs)) (hz : xs.length < 100000) (eb : Ex Hb H) (h : ED te σ Hb d)
    (k : ∀ v Hr H', Fr Hb H Hr H' → Dt Hr v d → tz D σ (upd H' l (.lst (xs ++ [v])))) : tSeq (tDrop (tBM K "list" rAppend (tVar i) (tCons te tNil))) tz D σ H :=
  ⟨.ref l, hs, .inl ⟨rfl, xs, .inl (.inl hl)⟩, h H eb _ fun v Hr H' f hd => ⟨l, xs, v, rfl, rfl, (f.mut hb hl).2, sz_lt hz, k v Hr H' f hd⟩⟩
theorem st_app1 {i : Nat} {l : Addr} {xs : List V} (hs : σ[i]? = some (some (.ref l))) (hb : Hb l = none) (hl : H l = some (.lst xs)) (hz : xs.length < 100000) (eb : Ex Hb H) (h : ED te σ Hb d)
    (k : ∀ v Hr H', Fr Hb H Hr H' → Dt Hr v d → D.nx σ (upd H' l (.lst (xs ++ [v])))) : tDrop (tBM K "list" rAppend (tVar i) (tCons te tNil)) D σ H :=
  ⟨.ref l, hs, .inl ⟨rfl, xs, .inl (.inl hl)⟩, h H eb _ fun v Hr H' f hd => ⟨l, xs, v, rfl, rfl, (f.mut hb hl).2, sz_lt hz, k v Hr H' f hd⟩⟩
/-- x += e -/
theorem st_aug1 {i : Nat} {f : Int → Int → Int} {a b : Int} (en : En σ Hb ρ) (hx : ρ[i]? = some (some (.int a))) (eb : Ex Hb H) (h : ED te σ Hb (.int b)) (k : ∀ σ' Hr H', Fr Hb H Hr H' → En σ' Hr (ρ.set i (some (.int (f a b)))) → D.nx σ' H') : tAug i te (ipI f) D σ H := by
  obtain ⟨v, h1, h2⟩ := en.at_ i _ hx
  exact ⟨v, h1, h H eb _ fun w Hr H' g hd => ⟨a, b, h2.int_eq, hd.int_eq, k _ Hr H' g ((en.mono g.b).set (.int _))⟩⟩
theorem st_aug {i : Nat} {f : Int → Int → Int} {a b : Int} (en : En σ Hb ρ) (hx : ρ[i]? = some (some (.int a))) (eb : Ex Hb H) (h : ED te σ Hb (.int b)) (k : ∀ σ' Hr H', Fr Hb H Hr H' → En σ' Hr (ρ.set i (some (.int (f a b)))) → tz D σ' H') : tSeq (tAug i te (ipI f)) tz D σ H := by
  obtain ⟨v, h1, h2⟩ := en.at_ i _ hx
  exact ⟨v, h1, h H eb _ fun w Hr H' g hd => ⟨a, b, h2.int_eq, hd.int_eq, k _ Hr H' g ((en.mono g.b).set (.int _))⟩⟩
/-- a for, by a word of the turn -/
theorem st_for {j : Nat} {ds : List PyData} (w : EW wi σ Hb ds) (eb : Ex Hb H) (Pv : Hp → Nat → L2.St → Hp → Prop) (h0 : ∀ Hr H', Fr Hb H Hr H' → Pv Hr 0 σ H') (hG : ∀ Hr i σ' H', Pv Hr i σ' H' → Ex Hr H')
    (hs : ∀ Hr i v d σ' H', Ex Hb Hr → ds[i]? = some d → Dt Hr v d → Pv Hr i σ' H' → tu { D with nx := Pv Hr (i + 1), ct := Pv Hr (i + 1), bk := tz D } (σ'.set j (some v)) H')
    (hd : ∀ Hr σ' H', Ex Hb Hr → Pv Hr ds.length σ' H' → tz D σ' H') : tSeq (tFor wi (gName j) tu) tz D σ H := w H eb _ fun J G xs Hr H1 f wk hg hx => by
  have hl := hx.len
  refine for_it (D := { D with nx := tz D }) wk (Pv Hr) (h0 Hr H1 f) (fun i σ' H' _ p => hg H' (hG Hr i σ' H' p)) (fun i v σ' H' H'' hi p hy => ?_) (fun σ' H' p => hd Hr σ' H' f.b (hl ▸ p))
  obtain ⟨rfl, hv⟩ := hy
  obtain ⟨d, h1, h2⟩ := hx.get' hv
  exact hs Hr i v d σ' H'' f.b h1 h2 p
/-- by a word of the turn and of the slots' data alone -/
theorem st_forE {j : Nat} {ds : List PyData} (w : EW wi σ Hb ds) (eb : Ex Hb H) (en : En σ Hb ρ) (Φ : Nat → Env' → Prop) (h0 : Φ 0 ρ)
    (hs : ∀ (i : Nat) (d : PyData) (ρ' : Env') (σ' : L2.St) (Hc H' : Hp) (D' : Ends), ds[i]? = some d → Φ i ρ' → En σ' Hc (ρ'.set j (some d)) → Ex Hc H' →
      (∀ σ2 Hd H2 ρ2, Fr Hc H' Hd H2 → En σ2 Hd ρ2 → Φ (i + 1) ρ2 → D'.nx σ2 H2) → tu D' σ' H')
    (hd : ∀ (ρ' : Env') (σ' : L2.St) (Hc H' : Hp), Φ ds.length ρ' → En σ' Hc ρ' → Fr Hb H Hc H' → tz D σ' H') : tSeq (tFor wi (gName j) tu) tz D σ H := by
  refine st_for w eb (fun Hr i σ' H' => ∃ Hc ρ', Ex Hr Hc ∧ Fr Hb H Hc H' ∧ Φ i ρ' ∧ En σ' Hc ρ') (fun Hr H' f => ⟨Hr, ρ, Ex.refl _, f, h0, en.mono f.b⟩) (fun Hr i σ' H' ⟨Hc, ρ', e, f, _⟩ => e.trans f.r)
    (fun Hr i v d σ' H' eh hd' hv ⟨Hc, ρ', e, f, hp, en'⟩ => ?_) (fun Hr σ' H' eh ⟨Hc, ρ', e, f, hp, en'⟩ => hd ρ' σ' Hc H' hp en' f)
  refine hs i d ρ' (σ'.set j (some v)) Hc H' _ hd' hp (en'.set (hv.mono e)) f.r fun σ2 Hd H2 ρ2 g h2 h1 => ?_
  exact ⟨Hd, ρ2, e.trans g.b, f.trans g, h1, h2⟩
/-- one assignment as a loop's turn -/
theorem st_set1 {i : Nat} (en : En σ Hb ρ) (eb : Ex Hb H) (h : ED te σ Hb d) (k : ∀ σ' Hr H', Fr Hb H Hr H' → En σ' Hr (ρ.set i (some d)) → D.nx σ' H') : tAsg te (gName i) D σ H :=
  h H eb _ fun v Hr H' f hd => k _ Hr H' f ((en.mono f.b).set hd)
theorem st_while (W : Nat → L2.St → Hp → Prop) (m0 : Nat) (h0 : W m0 σ H)
    (hs : ∀ m σ' H', W m σ' H' → ∃ Hb b, Ex Hb H' ∧ EB t σ' Hb b ∧ (b = true → ∀ Hr H1, Fr Hb H' Hr H1 → ∃ N : L2.St → Hp → Prop, (∀ σ2 H2, N σ2 H2 → ∃ m', m' < m ∧ W m' σ2 H2) ∧ tu { D with nx := N, ct := N, bk := tz D } σ' H1) ∧ (b = false → ∀ Hr H1, Fr Hb H' Hr H1 → tz D σ' H1)) :
    tSeq (tWhile t tu) tz D σ H := ⟨W, ⟨m0, h0⟩, fun m σ' H' hw => by
  obtain ⟨Hb, b, eb, hb, h1, h2⟩ := hs m σ' H' hw
  refine hb H' eb _ fun Hr H1 f => ?_
  cases b with
  | true => exact h1 rfl Hr H1 f
  | false => exact h2 rfl Hr H1 f⟩
/-- i, j = e1, e2 -/
theorem st_par {i j : Nat} {ta : TA} {d1 d2 : PyData} (en : En σ Hb ρ) (eb : Ex Hb H) (h : EA ta σ Hb [d1, d2]) (k : ∀ σ' Hr H', Fr Hb H Hr H' → En σ' Hr ((ρ.set i (some d1)).set j (some d2)) → tz D σ' H') : tSeq (tPar i j ta) tz D σ H :=
  h H eb _ fun vs Hr H' f hd => by
    obtain ⟨v, w, rfl, h1, h2⟩ := hd.two_eq
    exact ⟨v, w, rfl, k _ Hr H' f (((en.mono f.b).set h1).set h2)⟩
end
end LX

set_option Elab.async false
set_option linter.all false
set_option maxRecDepth 100000
set_option maxHeartbeats 4000000
set_option autoImplicit false
namespace LX
open PySem PySem.Spec PyProof.Rows L2 Evl
/-! ### the text -/
def topS (i : Nat) : Stmt := PySem.Challenge.pw_taprows_k87_whole_filtered_rows.main.body.getD i (.Pass ⟨0, 0, 0, 0⟩)
def scC (N P : List PySem.Str) (sc : Scope) : Bool :=
  decide (sc.kind = .function) && !sc.isCoroutine && !sc.isGenerator && decide N.Nodup && decide (N.take P.length = P) && P.all (fun x => decide (sc.names.lookup x = some .local) || decide (sc.names.lookup x = some .cell)) && sc.names.all (fun y => !decide (y.2 = .free))
theorem fscope_by {N P : List PySem.Str} {sc : Scope} (h : scC N P sc = true) : FnScope N P sc := by
  unfold scC at h
  simp only [Bool.and_eq_true, Bool.not_eq_true', decide_eq_true_eq, List.all_eq_true, Bool.or_eq_true, decide_eq_false_iff_not] at h
  obtain ⟨⟨⟨⟨⟨⟨h1, h2⟩, h3⟩, h4⟩, h5⟩, h6⟩, h7⟩ := h
  exact ⟨h1, h2, h3, h4, h5, h6, h7⟩
theorem bt_len : bootBuiltins "len" = some (.builtin "len") := by decide +kernel
theorem bt_sum : bootBuiltins "sum" = some (.builtin "sum") := by decide +kernel
theorem bt_all : bootBuiltins "all" = some (.builtin "all") := by decide +kernel
theorem bt_any : bootBuiltins "any" = some (.builtin "any") := by decide +kernel
theorem bt_max : bootBuiltins "max" = some (.builtin "max") := by decide +kernel
theorem bt_min : bootBuiltins "min" = some (.builtin "min") := by decide +kernel
theorem bt_sorted : bootBuiltins "sorted" = some (.builtin "sorted") := by decide +kernel
theorem bt_isinstance : bootBuiltins "isinstance" = some (.builtin "isinstance") := by decide +kernel
theorem bt_int : bootBuiltins "int" = some (.type "int") := by decide +kernel
theorem bt_bool : bootBuiltins "bool" = some (.type "bool") := by decide +kernel
theorem bt_str : bootBuiltins "str" = some (.type "str") := by decide +kernel
theorem bt_tuple : bootBuiltins "tuple" = some (.type "tuple") := by decide +kernel
theorem bt_list : bootBuiltins "list" = some (.type "list") := by decide +kernel
theorem bt_set : bootBuiltins "set" = some (.type "set") := by decide +kernel
/-- what the module's names are -/
structure Txt (K : PySem.W.Frag) (mg : PySem.Str → Option Value) : Prop where
  len : mg "len" = none
  sum : mg "sum" = none
  all : mg "all" = none
  any : mg "any" = none
  max : mg "max" = none
  min : mg "min" = none
  sorted : mg "sorted" = none
  isinstance : mg "isinstance" = none
  int : mg "int" = none
  bool : mg "bool" = none
  str : mg "str" = none
  tuple : mg "tuple" = none
  list : mg "list" = none
  set : mg "set" = none
  range : mg "range" = none
  enumerate : mg "enumerate" = none
  MOST_ROW : ∃ t, mg "MOST_ROW" = some (.int 400 t)
  MOST_TAPS : ∃ t, mg "MOST_TAPS" = some (.int 60 t)
  MOST_STATES : ∃ t, mg "MOST_STATES" = some (.int 512 t)
  comb : mg "comb" = some (.builtin "math.comb")
  PRIMES : ∃ a, mg "PRIMES" = some (.ref a) ∧ ∀ H, SqT K H a [.int 2, .int 3, .int 5, .int 7]
/-- a def of the text behind the top -/
structure Df (K : PySem.W.Frag) (mg : PySem.Str → Option Value) (x : PySem.Str) (st : Stmt) (ps : List PySem.Str) : Prop where
  ex : ∃ (f : Addr) (fd : FuncData), L2.Fun K x x st f fd ∧ mg x = some (.ref f) ∧ Binds K fd ps []
section
variable {X : Cx}
theorem pe_gi {x : PySem.Str} {pos : Pos} {i : Int} (hg : Gl X x) (hm : ∃ t, X.mg x = some (.int i t)) (hd : (x == ("__debug__" : PySem.Str)) = false := by decide) : PE X (.Name x pos) (tC (.int i)) := by
  obtain ⟨t, h⟩ := hm
  exact pe_glob hg h ⟨_, rfl⟩ hd
theorem pe_ty {x : PySem.Str} {pos : Pos} {n : String} (hg : Gl X x) (hm : X.mg x = none) (hv : bootBuiltins x = some (.type n)) (hn : x ≠ ("__name__" : PySem.Str) := by decide) (hd : (x == ("__debug__" : PySem.Str)) = false := by decide) : PE X (.Name x pos) (tC (.ty n)) :=
  pe_bltn (v := .ty n) hg hm hv rfl hn hd
end
section
variable {P : Program} {w : World} {K : PySem.W.Frag} {mg : PySem.Str → Option Value} {base : Heap}
/-- what a body computes -/
def ReadsD (t : TS) (N : List PySem.Str) (R : List PyData → PyData → Prop) : Prop := ∀ ds d, R ds d → ∀ (vs : List V) (Hb H : Hp) (Q : VK), Ex Hb H → DtA Hb vs ds → (∀ v Hr H2, Fr Hb H Hr H2 → Dt Hr v d → Q v H2) → t { nx := fun _ H' => Q .non H', rt := Q } (start N vs) H
theorem calD {x : PySem.Str} {st : Stmt} {N ps : List PySem.Str} {k : Nat} {R : List PyData → PyData → Prop} (F : Df K mg x st ps) (S : FnScope N ps (defScope st)) (len : ∀ ds d, R ds d → ds.length = ps.length)
    (body : ∀ (f : Addr) (cdv : Value) (A : Around) (outer : List Env) (s : Shared) (H : Hp) (E : XK), Room k (A.deeper (envOfC x (defScope st) s.heap.objs.size f cdv)) → ∃ t, PSs (cxOf CX0 P w K mg base N x (defScope st) f cdv A outer s H E).nox (defBody st) t ∧ ReadsD t N R) :
    C8.Cal P w K mg base (k + 1) x (spD R) [] := by
  obtain ⟨f, fd, hF, hm, hb⟩ := F.ex
  refine ⟨f, fd, ps, [], hF.ok S (fun vs H Q E h => ?_) (fun cdv A outer s H vs Q E hr h => ?_), hm, hF.kp, hb, .nil⟩
  · obtain ⟨ds, d, Hb, _, h1, h2, _⟩ := h
    rw [h1.len, len ds d h2]
  · obtain ⟨t, ht, hR⟩ := body f cdv A outer s H E hr
    obtain ⟨ds, d, Hb, eb, h1, h2, k⟩ := h
    exact ⟨t, ht, hR ds d h2 vs Hb H Q eb h1 k⟩
end
end LX

set_option Elab.async false
set_option linter.all false
set_option maxRecDepth 100000
set_option maxHeartbeats 4000000
set_option autoImplicit false
namespace LX
open PySem PySem.Spec PyProof.Rows L2 Evl
/-! ### data in short -/
abbrev Li (ns : List Int) : PyData := .list (ns.map .int)
abbrev Ti (ns : List Int) : PyData := .tuple (ns.map .int)
theorem kit_ii : kitB "int" "int" = some true := by decide +kernel
theorem kit_ib : kitB "int" "bool" = some false := by decide +kernel
theorem kit_il : kitB "int" "list" = some false := by decide +kernel
theorem kit_it : kitB "int" "tuple" = some false := by decide +kernel
theorem kit_is : kitB "int" "str" = some false := by decide +kernel
theorem kit_tt : kitB "tuple" "tuple" = some true := by decide +kernel
theorem kit_tl : kitB "tuple" "list" = some false := by decide +kernel
theorem kit_ti : kitB "tuple" "int" = some false := by decide +kernel
/-- bits -/
def Bits (ns : List Int) : Prop := ∀ n ∈ ns, 0 ≤ n ∧ n < 2
section
variable {P : Program} {w : World} {K : PySem.W.Frag} {mg : PySem.Str → Option Value} {base : Heap}
abbrev CalD (P : Program) (w : World) (K : PySem.W.Frag) (mg : PySem.Str → Option Value) (base : Heap) (k : Nat) (x : PySem.Str) (R : List PyData → PyData → Prop) : Prop := C8.Cal P w K mg base k x (spD R) []
/-! ### is_int -/
abbrev s_is_int : Stmt := topS 15
abbrev N_is_int : List PySem.Str := ["value"]
abbrev P_is_int : List PySem.Str := ["value"]
theorem sc_is_int : FnScope N_is_int P_is_int (defScope s_is_int) := fscope_by (by decide +kernel)
def RisInt (ds : List PyData) (d : PyData) : Prop := ∃ i : Int, ds = [.int i] ∧ d = .bool true
theorem ok_is_int (T : Txt K mg) (F : Df K mg "is_int" s_is_int P_is_int) : CalD P w K mg base 1 "is_int" RisInt := by
  refine calD F sc_is_int (fun ds d h => by obtain ⟨i, rfl, _⟩ := h; rfl) fun f cdv A outer s H E hr => ⟨_,
    (pss_one (ps_ret (pe_and (pe_callB call_isi (by rfl) T.isinstance bt_isinstance (pa_cons (pv 0) (pa_cons (pe_ty (by rfl) T.int bt_int) pa_nil))) (pe_one (pe_not (pe_callB call_isi (by rfl) T.isinstance bt_isinstance (pa_cons (pv 0) (pa_cons (pe_ty (by rfl) T.bool bt_bool) pa_nil)))))))), fun ds d hR vs Hb H Q eb hv k => ?_⟩
  obtain ⟨i, rfl, rfl⟩ := hR
  have en := En.start (N := N_is_int) hv
  exact st_ret eb (ed_andV (a := true) (b := !false) (ed_isi (ed_var en rfl) kit_ii) fun _ => ed_notV (ed_isi (ed_var en rfl) kit_ib)) k
/-! ### is_in -/
abbrev s_is_in : Stmt := topS 16
abbrev N_is_in : List PySem.Str := ["value", "low", "high"]
abbrev P_is_in : List PySem.Str := ["value", "low", "high"]
theorem sc_is_in : FnScope N_is_in P_is_in (defScope s_is_in) := fscope_by (by decide +kernel)
def RisIn (ds : List PyData) (d : PyData) : Prop := ∃ v lo hi : Int, ds = [.int v, .int lo, .int hi] ∧ d = .bool (decide (lo ≤ v) && decide (v ≤ hi))
theorem ok_is_in (T : Txt K mg) (F : Df K mg "is_in" s_is_in P_is_in) (c_is_int : CalD P w K mg base 1 "is_int" RisInt) : CalD P w K mg base 2 "is_in" RisIn := by
  refine calD F sc_is_in (fun ds d h => by obtain ⟨_, _, _, rfl, _⟩ := h; rfl) fun f cdv A outer s H E hr => ⟨_,
    (pss_one (ps_ret (pe_and (C8.pe_c c_is_int hr (by decide) (by rfl) (pa_cons (pv 0) pa_nil)) (pe_one (pe_chain op_le op_le (pv 1) (pv 0) (pv 2)))))), fun ds d hR vs Hb H Q eb hv k => ?_⟩
  obtain ⟨v, lo, hi, rfl, rfl⟩ := hR
  have en := En.start (N := N_is_in) hv
  exact st_ret eb (ed_andV (a := true) (ed_call (ea_cons (ed_var en rfl) ea_nil) ⟨v, rfl, rfl⟩) fun _ => ed_chain (ed_var en rfl) (ed_var en rfl) or_le (fun _ => ed_var en rfl) fun _ => or_le) k
/-! ### need_prime -/
abbrev s_need_prime : Stmt := topS 17
abbrev N_need_prime : List PySem.Str := ["value"]
abbrev P_need_prime : List PySem.Str := ["value"]
theorem sc_need_prime : FnScope N_need_prime P_need_prime (defScope s_need_prime) := fscope_by (by decide +kernel)
def RneedPrime (ds : List PyData) (d : PyData) : Prop := ds = [.int 2] ∧ d = .none
theorem ok_need_prime (T : Txt K mg) (F : Df K mg "need_prime" s_need_prime P_need_prime) (c_is_int : CalD P w K mg base 1 "is_int" RisInt) : CalD P w K mg base 2 "need_prime" RneedPrime := by
  obtain ⟨a, hP, hT⟩ := T.PRIMES
  refine calD F sc_need_prime (fun ds d h => by obtain ⟨rfl, _⟩ := h; rfl) fun f cdv A outer s H E hr => ⟨_,
    (pss_one (ps_if (PW.pt (pw_or (pt_not (pt_val (C8.pe_c c_is_int hr (by decide) (by rfl) (pa_cons (pv 0) pa_nil)))) (pw_or1 (pt_cmpR op_notIn_seq (pv 0) (pe_glob (v := .ref a) (by rfl) hP rfl) (by rfl))))) (pss_one ps_never) pss_nil)), fun ds d hR vs Hb H Q eb hv k => ?_⟩
  obtain ⟨rfl, rfl⟩ := hR
  have en := En.start (N := N_need_prime) hv
  refine st_guard1 eb (eb_or (a := !true) (b := false) (eb_not (eb_B (ed_call (ea_cons (ed_var en rfl) ea_nil) ⟨2, rfl, rfl⟩))) fun _ => eb_test (te := tOp (rIn K true) (tVar 0) (tC (.ref a))) fun H1 e Q q => ?_) fun Hr H' f => k .non Hr H' f .non
  obtain ⟨v, h1, h2⟩ := en.at_ 0 _ rfl
  refine ⟨v, h1, a, _, rfl, .inr (hT H1), ?_, by decide, ?_⟩
  · rw [h2.int_eq] <;> rfl
  · rw [h2.int_eq]
    exact q _ Hb H1 (Fr.refl e) (.bl false)
/-! ### need_number -/
abbrev s_need_number : Stmt := topS 18
abbrev N_need_number : List PySem.Str := ["value", "low", "high"]
abbrev P_need_number : List PySem.Str := ["value", "low", "high"]
theorem sc_need_number : FnScope N_need_number P_need_number (defScope s_need_number) := fscope_by (by decide +kernel)
def RneedNumber (ds : List PyData) (d : PyData) : Prop := ∃ v lo hi : Int, ds = [.int v, .int lo, .int hi] ∧ lo ≤ v ∧ v ≤ hi ∧ d = .none
theorem ok_need_number (T : Txt K mg) (F : Df K mg "need_number" s_need_number P_need_number) (c_is_in : CalD P w K mg base 2 "is_in" RisIn) : CalD P w K mg base 3 "need_number" RneedNumber := by
  refine calD F sc_need_number (fun ds d h => by obtain ⟨_, _, _, rfl, _⟩ := h; rfl) fun f cdv A outer s H E hr => ⟨_,
    (pss_one (ps_if (pt_not (pt_val (C8.pe_c c_is_in hr (by decide) (by rfl) (pa_cons (pv 0) (pa_cons (pv 1) (pa_cons (pv 2) pa_nil)))))) (pss_one ps_never) pss_nil)), fun ds d hR vs Hb H Q eb hv k => ?_⟩
  obtain ⟨v, lo, hi, rfl, h1, h2, rfl⟩ := hR
  have en := En.start (N := N_need_number) hv
  exact st_guard1 eb (eb_not (a := true) (eb_B (ed_call (ea_cons (ed_var en rfl) (ea_cons (ed_var en rfl) (ea_cons (ed_var en rfl) ea_nil))) ⟨v, lo, hi, rfl, by rw [decide_eq_true h1, decide_eq_true h2] <;> rfl⟩))) fun Hr H' f => k .non Hr H' f .non
/-! ### are_numbers -/
abbrev s_are_numbers : Stmt := topS 19
abbrev N_are_numbers : List PySem.Str := ["prime", "value", "most", "number"]
abbrev P_are_numbers : List PySem.Str := ["prime", "value", "most"]
theorem sc_are_numbers : FnScope N_are_numbers P_are_numbers (defScope s_are_numbers) := fscope_by (by decide +kernel)
def RareNumbers (ds : List PyData) (d : PyData) : Prop := ∃ (ns : List Int) (most : Int), ds = [.int 2, Ti ns, .int most] ∧ Bits ns ∧ ns.length ≤ 100000 ∧ (ns.length : Int) ≤ most ∧ d = .bool true
theorem ok_are_numbers (T : Txt K mg) (F : Df K mg "are_numbers" s_are_numbers P_are_numbers) (c_is_in : CalD P w K mg base 2 "is_in" RisIn) : CalD P w K mg base 3 "are_numbers" RareNumbers := by
  refine calD F sc_are_numbers (fun ds d h => by obtain ⟨_, _, rfl, _⟩ := h; rfl) fun f cdv A outer s H E hr => ⟨_,
    (pss_cons (ps_if (PW.pt (pw_or (pt_not (pt_val (pe_callB call_isi (by rfl) T.isinstance bt_isinstance (pa_cons (pv 1) (pa_cons (pe_ty (by rfl) T.tuple bt_tuple) pa_nil))))) (pw_or1 (pt_cmpR op_gt (pe_callB call_len_seq (by rfl) T.len bt_len (pa_cons (pv 1) pa_nil)) (pv 2) (nomark _))))) (pss_one (ps_ret pe_bl)) pss_nil)
      (pss_one (ps_ret (pe_callB (cr_all rfl) (by rfl) T.all bt_all (pa_cons (pe_lc (own := [("number", 3)]) (g := (gName 3)) (tt := tYes) (by rfl) sc_are_numbers.nd (pi_tup (pv 1)) (blkOk_by (own := [("number", 3)]) (N := N_are_numbers) (sc := (defScope s_are_numbers)) (by decide +kernel)) (fun _ _ _ _ _ => (pg_name (i := 3) sc_are_numbers.nd rfl (by first | exact Or.inl rfl | exact Or.inr rfl))) (fun _ _ _ _ _ => pts_nil) (fun _ _ _ _ _ => (C8.pe_c c_is_in hr (by decide) (by rfl) (pa_cons (pv 3) (pa_cons pe_int (pa_cons (pe_op op_sub (pv 0) pe_int) pa_nil)))))) pa_nil))))), fun ds d hR vs Hb H Q eb hv k => ?_⟩
  obtain ⟨ns, most, rfl, hb, hz, hm, rfl⟩ := hR
  have en := En.start (N := N_are_numbers) hv
  refine st_guard eb (eb_or (a := !true) (b := false) (eb_not (eb_B (ed_isi (ed_var en rfl) kit_tt))) fun _ => eb_test (ed_is (ed_op (ed_cb (ea_cons (ed_var en rfl) ea_nil) br_lenT) (ed_var en rfl) or_gt) ?_)) fun Hr H' f => ?_
  · rw [List.length_map]
    exact congrArg _ (decide_eq_false (by omega))
  have en := en.fr f
  refine st_ret f.r (ed_cb (ea_cons (ed_is (y := .list (List.map PyData.bool (List.replicate ns.length true))) (ed_lc0 (enc' := fun _ => .bool true) (ew_tup (ed_var en rfl)) hz en (by decide) fun a ha σ' H1 e en => ed_call (ea_cons (ed_var en rfl) (ea_cons ed_int (ea_cons (ed_op (ed_var en rfl) ed_int or_sub) ea_nil))) ⟨a, _, _, rfl, ?_⟩) ?_) ea_nil) br_all) fun v Hs H2 g hd => k v Hs H2 (f.trans g) ?_
  · have := hb a ha
    rw [decide_eq_true this.1, decide_eq_true (show a ≤ 2 - 1 by omega)] <;> rfl
  · rw [List.map_const', List.map_replicate]
  · have : (List.replicate ns.length true).all id = true := by
      rw [List.all_eq_true]
      intro x hx
      rw [List.eq_of_mem_replicate hx] <;> rfl
    rw [this] at hd
    exact hd
end
end LX

set_option Elab.async false
set_option linter.all false
set_option maxRecDepth 100000
set_option maxHeartbeats 4000000
set_option autoImplicit false
namespace LX
open PySem PySem.Spec PyProof.Rows L2 Evl
section
variable {P : Program} {w : World} {K : PySem.W.Frag} {mg : PySem.Str → Option Value} {base : Heap}
/-! ### need_row -/
-- need_row: cells []; slots 0 prime, 1 value
abbrev s_need_row : Stmt := topS 20
abbrev N_need_row : List PySem.Str := ["prime", "value"]
abbrev P_need_row : List PySem.Str := ["prime", "value"]
theorem sc_need_row : FnScope N_need_row P_need_row (defScope s_need_row) := fscope_by (by decide +kernel)
def RneedRow (ds : List PyData) (d : PyData) : Prop := ∃ ns : List Int, ds = [.int 2, Ti ns] ∧ Bits ns ∧ ns.length ≤ 400 ∧ d = .none
theorem ok_need_row (T : Txt K mg) (F : Df K mg "need_row" s_need_row P_need_row) (c_are_numbers : CalD P w K mg base 3 "are_numbers" RareNumbers) : CalD P w K mg base 4 "need_row" RneedRow := by
  refine calD F sc_need_row (fun ds d h => by obtain ⟨_, rfl, _⟩ := h; rfl) fun f cdv A outer s H E hr => ⟨_,
    (pss_one (ps_if (pt_not (pt_val (C8.pe_c c_are_numbers hr (by decide) (by rfl) (pa_cons (pv 0) (pa_cons (pv 1) (pa_cons (pe_gi (by rfl) T.MOST_ROW) pa_nil)))))) (pss_one ps_never) pss_nil)), fun ds d hR vs Hb H Q eb hv k => ?_⟩
  obtain ⟨ns, rfl, hb, hz, rfl⟩ := hR
  have en := En.start (N := N_need_row) hv
  exact st_guard1 eb (eb_not (a := true) (eb_B (ed_call (ea_cons (ed_var en rfl) (ea_cons (ed_var en rfl) (ea_cons ed_int ea_nil))) ⟨ns, 400, rfl, hb, by omega, by omega, rfl⟩))) fun Hr H' f => k .non Hr H' f .non
/-! ### inverse -/
-- inverse: cells ['number', 'prime']; slots 0 prime, 1 number, 2 other
abbrev s_inverse : Stmt := topS 22
abbrev N_inverse : List PySem.Str := ["prime", "number", "other"]
abbrev P_inverse : List PySem.Str := ["prime", "number"]
theorem sc_inverse : FnScope N_inverse P_inverse (defScope s_inverse) := fscope_by (by decide +kernel)
def Rinverse (ds : List PyData) (d : PyData) : Prop := ds = [.int 2, .int 1] ∧ d = .int 1
theorem ok_inverse (T : Txt K mg) (F : Df K mg "inverse" s_inverse P_inverse)  : CalD P w K mg base 1 "inverse" Rinverse := by
  refine calD F sc_inverse (fun ds d h => by obtain ⟨rfl, _⟩ := h; rfl) fun f cdv A outer s H E hr => ⟨_,
    (pss_one (ps_ret (pe_ix (r := rIxL K) ix_list (pe_lc (own := [("other", 2)]) (wi := iRng1 _) (g := (gName 2))  (by rfl) sc_inverse.nd (pi_range1 (by rfl) T.range (pa_cons (pv 0) pa_nil)) (blkOk_by (own := [("other", 2)]) (N := N_inverse) (sc := (defScope s_inverse)) (by decide +kernel)) (fun _ _ _ _ _ => (pg_name (i := 2) sc_inverse.nd rfl (by first | exact Or.inl rfl | exact Or.inr rfl))) (fun _ _ _ _ _ => pts_one (pt_cmpR op_eq (pe_op op_mod (pe_op op_mul (pv 1) (pv 2)) (pv 0)) pe_int (nomark _))) (fun _ _ _ _ _ => (pv 2))) pe_int (fun _ _ => rfl)))), fun ds d hR vs Hb H Q eb hv k => ?_⟩
  obtain ⟨rfl, rfl⟩ := hR
  have en := En.start (N := N_inverse) hv
  refine st_ret eb (ed_op (ed_lc (A := [0, 1]) (enc := fun i : Int => .int i) (enc' := fun i : Int => .int i) (p := fun i => decide (1 * i % 2 = 1)) (ew_rng1 (n := 2) (ea_cons (ed_var en rfl) ea_nil) (by omega)) (by decide) en (by decide)
    (fun a ha σ' H1 e en => eb_test (ed_op (ed_op (ed_op (ed_var en rfl) (ed_var en rfl) (or_mul (by unfold CMul; omega))) (ed_var en rfl) (or_mod (by omega))) ed_int or_eq)) (fun a ha _ σ' H1 e en => ed_var en rfl)) ed_int (or_ixL (by rfl))) k
/-! ### whole_power -/
-- whole_power: cells []; slots 0 prime, 1 exponent, 2 found, 3 turn
abbrev s_whole_power : Stmt := topS 24
abbrev N_whole_power : List PySem.Str := ["prime", "exponent", "found", "turn"]
abbrev P_whole_power : List PySem.Str := ["prime", "exponent"]
theorem sc_whole_power : FnScope N_whole_power P_whole_power (defScope s_whole_power) := fscope_by (by decide +kernel)
def RwholePower (ds : List PyData) (d : PyData) : Prop := ∃ n : Nat, ds = [.int 2, .int n] ∧ n ≤ 9 ∧ d = .int ((2 ^ n : Nat) : Int)
theorem ok_whole_power (T : Txt K mg) (F : Df K mg "whole_power" s_whole_power P_whole_power)  : CalD P w K mg base 1 "whole_power" RwholePower := by
  refine calD F sc_whole_power (fun ds d h => by obtain ⟨_, rfl, _⟩ := h; rfl) fun f cdv A outer s H E hr => ⟨_,
    (pss_cons (ps_set (i := 2) sc_whole_power.nd rfl (by first | exact Or.inl rfl | exact Or.inr rfl) pe_int)
      (pss_cons (ps_for PassesOwn.never rfl (pi_range1 (by rfl) T.range (pa_cons (pv 1) pa_nil)) (pg_name (i := 3) sc_whole_power.nd rfl (by first | exact Or.inl rfl | exact Or.inr rfl)) (pss_one (ps_set (i := 2) sc_whole_power.nd rfl (by first | exact Or.inl rfl | exact Or.inr rfl) (pe_op op_mul (pv 2) (pv 0)))))
      (pss_one (ps_ret (pv 2))))), fun ds d hR vs Hb H Q eb hv k => ?_⟩
  obtain ⟨n, rfl, hn, rfl⟩ := hR
  have en := En.start (N := N_whole_power) hv
  refine st_set en eb ed_int fun σ1 Hr H1 f1 en1 => ?_
  refine st_forE (ew_rng1 (n := n) (ea_cons (ed_var en1 rfl) ea_nil) (by omega)) f1.r en1
    (fun i ρ' => ∃ t, ρ' = [some (.int 2), some (.int n), some (.int ((2 ^ i : Nat) : Int)), t]) ⟨_, rfl⟩ (fun i d ρ' σ' Hc H' D' hd hp en2 e k2 => ?_) (fun ρ' σ' Hc H' hp en2 f2 => ?_)
  · obtain ⟨t, rfl⟩ := hp
    have hi : i < n := by
      have := (List.getElem?_eq_some_iff.mp hd).1
      rw [List.length_map, List.length_range] at this
      omega
    have hp : (2 ^ i : Nat) ≤ 2 ^ 9 := Nat.pow_le_pow_right (by decide) (by omega)
    have e2 : ((2 ^ (i + 1) : Nat) : Int) = ((2 ^ i : Nat) : Int) * 2 := by
      rw [Nat.pow_succ, Int.natCast_mul] <;> rfl
    refine st_set1 en2 e (ed_op (ed_var en2 rfl) (ed_var en2 rfl) (or_mul (by unfold CMul; omega))) fun σ3 Hd H3 f3 en3 => k2 σ3 Hd H3 _ f3 en3 ⟨some d, ?_⟩
    rw [e2] <;> rfl
  · obtain ⟨t, rfl⟩ := hp
    rw [List.length_map, List.length_range] at en2
    exact st_ret f2.r (ed_var en2 rfl) fun v Ht H3 f3 hd => k v Ht H3 ((f1.trans f2).trans f3) hd
/-! ### need_size -/
-- need_size: cells []; slots 0 prime, 1 size
abbrev s_need_size : Stmt := topS 27
abbrev N_need_size : List PySem.Str := ["prime", "size"]
abbrev P_need_size : List PySem.Str := ["prime", "size"]
theorem sc_need_size : FnScope N_need_size P_need_size (defScope s_need_size) := fscope_by (by decide +kernel)
def RneedSize (ds : List PyData) (d : PyData) : Prop := ∃ n : Nat, ds = [.int 2, .int n] ∧ 1 ≤ n ∧ n ≤ 9 ∧ d = .none
theorem ok_need_size (T : Txt K mg) (F : Df K mg "need_size" s_need_size P_need_size) (c_need_prime : CalD P w K mg base 2 "need_prime" RneedPrime) (c_is_in : CalD P w K mg base 2 "is_in" RisIn) (c_whole_power : CalD P w K mg base 1 "whole_power" RwholePower) : CalD P w K mg base 3 "need_size" RneedSize := by
  refine calD F sc_need_size (fun ds d h => by obtain ⟨_, rfl, _⟩ := h; rfl) fun f cdv A outer s H E hr => ⟨_,
    (pss_cons (ps_expr (C8.pe_c c_need_prime hr (by decide) (by rfl) (pa_cons (pv 0) pa_nil)))
      (pss_one (ps_if (PW.pt (pw_or (pt_not (pt_val (C8.pe_c c_is_in hr (by decide) (by rfl) (pa_cons (pv 1) (pa_cons pe_int (pa_cons pe_int pa_nil)))))) (pw_or1 (pt_cmpR op_gt (C8.pe_c c_whole_power hr (by decide) (by rfl) (pa_cons (pv 0) (pa_cons (pv 1) pa_nil))) (pe_gi (by rfl) T.MOST_STATES) (nomark _))))) (pss_one ps_never) pss_nil))), fun ds d hR vs Hb H Q eb hv k => ?_⟩
  obtain ⟨n, rfl, h1, h2, rfl⟩ := hR
  have en := En.start (N := N_need_size) hv
  refine st_drop eb (ed_call (ea_cons (ed_var en rfl) ea_nil) ⟨rfl, rfl⟩) fun Hr H1 f1 => ?_
  have en := en.fr f1
  have hp : (2 ^ n : Nat) ≤ 2 ^ 9 := Nat.pow_le_pow_right (by decide) h2
  refine st_guard1 f1.r (eb_or (a := !true) (b := false) (eb_not (eb_B (ed_call (ea_cons (ed_var en rfl) (ea_cons ed_int (ea_cons ed_int ea_nil))) ⟨n, 1, 9, rfl, ?_⟩))) fun _ => eb_test (ed_is (ed_op (ed_call (ea_cons (ed_var en rfl) (ea_cons (ed_var en rfl) ea_nil)) ⟨n, rfl, h2, rfl⟩) ed_int or_gt) ?_)) fun Hs H2 f2 => k .non Hs H2 (f1.trans f2) .non
  · rw [decide_eq_true (show (1 : Int) ≤ n by omega), decide_eq_true (show (n : Int) ≤ 9 by omega)] <;> rfl
  · exact congrArg _ (decide_eq_false (by omega))
/-! ### need_table -/
-- need_table: cells []; slots 0 prime, 1 size, 2 table
abbrev s_need_table : Stmt := topS 28
abbrev N_need_table : List PySem.Str := ["prime", "size", "table"]
abbrev P_need_table : List PySem.Str := ["prime", "size", "table"]
theorem sc_need_table : FnScope N_need_table P_need_table (defScope s_need_table) := fscope_by (by decide +kernel)
def RneedTable (ds : List PyData) (d : PyData) : Prop := ∃ (n : Nat) (ns : List Int), ds = [.int 2, .int n, Ti ns] ∧ 1 ≤ n ∧ n ≤ 9 ∧ Bits ns ∧ ns.length = 2 ^ n ∧ d = .none
theorem ok_need_table (T : Txt K mg) (F : Df K mg "need_table" s_need_table P_need_table) (c_need_size : CalD P w K mg base 3 "need_size" RneedSize) (c_are_numbers : CalD P w K mg base 3 "are_numbers" RareNumbers) (c_whole_power : CalD P w K mg base 1 "whole_power" RwholePower) : CalD P w K mg base 4 "need_table" RneedTable := by
  refine calD F sc_need_table (fun ds d h => by obtain ⟨_, _, rfl, _⟩ := h; rfl) fun f cdv A outer s H E hr => ⟨_,
    (pss_cons (ps_expr (C8.pe_c c_need_size hr (by decide) (by rfl) (pa_cons (pv 0) (pa_cons (pv 1) pa_nil))))
      (pss_one (ps_if (PW.pt (pw_or (pt_not (pt_val (C8.pe_c c_are_numbers hr (by decide) (by rfl) (pa_cons (pv 0) (pa_cons (pv 2) (pa_cons (pe_gi (by rfl) T.MOST_STATES) pa_nil)))))) (pw_or1 (pt_cmpR op_ne (pe_callB (r := rLenQ K) call_len_seq (by rfl) T.len bt_len (pa_cons (pv 2) pa_nil)) (C8.pe_c c_whole_power hr (by decide) (by rfl) (pa_cons (pv 0) (pa_cons (pv 1) pa_nil))) (nomark _))))) (pss_one ps_never) pss_nil))), fun ds d hR vs Hb H Q eb hv k => ?_⟩
  obtain ⟨n, ns, rfl, h1, h2, hb, hl, rfl⟩ := hR
  have en := En.start (N := N_need_table) hv
  refine st_drop eb (ed_call (ea_cons (ed_var en rfl) (ea_cons (ed_var en rfl) ea_nil)) ⟨n, rfl, h1, h2, rfl⟩) fun Hr H1 f1 => ?_
  have en := en.fr f1
  have hp : (2 ^ n : Nat) ≤ 2 ^ 9 := Nat.pow_le_pow_right (by decide) h2
  refine st_guard1 f1.r (eb_or (a := !true) (b := false) (eb_not (eb_B (ed_call (ea_cons (ed_var en rfl) (ea_cons (ed_var en rfl) (ea_cons ed_int ea_nil))) ⟨ns, 512, rfl, hb, by omega, by omega, rfl⟩))) fun _ => eb_test (ed_is (ed_op (ed_cb (ea_cons (ed_var en rfl) ea_nil) br_lenT) (ed_call (ea_cons (ed_var en rfl) (ea_cons (ed_var en rfl) ea_nil)) ⟨n, rfl, h2, rfl⟩) or_ne) ?_)) fun Hs H2 f2 => k .non Hs H2 (f1.trans f2) .non
  rw [List.length_map, hl, decide_eq_true rfl] <;> rfl
/-! ### place_of -/
-- place_of: cells []; slots 0 prime, 1 state, 2 found, 3 number
abbrev s_place_of : Stmt := topS 29
abbrev N_place_of : List PySem.Str := ["prime", "state", "found", "number"]
abbrev P_place_of : List PySem.Str := ["prime", "state"]
theorem sc_place_of : FnScope N_place_of P_place_of (defScope s_place_of) := fscope_by (by decide +kernel)
/-- the index of a state -/
def place (ns : List Int) : Int := ns.foldl (fun f n => f * 2 + n) 0
theorem place_next {ns : List Int} {i : Nat} {x : Int} (hx : ns[i]? = some x) : place (ns.take (i + 1)) = place (ns.take i) * 2 + x := by
  unfold place
  rw [List.take_add_one, hx, Option.toList_some, List.foldl_append] <;> rfl
def RplaceL (ds : List PyData) (d : PyData) : Prop := ∃ ns : List Int, ds = [.int 2, Li ns] ∧ d = .int (place ns)
def RplaceT (ds : List PyData) (d : PyData) : Prop := ∃ ns : List Int, ds = [.int 2, Ti ns] ∧ d = .int (place ns)
theorem ok_place_ofL (T : Txt K mg) (F : Df K mg "place_of" s_place_of P_place_of)  : CalD P w K mg base 1 "place_of" RplaceL := by
  refine calD F sc_place_of (fun ds d h => by obtain ⟨_, rfl, _⟩ := h; rfl) fun f cdv A outer s H E hr => ⟨_,
    (pss_cons (ps_set (i := 2) sc_place_of.nd rfl (by first | exact Or.inl rfl | exact Or.inr rfl) pe_int)
      (pss_cons (ps_for PassesOwn.never rfl (pi_list (pv 1)) (pg_name (i := 3) sc_place_of.nd rfl (by first | exact Or.inl rfl | exact Or.inr rfl)) (pss_one (ps_set (i := 2) sc_place_of.nd rfl (by first | exact Or.inl rfl | exact Or.inr rfl) (pe_op op_add (pe_op op_mul (pv 2) (pv 0)) (pv 3)))))
      (pss_one (ps_ret (pv 2))))), fun ds d hR vs Hb H Q eb hv k => ?_⟩
  obtain ⟨ns, rfl, rfl⟩ := hR
  have en := En.start (N := N_place_of) hv
  refine st_set en eb ed_int fun σ1 Hr H1 f1 en1 => ?_
  refine st_forE (ew_list (ed_var en1 rfl)) f1.r en1
    (fun i ρ' => ∃ t, ρ' = [some (.int 2), some (Li ns), some (.int (place (ns.take i))), t]) ⟨_, rfl⟩ (fun i d ρ' σ' Hc H' D' hd hp en2 e k2 => ?_) (fun ρ' σ' Hc H' hp en2 f2 => ?_)
  · obtain ⟨t, rfl⟩ := hp
    rw [List.getElem?_map] at hd
    obtain ⟨x, hx, rfl⟩ := Option.map_eq_some_iff.mp hd
    refine st_set1 en2 e (ed_op (ed_op (ed_var en2 rfl) (ed_var en2 rfl) (or_mul (by unfold CMul; omega))) (ed_var en2 rfl) or_add) fun σ3 Hd H3 f3 en3 => k2 σ3 Hd H3 _ f3 en3 ⟨some (.int x), ?_⟩
    rw [place_next hx] <;> rfl
  · obtain ⟨t, rfl⟩ := hp
    rw [List.length_map, List.take_length] at en2
    exact st_ret f2.r (ed_var en2 rfl) fun v Ht H3 f3 hd => k v Ht H3 ((f1.trans f2).trans f3) hd
theorem ok_place_ofT (T : Txt K mg) (F : Df K mg "place_of" s_place_of P_place_of)  : CalD P w K mg base 1 "place_of" RplaceT := by
  refine calD F sc_place_of (fun ds d h => by obtain ⟨_, rfl, _⟩ := h; rfl) fun f cdv A outer s H E hr => ⟨_,
    (pss_cons (ps_set (i := 2) sc_place_of.nd rfl (by first | exact Or.inl rfl | exact Or.inr rfl) pe_int)
      (pss_cons (ps_for PassesOwn.never rfl (pi_tup (pv 1)) (pg_name (i := 3) sc_place_of.nd rfl (by first | exact Or.inl rfl | exact Or.inr rfl)) (pss_one (ps_set (i := 2) sc_place_of.nd rfl (by first | exact Or.inl rfl | exact Or.inr rfl) (pe_op op_add (pe_op op_mul (pv 2) (pv 0)) (pv 3)))))
      (pss_one (ps_ret (pv 2))))), fun ds d hR vs Hb H Q eb hv k => ?_⟩
  obtain ⟨ns, rfl, rfl⟩ := hR
  have en := En.start (N := N_place_of) hv
  refine st_set en eb ed_int fun σ1 Hr H1 f1 en1 => ?_
  refine st_forE (ew_tup (ed_var en1 rfl)) f1.r en1
    (fun i ρ' => ∃ t, ρ' = [some (.int 2), some (Ti ns), some (.int (place (ns.take i))), t]) ⟨_, rfl⟩ (fun i d ρ' σ' Hc H' D' hd hp en2 e k2 => ?_) (fun ρ' σ' Hc H' hp en2 f2 => ?_)
  · obtain ⟨t, rfl⟩ := hp
    rw [List.getElem?_map] at hd
    obtain ⟨x, hx, rfl⟩ := Option.map_eq_some_iff.mp hd
    refine st_set1 en2 e (ed_op (ed_op (ed_var en2 rfl) (ed_var en2 rfl) (or_mul (by unfold CMul; omega))) (ed_var en2 rfl) or_add) fun σ3 Hd H3 f3 en3 => k2 σ3 Hd H3 _ f3 en3 ⟨some (.int x), ?_⟩
    rw [place_next hx] <;> rfl
  · obtain ⟨t, rfl⟩ := hp
    rw [List.length_map, List.take_length] at en2
    exact st_ret f2.r (ed_var en2 rfl) fun v Ht H3 f3 hd => k v Ht H3 ((f1.trans f2).trans f3) hd
/-! ### states_of -/
-- states_of: cells ['prime']; slots 0 prime, 1 size, 2 found, 3 turn, 4 state, 5 number
abbrev s_states_of : Stmt := topS 30
abbrev N_states_of : List PySem.Str := ["prime", "size", "found", "turn", "state", "number"]
abbrev P_states_of : List PySem.Str := ["prime", "size"]
theorem sc_states_of : FnScope N_states_of P_states_of (defScope s_states_of) := fscope_by (by decide +kernel)
/-- all states of a size, ascending -/
def states : Nat → List (List Int)
  | 0 => [[]]
  | n + 1 => (states n).flatMap fun s => [s ++ [0], s ++ [1]]
theorem states_succ (n : Nat) : states (n + 1) = (states n).flatMap fun s => [s ++ [0], s ++ [1]] := rfl
theorem states_len : ∀ n : Nat, (states n).length = 2 ^ n
  | 0 => rfl
  | n + 1 => by
    unfold states
    rw [List.length_flatMap, Nat.pow_succ, ← states_len n]
    induction states n with
    | nil => rfl
    | cons a r ih => simp at ih ⊢; omega
theorem states_in : ∀ (n : Nat) (s : List Int), s ∈ states n → s.length = n
  | 0, s, h => by
    rw [List.mem_singleton.mp (show s ∈ [[]] from h)] <;> rfl
  | n + 1, s, h => by
    unfold states at h
    obtain ⟨t, h1, h2⟩ := List.mem_flatMap.mp h
    have := states_in n t h1
    rcases List.mem_cons.mp h2 with e | e
    · rw [e, List.length_append, this] <;> rfl
    · rw [List.mem_singleton.mp e, List.length_append, this] <;> rfl
def RstatesOf (ds : List PyData) (d : PyData) : Prop := ∃ n : Nat, ds = [.int 2, .int n] ∧ n ≤ 9 ∧ d = .list ((states n).map Ti)
theorem ok_states_of (T : Txt K mg) (F : Df K mg "states_of" s_states_of P_states_of)  : CalD P w K mg base 1 "states_of" RstatesOf := by
  refine calD F sc_states_of (fun ds d h => by obtain ⟨_, rfl, _⟩ := h; rfl) fun f cdv A outer s H E hr => ⟨_,
    (pss_cons (ps_set (i := 2) sc_states_of.nd rfl (by first | exact Or.inl rfl | exact Or.inr rfl) (pe_lst (pa_cons (pe_tup pa_nil) pa_nil)))
      (pss_cons (ps_for PassesOwn.never rfl (pi_range1 (by rfl) T.range (pa_cons (pv 1) pa_nil)) (pg_name (i := 3) sc_states_of.nd rfl (by first | exact Or.inl rfl | exact Or.inr rfl)) (pss_one (ps_setLc2 (i := 2) (own := [("state", 4), ("number", 5)]) (wi := iList K _) (vs1 := [5]) (wi1 := iRng1 _) (g := (gName 4)) (g1 := (gName 5)) (tt := tYes) (tt1 := tYes) (by rfl) sc_states_of.nd rfl rfl (sw_true rfl rfl rfl (by decide +kernel)) (pi_list (pv 2)) (blkOk_by (own := [("state", 4), ("number", 5)]) (N := N_states_of) (sc := (defScope s_states_of)) (by decide +kernel)) (by decide) (fun _ _ _ _ _ => (pg_name (i := 4) sc_states_of.nd rfl (by first | exact Or.inl rfl | exact Or.inr rfl))) (fun _ _ _ _ _ => pts_nil) (fun _ _ _ _ _ => (pi_range1 (by rfl) T.range (pa_cons (pv 0) pa_nil))) (fun _ _ _ _ _ => (pg_name (i := 5) sc_states_of.nd rfl (by first | exact Or.inl rfl | exact Or.inr rfl))) (fun _ _ _ _ _ => pts_nil) (fun _ _ _ _ _ => (pe_op (r := rCatA K) op_catA (pv 4) (pe_tup (pa_cons (pv 5) pa_nil)))))))
      (pss_one (ps_ret (pv 2))))), fun ds d hR vs Hb H Q eb hv k => ?_⟩
  obtain ⟨n, rfl, hn, rfl⟩ := hR
  have en := En.start (N := N_states_of) hv
  refine st_set en eb (ed_lst (ea_cons (ed_tup ea_nil (by decide)) ea_nil) (by decide)) fun σ1 Hr H1 f1 en1 => ?_
  refine st_forE (ew_rng1 (n := n) (ea_cons (ed_var en1 rfl) ea_nil) (by omega)) f1.r en1
    (fun i ρ' => ∃ t, ρ' = [some (.int 2), some (.int n), some (.list ((states i).map Ti)), t, none, none]) ⟨_, rfl⟩ (fun i d ρ' σ' Hc H' D' hd hp en2 e k2 => ?_) (fun ρ' σ' Hc H' hp en2 f2 => ?_)
  · obtain ⟨t, rfl⟩ := hp
    have hi : i < n := by
      have := (List.getElem?_eq_some_iff.mp hd).1
      rw [List.length_map, List.length_range] at this
      omega
    have hp : (2 ^ i : Nat) ≤ 2 ^ 9 := Nat.pow_le_pow_right (by decide) (by omega)
    have hl := states_len i
    refine st_set1 (d := .list ((states (i + 1)).map Ti)) en2 e (ed_is (ed_lc2 (A := states i) (B := fun _ => [0, 1]) (enc := Ti) (enc1 := fun _ (b : Int) => .int b) (enc2 := fun s b => Ti (s ++ [b])) (ew_list (ed_var en2 rfl)) (by omega) (fun _ _ => by decide) en2 (by decide) (by decide)
      (fun a ha σ' H1 e en => ew_rng1 (n := 2) (ea_cons (ed_var en rfl) ea_nil) (by omega))
      (fun a ha b hb σ' H1 e en => ed_is (ed_op (ed_var en rfl) (ed_tup (ea_cons (ed_var en rfl) ea_nil) (by show 1 ≤ 100000; decide)) (or_catA ?_)) ?_)) ?_) fun σ3 Hd H3 f3 en3 => k2 σ3 Hd H3 _ f3 en3 ⟨some d, rfl⟩
    · rw [List.length_map, states_in i a ha]
      show i + 1 ≤ _
      omega
    · show PyData.tuple (a.map .int ++ [.int b]) = Ti (a ++ [b])
      unfold Ti
      rw [List.map_append] <;> rfl
    · show PyData.list _ = PyData.list ((states (i + 1)).map Ti)
      rw [states_succ, List.map_flatMap] <;> rfl
  · obtain ⟨t, rfl⟩ := hp
    rw [List.length_map, List.length_range] at en2
    exact st_ret f2.r (ed_var en2 rfl) fun v Ht H3 f3 hd => k v Ht H3 ((f1.trans f2).trans f3) hd
end
end LX

set_option Elab.async false
set_option linter.all false
set_option maxRecDepth 100000
set_option maxHeartbeats 4000000
set_option autoImplicit false
namespace PySem
open Sem (wp)
open AutoSeq1 (wpAny_loadPart')
theorem lx_meets_enumerate_newT (l : Addr) (items : Array Value) :
    Meets (Builtin.«enumerate.__new__» ⟨[.type "enumerate", .ref l], []⟩) (fun _ R s => s.heap.IsTuple l items ∧
      R (.ok (.ret (.ref (s.heap.push { cls := .type "tuple_iterator", data := .fields #[.ref l, .int 0 0] }).objs.size)))
        { s with heap := (s.heap.push { cls := .type "tuple_iterator", data := .fields #[.ref l, .int 0 0] }).push { cls := .type "enumerate", data := .fields #[.none, .bool false, .ref s.heap.objs.size, rawInt 0, .none, .none] } }) :=
  .of_wp fun prog w A R s h => by
    obtain ⟨hp, g, d, tk, os⟩ := s; obtain ⟨hL, h⟩ := h
    have hsub := sub_enumerate
    wp_walk
    refine wpAny_stack_any fun st => wpAny_pure ?_
    split
    · rename_i c _ _ _ _ _
      cases (c == Value.type "enumerate")
      · wp_walk using wpAny_pyIter_tuple hL
        exact ⟨_, rfl, h⟩
      · wp_walk using wpAny_pyIter_tuple hL
        exact ⟨_, rfl, h⟩
    · wp_walk using wpAny_pyIter_tuple hL
      exact ⟨_, rfl, h⟩
section
variable {prog : Program} {w : World} {A : Around} {E : Value → Shared → Prop} {s : Shared}
theorem lx_call_enumerate_tuple {l : Addr} {items : Array Value} {Q : Value → Shared → Prop} (hL : s.heap.IsTuple l items)
    (h : ∀ h', IsEnum h' (s.heap.objs.size + 1) s.heap.objs.size 0 .none → h'.IsTupleIter s.heap.objs.size l 0 → h'.objs.size = s.heap.objs.size + 2 →
      (∀ b o, s.heap.get? b = some o → h'.get? b = some o) → Q (.ref (s.heap.objs.size + 1)) { s with heap := h' }) :
    wpAny (model prog w) A (call (.type "enumerate") [.ref l]) Q E s := by
  refine callType_new F.called_enumerate (by decide) (F.typeCall_enumerate_1 _) (F.newCall_enumerate_1 _) (fun obj => F.args_object_init_2 obj _) F.entry_enumerate_new
    (lx_meets_enumerate_newT l items) ⟨hL, ?_⟩
  have hz : (s.heap.push { cls := .type "tuple_iterator", data := .fields #[.ref l, .int 0 0] }).objs.size = s.heap.objs.size + 1 := Heap.size_push ..
  show _ ∧ _
  rw [hz]
  have he : IsEnum ((s.heap.push { cls := .type "tuple_iterator", data := .fields #[.ref l, .int 0 0] }).push
      { cls := .type "enumerate", data := .fields #[.none, .bool false, .ref s.heap.objs.size, rawInt 0, .none, .none] }) (s.heap.objs.size + 1) s.heap.objs.size 0 .none := by
    have := Heap.get?_push_size (s.heap.push { cls := .type "tuple_iterator", data := .fields #[.ref l, .int 0 0] })
      (o := { cls := .type "enumerate", data := .fields #[.none, .bool false, .ref s.heap.objs.size, rawInt 0, .none, .none] }) rfl
    rw [hz] at this; exact this
  refine ⟨⟨_, he, rfl⟩, h _ he ⟨_, Heap.get?_push_of_some _ (Heap.get?_push_size _ rfl), rfl, rfl⟩ (by rw [Heap.size_push, hz]) fun b o x => Heap.get?_push_of_some _ (Heap.get?_push_of_some _ x)⟩
end
end PySem
namespace LX
open PySem PySem.Spec PyProof.Rows L2 Evl
section
variable {X : Cx}
/-! ### math.comb -/
def rComb : List V → Hp → VK → Prop := fun vs H Q => ∃ a b : Int, vs = [.int a, .int b] ∧ 0 ≤ a ∧ 0 ≤ b ∧ a < 2 ^ 64 ∧ b ≤ 9000 ∧ Q (.int (PySem.W.mcComb a b)) H
theorem cr_comb : CallR X (.builtin "math.comb") rComb := by
  intro pins s σ H vs us Q I r h
  obtain ⟨a, b, rfl, h1, h2, h3, h4, q⟩ := h
  obtain ⟨t, u, rfl⟩ := Vals.int2 r
  exact PySem.W.mc_comb h1 h2 h3 (.inl h4) fun _ => ⟨.int _, H, I.tok _, ⟨_, rfl⟩, q⟩
/-! ### all(ints) -/
theorem truth_ints {prog : Program} {w : World} {A : Around} {ns : List Int} {its : List Value} (e : IntsAre its ns) :
    TruthOf prog w A (fun i v => its.toArray[i]? = some v) (fun i => (ns.map (· != 0)).getD i false) := fun i v s Q E hv hq => by
  have hv' : its[i]? = some v := by simpa using hv
  have key : ∀ {its : List Value} {ns : List Int}, IntsAre its ns → ∀ (i : Nat) (v : Value), its[i]? = some v → ∃ (k : Int) (t : Tok), v = Value.int k t ∧ ns[i]? = some k := by
    intro its ns e
    induction e with
    | nil => intro i v h; simp at h
    | cons n t r ih =>
      intro i v h
      cases i with
      | zero =>
        simp at h
        exact ⟨n, t, h.symm, rfl⟩
      | succ i =>
        obtain ⟨k, u, h1, h2⟩ := ih i v (by simpa using h)
        exact ⟨k, u, h1, by simpa using h2⟩
  obtain ⟨k, t, rfl, hk⟩ := key e i v hv'
  have hg : (ns.map (· != 0)).getD i false = (k != 0) := by rw [List.getD_eq_getElem?_getD, List.getElem?_map, hk] <;> rfl
  have hq' : Q ((ns.map (· != 0)).getD i false) s := hq
  rw [hg] at hq'
  exact PyProof.Rows.truthy_int hq'
def rAllI (K : PySem.W.Frag) : List V → Hp → VK → Prop := fun vs H Q => ∃ (a : Addr) (ns : List Int), vs = [V.ref a] ∧ SqL K H a (ns.map V.int) ∧ Q (.bl (ns.all (· != 0))) H
theorem cr_allI (hc : X.calm = true) : CallR X (.builtin "all") (rAllI X.K) := by
  intro pins s σ H vs us Q I r h
  obtain ⟨a, ns, rfl, hs, q⟩ := h
  obtain ⟨its, rv, hl, _⟩ := I.list hs
  rw [Vals.ref1 r]
  have hb := rv.ints
  refine call_all_walk (iter_any hl.isList fun s₂ e2 st hne => ?_)
  subst e2
  refine ⟨_, _, _, _, _, _, _, rfl, Walks.list (A := X.A.in1) (I.ok.hd hc) _ a hne its.toArray, st, truth_ints hb, fun h' tk hk => ?_⟩
  refine ⟨.bl _, H, I.kept fun b o eo => hk b o (fun hmem => ?_) (Heap.get?_push_of_some _ eo), ?_, q⟩
  · rcases List.mem_cons.mp hmem with e1 | hmem
    · exact absurd (e1 ▸ Heap.lt_size eo) (Nat.lt_irrefl _)
    · cases hmem
  · show Value.bool _ = Value.bool _
    have e1 : ns.all (· != 0) = (ns.map (· != 0)).all id := by rw [List.all_map] <;> rfl
    have e2 : its.length = (ns.map (· != 0)).length := by
      rw [List.length_map, rv.length.symm, List.length_map]
    rw [e1, ← L2.all_range, List.size_toArray, e2]
/-! ### enumerate(tuple) -/
/-- the tuple at a as it stands at each turn, each item in a new pair -/
def IteT (K : PySem.W.Frag) (a : Addr) : It :=
  ⟨fun i H => ∃ (xs : List V) (x : V), SqT K H a xs ∧ xs[i]? = some x, fun i H v H' => ∃ T x, v = .ref T ∧ H T = none ∧ H' = upd H T (.tup [.int (i : Nat), x]) ∧ ∀ xs, SqT K H a xs → xs[i]? = some x, fun i H => ∃ xs : List V, SqT K H a xs ∧ xs.length ≤ i⟩
theorem turn_enumT {P : Program} {w : World} {K : PySem.W.Frag} {elts : List Expr} {kk : Nat} {tpos : Pos} (a e it : Addr) :
    Turn P w K (.Tuple elts kk tpos) (IteT K a) [e, it] e (fun i h => (∃ old, IsEnum h e it ((i : Nat) : Int) old) ∧ h.IsTupleIter it a i ∧ e ≠ it) where
  mem := by simp
  obj := fun i h st b hb => by
    obtain ⟨⟨old, he⟩, ⟨o, ho, hc, hd⟩, _⟩ := st
    have e' : b = e ∨ b = it := by simpa using hb
    rcases e' with z | z
    · rw [z]; exact ⟨_, he, fun v q => nomatch q⟩
    · rw [z]; exact ⟨o, ho, fun v q => by rw [hd] at q; cases q⟩
  keep := fun i h h' st k => let ⟨⟨old, he⟩, hi, hne⟩ := st; ⟨⟨old, k e (by simp) _ he⟩, hi.at fun o q => k it (by simp) o q, hne⟩
  item := by
    intro X hP hw hK hc i pins s σ H E I hf st hg
    subst hP hw hK
    obtain ⟨⟨old, he⟩, hit, hne⟩ := st
    obtain ⟨xs, x, hq, hx⟩ := hg
    obtain ⟨its, rv, p, hz⟩ := I.tuple hq
    obtain ⟨u, hu, ru⟩ := rv.get hx
    have hel : e < s.heap.objs.size := Heap.lt_size he
    have hil : it < s.heap.objs.size := by obtain ⟨_, q, _⟩ := hit; exact Heap.lt_size q
    have pT : s.heap.IsTuple a its.toArray := p
    have hia : a ≠ it := fun z => by
      obtain ⟨o, q1, q2, _⟩ := pT
      obtain ⟨o', r1, r2, _⟩ := hit
      rw [z, r1] at q1
      cases q1
      rw [r2] at q2
      injection q2 with q3
      exact absurd q3 (by decide)
    have hea : e ≠ a := fun z => by
      obtain ⟨o, q1, q2, _⟩ := pT
      rw [← z, he] at q1
      cases q1
      injection q2 with q3
      exact absurd q3 (by decide)
    have hil' : i < its.toArray.size := by
      have := (List.getElem?_eq_some_iff.mp hu).1
      simpa using this
    refine wpAny_pyNext_enum_itemD (Draws.tuple (A := X.A.in1) (I.ok.hd hc) it a hia its.toArray) he ⟨hit, pT⟩ hil' hne (by simp [hne, hea]) fun x' h' tk hx' ho hst' hT hsz hk => ?_
    have ex : x' = u := by
      have h1 : its[i]? = some x' := by simpa using hx'
      rw [hu] at h1
      cases h1
      rfl
    subst ex
    refine ⟨_, rfl, wpAny_letOwnedTupleGo_enum (s := { s with heap := h', toks := tk + 1 }) ho fun h'' he' sb => ?_⟩
    have hT2 : h''.get? s.heap.objs.size = some { cls := .type "tuple", data := .seq #[.int i tk, x'] } := (sb.2 _ (Nat.ne_of_gt hel)).trans hT
    have new : ObjOk X.prog X.w (upd H s.heap.objs.size (.tup [.int (i : Nat), x])) h'' s.heap.objs.size (.tup [.int (i : Nat), x]) :=
      ⟨by show 2 ≤ sizeLine; decide, [.int i tk, x'], .cons ⟨_, rfl⟩ (.cons ru .nil), ⟨_, hT2, rfl, _, rfl⟩⟩
    have I1 : Inv X pins σ (upd H s.heap.objs.size (.tup [.int (i : Nat), x])) { s with heap := h'', toks := tk + 1 } :=
      I.turnedNew (ch := [e, it]) (fun b ob hb q => (sb.2 b (fun z => hb (by simp [z]))).trans (hk b ob (fun z => hb (by simp [z])) (fun z => hb (by simp [z])) q)) hf (Nat.le_refl _) new
    refine ⟨.ref s.heap.objs.size, _, I1, rfl, ⟨_, x, rfl, I.hok.fresh (Nat.le_refl _), rfl, fun ys hy => by rw [I.tuple_inj hy hq]; exact hx⟩, ⟨⟨x', ?_⟩, hst'.1.at fun o q => (sb.2 it (Ne.symm hne)).trans q, hne⟩, fun b hb => ?_⟩
    · have e1 : ((i + 1 : Nat) : Int) = (i : Int) + 1 := by omega
      rw [e1]; exact he'
    · have hb' : b < s.heap.objs.size := by
        have e' : b = e ∨ b = it := by simpa using hb
        rcases e' with z | z
        · rw [z]; exact hel
        · rw [z]; exact hil
      rw [upd_ne (Nat.ne_of_lt hb')]
      exact (hf b hb).1
  done := by
    intro X hP hw hK hc i pins s σ H E I hf st hg
    subst hP hw hK
    obtain ⟨⟨old, he⟩, hit, hne⟩ := st
    obtain ⟨xs, hq, hx⟩ := hg
    obtain ⟨its, rv, p, hz⟩ := I.tuple hq
    obtain ⟨f0, f1, f2, f3, f4, f5⟩ := hf it (by simp)
    have hl := rv.length
    have pT : s.heap.IsTuple a its.toArray := p
    have hia : a ≠ it := fun z => by
      obtain ⟨o, q1, q2, _⟩ := pT
      obtain ⟨o', r1, r2, _⟩ := hit
      rw [z, r1] at q1
      cases q1
      rw [r2] at q2
      injection q2 with q3
      exact absurd q3 (by decide)
    -- the index may lie at the end or behind
    unfold pyNext
    have hTy : s.TypeIs (.ref e) "enumerate" := ⟨_, he, rfl⟩
    refine wpAny_bind (wpAny_attempt (wpAny_callSpecial?_slot (name := Str.ofString "__next__") hTy F.slot_enumerate_next
      (wpAny_call_entry F.slot_enumerate_next hTy F.entry_enumerate_next ?_ (F.args_enumerate_next_1 _))))
    show wpAny _ _ (field (.ref e) 2 >>= _) _ _ _
    refine wpAny_bind (wpAny_field he rfl (x := .ref it) rfl ?_)
    refine wpAny_bind (wpAny_nextOf_tuple_end (I.ok.hd hc) hit pT (by simp; omega) fun h' x he' hx' => ?_)
    obtain ⟨o, ho, hc'⟩ := hx'
    refine wpAny_bind (wpAny_isInstance (T := "StopIteration") (b := true) ⟨o, ho, hc'⟩ isSubtype_stop ?_)
    exact wpAny_pure ⟨rfl, I.turned (t' := s.toks) (fun b o hb q => he' b o hb q) f0 f1 f3 f4 f5⟩
  self := fun A i s Q E st h => let ⟨⟨_, he⟩, _⟩ := st; wpAny_pyIter_enum he h
def iEnumT (K : PySem.W.Frag) (ta : TA) : TI := fun σ H R => ta σ H fun vs H1 => ∃ a xs, vs = [.ref a] ∧ SqT K H1 a xs ∧ R (IteT K a) H1
theorem pi_enumT {e : Expr} {ta : TA} {p pos tpos : Pos} {elts : List Expr} {kk : Nat} (hg : Gl X "enumerate") (hm : X.mg "enumerate" = none) (ha : PA X [e] ta) (hs : starEach [e] X.env = [(false, eval e X.env)] := by rfl) :
    PI X (.Tuple elts kk tpos) (.Call (.Name "enumerate" p) [e] [] pos) (iEnumT X.K ta) := by
  refine ⟨fun pins s σ H R I h => ?_⟩
  refine Call_ (ld_blt I hg hm boot_enumerate (PyProof.Rows.callWith_type1 (thn (ha.run pos pins s σ H _ I h) fun us s1 ⟨vs, H1, I1, r1, q1⟩ => ?_) hs rfl))
  obtain ⟨a, xs, ex, hq, q⟩ := q1
  subst ex
  cases r1 with
  | cons r rr =>
    cases rr
    cases r
    obtain ⟨its, rv, p', hz⟩ := I1.tuple hq
    refine lx_call_enumerate_tuple (show s1.heap.IsTuple a its.toArray from p') fun h' he hit hsz hk => wpAny_pyIter_enum he ?_
    have I2 : Inv X pins σ H1 { s1 with heap := h' } := I1.kept (t' := s1.toks) hk
    refine ⟨s1.heap.objs.size + 1, [s1.heap.objs.size + 1, s1.heap.objs.size], _, _, H1, rfl, I2, turn_enumT a (s1.heap.objs.size + 1) s1.heap.objs.size, ⟨⟨.none, he⟩, hit, Nat.succ_ne_self _⟩, fun b hb => ?_, q⟩
    have e' : b = s1.heap.objs.size + 1 ∨ b = s1.heap.objs.size := by simpa using hb
    have hle : s1.heap.objs.size ≤ b := by
      rcases e' with z | z
      · rw [z]; exact Nat.le_add_right _ _
      · rw [z]; exact Nat.le_refl _
    exact I1.fpOk hle (I1.hok.fresh hle)
end
end LX

set_option Elab.async false
set_option linter.all false
set_option maxRecDepth 100000
set_option maxHeartbeats 4000000
set_option autoImplicit false
namespace PySem.SeqAt
section
variable {A : Around} {s : Shared}
theorem lx_call_tuple_lt {prog : Program} {w : World} {E : Value → Shared → Prop} {Q : Value → Shared → Prop} {l b : Addr} {items items2 : Array Value} {e r : Nat → Bool} (hl : s.heap.IsTuple l items) (hb : s.heap.IsTuple b items2)
    (he : ∀ j (h1 : j < items.size) (h2 : j < items2.size), EqAt A.in1 s items[j] items2[j] (e j)) (hr : ∀ j (h1 : j < items.size) (h2 : j < items2.size), e j = false → RcLt A.in1 s items[j] items2[j] (r j))
    (h : Q (.bool (firstLt e r (decide (items.size < items2.size)) (List.range (min items.size items2.size)))) s) : wpAny (model prog w) A (call (.builtin "tuple.__lt__") [.ref l, .ref b]) Q E s := by
  obtain ⟨⟨cls, dd, data, sl⟩, ho, hc, n, hd⟩ := id hl
  obtain ⟨⟨cls2, dd2, data2, sl2⟩, ho2, hc2, n2, hd2⟩ := id hb
  simp only at hc hd hc2 hd2
  subst hc hd hc2 hd2
  exact call_meets F.slot_tuple_lt ⟨_, ho, rfl⟩ F.entry_tuple_lt (F.args_tuple_lt_2 _ _) (tuple_ltAt l b items items2 n n2 dd dd2 sl sl2 e r) ⟨ho, ho2, he, hr, h⟩
end
end PySem.SeqAt
namespace PySem.W
open PySem PySem.Calls PyProof.Rows PySem.SeqAt
section
variable {prog : Program} {w : World} {A : Around} {E : Value → Shared → Prop} {s : Shared}
/-- one tuple against another, both of one type -/
theorem lx_oneLt_tup {f : Bool} {xs ys : List PyData} {a b : Value} {as bs : List Addr} {Q : Bool → Shared → Prop} (ra : Reads s.heap a (.tuple xs) as) (rb : Reads s.heap b (.tuple ys) bs) (h : alike (.tuple xs) (.tuple ys) = true)
    (hu : A.units + min (PyData.tuple xs).depth (PyData.tuple ys).depth < cLine) (hq : Q (dataLt (.tuple xs) (.tuple ys)) s) : wpAny (model prog w) A (oneLt' f a b) Q E s := by
  cases f with
  | false => exact oneLt_alike (fun z => nomatch z) ra rb h (fun z => nomatch z) hu hq
  | true =>
    have hal : alikeAll xs ys = true := by simpa [alike] using h
    cases ra with
    | @tuple l o vs n _ as₁ h1 h2 h3 h4 =>
      cases rb with
      | @tuple l' o' vs' n' _ bs₁ k1 k2 k3 k4 =>
        have n1 : vs.size = xs.length := by simpa using SeqAt.ReadsAll.length _ _ _ h4
        have n2 : vs'.size = ys.length := by simpa using SeqAt.ReadsAll.length _ _ _ k4
        rw [dataLt_tuple, ← firstLt_toks xs ys hal, ← n1, ← n2] at hq
        rw [oneLt'_eq]
        simp only [if_true]
        refine wpAny_bind (wpAny_cRoomFor (room_here hu) ?_)
        refine wpAny_bind (wpAny_callSpecialIfBound?_slot (T := "tuple") ⟨_, h1, h2⟩ F.slot_tuple_lt (lx_call_tuple_lt (e := pairEq xs ys) (r := fun j => dataLt (xs.getD j .none) (ys.getD j .none)) ⟨_, h1, h2, _, h3⟩ ⟨_, k1, k2, _, k3⟩ (fun j j1 j2 => ?_) (fun j j1 j2 hj => ?_) ?_))
        · have := eqAt_alikeAll xs ys A.in1 s vs.toList vs'.toList _ _ h4 k4 hal (room_in hu) j (by simpa using j1) (by simpa using j2)
          simpa using this
        · have := rcLt_alikeAll xs ys A.in1 s vs.toList vs'.toList _ _ h4 k4 hal (room_in hu) j (by simpa using j1) (by simpa using j2) hj
          simpa using this
        · exact wpAny_truthy_bool hq
end
end PySem.W
namespace PySem.W
open PySem PySem.Calls PyProof.Rows PySem.SeqAt
def lxNe : PyData → Bool
  | .tuple (_ :: _) => true
  | _ => false
section
variable {prog : Program} {w : World} {A : Around} {E : Value → Shared → Prop} {s : Shared}
theorem lx_firsts {M : Model} : ∀ (vs : List Value) (ds : List PyData) {Q : List (Option Value) → Shared → Prop}, EachIs (fun v d => ∃ as, Reads s.heap v d as) vs ds → (∀ d ∈ ds, ∃ xs, d = .tuple xs) →
    (∀ os : List (Option Value), os.map (·.isSome) = ds.map lxNe → Q os s) → wpAny M A (vs.mapM firstOfTuple') Q E s
  | [], [], _, _, _, h => by rw [List.mapM_nil]; exact wpAny_pure (h [] rfl)
  | v :: vs, d :: ds, Q, e, ht, h => by
    cases e with
    | cons h1 t =>
      obtain ⟨as, r⟩ := h1
      obtain ⟨xs, rfl⟩ := ht d List.mem_cons_self
      rw [List.mapM_cons]
      refine wpAny_bind ?_
      rw [kas_first_eq]
      cases r with
      | @tuple a o vz n _ _ ho hc hd hr =>
        refine wpAny_bind (Looks.here (show Looks M s.heap (typeOf (.ref a)) o.cls from (Looks.ld ho).andThen .now) ?_)
        rw [hc, if_neg (by first | decide | simp)]
        refine wpAny_bind (listItems_at ho hd (wpAny_pure ?_))
        refine wpAny_bind (lx_firsts vs ds t (fun d hd => ht d (List.mem_cons_of_mem _ hd)) fun os hos => wpAny_pure (h _ ?_))
        rw [List.map_cons, List.map_cons, hos]
        have hl := SeqAt.ReadsAll.length _ _ _ hr
        congr 1
        cases xs with
        | nil =>
          have : vz.toList = [] := List.eq_nil_of_length_eq_zero hl
          have : vz[0]? = none := by rw [← Array.getElem?_toList, this]; rfl
          rw [this]; rfl
        | cons x r =>
          have h0 : 0 < vz.toList.length := by rw [hl]; exact Nat.succ_pos _
          have : vz[0]?.isSome = true := by
            rw [← Array.getElem?_toList, List.getElem?_eq_getElem h0]; rfl
          rw [this]; rfl
/-- tuples, one of which at least is empty, the first not -/
theorem lx_kind_gen {M : Model} {vs : List Value} {d0 : PyData} {ds : List PyData} {Q : SortKind → Shared → Prop} (e : EachIs (fun v d => ∃ as, Reads s.heap v d as) vs (d0 :: ds)) (ht : ∀ d ∈ d0 :: ds, ∃ xs, d = .tuple xs) (h0 : lxNe d0 = true) (hm : .tuple [] ∈ ds) (h : Q general' s) :
    wpAny M A (keyKind' vs.toArray) Q E s := by
  rw [kat_kind_eq, List.mapM_toArray, map_eq_pure_bind]
  refine wpAny_bind (wpAny_bind (lx_firsts vs _ e ht fun os hos => wpAny_pure ?_))
  have hall : (os.toArray.all fun x => x.isSome) = false := by
    rw [List.all_toArray]
    have : os.all (fun x => x.isSome) = (os.map (·.isSome)).all id := by rw [List.all_map] <;> rfl
    rw [this, hos, List.all_map, List.all_eq_false]
    exact ⟨.tuple [], List.mem_cons_of_mem _ hm, by simp [lxNe]⟩
  rw [if_neg (by rw [hall]; decide)]
  have hf : (os.toArray[0]?.bind id).isSome = true := by
    cases os with
    | nil => cases hos
    | cons o os =>
      have : o.isSome = true := by
        have := congrArg (fun l : List Bool => l.head?) hos
        simpa [h0] using this
      simpa using this
  rw [if_pos hf]
  exact wpAny_pure h
/-- the first one empty -/
theorem lx_kind_one {M : Model} {vs : List Value} {ds : List PyData} {Q : SortKind → Shared → Prop} (e : EachIs (fun v d => ∃ as, Reads s.heap v d as) vs (.tuple [] :: ds)) (ht : ∀ d ∈ PyData.tuple [] :: ds, ∃ xs, d = .tuple xs) (h : Q oneType' s) :
    wpAny M A (keyKind' vs.toArray) Q E s := by
  rw [kat_kind_eq, List.mapM_toArray, map_eq_pure_bind]
  refine wpAny_bind (wpAny_bind (lx_firsts vs _ e ht fun os hos => wpAny_pure ?_))
  obtain ⟨o, os, rfl, ho⟩ : ∃ o os', os = o :: os' ∧ o.isSome = false := by
    cases os with
    | nil => cases hos
    | cons o os =>
      refine ⟨o, os, rfl, ?_⟩
      have := congrArg (fun l : List Bool => l.head?) hos
      simpa [lxNe] using this
  have hall : ((o :: os).toArray.all fun x => x.isSome) = false := by
    rw [List.all_toArray, List.all_cons, ho] <;> rfl
  rw [if_neg (by rw [hall]; decide)]
  have hf : ((o :: os).toArray[0]?.bind id).isSome = false := by
    cases o with
    | none => simp
    | some v => cases ho
  rw [if_neg (by rw [hf]; decide)]
  rw [oneTypeOnly'_eq, List.mapM_toArray, map_eq_pure_bind]
  refine wpAny_bind (wpAny_bind (wpAny_bind (kas_mapM (r := Value.type "tuple") vs (fun v hv Q' hq => ?_) (wpAny_pure ?_))))
  · obtain ⟨d, hd, as, r⟩ := e.left v hv
    obtain ⟨xs, rfl⟩ := ht d hd
    exact (looks_reads r).here hq
  · cases e with
    | @cons v _ vs _ h1 t =>
      have hall : ((List.map (fun _ => Value.type "tuple") (v :: vs)).toArray.all fun x => x == Value.type "tuple") = true := by
        simp only [List.all_toArray, List.all_map, List.all_eq_true]
        intro _ _
        rfl
      have h0 : (List.map (fun _ => Value.type "tuple") (v :: vs)).toArray[0]? = some (Value.type "tuple") := by simp
      rw [h0]
      simp only [hall, if_true]
      exact wpAny_pure (wpAny_pure h)
/-- lists of tuples of ints can be sorted -/
theorem lx_sortsAt {vs : List Value} {bs : List (List Int)} (e : EachIs (fun v d => ∃ as, Reads s.heap v d as) vs (bs.map fun b => .tuple (b.map .int))) (hu : A.units + 1 < cLine) : SortsAt prog w A s (dataKind s.heap (bs.map fun b => .tuple (b.map .int))) vs := by
  have hal : AllAlike (bs.map fun b => PyData.tuple (b.map .int)) := AllAlike.of fun b b' => by
    show alike (.tuple (b.map .int)) (.tuple (b'.map .int)) = true
    simp only [alike]
    exact alike_ints b b'
  have hdp : ∀ d, d ∈ (bs.map fun b => PyData.tuple (b.map .int)) → A.units + d.depth < cLine := fun d hd => by
    obtain ⟨b, _, rfl⟩ := List.mem_map.mp hd
    show A.units + (PyData.tuple (b.map .int)).depth < cLine
    have : (PyData.tuple (b.map .int)).depth ≤ 1 := by
      simp only [PyData.depth, depth_ints]
      omega
    omega
  have ht : ∀ d ∈ (bs.map fun b => PyData.tuple (b.map .int)), ∃ xs, d = .tuple xs := fun d hd => by
    obtain ⟨b, _, rfl⟩ := List.mem_map.mp hd
    exact ⟨_, rfl⟩
  by_cases hm : .tuple [] ∈ (bs.map fun b => PyData.tuple (b.map .int))
  · refine ⟨fun v hv => ?_, ?_⟩
    · obtain ⟨d, hd, as, r⟩ := e.left v hv
      exact ⟨_, dataKind_some hal hd r⟩
    · have lt : ∀ f : Bool, ∀ (E : Value → Shared → Prop) (x y : Value) (a b : List (Int ⊕ List Nat)) (Q : Bool → Shared → Prop), (dataKind s.heap (bs.map fun b => PyData.tuple (b.map .int))).keyOf x = some a → (dataKind s.heap (bs.map fun b => PyData.tuple (b.map .int))).keyOf y = some b → Q (PyProof.Rows.lexLt itemOrd a b) s → wpAny (model prog w) A (oneLt' f x y) Q E s := by
        intro f E x y a b Q ha hb hq
        obtain ⟨d, as, hd, ra, rfl⟩ := dataKind_inv ha
        obtain ⟨d', as', hd', rb, rfl⟩ := dataKind_inv hb
        have hdd := hal d hd d' hd'
        obtain ⟨xs, rfl⟩ := ht d hd
        obtain ⟨ys, rfl⟩ := ht d' hd'
        exact lx_oneLt_tup ra rb hdd (Nat.lt_of_le_of_lt (Nat.add_le_add_left (Nat.min_le_left _ _) _) (hdp _ hd)) hq
      generalize hds : (bs.map fun b => PyData.tuple (b.map .int)) = ds at *
      cases ds with
      | nil => cases hm
      | cons d0 ds =>
        cases h0 : lxNe d0 with
        | true =>
          refine ⟨general', fun E x y a b Q ha hb hq => ?_, fun h2 E Q hq => ?_⟩
          · exact lt false E x y a b Q ha hb hq
          · refine lx_kind_gen e ht h0 ?_ hq
            rcases List.mem_cons.mp hm with z | z
            · rw [← z] at h0
              cases h0
            · exact z
        | false =>
          obtain ⟨xs, rfl⟩ := ht d0 List.mem_cons_self
          cases xs with
          | cons x r => cases h0
          | nil =>
            refine ⟨oneType', fun E x y a b Q ha hb hq => ?_, fun h2 E Q hq => lx_kind_one e ht hq⟩
            rw [keyLt'_oneType]
            exact lt true E x y a b Q ha hb hq
  · refine SortsAt.data e hal (.inl fun d hd => ?_) hdp
    obtain ⟨b, hb, rfl⟩ := List.mem_map.mp hd
    cases b with
    | nil => exact absurd (List.mem_map.mpr ⟨[], hb, rfl⟩) hm
    | cons x r => exact ⟨.int x, r.map .int, rfl⟩
end
end PySem.W

set_option Elab.async false
set_option linter.all false
set_option maxRecDepth 100000
set_option maxHeartbeats 4000000
set_option autoImplicit false
namespace LX
/-! ### the order of lists of ints -/
def lexi : List Int → List Int → Bool
  | [], [] => false
  | [], _ :: _ => true
  | _ :: _, [] => false
  | x :: xs, y :: ys => if x = y then lexi xs ys else decide (x < y)
theorem lexi_irr : ∀ xs : List Int, lexi xs xs = false
  | [] => rfl
  | x :: xs => by
    unfold lexi
    rw [if_pos rfl]
    exact lexi_irr xs
theorem lexi_trans : ∀ {xs ys zs : List Int}, lexi xs ys = true → lexi ys zs = true → lexi xs zs = true
  | [], [], _, h, _ => by cases h
  | [], _ :: _, [], _, h => by cases h
  | [], _ :: _, _ :: _, _, _ => rfl
  | _ :: _, [], _, h, _ => by cases h
  | _ :: _, _ :: _, [], _, h => by cases h
  | x :: xs, y :: ys, z :: zs, h1, h2 => by
    unfold lexi at h1 h2 ⊢
    split at h1
    · rename_i e1
      subst e1
      split at h2
      · rename_i e2
        rw [if_pos e2]
        exact lexi_trans h1 h2
      · rename_i n2
        rw [if_neg n2]
        exact h2
    · rename_i n1
      have h1 := of_decide_eq_true h1
      split at h2
      · rename_i e2
        subst e2
        rw [if_neg n1]
        exact decide_eq_true h1
      · have h2 := of_decide_eq_true h2
        rw [if_neg (by omega)]
        exact decide_eq_true (by omega)
theorem lexi_tot : ∀ {xs ys : List Int}, lexi xs ys = false → lexi ys xs = false → xs = ys
  | [], [], _, _ => rfl
  | [], _ :: _, h, _ => by cases h
  | _ :: _, [], _, h => by cases h
  | x :: xs, y :: ys, h1, h2 => by
    unfold lexi at h1 h2
    split at h1
    · rename_i e
      subst e
      rw [if_pos rfl] at h2
      rw [lexi_tot h1 h2]
    · rename_i n
      rw [if_neg (Ne.symm n)] at h2
      have h1 := of_decide_eq_false h1
      have h2 := of_decide_eq_false h2
      omega
theorem lexi_lt : ∀ xs ys : List Int, decide (xs < ys) = lexi xs ys
  | [], [] => by simp [lexi]
  | [], _ :: _ => by simp [lexi]
  | _ :: _, [] => by simp [lexi]
  | x :: xs, y :: ys => by
    unfold lexi
    rw [← lexi_lt xs ys]
    by_cases e : x = y
    · subst e
      simp
    · simp [e, List.cons_lt_cons_iff]
/-- strictly ascending -/
def Asc (l : List (List Int)) : Prop := l.Pairwise fun a b => lexi a b = true
theorem asc_uniq : ∀ {l m : List (List Int)}, Asc l → Asc m → (∀ x, x ∈ l ↔ x ∈ m) → l = m
  | [], [], _, _, _ => rfl
  | [], b :: m, _, _, h => absurd ((h b).mpr List.mem_cons_self) (by simp)
  | a :: l, [], _, _, h => absurd ((h a).mp List.mem_cons_self) (by simp)
  | a :: l, b :: m, h1, h2, h => by
    obtain ⟨a1, a2⟩ := List.pairwise_cons.mp h1
    obtain ⟨b1, b2⟩ := List.pairwise_cons.mp h2
    have e : a = b := by
      rcases List.mem_cons.mp ((h a).mp List.mem_cons_self) with z | z
      · exact z
      · rcases List.mem_cons.mp ((h b).mpr List.mem_cons_self) with y | y
        · exact y.symm
        · have p := lexi_trans (a1 b y) (b1 a z)
          rw [lexi_irr] at p
          cases p
    subst e
    rw [asc_uniq a2 b2 fun x => ⟨fun hx => ?_, fun hx => ?_⟩]
    · rcases List.mem_cons.mp ((h x).mp (List.mem_cons_of_mem _ hx)) with z | z
      · subst z
        have p := a1 x hx
        rw [lexi_irr] at p
        cases p
      · exact z
    · rcases List.mem_cons.mp ((h x).mpr (List.mem_cons_of_mem _ hx)) with z | z
      · subst z
        have p := b1 x hx
        rw [lexi_irr] at p
        cases p
      · exact z
/-- ints, strictly ascending -/
theorem int_uniq : ∀ {l m : List Int}, l.Pairwise (· < ·) → m.Pairwise (· < ·) → (∀ x, x ∈ l ↔ x ∈ m) → l = m
  | [], [], _, _, _ => rfl
  | [], b :: m, _, _, h => absurd ((h b).mpr List.mem_cons_self) (by simp)
  | a :: l, [], _, _, h => absurd ((h a).mp List.mem_cons_self) (by simp)
  | a :: l, b :: m, h1, h2, h => by
    obtain ⟨a1, a2⟩ := List.pairwise_cons.mp h1
    obtain ⟨b1, b2⟩ := List.pairwise_cons.mp h2
    have e : a = b := by
      rcases List.mem_cons.mp ((h a).mp List.mem_cons_self) with z | z
      · exact z
      · rcases List.mem_cons.mp ((h b).mpr List.mem_cons_self) with y | y
        · exact y.symm
        · have p := a1 b y
          have q := b1 a z
          omega
    subst e
    rw [int_uniq a2 b2 fun x => ⟨fun hx => ?_, fun hx => ?_⟩]
    · rcases List.mem_cons.mp ((h x).mp (List.mem_cons_of_mem _ hx)) with z | z
      · subst z
        have p := a1 x hx
        omega
      · exact z
    · rcases List.mem_cons.mp ((h x).mpr (List.mem_cons_of_mem _ hx)) with z | z
      · subst z
        have p := b1 x hx
        omega
      · exact z
/-- the sort of things by lists of ints -/
def sortBy {β : Type} (f : β → List Int) (bs : List β) : List β := bs.mergeSort fun a b => !lexi (f b) (f a)
theorem sortBy_perm {β : Type} (f : β → List Int) (bs : List β) : (sortBy f bs).Perm bs := List.mergeSort_perm bs _
theorem sortBy_asc {β : Type} (f : β → List Int) (bs : List β) : (sortBy f bs).Pairwise fun a b => lexi (f b) (f a) = false := by
  have h := List.pairwise_mergeSort (le := fun a b : β => !lexi (f b) (f a)) (fun a b c h1 h2 => ?_) (fun a b => ?_) bs
  · exact h.imp fun {a b} z => by simpa using z
  · have h1 : lexi (f b) (f a) = false := by simpa using h1
    have h2 : lexi (f c) (f b) = false := by simpa using h2
    show (!lexi (f c) (f a)) = true
    cases q : lexi (f c) (f a) with
    | false => rfl
    | true =>
      cases r : lexi (f a) (f b) with
      | true => rw [lexi_trans q r] at h2; cases h2
      | false =>
        have e := lexi_tot r h1
        rw [e, h2] at q
        cases q
  · show (!lexi (f b) (f a) || !lexi (f a) (f b)) = true
    cases q : lexi (f b) (f a) with
    | false => rfl
    | true =>
      cases r : lexi (f a) (f b) with
      | false => rfl
      | true =>
        have p := lexi_trans q r
        rw [lexi_irr] at p
        cases p
open PySem PySem.W PySem.Calls PyProof.Rows
theorem dataLe_lex {β : Type} (f : β → List Int) : dataLe false (fun b => PyData.tuple ((f b).map .int)) = fun a b => !lexi (f b) (f a) := by
  funext a b
  show (!dataLt (.tuple ((f b).map .int)) (.tuple ((f a).map .int))) = _
  rw [dataLt_tuple]
  have h := dataLt_ints (f b) (f a)
  unfold rowLt at h
  rw [h, lexi_lt]
section
variable {prog : Program} {w : World} {A : Around} {E : Value → Shared → Prop} {s : Shared} {β : Type} {vs : List Value} {bs : List β} {f : β → List Int} {R : Value → β → Prop}
abbrev tupB (f : β → List Int) (b : β) : PyData := .tuple ((f b).map .int)
theorem sortsAt_by (e : EachIs (fun v b => ∃ as, Reads s.heap v (tupB f b) as) vs bs) (hu : A.units + 1 < cLine) : SortsAt prog w A s (dataKind s.heap (bs.map (tupB f))) vs := by
  have em : bs.map (tupB f) = (bs.map f).map fun b => PyData.tuple (b.map .int) := by rw [List.map_map] <;> rfl
  rw [em]
  refine lx_sortsAt ?_ hu
  rw [← em]
  exact each_map (R := fun v d => ∃ as, Reads s.heap v d as) (tupB f) e
theorem alike_by : AllAlike (bs.map (tupB f)) := AllAlike.of fun b b' => by
  show alike (.tuple ((f b).map .int)) (.tuple ((f b').map .int)) = true
  simp only [alike]
  exact alike_ints _ _
/-- xs.sort() of tuples of ints -/
theorem call_sort_by {a : Addr} {n : Nat} {Q : Value → Shared → Prop} (ho : s.heap.get? a = some (seqObj "list" vs.toArray n)) (e : EachIs R vs bs) (er : EachIs (fun v b => ∃ as, Reads s.heap v (tupB f b) as ∧ a ∉ as) vs bs) (hL : bs.length ≤ sizeLine)
    (hu : A.units + 3 < cLine) (h : ∀ out, out.length = bs.length → EachIs R out (sortBy f bs) → Q .none { s with heap := sortedHeap s.heap a vs (List.toArray out) }) : wpAny (model prog w) A (call (.builtin "list.sort") [.ref a]) Q E s := by
  have er' : EachIs (fun v b => ∃ as, Reads (sortingHeap s.heap a vs) v (tupB f b) as) vs bs := each_keepBut (h' := sortingHeap s.heap a vs) (fun _ _ hb q => sortingHeap_old hb q) (fun o q => by rw [ho] at q; rw [← Option.some.inj q]) alike_by er
  refine wpAny_call_entry slot_list_sort ⟨_, ho, rfl⟩ entry_list_sort (list_sort_vals (κ := dataKind (sortingHeap s.heap a vs) (bs.map (tupB f))) ho (sortsAt_by (s := { s with heap := sortingHeap s.heap a vs }) er' (by
    show A.in1.units + 1 < cLine
    have : A.in1.units = A.units + 1 := rfl
    omega)) (by rw [e.length]; exact hL) ⟨.none, rfl, ?_⟩) (args_list_sort _)
  have hs := sortVals_data false e er' alike_by
  rw [dataLe_lex f] at hs
  exact h _ (by rw [sortVals_length false rfl]; exact e.length) hs
/-- sorted(xs) -/
theorem call_sorted_by {l : Addr} {Q : Value → Shared → Prop} (hl : s.heap.IsList l vs.toArray) (e : EachIs R vs bs) (er : EachIs (fun v b => ∃ as, Reads s.heap v (tupB f b) as) vs bs) (hL : bs.length ≤ sizeLine)
    (hu : A.units + 5 < cLine) (h : ∀ out, out.length = bs.length → EachIs R out (sortBy f bs) → Q (.ref (s.heap.objs.size + 1)) { s with heap := sortedAll s.heap vs (List.toArray out) }) :
    wpAny (model prog w) A (call (.builtin "sorted") [.ref l]) Q E s := by
  have er' : EachIs (fun v b => ∃ as, Reads (sortingHeap (copyHeap s.heap vs) (s.heap.objs.size + 1) vs) v (tupB f b) as) vs bs := er.mono fun _ _ ⟨as, r⟩ => ⟨as, PyProof.Rows.Reads.keeps (fun _ _ => sorting_copy_old) r⟩
  refine sorted_vals hl (sortsAt_by (s := { s with heap := sortingHeap (copyHeap s.heap vs) (s.heap.objs.size + 1) vs }) er' (by
    show A.in1.in1.units + 1 < cLine
    have : A.in1.in1.units = A.units + 2 := rfl
    omega)) (by rw [e.length]; exact hL) ?_
  have hs := sortVals_data false e er' alike_by
  rw [dataLe_lex f] at hs
  exact h _ (by rw [sortVals_length false rfl]; exact e.length) hs
end
end LX

set_option Elab.async false
set_option linter.all false
set_option maxRecDepth 100000
set_option maxHeartbeats 8000000
set_option autoImplicit false
namespace L2
open PySem PySem.Spec PyProof.Rows
section
variable {P : Program} {w : World} {A : Around} {E : Value → Shared → Prop} {s : Shared}
/-- a set as it is made -/
abbrev lxSet0 (w : World) : Obj := { cls := .type "set", dict := none, data := .set #[] 0 (.fresh 0 0 (!w.params.followText "set-order")) }
/-- set(t), t a tuple of tuples of ints: as for a list, the tuple walked in its place -/
theorem lx_set_of_tup {l : Addr} {items : Array Value} (ks : List (Addr × List Int)) {Q : Value → Shared → Prop} (hh : A.handled = none) (hl : s.heap.IsTuple l items) (hit : items.toList = ks.map fun p => Value.ref p.1)
    (hk : ∀ p ∈ ks, IsT P w s.heap p.2 p.1) (hfew : ks.length < 64) (hu : A.units + 3 < cLine)
    (h : ∀ (h' : Heap) (tk : Nat) (L : List (Addr × List Int)) (es : Array (Int × Value)) (ep : Nat) (t : SetTable), SetTR P w h' s.heap.objs.size L es ep t → Got ks ks.length L → (∀ b o, s.heap.get? b = some o → h'.get? b = some o) → Q (.ref s.heap.objs.size) { s with heap := h', toks := tk }) :
    wpAny (model P w) A (call (.type "set") [.ref l]) Q E s := by
  have many : items.size = ks.length := by
    have q := congrArg List.length hit
    rwa [Array.length_toList, List.length_map] at q
  have cs := F.called_set
  obtain ⟨c, tl, hmro⟩ := cs.mro
  have q1 := cs.made
  have q2 := cs.sub
  refine wpAny_call (codeAny_of_tree ?_)
  show wpAny _ _ (callAny (.type "set") _) _ _ _
  refine wpAny_pure ⟨Code.quiet_builtin _ (by decide +kernel), codeAny_builtin F.entry_type_call ?_⟩
  rw [Around.under_plain (weight_type_call_type "set" [.ref l] []) rfl]
  have q3 := cs.notType
  have q4 := cs.canCreate
  have q5 := F.typeCall_set_1 (.ref l)
  repeat (any_goals (first | assumption | wp_step))
  refine codeAny_mono (code_set_led1 (.ref l) (E := E) (Q₁ := fun obj s₁ => obj = .ref s.heap.objs.size ∧ s₁ = { s with heap := s.heap.push (lxSet0 w) }) ⟨rfl, rfl⟩) fun r s₁ hr => ?_
  match r, hr with
  | .error _, hr => exact hr
  | .ok .next, hr => exact hr.elim
  | .ok .brk, hr => exact hr.elim
  | .ok .cont, hr => exact hr.elim
  | .ok (.ret _), hr =>
    obtain ⟨rfl, rfl⟩ := hr
    have at0 : (s.heap.push (lxSet0 w)).get? s.heap.objs.size = some (lxSet0 w) := Heap.get?_push_size _ rfl
    have ty0 : Shared.TypeIs { s with heap := s.heap.push (lxSet0 w) } (.ref s.heap.objs.size) "set" := ⟨_, at0, rfl⟩
    have q6 := cs.init.lookup
    have q7 := cs.init.bind (.ref s.heap.objs.size)
    repeat (any_goals (first | assumption | wp_step))
    refine codeAny_mono (codeAny_call_builtin (R := wants (fun r s₂ => r = .none ∧ ∃ h' tk L es ep t, s₂ = { s with heap := h', toks := tk } ∧ SetTR P w h' s.heap.objs.size L es ep t ∧ Got ks ks.length L ∧
        (∀ b o, s.heap.get? b = some o → h'.get? b = some o)) E) cs.init.plain F.entry_set_init (check_set_init_1 ty0 ?_)) fun r₂ s₂ hr₂ => ?_
    · obtain ⟨⟨oc, od, dt, sl⟩, ho, hc, nl, hd⟩ := hl
      simp only at hc hd
      subst hc hd
      have ho' : (s.heap.push (lxSet0 w)).get? l = some { cls := .type "tuple", dict := od, data := .seq items nl, slots := sl } := Heap.get?_push_of_some _ ho
      have q8 := F.sub_tuple_set
      have q9 := F.sub_tuple_frozenset
      have qa : (Value.type "tuple" == Value.type "dict") = false := by decide
      have tup : (s.heap.push (lxSet0 w)).IsTuple l items := ⟨_, ho', rfl, nl, rfl⟩
      unfold Builtin.«set.__init__» noKeywords Builtin.Frozenset.updateFrom
      generalize hPI : pyIter = PI
      wp_walk
      subst hPI
      refine wpAny_pyIter_tuple tup ?_
      refine wpAny_bind (wpAny_runValue ?_)
      have lt := Heap.lt_size ho
      have sz : (s.heap.push (lxSet0 w)).objs.size = s.heap.objs.size + 1 := Heap.size_push ..
      have ne : l ≠ (s.heap.push (lxSet0 w)).objs.size := by rw [sz]; exact Nat.ne_of_lt (Nat.lt_succ_of_lt lt)
      have none_of : ∀ b, s.heap.objs.size ≤ b → s.heap.get? b = none := fun b hb => by
        cases q : s.heap.get? b with
        | none => rfl
        | some o => exact absurd (Nat.lt_of_lt_of_le (Heap.lt_size q) hb) (Nat.lt_irrefl _)
      refine set_update_tups ((Walks.tuple (show A.in1.in1.in1.handled = none by simp [hh]) _ l ne items).toS) s.heap.objs.size
        (by rw [sz]; simp only [List.mem_cons, List.not_mem_nil, or_false, not_or]; exact ⟨Nat.ne_of_lt (Nat.lt_succ_self _), Nat.ne_of_gt lt⟩) ks many hfew (fun i v hv => ?hval) s.heap hk (none_of _ (Nat.le_refl _)) (fun b hb => none_of b (by rw [List.mem_singleton.mp hb, sz]; exact Nat.le_succ _)) hu (items.size - 0) 0 _ (by omega) (Nat.zero_le _)
        ⟨⟨_, Heap.get?_push_size _ rfl, rfl, rfl⟩, tup.push _⟩ (fun b o e => Heap.get?_push_of_some _ (Heap.get?_push_of_some _ e)) ?hS0 ?hR
      case hval =>
        have q : items.toList[i]? = some v := by rw [Array.getElem?_toList]; exact hv
        rw [hit, List.getElem?_map] at q
        obtain ⟨p, h1, h2⟩ := Option.map_eq_some_iff.mp q
        exact ⟨p, h1, h2.symm⟩
      case hS0 => exact ⟨[], #[], 0, _, setTR_fresh (Heap.get?_push_of_some _ at0), Got.zero ks⟩
      case hR =>
        rintro ⟨h', g2, d', tk', os'⟩ L es ep t hm hS' g' hkp
        obtain rfl : g2 = s.gens := hm.gens
        obtain rfl : d' = s.drawn := hm.drawn
        obtain rfl : os' = s.os := hm.os
        rw [many] at g'
        show wpAny _ _ _ _ _ _
        refine wpAny_pure ?_
        show wpAny _ _ (ret Value.none) _ _ _
        exact wpAny_pure ⟨rfl, h', tk', L, es, ep, t, rfl, hS', g', hkp⟩
    · match r₂, hr₂ with
      | .error _, hr₂ => exact hr₂
      | .ok .next, hr₂ => exact hr₂.elim
      | .ok .brk, hr₂ => exact hr₂.elim
      | .ok .cont, hr₂ => exact hr₂.elim
      | .ok (.ret _), hr₂ =>
        obtain ⟨rfl, h', tk, L, es, ep, t, rfl, hS', g', hk'⟩ := hr₂
        repeat (any_goals (first | assumption | wp_step))
        exact h _ _ _ _ _ _ hS' g' hk'
end
end L2

set_option Elab.async false
set_option linter.all false
set_option maxRecDepth 100000
set_option maxHeartbeats 4000000
set_option autoImplicit false
namespace LX
open PySem PySem.Spec PyProof.Rows L2 Evl
theorem perm_map_ex {α β : Type} {f : α → β} : ∀ {vs : List β} {l : List α}, vs.Perm (l.map f) → ∃ l' : List α, l'.Perm l ∧ vs = l'.map f
  | [], l, h => by
    have : l = [] := List.map_eq_nil_iff.mp h.symm.eq_nil
    exact ⟨[], by rw [this], rfl⟩
  | v :: vs, l, h => by
    obtain ⟨a, ha, rfl⟩ := List.mem_map.mp (h.mem_iff.mp List.mem_cons_self)
    obtain ⟨s, t, rfl⟩ := List.append_of_mem ha
    have h2 : (f a :: vs).Perm (f a :: (s ++ t).map f) := by
      refine h.trans ?_
      rw [List.map_append, List.map_append, List.map_cons]
      exact List.perm_middle
    obtain ⟨l', p, e⟩ := perm_map_ex h2.cons_inv
    exact ⟨a :: l', (p.cons a).trans List.perm_middle.symm, by rw [e, List.map_cons]⟩
theorem readsAll_ofInts {h : Heap} : ∀ {vs : List Value} {ns : List Int}, IntsAre vs ns → ReadsAll h vs (ns.map .int) []
  | _, _, .nil => .nil
  | _, _, .cons n t r => ReadsAll.cons (as := []) (bs := []) (.int n t) (readsAll_ofInts r)
theorem isT_reads {P : Program} {w : World} {h : Heap} {k : List Int} {b : Addr} (x : IsT P w h k b) : Reads h (.ref b) (.tuple (k.map .int)) [] := by
  obtain ⟨o, items, n, ho, hc, hd, hi⟩ := x
  exact .tuple ho hc hd (readsAll_ofInts (ints_of_items hi))
theorem each_of_mem {α β : Type} {R : α → β → Prop} {f : β → α} : ∀ {l : List β}, (∀ b ∈ l, R (f b) b) → PySem.W.EachIs R (l.map f) l
  | [], _ => .nil
  | b :: l, h => .cons (h b List.mem_cons_self) (each_of_mem fun c hc => h c (List.mem_cons_of_mem _ hc))
theorem each_eq {α β : Type} {f : β → α} : ∀ {vs : List α} {l : List β}, PySem.W.EachIs (fun v b => v = f b) vs l → vs = l.map f
  | _, _, .nil => rfl
  | _, _, .cons h t => by rw [h, each_eq t, List.map_cons]
section
variable {P : Program} {w : World} {A : Around} {E : Value → Shared → Prop} {s : Shared}
/-- sorted(set) of tuples of ints of any lengths -/
theorem lx_sorted_set {a : Addr} {L : List (Addr × List Int)} {es : Array (Int × Value)} {ep : Nat} {t : SetTable} {Q : Value → Shared → Prop} (R : SetTR P w s.heap a L es ep t) (hh : A.handled = none) (hu : A.units + 10 < cLine)
    (hQ : ∀ (s' : Shared) (p : Addr) (out : List Value) (c : Nat) (L' : List (Addr × List Int)), (∀ b o, s.heap.get? b = some o → s'.heap.get? b = some o) → s'.gens = s.gens → s'.os = s.os → s.heap.objs.size ≤ p →
      s'.heap.get? p = some (seqObj "list" out.toArray c) → out = L'.map (fun q => Value.ref q.1) → L'.Perm L → L'.Pairwise (fun q r => lexi r.2 q.2 = false) → Q (.ref p) s') :
    wpAny (model P w) A (call (.builtin "sorted") [.ref a]) Q E s := by
  obtain ⟨o, ho, hex, hd⟩ := R.ob
  have few := R.few
  have many := R.size
  refine Calls.call_function_entry kind_sorted plain_sorted entry_sorted (args_sorted1 _) ?_
  unfold Builtin.«sorted»
  refine wpAny_bind (m := checkCount "sorted" 1 1 _) (wpAny_pure ?_)
  refine wpAny_bind (collect_set (A := A.in1) hh ⟨o, ho, hex.1, hd⟩ R.fits (by unfold scanBound; omega) R.tab.ris R.led fun s1 vs k1 hz g1 o1 pm => ?_)
  have rows : es.toList.map (·.2) = L.map fun q => Value.ref q.1 := by
    rw [R.rows]
    unfold rowsOf
    rw [List.map_map] <;> rfl
  rw [rows] at pm
  obtain ⟨L1, p1, rfl⟩ := perm_map_ex pm
  have len1 : L1.length = L.length := p1.length_eq
  refine wpAny_bind (wpAny_newList ?_ (by rw [List.length_map, sizeLine_eq]; omega))
  have new : (s1.heap.push (seqObj "list" (L1.map fun q => Value.ref q.1).toArray 0)).get? s1.heap.objs.size = some (seqObj "list" (L1.map fun q => Value.ref q.1).toArray 0) := Heap.get?_push_size _ rfl
  have rd : ∀ q ∈ L1, Reads (s1.heap.push (seqObj "list" (L1.map fun q => Value.ref q.1).toArray 0)) (.ref q.1) (.tuple (q.2.map .int)) [] := fun q hq =>
    isT_reads (P := P) (w := w) (isT_keep (R.tup q (p1.mem_iff.mp hq)) fun b u e => Heap.get?_push_of_some _ (k1 b u e))
  refine wpAny_bind (wpAny_holding (call_sort_by (s := { s1 with heap := s1.heap.push (seqObj "list" (L1.map fun q => Value.ref q.1).toArray 0) }) (bs := L1) (f := fun q : Addr × List Int => q.2) (R := fun v (q : Addr × List Int) => v = Value.ref q.1) new
    (each_of_mem (R := fun v (q : Addr × List Int) => v = Value.ref q.1) fun _ _ => rfl) (each_of_mem (R := fun v (q : Addr × List Int) => ∃ as, Reads (s1.heap.push (seqObj "list" (L1.map fun q => Value.ref q.1).toArray 0)) v (tupB (fun q : Addr × List Int => q.2) q) as ∧ s1.heap.objs.size ∉ as) fun q hq => ⟨[], rd q hq, by simp⟩) (by rw [sizeLine_eq]; omega)
    (by show A.in1.units + 3 < cLine; have : A.in1.units = A.units + 1 := rfl; omega) fun out h1 h2 => ?_))
  obtain ⟨c, hc⟩ := sortedHeap_at (vs := L1.map fun q => Value.ref q.1) (out := out.toArray) new
  refine wpAny_pure ⟨_, rfl, hQ _ s1.heap.objs.size out c (sortBy (fun q => q.2) L1) (fun b u e => ?_) g1 o1 hz hc (each_eq h2) ((sortBy_perm _ L1).trans p1) (sortBy_asc _ L1)⟩
  have q := k1 b u e
  have lt := Heap.lt_size q
  show (sortedHeap (s1.heap.push (seqObj "list" (L1.map fun q => Value.ref q.1).toArray 0)) s1.heap.objs.size (L1.map fun q => Value.ref q.1) out.toArray).get? b = some u
  rw [sortedHeap_old (Nat.ne_of_lt lt) (by rw [size_push']; exact Nat.lt_succ_of_lt lt)]
  exact Heap.get?_push_of_some _ q
end
section
variable {X : Cx}
/-- sorted(a set of tuples of ints) -/
def rSortSetU (K : PySem.W.Frag) (P : Program) (w : World) : List V → Hp → VK → Prop := fun vs H Q => ∃ (a : Addr) (L : List (Addr × List Int)), vs = [V.ref a] ∧ H a = some (SetTO P w a L) ∧ (∀ p ∈ L, SqT K H p.1 (p.2.map V.int)) ∧
  ∀ (L' : List (Addr × List Int)) (p : Addr), L'.Perm L → (L'.map (·.2)).Nodup → L'.Pairwise (fun q r => lexi r.2 q.2 = false) → H p = none → Q (.ref p) (upd H p (.lst (L'.map fun q => V.ref q.1)))
theorem cr_sortSetU (hc : X.calm = true) (hu : X.A.units + 64 < cLine) : CallR X (.builtin "sorted") (rSortSetU X.K X.prog X.w) := by
  intro pins s σ H vs us Q I r h
  obtain ⟨a, L, rfl, ha, hk, q⟩ := h
  have R0 : SetT0 X.prog X.w s.heap a L := (I.hok a _ ha).1
  obtain ⟨es, ep, t, R⟩ := R0.full fun p hp => I.isT (hk p hp)
  rw [Vals.ref1 r]
  refine lx_sorted_set R (I.ok.hd hc) (by omega) fun s' p out c L' k g o hp hg hout pm pw => ?_
  have few : L'.length < 64 := by rw [pm.length_eq]; exact R.few
  have hlen : (L'.map fun q => V.ref q.1).length ≤ sizeLine := by rw [List.length_map, sizeLine_eq]; omega
  have hn : H p = none := I.hok.fresh hp
  have hv : Vals (L'.map fun q => V.ref q.1) out := by rw [hout]; exact vals_of_refs L'
  have J : Inv X pins σ (upd H p (.lst (L'.map fun q => V.ref q.1))) { s with heap := s'.heap, gens := s'.gens, drawn := s'.drawn, toks := s'.toks } :=
    I.call (ch := []) (Un.laid k hp hn) (I.hok.laid k hp ⟨hlen, out, c, hv, hg⟩) (by rw [g]; exact I.bare) (fun _ z => nomatch z)
  have e : s' = { s with heap := s'.heap, gens := s'.gens, drawn := s'.drawn, toks := s'.toks } := by
    cases s'
    cases s
    cases o
    rfl
  rw [e]
  exact ⟨.ref p, _, J, rfl, q L' p pm ((pm.map (·.2)).nodup_iff.mpr R.nd) pw hn⟩
/-- set(t), t a tuple of tuples of ints -/
def rSetTT (K : PySem.W.Frag) (P : Program) (w : World) : List V → Hp → VK → Prop := fun xs H Q => ∃ (l : Addr) (ks : List (Addr × List Int)), xs = [V.ref l] ∧ SqT K H l (ks.map fun p => V.ref p.1) ∧ (∀ p ∈ ks, SqT K H p.1 (p.2.map V.int)) ∧ ks.length < 64 ∧
  ∀ a L, H a = none → (∀ p ∈ L, p ∈ ks) → (∀ p ∈ ks, p.2 ∈ L.map (·.2)) → Q (.ref a) (upd H a (SetTO P w a L))
theorem cr_setTT (hc : X.calm = true) (hu : X.A.units + 64 < cLine) : CallR X (.type "set") (rSetTT X.K X.prog X.w) := by
  intro pins s σ H xs us Q I r h
  obtain ⟨l, ks, rfl, hl, hk, hf, q⟩ := h
  rw [Vals.ref1 r]
  obtain ⟨its, rv, pl, hz⟩ := I.tuple hl
  have hn : H s.heap.objs.size = none := I.hok.fresh (Nat.le_refl _)
  refine lx_set_of_tup (P := X.prog) (w := X.w) ks (I.ok.hd hc) (show s.heap.IsTuple l its.toArray from pl) (by simpa using refs_of_vals rv) (fun p hp => I.isT (hk p hp)) hf (by omega) fun h' tk L es ep t R g k => ?_
  refine ⟨.ref s.heap.objs.size, upd H s.heap.objs.size (SetTO X.prog X.w s.heap.objs.size L), I.laid (t' := tk) k (Nat.le_refl _) (setTO_new R.t0), rfl, q _ L hn (fun p hp => ?_) fun p hp => ?_⟩
  · exact List.mem_of_mem_take (g.sub p hp)
  · exact g.all p (by rw [List.take_length]; exact hp)
/-- set(t), t a tuple of ints -/
def rSetI (K : PySem.W.Frag) (w : World) : List V → Hp → VK → Prop := fun xs H Q => ∃ (l : Addr) (ns : List Int), xs = [V.ref l] ∧ SqT K H l (ns.map V.int) ∧ ns.length < 64 ∧
  ∀ a c, H a = none → c ≤ ns.length → Q (.ref a) (upd H a (SetO w a (fun j => decide (j ∈ ns)) c))
theorem cr_setI (hc : X.calm = true) : CallR X (.type "set") (rSetI X.K X.w) := by
  intro pins s σ H xs us Q I r h
  obtain ⟨l, ns, rfl, hl, hf, q⟩ := h
  rw [Vals.ref1 r]
  obtain ⟨its, rv, pl, hz⟩ := I.tuple hl
  have hn : H s.heap.objs.size = none := I.hok.fresh (Nat.le_refl _)
  refine call_set_tupI (P := X.prog) (w := X.w) ns (I.ok.hd hc) (show s.heap.IsTuple l its.toArray from pl) (by simpa using ints_of_vals rv) (by unfold scanBound; omega) fun h' tk c R hcn k => ?_
  exact ⟨.ref s.heap.objs.size, upd H s.heap.objs.size (SetO X.w s.heap.objs.size (fun j => decide (j ∈ ns)) c), I.laid (t' := tk) k (Nat.le_refl _) (setO_new R), rfl, q _ c hn hcn⟩
/-- sorted(xs), a list of tuples of ints -/
def rSortU2 (K : PySem.W.Frag) : List V → Hp → VK → Prop := fun vs H Q => ∃ (a : Addr) (ks : List (Addr × List Int)), vs = [V.ref a] ∧ SqL K H a (ks.map fun p => V.ref p.1) ∧ (∀ p ∈ ks, SqT K H p.1 (p.2.map V.int)) ∧
  ∀ p, H p = none → Q (.ref p) (upd H p (.lst ((sortBy (fun q => q.2) ks).map fun q => V.ref q.1)))
theorem cr_sortU2 (hu : X.A.units + 64 < cLine) : CallR X (.builtin "sorted") (rSortU2 X.K) := by
  intro pins s σ H vs us Q I r h
  obtain ⟨a, ks, rfl, hs, hk, q⟩ := h
  obtain ⟨its, rv, hl, hz⟩ := I.list hs
  rw [Vals.ref1 r]
  obtain rfl : its = ks.map fun p => Value.ref p.1 := refs_of_vals rv
  rw [List.length_map] at hz
  refine call_sorted_by (bs := ks) (f := fun q : Addr × List Int => q.2) (R := fun v (q : Addr × List Int) => v = Value.ref q.1) hl.isList (each_of_mem (R := fun v (q : Addr × List Int) => v = Value.ref q.1) fun _ _ => rfl)
    (each_of_mem (R := fun v (q : Addr × List Int) => ∃ as, Reads s.heap v (tupB (fun q : Addr × List Int => q.2) q) as) fun q hq => ⟨[], isT_reads (I.isT (hk q hq))⟩) hz (by omega) fun out h1 h2 => ?_
  obtain ⟨ep, he'⟩ := PyProof.Rows.sortedAll_at s.heap (ks.map fun p => Value.ref p.1) out.toArray
  have eo := each_eq h2
  have hlen : ((sortBy (fun q => q.2) ks).map fun q => V.ref q.1).length ≤ sizeLine := by
    rw [List.length_map, (sortBy_perm _ ks).length_eq]
    exact hz
  exact ⟨.ref _, upd H (s.heap.objs.size + 1) (.lst ((sortBy (fun q => q.2) ks).map fun q => V.ref q.1)), I.laid (t' := s.toks) (fun _ _ => PyProof.Rows.sortedAll_old) (Nat.le_succ _) ⟨hlen, out, ep, by rw [eo]; exact vals_of_refs _, he'⟩, rfl, q _ (I.hok.fresh (Nat.le_succ _))⟩
end
end LX

set_option Elab.async false
set_option linter.all false
set_option maxRecDepth 100000
set_option maxHeartbeats 4000000
set_option autoImplicit false
namespace LX
open PySem PySem.Spec PyProof.Rows L2 Evl
/-! ### tuples of ints as data -/
theorem DtA.tups {H : Hp} : ∀ {xs : List V} {L : List (List Int)}, DtA H xs (L.map Ti) → ∃ ks : List (Addr × List Int), xs = ks.map (fun p => V.ref p.1) ∧ L = ks.map (fun p => p.2) ∧ ∀ p ∈ ks, H p.1 = some (.tup (p.2.map V.int))
  | [], [], _ => ⟨[], rfl, rfl, fun p h => by cases h⟩
  | x :: xs, l :: L, h => by
    cases h with
    | cons h r =>
      obtain ⟨a, ys, rfl, h1, h2⟩ := Dt.tup_eq h
      obtain ⟨ks, e1, e2, e3⟩ := DtA.tups (L := L) r
      refine ⟨(a, l) :: ks, by rw [e1]; rfl, by rw [e2]; rfl, fun p hp => ?_⟩
      rcases List.mem_cons.mp hp with z | z
      · rw [z, h1, h2.ints]
      · exact e3 p z
theorem DtA.ofTups {H : Hp} : ∀ {ks : List (Addr × List Int)}, (∀ p ∈ ks, H p.1 = some (.tup (p.2.map V.int))) → DtA H (ks.map fun p => V.ref p.1) ((ks.map fun p => p.2).map Ti)
  | [], _ => .nil
  | p :: ks, h => .cons (.tup (h p List.mem_cons_self) (DtA.ofInts _)) (DtA.ofTups fun q hq => h q (List.mem_cons_of_mem _ hq))
theorem asc_of {ks : List (Addr × List Int)} (nd : (ks.map fun p => p.2).Nodup) (pw : ks.Pairwise fun q r => lexi r.2 q.2 = false) : Asc (ks.map fun p => p.2) := by
  have h1 := List.pairwise_map.mp nd
  refine List.pairwise_map.mpr ((h1.and pw).imp fun {a b} h => ?_)
  cases q : lexi a.2 b.2 with
  | true => rfl
  | false => exact absurd (lexi_tot q h.2) h.1
section
variable {K : PySem.W.Frag} {P : Program} {w : World} {σ : L2.St} {Hb : Hp} {te : TE}
/-- sorted(set(t)), t a tuple of tuples of ints -/
theorem ed_sortSetTT {L S : List (List Int)} (h : ED te σ Hb (.tuple (L.map Ti))) (hl : L.length < 64) (hs : Asc S) (hm : ∀ x, x ∈ S ↔ x ∈ L) :
    ED (tCB (rSortSetU K P w) (tCons (tCB (rSetTT K P w) (tCons te tNil)) tNil)) σ Hb (.list (S.map Ti)) := fun H1 e Q q =>
  h H1 e _ fun v Hr H2 f hd => by
    obtain ⟨l, xs, rfl, e1, e2⟩ := hd.tup_eq
    obtain ⟨ks, rfl, rfl, e3⟩ := DtA.tups e2
    rw [List.length_map] at hl
    refine ⟨l, ks, rfl, .inl (.inl (f.r _ _ e1)), fun p hp => .inl (.inl (f.r _ _ (e3 p hp))), hl, fun a L' ha s1 s2 => ?_⟩
    have g : Fr Hr H2 Hr (upd H2 a (SetTO P w a L')) := (Fr.refl f.r).mutate ha (fresh_back f.r ha)
    refine ⟨a, L', rfl, upd_same, fun p hp => .inl (.inl (g.r _ _ (e3 p (s1 p hp)))), fun L2 p pm nd pw hp => ?_⟩
    have ea : Asc (L2.map fun p => p.2) := asc_of nd pw
    have e4 : L2.map (fun p => p.2) = S := by
      refine asc_uniq ea hs fun x => ?_
      rw [hm x]
      constructor
      · intro hx
        obtain ⟨r, hr, rfl⟩ := List.mem_map.mp hx
        exact List.mem_map.mpr ⟨r, s1 r (pm.mem_iff.mp hr), rfl⟩
      · intro hx
        obtain ⟨r, hr, rfl⟩ := List.mem_map.mp hx
        exact (pm.map fun p => p.2).mem_iff.mpr (s2 r hr)
    have fn := Fr.new (o := .lst (L2.map fun q => V.ref q.1)) g.r hp
    refine q _ _ _ ((f.trans g).trans fn) (.lst upd_same ?_)
    rw [← e4]
    exact (DtA.ofTups fun p hp => e3 p (s1 p (pm.mem_iff.mp hp))).mono fn.b
/-- sorted(set(xs)), xs a list of tuples of ints -/
theorem ed_sortSetL {L S : List (List Int)} (h : ED te σ Hb (.list (L.map Ti))) (hl : L.length < 64) (hs : Asc S) (hm : ∀ x, x ∈ S ↔ x ∈ L) :
    ED (tCB (rSortSetU K P w) (tCons (tCB (rSetOfT K P w) (tCons te tNil)) tNil)) σ Hb (.list (S.map Ti)) := fun H1 e Q q =>
  h H1 e _ fun v Hr H2 f hd => by
    obtain ⟨l, xs, rfl, e1, e2⟩ := hd.lst_eq
    obtain ⟨ks, rfl, rfl, e3⟩ := DtA.tups e2
    rw [List.length_map] at hl
    refine ⟨l, ks, rfl, .inl (.inl (f.r _ _ e1)), fun p hp => .inl (.inl (f.r _ _ (e3 p hp))), hl, fun a L' ha s1 s2 => ?_⟩
    have g : Fr Hr H2 Hr (upd H2 a (SetTO P w a L')) := (Fr.refl f.r).mutate ha (fresh_back f.r ha)
    refine ⟨a, L', rfl, upd_same, fun p hp => .inl (.inl (g.r _ _ (e3 p (s1 p hp)))), fun L2 p pm nd pw hp => ?_⟩
    have ea : Asc (L2.map fun p => p.2) := asc_of nd pw
    have e4 : L2.map (fun p => p.2) = S := by
      refine asc_uniq ea hs fun x => ?_
      rw [hm x]
      constructor
      · intro hx
        obtain ⟨r, hr, rfl⟩ := List.mem_map.mp hx
        exact List.mem_map.mpr ⟨r, s1 r (pm.mem_iff.mp hr), rfl⟩
      · intro hx
        obtain ⟨r, hr, rfl⟩ := List.mem_map.mp hx
        exact (pm.map fun p => p.2).mem_iff.mpr (s2 r hr)
    have fn := Fr.new (o := .lst (L2.map fun q => V.ref q.1)) g.r hp
    refine q _ _ _ ((f.trans g).trans fn) (.lst upd_same ?_)
    rw [← e4]
    exact (DtA.ofTups fun p hp => e3 p (s1 p (pm.mem_iff.mp hp))).mono fn.b
/-- sorted(set(t)), t a tuple of ints -/
theorem ed_sortSetI {ns S : List Int} (h : ED te σ Hb (Ti ns)) (hl : ns.length < 64) (hs : S.Pairwise (· < ·)) (hm : ∀ x, x ∈ S ↔ x ∈ ns) :
    ED (tCB (rSortedSet w) (tCons (tCB (rSetI K w) (tCons te tNil)) tNil)) σ Hb (Li S) := fun H1 e Q q =>
  h H1 e _ fun v Hr H2 f hd => by
    obtain ⟨l, xs, rfl, e1, e2⟩ := hd.tup_eq
    obtain rfl := e2.ints
    refine ⟨l, ns, rfl, .inl (.inl (f.r _ _ e1)), hl, fun a c ha hc => ?_⟩
    have g : Fr Hr H2 Hr (upd H2 a (SetO w a (fun j => decide (j ∈ ns)) c)) := (Fr.refl f.r).mutate ha (fresh_back f.r ha)
    refine ⟨a, _, c, rfl, upd_same, by omega, fun L2 p pw mem _ hp => ?_⟩
    have e4 : L2 = S := int_uniq pw hs fun x => by rw [mem x, hm x, decide_eq_true_eq]
    subst e4
    have fn := Fr.new (o := .lst (L2.map V.int)) g.r hp
    exact q _ _ _ ((f.trans g).trans fn) (.lst upd_same (DtA.ofInts _))
/-- sorted(xs), xs a list of tuples of ints -/
theorem br_sortU {L : List (List Int)} : BR (rSortU2 K) [.list (L.map Ti)] (.list ((sortBy id L).map Ti)) := fun Hb H vs e h Q q => by
  obtain ⟨v, rfl, hv⟩ := h.one_eq
  obtain ⟨a, xs, rfl, h1, h2⟩ := hv.lst_eq
  obtain ⟨ks, rfl, rfl, e3⟩ := DtA.tups h2
  refine ⟨a, ks, rfl, .inl (.inl (e _ _ h1)), fun p hp => .inl (.inl (e _ _ (e3 p hp))), fun p hp => ?_⟩
  have fn := Fr.new (o := .lst ((sortBy (fun q : Addr × List Int => q.2) ks).map fun q => V.ref q.1)) e hp
  refine q _ _ _ fn (.lst upd_same ?_)
  have em : (sortBy id (ks.map fun p => p.2)) = (sortBy (fun q : Addr × List Int => q.2) ks).map fun p => p.2 := by
    unfold sortBy
    rw [List.map_mergeSort]
    intro a _ b _
    rfl
  rw [em]
  exact (DtA.ofTups fun p hp => e3 p ((sortBy_perm _ ks).mem_iff.mp hp)).mono fn.b
/-! ### other built-ins -/
theorem br_comb {a b : Int} (h1 : 0 ≤ a) (h2 : 0 ≤ b) (h3 : a < 2 ^ 64) (h4 : b ≤ 9000) : BR rComb [.int a, .int b] (.int (PySem.W.mcComb a b)) := fun Hb H vs e h Q q => by
  obtain ⟨v, w, rfl, hv, hw⟩ := h.two_eq
  rw [hv.int_eq, hw.int_eq]
  exact ⟨a, b, rfl, h1, h2, h3, h4, q _ Hb H (Fr.refl e) (.int _)⟩
theorem br_allI {ns : List Int} : BR (rAllI K) [.list (ns.map .int)] (.bool (ns.all (· != 0))) := fun Hb H vs e h Q q => by
  obtain ⟨v, rfl, hv⟩ := h.one_eq
  obtain ⟨a, xs, rfl, h1, h2⟩ := hv.lst_eq
  exact ⟨a, ns, rfl, .inl (.inl (by rw [e _ _ h1, h2.ints])), q _ Hb H (Fr.refl e) (.bl _)⟩
theorem or_in {x : Int} {ns : List Int} : OR (rIn K false) (.int x) (Ti ns) (.bool (decide (x ∈ ns))) := fun Hb H vx vy e hx hy Q q => by
  obtain ⟨a, xs, rfl, h1, h2⟩ := hy.tup_eq
  have e2 := h2.ints
  subst e2
  have hv : inV (V.int x) (ns.map V.int) = decide (x ∈ ns) := by
    unfold inV
    rw [List.any_map]
    rw [Bool.eq_iff_iff, List.any_eq_true, decide_eq_true_eq]
    constructor
    · rintro ⟨y, h1, h2⟩
      have : y = x := by simpa [eqV] using h2
      rw [← this]
      exact h1
    · intro h
      exact ⟨x, h, by simp [eqV]⟩
  refine ⟨a, _, rfl, .inr (.inl (.inl (e _ _ h1))), by rw [hx.int_eq]; rfl, ?_, ?_⟩
  · rw [List.all_map, List.all_eq_true]
    intro _ _
    rfl
  · rw [hx.int_eq]
    show Q (.bl (inV (V.int x) (ns.map V.int))) H
    rw [hv]
    exact q _ Hb H (Fr.refl e) (.bl _)
end
/-! ### max(xs, default=d) -/
section
variable {X : Cx}
def maxD (ns : List Int) (d : Int) : Int := match ns with
  | [] => d
  | n :: ns => ns.foldl (fun a y => if a < y then y else a) n
def rMaxDef (K : PySem.W.Frag) : List V → List V → Hp → VK → Prop := fun vs zs H Q => ∃ (a : Addr) (ns : List Int) (d : Int), vs = [V.ref a] ∧ zs = [V.int d] ∧ SqL K H a (ns.map V.int) ∧ Q (.int (maxD ns d)) H
theorem cr_maxDef (hc : X.calm = true) (hu : X.A.units + 64 < cLine) : CallRK X (.builtin "max") [PySem.Str.ofString "default"] (rMaxDef X.K) := by
  intro pins s σ H vs zs us ws Q I r rz h
  obtain ⟨a, ns, d, rfl, rfl, hs, q⟩ := h
  obtain ⟨its, rv, hl, _⟩ := I.list hs
  rw [Vals.ref1 r]
  obtain ⟨w1, rfl, t, rfl⟩ := vals1 rz
  have hk : ∀ h' : Heap, ∀ tk : Tok, (∀ b o, s.heap.get? b = some o → h'.get? b = some o) → Inv X pins σ H { s with heap := h', toks := tk } := fun h' tk k => I.kept (t' := tk) k
  refine PySem.W.max_list_datum_default (α := Int) (xs := ns) (I.ok.hd hc) (show s.heap.IsList a its.toArray from hl.isList) (PySem.W.HoldAll.of_ints (by simpa using rv.ints)) (by show X.A.units + 1 + 0 < cLine; omega) (fun e h' tk k => ?_) (fun y ys i v h' tk e hi hv k => ?_)
  · subst e
    exact ⟨.int d, H, hk h' tk k, ⟨t, rfl⟩, q⟩
  · subst e
    obtain ⟨as, rd⟩ := hv
    have ev : ∃ t, v = Value.int (PySem.W.maxOf y ys) t := by
      cases rd with
      | int i t => exact ⟨t, rfl⟩
    refine ⟨.int (PySem.W.maxOf y ys), H, hk h' tk k, ev, ?_⟩
    have em : PySem.W.maxOf y ys = maxD (y :: ys) d := by
      unfold PySem.W.maxOf maxD
      show ys.foldl _ y = ys.foldl _ y
      congr 1
      funext a b
      show (if PySem.W.DatumOrd.lt a b = true then b else a) = if a < b then b else a
      have : PySem.W.DatumOrd.lt a b = decide (a < b) := rfl
      rw [this]
      by_cases h : a < b
      · rw [if_pos h, if_pos (decide_eq_true h)]
      · rw [if_neg h, if_neg (by simpa using h)]
    rw [em]
    exact q
end
section
variable {K : PySem.W.Frag} {σ : L2.St} {Hb : Hp} {te td : TE}
theorem ed_maxDef {ns : List Int} {d : Int} (h : ED te σ Hb (Li ns)) (hd : ED td σ Hb (.int d)) : ED (tCKw (rMaxDef K) (tCons te tNil) (tCons td tNil)) σ Hb (.int (maxD ns d)) := fun H1 e Q q =>
  h H1 e _ fun v Hr H2 f hv => (hd.mono f.b) H2 f.r _ fun w Hs H3 g hw => by
    obtain ⟨a, xs, rfl, e1, e2⟩ := (hv.mono g.b).lst_eq
    exact ⟨a, ns, d, rfl, by rw [hw.int_eq], .inl (.inl (by rw [g.r _ _ e1, e2.ints])), q _ Hs H3 (f.trans g) (.int _)⟩
end
end LX

set_option Elab.async false
set_option linter.all false
set_option maxRecDepth 100000
set_option maxHeartbeats 4000000
set_option autoImplicit false
namespace LX
open PySem PySem.Spec PyProof.Rows L2 Evl
/-! ### small facts of data -/
theorem canLayI : ∀ ns : List Int, PyData.canLayAll0 (ns.map PyData.int) = true
  | [] => by simp [PyData.canLayAll0]
  | n :: ns => by simp [PyData.canLayAll0, PyData.canLay0, canLayI ns]
theorem depthAllI : ∀ ns : List Int, PyData.depthAll (ns.map .int) = 0 := PySem.W.depth_ints
theorem shaped_Li (ns : List Int) : SeqAt.shaped (Li ns) = true := by
  unfold SeqAt.shaped
  rw [Bool.and_eq_true]
  refine ⟨?_, decide_eq_true ?_⟩
  · simp [PyData.canLay0, canLayI]
  · simp only [PyData.depth, depthAllI]
    decide
theorem canLayT : ∀ L : List (List Int), PyData.canLayAll0 (L.map Ti) = true
  | [] => by simp [PyData.canLayAll0]
  | n :: ns => by simp [PyData.canLayAll0, PyData.canLay0, canLayI, canLayT ns]
theorem depthAllT : ∀ L : List (List Int), PyData.depthAll (L.map Ti) ≤ 1
  | [] => by simp [PyData.depthAll]
  | l :: L => by
    rw [List.map_cons, PyData.depthAll]
    have h1 : (Ti l).depth = 1 := by simp only [PyData.depth, depthAllI]
    have h2 := depthAllT L
    omega
theorem shaped_LT (L : List (List Int)) : SeqAt.shaped (.list (L.map Ti)) = true := by
  unfold SeqAt.shaped
  rw [Bool.and_eq_true]
  refine ⟨?_, decide_eq_true ?_⟩
  · simp [PyData.canLay0, canLayT]
  · simp only [PyData.depth]
    have := depthAllT L
    omega
theorem eqv_Li (ns : List Int) : PyData.eqv (Li ns) (Li ns) = true := SeqAt.eqv_refl _ (SeqAt.canLay_of_shaped (shaped_Li ns))
theorem eqv_LT (L : List (List Int)) : PyData.eqv (.list (L.map Ti)) (.list (L.map Ti)) = true := SeqAt.eqv_refl _ (SeqAt.canLay_of_shaped (shaped_LT L))
theorem at_int {ns : List Int} {i : Int} (h0 : 0 ≤ i) (h1 : i < ns.length) : atI (ns.map PyData.int) i = some (.int (ns.getD i.toNat 0)) := by
  obtain ⟨k, rfl⟩ := Int.eq_ofNat_of_zero_le h0
  have hk : k < ns.length := by omega
  refine atI_nat ?_
  rw [List.getElem?_map, List.getElem?_eq_getElem hk, List.getD_eq_getElem?_getD, Int.toNat_natCast, List.getElem?_eq_getElem hk] <;> rfl
theorem at_intN {ns : List Int} {i : Int} (h0 : i < 0) (h1 : -(ns.length : Int) ≤ i) : atI (ns.map PyData.int) i = some (.int (ns.getD (i + ns.length).toNat 0)) := by
  unfold atI ixN
  rw [List.length_map, if_neg (by omega), if_pos h1]
  show (ns.map PyData.int)[(i + ns.length).toNat]? = _
  rw [List.getElem?_map, List.getElem?_eq_getElem (by omega), List.getD_eq_getElem?_getD]
  simp [List.getElem?_eq_getElem (show (i + ns.length).toNat < ns.length by omega)]
theorem getD_mem {ns : List Int} {i : Nat} (h : i < ns.length) : ns.getD i 0 ∈ ns := by
  rw [List.getD_eq_getElem?_getD, List.getElem?_eq_getElem h]
  exact List.getElem_mem h
theorem bits_getD {ns : List Int} (h : Bits ns) (i : Nat) : 0 ≤ ns.getD i 0 ∧ ns.getD i 0 < 2 := by
  by_cases hi : i < ns.length
  · exact h _ (getD_mem hi)
  · rw [List.getD_eq_getElem?_getD, List.getElem?_eq_none (by omega)]
    exact ⟨by decide, by decide⟩
theorem rangeN {n : Int} : (List.range n.toNat).map (fun i : Nat => PyData.int i) = ((List.range n.toNat).map fun i : Nat => (i : Int)).map .int := by rw [List.map_map] <;> rfl
theorem states_bits : ∀ (n : Nat) (s : List Int), s ∈ states n → Bits s
  | 0, s, h => by
    rw [List.mem_singleton.mp (show s ∈ [[]] from h)]
    intro x hx
    cases hx
  | n + 1, s, h => by
    rw [states_succ] at h
    obtain ⟨t, h1, h2⟩ := List.mem_flatMap.mp h
    have ht := states_bits n t h1
    intro x hx
    rcases List.mem_cons.mp h2 with e | e
    · rw [e] at hx
      rcases List.mem_append.mp hx with z | z
      · exact ht x z
      · rw [List.mem_singleton.mp z]; decide
    · rw [List.mem_singleton.mp e] at hx
      rcases List.mem_append.mp hx with z | z
      · exact ht x z
      · rw [List.mem_singleton.mp z]; decide
theorem all_true {bs : List Bool} (h : ∀ b ∈ bs, b = true) : bs.all id = true := by
  rw [List.all_eq_true]
  exact h
section
variable {P : Program} {w : World} {K : PySem.W.Frag} {mg : PySem.Str → Option Value} {base : Heap}
/-! ### need_terms -/
-- need_terms: cells ['size']; slots 0 size, 1 terms, 2 term, 3 place
abbrev s_need_terms : Stmt := topS 32
abbrev N_need_terms : List PySem.Str := ["size", "terms", "term", "place"]
abbrev P_need_terms : List PySem.Str := ["size", "terms"]
theorem sc_need_terms : FnScope N_need_terms P_need_terms (defScope s_need_terms) := fscope_by (by decide +kernel)
def TermsOk (n : Nat) (ts : List (List Int)) : Prop := Asc ts ∧ ts.length < 64 ∧ ∀ t ∈ ts, t.Pairwise (· < ·) ∧ t.length < 10 ∧ ∀ x ∈ t, 0 ≤ x ∧ x < n
def RneedTerms (ds : List PyData) (d : PyData) : Prop := ∃ (n : Nat) (ts : List (List Int)), ds = [.int n, .tuple (ts.map Ti)] ∧ 1 ≤ n ∧ n ≤ 9 ∧ TermsOk n ts ∧ d = .none
theorem ok_need_terms (T : Txt K mg) (F : Df K mg "need_terms" s_need_terms P_need_terms) (c_need_size : CalD P w K mg base 3 "need_size" RneedSize) (c_is_in : CalD P w K mg base 2 "is_in" RisIn) : CalD P w K mg base 4 "need_terms" RneedTerms := by
  refine calD F sc_need_terms (fun ds d h => by obtain ⟨_, _, rfl, _⟩ := h; rfl) fun f cdv A outer s H E hr => ⟨_,
    (pss_cons (ps_expr (C8.pe_c c_need_size hr (by decide) (by rfl) (pa_cons pe_int (pa_cons (pv 0) pa_nil))))
      (pss_cons (ps_if (PW.pt (pw_or (pt_not (pt_val (pe_callB (r := rIsi K) call_isi (by rfl) T.isinstance bt_isinstance (pa_cons (pv 1) (pa_cons (pe_ty (by rfl) T.tuple bt_tuple) pa_nil))))) (pw_or1 (pt_not (pt_val (pe_callB (r := rAll K) (cr_all rfl) (by rfl) T.all bt_all (pa_cons (pe_lc (own := [("term", 2)]) (wi := iTup K _) (g := (gName 2)) (tt := tYes) (by rfl) sc_need_terms.nd (pi_tup (pv 1)) (blkOk_by (own := [("term", 2)]) (N := N_need_terms) (sc := (defScope s_need_terms)) (by decide +kernel)) (fun _ _ _ _ _ => (pg_name (i := 2) sc_need_terms.nd rfl (by first | exact Or.inl rfl | exact Or.inr rfl))) (fun _ _ _ _ _ => pts_nil) (fun _ _ _ _ _ => (pe_callB (r := rIsi K) call_isi (by rfl) T.isinstance bt_isinstance (pa_cons (pv 2) (pa_cons (pe_ty (by rfl) T.tuple bt_tuple) pa_nil))))) pa_nil))))))) (pss_one ps_never) pss_nil)
      (pss_cons (ps_if (pt_not (pt_val (pe_callB (r := rAll K) (cr_all rfl) (by rfl) T.all bt_all (pa_cons (pe_lc2 (own := [("term", 2), ("place", 3)]) (wi := iTup K _) (vs1 := [3]) (wi1 := iTup K _) (g := (gName 2)) (g1 := (gName 3)) (tt := tYes) (tt1 := tYes) (by rfl) sc_need_terms.nd (pi_tup (pv 1)) (blkOk_by (own := [("term", 2), ("place", 3)]) (N := N_need_terms) (sc := (defScope s_need_terms)) (by decide +kernel)) (by decide) (fun _ _ _ _ _ => (pg_name (i := 2) sc_need_terms.nd rfl (by first | exact Or.inl rfl | exact Or.inr rfl))) (fun _ _ _ _ _ => pts_nil) (fun _ _ _ _ _ => (pi_tup (pv 2))) (fun _ _ _ _ _ => (pg_name (i := 3) sc_need_terms.nd rfl (by first | exact Or.inl rfl | exact Or.inr rfl))) (fun _ _ _ _ _ => pts_nil) (fun _ _ _ _ _ => (C8.pe_c c_is_in hr (by decide) (by rfl) (pa_cons (pv 3) (pa_cons pe_int (pa_cons (pe_op op_sub (pv 0) pe_int) pa_nil)))))) pa_nil)))) (pss_one ps_never) pss_nil)
      (pss_one (ps_if (PW.pt (pw_or (pt_cmpR (r := rNeD K) (op_neD hr.units) (pe_callTy (r := rListOf K) call_list_of (by rfl) T.list bt_list (pa_cons (pv 1) pa_nil)) (pe_callB (r := rSortSetU K P w) (cr_sortSetU rfl hr.units) (by rfl) T.sorted bt_sorted (pa_cons (pe_callTy (r := rSetTT K P w) (cr_setTT rfl hr.units) (by rfl) T.set bt_set (pa_cons (pv 1) pa_nil)) pa_nil)) (nomark _)) (pw_or1 (pt_val (pe_callB (r := rAny K) (cr_any rfl) (by rfl) T.any bt_any (pa_cons (pe_lc (own := [("term", 2)]) (wi := iTup K _) (g := (gName 2)) (tt := tYes) (by rfl) sc_need_terms.nd (pi_tup (pv 1)) (blkOk_by (own := [("term", 2)]) (N := N_need_terms) (sc := (defScope s_need_terms)) (by decide +kernel)) (fun _ _ _ _ _ => (pg_name (i := 2) sc_need_terms.nd rfl (by first | exact Or.inl rfl | exact Or.inr rfl))) (fun _ _ _ _ _ => pts_nil) (fun _ _ _ _ _ => (pe_cmpR (r := rNeD K) (op_neD hr.units) (pe_callTy (r := rListOf K) call_list_of (by rfl) T.list bt_list (pa_cons (pv 2) pa_nil)) (pe_callB (r := rSortedSet w) (cr_sortedSet rfl) (by rfl) T.sorted bt_sorted (pa_cons (pe_callTy (r := rSetI K w) (cr_setI rfl) (by rfl) T.set bt_set (pa_cons (pv 2) pa_nil)) pa_nil)) (nomark _)))) pa_nil)))))) (pss_one ps_never) pss_nil))))), fun ds d hR vs Hb H Q eb hv k => ?_⟩
  obtain ⟨n, ts, rfl, h1, h2, ⟨ha, hl, ht⟩, rfl⟩ := hR
  have en := En.start (N := N_need_terms) hv
  refine st_drop eb (ed_call (ea_cons ed_int (ea_cons (ed_var en rfl) ea_nil)) ⟨n, rfl, h1, h2, rfl⟩) fun Hr H1 f1 => ?_
  have en := en.fr f1
  -- all terms are tuples
  refine st_guard f1.r (eb_or (a := !true) (b := !true) (eb_not (eb_B (ed_isi (ed_var en rfl) kit_tt))) fun _ => eb_not (eb_B (ed_is (ed_cb (ea_cons (ed_is (y := .list ((ts.map fun _ => true).map .bool)) (ed_lc0 (A := ts) (enc := Ti) (enc' := fun _ => .bool true) (ew_tup (ed_var en rfl)) (by omega) en (by decide) fun a ha σ' H1 e en => ed_isi (ed_var en rfl) kit_tt) (by rw [List.map_map]; rfl)) ea_nil) br_all) ?_))) fun Hs H2 f2 => ?_
  · rw [all_true (by intro b hb; obtain ⟨_, _, rfl⟩ := List.mem_map.mp hb; rfl)]
  have en := en.fr f2
  -- all places are in
  refine st_guard f2.r (eb_not (a := true) (eb_B (ed_is (ed_cb (ea_cons (ed_is (y := .list ((ts.flatMap fun t => t.map fun _ => true).map .bool)) (ed_lc2 (A := ts) (B := fun t => t) (enc := Ti) (enc1 := fun _ x => .int x) (enc2 := fun _ _ => .bool true) (ew_tup (ed_var en rfl)) (by omega) (fun a h => by have := (ht a h).2.1; omega) en (by decide) (by decide)
    (fun a ha σ' H1 e en => ew_tup (ed_var en rfl)) (fun a ha b hb σ' H1 e en => ed_call (ea_cons (ed_var en rfl) (ea_cons ed_int (ea_cons (ed_op (ed_var en rfl) ed_int or_sub) ea_nil))) ⟨b, 0, _, rfl, ?_⟩)) (by rw [List.map_flatMap]; congr 2; funext t; rw [List.map_map]; rfl)) ea_nil) br_all) ?_))) fun Ht H3 f3 => ?_
  · have := (ht a ha).2.2 b hb
    rw [decide_eq_true (show (0 : Int) ≤ b from this.1), decide_eq_true (show b ≤ (n : Int) - 1 by omega)] <;> rfl
  · rw [all_true (by intro b hb; obtain ⟨t, _, h⟩ := List.mem_flatMap.mp hb; obtain ⟨_, _, rfl⟩ := List.mem_map.mp h; rfl)]
  have en := en.fr f3
  -- they ascend
  refine st_guard1 f3.r (eb_or (a := !true) (b := false) (eb_test (ed_is (ed_op (ed_cb (ea_cons (ed_var en rfl) ea_nil) br_list) (ed_sortSetTT (L := ts) (ed_var en rfl) hl ha (fun _ => Iff.rfl)) (or_neD (shaped_LT ts) (shaped_LT ts))) ?_)) fun _ => eb_B (ed_is (ed_cb (ea_cons (ed_is (y := .list ((ts.map fun _ => false).map .bool)) (ed_lc0 (A := ts) (enc := Ti) (enc' := fun _ => .bool false) (ew_tup (ed_var en rfl)) (by omega) en (by decide) fun a ha σ' H1 e en =>
      ed_is (ed_op (ed_cb (ea_cons (ed_var en rfl) ea_nil) br_list) (ed_sortSetI (ns := a) (ed_var en rfl) (by have := (ht a ha).2.1; omega) (ht a ha).1 (fun _ => Iff.rfl)) (or_neD (shaped_Li a) (shaped_Li a))) ?_) (by rw [List.map_map]; rfl)) ea_nil) br_any) ?_)) fun Hu H4 f4 => k .non Hu H4 (((f1.trans f2).trans f3).trans f4) .non
  · rw [eqv_LT]
  · rw [eqv_Li] <;> rfl
  · have : (ts.map fun _ => false).any id = false := by
      rw [List.any_map, List.any_eq_false]
      intro x _ h
      cases h
    rw [this]
end
end LX

set_option Elab.async false
set_option linter.all false
set_option maxRecDepth 100000
set_option maxHeartbeats 4000000
set_option autoImplicit false
namespace LX
open PySem PySem.Spec PyProof.Rows L2 Evl
/-! ### more of the layer -/
theorem Fr.of {Hb H H' : Hp} (e : Ex Hb H') (h : Ex H H') : Fr Hb H Hb H' := ⟨Ex.refl _, h, e, fun _ z _ => z⟩
theorem Fr.grow {Hb H1 Hr H2 H3 : Hp} (x : Fr Hb H1 Hr H2) (e : Ex H2 H3) : Fr Hb H1 Hr H3 := ⟨x.b, x.h.trans e, x.r.trans e, x.n⟩
theorem wipe_at : ∀ (vs : List Nat) (σ : L2.St) (i : Nat), (L2.wipe σ vs)[i]? = if i ∈ vs then (if i < σ.length then some none else none) else σ[i]? := by
  intro vs
  induction vs with
  | nil => intro σ i; simp [L2.wipe]
  | cons v r ih =>
    intro σ i
    show ((L2.wipe σ r).set v none)[i]? = _
    by_cases e : v = i
    · subst e
      rw [List.getElem?_set]
      simp [wipe_length]
    · rw [List.getElem?_set_ne e, ih σ i]
      simp [show ¬ i = v from fun z => e z.symm]
theorem wipe_set {vs : List Nat} {σ : L2.St} {j : Nat} {o : Option V} (hj : j ∈ vs) : L2.wipe (σ.set j o) vs = L2.wipe σ vs := by
  apply List.ext_getElem?
  intro i
  rw [wipe_at, wipe_at, List.length_set]
  by_cases hi : i ∈ vs
  · rw [if_pos hi, if_pos hi]
  · rw [if_neg hi, if_neg hi]
    have : j ≠ i := fun z => hi (z ▸ hj)
    rw [List.getElem?_set_ne this]
theorem wipe_idem {vs : List Nat} {σ : L2.St} : L2.wipe (L2.wipe σ vs) vs = L2.wipe σ vs := by
  apply List.ext_getElem?
  intro i
  rw [wipe_at, wipe_at, wipe_length]
  by_cases hi : i ∈ vs
  · rw [if_pos hi, if_pos hi]
  · rw [if_neg hi]
theorem Li_map {α : Type} (l : List α) (f : α → Int) : PyData.list (l.map fun a => .int (f a)) = Li (l.map f) := by
  show _ = PyData.list _
  rw [List.map_map] <;> rfl
theorem Ti_map {α : Type} (l : List α) (f : α → Int) : PyData.tuple (l.map fun a => .int (f a)) = Ti (l.map f) := by
  show _ = PyData.tuple _
  rw [List.map_map] <;> rfl
section
variable {K : PySem.W.Frag} {σ : L2.St} {Hb : Hp} {ρ : Env'} {ta : TA} {te : TE} {vs : List Nat}
theorem walk_enumT {a : Addr} {xs : List V} : Walk (IteT K a) xs.length (fun H => SqT K H a xs) (YPair (fun i => some (.int (i : Nat))) (fun i => xs[i]?)) := by
  refine ⟨fun i _ hi q => ⟨xs, xs[i], q, by simp [hi]⟩, fun _ q => ⟨xs, q, Nat.le_refl _⟩, fun i H v H' _ q y => ?_⟩
  obtain ⟨T, x, h1, h2, h3, h4⟩ := y
  exact ⟨T, .int (i : Nat), x, h1, h2, h3, rfl, h4 xs q⟩
/-- [e for i, x in enumerate(t)], t a tuple of ints -/
theorem ed_lcEnumT {ns : List Int} {f : Nat → PyData} {j k : Nat} (h : EA ta σ Hb [Ti ns]) (hz : ns.length ≤ 100000) (en : En σ Hb ρ) (hj : j ∈ vs) (hk : k ∈ vs)
    (he : ∀ i, i < ns.length → ∀ σ' H', Ex Hb H' → En σ' H' (((wipeD ρ vs).set j (some (.int i))).set k (some (.int (ns.getD i 0)))) → ED te σ' H' (f i)) :
    ED (tLc (iEnumT K ta) (gTup K 2 (gCons (gName j) (gCons (gName k) gNil))) tYes te vs) σ Hb (.list ((List.range ns.length).map f)) := fun H0 e0 Q q => h H0 e0 _ fun us Hr H1 fr hd => by
  obtain ⟨v, rfl, hv⟩ := hd.one_eq
  obtain ⟨a, xs, rfl, h1, h2⟩ := hv.tup_eq
  obtain rfl := h2.ints
  refine ⟨a, _, rfl, .inl (.inl (fr.r _ _ h1)), fun D hD => ?_⟩
  refine lc_it (walk_enumT (xs := ns.map V.int)) (fun i H' => ∃ Hs ys, Fr Hr H1 Hs H' ∧ Hs D = none ∧ H' D = some (.lst ys) ∧ DtA Hs ys ((List.range i).map f) ∧ ys.length ≤ i) ?_ ?_ ?_ ?_
  · have hrD := fresh_back fr.r hD
    exact ⟨Hr, [], (Fr.refl fr.r).mutate hD hrD, hrD, upd_same, .nil, Nat.le_refl _⟩
  · rintro i H' hi ⟨Hs, ys, g, g1, g2, g3, g4⟩
    exact .inl (.inl ((g.b.trans g.r) _ _ h1))
  · rintro i v H' H'' hi ⟨Hs, ys, g, g1, g2, g3, g4⟩ ⟨Tp, x, y, rfl, nT, rfl, ex, ey⟩
    rw [List.length_map] at hi
    have ex' : x = .int (i : Nat) := (Option.some.inj ex).symm
    have ey' : y = .int (ns.getD i 0) := by
      have e : (ns.map V.int)[i]? = some y := ey
      rw [List.getElem?_map, List.getElem?_eq_getElem hi] at e
      rw [List.getD_eq_getElem?_getD, List.getElem?_eq_getElem hi]
      exact (Option.some.inj e).symm
    subst ex' ey'
    have fn := Fr.new (o := .tup [.int (i : Nat), .int (ns.getD i 0)]) g.r nT
    obtain ⟨n1, n2⟩ := fn.mut g1 g2
    refine ⟨Tp, _, rfl, .inl (.inl upd_same), rfl, .int (i : Nat), [.int (ns.getD i 0)], rfl, .int (ns.getD i 0), [], rfl, rfl, ?_⟩
    have en' : En (((L2.wipe σ vs).set j (some (.int (i : Nat)))).set k (some (.int (ns.getD i 0)))) (upd Hs Tp (.tup [.int (i : Nat), .int (ns.getD i 0)])) (((wipeD ρ vs).set j (some (.int i))).set k (some (.int (ns.getD i 0)))) :=
      (((en.mono ((fr.b.trans g.b).trans fn.b)).wipe vs).set (.int _)).set (.int _)
    refine ⟨by rw [wipe_set hk, wipe_set hj, wipe_idem], yes_go ?_⟩
    refine (he i hi _ _ ((fr.b.trans g.b).trans fn.b) en') _ fn.r _ fun y Hu H4 l hy => ?_
    obtain ⟨l1, l2⟩ := l.mut n1 n2
    refine ⟨ys, l2, sz_lt (by omega), Hu, ys ++ [y], ((g.trans fn).trans l).mutate hD l1, l1, upd_same, ?_, by rw [List.length_append]; show ys.length + 1 ≤ _; omega⟩
    rw [List.range_succ, List.map_append]
    exact (g3.mono (fn.b.trans l.b)).app (.one hy)
  · rintro H' ⟨Hs, ys, g, g1, g2, g3, g4⟩
    refine q _ (upd Hs D (.lst ys)) H' (fr.trans (g.freeze hD g1 g2)) (.lst upd_same ?_)
    rw [List.length_map] at g3
    exact g3.mono (Ex.new g1)
end
theorem cut_to {ns : List Int} {k : Nat} : cutD (ns.map .int) none (some (k : Int)) = (ns.take k).map PyData.int := by
  unfold cutD
  rw [HT.sIx_none, HT.sIx_nat, List.drop_zero, Nat.sub_zero, List.map_take, List.length_map]
  by_cases h : k ≤ ns.length
  · rw [Nat.min_eq_left h]
  · rw [Nat.min_eq_right (by omega), List.take_of_length_le (by simp), List.take_of_length_le (by simp; omega)]
/-! ### what the defs compute -/
/-- the value of a term for a state -/
def termV (s t : List Int) : Int := if (t.map fun p => s.getD p.toNat 0).all (· != 0) then 1 else 0
def tableOf (n : Nat) (ts : List (List Int)) : List Int := (states n).map fun s => (ts.map (termV s)).sum % 2
def placesOf (n : Nat) (s : List Int) : List Int := ((List.range n).filter fun i => decide (s.getD i 0 = 1)).map fun i : Nat => (i : Int)
def inside (n : Nat) (ps s : List Int) : Bool := (((List.range n).filter fun i => decide (s.getD i 0 = 1)).map fun i : Nat => decide ((i : Int) ∈ ps)).all id
def wholeOf (n : Nat) (tb ps : List Int) (l : List (List Int)) : Int := l.foldl (fun a s => if inside n ps s = true then a + tb.getD (place s).toNat 0 else a) 0
def termsRaw (n : Nat) (tb : List Int) : List (List Int) := ((states n).map (placesOf n)).filter fun ps => decide (wholeOf n tb ps (states n) % 2 = 1)
def termDeg (n : Nat) (tb : List Int) : Int := maxD ((sortBy id (termsRaw n tb)).map fun t => (t.length : Int)) (-1)
def fbound (l d : Nat) : Int := ((List.range (d + 1)).map fun i : Nat => PySem.W.mcComb l i).sum
def nextOf (taps row : List Int) : Int := ((List.range taps.length).map fun i => taps.getD i 0 * row.getD (row.length - 1 - i) 0).sum % 2
def growR (taps : List Int) : Nat → List Int → List Int
  | 0, row => row
  | k + 1, row => growR taps k (row ++ [nextOf taps row])
def runOf (taps start : List Int) (count : Nat) : List Int := (growR taps (count - start.length) start).take count
def filt (row tb ps : List Int) (count : Nat) : List Int := (List.range count).map fun i => tb.getD (place (ps.map fun p => row.getD (i + p.toNat) 0)).toNat 0
theorem place_lt : ∀ (ns : List Int), Bits ns → 0 ≤ place ns ∧ place ns < 2 ^ ns.length := by
  have key : ∀ (ns : List Int) (a : Int) (k : Nat), Bits ns → 0 ≤ a → a < 2 ^ k → 0 ≤ ns.foldl (fun f n => f * 2 + n) a ∧ ns.foldl (fun f n => f * 2 + n) a < 2 ^ (k + ns.length) := by
    intro ns
    induction ns with
    | nil => intro a k _ h0 h1; exact ⟨h0, h1⟩
    | cons x r ih =>
      intro a k hb h0 h1
      have hx := hb x List.mem_cons_self
      have e : (2 : Int) ^ (k + 1) = 2 ^ k * 2 := Int.pow_succ ..
      have := ih (a * 2 + x) (k + 1) (fun y hy => hb y (List.mem_cons_of_mem _ hy)) (by omega) (by rw [e]; omega)
      rw [List.length_cons, show k + (r.length + 1) = k + 1 + r.length by omega]
      exact this
  intro ns hb
  have := key ns 0 0 hb (by decide) (by decide)
  rwa [Nat.zero_add] at this
theorem nextOf_bit (taps row : List Int) : 0 ≤ nextOf taps row ∧ nextOf taps row < 2 := by
  unfold nextOf
  omega
theorem growR_len (taps : List Int) : ∀ (k : Nat) (row : List Int), (growR taps k row).length = row.length + k
  | 0, _ => rfl
  | k + 1, row => by
    unfold growR
    rw [growR_len taps k, List.length_append]
    show row.length + 1 + k = _
    omega
theorem growR_bits (taps : List Int) : ∀ (k : Nat) (row : List Int), Bits row → Bits (growR taps k row)
  | 0, _, h => h
  | k + 1, row, h => by
    unfold growR
    refine growR_bits taps k _ fun x hx => ?_
    rcases List.mem_append.mp hx with z | z
    · exact h x z
    · rw [List.mem_singleton.mp z]
      exact nextOf_bit taps row
theorem growR_next (taps : List Int) : ∀ (k : Nat) (row : List Int), growR taps (k + 1) row = growR taps k row ++ [nextOf taps (growR taps k row)]
  | 0, _ => rfl
  | k + 1, row => by
    have h := growR_next taps k (row ++ [nextOf taps row])
    exact h
theorem runOf_len {taps start : List Int} {count : Nat} (h : start.length ≤ count) : (runOf taps start count).length = count := by
  unfold runOf
  rw [List.length_take, growR_len]
  omega
theorem runOf_bits {taps start : List Int} {count : Nat} (h : Bits start) : Bits (runOf taps start count) := fun x hx => growR_bits taps _ _ h x (List.mem_of_mem_take hx)
section
variable {P : Program} {w : World} {K : PySem.W.Frag} {mg : PySem.Str → Option Value} {base : Heap}
/-! ### next_of -/
-- next_of: cells ['row']; slots 0 prime, 1 taps, 2 row, 3 at, 4 tap
abbrev s_next_of : Stmt := topS 35
abbrev N_next_of : List PySem.Str := ["prime", "taps", "row", "at", "tap"]
abbrev P_next_of : List PySem.Str := ["prime", "taps", "row"]
theorem sc_next_of : FnScope N_next_of P_next_of (defScope s_next_of) := fscope_by (by decide +kernel)
def RnextOf (ds : List PyData) (d : PyData) : Prop := ∃ taps row : List Int, ds = [.int 2, Ti taps, Li row] ∧ Bits taps ∧ taps.length ≤ row.length ∧ row.length ≤ 100000 ∧ d = .int (nextOf taps row)
theorem ok_next_of (T : Txt K mg) (F : Df K mg "next_of" s_next_of P_next_of)  : CalD P w K mg base 1 "next_of" RnextOf := by
  refine calD F sc_next_of (fun ds d h => by obtain ⟨_, _, rfl, _⟩ := h; rfl) fun f cdv A outer s H E hr => ⟨_,
    (pss_one (ps_ret (pe_op op_mod (pe_callB (r := rSum K) (cr_sum rfl) (by rfl) T.sum bt_sum (pa_cons (pe_lc (own := [("at", 3), ("tap", 4)]) (wi := iEnumT K _) (g := (gTup K 2 (gCons (gName 3) (gCons (gName 4) gNil)))) (tt := tYes) (by rfl) sc_next_of.nd (pi_enumT (by rfl) T.enumerate (pa_cons (pv 1) pa_nil)) (blkOk_by (own := [("at", 3), ("tap", 4)]) (N := N_next_of) (sc := (defScope s_next_of)) (by decide +kernel)) (fun _ _ _ _ _ => (pg_tup rfl (pgs_cons (pg_name (i := 3) sc_next_of.nd rfl (by first | exact Or.inl rfl | exact Or.inr rfl)) (pgs_cons (pg_name (i := 4) sc_next_of.nd rfl (by first | exact Or.inl rfl | exact Or.inr rfl)) pgs_nil)))) (fun _ _ _ _ _ => pts_nil) (fun _ _ _ _ _ => (pe_op op_mul (pv 4) (pe_ix (r := rIxL K) ix_list (pv 2) (pe_op op_sub (pe_un un_neg pe_int) (pv 3)) (fun _ _ => rfl))))) pa_nil)) (pv 0)))), fun ds d hR vs Hb H Q eb hv k => ?_⟩
  obtain ⟨taps, row, rfl, hb, hl, hz, rfl⟩ := hR
  have en := En.start (N := N_next_of) hv
  refine st_ret eb (ed_op (ed_cb (ea_cons (ed_is (y := Li ((List.range taps.length).map fun i => taps.getD i 0 * row.getD (row.length - 1 - i) 0)) (ed_lcEnumT (f := fun i => .int (taps.getD i 0 * row.getD (row.length - 1 - i) 0)) (ea_cons (ed_var en rfl) ea_nil) (by omega) en (by decide) (by decide)
    fun i hi σ' H1 e en => ed_op (ed_var en rfl) (ed_op (ed_var en rfl) (ed_op (ed_neg ed_int) (ed_var en rfl) or_sub) (or_ixL (d := .int (row.getD (row.length - 1 - i) 0)) ?_)) (or_mul ?_)) (Li_map _ _)) ea_nil) br_sum) (ed_var en rfl) (or_mod (by decide))) k
  · rw [at_intN (by omega) (by omega)]
    congr 3
    omega
  · have := bits_getD hb i
    unfold CMul
    omega
/-! ### run_of -/
-- run_of: cells []; slots 0 prime, 1 taps, 2 start, 3 count, 4 row
abbrev s_run_of : Stmt := topS 36
abbrev N_run_of : List PySem.Str := ["prime", "taps", "start", "count", "row"]
abbrev P_run_of : List PySem.Str := ["prime", "taps", "start", "count"]
theorem sc_run_of : FnScope N_run_of P_run_of (defScope s_run_of) := fscope_by (by decide +kernel)
def RrunOf (ds : List PyData) (d : PyData) : Prop := ∃ (taps start : List Int) (count : Nat), ds = [.int 2, Ti taps, Ti start, .int count] ∧ Bits taps ∧ Bits start ∧ start.length = taps.length ∧ start.length ≤ 60 ∧ count ≤ 1000 ∧ d = Ti (runOf taps start count)
theorem ok_run_of (T : Txt K mg) (F : Df K mg "run_of" s_run_of P_run_of) (c_next_of : CalD P w K mg base 1 "next_of" RnextOf) : CalD P w K mg base 2 "run_of" RrunOf := by
  refine calD F sc_run_of (fun ds d h => by obtain ⟨_, _, _, rfl, _⟩ := h; rfl) fun f cdv A outer s H E hr => ⟨_,
    (pss_cons (ps_set (i := 4) sc_run_of.nd rfl (by first | exact Or.inl rfl | exact Or.inr rfl) (pe_callTy (r := rListOf K) call_list_of (by rfl) T.list bt_list (pa_cons (pv 2) pa_nil)))
      (pss_cons (ps_while PassesOwn.never (pt_cmpR op_lt (pe_callB (r := rLenQ K) call_len_seq (by rfl) T.len bt_len (pa_cons (pv 4) pa_nil)) (pv 3) (nomark _)) (pss_one (ps_expr (pe_bm PySem.F.plainAttrs_list PySem.F.slot_list_append PySem.F.type_list_append mt_append (pv 4) (pa_cons (C8.pe_c c_next_of hr (by decide) (by rfl) (pa_cons (pv 0) (pa_cons (pv 1) (pa_cons (pv 4) pa_nil)))) pa_nil)))))
      (pss_one (ps_ret (pe_callTy (r := rTupOf K) call_tuple_of (by rfl) T.tuple bt_tuple (pa_cons (pe_slice sl_list (pv 4) po_none (po_some (pv 3))) pa_nil)))))), fun ds d hR vs Hb H Q eb hv k => ?_⟩
  obtain ⟨taps, start, count, rfl, hb, hs, hl, hz, hc, rfl⟩ := hR
  have en := En.start (N := N_run_of) hv
  -- row = list(start)
  obtain ⟨v2, g2, d2⟩ := en.at_ 2 _ rfl
  obtain ⟨a2, xs, rfl, e1, e2⟩ := d2.tup_eq
  obtain rfl := e2.ints
  refine ⟨_, g2, a2, _, rfl, .inr (.inl (.inl (eb _ _ e1))), fun l nl => ?_⟩
  have nb : Hb l = none := fresh_back eb nl
  refine st_while (fun m σ' H' => ∃ row : List Int, m = count - row.length ∧ En σ' Hb [some (.int 2), some (Ti taps), some (Ti start), some (.int count), none] ∧ σ'[4]? = some (some (.ref l)) ∧ Ex H H' ∧ H' l = some (.lst (row.map V.int)) ∧
    start.length ≤ row.length ∧ row.length ≤ 2000 ∧ row = growR taps (row.length - start.length) start ∧ (row.length ≤ count ∨ row.length = start.length)) (count - start.length) ⟨start, rfl, en.setN (i := 4), ?_, Ex.new nl, upd_same, Nat.le_refl _, by omega, by rw [Nat.sub_self]; rfl, .inr rfl⟩ ?_
  · rw [List.getElem?_set_self]
    show 4 < (L2.start N_run_of vs).length
    rw [en.len]
    show 4 < 4 + 1
    decide
  rintro m σ' H' ⟨row, rfl, en', s4, eh, hl', r1, r2, r3, r4⟩
  have ebl : Ex (upd Hb l (.lst (row.map V.int))) H' := (Fr.freeze (Fr.of (eb.trans eh) eh) nl nb hl').r
  have enl : En σ' (upd Hb l (.lst (row.map V.int))) [some (.int 2), some (Ti taps), some (Ti start), some (.int count), some (Li row)] := (en'.mono (Ex.new nb)).put (i := 4) s4 (.lst upd_same (DtA.ofInts row))
  refine ⟨_, _, ebl, eb_test (ed_op (ed_cb (ea_cons (ed_var enl rfl) ea_nil) br_len) (ed_var enl rfl) or_lt), fun ht Hr H1 f => ?_, fun hf Hr H1 f => ?_⟩
  · -- row.append(next_of(..))
    have hlt : row.length < count := by
      have := of_decide_eq_true ht
      rw [List.length_map] at this
      omega
    refine ⟨_, fun σ2 H2 z => ⟨count - (row.length + 1), by omega, z⟩, ?_⟩
    refine ⟨.ref l, s4, .inl ⟨rfl, _, .inl (.inl (f.h _ _ hl'))⟩, ?_⟩
    refine (ed_call (R := RnextOf) (d := .int (nextOf taps row)) (ea_cons (ed_var (enl.mono f.b) rfl) (ea_cons (ed_var (enl.mono f.b) rfl) (ea_cons (ed_var (enl.mono f.b) rfl) ea_nil))) ⟨taps, row, rfl, hb, by omega, by omega, rfl⟩) H1 f.r _ fun v Hs H2 g hd => ?_
    obtain rfl := hd.int_eq
    refine ⟨l, _, _, rfl, rfl, g.h _ _ (f.h _ _ hl'), sz_lt (by rw [List.length_map]; omega), ?_⟩
    refine ⟨row ++ [nextOf taps row], by rw [List.length_append]; rfl, en', s4, ((eh.trans f.h).trans g.h).mut nl, ?_, ?_, ?_, ?_, .inl ?_⟩
    · rw [upd_same, List.map_append] <;> rfl
    · rw [List.length_append]; omega
    · rw [List.length_append]; show row.length + 1 ≤ _; omega
    · rw [List.length_append]
      show row ++ [nextOf taps row] = growR taps (row.length + 1 - start.length) start
      rw [show row.length + 1 - start.length = (row.length - start.length) + 1 by omega, growR_next, ← r3]
    · rw [List.length_append]; show row.length + 1 ≤ _; omega
  · -- return tuple(row[:count])
    have hge : count ≤ row.length := by
      have := of_decide_eq_false hf
      rw [List.length_map] at this
      omega
    have er : row.take count = runOf taps start count := by
      unfold runOf
      rw [r3]
      have : row.length - start.length = count - start.length := by omega
      rw [this]
    refine st_ret f.r (ed_cb (ea_cons (ed_is (y := Li (runOf taps start count)) (ed_sl (ed_var (enl.mono f.b) rfl) eo_none (eo_some (ed_var (enl.mono f.b) rfl))) ?_) ea_nil) br_tuple) fun v Ht H2 g hd => k v Ht H2 (((Fr.freeze (Fr.of (eb.trans eh) eh) nl nb hl').trans f).trans g) hd
    rw [cut_to, er]
/-! ### filter_bound -/
-- filter_bound: cells ['length']; slots 0 length, 1 degree, 2 size
abbrev s_filter_bound : Stmt := topS 48
abbrev N_filter_bound : List PySem.Str := ["length", "degree", "size"]
abbrev P_filter_bound : List PySem.Str := ["length", "degree"]
theorem sc_filter_bound : FnScope N_filter_bound P_filter_bound (defScope s_filter_bound) := fscope_by (by decide +kernel)
def RfilterBound (ds : List PyData) (d : PyData) : Prop := ∃ l g : Nat, ds = [.int l, .int g] ∧ l ≤ 60 ∧ g ≤ 9 ∧ d = .int (fbound l g)
theorem ok_filter_bound (T : Txt K mg) (F : Df K mg "filter_bound" s_filter_bound P_filter_bound) (c_need_number : CalD P w K mg base 3 "need_number" RneedNumber) : CalD P w K mg base 4 "filter_bound" RfilterBound := by
  refine calD F sc_filter_bound (fun ds d h => by obtain ⟨_, _, rfl, _⟩ := h; rfl) fun f cdv A outer s H E hr => ⟨_,
    (pss_cons (ps_expr (C8.pe_c c_need_number hr (by decide) (by rfl) (pa_cons (pv 0) (pa_cons pe_int (pa_cons (pe_gi (by rfl) T.MOST_TAPS) pa_nil)))))
      (pss_cons (ps_expr (C8.pe_c c_need_number hr (by decide) (by rfl) (pa_cons (pv 1) (pa_cons pe_int (pa_cons pe_int pa_nil)))))
      (pss_one (ps_ret (pe_callB (r := rSum K) (cr_sum rfl) (by rfl) T.sum bt_sum (pa_cons (pe_lc (own := [("size", 2)]) (wi := iRng1 _) (g := (gName 2)) (tt := tYes) (by rfl) sc_filter_bound.nd (pi_range1 (by rfl) T.range (pa_cons (pe_op op_add (pv 1) pe_int) pa_nil)) (blkOk_by (own := [("size", 2)]) (N := N_filter_bound) (sc := (defScope s_filter_bound)) (by decide +kernel)) (fun _ _ _ _ _ => (pg_name (i := 2) sc_filter_bound.nd rfl (by first | exact Or.inl rfl | exact Or.inr rfl))) (fun _ _ _ _ _ => pts_nil) (fun _ _ _ _ _ => (pe_callBfun cr_comb (by rfl) T.comb (pa_cons (pv 0) (pa_cons (pv 2) pa_nil))))) pa_nil)))))), fun ds d hR vs Hb H Q eb hv k => ?_⟩
  obtain ⟨l, g, rfl, h1, h2, rfl⟩ := hR
  have en := En.start (N := N_filter_bound) hv
  refine st_drop eb (ed_call (ea_cons (ed_var en rfl) (ea_cons ed_int (ea_cons ed_int ea_nil))) ⟨l, 0, 60, rfl, by omega, by omega, rfl⟩) fun Hr H1 f1 => ?_
  have en := en.fr f1
  refine st_drop f1.r (ed_call (ea_cons (ed_var en rfl) (ea_cons ed_int (ea_cons ed_int ea_nil))) ⟨g, 0, 9, rfl, by omega, by omega, rfl⟩) fun Hs H2 f2 => ?_
  have en := en.fr f2
  refine st_ret f2.r (ed_cb (ea_cons (ed_is (y := Li ((List.range (g + 1)).map fun i : Nat => PySem.W.mcComb l i)) (ed_lc0 (A := List.range (g + 1)) (enc := fun i : Nat => .int i) (enc' := fun i : Nat => .int (PySem.W.mcComb l i)) (ew_rng1 (n := ((g + 1 : Nat) : Int)) (ea_cons (ed_op (ed_var en rfl) ed_int or_add) ea_nil) (by omega)) (by simp; omega) en (by decide)
    fun a ha σ' H3 e en => ed_cb (ea_cons (ed_var en rfl) (ea_cons (ed_var en rfl) ea_nil)) (br_comb (by omega) (by omega) (by omega) (by have := List.mem_range.mp ha; omega))) (Li_map _ _)) ea_nil) br_sum) fun v Ht H3 f3 hd => k v Ht H3 ((f1.trans f2).trans f3) hd
/-! ### is_register, need_register, need_prime_row -/
-- is_register: cells []; slots 0 prime, 1 value
abbrev s_is_register : Stmt := topS 43
abbrev N_is_register : List PySem.Str := ["prime", "value"]
abbrev P_is_register : List PySem.Str := ["prime", "value"]
theorem sc_is_register : FnScope N_is_register P_is_register (defScope s_is_register) := fscope_by (by decide +kernel)
def RisRegister (ds : List PyData) (d : PyData) : Prop := ∃ taps start : List Int, ds = [.int 2, .tuple [Ti taps, Ti start]] ∧ Bits taps ∧ Bits start ∧ start.length = taps.length ∧ start.length ≤ 60 ∧ d = .bool true
theorem ok_is_register (T : Txt K mg) (F : Df K mg "is_register" s_is_register P_is_register) (c_are_numbers : CalD P w K mg base 3 "are_numbers" RareNumbers) : CalD P w K mg base 4 "is_register" RisRegister := by
  refine calD F sc_is_register (fun ds d h => by obtain ⟨_, _, rfl, _⟩ := h; rfl) fun f cdv A outer s H E hr => ⟨_,
    (pss_cons (ps_if (PW.pt (pw_or (pt_not (pt_val (pe_callB (r := rIsi K) call_isi (by rfl) T.isinstance bt_isinstance (pa_cons (pv 1) (pa_cons (pe_ty (by rfl) T.tuple bt_tuple) pa_nil))))) (pw_or (pt_cmpR op_ne (pe_callB (r := rLenQ K) call_len_seq (by rfl) T.len bt_len (pa_cons (pv 1) pa_nil)) pe_int (nomark _)) (pw_or1 (pt_not (pt_val (C8.pe_c c_are_numbers hr (by decide) (by rfl) (pa_cons (pv 0) (pa_cons (pe_ix (r := rIxT K) ix_tup (pv 1) pe_int (fun _ _ => rfl)) (pa_cons (pe_gi (by rfl) T.MOST_TAPS) pa_nil)))))))))) (pss_one (ps_ret pe_bl)) pss_nil)
      (pss_one (ps_ret (pe_and (C8.pe_c c_are_numbers hr (by decide) (by rfl) (pa_cons (pv 0) (pa_cons (pe_ix (r := rIxT K) ix_tup (pv 1) pe_int (fun _ _ => rfl)) (pa_cons (pe_gi (by rfl) T.MOST_TAPS) pa_nil)))) (pe_one (pe_cmpR op_eq (pe_callB (r := rLenQ K) call_len_seq (by rfl) T.len bt_len (pa_cons (pe_ix (r := rIxT K) ix_tup (pv 1) pe_int (fun _ _ => rfl)) pa_nil)) (pe_callB (r := rLenQ K) call_len_seq (by rfl) T.len bt_len (pa_cons (pe_ix (r := rIxT K) ix_tup (pv 1) pe_int (fun _ _ => rfl)) pa_nil)) (nomark _))))))), fun ds d hR vs Hb H Q eb hv k => ?_⟩
  obtain ⟨taps, start, rfl, hb, hs, hl, hz, rfl⟩ := hR
  have en := En.start (N := N_is_register) hv
  refine st_guard eb (eb_or (a := !true) (b := false || !true) (eb_not (eb_B (ed_isi (ed_var en rfl) kit_tt))) fun _ => eb_or (eb_test (ed_is (ed_op (ed_cb (ea_cons (ed_var en rfl) ea_nil) br_lenT) ed_int or_ne) (by rfl))) fun _ => eb_not (eb_B (ed_call (ea_cons (ed_var en rfl) (ea_cons (ed_op (ed_var en rfl) ed_int (or_ixT (d := Ti taps) (by rfl))) (ea_cons ed_int ea_nil))) ⟨taps, 60, rfl, hb, by omega, by omega, rfl⟩))) fun Hr H1 f1 => ?_
  have en := en.fr f1
  refine st_ret f1.r (ed_is (ed_andV (a := true) (b := true) (ed_call (ea_cons (ed_var en rfl) (ea_cons (ed_op (ed_var en rfl) ed_int (or_ixT (d := Ti start) (by rfl))) (ea_cons ed_int ea_nil))) ⟨start, 60, rfl, hs, by omega, by omega, rfl⟩) fun _ => ed_is (ed_op (ed_cb (ea_cons (ed_op (ed_var en rfl) ed_int (or_ixT (d := Ti taps) (by rfl))) ea_nil) br_lenT) (ed_cb (ea_cons (ed_op (ed_var en rfl) ed_int (or_ixT (d := Ti start) (by rfl))) ea_nil) br_lenT) or_eq) ?_) rfl) fun v Hs H2 f2 hd => k v Hs H2 (f1.trans f2) hd
  rw [List.length_map, List.length_map, decide_eq_true (by omega)]
-- need_register: cells []; slots 0 prime, 1 value
abbrev s_need_register : Stmt := topS 44
abbrev N_need_register : List PySem.Str := ["prime", "value"]
abbrev P_need_register : List PySem.Str := ["prime", "value"]
theorem sc_need_register : FnScope N_need_register P_need_register (defScope s_need_register) := fscope_by (by decide +kernel)
def RneedRegister (ds : List PyData) (d : PyData) : Prop := ∃ taps start : List Int, ds = [.int 2, .tuple [Ti taps, Ti start]] ∧ Bits taps ∧ Bits start ∧ start.length = taps.length ∧ start.length ≤ 60 ∧ d = .none
theorem ok_need_register (T : Txt K mg) (F : Df K mg "need_register" s_need_register P_need_register) (c_is_register : CalD P w K mg base 4 "is_register" RisRegister) : CalD P w K mg base 5 "need_register" RneedRegister := by
  refine calD F sc_need_register (fun ds d h => by obtain ⟨_, _, rfl, _⟩ := h; rfl) fun f cdv A outer s H E hr => ⟨_,
    (pss_one (ps_if (pt_not (pt_val (C8.pe_c c_is_register hr (by decide) (by rfl) (pa_cons (pv 0) (pa_cons (pv 1) pa_nil))))) (pss_one ps_never) pss_nil)), fun ds d hR vs Hb H Q eb hv k => ?_⟩
  obtain ⟨taps, start, rfl, hb, hs, hl, hz, rfl⟩ := hR
  have en := En.start (N := N_need_register) hv
  exact st_guard1 eb (eb_not (a := true) (eb_B (ed_call (ea_cons (ed_var en rfl) (ea_cons (ed_var en rfl) ea_nil)) ⟨taps, start, rfl, hb, hs, hl, hz, rfl⟩))) fun Hr H' f => k .non Hr H' f .non
-- need_prime_row: cells []; slots 0 prime, 1 row
abbrev s_need_prime_row : Stmt := topS 40
abbrev N_need_prime_row : List PySem.Str := ["prime", "row"]
abbrev P_need_prime_row : List PySem.Str := ["prime", "row"]
theorem sc_need_prime_row : FnScope N_need_prime_row P_need_prime_row (defScope s_need_prime_row) := fscope_by (by decide +kernel)
def RneedPrimeRow (ds : List PyData) (d : PyData) : Prop := ∃ ns : List Int, ds = [.int 2, Ti ns] ∧ Bits ns ∧ ns.length ≤ 400 ∧ d = .none
theorem ok_need_prime_row (T : Txt K mg) (F : Df K mg "need_prime_row" s_need_prime_row P_need_prime_row) (c_need_prime : CalD P w K mg base 2 "need_prime" RneedPrime) (c_need_row : CalD P w K mg base 4 "need_row" RneedRow) : CalD P w K mg base 5 "need_prime_row" RneedPrimeRow := by
  refine calD F sc_need_prime_row (fun ds d h => by obtain ⟨_, rfl, _⟩ := h; rfl) fun f cdv A outer s H E hr => ⟨_,
    (pss_cons (ps_expr (C8.pe_c c_need_prime hr (by decide) (by rfl) (pa_cons (pv 0) pa_nil)))
      (pss_one (ps_expr (C8.pe_c c_need_row hr (by decide) (by rfl) (pa_cons (pv 0) (pa_cons (pv 1) pa_nil)))))), fun ds d hR vs Hb H Q eb hv k => ?_⟩
  obtain ⟨ns, rfl, hb, hz, rfl⟩ := hR
  have en := En.start (N := N_need_prime_row) hv
  refine st_drop eb (ed_call (ea_cons (ed_var en rfl) ea_nil) ⟨rfl, rfl⟩) fun Hr H1 f1 => ?_
  have en := en.fr f1
  exact st_drop1 f1.r (ed_call (ea_cons (ed_var en rfl) (ea_cons (ed_var en rfl) ea_nil)) ⟨ns, rfl, hb, hz, rfl⟩) fun Hs H2 f2 => k .non Hs H2 (f1.trans f2) .non
end
end LX

set_option Elab.async false
set_option linter.all false
set_option maxRecDepth 100000
set_option maxHeartbeats 4000000
set_option autoImplicit false
namespace LX
open PySem PySem.Spec PyProof.Rows L2 Evl
theorem states_rng {n : Nat} {s : List Int} (h : s ∈ states n) : s.length = n := states_in n s h
theorem placesOf_lt {n : Nat} {s : List Int} : ∀ x ∈ placesOf n s, 0 ≤ x ∧ x < n := by
  intro x hx
  obtain ⟨i, hi, rfl⟩ := List.mem_map.mp hx
  have := List.mem_range.mp (List.mem_filter.mp hi).1
  omega
theorem placesOf_len {n : Nat} {s : List Int} : (placesOf n s).length ≤ n := by
  unfold placesOf
  rw [List.length_map]
  exact Nat.le_trans (List.length_filter_le _ _) (Nat.le_of_eq List.length_range)
theorem wholeOf_next {n : Nat} {tb ps : List Int} {l : List (List Int)} {i : Nat} {s : List Int} (h : l[i]? = some s) :
    wholeOf n tb ps (l.take (i + 1)) = if inside n ps s = true then wholeOf n tb ps (l.take i) + tb.getD (place s).toNat 0 else wholeOf n tb ps (l.take i) := by
  unfold wholeOf
  rw [List.take_add_one, h, Option.toList_some, List.foldl_append] <;> rfl
theorem termsRaw_len {n : Nat} {tb : List Int} (hn : n ≤ 9) : (termsRaw n tb).length ≤ 512 := by
  unfold termsRaw
  refine Nat.le_trans (List.length_filter_le _ _) ?_
  rw [List.length_map, states_len]
  exact Nat.le_trans (Nat.pow_le_pow_right (by decide) hn) (by decide)
section
variable {P : Program} {w : World} {K : PySem.W.Frag} {mg : PySem.Str → Option Value} {base : Heap}
/-! ### table_of -/
-- table_of: cells ['terms']; slots 0 size, 1 terms, 2 state, 3 term, 4 at
abbrev s_table_of : Stmt := topS 33
abbrev N_table_of : List PySem.Str := ["size", "terms", "state", "term", "at"]
abbrev P_table_of : List PySem.Str := ["size", "terms"]
theorem sc_table_of : FnScope N_table_of P_table_of (defScope s_table_of) := fscope_by (by decide +kernel)
def RtableOf (ds : List PyData) (d : PyData) : Prop := ∃ (n : Nat) (ts : List (List Int)), ds = [.int n, .tuple (ts.map Ti)] ∧ 1 ≤ n ∧ n ≤ 9 ∧ TermsOk n ts ∧ d = Ti (tableOf n ts)
theorem ok_table_of (T : Txt K mg) (F : Df K mg "table_of" s_table_of P_table_of) (c_need_terms : CalD P w K mg base 4 "need_terms" RneedTerms) (c_states_of : CalD P w K mg base 1 "states_of" RstatesOf) : CalD P w K mg base 5 "table_of" RtableOf := by
  refine calD F sc_table_of (fun ds d h => by obtain ⟨_, _, rfl, _⟩ := h; rfl) fun f cdv A outer s H E hr => ⟨_,
    (pss_cons (ps_expr (C8.pe_c c_need_terms hr (by decide) (by rfl) (pa_cons (pv 0) (pa_cons (pv 1) pa_nil))))
      (pss_one (ps_ret (pe_callTy (r := rTupOf K) call_tuple_of (by rfl) T.tuple bt_tuple (pa_cons (pe_lc (own := [("state", 2)]) (wi := iList K _) (g := (gName 2)) (tt := tYes) (by rfl) sc_table_of.nd (pi_list (C8.pe_c c_states_of hr (by decide) (by rfl) (pa_cons pe_int (pa_cons (pv 0) pa_nil)))) (blkOk_by (own := [("state", 2)]) (N := N_table_of) (sc := (defScope s_table_of)) (by decide +kernel)) (fun _ _ _ _ _ => (pg_name (i := 2) sc_table_of.nd rfl (by first | exact Or.inl rfl | exact Or.inr rfl))) (fun _ _ _ _ _ => pts_nil) (fun _ _ _ _ _ => (pe_op op_mod (pe_callB (r := rSum K) (cr_sum rfl) (by rfl) T.sum bt_sum (pa_cons (pe_lc (own := [("term", 3)]) (wi := iTup K _) (g := (gName 3)) (tt := tYes) (by rfl) sc_table_of.nd (pi_tup (pv 1)) (blkOk_by (own := [("term", 3)]) (N := N_table_of) (by kernel_rfl)) (fun _ _ _ _ _ => (pg_name (i := 3) sc_table_of.nd rfl (by first | exact Or.inl rfl | exact Or.inr rfl))) (fun _ _ _ _ _ => pts_nil) (fun _ _ _ _ _ => (pe_callTy call_int1 (by rfl) T.int bt_int (pa_cons (pe_callB (r := rAllI K) (cr_allI rfl) (by rfl) T.all bt_all (pa_cons (pe_lc (own := [("at", 4)]) (wi := iTup K _) (g := (gName 4)) (tt := tYes) (by rfl) sc_table_of.nd (pi_tup (pv 3)) (blkOk_by (own := [("at", 4)]) (N := N_table_of) (by kernel_rfl)) (fun _ _ _ _ _ => (pg_name (i := 4) sc_table_of.nd rfl (by first | exact Or.inl rfl | exact Or.inr rfl))) (fun _ _ _ _ _ => pts_nil) (fun _ _ _ _ _ => (pe_ix (r := rIxT K) ix_tup (pv 2) (pv 4) (fun _ _ => rfl)))) pa_nil)) pa_nil)))) pa_nil)) pe_int))) pa_nil))))), fun ds d hR vs Hb H Q eb hv k => ?_⟩
  obtain ⟨n, ts, rfl, h1, h2, ht, rfl⟩ := hR
  have en := En.start (N := N_table_of) hv
  refine st_drop eb (ed_call (ea_cons (ed_var en rfl) (ea_cons (ed_var en rfl) ea_nil)) ⟨n, ts, rfl, h1, h2, ht, rfl⟩) fun Hr H1 f1 => ?_
  have en := en.fr f1
  have hsl : (states n).length ≤ 512 := by
    rw [states_len]
    exact Nat.le_trans (Nat.pow_le_pow_right (by decide) h2) (by decide)
  refine st_ret f1.r (ed_cb (ea_cons (ed_is (y := Li (tableOf n ts)) (ed_lc0 (A := states n) (enc := Ti) (enc' := fun s => .int ((ts.map (termV s)).sum % 2)) (ew_list (ed_call (ea_cons ed_int (ea_cons (ed_var en rfl) ea_nil)) ⟨n, rfl, h2, rfl⟩)) (by omega) en (by decide)
    fun s hs σ' H2 e en => ed_op (ed_cb (ea_cons (ed_is (y := Li (ts.map (termV s))) (ed_lc0 (A := ts) (enc := Ti) (enc' := fun t => .int (termV s t)) (ew_tup (ed_var en rfl)) (by have := ht.2.1; omega) en (by decide)
      fun t ht' σ2 H3 e3 en => ed_is (ed_cb (ea_cons (ed_cb (ea_cons (ed_is (y := Li (t.map fun p => s.getD p.toNat 0)) (ed_lc0 (A := t) (enc := fun p => .int p) (enc' := fun p => .int (s.getD p.toNat 0)) (ew_tup (ed_var en rfl)) (by have := (ht.2.2 t ht').2.1; omega) en (by decide)
        fun p hp σ3 H4 e4 en => ed_op (ed_var en rfl) (ed_var en rfl) (or_ixT (at_int ?_ ?_))) (Li_map _ _)) ea_nil) br_allI) ea_nil) br_intB) rfl) (Li_map _ _)) ea_nil) br_sum) ed_int (or_mod (by decide))) (Li_map _ _)) ea_nil) br_tuple) fun v Ht H3 f3 hd => k v Ht H3 (f1.trans f3) hd
  · exact ((ht.2.2 t ht').2.2 p hp).1
  · rw [states_in n s hs]
    exact ((ht.2.2 t ht').2.2 p hp).2
/-! ### terms_of -/
-- terms_of: cells ['other', 'places', 'state']; slots 0 size, 1 table, 2 found, 3 state, 4 places, 5 whole, 6 other, 7 at
abbrev s_terms_of : Stmt := topS 31
abbrev N_terms_of : List PySem.Str := ["size", "table", "found", "state", "places", "whole", "other", "at"]
abbrev P_terms_of : List PySem.Str := ["size", "table"]
theorem sc_terms_of : FnScope N_terms_of P_terms_of (defScope s_terms_of) := fscope_by (by decide +kernel)
def RtermsOf (ds : List PyData) (d : PyData) : Prop := ∃ (n : Nat) (tb : List Int), ds = [.int n, Ti tb] ∧ 1 ≤ n ∧ n ≤ 9 ∧ Bits tb ∧ tb.length = 2 ^ n ∧ d = .list ((sortBy id (termsRaw n tb)).map Ti)
theorem ok_terms_of (T : Txt K mg) (F : Df K mg "terms_of" s_terms_of P_terms_of) (c_need_table : CalD P w K mg base 4 "need_table" RneedTable) (c_states_of : CalD P w K mg base 1 "states_of" RstatesOf) (c_place_ofT : CalD P w K mg base 1 "place_of" RplaceT) : CalD P w K mg base 5 "terms_of" RtermsOf := by
  refine calD F sc_terms_of (fun ds d h => by obtain ⟨_, _, rfl, _⟩ := h; rfl) fun f cdv A outer s H E hr => ⟨_,
    (pss_cons (ps_expr (C8.pe_c c_need_table hr (by decide) (by rfl) (pa_cons pe_int (pa_cons (pv 0) (pa_cons (pv 1) pa_nil)))))
      (pss_cons (ps_set (i := 2) sc_terms_of.nd rfl (by first | exact Or.inl rfl | exact Or.inr rfl) (pe_lst pa_nil))
      (pss_cons (ps_for PassesOwn.never rfl (pi_list (C8.pe_c c_states_of hr (by decide) (by rfl) (pa_cons pe_int (pa_cons (pv 0) pa_nil)))) (pg_name (i := 3) sc_terms_of.nd rfl (by first | exact Or.inl rfl | exact Or.inr rfl)) (pss_cons (ps_set (i := 4) sc_terms_of.nd rfl (by first | exact Or.inl rfl | exact Or.inr rfl) (pe_callTy (r := rTupOf K) call_tuple_of (by rfl) T.tuple bt_tuple (pa_cons (pe_lc (own := [("at", 7)]) (wi := iRng1 _) (g := (gName 7))  (by rfl) sc_terms_of.nd (pi_range1 (by rfl) T.range (pa_cons (pv 0) pa_nil)) (blkOk_by (own := [("at", 7)]) (N := N_terms_of) (sc := (defScope s_terms_of)) (by decide +kernel)) (fun _ _ _ _ _ => (pg_name (i := 7) sc_terms_of.nd rfl (by first | exact Or.inl rfl | exact Or.inr rfl))) (fun _ _ _ _ _ => pts_one (pt_cmpR op_eq (pe_ix (r := rIxT K) ix_tup (pv 3) (pv 7) (fun _ _ => rfl)) pe_int (nomark _))) (fun _ _ _ _ _ => (pv 7))) pa_nil)))
      (pss_cons (ps_set (i := 5) sc_terms_of.nd rfl (by first | exact Or.inl rfl | exact Or.inr rfl) pe_int)
      (pss_cons (ps_for PassesOwn.never rfl (pi_list (C8.pe_c c_states_of hr (by decide) (by rfl) (pa_cons pe_int (pa_cons (pv 0) pa_nil)))) (pg_name (i := 6) sc_terms_of.nd rfl (by first | exact Or.inl rfl | exact Or.inr rfl)) (pss_one (ps_if (pt_val (pe_callB (r := rAll K) (cr_all rfl) (by rfl) T.all bt_all (pa_cons (pe_lc (own := [("at", 7)]) (wi := iRng1 _) (g := (gName 7))  (by rfl) sc_terms_of.nd (pi_range1 (by rfl) T.range (pa_cons (pv 0) pa_nil)) (blkOk_by (own := [("at", 7)]) (N := N_terms_of) (sc := (defScope s_terms_of)) (by decide +kernel)) (fun _ _ _ _ _ => (pg_name (i := 7) sc_terms_of.nd rfl (by first | exact Or.inl rfl | exact Or.inr rfl))) (fun _ _ _ _ _ => pts_one (pt_cmpR op_eq (pe_ix (r := rIxT K) ix_tup (pv 6) (pv 7) (fun _ _ => rfl)) pe_int (nomark _))) (fun _ _ _ _ _ => (pe_cmpR (r := rIn K false) op_in_seq (pv 7) (pv 4) (by rfl)))) pa_nil))) (pss_one (ps_aug (i := 5) sc_terms_of.nd rfl (by first | exact Or.inl rfl | exact Or.inr rfl) (pe_ix (r := rIxT K) ix_tup (pv 1) (C8.pe_c c_place_ofT hr (by decide) (by rfl) (pa_cons pe_int (pa_cons (pv 6) pa_nil))) (fun _ _ => rfl)) ip_add)) pss_nil)))
      (pss_one (ps_if (pt_cmpR op_eq (pe_op op_mod (pv 5) pe_int) pe_int (nomark _)) (pss_one (ps_expr (pe_bm PySem.F.plainAttrs_list PySem.F.slot_list_append PySem.F.type_list_append mt_append (pv 2) (pa_cons (pv 4) pa_nil)))) pss_nil))))))
      (pss_one (ps_ret (pe_callB (r := rSortU2 K) (cr_sortU2 hr.units) (by rfl) T.sorted bt_sorted (pa_cons (pv 2) pa_nil))))))), fun ds d hR vs Hb H Q eb hv k => ?_⟩
  obtain ⟨n, tb, rfl, h1, h2, hb, hl, rfl⟩ := hR
  have en := En.start (N := N_terms_of) hv
  refine st_drop eb (ed_call (ea_cons ed_int (ea_cons (ed_var en rfl) (ea_cons (ed_var en rfl) ea_nil))) ⟨n, tb, rfl, h1, h2, hb, hl, rfl⟩) fun Hr H1 f1 => ?_
  have en := en.fr f1
  have hsl : (states n).length ≤ 512 := by
    rw [states_len]
    exact Nat.le_trans (Nat.pow_le_pow_right (by decide) h2) (by decide)
  -- found = []
  refine st_new fun l H2 nl e2 => ?_
  subst e2
  have nr : Hr l = none := fresh_back f1.r nl
  have el : Ex Hr (upd H1 l (.lst [])) := f1.r.mut nr
  have enl : En ((L2.start N_terms_of vs).set 2 (some (.ref l))) Hr [some (.int n), some (Ti tb), none, none, none, none, none, none] := en.setN (i := 2)
  have s2 : ((L2.start N_terms_of vs).set 2 (some (.ref l)))[2]? = some (some (.ref l)) := by
    rw [List.getElem?_set_self]
    rw [en.len]
    show 2 < 2 + 6
    decide
  let raw := fun ps : List Int => decide (wholeOf n tb ps (states n) % 2 = 1)
  refine st_for (ew_list (ed_call (R := RstatesOf) (ea_cons ed_int (ea_cons (ed_var enl rfl) ea_nil)) ⟨n, rfl, h2, rfl⟩)) el
    (fun Hs i σ' H' => ∃ (Hc : Hp) (ys : List V) (t3 t4 t5 t6 : Option PyData), Ex Hs Hc ∧ Ex Hr Hc ∧ Ex Hc H' ∧ Ex H1 H' ∧ (∀ a, Hr a = none → H1 a ≠ none → Hc a = none) ∧ Hc l = none ∧ σ'[2]? = some (some (.ref l)) ∧ H' l = some (.lst ys) ∧
      DtA Hc ys (((((states n).take i).map (placesOf n)).filter raw).map Ti) ∧ ys.length ≤ i ∧ En σ' Hc [some (.int n), some (Ti tb), none, t3, t4, t5, t6, none])
    (fun Hs H' f2 => ⟨Hs, [], none, none, none, none, Ex.refl _, f2.b, f2.r, (Ex.new nl).trans f2.h, fun a z1 z2 => f2.n a z1 (by
      by_cases q : a = l
      · rw [q, upd_same]; exact fun z => nomatch z
      · rw [upd_ne q]; exact z2), (f2.mut nr upd_same).1, s2, (f2.mut nr upd_same).2, .nil, Nat.le_refl _, enl.mono f2.b⟩)
    (fun Hs i σ' H' ⟨Hc, ys, t3, t4, t5, t6, e1, _, e2, _⟩ => e1.trans e2)
    (fun Hs i v d σ' H' eh hd hv' ⟨Hc, ys, t3, t4, t5, t6, c1, c2, c3, c4, c5, c6, c7, c8, c9, c10, en2⟩ => ?_) (fun Hs σ' H' eh ⟨Hc, ys, t3, t4, t5, t6, c1, c2, c3, c4, c5, c6, c7, c8, c9, c10, en2⟩ => ?_)
  · rw [List.getElem?_map] at hd
    obtain ⟨s, hs, rfl⟩ := Option.map_eq_some_iff.mp hd
    have hsm : s ∈ states n := List.mem_of_getElem? hs
    have hsn : s.length = n := states_in n s hsm
    have hin : i < (states n).length := (List.getElem?_eq_some_iff.mp hs).1
    have en3 := en2.set (i := 3) (hv'.mono c1)
    have c7' : (σ'.set 3 (some v))[2]? = some (some (.ref l)) := by rw [List.getElem?_set_ne (by decide)]; exact c7
    -- places = tuple([..])
    refine st_setS (d := Ti (placesOf n s)) c3 (ed_cb (ea_cons (ed_is (y := Li (placesOf n s)) (ed_lc (A := List.range n) (enc := fun i : Nat => .int i) (enc' := fun i : Nat => .int i) (p := fun i : Nat => decide (s.getD i 0 = 1)) (ew_rng1 (n := n) (ea_cons (ed_var en3 rfl) ea_nil) (by omega)) (by simp; omega) en3 (by decide)
      (fun a ha σ2 H2 e en => eb_test (ed_op (ed_op (ed_var en rfl) (ed_var en rfl) (or_ixT (d := .int (s.getD a 0)) (at_int (ns := s) (i := (a : Int)) (by omega) (by have := List.mem_range.mp ha; omega)))) ed_int or_eq))
      (fun a ha _ σ2 H2 e en => ed_var en rfl)) (Li_map _ _)) ea_nil) br_tuple) fun v4 Hd H3 f3 hd4 => ?_
    obtain ⟨m1, m2⟩ := f3.mut c6 c8
    have en4 := (en3.mono f3.b).set (i := 4) hd4
    have c74 : ((σ'.set 3 (some v)).set 4 (some v4))[2]? = some (some (.ref l)) := by rw [List.getElem?_set_ne (by decide)]; exact c7'
    have s44 : ((σ'.set 3 (some v)).set 4 (some v4))[4]? = some (some v4) := by
      rw [List.getElem?_set_self]
      rw [List.length_set, en2.len]
      show 4 < 8
      decide
    -- whole = 0
    refine st_setS f3.r ed_int fun v5 He H4 f4 hd5 => ?_
    have en5 := (en4.mono f4.b).set (i := 5) hd5
    have c75 : (((σ'.set 3 (some v)).set 4 (some v4)).set 5 (some v5))[2]? = some (some (.ref l)) := by rw [List.getElem?_set_ne (by decide)]; exact c74
    have s45 : (((σ'.set 3 (some v)).set 4 (some v4)).set 5 (some v5))[4]? = some (some v4) := by rw [List.getElem?_set_ne (by decide)]; exact s44
    obtain ⟨m3, m4⟩ := f4.mut m1 m2
    -- the inner loop
    refine st_for (ew_list (ed_call (R := RstatesOf) (ea_cons ed_int (ea_cons (ed_var en5 rfl) ea_nil)) ⟨n, rfl, h2, rfl⟩)) f4.r
      (fun Hu j σ2 H' => ∃ (Hw : Hp) (t6 : Option PyData), Ex Hu Hw ∧ Fr He H4 Hw H' ∧ σ2[2]? = some (some (.ref l)) ∧ σ2[4]? = some (some v4) ∧ En σ2 Hw [some (.int n), some (Ti tb), none, some (Ti s), some (Ti (placesOf n s)), some (.int (wholeOf n tb (placesOf n s) ((states n).take j))), t6, none])
      (fun Hu H' f5 => ⟨Hu, t6, Ex.refl _, f5, c75, s45, en5.mono f5.b⟩) (fun Hu j σ2 H' ⟨Hw, t6, w1, w2, _⟩ => w1.trans w2.r)
      (fun Hu j u d σ2 H' eu hd hu ⟨Hw, t6, w1, w2, w3, w4, en6⟩ => ?_) (fun Hu σ2 H' eu ⟨Hw, t6, w1, w2, w3, w4, en6⟩ => ?_)
    · rw [List.getElem?_map] at hd
      obtain ⟨o, ho, rfl⟩ := Option.map_eq_some_iff.mp hd
      have hom : o ∈ states n := List.mem_of_getElem? ho
      have hon : o.length = n := states_in n o hom
      have en7 := en6.set (i := 6) (hu.mono w1)
      have w3' : (σ2.set 6 (some u))[2]? = some (some (.ref l)) := by rw [List.getElem?_set_ne (by decide)]; exact w3
      have w4' : (σ2.set 6 (some u))[4]? = some (some v4) := by rw [List.getElem?_set_ne (by decide)]; exact w4
      refine st_if1 w2.r (b := inside n (placesOf n s) o) (eb_B (ed_is (ed_cb (ea_cons (ed_is (y := .list ((((List.range n).filter fun i => decide (o.getD i 0 = 1)).map fun i : Nat => decide ((i : Int) ∈ placesOf n s)).map .bool)) (ed_lc (A := List.range n) (enc := fun i : Nat => .int i) (enc' := fun i : Nat => .bool (decide ((i : Int) ∈ placesOf n s))) (p := fun i : Nat => decide (o.getD i 0 = 1)) (ew_rng1 (n := n) (ea_cons (ed_var en7 rfl) ea_nil) (by omega)) (by simp; omega) en7 (by decide)
        (fun a ha σ2 H2 e en => eb_test (ed_op (ed_op (ed_var en rfl) (ed_var en rfl) (or_ixT (d := .int (o.getD a 0)) (at_int (ns := o) (i := (a : Int)) (by omega) (by have := List.mem_range.mp ha; omega)))) ed_int or_eq))
        (fun a ha _ σ2 H2 e en => ed_op (ed_var en rfl) (ed_var en rfl) or_in)) (by rw [List.map_map]; rfl)) ea_nil) br_all) rfl)) (fun hi Hx H5 f5 => ?_) (fun hi Hx H5 f5 => ?_)
      · have hp := place_lt o (states_bits n o hom)
        rw [hon] at hp
        have hpl : ((2 ^ n : Nat) : Int) = (2 : Int) ^ n := by rw [Int.natCast_pow] <;> rfl
        obtain ⟨v5', q5, q6⟩ := (en7.mono f5.b).at_ 5 _ rfl
        refine ⟨v5', q5, (ed_op (ed_var (i := 1) (en7.mono f5.b) rfl) (ed_call (R := RplaceT) (ea_cons ed_int (ea_cons (ed_var (en7.mono f5.b) rfl) ea_nil)) ⟨o, rfl, rfl⟩) (or_ixT (at_int hp.1 (by rw [hl, hpl]; exact hp.2)))) H5 f5.r _ fun z Hy H6 f6 hz => ⟨_, _, q6.int_eq, hz.int_eq, Hy, some (Ti o), w1.trans (f5.b.trans f6.b), (w2.trans f5).trans f6, ?_, ?_, ?_⟩⟩
        · rw [List.getElem?_set_ne (by decide)]; exact w3'
        · rw [List.getElem?_set_ne (by decide)]; exact w4'
        · rw [wholeOf_next ho, if_pos hi]
          exact ((en7.mono f5.b).mono f6.b).set (i := 5) (.int _)
      · refine ⟨Hx, some (Ti o), w1.trans f5.b, w2.trans f5, w3', w4', ?_⟩
        rw [wholeOf_next ho, hi, if_neg Bool.false_ne_true]
        exact en7.mono f5.b
    · -- if whole % 2 == 1
      rw [List.length_map, List.take_length] at en6
      have fr := (f3.trans f4).trans w2
      obtain ⟨m5, m6⟩ := fr.mut c6 c8
      have ek : ((states n).take (i + 1)).map (placesOf n) = ((states n).take i).map (placesOf n) ++ [placesOf n s] := by
        rw [List.take_add_one, hs, Option.toList_some, List.map_append] <;> rfl
      have hv4 : Dt Hw v4 (Ti (placesOf n s)) := (hd4.mono f4.b).mono w2.b
      refine st_if1 w2.r (eb_test (ed_op (ed_op (ed_var en6 rfl) ed_int (or_mod (by decide))) ed_int or_eq)) (fun hi Hx H5 f5 => ?_) (fun hi Hx H5 f5 => ?_)
      · obtain ⟨m7, m8⟩ := f5.mut m5 m6
        refine ⟨.ref l, w3, .inl ⟨rfl, _, .inl (.inl m8)⟩, v4, w4, l, ys, v4, rfl, rfl, m8, sz_lt (by omega), ?_⟩
        refine ⟨Hx, ys ++ [v4], some (Ti s), some (Ti (placesOf n s)), _, t6, (c1.trans fr.b).trans f5.b, (c2.trans fr.b).trans f5.b, f5.r.mut m7, ((c4.trans fr.h).trans f5.h).mut nl, fun a z1 z2 => f5.n a (fr.n a (c5 a z1 z2) ?_) ?_, m7, w3, upd_same, ?_, ?_, en6.mono f5.b⟩
        · cases q : H1 a with
          | none => exact absurd q z2
          | some o => rw [c4 a o q]; exact fun z => nomatch z
        · cases q : H1 a with
          | none => exact absurd q z2
          | some o => rw [fr.h a o (c4 a o q)]; exact fun z => nomatch z
        · rw [ek, List.filter_append, List.filter_cons, if_pos (show raw (placesOf n s) = true from hi), List.map_append]
          exact ((c9.mono fr.b).mono f5.b).app (.one (hv4.mono f5.b))
        · rw [List.length_append]; show ys.length + 1 ≤ _; omega
      · obtain ⟨m7, m8⟩ := f5.mut m5 m6
        refine ⟨Hx, ys, some (Ti s), some (Ti (placesOf n s)), _, t6, (c1.trans fr.b).trans f5.b, (c2.trans fr.b).trans f5.b, f5.r, (c4.trans fr.h).trans f5.h, fun a z1 z2 => f5.n a (fr.n a (c5 a z1 z2) ?_) ?_, m7, w3, m8, ?_, by omega, en6.mono f5.b⟩
        · cases q : H1 a with
          | none => exact absurd q z2
          | some o => rw [c4 a o q]; exact fun z => nomatch z
        · cases q : H1 a with
          | none => exact absurd q z2
          | some o => rw [fr.h a o (c4 a o q)]; exact fun z => nomatch z
        · rw [ek, List.filter_append, List.filter_cons, if_neg (by rw [show raw (placesOf n s) = false from hi]; decide)]
          show DtA Hx ys (List.map Ti (_ ++ []))
          rw [List.append_nil]
          exact (c9.mono fr.b).mono f5.b
  · -- return sorted(found)
    rw [List.length_map, List.take_length] at c9
    have fz : Fr Hr H1 Hc H' := ⟨c2, c4, c3, c5⟩
    have fq := fz.freeze nl c6 c8
    have en8 := (en2.mono (Ex.new c6)).put (i := 2) c7 (.lst upd_same (c9.mono (Ex.new c6)))
    exact st_ret fq.r (ed_cb (ea_cons (ed_var en8 rfl) ea_nil) br_sortU) fun v Ht H3 f3 hd => k v Ht H3 ((f1.trans fq).trans f3) hd
/-! ### term_degree -/
-- term_degree: cells []; slots 0 size, 1 table, 2 term
abbrev s_term_degree : Stmt := topS 47
abbrev N_term_degree : List PySem.Str := ["size", "table", "term"]
abbrev P_term_degree : List PySem.Str := ["size", "table"]
theorem sc_term_degree : FnScope N_term_degree P_term_degree (defScope s_term_degree) := fscope_by (by decide +kernel)
def RtermDegree (ds : List PyData) (d : PyData) : Prop := ∃ (n : Nat) (tb : List Int), ds = [.int n, Ti tb] ∧ 1 ≤ n ∧ n ≤ 9 ∧ Bits tb ∧ tb.length = 2 ^ n ∧ d = .int (termDeg n tb)
theorem ok_term_degree (T : Txt K mg) (F : Df K mg "term_degree" s_term_degree P_term_degree) (c_terms_of : CalD P w K mg base 5 "terms_of" RtermsOf) : CalD P w K mg base 6 "term_degree" RtermDegree := by
  refine calD F sc_term_degree (fun ds d h => by obtain ⟨_, _, rfl, _⟩ := h; rfl) fun f cdv A outer s H E hr => ⟨_,
    (pss_one (ps_ret (pe_callBK (r := rMaxDef K) (cr_maxDef rfl hr.units) (by rfl) T.max bt_max (pa_cons (pe_lc (own := [("term", 2)]) (wi := iList K _) (g := (gName 2)) (tt := tYes) (by rfl) sc_term_degree.nd (pi_list (C8.pe_c c_terms_of hr (by decide) (by rfl) (pa_cons (pv 0) (pa_cons (pv 1) pa_nil)))) (blkOk_by (own := [("term", 2)]) (N := N_term_degree) (sc := (defScope s_term_degree)) (by decide +kernel)) (fun _ _ _ _ _ => (pg_name (i := 2) sc_term_degree.nd rfl (by first | exact Or.inl rfl | exact Or.inr rfl))) (fun _ _ _ _ _ => pts_nil) (fun _ _ _ _ _ => (pe_callB (r := rLenQ K) call_len_seq (by rfl) T.len bt_len (pa_cons (pv 2) pa_nil)))) pa_nil) (pk_cons (pe_un un_neg pe_int) pk_nil)))), fun ds d hR vs Hb H Q eb hv k => ?_⟩
  obtain ⟨n, tb, rfl, h1, h2, hb, hl, rfl⟩ := hR
  have en := En.start (N := N_term_degree) hv
  exact st_ret eb (ed_maxDef (ns := (sortBy id (termsRaw n tb)).map fun t : List Int => (t.length : Int)) (ed_is (ed_lc0 (A := sortBy id (termsRaw n tb)) (enc := Ti) (enc' := fun t : List Int => .int (t.length : Int)) (ew_list (ed_call (ea_cons (ed_var en rfl) (ea_cons (ed_var en rfl) ea_nil)) ⟨n, tb, rfl, h1, h2, hb, hl, rfl⟩)) (by rw [(sortBy_perm _ _).length_eq]; have := termsRaw_len (tb := tb) h2; omega) en (by decide)
    fun t ht σ' H1 e en => ed_is (ed_cb (ea_cons (ed_var en rfl) ea_nil) br_lenT) (by rw [List.length_map])) (Li_map _ _)) (ed_neg ed_int)) k
end
end LX

set_option Elab.async false
set_option linter.all false
set_option maxRecDepth 100000
set_option maxHeartbeats 4000000
set_option autoImplicit false
namespace LX
open PySem PySem.Spec PyProof.Rows L2 Evl
/-- a binomial, as the law counts it -/
def lchoose (l k : Nat) : Int := if k ≤ l then (List.range k).foldl (fun (f : Int) (i : Nat) => f * ((l : Int) - i) / ((i : Int) + 1)) 1 else 0
def lbound (l g : Nat) : Int := ((List.range (g + 1)).map fun k : Nat => lchoose l k).sum
theorem lfold_next {l k : Nat} : (List.range (k + 1)).foldl (fun (f : Int) (i : Nat) => f * ((l : Int) - i) / ((i : Int) + 1)) 1 = (List.range k).foldl (fun (f : Int) (i : Nat) => f * ((l : Int) - i) / ((i : Int) + 1)) 1 * ((l : Int) - k) / ((k : Int) + 1) := by
  rw [List.range_succ, List.foldl_append] <;> rfl
theorem ex_ints {H : Hp} {L : List PyData} {i : Nat} {d : PyData} {lo : Int} {n : Nat} (e : L = (List.range n).map fun i : Nat => PyData.int (lo + i)) (h : L[i]? = some d) : i < n ∧ d = .int (lo + i) := by
  subst e
  have hi : i < n := by
    have := (List.getElem?_eq_some_iff.mp h).1
    rwa [List.length_map, List.length_range] at this
  rw [List.getElem?_map, List.getElem?_range hi] at h
  exact ⟨hi, (Option.some.inj h).symm⟩
theorem kit_ls : kitB "list" "tuple" = some false := by decide +kernel
section
variable {K : PySem.W.Frag} {σ : L2.St} {Hb Hr H : Hp} {x y z d : PyData}
theorem or_isN {i : Int} : OR (fun x y H Q => y = .non ∧ Q (.bl (decide (x = .non))) H) (.int i) .none (.bool false) := fun Hb H vx vy e hx hy Q q => by
  rw [hx.int_eq]
  refine ⟨?_, q _ Hb H (Fr.refl e) (.bl _)⟩
  cases hy
  rfl
theorem or_ixA {ds : List PyData} {i : Int} (h : atI ds i = some d) : OR (rIx K) (.tuple ds) (.int i) d := fun Hb H vx vy e hx hy Q q => .inr (.inl (or_ixT h Hb H vx vy e hx hy Q q))
end
section
variable {P : Program} {w : World} {K : PySem.W.Frag} {mg : PySem.Str → Option Value} {base : Heap}
/-! ### filtered -/
-- filtered: cells ['places', 'row', 'table']; slots 0 wired, 1 size, 2 table, 3 places, 4 count, 5 row, 6 place, 7 at
abbrev s_filtered : Stmt := topS 46
abbrev N_filtered : List PySem.Str := ["wired", "size", "table", "places", "count", "row", "place", "at"]
abbrev P_filtered : List PySem.Str := ["wired", "size", "table", "places", "count"]
theorem sc_filtered : FnScope N_filtered P_filtered (defScope s_filtered) := fscope_by (by decide +kernel)
def Rfiltered (ds : List PyData) (d : PyData) : Prop := ∃ (taps start tb ps : List Int) (n count : Nat), ds = [.tuple [Ti taps, Ti start], .int n, Ti tb, Ti ps, .int count] ∧ Bits taps ∧ Bits start ∧ start.length = taps.length ∧ start.length ≤ 60 ∧ 1 ≤ n ∧ n ≤ 9 ∧ Bits tb ∧ tb.length = 2 ^ n ∧
  ps.length = n ∧ ps.Pairwise (· < ·) ∧ (∀ p ∈ ps, 0 ≤ p ∧ p ≤ 60) ∧ count ≤ 400 ∧ d = Ti (filt (runOf taps start (count + 61)) tb ps count)
theorem ok_filtered (T : Txt K mg) (F : Df K mg "filtered" s_filtered P_filtered) (c_need_register : CalD P w K mg base 5 "need_register" RneedRegister) (c_need_table : CalD P w K mg base 4 "need_table" RneedTable) (c_is_in : CalD P w K mg base 2 "is_in" RisIn) (c_need_number : CalD P w K mg base 3 "need_number" RneedNumber) (c_run_of : CalD P w K mg base 2 "run_of" RrunOf) (c_place_ofL : CalD P w K mg base 1 "place_of" RplaceL) : CalD P w K mg base 6 "filtered" Rfiltered := by
  refine calD F sc_filtered (fun ds d h => by obtain ⟨_, _, _, _, _, _, rfl, _⟩ := h; rfl) fun f cdv A outer s H E hr => ⟨_,
    (pss_cons (ps_expr (C8.pe_c c_need_register hr (by decide) (by rfl) (pa_cons pe_int (pa_cons (pv 0) pa_nil))))
      (pss_cons (ps_expr (C8.pe_c c_need_table hr (by decide) (by rfl) (pa_cons pe_int (pa_cons (pv 1) (pa_cons (pv 2) pa_nil)))))
      (pss_cons (ps_if (PW.pt (pw_or (pt_not (pt_val (pe_callB (r := rIsi K) call_isi (by rfl) T.isinstance bt_isinstance (pa_cons (pv 3) (pa_cons (pe_ty (by rfl) T.tuple bt_tuple) pa_nil))))) (pw_or1 (pt_not (pt_val (pe_callB (r := rAll K) (cr_all rfl) (by rfl) T.all bt_all (pa_cons (pe_lc (own := [("place", 6)]) (wi := iTup K _) (g := (gName 6)) (tt := tYes) (by rfl) sc_filtered.nd (pi_tup (pv 3)) (blkOk_by (own := [("place", 6)]) (N := N_filtered) (sc := (defScope s_filtered)) (by decide +kernel)) (fun _ _ _ _ _ => (pg_name (i := 6) sc_filtered.nd rfl (by first | exact Or.inl rfl | exact Or.inr rfl))) (fun _ _ _ _ _ => pts_nil) (fun _ _ _ _ _ => (C8.pe_c c_is_in hr (by decide) (by rfl) (pa_cons (pv 6) (pa_cons pe_int (pa_cons (pe_gi (by rfl) T.MOST_TAPS) pa_nil)))))) pa_nil))))))) (pss_one ps_never) pss_nil)
      (pss_cons (ps_if (PW.pt (pw_or (pt_cmpR op_ne (pe_callB (r := rLenQ K) call_len_seq (by rfl) T.len bt_len (pa_cons (pv 3) pa_nil)) (pv 1) (nomark _)) (pw_or1 (pt_cmpR (r := rNeD K) (op_neD hr.units) (pe_callTy (r := rListOf K) call_list_of (by rfl) T.list bt_list (pa_cons (pv 3) pa_nil)) (pe_callB (r := rSortedSet w) (cr_sortedSet rfl) (by rfl) T.sorted bt_sorted (pa_cons (pe_callTy (r := rSetI K w) (cr_setI rfl) (by rfl) T.set bt_set (pa_cons (pv 3) pa_nil)) pa_nil)) (nomark _))))) (pss_one ps_never) pss_nil)
      (pss_cons (ps_expr (C8.pe_c c_need_number hr (by decide) (by rfl) (pa_cons (pv 4) (pa_cons pe_int (pa_cons (pe_gi (by rfl) T.MOST_ROW) pa_nil)))))
      (pss_cons (ps_set (i := 5) sc_filtered.nd rfl (by first | exact Or.inl rfl | exact Or.inr rfl) (C8.pe_c c_run_of hr (by decide) (by rfl) (pa_cons pe_int (pa_cons (pe_ix (r := rIxT K) ix_tup (pv 0) pe_int (fun _ _ => rfl)) (pa_cons (pe_ix (r := rIxT K) ix_tup (pv 0) pe_int (fun _ _ => rfl)) (pa_cons (pe_op op_add (pe_op op_add (pv 4) (pe_gi (by rfl) T.MOST_TAPS)) pe_int) pa_nil))))))
      (pss_one (ps_ret (pe_callTy (r := rTupOf K) call_tuple_of (by rfl) T.tuple bt_tuple (pa_cons (pe_lc (own := [("at", 7)]) (wi := iRng1 _) (g := (gName 7)) (tt := tYes) (by rfl) sc_filtered.nd (pi_range1 (by rfl) T.range (pa_cons (pv 4) pa_nil)) (blkOk_by (own := [("at", 7)]) (N := N_filtered) (sc := (defScope s_filtered)) (by decide +kernel)) (fun _ _ _ _ _ => (pg_name (i := 7) sc_filtered.nd rfl (by first | exact Or.inl rfl | exact Or.inr rfl))) (fun _ _ _ _ _ => pts_nil) (fun _ _ _ _ _ => (pe_ix (r := rIxT K) ix_tup (pv 2) (C8.pe_c c_place_ofL hr (by decide) (by rfl) (pa_cons pe_int (pa_cons (pe_lc (own := [("place", 6)]) (wi := iTup K _) (g := (gName 6)) (tt := tYes) (by rfl) sc_filtered.nd (pi_tup (pv 3)) (blkOk_by (own := [("place", 6)]) (N := N_filtered) (by kernel_rfl)) (fun _ _ _ _ _ => (pg_name (i := 6) sc_filtered.nd rfl (by first | exact Or.inl rfl | exact Or.inr rfl))) (fun _ _ _ _ _ => pts_nil) (fun _ _ _ _ _ => (pe_ix (r := rIxT K) ix_tup (pv 5) (pe_op op_add (pv 7) (pv 6)) (fun _ _ => rfl)))) pa_nil))) (fun _ _ => rfl)))) pa_nil)))))))))), fun ds d hR vs Hb H Q eb hv k => ?_⟩
  obtain ⟨taps, start, tb, ps, n, count, rfl, hb, hs, hl, hz, h1, h2, hbt, hlt, hpl, hpw, hpr, hc, rfl⟩ := hR
  have en := En.start (N := N_filtered) hv
  refine st_drop eb (ed_call (ea_cons ed_int (ea_cons (ed_var en rfl) ea_nil)) ⟨taps, start, rfl, hb, hs, hl, hz, rfl⟩) fun Hr H1 f1 => ?_
  have en := en.fr f1
  refine st_drop f1.r (ed_call (ea_cons ed_int (ea_cons (ed_var en rfl) (ea_cons (ed_var en rfl) ea_nil))) ⟨n, tb, rfl, h1, h2, hbt, hlt, rfl⟩) fun Hs H2 f2 => ?_
  have en := en.fr f2
  refine st_guard f2.r (eb_or (a := !true) (b := !true) (eb_not (eb_B (ed_isi (ed_var en rfl) kit_tt))) fun _ => eb_not (eb_B (ed_is (ed_cb (ea_cons (ed_is (y := .list ((ps.map fun _ => true).map .bool)) (ed_lc0 (A := ps) (enc := fun p => .int p) (enc' := fun _ => .bool true) (ew_tup (ed_var en rfl)) (by omega) en (by decide)
    fun a ha σ' H1 e en => ed_call (ea_cons (ed_var en rfl) (ea_cons ed_int (ea_cons ed_int ea_nil))) ⟨a, 0, 60, rfl, ?_⟩) (by rw [List.map_map]; rfl)) ea_nil) br_all) ?_))) fun Ht H3 f3 => ?_
  · have := hpr a ha
    rw [decide_eq_true this.1, decide_eq_true this.2] <;> rfl
  · rw [all_true (by intro b hb; obtain ⟨_, _, rfl⟩ := List.mem_map.mp hb; rfl)]
  have en := en.fr f3
  refine st_guard f3.r (eb_or (a := false) (b := false) (eb_test (ed_is (ed_op (ed_cb (ea_cons (ed_var en rfl) ea_nil) br_lenT) (ed_var en rfl) or_ne) ?_)) fun _ => eb_test (ed_is (ed_op (ed_cb (ea_cons (ed_var en rfl) ea_nil) br_list) (ed_sortSetI (ns := ps) (ed_var en rfl) (by omega) hpw (fun _ => Iff.rfl)) (or_neD (shaped_Li ps) (shaped_Li ps))) ?_)) fun Hu H4 f4 => ?_
  · rw [List.length_map, hpl, decide_eq_true rfl] <;> rfl
  · rw [eqv_Li] <;> rfl
  have en := en.fr f4
  refine st_drop f4.r (ed_call (ea_cons (ed_var en rfl) (ea_cons ed_int (ea_cons ed_int ea_nil))) ⟨count, 0, 400, rfl, by omega, by omega, rfl⟩) fun Hw H5 f5 => ?_
  have en := en.fr f5
  refine st_set (d := Ti (runOf taps start (count + 61))) en f5.r (ed_call (ea_cons ed_int (ea_cons (ed_op (ed_var en rfl) ed_int (or_ixT (d := Ti taps) (by rfl))) (ea_cons (ed_op (ed_var en rfl) ed_int (or_ixT (d := Ti start) (by rfl))) (ea_cons (ed_op (ed_op (ed_var en rfl) ed_int or_add) ed_int or_add) ea_nil)))) ⟨taps, start, count + 61, ?_, hb, hs, hl, hz, by omega, rfl⟩) fun σ1 Hx H6 f6 en => ?_
  · rw [show ((count + 61 : Nat) : Int) = (count : Int) + 60 + 1 by omega]
  have hrl : (runOf taps start (count + 61)).length = count + 61 := runOf_len (by omega)
  have hrb : Bits (runOf taps start (count + 61)) := runOf_bits hs
  refine st_ret f6.r (ed_cb (ea_cons (ed_is (y := Li (filt (runOf taps start (count + 61)) tb ps count)) (ed_lc0 (A := List.range count) (enc := fun i : Nat => .int i) (enc' := fun i : Nat => .int (tb.getD (place (ps.map fun p => (runOf taps start (count + 61)).getD (i + p.toNat) 0)).toNat 0)) (ew_rng1 (n := (count : Int)) (ea_cons (ed_var en rfl) ea_nil) (by omega)) (by simp; omega) en (by decide)
    fun i hi σ2 H7 e en => ed_op (ed_var en rfl) (ed_call (R := RplaceL) (ea_cons ed_int (ea_cons (ed_is (y := Li (ps.map fun p => (runOf taps start (count + 61)).getD (i + p.toNat) 0)) (ed_lc0 (A := ps) (enc := fun p => .int p) (enc' := fun p => .int ((runOf taps start (count + 61)).getD (i + p.toNat) 0)) (ew_tup (ed_var en rfl)) (by omega) en (by decide)
      fun p hp σ3 H8 e en => ed_op (ed_var en rfl) (ed_op (ed_var en rfl) (ed_var en rfl) or_add) (or_ixT ?_)) (Li_map _ _)) ea_nil)) ⟨_, rfl, rfl⟩) (or_ixT (at_int ?_ ?_))) (Li_map _ _)) ea_nil) br_tuple) fun v Hy H7 f7 hd => k v Hy H7 ((((((f1.trans f2).trans f3).trans f4).trans f5).trans f6).trans f7) hd
  · have hi' := List.mem_range.mp hi
    have := hpr p hp
    rw [at_int (by omega) (by omega)]
    congr 3
    omega
  · exact (place_lt _ (by intro x hx; obtain ⟨p, _, rfl⟩ := List.mem_map.mp hx; exact bits_getD hrb _)).1
  · have := (place_lt (ps.map fun p => (runOf taps start (count + 61)).getD (i + p.toNat) 0) (by intro x hx; obtain ⟨p, _, rfl⟩ := List.mem_map.mp hx; exact bits_getD hrb _)).2
    rw [List.length_map, hpl] at this
    rw [hlt, Int.natCast_pow]
    exact this
/-! ### _law_every -/
-- _law_every: cells ['_law_told']; slots 0 _law_prime, 1 _law_size, 2 _law_found, 3 _law_turn, 4 _law_longer, 5 _law_told, 6 _law_number
abbrev s_law_every : Stmt := topS 52
abbrev N_law_every : List PySem.Str := ["_law_prime", "_law_size", "_law_found", "_law_turn", "_law_longer", "_law_told", "_law_number"]
abbrev P_law_every : List PySem.Str := ["_law_prime", "_law_size"]
theorem sc_law_every : FnScope N_law_every P_law_every (defScope s_law_every) := fscope_by (by decide +kernel)
def RlawEvery (ds : List PyData) (d : PyData) : Prop := ∃ n : Nat, ds = [.int 2, .int n] ∧ n ≤ 9 ∧ d = .list ((states n).map Ti)
theorem ok_law_every (T : Txt K mg) (F : Df K mg "_law_every" s_law_every P_law_every)  : CalD P w K mg base 1 "_law_every" RlawEvery := by
  refine calD F sc_law_every (fun ds d h => by obtain ⟨_, rfl, _⟩ := h; rfl) fun f cdv A outer s H E hr => ⟨_,
    (pss_cons (ps_set (i := 2) sc_law_every.nd rfl (by first | exact Or.inl rfl | exact Or.inr rfl) (pe_lst (pa_cons (pe_tup pa_nil) pa_nil)))
      (pss_cons (ps_for PassesOwn.never rfl (pi_range1 (by rfl) T.range (pa_cons (pv 1) pa_nil)) (pg_name (i := 3) sc_law_every.nd rfl (by first | exact Or.inl rfl | exact Or.inr rfl)) (pss_cons (ps_set (i := 4) sc_law_every.nd rfl (by first | exact Or.inl rfl | exact Or.inr rfl) (pe_lst pa_nil))
      (pss_cons (ps_for PassesOwn.never rfl (pi_list (pv 2)) (pg_name (i := 5) sc_law_every.nd rfl (by first | exact Or.inl rfl | exact Or.inr rfl)) (pss_one (ps_set (i := 4) sc_law_every.nd rfl (by first | exact Or.inl rfl | exact Or.inr rfl) (pe_op op_cat (pv 4) (pe_lc (own := [("_law_number", 6)]) (wi := iRng1 _) (g := (gName 6)) (tt := tYes) (by rfl) sc_law_every.nd (pi_range1 (by rfl) T.range (pa_cons (pv 0) pa_nil)) (blkOk_by (own := [("_law_number", 6)]) (N := N_law_every) (sc := (defScope s_law_every)) (by decide +kernel)) (fun _ _ _ _ _ => (pg_name (i := 6) sc_law_every.nd rfl (by first | exact Or.inl rfl | exact Or.inr rfl))) (fun _ _ _ _ _ => pts_nil) (fun _ _ _ _ _ => (pe_op (r := rCatA K) op_catA (pv 5) (pe_tup (pa_cons (pv 6) pa_nil)))))))))
      (pss_one (ps_set (i := 2) sc_law_every.nd rfl (by first | exact Or.inl rfl | exact Or.inr rfl) (pv 4))))))
      (pss_one (ps_ret (pv 2))))), fun ds d hR vs Hb H Q eb hv k => ?_⟩
  obtain ⟨n, rfl, hn, rfl⟩ := hR
  have en := En.start (N := N_law_every) hv
  refine st_set en eb (ed_lst (ea_cons (ed_tup ea_nil (by decide)) ea_nil) (by decide)) fun σ1 Hr H1 f1 en1 => ?_
  refine st_forE (ew_rng1 (n := n) (ea_cons (ed_var en1 rfl) ea_nil) (by omega)) f1.r en1
    (fun i ρ' => ∃ t l u, ρ' = [some (.int 2), some (.int n), some (.list ((states i).map Ti)), t, l, u, none]) ⟨_, _, _, rfl⟩ (fun i d ρ' σ' Hc H' D' hd hp en2 e k2 => ?_) (fun ρ' σ' Hc H' hp en2 f2 => ?_)
  · obtain ⟨t, l, u, rfl⟩ := hp
    have hi : i < n := by
      have := (List.getElem?_eq_some_iff.mp hd).1
      rw [List.length_map, List.length_range] at this
      omega
    have hp : (2 ^ i : Nat) ≤ 2 ^ 9 := Nat.pow_le_pow_right (by decide) (by omega)
    have hl := states_len i
    refine st_set en2 e (ed_lst ea_nil (by decide)) fun σ3 Hd H3 f3 en3 => ?_
    refine st_forE (ew_list (ed_var en3 rfl)) f3.r en3
      (fun j ρ' => ∃ u, ρ' = [some (.int 2), some (.int n), some (.list ((states i).map Ti)), some d, some (.list ((((states i).take j).flatMap fun s => [s ++ [0], s ++ [1]]).map Ti)), u, none]) ⟨_, rfl⟩ (fun j d2 ρ2 σ4 Hc4 H4 D4 hd4 hp4 en4 e4 k4 => ?_) (fun ρ2 σ4 Hc4 H4 hp4 en4 f4 => ?_)
    · obtain ⟨u, rfl⟩ := hp4
      rw [List.getElem?_map] at hd4
      obtain ⟨s, hs, rfl⟩ := Option.map_eq_some_iff.mp hd4
      have hsm : s ∈ states i := List.mem_of_getElem? hs
      have ek : (states i).take (j + 1) = (states i).take j ++ [s] := by rw [List.take_add_one, hs] <;> rfl
      have hfl : ((states i).take j).length ≤ 512 := by rw [List.length_take]; omega
      have hfm : ∀ L : List (List Int), (L.flatMap fun s => [s ++ [0], s ++ [1]]).length = 2 * L.length := by
        intro L
        induction L with
        | nil => rfl
        | cons a r ih => rw [List.flatMap_cons, List.length_append, ih]; simp; omega
      refine st_set1 (d := .list ((((states i).take (j + 1)).flatMap fun s => [s ++ [0], s ++ [1]]).map Ti)) en4 e4 (ed_is (ed_op (ed_var en4 rfl) (ed_lc0 (A := [0, 1]) (enc := fun b : Int => .int b) (enc' := fun b => Ti (s ++ [b])) (ew_rng1 (n := 2) (ea_cons (ed_var en4 rfl) ea_nil) (by omega)) (by decide) en4 (by decide)
        fun b hb σ5 H5 e5 en5 => ed_is (ed_op (ed_var en5 rfl) (ed_tup (ea_cons (ed_var en5 rfl) ea_nil) (by show 1 ≤ 100000; decide)) (or_catA ?_)) ?_) (or_cat ?_)) ?_) fun σ5 Hd5 H5 f5 en5 => k4 σ5 Hd5 H5 _ f5 en5 ⟨some (Ti s), rfl⟩
      · rw [List.length_map, states_in i s hsm]
        show i + 1 ≤ _
        omega
      · show PyData.tuple (s.map .int ++ [.int b]) = Ti (s ++ [b])
        unfold Ti
        rw [List.map_append] <;> rfl
      · rw [List.length_map, hfm]
        show 2 * _ + 2 ≤ _
        omega
      · rw [ek, List.flatMap_append, List.map_append] <;> rfl
    · obtain ⟨u, rfl⟩ := hp4
      rw [List.length_map, List.take_length] at en4
      exact st_set1 en4 f4.r (ed_var en4 rfl) fun σ5 Hd5 H5 f5 en5 => k2 σ5 Hd5 H5 _ ((f3.trans f4).trans f5) en5 ⟨some d, _, u, rfl⟩
  · obtain ⟨t, l, u, rfl⟩ := hp
    rw [List.length_map, List.length_range] at en2
    exact st_ret f2.r (ed_var en2 rfl) fun v Ht H3 f3 hd => k v Ht H3 ((f1.trans f2).trans f3) hd
/-! ### _law_run -/
-- _law_run: cells ['_law_at', '_law_found', '_law_taps_here']; slots 0 _law_prime, 1 _law_taps_here, 2 _law_start, 3 _law_count, 4 _law_found, 5 _law_at, 6 _law_k
abbrev s_law_run : Stmt := topS 54
abbrev N_law_run : List PySem.Str := ["_law_prime", "_law_taps_here", "_law_start", "_law_count", "_law_found", "_law_at", "_law_k"]
abbrev P_law_run : List PySem.Str := ["_law_prime", "_law_taps_here", "_law_start", "_law_count"]
theorem sc_law_run : FnScope N_law_run P_law_run (defScope s_law_run) := fscope_by (by decide +kernel)
def RlawRun (ds : List PyData) (d : PyData) : Prop := ∃ (taps start : List Int) (count : Nat), ds = [.int 2, Ti taps, Ti start, .int count] ∧ Bits taps ∧ Bits start ∧ start.length = taps.length ∧ start.length ≤ 60 ∧ start.length ≤ count ∧ count ≤ 1000 ∧ d = Ti (runOf taps start count)
theorem ok_law_run (T : Txt K mg) (F : Df K mg "_law_run" s_law_run P_law_run)  : CalD P w K mg base 1 "_law_run" RlawRun := by
  refine calD F sc_law_run (fun ds d h => by obtain ⟨_, _, _, rfl, _⟩ := h; rfl) fun f cdv A outer s H E hr => ⟨_,
    (pss_cons (ps_set (i := 4) sc_law_run.nd rfl (by first | exact Or.inl rfl | exact Or.inr rfl) (pe_callTy (r := rListOf K) call_list_of (by rfl) T.list bt_list (pa_cons (pv 2) pa_nil)))
      (pss_cons (ps_for PassesOwn.never rfl (pi_range2 (by rfl) T.range (pa_cons (pe_callB (r := rLenQ K) call_len_seq (by rfl) T.len bt_len (pa_cons (pv 1) pa_nil)) (pa_cons (pv 3) pa_nil))) (pg_name (i := 5) sc_law_run.nd rfl (by first | exact Or.inl rfl | exact Or.inr rfl)) (pss_one (ps_expr (pe_bm PySem.F.plainAttrs_list PySem.F.slot_list_append PySem.F.type_list_append mt_append (pv 4) (pa_cons (pe_op op_mod (pe_callTy call_int1 (by rfl) T.int bt_int (pa_cons (pe_callB (r := rSum K) (cr_sum rfl) (by rfl) T.sum bt_sum (pa_cons (pe_lc (own := [("_law_k", 6)]) (wi := iRng1 _) (g := (gName 6)) (tt := tYes) (by rfl) sc_law_run.nd (pi_range1 (by rfl) T.range (pa_cons (pe_callB (r := rLenQ K) call_len_seq (by rfl) T.len bt_len (pa_cons (pv 1) pa_nil)) pa_nil)) (blkOk_by (own := [("_law_k", 6)]) (N := N_law_run) (sc := (defScope s_law_run)) (by decide +kernel)) (fun _ _ _ _ _ => (pg_name (i := 6) sc_law_run.nd rfl (by first | exact Or.inl rfl | exact Or.inr rfl))) (fun _ _ _ _ _ => pts_nil) (fun _ _ _ _ _ => (pe_op op_mul (pe_ix (r := rIxT K) ix_tup (pv 1) (pv 6) (fun _ _ => rfl)) (pe_ix (r := rIxL K) ix_list (pv 4) (pe_op op_sub (pe_op op_sub (pv 5) pe_int) (pv 6)) (fun _ _ => rfl))))) pa_nil)) pa_nil)) (pv 0)) pa_nil)))))
      (pss_one (ps_ret (pe_callTy (r := rTupOf K) call_tuple_of (by rfl) T.tuple bt_tuple (pa_cons (pe_slice sl_list (pv 4) po_none (po_some (pv 3))) pa_nil)))))), fun ds d hR vs Hb H Q eb hv k => ?_⟩
  obtain ⟨taps, start, count, rfl, hb, hs, hl, hz, hc0, hc, rfl⟩ := hR
  have en := En.start (N := N_law_run) hv
  -- found = list(start)
  obtain ⟨v2, g2, d2⟩ := en.at_ 2 _ rfl
  obtain ⟨a2, xs, rfl, e1, e2⟩ := d2.tup_eq
  obtain rfl := e2.ints
  refine ⟨_, g2, a2, _, rfl, .inr (.inl (.inl (eb _ _ e1))), fun l nl => ?_⟩
  have nb : Hb l = none := fresh_back eb nl
  have en' : En ((L2.start N_law_run vs).set 4 (some (.ref l))) Hb [some (.int 2), some (Ti taps), some (Ti start), some (.int count), none, none, none] := en.setN (i := 4)
  refine st_for (ew_rng2 (lo := (taps.length : Int)) (n := (count : Int)) (ea_cons (ed_is (ed_cb (ea_cons (ed_var en' rfl) ea_nil) br_lenT) (by rw [List.length_map])) (ea_cons (ed_var en' rfl) ea_nil)) (by omega) (by omega)) (eb.trans (Ex.new nl))
    (fun He i σ' H' => ∃ t, En σ' Hb [some (.int 2), some (Ti taps), some (Ti start), some (.int count), none, t, none] ∧ σ'[4]? = some (some (.ref l)) ∧ Ex H H' ∧ Ex He H' ∧ He l = none ∧ H' l = some (.lst ((growR taps i start).map V.int)))
    (fun Hr H' f => ⟨none, en', ?_, (Ex.new nl).trans f.h, f.r, (f.mut nb upd_same).1, f.h _ _ upd_same⟩) (fun Hr i σ' H' ⟨t, z⟩ => z.2.2.2.1) (fun Hr i v d σ' H' eu hd hv ⟨t, en2, s4, eh, er, el, hl'⟩ => ?_) (fun Hr σ' H' eu ⟨t, en2, s4, eh, er, el, hl'⟩ => ?_)
  · rw [List.getElem?_set_self]
    show 4 < (L2.start N_law_run vs).length
    rw [en.len]
    show 4 < 4 + 3
    decide
  · have hi : i < count - taps.length := by
      have := (List.getElem?_eq_some_iff.mp hd).1
      rw [List.length_map, List.length_range] at this
      omega
    rw [List.getElem?_map, List.getElem?_range (by omega)] at hd
    obtain rfl := (Option.some.inj hd).symm
    obtain rfl := hv.int_eq
    have hrow : (growR taps i start).length = start.length + i := growR_len taps i start
    have ebl : Ex (upd Hb l (.lst ((growR taps i start).map V.int))) H' := (Fr.freeze (Fr.of (eb.trans eh) eh) nl nb hl').r
    have s4' : (σ'.set 5 (some (.int ((taps.length : Int) + i))))[4]? = some (some (.ref l)) := by rw [List.getElem?_set_ne (by decide)]; exact s4
    have en3 : En (σ'.set 5 (some (.int ((taps.length : Int) + i)))) Hb [some (.int 2), some (Ti taps), some (Ti start), some (.int count), none, some (.int ((taps.length : Int) + i)), none] := en2.set (i := 5) (.int _)
    have enl : En (σ'.set 5 (some (.int ((taps.length : Int) + i)))) (upd Hb l (.lst ((growR taps i start).map V.int))) [some (.int 2), some (Ti taps), some (Ti start), some (.int count), some (Li (growR taps i start)), some (.int ((taps.length : Int) + i)), none] := (en3.mono (Ex.new nb)).put (i := 4) s4' (.lst upd_same (DtA.ofInts _))
    refine ⟨.ref l, s4', .inl ⟨rfl, _, .inl (.inl hl')⟩, ?_⟩
    refine (ed_op (ed_cb (ea_cons (ed_cb (ea_cons (ed_is (y := Li ((List.range taps.length).map fun k => taps.getD k 0 * (growR taps i start).getD ((growR taps i start).length - 1 - k) 0)) (ed_lc0 (A := List.range taps.length) (enc := fun k : Nat => .int k) (enc' := fun k : Nat => .int (taps.getD k 0 * (growR taps i start).getD ((growR taps i start).length - 1 - k) 0)) (ew_rng1 (n := (taps.length : Int)) (ea_cons (ed_is (ed_cb (ea_cons (ed_var enl rfl) ea_nil) br_lenT) (by rw [List.length_map])) ea_nil) (by omega)) (by simp; omega) enl (by decide)
      fun k hk σ5 H5 e5 en5 => ed_op (ed_op (ed_var en5 rfl) (ed_var en5 rfl) (or_ixT (d := .int (taps.getD k 0)) ?_)) (ed_op (ed_var en5 rfl) (ed_op (ed_op (ed_var en5 rfl) ed_int or_sub) (ed_var en5 rfl) or_sub) (or_ixL (d := .int ((growR taps i start).getD ((growR taps i start).length - 1 - k) 0)) ?_)) (or_mul ?_)) (Li_map _ _)) ea_nil) br_sum) ea_nil) br_int) (ed_var enl rfl) (or_mod (by decide))) H' ebl _ fun v Hs H2 g hd => ?_
    · have := List.mem_range.mp hk
      rw [at_int (by omega) (by omega)] <;> rfl
    · have := List.mem_range.mp hk
      rw [at_int (by omega) (by omega)]
      congr 3
      omega
    · have := bits_getD hb k
      unfold CMul
      omega
    obtain rfl := hd.int_eq
    refine ⟨l, _, _, rfl, rfl, g.h _ _ hl', sz_lt (by rw [List.length_map]; omega), ?_⟩
    refine ⟨_, en3, s4', (eh.trans g.h).mut nl, (er.trans g.h).mut el, el, ?_⟩
    · rw [upd_same, growR_next, List.map_append] <;> rfl
  · rw [List.length_map, List.length_range, show ((count : Int) - (taps.length : Int)).toNat = count - start.length by omega] at hl'
    have ebl : Ex (upd Hb l (.lst ((growR taps (count - start.length) start).map V.int))) H' := (Fr.freeze (Fr.of (eb.trans eh) eh) nl nb hl').r
    have enl : En σ' (upd Hb l (.lst ((growR taps (count - start.length) start).map V.int))) [some (.int 2), some (Ti taps), some (Ti start), some (.int count), some (Li (growR taps (count - start.length) start)), t, none] := (en2.mono (Ex.new nb)).put (i := 4) s4 (.lst upd_same (DtA.ofInts _))
    refine st_ret ebl (ed_cb (ea_cons (ed_is (y := Li (runOf taps start count)) (ed_sl (ed_var enl rfl) eo_none (eo_some (ed_var enl rfl))) ?_) ea_nil) br_tuple) fun v Ht H2 g hd => k v Ht H2 ((Fr.freeze (Fr.of (eb.trans eh) eh) nl nb hl').trans g) hd
    rw [cut_to] <;> rfl
/-! ### _law_place -/
-- _law_place: cells []; slots 0 _law_prime, 1 _law_state, 2 _law_found, 3 _law_number
abbrev s_law_place : Stmt := topS 55
abbrev N_law_place : List PySem.Str := ["_law_prime", "_law_state", "_law_found", "_law_number"]
abbrev P_law_place : List PySem.Str := ["_law_prime", "_law_state"]
theorem sc_law_place : FnScope N_law_place P_law_place (defScope s_law_place) := fscope_by (by decide +kernel)
def RlawPlace (ds : List PyData) (d : PyData) : Prop := ∃ ns : List Int, ds = [.int 2, Li ns] ∧ d = .int (place ns)
theorem ok_law_place (T : Txt K mg) (F : Df K mg "_law_place" s_law_place P_law_place)  : CalD P w K mg base 1 "_law_place" RlawPlace := by
  refine calD F sc_law_place (fun ds d h => by obtain ⟨_, rfl, _⟩ := h; rfl) fun f cdv A outer s H E hr => ⟨_,
    (pss_cons (ps_set (i := 2) sc_law_place.nd rfl (by first | exact Or.inl rfl | exact Or.inr rfl) pe_int)
      (pss_cons (ps_for PassesOwn.never rfl (pi_list (pv 1)) (pg_name (i := 3) sc_law_place.nd rfl (by first | exact Or.inl rfl | exact Or.inr rfl)) (pss_one (ps_set (i := 2) sc_law_place.nd rfl (by first | exact Or.inl rfl | exact Or.inr rfl) (pe_op op_add (pe_op op_mul (pv 2) (pv 0)) (pv 3)))))
      (pss_one (ps_ret (pv 2))))), fun ds d hR vs Hb H Q eb hv k => ?_⟩
  obtain ⟨ns, rfl, rfl⟩ := hR
  have en := En.start (N := N_law_place) hv
  refine st_set en eb ed_int fun σ1 Hr H1 f1 en1 => ?_
  refine st_forE (ew_list (ed_var en1 rfl)) f1.r en1
    (fun i ρ' => ∃ t, ρ' = [some (.int 2), some (Li ns), some (.int (place (ns.take i))), t]) ⟨_, rfl⟩ (fun i d ρ' σ' Hc H' D' hd hp en2 e k2 => ?_) (fun ρ' σ' Hc H' hp en2 f2 => ?_)
  · obtain ⟨t, rfl⟩ := hp
    rw [List.getElem?_map] at hd
    obtain ⟨x, hx, rfl⟩ := Option.map_eq_some_iff.mp hd
    refine st_set1 en2 e (ed_op (ed_op (ed_var en2 rfl) (ed_var en2 rfl) (or_mul (by unfold CMul; omega))) (ed_var en2 rfl) or_add) fun σ3 Hd H3 f3 en3 => k2 σ3 Hd H3 _ f3 en3 ⟨some (.int x), ?_⟩
    rw [place_next hx] <;> rfl
  · obtain ⟨t, rfl⟩ := hp
    rw [List.length_map, List.take_length] at en2
    exact st_ret f2.r (ed_var en2 rfl) fun v Ht H3 f3 hd => k v Ht H3 ((f1.trans f2).trans f3) hd
/-! ### _law_choose -/
-- _law_choose: cells []; slots 0 _law_top, 1 _law_size, 2 _law_found, 3 _law_at
abbrev s_law_choose : Stmt := topS 57
abbrev N_law_choose : List PySem.Str := ["_law_top", "_law_size", "_law_found", "_law_at"]
abbrev P_law_choose : List PySem.Str := ["_law_top", "_law_size"]
theorem sc_law_choose : FnScope N_law_choose P_law_choose (defScope s_law_choose) := fscope_by (by decide +kernel)
def RlawChoose (ds : List PyData) (d : PyData) : Prop := ∃ l k : Nat, ds = [.int l, .int k] ∧ l ≤ 60 ∧ k ≤ 9 ∧ d = .int (lchoose l k)
theorem ok_law_choose (T : Txt K mg) (F : Df K mg "_law_choose" s_law_choose P_law_choose)  : CalD P w K mg base 1 "_law_choose" RlawChoose := by
  refine calD F sc_law_choose (fun ds d h => by obtain ⟨_, _, rfl, _⟩ := h; rfl) fun f cdv A outer s H E hr => ⟨_,
    (pss_cons (ps_set (i := 2) sc_law_choose.nd rfl (by first | exact Or.inl rfl | exact Or.inr rfl) pe_int)
      (pss_cons (ps_for PassesOwn.never rfl (pi_range1 (by rfl) T.range (pa_cons (pv 1) pa_nil)) (pg_name (i := 3) sc_law_choose.nd rfl (by first | exact Or.inl rfl | exact Or.inr rfl)) (pss_one (ps_set (i := 2) sc_law_choose.nd rfl (by first | exact Or.inl rfl | exact Or.inr rfl) (pe_op op_fdiv (pe_op op_mul (pv 2) (pe_op op_sub (pv 0) (pv 3))) (pe_op op_add (pv 3) pe_int)))))
      (pss_one (ps_ret (pe_ifExp (pt_cmpR op_le (pv 1) (pv 0) (nomark _)) (pv 2) pe_int))))), fun ds d hR vs Hb H Q eb hv k => ?_⟩
  obtain ⟨l, m, rfl, h1, h2, rfl⟩ := hR
  have en := En.start (N := N_law_choose) hv
  refine st_set en eb ed_int fun σ1 Hr H1 f1 en1 => ?_
  refine st_forE (ew_rng1 (n := m) (ea_cons (ed_var en1 rfl) ea_nil) (by omega)) f1.r en1
    (fun i ρ' => ∃ t, ρ' = [some (.int l), some (.int m), some (.int ((List.range i).foldl (fun (f : Int) (i : Nat) => f * ((l : Int) - i) / ((i : Int) + 1)) 1)), t]) ⟨_, rfl⟩ (fun i d ρ' σ' Hc H' D' hd hp en2 e k2 => ?_) (fun ρ' σ' Hc H' hp en2 f2 => ?_)
  · obtain ⟨t, rfl⟩ := hp
    have hi : i < m := by
      have := (List.getElem?_eq_some_iff.mp hd).1
      rw [List.length_map, List.length_range] at this
      omega
    rw [List.getElem?_map, List.getElem?_range (by omega)] at hd
    obtain rfl := (Option.some.inj hd).symm
    refine st_set1 en2 e (ed_op (ed_op (ed_var en2 rfl) (ed_op (ed_var en2 rfl) (ed_var en2 rfl) or_sub) (or_mul (by unfold CMul; omega))) (ed_op (ed_var en2 rfl) ed_int or_add) (or_fdiv (by unfold CDiv; omega))) fun σ3 Hd H3 f3 en3 => k2 σ3 Hd H3 _ f3 en3 ⟨some (.int i), ?_⟩
    rw [lfold_next] <;> rfl
  · obtain ⟨t, rfl⟩ := hp
    rw [List.length_map, show (List.range (m : Int).toNat).length = m by rw [List.length_range]; omega] at en2
    refine st_ret f2.r (ed_is (y := .int (lchoose l m)) (ed_if (b := decide (m ≤ l)) (eb_test (ed_is (ed_op (ed_var en2 rfl) (ed_var en2 rfl) or_le) (by congr 1; exact decide_eq_decide.mpr (by omega)))) (fun hb => ed_is (ed_var en2 rfl) ?_) (fun hb => ed_is ed_int ?_)) rfl) fun v Ht H3 f3 hd => k v Ht H3 ((f1.trans f2).trans f3) hd
    · unfold lchoose
      rw [if_pos (of_decide_eq_true hb)]
    · unfold lchoose
      rw [if_neg (of_decide_eq_false hb)]
/-! ### _law_alike -/
-- _law_alike: cells ['_law_due', '_law_found']; slots 0 _law_found, 1 _law_due, 2 _law_k
abbrev s_law_alike : Stmt := topS 56
abbrev N_law_alike : List PySem.Str := ["_law_found", "_law_due", "_law_k"]
abbrev P_law_alike : List PySem.Str := ["_law_found", "_law_due"]
theorem sc_law_alike : FnScope N_law_alike P_law_alike (defScope s_law_alike) := fscope_by (by decide +kernel)
def RlawAlikeI (ds : List PyData) (d : PyData) : Prop := ∃ i : Int, ds = [.int i, .int i] ∧ d = .bool true
def RlawAlikeT (ds : List PyData) (d : PyData) : Prop := ∃ ns : List Int, ns.length ≤ 1000 ∧ ds = [Ti ns, Ti ns] ∧ d = .bool true
theorem ok_law_alikeI (T : Txt K mg) (F : Df K mg "_law_alike" s_law_alike P_law_alike)  : CalD P w K mg base 1 "_law_alike" RlawAlikeI := by
  refine calD F sc_law_alike (fun ds d h => by obtain ⟨_, rfl, _⟩ := h; rfl) fun f cdv A outer s H E hr => ⟨_,
    (pss_cons (ps_if (pt_val (pe_callB (r := rIsiT K) call_isiT (by rfl) T.isinstance bt_isinstance (pa_cons (pv 1) (pa_cons (pe_tup (pa_cons (pe_ty (by rfl) T.tuple bt_tuple) (pa_cons (pe_ty (by rfl) T.list bt_list) pa_nil))) pa_nil)))) pss_never pss_nil)
      (pss_cons (ps_if (PW.pt (pw_or (pt_cmpR op_isN (pv 1) pe_non (nomark _)) (pw_or1 (pt_val (pe_callB (r := rIsi K) call_isi (by rfl) T.isinstance bt_isinstance (pa_cons (pv 1) (pa_cons (pe_ty (by rfl) T.str bt_str) pa_nil))))))) (pss_one (ps_ret (pe_and (pe_cmpR op_eq (pv 0) (pv 1) (nomark _)) (pe_one (pe_cmpR op_eq (pe_callB (r := rIsi K) call_isi (by rfl) T.isinstance bt_isinstance (pa_cons (pv 0) (pa_cons (pe_ty (by rfl) T.str bt_str) pa_nil))) (pe_callB (r := rIsi K) call_isi (by rfl) T.isinstance bt_isinstance (pa_cons (pv 1) (pa_cons (pe_ty (by rfl) T.str bt_str) pa_nil))) (nomark _)))))) pss_nil)
      (pss_one (ps_ret (pe_and (pe_callB (r := rIsi K) call_isi (by rfl) T.isinstance bt_isinstance (pa_cons (pv 0) (pa_cons (pe_ty (by rfl) T.int bt_int) pa_nil))) (pe_and (pe_cmpR op_eq (pe_callB (r := rIsi K) call_isi (by rfl) T.isinstance bt_isinstance (pa_cons (pv 0) (pa_cons (pe_ty (by rfl) T.bool bt_bool) pa_nil))) (pe_callB (r := rIsi K) call_isi (by rfl) T.isinstance bt_isinstance (pa_cons (pv 1) (pa_cons (pe_ty (by rfl) T.bool bt_bool) pa_nil))) (nomark _)) (pe_one (pe_cmpR op_eq (pv 0) (pv 1) (nomark _))))))))), fun ds d hR vs Hb H Q eb hv k => ?_⟩
  obtain ⟨i, rfl, rfl⟩ := hR
  have en := En.start (N := N_law_alike) hv
  refine st_if eb (eb_B (ed_isiT (ed_var en rfl) kit_it kit_il)) (fun h => nomatch h) fun _ Hr H1 f1 => ?_
  have en := en.fr f1
  refine st_guard f1.r (eb_or (a := false) (b := false) (eb_test (ed_op (ed_var en rfl) ed_non or_isN)) fun _ => eb_B (ed_isi (d := .int i) (n := "str") (ed_var en rfl) kit_is)) fun Hs H2 f2 => ?_
  have en := en.fr f2
  refine st_ret f2.r (ed_is (ed_andV (a := true) (b := true) (ed_isi (ed_var en rfl) kit_ii) fun _ => ed_is (ed_andV (a := true) (b := true) (ed_is (ed_op (ed_isi (ed_var en rfl) kit_ib) (ed_isi (ed_var en rfl) kit_ib) or_eqB) rfl) fun _ => ed_is (ed_op (ed_var en rfl) (ed_var en rfl) or_eq) (by rw [decide_eq_true rfl])) rfl) rfl) fun v Ht H3 f3 hd => k v Ht H3 ((f1.trans f2).trans f3) hd
theorem ok_law_alikeT (T : Txt K mg) (F : Df K mg "_law_alike" s_law_alike P_law_alike) (c_law_alikeI : CalD P w K mg base 1 "_law_alike" RlawAlikeI) : CalD P w K mg base 2 "_law_alike" RlawAlikeT := by
  refine calD F sc_law_alike (fun ds d h => by obtain ⟨_, _, rfl, _⟩ := h; rfl) fun f cdv A outer s H E hr => ⟨_,
    (pss_cons (ps_if (pt_val (pe_callB (r := rIsiT K) call_isiT (by rfl) T.isinstance bt_isinstance (pa_cons (pv 1) (pa_cons (pe_tup (pa_cons (pe_ty (by rfl) T.tuple bt_tuple) (pa_cons (pe_ty (by rfl) T.list bt_list) pa_nil))) pa_nil)))) (pss_cons (ps_if (PW.pt (pw_or (pt_not (pt_val (pe_callB (r := rIsiT K) call_isiT (by rfl) T.isinstance bt_isinstance (pa_cons (pv 0) (pa_cons (pe_tup (pa_cons (pe_ty (by rfl) T.tuple bt_tuple) (pa_cons (pe_ty (by rfl) T.list bt_list) pa_nil))) pa_nil))))) (pw_or1 (pt_cmpR op_ne (pe_callB (r := rIsi K) call_isi (by rfl) T.isinstance bt_isinstance (pa_cons (pv 0) (pa_cons (pe_ty (by rfl) T.list bt_list) pa_nil))) (pe_callB (r := rIsi K) call_isi (by rfl) T.isinstance bt_isinstance (pa_cons (pv 1) (pa_cons (pe_ty (by rfl) T.list bt_list) pa_nil))) (nomark _))))) (pss_one (ps_ret pe_bl)) pss_nil)
      (pss_cons (ps_if (pt_cmpR op_ne (pe_callB (r := rLenQ K) call_len_seq (by rfl) T.len bt_len (pa_cons (pv 0) pa_nil)) (pe_callB (r := rLenQ K) call_len_seq (by rfl) T.len bt_len (pa_cons (pv 1) pa_nil)) (nomark _)) (pss_one (ps_ret pe_bl)) pss_nil)
      (pss_one (ps_ret (pe_cmpR (r := rEqD K) (op_eqD hr.units) (pe_lc (own := [("_law_k", 2)]) (wi := iRng1 _) (g := (gName 2))  (by rfl) sc_law_alike.nd (pi_range1 (by rfl) T.range (pa_cons (pe_callB (r := rLenQ K) call_len_seq (by rfl) T.len bt_len (pa_cons (pv 1) pa_nil)) pa_nil)) (blkOk_by (own := [("_law_k", 2)]) (N := N_law_alike) (sc := (defScope s_law_alike)) (by decide +kernel)) (fun _ _ _ _ _ => (pg_name (i := 2) sc_law_alike.nd rfl (by first | exact Or.inl rfl | exact Or.inr rfl))) (fun _ _ _ _ _ => pts_one (pt_not (pt_val (C8.pe_c c_law_alikeI hr (by decide) (by rfl) (pa_cons (pe_ix (r := rIx K) ix_seq (pv 0) (pv 2) (fun _ _ => rfl)) (pa_cons (pe_ix (r := rIx K) ix_seq (pv 1) (pv 2) (fun _ _ => rfl)) pa_nil)))))) (fun _ _ _ _ _ => (pv 2))) (pe_lst pa_nil) (nomark _)))))) pss_nil) pss_never), fun ds d hR vs Hb H Q eb hv k => ?_⟩
  obtain ⟨ns, hz, rfl, rfl⟩ := hR
  have en := En.start (N := N_law_alike) hv
  refine st_if eb (eb_B (ed_isiT (ed_var en rfl) kit_tt kit_tl)) (fun _ Hr H1 f1 => ?_) (fun h => nomatch h)
  have en := en.fr f1
  refine st_guard f1.r (eb_or (a := !true) (b := false) (eb_not (eb_B (ed_isiT (d := Ti ns) (n := "tuple") (m := "list") (ed_var en rfl) kit_tt kit_tl))) fun _ => eb_test (ed_is (ed_op (ed_isi (ed_var en rfl) kit_tl) (ed_isi (ed_var en rfl) kit_tl) or_neB) rfl)) fun Hs H2 f2 => ?_
  have en := en.fr f2
  refine st_guard f2.r (eb_test (ed_is (ed_op (ed_cb (ea_cons (ed_var en rfl) ea_nil) br_lenT) (ed_cb (ea_cons (ed_var en rfl) ea_nil) br_lenT) or_ne) ?_)) fun Ht H3 f3 => ?_
  · rw [decide_eq_true rfl] <;> rfl
  have en := en.fr f3
  refine st_ret f3.r (ed_is (ed_op (ed_is (y := Li []) (ed_lc (A := List.range ns.length) (enc := fun i : Nat => .int i) (enc' := fun i : Nat => .int i) (p := fun _ => !true) (ew_rng1 (n := (ns.length : Int)) (ea_cons (ed_is (ed_cb (ea_cons (ed_var en rfl) ea_nil) br_lenT) (by rw [List.length_map])) ea_nil) (by omega)) (by simp; omega) en (by decide)
    (fun i hi σ' H4 e en => eb_not (eb_B (ed_call (R := RlawAlikeI) (ea_cons (ed_op (ed_var en rfl) (ed_var en rfl) (or_ixA (at_int (by omega) (by have := List.mem_range.mp hi; omega)))) (ea_cons (ed_op (ed_var en rfl) (ed_var en rfl) (or_ixA (at_int (by omega) (by have := List.mem_range.mp hi; omega)))) ea_nil)) ⟨_, rfl, rfl⟩))) (fun i hi h => nomatch h)) ?_) (ed_lst ea_nil (by decide)) (or_eqD (shaped_Li []) (shaped_Li []))) ?_) fun v Hu H4 f4 hd => k v Hu H4 (((f1.trans f2).trans f3).trans f4) hd
  · rw [List.filter_eq_nil_iff.mpr (fun a _ => by decide)] <;> rfl
  · exact congrArg PyData.bool (eqv_Li [])
end
end LX

set_option Elab.async false
set_option linter.all false
set_option maxRecDepth 100000
set_option maxHeartbeats 4000000
set_option autoImplicit false
namespace LX
open PySem PySem.Spec PyProof.Rows L2 Evl
/-! ### a row that is measured -/
structure GS where
  row : List Int
  L : Nat
  taps : List Int
  before : List Int
  gap : Nat
def g0 : GS := ⟨[], 0, [1], [1], 1⟩
def expectN (s : GS) : Int := ((List.range (min s.L (s.taps.length - 1))).map fun k => s.taps.getD (k + 1) 0 * s.row.getD (s.row.length - (k + 1)) 0).sum
def expect (s : GS) : Int := (-expectN s) % 2
def gmiss (s : GS) (x : Int) : Int := (x - expect s) % 2
def gbase (s : GS) : List Int := s.taps ++ List.replicate (s.before.length + s.gap - s.taps.length) 0
def glay (s : GS) : Nat → List Int
  | 0 => gbase s
  | k + 1 => (glay s k).set (k + s.gap) (((glay s k).getD (k + s.gap) 0 - 1 * s.before.getD k 0) % 2)
def glater (s : GS) : List Int := glay s s.before.length
def gstep (s : GS) (x : Int) : GS :=
  if gmiss s x = 0 then { s with row := s.row ++ [x], gap := s.gap + 1 }
  else if 2 * s.L ≤ s.row.length then ⟨s.row ++ [x], s.row.length + 1 - s.L, glater s, s.taps, 1⟩
  else ⟨s.row ++ [x], s.L, glater s, s.before, s.gap + 1⟩
structure GOk (s : GS) : Prop where
  row : Bits s.row
  taps : Bits s.taps
  bef : Bits s.before
  tl : 1 ≤ s.taps.length
  tn : s.taps.length ≤ s.row.length + 1
  bn : s.before.length + s.gap ≤ s.row.length + 2
  Ln : s.L ≤ s.row.length
theorem g0_ok : GOk g0 := by
  refine ⟨fun _ h => (nomatch h), ?_, ?_, ?_, ?_, ?_, ?_⟩ <;> first | decide | exact fun y hy => by rw [List.mem_singleton.mp hy]; decide
theorem gbase_len (s : GS) : (gbase s).length = max s.taps.length (s.before.length + s.gap) := by
  unfold gbase
  rw [List.length_append, List.length_replicate]
  omega
theorem glay_len (s : GS) : ∀ k, (glay s k).length = (gbase s).length
  | 0 => rfl
  | k + 1 => by
    unfold glay
    rw [List.length_set, glay_len s k]
theorem bits_set {ns : List Int} {i : Nat} {x : Int} (h : Bits ns) (hx : 0 ≤ x ∧ x < 2) : Bits (ns.set i x) := fun y hy => by
  rcases List.mem_or_eq_of_mem_set hy with z | z
  · exact h y z
  · rw [z]; exact hx
theorem bits_app {a b : List Int} (h : Bits a) (g : Bits b) : Bits (a ++ b) := fun y hy => by
  rcases List.mem_append.mp hy with z | z
  · exact h y z
  · exact g y z
theorem glay_bits {s : GS} (h : GOk s) : ∀ k, Bits (glay s k)
  | 0 => bits_app h.taps fun y hy => by rw [List.eq_of_mem_replicate hy]; decide
  | k + 1 => bits_set (glay_bits h k) (by omega)
theorem gstep_row (s : GS) (x : Int) : (gstep s x).row = s.row ++ [x] := by
  unfold gstep
  split
  · rfl
  · split <;> rfl
theorem gstep_ok {s : GS} {x : Int} (h : GOk s) (hx : 0 ≤ x ∧ x < 2) : GOk (gstep s x) := by
  have hr : Bits (s.row ++ [x]) := bits_app h.row fun y hy => by rw [List.mem_singleton.mp hy]; exact hx
  have hl : (glater s).length = max s.taps.length (s.before.length + s.gap) := by rw [glater, glay_len, gbase_len]
  have e : (s.row ++ [x]).length = s.row.length + 1 := by rw [List.length_append]; rfl
  obtain ⟨h1, h2, h3, h4, h5, h6, h7⟩ := h
  have hb : Bits (glater s) := glay_bits ⟨h1, h2, h3, h4, h5, h6, h7⟩ _
  unfold gstep
  split
  · exact ⟨hr, h2, h3, h4, by show s.taps.length ≤ (s.row ++ [x]).length + 1; omega, by show s.before.length + (s.gap + 1) ≤ (s.row ++ [x]).length + 2; omega, by show s.L ≤ (s.row ++ [x]).length; omega⟩
  · split
    · exact ⟨hr, hb, h2, by show 1 ≤ (glater s).length; omega, by show (glater s).length ≤ (s.row ++ [x]).length + 1; omega, by show s.taps.length + 1 ≤ (s.row ++ [x]).length + 2; omega, by show s.row.length + 1 - s.L ≤ (s.row ++ [x]).length; omega⟩
    · exact ⟨hr, hb, h3, by show 1 ≤ (glater s).length; omega, by show (glater s).length ≤ (s.row ++ [x]).length + 1; omega, by show s.before.length + (s.gap + 1) ≤ (s.row ++ [x]).length + 2; omega, by show s.L ≤ (s.row ++ [x]).length; omega⟩
/-! ### heaps that change at some places -/
structure FrM (M : Addr → Prop) (Hb H1 Hr H2 : Hp) : Prop where
  b : Ex Hb Hr
  h : ∀ a o, ¬ M a → H1 a = some o → H2 a = some o
  r : Ex Hr H2
  n : ∀ a, Hb a = none → H1 a ≠ none → Hr a = none
  d : ∀ a, H1 a ≠ none → H2 a ≠ none
section
variable {M : Addr → Prop} {Hb H H1 Hr H2 Hs H3 : Hp}
theorem ne_none_ex (e : Ex H1 H2) {a : Addr} (h : H1 a ≠ none) : H2 a ≠ none := by
  cases q : H1 a with
  | none => exact absurd q h
  | some o => rw [e a o q]; exact fun z => nomatch z
theorem FrM.of (f : Fr Hb H1 Hr H2) : FrM M Hb H1 Hr H2 := ⟨f.b, fun a o _ h => f.h a o h, f.r, f.n, fun _ h => ne_none_ex f.h h⟩
theorem FrM.trans (x : FrM M Hb H1 Hr H2) (y : FrM M Hr H2 Hs H3) : FrM M Hb H1 Hs H3 :=
  ⟨x.b.trans y.b, fun a o m h => y.h a o m (x.h a o m h), y.r, fun a h1 h2 => y.n a (x.n a h1 h2) (x.d a h2), fun a h => y.d a (x.d a h)⟩
end
/-! ### more statements and expressions -/
section
variable {K : PySem.W.Frag} {σ : L2.St} {Hb Hr H : Hp} {ρ : Env'} {ta tb tc te tl : TE} {t tt : TT} {x y z d : PyData} {wi wi1 : TI} {vs : List Nat} {D : Ends} {tu tw tz : TS}
theorem st_asg2 {i j : Nat} {ta : TA} {d1 d2 : PyData} (eb : Ex Hb H) (h : EA ta σ Hb [d1, d2]) (k : ∀ v w Hr H', Fr Hb H Hr H' → Dt Hr v d1 → Dt Hr w d2 → tz D ((σ.set i (some v)).set j (some w)) H') : tSeq (tAsg (tTup ta) (gTup K 2 (gCons (gName i) (gCons (gName j) gNil)))) tz D σ H :=
  h H eb _ fun vs Hr H' f hd => by
    obtain ⟨v, w, rfl, h1, h2⟩ := hd.two_eq
    refine ⟨by show 2 ≤ sizeLine; decide, fun p hp => ?_⟩
    have g := Fr.new (o := .tup [v, w]) f.r hp
    exact ⟨p, _, rfl, .inl (.inl upd_same), rfl, v, [w], rfl, w, [], rfl, rfl, k v w _ _ (f.trans g) (h1.mono g.b) (h2.mono g.b)⟩
theorem ed_lcS {α : Type} {A : List α} {enc enc' : α → PyData} {j : Nat} (w : EW wi σ Hb (A.map enc)) (hz : A.length ≤ 100000) (hj : j ∈ vs)
    (he : ∀ a ∈ A, ∀ v H', Ex Hb H' → Dt H' v (enc a) → ED te ((L2.wipe σ vs).set j (some v)) H' (enc' a)) :
    ED (tLc wi (gName j) tYes te vs) σ Hb (.list (A.map enc')) := fun H0 e0 Q q => w H0 e0 _ fun J G xs Hr H1 f wk hG hx D hD => by
  have hl : xs.length = A.length := by rw [hx.len, List.length_map]
  refine lc_it wk (fun i H' => ∃ Hs ys, Fr Hr H1 Hs H' ∧ Hs D = none ∧ H' D = some (.lst ys) ∧ DtA Hs ys ((A.take i).map enc') ∧ ys.length ≤ i) ?_ ?_ ?_ ?_
  · have hrD := fresh_back f.r hD
    exact ⟨Hr, [], (Fr.refl f.r).mutate hD hrD, hrD, upd_same, .nil, Nat.le_refl _⟩
  · rintro i H' hi ⟨Hs, ys, g, g1, g2, g3, g4⟩
    exact hG H' (g.b.trans g.r)
  · rintro i v H' H'' hi ⟨Hs, ys, g, g1, g2, g3, g4⟩ ⟨rfl, hv⟩
    obtain ⟨a, ha⟩ : ∃ a, A[i]? = some a := ⟨A[i]'(by omega), List.getElem?_eq_getElem (by omega)⟩
    have hmem : a ∈ A := List.mem_of_getElem? ha
    obtain ⟨v', hv', hd⟩ := hx.get (i := i) (d := enc a) (by rw [List.getElem?_map, ha]; rfl)
    rw [hv] at hv'
    cases hv'
    have ek : A.take (i + 1) = A.take i ++ [a] := by rw [List.take_add_one, ha] <;> rfl
    refine ⟨wipe_wipe hj, yes_go ?_⟩
    refine (he a hmem v Hs (f.b.trans g.b) (hd.mono g.b)) H'' g.r _ fun y Hu H4 l hy => ?_
    obtain ⟨l1, l2⟩ := l.mut g1 g2
    refine ⟨ys, l2, sz_lt (by omega), Hu, ys ++ [y], (g.trans l).mutate hD l1, l1, upd_same, ?_, by rw [List.length_append]; show ys.length + 1 ≤ _; omega⟩
    rw [ek, List.map_append]
    exact (g3.mono l.b).app (.one hy)
  · rintro H' ⟨Hs, ys, g, g1, g2, g3, g4⟩
    refine q _ (upd Hs D (.lst ys)) H' (f.trans (g.freeze hD g1 g2)) (.lst upd_same ?_)
    rw [hl, List.take_length] at g3
    exact g3.mono (Ex.new g1)
/-- the fields -/
structure GCl (K : PySem.W.Frag) (C : Addr) : Prop where
  cl : Cls K C
  prime : NoAttr K C "prime"
  row : NoAttr K C "row"
  length : NoAttr K C "length"
  taps : NoAttr K C "taps"
  before : NoAttr K C "before"
  gap : NoAttr K C "gap"
  base : NoAttr K C "base"
theorem ed_fld {i : Nat} {g C dx : Addr} {fs : List (PySem.Str × V)} {f : PySem.Str} {v : V} (hs : σ[i]? = some (some (.ref g))) (hg : Hb g = some (.ins C dx fs)) (c : Cls K C) (n : NoAttr K C f) (hl : fs.lookup f = some v) (hd : Dt Hb v d) : ED (tFld K (tVar i) f) σ Hb d :=
  fun H1 e Q q => ⟨.ref g, hs, g, C, dx, fs, v, rfl, e _ _ hg, c, n, hl, q v Hb H1 (Fr.refl e) hd⟩
end
abbrev gfs (r : Addr) (L : Int) (t b : Addr) (m : Int) : List (PySem.Str × V) := [("prime", .int 2), ("row", .ref r), ("length", .int L), ("taps", .ref t), ("before", .ref b), ("gap", .int m), ("base", .int 1)]
/-- the object with all of it -/
structure GrO (H : Hp) (g C dx r t b : Addr) (s : GS) : Prop where
  o : H g = some (.ins C dx (gfs r s.L t b s.gap))
  row : H r = some (.lst (s.row.map V.int))
  taps : H t = some (.lst (s.taps.map V.int))
  bef : H b = some (.lst (s.before.map V.int))
theorem GrO.mono {H H' : Hp} {g C dx r t b : Addr} {s : GS} (h : GrO H g C dx r t b s) (e : Ex H H') : GrO H' g C dx r t b s := ⟨e _ _ h.o, e _ _ h.row, e _ _ h.taps, e _ _ h.bef⟩
theorem dt_li {H : Hp} {a : Addr} {ns : List Int} (h : H a = some (.lst (ns.map V.int))) : Dt H (.ref a) (Li ns) := .lst h (DtA.ofInts ns)
section
variable {P : Program} {w : World} {K : PySem.W.Frag} {mg : PySem.Str → Option Value} {base : Heap}
/-! ### a target e.f -/
theorem pe_fldK {X : Cx} {Kf : PySem.W.Frag} {e : Expr} {f : PySem.Str} {pos : Pos} {ta : TE} (hk : X.K = Kf) (he : PE X e ta) (hb : attributeBase e f X.env (eval e X.env) = eval e X.env) : PE X (.Attribute e f pos) (tFld Kf ta f) := hk ▸ pe_fld he hb
theorem pg_fld {X : Cx} {o : Expr} {f : PySem.Str} {pos : Pos} {ta : TE} (ha : PE X o ta) : PG X (.Attribute o f pos) (fun v σ H Q => ta σ H fun x H2 => ∃ a C dx fs, x = .ref a ∧ H2 a = some (.ins C dx fs) ∧ Cls X.K C ∧ NoAttr X.K C f ∧ fs.length < 1000 ∧ Q σ (upd H2 a (.ins C dx (putF f v fs)))) := by
  refine ⟨fun pins s σ H v u Q I r h => ?_⟩
  rw [show assign (.Attribute o f pos) X.env u = (do
    let ov ← holding [u] (eval o X.env)
    standAt pos.atName
    holding [u, ov] (setAttr ov f u)
    release [u, ov] []) from rfl]
  refine wpAny_bind (wpAny_holding (thn (ha.run pins s σ H _ I h) fun ov s1 ⟨x, H1, I1, r1, a, C, dx, fs, ex, ea, c, n, l, q1⟩ => ?_))
  subst ex
  obtain rfl : ov = Value.ref a := r1
  refine wpAny_bind (wpAny_standAt (wpAny_bind (wpAny_holding (setattr_ok I1 ea c n l r fun s3 I3 => ?_))))
  exact wpAny_release ⟨σ, _, I3, q1⟩
/-! ### Growing.__init__ -/
-- Growing.__init__: cells []; slots 0 self, 1 prime
abbrev s_Growing___init__ : Stmt := inClass (topS 38) 0
abbrev N_Growing___init__ : List PySem.Str := ["self", "prime"]
abbrev P_Growing___init__ : List PySem.Str := ["self", "prime"]
theorem sc_Growing___init__ : FnScope N_Growing___init__ P_Growing___init__ (defScope s_Growing___init__) := fscope_by (by decide +kernel)
def spInit (C : Addr) : Sp := fun vs H Q _ => ∃ (g dx : Addr), vs = [.ref g, .int 2] ∧ H g = some (.ins C dx []) ∧
  ∀ (r t b : Addr) (H2 : Hp), (∀ a o, a ≠ g → H a = some o → H2 a = some o) → H r = none → H t = none → H b = none → r ≠ t → r ≠ b → GrO H2 g C dx r t b g0 → Q .non H2
theorem ok_init {C f : Addr} {fd : FuncData} (F : Fun K "__init__" "Growing.__init__" s_Growing___init__ f fd) (hb : Binds K fd P_Growing___init__ []) (G : GCl K C) (M : Mk K C f) (hm : mg "Growing" = some (.ref C)) : C8.Mak P w K mg base 1 "Growing" C (spInit C) [] := by
  refine ⟨f, fd, _, [], M, F.ok sc_Growing___init__ (fun vs H Q E h => by obtain ⟨g, dx, rfl, _⟩ := h; rfl) (fun cdv A outer s H vs Q E hr h => ⟨_,
    (pss_cons (ps_fld (pv 0) (pv 1) rfl)
      (pss_cons (ps_fld (pv 0) (pe_lst pa_nil) rfl)
      (pss_cons (ps_fld (pv 0) pe_int rfl)
      (pss_cons (ps_fld (pv 0) (pe_lst (pa_cons pe_int pa_nil)) rfl)
      (pss_cons (ps_fld (pv 0) (pe_lst (pa_cons pe_int pa_nil)) rfl)
      (pss_cons (ps_fld (pv 0) pe_int rfl)
      (pss_one (ps_fld (pv 0) pe_int rfl)))))))), ?_⟩), hm, hb, .nil⟩
  obtain ⟨g, dx, rfl, hg, k⟩ := h
  refine ⟨.int 2, rfl, _, rfl, g, C, dx, [], rfl, hg, G.cl, G.prime, by show 0 < 1000; decide, Nat.zero_le _, fun r nr => ?_⟩
  have gr : g ≠ r := fun z => by rw [← z, upd_same] at nr; cases nr
  refine ⟨_, rfl, g, C, dx, _, rfl, (by rw [upd_ne gr, upd_same]), G.cl, G.row, by show 1 < 1000; decide, ?_⟩
  refine ⟨_, rfl, g, C, dx, _, rfl, upd_same, G.cl, G.length, by show 2 < 1000; decide, ?_⟩
  refine ⟨by show 1 ≤ sizeLine; decide, fun t nt => ?_⟩
  have gt : g ≠ t := fun z => by rw [← z, upd_same] at nt; cases nt
  have rt : r ≠ t := fun z => by rw [← z, upd_ne gr.symm, upd_ne gr.symm, upd_same] at nt; cases nt
  refine ⟨_, rfl, g, C, dx, _, rfl, (by rw [upd_ne gt, upd_same]), G.cl, G.taps, by show 3 < 1000; decide, ?_⟩
  refine ⟨by show 1 ≤ sizeLine; decide, fun b nb => ?_⟩
  have gb : g ≠ b := fun z => by rw [← z, upd_same] at nb; cases nb
  have rb : r ≠ b := fun z => by rw [← z, upd_ne gr.symm, upd_ne rt, upd_ne gr.symm, upd_ne gr.symm, upd_same] at nb; cases nb
  have tb : t ≠ b := fun z => by rw [← z, upd_ne gt.symm, upd_same] at nb; cases nb
  refine ⟨_, rfl, g, C, dx, _, rfl, (by rw [upd_ne gb, upd_same]), G.cl, G.before, by show 4 < 1000; decide, ?_⟩
  refine ⟨_, rfl, g, C, dx, _, rfl, upd_same, G.cl, G.gap, by show 5 < 1000; decide, ?_⟩
  refine ⟨_, rfl, g, C, dx, _, rfl, upd_same, G.cl, G.base, by show 6 < 1000; decide, ?_⟩
  refine k r t b _ ?_ ?_ ?_ ?_ rt rb ⟨upd_same, ?_, ?_, ?_⟩
  · intro a o h1 h2
    have hr' : a ≠ r := fun z => by subst z; rw [upd_ne h1, h2] at nr; cases nr
    have ht' : a ≠ t := fun z => by subst z; rw [upd_ne h1, upd_ne h1, upd_ne hr', upd_ne h1, h2] at nt; cases nt
    have hb' : a ≠ b := fun z => by subst z; rw [upd_ne h1, upd_ne ht', upd_ne h1, upd_ne h1, upd_ne hr', upd_ne h1, h2] at nb; cases nb
    rw [upd_ne h1, upd_ne h1, upd_ne h1, upd_ne hb', upd_ne h1, upd_ne ht', upd_ne h1, upd_ne h1, upd_ne hr', upd_ne h1, h2]
  · rwa [upd_ne gr.symm] at nr
  · rwa [upd_ne gt.symm, upd_ne gt.symm, upd_ne rt.symm, upd_ne gt.symm] at nt
  · rwa [upd_ne gb.symm, upd_ne tb.symm, upd_ne gb.symm, upd_ne gb.symm, upd_ne rb.symm, upd_ne gb.symm] at nb
  · rw [upd_ne gr.symm, upd_ne gr.symm, upd_ne gr.symm, upd_ne rb, upd_ne gr.symm, upd_ne rt, upd_ne gr.symm, upd_ne gr.symm, upd_same] <;> rfl
  · rw [upd_ne gt.symm, upd_ne gt.symm, upd_ne gt.symm, upd_ne tb, upd_ne gt.symm, upd_same] <;> rfl
  · rw [upd_ne gb.symm, upd_ne gb.symm, upd_ne gb.symm, upd_same] <;> rfl
/-! ### Growing.expected -/
-- Growing.expected: cells ['at', 'self', 'taps']; slots 0 self, 1 at, 2 taps, 3 k
abbrev s_Growing_expected : Stmt := inClass (topS 38) 1
abbrev N_Growing_expected : List PySem.Str := ["self", "at", "taps", "k"]
abbrev P_Growing_expected : List PySem.Str := ["self"]
theorem sc_Growing_expected : FnScope N_Growing_expected P_Growing_expected (defScope s_Growing_expected) := fscope_by (by decide +kernel)
def spExpected (C : Addr) : Sp := fun vs H Q _ => ∃ (g dx r t b : Addr) (s : GS) (Hb : Hp), vs = [.ref g] ∧ Ex Hb H ∧ GrO Hb g C dx r t b s ∧ GOk s ∧ s.row.length ≤ 1000 ∧ ∀ v Hr H2, Fr Hb H Hr H2 → Dt Hr v (.int (expect s)) → Q v H2
theorem ok_expected {C f : Addr} {fd : FuncData} (T : Txt K mg) (F : Fun K "expected" "Growing.expected" s_Growing_expected f fd) (hb : Binds K fd P_Growing_expected []) (G : GCl K C) (me : Meth K C "expected" f) : C8.Met P w K mg base 1 C "expected" (spExpected C) [] := by
  refine ⟨f, fd, _, [], G.cl, me, F.ok sc_Growing_expected (fun vs H Q E h => by obtain ⟨_, _, _, _, _, _, _, rfl, _⟩ := h; rfl) (fun cdv A outer s H vs Q E hr h => ⟨_,
    (pss_cons (ps_asg (pe_tup (pa_cons (pe_callB (r := rLenQ K) call_len_seq (by rfl) T.len bt_len (pa_cons (pe_fldK (Kf := K) (by rfl) (pv 0) (by rfl)) pa_nil)) (pa_cons (pe_fldK (Kf := K) (by rfl) (pv 0) (by rfl)) pa_nil))) (pg_tup rfl (pgs_cons (pg_name (i := 1) sc_Growing_expected.nd rfl (by first | exact Or.inl rfl | exact Or.inr rfl)) (pgs_cons (pg_name (i := 2) sc_Growing_expected.nd rfl (by first | exact Or.inl rfl | exact Or.inr rfl)) pgs_nil))))
      (pss_one (ps_ret (pe_op op_mod (pe_un un_neg (pe_callB (r := rSum K) (cr_sum rfl) (by rfl) T.sum bt_sum (pa_cons (pe_lc (own := [("k", 3)]) (wi := iRng2 _) (g := (gName 3)) (tt := tYes) (by rfl) sc_Growing_expected.nd (pi_range2 (by rfl) T.range (pa_cons pe_int (pa_cons (pe_op op_add (pe_callB (call_min2 rfl) (by rfl) T.min bt_min (pa_cons (pe_fldK (Kf := K) (by rfl) (pv 0) (by rfl)) (pa_cons (pe_op op_sub (pe_callB (r := rLenQ K) call_len_seq (by rfl) T.len bt_len (pa_cons (pv 2) pa_nil)) pe_int) pa_nil))) pe_int) pa_nil))) (blkOk_by (own := [("k", 3)]) (N := N_Growing_expected) (sc := (defScope s_Growing_expected)) (by decide +kernel)) (fun _ _ _ _ _ => (pg_name (i := 3) sc_Growing_expected.nd rfl (by first | exact Or.inl rfl | exact Or.inr rfl))) (fun _ _ _ _ _ => pts_nil) (fun _ _ _ _ _ => (pe_op op_mul (pe_ix (r := rIxL K) ix_list (pv 2) (pv 3) (fun _ _ => rfl)) (pe_ix (r := rIxL K) ix_list (pe_fldK (Kf := K) (by rfl) (pv 0) (by rfl)) (pe_op op_sub (pv 1) (pv 3)) (fun _ _ => rfl))))) pa_nil))) (pe_fldK (Kf := K) (by rfl) (pv 0) (by rfl)))))), ?_⟩), hb, .nil⟩
  obtain ⟨g, dx, r, t, b, s, Hb, rfl, eb, O, ok, hz, k⟩ := h
  have h0 : (L2.start N_Growing_expected [V.ref g])[0]? = some (some (.ref g)) := rfl
  have htn := ok.tn
  have htl := ok.tl
  have hLn := ok.Ln
  refine st_asg2 (d1 := .int s.row.length) (d2 := Li s.taps) eb (ea_cons (ed_is (ed_cb (ea_cons (ed_fld h0 O.o G.cl G.row rfl (dt_li O.row)) ea_nil) br_len) (by rw [List.length_map])) (ea_cons (ed_fld h0 O.o G.cl G.taps rfl (dt_li O.taps)) ea_nil)) fun v1 v2 Hr H1 f1 h1 h2 => ?_
  obtain rfl := h1.int_eq
  have O := O.mono f1.b
  have g0 : [some (V.ref g), some (.int s.row.length), some v2, none][0]? = some (some (.ref g)) := rfl
  have g1 : [some (V.ref g), some (.int s.row.length), some v2, none][1]? = some (some (.int s.row.length)) := rfl
  have g2 : [some (V.ref g), some (.int s.row.length), some v2, none][2]? = some (some v2) := rfl
  show tRet _ _ [some (V.ref g), some (.int s.row.length), some v2, none] H1
  refine st_ret f1.r (ed_op (ed_neg (i := expectN s) (ed_cb (ea_cons (ed_is (y := Li ((List.range (min s.L (s.taps.length - 1))).map fun k => s.taps.getD (k + 1) 0 * s.row.getD (s.row.length - (k + 1)) 0)) (ed_lcS (A := List.range (min s.L (s.taps.length - 1))) (enc := fun k : Nat => .int (1 + (k : Int))) (enc' := fun k : Nat => .int (s.taps.getD (k + 1) 0 * s.row.getD (s.row.length - (k + 1)) 0))
    (fun H9 e9 R9 k9 => (ew_rng2 (lo := 1) (n := (min s.L (s.taps.length - 1) + 1 : Nat)) (ea_cons ed_int (ea_cons (ed_is (ed_op (ed_cb (ea_cons (ed_fld g0 O.o G.cl G.length rfl (.int _)) (ea_cons (ed_op (ed_is (ed_cb (ea_cons (ed_at g2 h2) ea_nil) br_len) (by rw [List.length_map])) ed_int or_sub) ea_nil)) br_min2) ed_int or_add) ?_) ea_nil)) (by omega) (by omega)) H9 e9 R9 (by rw [show ((min s.L (s.taps.length - 1) + 1 : Nat) - (1 : Int)).toNat = min s.L (s.taps.length - 1) by omega]; exact k9)) (by simp; omega) (by decide)
    fun k hk v H3 e3 hv => ?_) (Li_map _ _)) ea_nil) br_sum)) (ed_fld g0 O.o G.cl G.prime rfl (.int 2)) (or_mod (by decide))) fun v Hs H2 f2 hd => k v Hs H2 (f1.trans f2) hd
  · congr 1
    split <;> omega
  · obtain rfl := hv.int_eq
    have hk' := List.mem_range.mp hk
    have O := O.mono e3
    have i0 : ((L2.wipe [some (V.ref g), some (.int s.row.length), some v2, none] [3]).set 3 (some (.int (1 + (k : Int)))))[0]? = some (some (.ref g)) := rfl
    have i1 : ((L2.wipe [some (V.ref g), some (.int s.row.length), some v2, none] [3]).set 3 (some (.int (1 + (k : Int)))))[1]? = some (some (.int s.row.length)) := rfl
    have i2 : ((L2.wipe [some (V.ref g), some (.int s.row.length), some v2, none] [3]).set 3 (some (.int (1 + (k : Int)))))[2]? = some (some v2) := rfl
    have i3 : ((L2.wipe [some (V.ref g), some (.int s.row.length), some v2, none] [3]).set 3 (some (.int (1 + (k : Int)))))[3]? = some (some (.int (1 + (k : Int)))) := rfl
    refine ed_op (ed_op (ed_at i2 (h2.mono e3)) (ed_at i3 (.int _)) (or_ixL (d := .int (s.taps.getD (k + 1) 0)) ?_)) (ed_op (ed_fld i0 O.o G.cl G.row rfl (dt_li O.row)) (ed_op (ed_at i1 (.int _)) (ed_at i3 (.int _)) or_sub) (or_ixL (d := .int (s.row.getD (s.row.length - (k + 1)) 0)) ?_)) (or_mul ?_)
    · rw [at_int (by omega) (by omega)]
      congr 3
      omega
    · rw [at_int (by omega) (by omega)]
      congr 3
      omega
    · have := bits_getD ok.taps (k + 1)
      unfold CMul
      omega
end
end LX

set_option Elab.async false
set_option linter.all false
set_option maxRecDepth 100000
set_option maxHeartbeats 4000000
set_option autoImplicit false
namespace LX
open PySem PySem.Spec PyProof.Rows L2 Evl
theorem iteT' {c : Bool} {A B : Prop} (e : c = true) (h : A) : if c = true then A else B := by rw [if_pos e]; exact h
theorem iteF' {c : Bool} {A B : Prop} (e : c = false) (h : B) : if c = true then A else B := by rw [if_neg (by rw [e]; decide)]; exact h
theorem exPin {Hb H : Hp} {a : Addr} {o : HO} (e : Ex Hb H) (h : H a = some o) : Ex (upd Hb a o) H := fun c u z => by
  by_cases q : c = a
  · subst q
    rw [upd_same] at z
    rw [h, z]
  · rw [upd_ne q] at z
    exact e c u z
theorem exIn {Hb : Hp} {a : Addr} {o : HO} (h : Hb a = none ∨ Hb a = some o) : Ex Hb (upd Hb a o) := fun c u z => by
  by_cases q : c = a
  · subst q
    rw [upd_same]
    rcases h with h | h
    · rw [h] at z; cases z
    · rw [h] at z; exact z
  · rw [upd_ne q]
    exact z
theorem li_rep {xs : List Int} {k : Int} {n : Nat} (h : k.toNat = n) : PyData.list (xs.map .int ++ List.replicate k.toNat (.int 0)) = Li (xs ++ List.replicate n 0) := by
  show _ = PyData.list _
  rw [List.map_append, List.map_replicate, h]
section
variable {σ : L2.St} {H : Hp} {D : Ends} {tu tz : TS} {ta tb te : TE} {t : TA} {g : TG} {wi : TI} {Q : VK}
theorem x_par {i j : Nat} (h : t σ H fun vs H1 => ∃ v w, vs = [v, w] ∧ tz D ((σ.set i (some v)).set j (some w)) H1) : tSeq (tPar i j t) tz D σ H := h
theorem x_asg (h : te σ H fun x H1 => g x σ H1 (tz D)) : tSeq (tAsg te g) tz D σ H := h
theorem x_set {i : Nat} (h : te σ H fun x H1 => tz D (σ.set i (some x)) H1) : tSeq (tAsg te (gName i)) tz D σ H := h
theorem x_asg1 (h : te σ H fun x H1 => g x σ H1 D.nx) : tAsg te g D σ H := h
theorem x_op {r : R2} (h : ta σ H fun x H1 => tb σ H1 fun y H2 => r x y H2 Q) : tOp r ta tb σ H Q := h
theorem x_sub {to ti : TE} {t : TSet} {v : V} {q : L2.St → Hp → Prop} (h : to σ H fun o H1 => ti σ H1 fun i H2 => t o i v H2 fun H3 => q σ H3) : gSub to ti t v σ H q := h
end
section
variable {K : PySem.W.Frag} {σ : L2.St} {Hb Hr H : Hp}
theorem ed_expected {i : Nat} {g C dx r t b : Addr} {s : GS} (hs : σ[i]? = some (some (.ref g))) (O : GrO Hb g C dx r t b s) (ok : GOk s) (hz : s.row.length ≤ 1000) : ED (tMeth C "expected" (spExpected C) [] E0 (tVar i) tNil) σ Hb (.int (expect s)) :=
  fun H1 e Q q => ⟨.ref g, hs, g, dx, _, rfl, e _ _ O.o, rfl, g, dx, r, t, b, s, Hb, rfl, e, O, ok, hz, q⟩
end
section
variable {P : Program} {w : World} {K : PySem.W.Frag} {mg : PySem.Str → Option Value} {base : Heap}
/-! ### Growing.step -/
-- Growing.step: cells []; slots 0 self, 1 number, 2 prime, 3 at, 4 miss, 5 factor, 6 later, 7 k, 8 entry
abbrev s_Growing_step : Stmt := inClass (topS 38) 2
abbrev N_Growing_step : List PySem.Str := ["self", "number", "prime", "at", "miss", "factor", "later", "k", "entry"]
abbrev P_Growing_step : List PySem.Str := ["self", "number"]
theorem sc_Growing_step : FnScope N_Growing_step P_Growing_step (defScope s_Growing_step) := fscope_by (by decide +kernel)
def spStep (C : Addr) : Sp := fun vs H Q _ => ∃ (g dx r t b : Addr) (s : GS) (x : Int) (Hb : Hp), vs = [.ref g, .int x] ∧ Ex Hb H ∧ Hb g = none ∧ Hb r = none ∧ GrO H g C dx r t b s ∧ Hb t = some (.lst (s.taps.map V.int)) ∧ Hb b = some (.lst (s.before.map V.int)) ∧
  GOk s ∧ s.row.length ≤ 500 ∧ (0 ≤ x ∧ x < 2) ∧ ∀ t' b' Hr H2, FrM (fun a => a = g ∨ a = r) Hb H Hr H2 → GrO H2 g C dx r t' b' (gstep s x) → Hr t' = some (.lst ((gstep s x).taps.map V.int)) → Hr b' = some (.lst ((gstep s x).before.map V.int)) → Q (.int (gstep s x).L) H2
theorem ok_step {C f : Addr} {fd : FuncData} (T : Txt K mg) (F : Fun K "step" "Growing.step" s_Growing_step f fd) (hb : Binds K fd P_Growing_step []) (G : GCl K C) (me : Meth K C "step" f) (m_expected : C8.Met P w K mg base 1 C "expected" (spExpected C) []) (c_inverse : CalD P w K mg base 1 "inverse" Rinverse) : C8.Met P w K mg base 2 C "step" (spStep C) [] := by
  refine ⟨f, fd, _, [], G.cl, me, F.ok sc_Growing_step (fun vs H Q E h => by obtain ⟨_, _, _, _, _, _, _, _, rfl, _⟩ := h; rfl) (fun cdv A outer s H vs Q E hr h => ⟨_,
    (pss_cons (ps_par (i := 2) (j := 3) (by rfl) sc_Growing_step.nd rfl rfl (by decide) rfl rfl (pa_cons (pe_fldK (Kf := K) (by rfl) (pv 0) (by rfl)) (pa_cons (pe_callB (r := rLenQ K) call_len_seq (by rfl) T.len bt_len (pa_cons (pe_fldK (Kf := K) (by rfl) (pv 0) (by rfl)) pa_nil)) pa_nil)) (by rfl))
      (pss_cons (ps_set (i := 4) sc_Growing_step.nd rfl (by first | exact Or.inl rfl | exact Or.inr rfl) (pe_op op_mod (pe_op op_sub (pv 1) (C8.pe_mt0 m_expected hr (by decide) (pv 0))) (pv 2)))
      (pss_cons (ps_expr (pe_bm PySem.F.plainAttrs_list PySem.F.slot_list_append PySem.F.type_list_append mt_append (pe_fldK (Kf := K) (by rfl) (pv 0) (by rfl)) (pa_cons (pv 1) pa_nil)))
      (pss_cons (ps_if (pt_cmpR op_eq (pv 4) pe_int (nomark _)) (pss_cons (ps_fldaug (pv 0) pe_int in_add)
      (pss_one (ps_ret (pe_fldK (Kf := K) (by rfl) (pv 0) (by rfl))))) pss_nil)
      (pss_cons (ps_set (i := 5) sc_Growing_step.nd rfl (by first | exact Or.inl rfl | exact Or.inr rfl) (pe_op op_mod (pe_op op_mul (pv 4) (C8.pe_c c_inverse hr (by decide) (by rfl) (pa_cons (pv 2) (pa_cons (pe_fldK (Kf := K) (by rfl) (pv 0) (by rfl)) pa_nil)))) (pv 2)))
      (pss_cons (ps_set (i := 6) sc_Growing_step.nd rfl (by first | exact Or.inl rfl | exact Or.inr rfl) (pe_op op_cat (pe_fldK (Kf := K) (by rfl) (pv 0) (by rfl)) (pe_op op_rep (pe_lst (pa_cons pe_int pa_nil)) (pe_op op_sub (pe_op op_add (pe_callB (r := rLenQ K) call_len_seq (by rfl) T.len bt_len (pa_cons (pe_fldK (Kf := K) (by rfl) (pv 0) (by rfl)) pa_nil)) (pe_fldK (Kf := K) (by rfl) (pv 0) (by rfl))) (pe_callB (r := rLenQ K) call_len_seq (by rfl) T.len bt_len (pa_cons (pe_fldK (Kf := K) (by rfl) (pv 0) (by rfl)) pa_nil))))))
      (pss_cons (ps_for PassesOwn.never rfl (pi_enum (by rfl) T.enumerate (pa_cons (pe_fldK (Kf := K) (by rfl) (pv 0) (by rfl)) pa_nil)) (pg_tup (n := 2) rfl (pgs_cons (pg_name (i := 7) sc_Growing_step.nd rfl (by first | exact Or.inl rfl | exact Or.inr rfl)) (pgs_cons (pg_name (i := 8) sc_Growing_step.nd rfl (by first | exact Or.inl rfl | exact Or.inr rfl)) pgs_nil))) (pss_one (ps_asg (pe_op op_mod (pe_op op_sub (pe_ix (r := rIxL K) ix_list (pv 6) (pe_op op_add (pv 7) (pe_fldK (Kf := K) (by rfl) (pv 0) (by rfl))) (fun _ _ => rfl)) (pe_op op_mul (pv 5) (pv 8))) (pv 2)) (pg_sub (pv 6) (pe_op op_add (pv 7) (pe_fldK (Kf := K) (by rfl) (pv 0) (by rfl))) set_list))))
      (pss_cons (ps_if (pt_cmpR op_le (pe_op op_mul pe_int (pe_fldK (Kf := K) (by rfl) (pv 0) (by rfl))) (pv 3) (nomark _)) (pss_one (ps_asg (pe_tup (pa_cons (pe_op op_sub (pe_op op_add (pv 3) pe_int) (pe_fldK (Kf := K) (by rfl) (pv 0) (by rfl))) (pa_cons (pe_fldK (Kf := K) (by rfl) (pv 0) (by rfl)) (pa_cons (pv 4) (pa_cons pe_int pa_nil))))) (pg_tup (n := 4) rfl (pgs_cons (pg_fld (pv 0)) (pgs_cons (pg_fld (pv 0)) (pgs_cons (pg_fld (pv 0)) (pgs_cons (pg_fld (pv 0)) pgs_nil))))))) (pss_one (ps_fldaug (pv 0) pe_int in_add)))
      (pss_cons (ps_fld (pv 0) (pv 6) rfl)
      (pss_one (ps_ret (pe_fldK (Kf := K) (by rfl) (pv 0) (by rfl))))))))))))), ?_⟩), hb, .nil⟩
  obtain ⟨g, dx, r, t, b, s, x, Hb, rfl, eb, hbg, hbr, O, hbt, hbb, ok, hz, hx, k⟩ := h
  have htn := ok.tn
  have htl := ok.tl
  have hLn := ok.Ln
  have hbn := ok.bn
  have gr : g ≠ r := fun z => by have := O.o; rw [z, O.row] at this; cases this
  have gt : t ≠ g := fun z => by rw [z, hbg] at hbt; cases hbt
  have gb : b ≠ g := fun z => by rw [z, hbg] at hbb; cases hbb
  have rt : t ≠ r := fun z => by rw [z, hbr] at hbt; cases hbt
  have rb : b ≠ r := fun z => by rw [z, hbr] at hbb; cases hbb
  show tSeq _ _ _ [some (V.ref g), some (.int x), none, none, none, none, none, none, none] H
  -- the known heap ahead
  obtain ⟨Hf, eHf⟩ : ∃ Hf, Hf = upd (upd Hb r (.lst (s.row.map V.int))) g (.ins C dx (gfs r s.L t b s.gap)) := ⟨_, rfl⟩
  have ef : Ex Hf H := eHf ▸ exPin (exPin eb O.row) O.o
  have Of : GrO Hf g C dx r t b s := eHf ▸ ⟨upd_same, by rw [upd_ne gr.symm, upd_same], by rw [upd_ne gt, upd_ne rt, hbt], by rw [upd_ne gb, upd_ne rb, hbb]⟩
  -- prime, at = ..
  refine x_par ((ea_cons (σ := [some (V.ref g), some (.int x), none, none, none, none, none, none, none]) (ed_fld (i := 0) rfl Of.o G.cl G.prime rfl (.int 2)) (ea_cons (ed_is (y := .int s.row.length) (ed_cb (ea_cons (ed_fld (i := 0) rfl Of.o G.cl G.row rfl (dt_li Of.row)) ea_nil) br_len) (by rw [List.length_map])) ea_nil)) H ef _ fun us Hr1 H1 f1 hd1 => ?_)
  obtain ⟨w1, w2, rfl, q1, q2⟩ := hd1.two_eq
  obtain rfl := q1.int_eq
  obtain rfl := q2.int_eq
  refine ⟨_, _, rfl, ?_⟩
  show tSeq _ _ _ [some (V.ref g), some (.int x), some (.int 2), some (.int s.row.length), none, none, none, none, none] H1
  have ef1 : Ex Hf H1 := ef.trans f1.h
  -- miss
  refine x_set ((ed_op (σ := [some (V.ref g), some (.int x), some (.int 2), some (.int s.row.length), none, none, none, none, none]) (ed_op (ed_at (i := 1) rfl (.int x)) (ed_expected (i := 0) rfl Of ok (by omega)) or_sub) (ed_at (i := 2) rfl (.int 2)) (or_mod (by decide))) H1 ef1 _ fun w3 Hr2 H2 f2 hd2 => ?_)
  obtain rfl := hd2.int_eq
  show tSeq _ _ _ [some (V.ref g), some (.int x), some (.int 2), some (.int s.row.length), some (.int (gmiss s x)), none, none, none, none] H2
  have hh2 : Ex H H2 := f1.h.trans f2.h
  have O2 : GrO H2 g C dx r t b s := O.mono hh2
  -- row.append
  refine ⟨.ref g, rfl, g, C, dx, _, .ref r, rfl, O2.o, G.cl, G.row, rfl, .inl ⟨rfl, _, .inl (.inl O2.row)⟩, .int x, rfl, r, _, .int x, rfl, rfl, O2.row, sz_lt (by rw [List.length_map]; omega), ?_⟩
  have erow : s.row.map V.int ++ [V.int x] = (s.row ++ [x]).map V.int := by rw [List.map_append] <;> rfl
  rw [erow]
  obtain ⟨H3, eH3⟩ : ∃ H3, H3 = upd H2 r (.lst ((s.row ++ [x]).map V.int)) := ⟨_, rfl⟩
  rw [← eH3]
  have k3 : ∀ a o, a ≠ r → H2 a = some o → H3 a = some o := fun a o h1 h2 => by rw [eH3, upd_ne h1]; exact h2
  have r3 : H3 r = some (.lst ((s.row ++ [x]).map V.int)) := by rw [eH3]; exact upd_same
  have o3 := k3 _ _ gr O2.o
  have t3 := k3 _ _ rt O2.taps
  have b3 := k3 _ _ rb O2.bef
  have d3 : ∀ a, H a ≠ none → H3 a ≠ none := fun a h => by
    by_cases q : a = r
    · rw [q, r3]; exact fun z => nomatch z
    · rw [eH3, upd_ne q]; exact ne_none_ex hh2 h
  have kk3 : ∀ a o, a ≠ r → H a = some o → H3 a = some o := fun a o h1 h2 => k3 a o h1 (hh2 a o h2)
  have eb3 : Ex Hb H3 := fun a o z => kk3 a o (fun y => by rw [y, hbr] at z; cases z) (eb a o z)
  -- if miss == 0
  refine ⟨_, rfl, rfl, ?_⟩
  refine ⟨_, rfl, ?_⟩
  by_cases hm : gmiss s x = 0
  · refine iteT' (by rw [hm] <;> rfl) ?_
    refine ⟨.ref g, rfl, g, C, dx, _, .int s.gap, rfl, o3, G.cl, G.gap, rfl, _, _, rfl, rfl, dx, _, o3, by show 7 < 1000; decide, ?_⟩
    refine ⟨.ref g, rfl, g, C, dx, _, .int s.L, rfl, upd_same, G.cl, G.length, rfl, ?_⟩
    have es : gstep s x = { s with row := s.row ++ [x], gap := s.gap + 1 } := by unfold gstep; rw [if_pos hm]
    have k' := k t b Hb (upd H3 g (.ins C dx (gfs r s.L t b ((s.gap : Int) + 1))))
    rw [es] at k'
    refine k' ⟨Ex.refl _, fun a o h1 h2 => ?_, ?_, fun a h1 _ => h1, fun a h => ?_⟩ ⟨upd_same, ?_, ?_, ?_⟩ hbt hbb
    · rw [upd_ne (fun z => h1 (.inl z))]
      exact kk3 a o (fun z => h1 (.inr z)) h2
    · exact eb3.mut hbg
    · by_cases q : a = g
      · rw [q, upd_same]; exact fun z => nomatch z
      · rw [upd_ne q]; exact d3 a h
    · rw [upd_ne gr.symm]; exact r3
    · rw [upd_ne gt]; exact t3
    · rw [upd_ne gb]; exact b3
  have hm1 : gmiss s x = 1 := by
    unfold gmiss at hm ⊢
    omega
  refine iteF' (by exact decide_eq_false (fun z => hm (V.int.inj z))) ?_
  rw [hm1]
  show tSeq _ _ _ [some (V.ref g), some (.int x), some (.int 2), some (.int s.row.length), some (.int 1), none, none, none, none] H3
  obtain ⟨Hk, eHk⟩ : ∃ Hk, Hk = upd (upd Hb r (.lst ((s.row ++ [x]).map V.int))) g (.ins C dx (gfs r s.L t b s.gap)) := ⟨_, rfl⟩
  have ek : Ex Hk H3 := eHk ▸ exPin (exPin eb3 r3) o3
  have ok1 : Hk g = some (.ins C dx (gfs r s.L t b s.gap)) := by rw [eHk]; exact upd_same
  have ok3 : Hk t = some (.lst (s.taps.map V.int)) := by rw [eHk, upd_ne gt, upd_ne rt, hbt]
  have ok4 : Hk b = some (.lst (s.before.map V.int)) := by rw [eHk, upd_ne gb, upd_ne rb, hbb]
  -- factor
  refine x_set ((ed_op (σ := [some (V.ref g), some (.int x), some (.int 2), some (.int s.row.length), some (.int 1), none, none, none, none]) (ed_op (ed_at (i := 4) rfl (.int 1)) (ed_call (R := Rinverse) (ea_cons (ed_at (i := 2) rfl (.int 2)) (ea_cons (ed_fld (i := 0) rfl ok1 G.cl G.base rfl (.int 1)) ea_nil)) ⟨rfl, rfl⟩) (or_mul (by unfold CMul; omega))) (ed_at (i := 2) rfl (.int 2)) (or_mod (by decide))) H3 ek _ fun w4 Hr4 H4 f4 hd4 => ?_)
  obtain rfl := hd4.int_eq
  show tSeq _ _ _ [some (V.ref g), some (.int x), some (.int 2), some (.int s.row.length), some (.int 1), some (.int 1), none, none, none] H4
  have ek4 : Ex Hk H4 := ek.trans f4.h
  -- later
  refine x_set (x_op ((ed_fld (σ := [some (V.ref g), some (.int x), some (.int 2), some (.int s.row.length), some (.int 1), some (.int 1), none, none, none]) (i := 0) rfl ok1 G.cl G.taps rfl (dt_li ok3)) H4 ek4 _ fun w5 Hr5 H5 f5 hd5 => ?_))
  refine (ed_op (σ := [some (V.ref g), some (.int x), some (.int 2), some (.int s.row.length), some (.int 1), some (.int 1), none, none, none]) (ed_lst (ea_cons (ed_int (i := 0)) ea_nil) (by show 1 ≤ 100000; decide)) (ed_op (ed_op (ed_is (y := .int s.before.length) (ed_cb (ea_cons (ed_fld (i := 0) rfl (f5.b _ _ ok1) G.cl G.before rfl ((dt_li ok4).mono f5.b)) ea_nil) br_len) (by rw [List.length_map])) (ed_fld (i := 0) rfl (f5.b _ _ ok1) G.cl G.gap rfl (.int _)) or_add)
    (ed_is (y := .int s.taps.length) (ed_cb (ea_cons (ed_fld (i := 0) rfl (f5.b _ _ ok1) G.cl G.taps rfl ((dt_li ok3).mono f5.b)) ea_nil) br_len) (by rw [List.length_map])) or_sub) (or_rep (by omega) (by omega))) H5 f5.r _ fun w6 Hr6 H6 f6 hd6 => ?_
  obtain ⟨a5, xs5, rfl, e51, e52⟩ := (hd5.mono f6.b).lst_eq
  obtain rfl := e52.ints
  obtain ⟨a6, xs6, rfl, e61, e62⟩ := hd6.lst_eq
  have erep : List.replicate ((s.before.length : Int) + s.gap - s.taps.length).toNat (PyData.int 0) = (List.replicate (s.before.length + s.gap - s.taps.length) (0 : Int)).map .int := by
    rw [List.map_replicate, show ((s.before.length : Int) + s.gap - s.taps.length).toNat = s.before.length + s.gap - s.taps.length by omega]
  rw [erep] at e62
  obtain rfl := e62.ints
  refine ⟨a5, a6, _, _, rfl, rfl, f6.r _ _ e51, f6.r _ _ e61, sz_of (by rw [List.length_map, List.length_map, List.length_replicate]; omega), fun lt nlt => ?_⟩
  rw [← List.map_append]
  have hh6 : Ex H3 H6 := (f4.h.trans f5.h).trans f6.h
  show tSeq _ _ _ [some (V.ref g), some (.int x), some (.int 2), some (.int s.row.length), some (.int 1), some (.int 1), some (.ref lt), none, none] (upd H6 lt (.lst ((gbase s).map V.int)))
  have ek6 : Ex Hk H6 := ek.trans hh6
  have nkl : Hk lt = none := fresh_back ek6 nlt
  have gl : lt ≠ g := fun z => by rw [z, ok1] at nkl; cases nkl
  have n3l : H3 lt = none := fresh_back hh6 nlt
  have rl : lt ≠ r := fun z => by rw [z, r3] at n3l; cases n3l
  have nbl : Hb lt = none := fresh_back eb3 n3l
  -- for k, entry in enumerate(before)
  refine ⟨.ref g, rfl, g, C, dx, _, .ref b, rfl, (by rw [upd_ne gl.symm]; exact ek6 _ _ ok1), G.cl, G.before, rfl, b, _, rfl, .inl (.inl ((ek6.mut nkl) _ _ ok4)), ?_⟩
  refine for_it walk_enum (fun i σ' H' => ∃ v7 v8, σ' = [some (V.ref g), some (.int x), some (.int 2), some (.int s.row.length), some (.int 1), some (.int 1), some (.ref lt), v7, v8] ∧ Ex H6 H' ∧ H' lt = some (.lst ((glay s i).map V.int))) ⟨none, none, rfl, Ex.new nlt, upd_same⟩ (fun i σ' H' _ ⟨_, _, _, e, _⟩ => .inl (.inl (e _ _ (ek6 _ _ ok4)))) ?_ ?_
  · rintro i v σ' H' H'' hi ⟨v7, v8, rfl, e7, l7⟩ ⟨Tp, y1, y2, rfl, nT, rfl, ex1, ex2⟩
    rw [List.length_map] at hi
    obtain rfl : y1 = .int (i : Nat) := (Option.some.inj ex1).symm
    obtain rfl : y2 = .int (s.before.getD i 0) := by
      have e : (s.before.map V.int)[i]? = some y2 := ex2
      rw [List.getElem?_map, List.getElem?_eq_getElem hi] at e
      rw [List.getD_eq_getElem?_getD, List.getElem?_eq_getElem hi]
      exact (Option.some.inj e).symm
    refine ⟨Tp, _, rfl, .inl (.inl upd_same), rfl, .int (i : Nat), _, rfl, .int (s.before.getD i 0), [], rfl, rfl, ?_⟩
    show tAsg _ _ _ [some (V.ref g), some (.int x), some (.int 2), some (.int s.row.length), some (.int 1), some (.int 1), some (.ref lt), some (.int i), some (.int (s.before.getD i 0))] (upd H' Tp _)
    have e8 : Ex H' (upd H' Tp (.tup [.int (i : Nat), .int (s.before.getD i 0)])) := Ex.new nT
    have l8 := e8 _ _ l7
    have el : Ex (upd Hk lt (.lst ((glay s i).map V.int))) (upd H' Tp (.tup [.int (i : Nat), .int (s.before.getD i 0)])) := exPin ((ek6.trans e7).trans e8) l8
    have okl : (upd Hk lt (.lst ((glay s i).map V.int))) g = some (.ins C dx (gfs r s.L t b s.gap)) := by rw [upd_ne gl.symm]; exact ok1
    have hll : (glay s i).length = max s.taps.length (s.before.length + s.gap) := by rw [glay_len, gbase_len]
    have hlb := bits_getD (glay_bits ok i) (i + s.gap)
    have hbb' := bits_getD ok.bef i
    refine x_asg1 ((ed_op (σ := [some (V.ref g), some (.int x), some (.int 2), some (.int s.row.length), some (.int 1), some (.int 1), some (.ref lt), some (.int i), some (.int (s.before.getD i 0))]) (ed_op (ed_op (ed_at (i := 6) rfl (dt_li (H := upd Hk lt (.lst ((glay s i).map V.int))) upd_same)) (ed_op (ed_at (i := 7) rfl (.int _)) (ed_fld (i := 0) rfl okl G.cl G.gap rfl (.int _)) or_add) (or_ixL (d := .int ((glay s i).getD (i + s.gap) 0)) ?_)) (ed_op (ed_at (i := 5) rfl (.int _)) (ed_at (i := 8) rfl (.int _)) (or_mul (by unfold CMul; omega))) or_sub) (ed_at (i := 2) rfl (.int _)) (or_mod (by decide))) _ el _ fun v9 Hr9 H9 f9 hd9 => ?_)
    · rw [at_int (by omega) (by omega)]
      congr 3
    obtain rfl := hd9.int_eq
    refine ⟨.ref lt, rfl, ?_⟩
    refine (ed_op (σ := [some (V.ref g), some (.int x), some (.int 2), some (.int s.row.length), some (.int 1), some (.int 1), some (.ref lt), some (.int i), some (.int (s.before.getD i 0))]) (ed_at (i := 7) rfl (.int _)) (ed_fld (i := 0) rfl (f9.b _ _ okl) G.cl G.gap rfl (.int _)) or_add) H9 f9.r _ fun va Hra Ha fa hda => ?_
    obtain rfl := hda.int_eq
    have hla := fa.h _ _ (f9.h _ _ l8)
    refine ⟨lt, _, _, i + s.gap, rfl, rfl, hla, ?_, _, _, rfl, ((((e7.trans e8).trans f9.h).trans fa.h).mut nlt), ?_⟩
    · rw [List.length_map]
      unfold ixN
      rw [if_pos (by omega), if_pos (by omega)]
      congr 1
    · rw [upd_same]
      show _ = some (HO.lst (List.map V.int ((glay s i).set (i + s.gap) _)))
      rw [List.map_set] <;> rfl
  rintro σ' H7 ⟨v7, v8, rfl, e7, l7⟩
  rw [List.length_map] at l7
  have e37 : Ex H3 H7 := hh6.trans e7
  have ek7 : Ex Hk H7 := ek6.trans e7
  have nHl : ∀ a, H a ≠ none → a ≠ lt := fun a h z => by
    have := ne_none_ex e37 (d3 a h)
    exact absurd n3l (z ▸ d3 a h)
  have fin : ∀ (L' : Nat) (b' : Addr) (bs : List Int) (m' : Nat) (H8 : Hp), Ex H7 H8 → gstep s x = ⟨s.row ++ [x], L', glater s, bs, m'⟩ → Hb b' = some (.lst (bs.map V.int)) → b' ≠ g →
      Q (.int L') (upd H8 g (.ins C dx (gfs r L' lt b' m'))) := fun L' b' bs m' H8 e8 es hb' bg => by
    have k' := k lt b' (upd Hb lt (.lst ((glater s).map V.int))) (upd H8 g (.ins C dx (gfs r L' lt b' m')))
    rw [es] at k'
    have nbl' : b' ≠ lt := fun z => by rw [z, nbl] at hb'; cases hb'
    have nrb : b' ≠ r := fun z => by rw [z, hbr] at hb'; cases hb'
    have e38 : Ex H3 H8 := e37.trans e8
    refine k' ⟨Ex.new nbl, fun a o h1 h2 => ?_, ?_, fun a h1 h2 => ?_, fun a h => ?_⟩ ⟨upd_same, ?_, ?_, ?_⟩ upd_same (by rw [upd_ne nbl']; exact hb')
    · rw [upd_ne (fun z => h1 (.inl z))]
      exact e38 _ _ (kk3 a o (fun z => h1 (.inr z)) h2)
    · exact (exPin (eb3.trans e38) (e8 _ _ l7)).mut (by rw [upd_ne gl.symm]; exact hbg)
    · rw [upd_ne (nHl a h2)]; exact h1
    · by_cases q : a = g
      · rw [q, upd_same]; exact fun z => nomatch z
      · rw [upd_ne q]; exact ne_none_ex e38 (d3 a h)
    · rw [upd_ne gr.symm]; exact e38 _ _ r3
    · rw [upd_ne gl]; exact e8 _ _ l7
    · rw [upd_ne bg]; exact e38 _ _ (kk3 _ _ nrb (eb _ _ hb'))
  -- if 2 * length <= at
  have o7 := ek7 _ _ ok1
  refine ⟨.ref g, rfl, g, C, dx, _, .int s.L, rfl, o7, G.cl, G.length, rfl, _, _, rfl, rfl, by unfold CMul; omega, _, rfl, _, _, rfl, rfl, _, rfl, ?_⟩
  by_cases hL : 2 * s.L ≤ s.row.length
  · refine iteT' (decide_eq_true (by omega)) ?_
    have es : gstep s x = ⟨s.row ++ [x], s.row.length + 1 - s.L, glater s, s.taps, 1⟩ := by
      unfold gstep
      rw [if_neg hm, if_pos hL]
    refine ⟨_, rfl, _, _, rfl, rfl, .ref g, rfl, g, C, dx, _, .int s.L, rfl, o7, G.cl, G.length, rfl, _, _, rfl, rfl, .ref g, rfl, g, C, dx, _, .ref t, rfl, o7, G.cl, G.taps, rfl, _, rfl, by show 4 ≤ sizeLine; decide, fun p np => ?_⟩
    have gp : g ≠ p := fun z => by rw [← z, o7] at np; cases np
    refine ⟨p, _, rfl, .inl (.inl upd_same), rfl, _, _, rfl, .ref g, rfl, g, C, dx, _, rfl, (by rw [upd_ne gp]; exact o7), G.cl, G.length, by show 7 < 1000; decide, ?_⟩
    refine ⟨_, _, rfl, .ref g, rfl, g, C, dx, _, rfl, upd_same, G.cl, G.before, by show 7 < 1000; decide, ?_⟩
    refine ⟨_, _, rfl, .ref g, rfl, g, C, dx, _, rfl, upd_same, G.cl, G.base, by show 7 < 1000; decide, ?_⟩
    refine ⟨_, _, rfl, .ref g, rfl, g, C, dx, _, rfl, upd_same, G.cl, G.gap, by show 7 < 1000; decide, rfl, ?_⟩
    refine ⟨_, rfl, .ref g, rfl, g, C, dx, _, rfl, upd_same, G.cl, G.taps, by show 7 < 1000; decide, ?_⟩
    refine ⟨.ref g, rfl, g, C, dx, _, _, rfl, upd_same, G.cl, G.length, rfl, ?_⟩
    rw [upd_upd, upd_upd, upd_upd, upd_upd]
    have eL : (s.row.length : Int) + 1 - s.L = ((s.row.length + 1 - s.L : Nat) : Int) := by omega
    have := fin (s.row.length + 1 - s.L) t s.taps 1 (upd H7 p (.tup [V.int ((s.row.length : Int) + 1 - s.L), V.ref t, V.int 1, V.int 1])) (Ex.new np) es hbt gt
    rw [← eL] at this
    exact this
  · refine iteF' (decide_eq_false (by omega)) ?_
    have es : gstep s x = ⟨s.row ++ [x], s.L, glater s, s.before, s.gap + 1⟩ := by
      unfold gstep
      rw [if_neg hm, if_neg hL]
    refine ⟨.ref g, rfl, g, C, dx, _, .int s.gap, rfl, o7, G.cl, G.gap, rfl, _, _, rfl, rfl, dx, _, o7, by show 7 < 1000; decide, ?_⟩
    refine ⟨_, rfl, .ref g, rfl, g, C, dx, _, rfl, upd_same, G.cl, G.taps, by show 7 < 1000; decide, ?_⟩
    refine ⟨.ref g, rfl, g, C, dx, _, _, rfl, upd_same, G.cl, G.length, rfl, ?_⟩
    rw [upd_upd]
    exact fin s.L b s.before (s.gap + 1) H7 (Ex.refl _) es hbb gb
end
end LX

set_option Elab.async false
set_option linter.all false
set_option maxRecDepth 100000
set_option maxHeartbeats 4000000
set_option autoImplicit false
namespace LX
open PySem PySem.Spec PyProof.Rows L2 Evl
def grun (ns : List Int) : GS := ns.foldl gstep g0
theorem grun_next {ns : List Int} {i : Nat} {x : Int} (h : ns[i]? = some x) : grun (ns.take (i + 1)) = gstep (grun (ns.take i)) x := by
  unfold grun
  rw [List.take_add_one, h, Option.toList_some, List.foldl_append] <;> rfl
theorem grun_row_len : ∀ (ns : List Int) (s : GS), (ns.foldl gstep s).row = s.row ++ ns
  | [], s => by rw [List.append_nil] <;> rfl
  | x :: r, s => by
    show (r.foldl gstep (gstep s x)).row = _
    rw [grun_row_len r, gstep_row, List.append_assoc] <;> rfl
theorem grun_row (ns : List Int) : (grun ns).row = ns := grun_row_len ns g0
theorem foldl_ok : ∀ (ns : List Int) (s : GS), Bits ns → GOk s → GOk (ns.foldl gstep s)
  | [], s, _, h => h
  | x :: r, s, hb, h => foldl_ok r (gstep s x) (fun y hy => hb y (List.mem_cons_of_mem _ hy)) (gstep_ok h (hb x List.mem_cons_self))
theorem grun_ok {ns : List Int} (hb : Bits ns) : GOk (grun ns) := foldl_ok ns g0 hb g0_ok
def lensOf (ns : List Int) (i : Nat) : List Int := (List.range i).map fun j => ((grun (ns.take (j + 1))).L : Int)
theorem lensOf_next (ns : List Int) (i : Nat) : lensOf ns (i + 1) = lensOf ns i ++ [((grun (ns.take (i + 1))).L : Int)] := by
  unfold lensOf
  rw [List.range_succ, List.map_append] <;> rfl
def tailOf (s : GS) : List Int := ((s.taps ++ List.replicate (s.L + 1) 0).drop 1).take s.L
def foundOf (s : GS) : List Int := (tailOf s).map fun e => (-e) % 2
theorem cut_one {ns : List Int} {k : Nat} (h : k + 1 ≤ ns.length) : cutD (ns.map .int) (some 1) (some ((k : Int) + 1)) = ((ns.drop 1).take k).map PyData.int := by
  unfold cutD
  rw [show (1 : Int) = ((1 : Nat) : Int) from rfl, show ((k : Int) + ((1 : Nat) : Int)) = ((k + 1 : Nat) : Int) by omega, HT.sIx_nat, HT.sIx_nat, List.length_map, Nat.min_eq_left h, Nat.min_eq_left (show 1 ≤ ns.length by omega), Nat.add_sub_cancel, List.map_take, List.map_drop]
section
variable {P : Program} {w : World} {K : PySem.W.Frag} {mg : PySem.Str → Option Value} {base : Heap}
/-! ### massey -/
-- massey: cells ['growing', 'prime']; slots 0 prime, 1 row, 2 growing, 3 lengths, 4 found, 5 number, 6 entry
abbrev s_massey : Stmt := topS 39
abbrev N_massey : List PySem.Str := ["prime", "row", "growing", "lengths", "found", "number", "entry"]
abbrev P_massey : List PySem.Str := ["prime", "row"]
theorem sc_massey : FnScope N_massey P_massey (defScope s_massey) := fscope_by (by decide +kernel)
def Rmassey (ds : List PyData) (d : PyData) : Prop := ∃ ns : List Int, ds = [.int 2, Ti ns] ∧ Bits ns ∧ ns.length ≤ 400 ∧ d = .tuple [Li (lensOf ns ns.length), Ti (foundOf (grun ns))]
theorem ok_massey {C : Addr} (T : Txt K mg) (F : Df K mg "massey" s_massey P_massey) (G : GCl K C) (mk : C8.Mak P w K mg base 1 "Growing" C (spInit C) []) (m_step : C8.Met P w K mg base 2 C "step" (spStep C) []) : CalD P w K mg base 3 "massey" Rmassey := by
  refine calD F sc_massey (fun ds d h => by obtain ⟨_, rfl, _⟩ := h; rfl) fun f cdv A outer s H E hr => ⟨_,
    (pss_cons (ps_set (i := 2) sc_massey.nd rfl (by first | exact Or.inl rfl | exact Or.inr rfl) (C8.pe_mk mk hr (by decide) (by rfl) (pa_cons (pv 0) pa_nil)))
      (pss_cons (ps_setLc (i := 3) (own := [("number", 5)]) (wi := iTup K _) (g := (gName 5)) (tt := tYes) (by rfl) sc_massey.nd rfl rfl (sw_true rfl rfl rfl (by decide +kernel)) (pi_tup (pv 1)) (blkOk_by (own := [("number", 5)]) (N := N_massey) (sc := (defScope s_massey)) (by decide +kernel)) (fun _ _ _ _ _ => (pg_name (i := 5) sc_massey.nd rfl (by first | exact Or.inl rfl | exact Or.inr rfl))) (fun _ _ _ _ _ => pts_nil) (fun _ _ _ _ _ => (C8.pe_mt m_step hr (by decide) (pv 2) (pa_cons (pv 5) pa_nil))))
      (pss_cons (ps_set (i := 4) sc_massey.nd rfl (by first | exact Or.inl rfl | exact Or.inr rfl) (pe_slice sl_list (pe_op op_cat (pe_fldK (Kf := K) (by rfl) (pv 2) (by rfl)) (pe_op op_rep (pe_lst (pa_cons pe_int pa_nil)) (pe_op op_add (pe_fldK (Kf := K) (by rfl) (pv 2) (by rfl)) pe_int))) (po_some pe_int) (po_some (pe_op op_add (pe_fldK (Kf := K) (by rfl) (pv 2) (by rfl)) pe_int))))
      (pss_one (ps_ret (pe_tup (pa_cons (pv 3) (pa_cons (pe_callTy (r := rTupOf K) call_tuple_of (by rfl) T.tuple bt_tuple (pa_cons (pe_lc (own := [("entry", 6)]) (wi := iList K _) (g := (gName 6)) (tt := tYes) (by rfl) sc_massey.nd (pi_list (pv 4)) (blkOk_by (own := [("entry", 6)]) (N := N_massey) (sc := (defScope s_massey)) (by decide +kernel)) (fun _ _ _ _ _ => (pg_name (i := 6) sc_massey.nd rfl (by first | exact Or.inl rfl | exact Or.inr rfl))) (fun _ _ _ _ _ => pts_nil) (fun _ _ _ _ _ => (pe_op op_mod (pe_un un_neg (pv 6)) (pv 0)))) pa_nil)) pa_nil)))))))), fun ds d hR vs Hb H Q eb hv k => ?_⟩
  obtain ⟨ns, rfl, hb, hz, rfl⟩ := hR
  obtain ⟨v0, v1, rfl, d0, d1⟩ := hv.two_eq
  obtain rfl := d0.int_eq
  obtain ⟨a1, xs, rfl, e1, e2⟩ := d1.tup_eq
  obtain rfl := e2.ints
  show tSeq _ _ _ [some (V.int 2), some (V.ref a1), none, none, none, none, none] H
  -- growing = Growing(prime)
  refine x_set ⟨_, rfl, fun g dx ng ndx nex => ?_⟩
  have e0 : Ex H (upd (upd H dx (.own g)) g (.ins C dx [])) := (Ex.new ndx).mut ng
  refine ⟨g, dx, rfl, upd_same, fun r t0 b0 H1 kp nr0 nt0 nb0 rt0 rb0 O1 => ⟨rfl, ?_⟩⟩
  have nr : H r = none := fresh_back e0 nr0
  have nt : H t0 = none := fresh_back e0 nt0
  have nb : H b0 = none := fresh_back e0 nb0
  have gt0 : t0 ≠ g := fun z => by rw [z, upd_same] at nt0; cases nt0
  have gb0 : b0 ≠ g := fun z => by rw [z, upd_same] at nb0; cases nb0
  have gr : g ≠ r := fun z => by rw [← z, upd_same] at nr0; cases nr0
  have h1 : Ex H H1 := fun a o z => kp a o (ne_of_none z ng) (e0 a o z)
  have eb1 : Ex Hb H1 := eb.trans h1
  show tSeq _ _ _ [some (V.int 2), some (V.ref a1), some (V.ref g), none, none, none, none] H1
  -- lengths
  refine x_set ⟨.ref a1, rfl, a1, rfl, ⟨_, .inl (.inl (eb1 _ _ e1))⟩, fun D nD => ?_⟩
  have nDH : H D = none := fresh_back h1 nD
  have Dg : D ≠ g := fun z => by rw [z, O1.o] at nD; cases nD
  have Dr : D ≠ r := fun z => by rw [z, O1.row] at nD; cases nD
  have nHb : ∀ {a : Addr}, H a = none → Hb a = none := fun h => fresh_back eb h
  refine lc_it (walk_tup (xs := ns.map V.int)) (fun i H' => ∃ (Hs : Hp) (t b : Addr), Ex Hb Hs ∧ Ex Hs H' ∧ Hs g = none ∧ Hs r = none ∧ Hs D = none ∧ H' D = some (.lst ((lensOf ns i).map V.int)) ∧ GrO H' g C dx r t b (grun (ns.take i)) ∧ Hs t = some (.lst ((grun (ns.take i)).taps.map V.int)) ∧ Hs b = some (.lst ((grun (ns.take i)).before.map V.int)) ∧
    Ex H H' ∧ (∀ a, Hb a = none → H a ≠ none → Hs a = none)) ?_ (fun i H' _ ⟨Hs, t, b, q1, q2, _⟩ => .inl (.inl (q2 _ _ (q1 _ _ e1)))) ?_ ?_
  · -- the first turn
    have Dt0 : D ≠ t0 := fun z => by rw [z, O1.taps] at nD; cases nD
    have Db0 : D ≠ b0 := fun z => by rw [z, O1.bef] at nD; cases nD
    have ek : Ex (upd (upd Hb t0 (.lst ([1].map V.int))) b0 (.lst ([1].map V.int))) H1 := exPin (exPin eb1 O1.taps) O1.bef
    have nn : ∀ a, a ≠ t0 → a ≠ b0 → (upd (upd Hb t0 (.lst ([1].map V.int))) b0 (.lst ([1].map V.int))) a = Hb a := fun a z1 z2 => by rw [upd_ne z2, upd_ne z1]
    refine ⟨upd (upd Hb t0 (.lst ([1].map V.int))) b0 (.lst ([1].map V.int)), t0, b0, fun a o z => ?_, ek.mut ?_, ?_, ?_, ?_, upd_same, ⟨?_, ?_, ?_, ?_⟩, ?_, upd_same, h1.mut nDH, fun a z1 z2 => ?_⟩
    · rw [nn a (ne_of_none z (nHb nt)) (ne_of_none z (nHb nb))]; exact z
    · rw [nn D Dt0 Db0]; exact nHb nDH
    · rw [nn g gt0.symm gb0.symm]; exact nHb ng
    · rw [nn r rt0 rb0]; exact nHb nr
    · rw [nn D Dt0 Db0]; exact nHb nDH
    · rw [upd_ne Dg.symm]; exact O1.o
    · rw [upd_ne Dr.symm]; exact O1.row
    · rw [upd_ne Dt0.symm]; exact O1.taps
    · rw [upd_ne Db0.symm]; exact O1.bef
    · by_cases q : t0 = b0
      · rw [q, upd_same] <;> rfl
      · rw [upd_ne q, upd_same] <;> rfl
    · rw [nn a (fun z => z2 (z ▸ nt)) (fun z => z2 (z ▸ nb))]; exact z1
  · -- a turn
    rintro i v H' H'' hi ⟨Hs, t, b, q1, q2, q3, q4, q5, q6, q7, q8, q9, q10, q11⟩ ⟨rfl, hv⟩
    rw [List.length_map] at hi
    obtain rfl : v = .int (ns.getD i 0) := by
      rw [List.getElem?_map, List.getElem?_eq_getElem hi] at hv
      rw [List.getD_eq_getElem?_getD, List.getElem?_eq_getElem hi]
      exact (Option.some.inj hv).symm
    have hns : ns[i]? = some (ns.getD i 0) := by rw [List.getD_eq_getElem?_getD, List.getElem?_eq_getElem hi] <;> rfl
    have hbt : Bits (ns.take i) := fun y hy => hb y (List.mem_of_mem_take hy)
    refine ⟨rfl, yes_go ?_⟩
    refine ⟨.ref g, rfl, g, dx, _, rfl, q7.o, rfl, .int (ns.getD i 0), rfl, g, dx, r, t, b, _, _, Hs, rfl, q2, q3, q4, q7, q8, q9, grun_ok hbt, ?_, bits_getD hb i, fun t' b' Hr H2 f O' ht' hb' => ?_⟩
    · rw [grun_row, List.length_take]; omega
    rw [← grun_next hns] at O' ht' hb' ⊢
    have dr : Hr D = none := f.n D q5 (by rw [q6]; exact fun z => nomatch z)
    have d2 : H2 D = some (.lst ((lensOf ns i).map V.int)) := f.h D _ (fun z => z.elim Dg Dr) q6
    have Dt' : t' ≠ D := ne_of_none ht' dr
    have Db' : b' ≠ D := ne_of_none hb' dr
    refine ⟨_, d2, sz_lt (by unfold lensOf; rw [List.length_map, List.length_map, List.length_range]; omega), Hr, t', b', q1.trans f.b, f.r.mut dr, f.n g q3 (by rw [q7.o]; exact fun z => nomatch z), f.n r q4 (by rw [q7.row]; exact fun z => nomatch z), dr, ?_, ⟨?_, ?_, ?_, ?_⟩, ht', hb', ?_, fun a z1 z2 => f.n a (q11 a z1 z2) (ne_none_ex q10 z2)⟩
    · rw [upd_same, lensOf_next, List.map_append] <;> rfl
    · rw [upd_ne Dg.symm]; exact O'.o
    · rw [upd_ne Dr.symm]; exact O'.row
    · rw [upd_ne Dt']; exact O'.taps
    · rw [upd_ne Db']; exact O'.bef
    · intro a o z
      rw [upd_ne (ne_of_none z nDH)]
      exact f.h a o (fun y => y.elim (ne_of_none z ng) (ne_of_none z nr)) (q10 a o z)
  · -- behind it
    rintro H' ⟨Hs, t, b, q1, q2, q3, q4, q5, q6, q7, q8, q9, q10, q11⟩
    rw [List.length_map] at q6 q7 q8 q9
    rw [List.take_length] at q7 q8 q9
    have hok := grun_ok hb
    have htn := hok.tn
    have hLn := hok.Ln
    have htl := hok.tl
    rw [grun_row] at htn hLn
    show tSeq _ _ _ [some (V.int 2), some (V.ref a1), some (V.ref g), some (V.ref D), none, none, none] H'
    obtain ⟨Hf, eHf⟩ : ∃ Hf, Hf = upd (upd (upd Hs D (.lst ((lensOf ns ns.length).map V.int))) r (.lst ((grun ns).row.map V.int))) g (.ins C dx (gfs r (grun ns).L t b (grun ns).gap)) := ⟨_, rfl⟩
    have ef : Ex Hf H' := eHf ▸ exPin (exPin (exPin q2 q6) q7.row) q7.o
    have nf : ∀ a, a ≠ g → a ≠ r → a ≠ D → Hf a = Hs a := fun a z1 z2 z3 => by rw [eHf, upd_ne z1, upd_ne z2, upd_ne z3]
    have sf : Ex Hs Hf := fun a o z => by rw [nf a (ne_of_none z q3) (ne_of_none z q4) (ne_of_none z q5)]; exact z
    have of1 : Hf g = some (.ins C dx (gfs r (grun ns).L t b (grun ns).gap)) := by rw [eHf]; exact upd_same
    have of2 : Hf D = some (.lst ((lensOf ns ns.length).map V.int)) := by rw [eHf, upd_ne Dg, upd_ne Dr, upd_same]
    have of3 := sf _ _ q8
    refine st_setS (d := Li (tailOf (grun ns))) ef (ed_is (ed_sl (ed_is (y := Li ((grun ns).taps ++ List.replicate ((grun ns).L + 1) 0)) (ed_op (ed_fld (σ := [some (V.int 2), some (V.ref a1), some (V.ref g), some (V.ref D), none, none, none]) (i := 2) rfl of1 G.cl G.taps rfl (dt_li of3)) (ed_op (ed_lst (ea_cons (ed_int (i := 0)) ea_nil) (by show 1 ≤ 100000; decide)) (ed_op (ed_fld (i := 2) rfl of1 G.cl G.length rfl (.int _)) ed_int or_add) (or_rep (by omega) (by omega))) (or_cat ?_)) (li_rep (by omega))) (eo_some ed_int) (eo_some (ed_op (ed_fld (i := 2) rfl of1 G.cl G.length rfl (.int _)) ed_int or_add))) ?_) fun v4 Hr4 H4 f4 d4 => ?_
    · rw [List.length_map, List.length_replicate]; omega
    · rw [cut_one (by rw [List.length_append, List.length_replicate]; omega)] <;> rfl
    show tRet _ _ [some (V.int 2), some (V.ref a1), some (V.ref g), some (V.ref D), some v4, none, none] H4
    have htl' : (tailOf (grun ns)).length ≤ 100000 := by
      unfold tailOf
      rw [List.length_take]
      omega
    refine st_ret f4.r (ed_tup (ea_cons (ed_at (σ := [some (V.int 2), some (V.ref a1), some (V.ref g), some (V.ref D), some v4, none, none]) (i := 3) rfl (dt_li (f4.b _ _ of2))) (ea_cons (ed_cb (ea_cons (ed_is (y := Li (foundOf (grun ns))) (ed_lcS (A := tailOf (grun ns)) (enc := fun e => .int e) (enc' := fun e => .int ((-e) % 2)) (ew_list (ed_at (i := 4) rfl d4)) htl' (by decide)
      fun e he v H5 e5 hv5 => ed_op (ed_neg (ed_at (i := 6) rfl hv5)) (ed_at (i := 0) rfl (.int 2)) (or_mod (by decide))) (Li_map _ _)) ea_nil) br_tuple) ea_nil)) (by show 2 ≤ 100000; decide)) fun v Hr5 H5 f5 hd => k v Hr5 H5 ⟨((q1.trans sf).trans f4.b).trans f5.b, (q10.trans f4.h).trans f5.h, f5.r, fun a z1 z2 => ?_⟩ hd
    have z3 : Hf a = none := by
      rw [nf a (fun z => z2 (z ▸ ng)) (fun z => z2 (z ▸ nr)) (fun z => z2 (z ▸ nDH))]
      exact q11 a z1 z2
    have z4 : H' a ≠ none := ne_none_ex q10 z2
    exact f5.n a (f4.n a z3 z4) (ne_none_ex f4.h z4)
/-! ### least_length -/
-- least_length: cells []; slots 0 prime, 1 row
abbrev s_least_length : Stmt := topS 41
abbrev N_least_length : List PySem.Str := ["prime", "row"]
abbrev P_least_length : List PySem.Str := ["prime", "row"]
theorem sc_least_length : FnScope N_least_length P_least_length (defScope s_least_length) := fscope_by (by decide +kernel)
def RleastLength (ds : List PyData) (d : PyData) : Prop := ∃ ns : List Int, ds = [.int 2, Ti ns] ∧ Bits ns ∧ ns.length ≤ 400 ∧ d = .int (grun ns).L
theorem ok_least_length (T : Txt K mg) (F : Df K mg "least_length" s_least_length P_least_length) (c_need_prime_row : CalD P w K mg base 5 "need_prime_row" RneedPrimeRow) (c_massey : CalD P w K mg base 3 "massey" Rmassey) : CalD P w K mg base 6 "least_length" RleastLength := by
  refine calD F sc_least_length (fun ds d h => by obtain ⟨_, rfl, _⟩ := h; rfl) fun f cdv A outer s H E hr => ⟨_,
    (pss_cons (ps_expr (C8.pe_c c_need_prime_row hr (by decide) (by rfl) (pa_cons (pv 0) (pa_cons (pv 1) pa_nil))))
      (pss_one (ps_ret (pe_ix (r := rIxL K) ix_list (pe_op op_cat (pe_lst (pa_cons pe_int pa_nil)) (pe_ix (r := rIxT K) ix_tup (C8.pe_c c_massey hr (by decide) (by rfl) (pa_cons (pv 0) (pa_cons (pv 1) pa_nil))) pe_int (fun _ _ => rfl))) (pe_un un_neg pe_int) (fun _ _ => rfl))))), fun ds d hR vs Hb H Q eb hv k => ?_⟩
  obtain ⟨ns, rfl, hb, hz, rfl⟩ := hR
  have en := En.start (N := N_least_length) hv
  refine st_drop eb (ed_call (ea_cons (ed_var en rfl) (ea_cons (ed_var en rfl) ea_nil)) ⟨ns, rfl, hb, hz, rfl⟩) fun Hr H1 f1 => ?_
  have en := en.fr f1
  have hll : (lensOf ns ns.length).length = ns.length := by unfold lensOf; rw [List.length_map, List.length_range]
  refine st_ret f1.r (ed_op (ed_is (y := Li (0 :: lensOf ns ns.length)) (ed_op (ed_lst (ea_cons (ed_int (i := 0)) ea_nil) (by show 1 ≤ 100000; decide)) (ed_op (ed_call (R := Rmassey) (ea_cons (ed_var en rfl) (ea_cons (ed_var en rfl) ea_nil)) ⟨ns, rfl, hb, hz, rfl⟩) ed_int (or_ixT (d := Li (lensOf ns ns.length)) (by rfl))) (or_cat ?_)) rfl) (ed_neg ed_int) (or_ixL ?_)) fun v Hs H2 f2 hd => k v Hs H2 (f1.trans f2) hd
  · rw [List.length_map, hll]
    show 1 + ns.length ≤ _
    omega
  · rw [at_intN (by decide) (by rw [List.length_cons, hll]; omega), List.length_cons, hll]
    congr 2
    rw [show (-(1 : Int) + ((ns.length + 1 : Nat) : Int)).toNat = ns.length by omega]
    by_cases h0 : ns.length = 0
    · rw [h0, List.length_eq_zero_iff.mp h0] <;> rfl
    · obtain ⟨m, hm⟩ : ∃ m, ns.length = m + 1 := ⟨ns.length - 1, by omega⟩
      rw [hm, lensOf_next, List.getD_cons_succ, List.getD_eq_getElem?_getD, List.getElem?_append_right (by unfold lensOf; rw [List.length_map, List.length_range]; omega)]
      rw [show m - (lensOf ns m).length = 0 by unfold lensOf; rw [List.length_map, List.length_range]; omega, ← hm, List.take_length] <;> rfl
end
end LX

set_option Elab.async false
set_option linter.all false
set_option maxRecDepth 100000
set_option maxHeartbeats 4000000
set_option autoImplicit false
namespace LX
open PySem PySem.Spec PyProof.Rows L2 Evl
/-! ### the row of draws -/
structure RowAt (K : PySem.W.Frag) (H : Hp) (r sc : Addr) (ns : List Int) (a b c : Int) : Prop where
  at_ : H r = some (.lst [.ref sc, .int a, .int b, .int c])
  sq : SqL K H sc (ns.map V.int)
  len : ns.length ≤ 63
  a0 : 0 ≤ a
  b0 : 0 ≤ b
  b1 : b < 2147483647
/-- the row, the script within it -/
structure Rw where
  r : Addr
  sc : Addr
  ns : List Int
def RowOk (K : PySem.W.Frag) (H : Hp) (ρ : Rw) : Prop := ∃ a b c, RowAt K H ρ.r ρ.sc ρ.ns a b c
theorem sq_upd {K : PySem.W.Frag} {H : Hp} {r sc q : Addr} {ns : List Int} {l : List V} {o : HO} (h : SqL K H sc (ns.map V.int)) (hr : H r = some (.lst (.ref q :: l))) : SqL K (upd H r o) sc (ns.map V.int) := by
  rcases h with (h | ⟨u, h⟩) | h
  · refine .inl (.inl ?_)
    rw [upd_ne ?_]
    · exact h
    · intro z
      rw [z, hr] at h
      cases ns with
      | nil => cases h
      | cons x t => cases h
  · refine .inl (.inr ⟨u, ?_⟩)
    rw [upd_ne ?_]
    · exact h
    · intro z
      rw [z, hr] at h
      cases h
  · exact .inr h
theorem RowAt.upd {K : PySem.W.Frag} {H : Hp} {r sc : Addr} {ns : List Int} {a b c a' b' c' : Int} (h : RowAt K H r sc ns a b c) (ha : 0 ≤ a') (hb : 0 ≤ b') (hb1 : b' < 2147483647) : RowAt K (upd H r (.lst [.ref sc, .int a', .int b', .int c'])) r sc ns a' b' c' :=
  ⟨upd_same, sq_upd h.sq h.at_, h.len, ha, hb, hb1⟩
theorem sq_ex {K : PySem.W.Frag} {H H' : Hp} {a : Addr} {xs : List V} (h : SqL K H a xs) (e : Ex H H') : SqL K H' a xs :=
  h.elim (fun h => .inl (h.elim (fun h => .inl (e _ _ h)) fun ⟨o, h⟩ => .inr ⟨o, e _ _ h⟩)) fun h => .inr h
theorem RowOk.ex {K : PySem.W.Frag} {H H' : Hp} {ρ : Rw} (h : RowOk K H ρ) (e : Ex H H') : RowOk K H' ρ := by
  obtain ⟨a, b, c, q⟩ := h
  exact ⟨a, b, c, e _ _ q.at_, sq_ex q.sq e, q.len, q.a0, q.b0, q.b1⟩
theorem RowOk.ne {K : PySem.W.Frag} {H : Hp} {ρ : Rw} (h : RowOk K H ρ) : H ρ.r ≠ none := by
  obtain ⟨a, b, c, q⟩ := h
  rw [q.at_]
  exact fun z => nomatch z
/-- a thing that was not there may change -/
theorem RowOk.at_new {K : PySem.W.Frag} {H H' : Hp} {ρ : Rw} {D : Addr} {o : HO} (h : RowOk K H ρ) (hD : H D = none) (h' : RowOk K H' ρ) : RowOk K (L2.upd H' D o) ρ := by
  have hDr : ρ.r ≠ D := fun z => h.ne (z ▸ hD)
  obtain ⟨a, b, c, q⟩ := h
  obtain ⟨a', b', c', q'⟩ := h'
  refine ⟨a', b', c', by rw [upd_ne hDr]; exact q'.at_, ?_, q'.len, q'.a0, q'.b0, q'.b1⟩
  rcases q.sq with h | h
  · have hs : ρ.sc ≠ D := fun z => by
      rcases h with h | ⟨u, h⟩
      · rw [z, hD] at h; cases h
      · rw [z, hD] at h; cases h
    rcases q'.sq with (h | ⟨u, h⟩) | h
    · exact .inl (.inl (by rw [upd_ne hs]; exact h))
    · exact .inl (.inr ⟨u, by rw [upd_ne hs]; exact h⟩)
    · exact .inr h
  · exact .inr h
/-! ### a value, the heap as it is -/
def EV (te : TE) (σ : L2.St) (H : Hp) (v : V) : Prop := ∀ Q : VK, Q v H → te σ H Q
section
variable {K : PySem.W.Frag} {σ : L2.St} {H : Hp} {ta tb te : TE} {v : V} {tz tu tw : TS} {D : Ends}
theorem ev_int {i : Int} : EV (tC (.int i)) σ H (.int i) := fun Q q => q
theorem ev_var {i : Nat} (h : σ[i]? = some (some v)) : EV (tVar i) σ H v := fun Q q => ⟨v, h, q⟩
theorem ev_0 {g : Int → Int → V} {i j : Int} (h1 : EV ta σ H (.int i)) (h2 : EV tb σ H (.int j)) : EV (tOp (rI0 g) ta tb) σ H (g i j) := fun Q q => h1 _ (h2 _ ⟨i, j, rfl, rfl, q⟩)
theorem ev_C {C : Int → Int → Prop} {g : Int → Int → V} {i j : Int} (h1 : EV ta σ H (.int i)) (h2 : EV tb σ H (.int j)) (hc : C i j) : EV (tOp (rI C g) ta tb) σ H (g i j) := fun Q q => h1 _ (h2 _ ⟨i, j, rfl, rfl, hc, q⟩)
theorem ev_ix {a : Addr} {xs : List V} {i : Int} (h1 : EV ta σ H (.ref a)) (hs : SqL K H a xs) (h2 : EV tb σ H (.int i)) (h : atI xs i = some v) : EV (tOp (rIxL K) ta tb) σ H v := fun Q q => h1 _ (h2 _ ⟨a, xs, i, v, rfl, rfl, hs, h, q⟩)
theorem ev_len {a : Addr} {xs : List V} (h1 : EV ta σ H (.ref a)) (hs : SqL K H a xs) : EV (tCB (rLenQ K) (tCons ta tNil)) σ H (.int xs.length) := fun Q q => h1 _ ⟨a, xs, rfl, .inl hs, q⟩
theorem ev_toInt {i : Int} (h1 : EV ta σ H (.int i)) : EV (tCB rInt1 (tCons ta tNil)) σ H (.int i) := fun Q q => h1 _ (.inl ⟨i, rfl, q⟩)
theorem v_set {i : Nat} (h : EV te σ H v) (k : tz D (σ.set i (some v)) H) : tSeq (tAsg te (gName i)) tz D σ H := h _ k
theorem v_ret (h : EV te σ H v) (k : D.rt v H) : tRet te D σ H := h _ k
theorem v_if {b : Bool} (h : EV te σ H (.bl b)) (h1 : b = true → tu { D with nx := tz D } σ H) (h2 : b = false → tw { D with nx := tz D } σ H) : tSeq (tIfS (tTest te) tu tw) tz D σ H :=
  h _ ⟨b, rfl, by cases b with
    | true => exact iteT (h1 rfl)
    | false => exact iteF (h2 rfl)⟩
/-- r[k] = e -/
theorem v_sub {i : Nat} {r : Addr} {xs : List V} {k : Nat} (h : EV te σ H v) (hs : σ[i]? = some (some (.ref r))) (hr : H r = some (.lst xs)) (hk : k < xs.length) (q : tz D σ (upd H r (.lst (xs.set k v)))) : tSeq (tAsg te (gSub (tVar i) (tC (.int k)) rSetL)) tz D σ H :=
  h _ ⟨.ref r, hs, r, xs, k, k, rfl, rfl, hr, by unfold ixN; rw [if_pos (by omega), if_pos (by omega)]; rfl, q⟩
theorem v_sub1 {i : Nat} {r : Addr} {xs : List V} {k : Nat} (h : EV te σ H v) (hs : σ[i]? = some (some (.ref r))) (hr : H r = some (.lst xs)) (hk : k < xs.length) (q : D.nx σ (upd H r (.lst (xs.set k v)))) : tAsg te (gSub (tVar i) (tC (.int k)) rSetL) D σ H :=
  h _ ⟨.ref r, hs, r, xs, k, k, rfl, rfl, hr, by unfold ixN; rw [if_pos (by omega), if_pos (by omega)]; rfl, q⟩
end
section
variable {P : Program} {w : World} {K : PySem.W.Frag} {mg : PySem.Str → Option Value} {base : Heap}
/-! ### _law_taken -/
-- _law_taken: cells []; slots 0 _law_row, 1 _law_many, 2 _law_found, 3 _law_cell
abbrev s_law_taken : Stmt := topS 50
abbrev N_law_taken : List PySem.Str := ["_law_row", "_law_many", "_law_found", "_law_cell"]
abbrev P_law_taken : List PySem.Str := ["_law_row", "_law_many"]
theorem sc_law_taken : FnScope N_law_taken P_law_taken (defScope s_law_taken) := fscope_by (by decide +kernel)
def spTaken (K : PySem.W.Frag) : Sp := fun vs H Q _ => ∃ (ρ : Rw) (many : Int), vs = [.ref ρ.r, .int many] ∧ 1 ≤ many ∧ many ≤ 1000 ∧ RowOk K H ρ ∧ ∀ (k : Int) (o : HO), 0 ≤ k → k < many → RowOk K (upd H ρ.r o) ρ → Q (.int k) (upd H ρ.r o)
theorem ok_law_taken (T : Txt K mg) (F : Df K mg "_law_taken" s_law_taken P_law_taken) : C8.Cal P w K mg base 1 "_law_taken" (spTaken K) [] := by
  obtain ⟨f, fd, hF, hm, hb⟩ := F.ex
  refine ⟨f, fd, _, [], hF.ok sc_law_taken (fun vs H Q E h => by obtain ⟨_, _, rfl, _⟩ := h; rfl) (fun cdv A outer s H vs Q E hr h => ⟨_,
    (pss_cons (ps_if (pt_cmpR op_gt (pe_ix (r := rIxL K) ix_list (pv 0) pe_int (fun _ _ => rfl)) pe_int (nomark _)) (pss_cons (ps_set (i := 2) sc_law_taken.nd rfl (by first | exact Or.inl rfl | exact Or.inr rfl) (pe_op op_mod (pe_callTy call_int1 (by rfl) T.int bt_int (pa_cons (pe_ix (r := rIxL K) ix_list (pv 0) pe_int (fun _ _ => rfl)) pa_nil)) (pv 1)))
      (pss_cons (ps_asg (pe_op op_fdiv (pe_ix (r := rIxL K) ix_list (pv 0) pe_int (fun _ _ => rfl)) (pv 1)) (pg_sub (pv 0) pe_int set_list))
      (pss_one (ps_ret (pv 2))))) pss_nil)
      (pss_cons (ps_asg (pe_op op_add (pe_ix (r := rIxL K) ix_list (pv 0) pe_int (fun _ _ => rfl)) pe_int) (pg_sub (pv 0) pe_int set_list))
      (pss_cons (ps_if (pt_cmpR op_gt (pe_ix (r := rIxL K) ix_list (pv 0) pe_int (fun _ _ => rfl)) (pe_callB (r := rLenQ K) call_len_seq (by rfl) T.len bt_len (pa_cons (pe_ix (r := rIxL K) ix_list (pv 0) pe_int (fun _ _ => rfl)) pa_nil)) (nomark _)) (pss_cons (ps_asg (pe_op op_mod (pe_callTy call_int1 (by rfl) T.int bt_int (pa_cons (pe_op op_add (pe_op op_mul (pe_ix (r := rIxL K) ix_list (pv 0) pe_int (fun _ _ => rfl)) pe_int) pe_int) pa_nil)) pe_int) (pg_sub (pv 0) pe_int set_list))
      (pss_one (ps_ret (pe_op op_mod (pe_callTy call_int1 (by rfl) T.int bt_int (pa_cons (pe_op op_fdiv (pe_ix (r := rIxL K) ix_list (pv 0) pe_int (fun _ _ => rfl)) pe_int) pa_nil)) (pv 1))))) pss_nil)
      (pss_cons (ps_set (i := 3) sc_law_taken.nd rfl (by first | exact Or.inl rfl | exact Or.inr rfl) (pe_ix (r := rIxL K) ix_list (pe_ix (r := rIxL K) ix_list (pv 0) pe_int (fun _ _ => rfl)) (pe_op op_sub (pe_ix (r := rIxL K) ix_list (pv 0) pe_int (fun _ _ => rfl)) pe_int) (fun _ _ => rfl)))
      (pss_cons (ps_asg (pe_op op_mod (pe_callTy call_int1 (by rfl) T.int bt_int (pa_cons (pe_op op_add (pe_op op_add (pe_op op_mul (pe_ix (r := rIxL K) ix_list (pv 0) pe_int (fun _ _ => rfl)) pe_int) (pv 3)) pe_int) pa_nil)) pe_int) (pg_sub (pv 0) pe_int set_list))
      (pss_cons (ps_if (pt_cmpR op_ge (pv 3) (pe_op op_pow pe_int pe_int) (nomark _)) (pss_one (ps_asg (pe_op op_fdiv (pv 3) (pv 1)) (pg_sub (pv 0) pe_int set_list))) pss_nil)
      (pss_one (ps_ret (pe_op op_mod (pe_callTy call_int1 (by rfl) T.int bt_int (pa_cons (pv 3) pa_nil)) (pv 1)))))))))), ?_⟩), hm, hF.kp, hb, .nil⟩
  obtain ⟨⟨r, sc, ns⟩, many, rfl, hm1, hm2, ⟨a, b, c, R⟩, k⟩ := h
  simp only at R k
  show tSeq _ _ _ [some (V.ref r), some (.int many), none, none] H
  have s0 : SqL K H r _ := SqL.of R.at_
  have x0 : ∀ {H : Hp} {u v : Option V}, EV (tVar 0) [some (V.ref r), some (.int many), u, v] H (.ref r) := fun {H u v} => ev_var rfl
  have x1 : ∀ {H : Hp} {u v : Option V}, EV (tVar 1) [some (V.ref r), some (.int many), u, v] H (.int many) := fun {H u v} => ev_var rfl
  have hmod : ∀ i : Int, 0 ≤ i % many ∧ i % many < many := fun i => ⟨Int.emod_nonneg _ (by omega), Int.emod_lt_of_pos _ (by omega)⟩
  refine v_if (b := decide (0 < c)) (ev_0 (ev_ix x0 s0 ev_int rfl) ev_int) (fun h1 => ?_) (fun h1 => ?_)
  · -- what is left of a wide cell
    refine v_set (ev_C (C := fun _ j => 0 < j) (ev_toInt (ev_ix x0 s0 ev_int rfl)) x1 (by omega)) ?_
    show tSeq _ _ _ [some (V.ref r), some (.int many), some (.int (c % many)), none] H
    refine v_sub (k := 3) (ev_C (C := CDiv) (ev_ix x0 s0 ev_int rfl) x1 (by unfold CDiv; omega)) rfl R.at_ (by simp) ?_
    refine v_ret (ev_var (i := 2) rfl) ?_
    exact k (c % many) _ (hmod c).1 (hmod c).2 ⟨a, b, c / many, R.upd R.a0 R.b0 R.b1⟩
  · -- the next cell
    show tSeq _ _ _ [some (V.ref r), some (.int many), none, none] H
    refine v_sub (k := 1) (ev_0 (ev_ix x0 s0 ev_int rfl) ev_int) rfl R.at_ (by simp) ?_
    have R1 : RowAt K (upd H r (.lst [.ref sc, .int (a + 1), .int b, .int c])) r sc ns (a + 1) b c := R.upd (by have := R.a0; omega) R.b0 R.b1
    obtain ⟨H1, e1⟩ : ∃ H1, H1 = upd H r (.lst [.ref sc, .int (a + 1), .int b, .int c]) := ⟨_, rfl⟩
    show tSeq _ _ _ _ (upd H r (.lst [.ref sc, .int (a + 1), .int b, .int c]))
    rw [← e1] at R1 ⊢
    have s1 : SqL K H1 r _ := SqL.of R1.at_
    have hb0 := R1.b0
    have hb1 := R1.b1
    refine v_if (b := decide ((ns.length : Int) < a + 1)) (ev_0 (ev_ix x0 s1 ev_int rfl) (by have := ev_len (K := K) (ev_ix (K := K) (x0 (H := H1) (u := none) (v := none)) s1 (ev_int (i := 0)) rfl) R1.sq; rw [List.length_map] at this; exact this)) (fun h2 => ?_) (fun h2 => ?_)
    · -- none is left
      refine v_sub (k := 2) (ev_C (C := fun _ j => 0 < j) (ev_toInt (ev_0 (ev_C (C := CMul) (ev_ix x0 s1 ev_int rfl) ev_int (by unfold CMul; omega)) ev_int)) ev_int (by decide)) rfl R1.at_ (by simp) ?_
      have R2 : RowAt K (upd H1 r (.lst [.ref sc, .int (a + 1), .int ((b * 48271 + 11) % 2147483647), .int c])) r sc ns (a + 1) ((b * 48271 + 11) % 2147483647) c := R1.upd R1.a0 (by omega) (by omega)
      have s2 : SqL K _ r _ := SqL.of R2.at_
      refine v_ret (ev_C (C := fun _ j => 0 < j) (ev_toInt (ev_C (C := CDiv) (ev_ix x0 s2 ev_int rfl) ev_int (by unfold CDiv; omega))) x1 (by omega)) ?_
      show Q (.int ((b * 48271 + 11) % 2147483647 / 7 % many)) (upd H1 r (.lst [.ref sc, .int (a + 1), .int ((b * 48271 + 11) % 2147483647), .int c]))
      rw [e1, upd_upd] at R2 ⊢
      exact k _ _ (hmod _).1 (hmod _).2 ⟨_, _, _, R2⟩
    · -- a cell
      have h2' : a + 1 ≤ ns.length := by have := of_decide_eq_false h2; omega
      have ha0 := R.a0
      refine v_set (ev_ix (v := .int (ns.getD a.toNat 0)) (ev_ix x0 s1 ev_int rfl) R1.sq (ev_0 (ev_ix x0 s1 ev_int rfl) ev_int) ?_) ?_
      · show atI (ns.map V.int) (a + 1 - 1) = _
        unfold atI ixN
        rw [List.length_map, if_pos (by omega), if_pos (by omega)]
        show (ns.map V.int)[(a + 1 - 1).toNat]? = _
        rw [show (a + 1 - 1).toNat = a.toNat by omega, List.getElem?_map, List.getElem?_eq_getElem (by omega), List.getD_eq_getElem?_getD, List.getElem?_eq_getElem (by omega)] <;> rfl
      show tSeq _ _ _ [some (V.ref r), some (.int many), none, some (.int (ns.getD a.toNat 0))] H1
      have x3 : ∀ {H : Hp}, EV (tVar 3) [some (V.ref r), some (.int many), none, some (.int (ns.getD a.toNat 0))] H (.int (ns.getD a.toNat 0)) := fun {H} => ev_var rfl
      refine v_sub (k := 2) (ev_C (C := fun _ j => 0 < j) (ev_toInt (ev_0 (ev_0 (ev_C (C := CMul) (ev_ix x0 s1 ev_int rfl) ev_int (by unfold CMul; omega)) x3) ev_int)) ev_int (by decide)) rfl R1.at_ (by simp) ?_
      have R2 : RowAt K (upd H1 r (.lst [.ref sc, .int (a + 1), .int ((b * 48271 + ns.getD a.toNat 0 + 11) % 2147483647), .int c])) r sc ns (a + 1) ((b * 48271 + ns.getD a.toNat 0 + 11) % 2147483647) c := R1.upd R1.a0 (by omega) (by omega)
      obtain ⟨H2, e2⟩ : ∃ H2, H2 = upd H1 r (.lst [.ref sc, .int (a + 1), .int ((b * 48271 + ns.getD a.toNat 0 + 11) % 2147483647), .int c]) := ⟨_, rfl⟩
      show tSeq _ _ _ _ (upd H1 r (.lst [.ref sc, .int (a + 1), .int ((b * 48271 + ns.getD a.toNat 0 + 11) % 2147483647), .int c]))
      rw [← e2] at R2 ⊢
      refine v_if (b := decide (10 ^ (18 : Int).toNat ≤ ns.getD a.toNat 0)) (ev_0 x3 (ev_C (C := CPow) ev_int ev_int (by unfold CPow; decide))) (fun h3 => ?_) (fun h3 => ?_)
      · refine v_sub1 (k := 3) (ev_C (C := CDiv) x3 x1 (by unfold CDiv; omega)) rfl R2.at_ (by simp) ?_
        have R3 : RowAt K (upd H2 r (.lst [.ref sc, .int (a + 1), .int ((b * 48271 + ns.getD a.toNat 0 + 11) % 2147483647), .int (ns.getD a.toNat 0 / many)])) r sc ns (a + 1) ((b * 48271 + ns.getD a.toNat 0 + 11) % 2147483647) (ns.getD a.toNat 0 / many) := R2.upd R2.a0 R2.b0 R2.b1
        refine v_ret (ev_C (C := fun _ j => 0 < j) (ev_toInt x3) x1 (by omega)) ?_
        show Q (.int (ns.getD a.toNat 0 % many)) (upd H2 r (.lst [.ref sc, .int (a + 1), .int ((b * 48271 + ns.getD a.toNat 0 + 11) % 2147483647), .int (ns.getD a.toNat 0 / many)]))
        rw [e2, upd_upd, e1, upd_upd] at R3 ⊢
        exact k _ _ (hmod _).1 (hmod _).2 ⟨_, _, _, R3⟩
      · refine v_ret (ev_C (C := fun _ j => 0 < j) (ev_toInt x3) x1 (by omega)) ?_
        show Q (.int (ns.getD a.toNat 0 % many)) H2
        rw [e2, e1, upd_upd] at R2 ⊢
        exact k _ _ (hmod _).1 (hmod _).2 ⟨_, _, _, R2⟩
end
end LX

set_option Elab.async false
set_option linter.all false
set_option maxRecDepth 100000
set_option maxHeartbeats 4000000
set_option autoImplicit false
namespace LX
open PySem PySem.Spec PyProof.Rows L2 Evl
abbrev FM (r : Addr) (Hb H1 Hr H2 : Hp) : Prop := FrM (fun a => a = r) Hb H1 Hr H2
section
variable {r D : Addr} {Hb H H1 Hr H2 Hs H3 : Hp} {o : HO}
theorem FM.upd (f : FM r Hb H1 Hr H2) (h : Hr r = none) : FM r Hb H1 Hr (upd H2 r o) :=
  ⟨f.b, fun a u m z => by rw [upd_ne m]; exact f.h a u m z, f.r.mut h, f.n, fun a z => by
    by_cases q : a = r
    · rw [q, upd_same]; exact fun y => nomatch y
    · rw [upd_ne q]; exact f.d a z⟩
theorem FM.mutate (x : FM r Hb H1 Hr H2) (h1 : H1 D = none) (h2 : Hr D = none) : FM r Hb H1 Hr (L2.upd H2 D o) :=
  ⟨x.b, fun a u m z => by rw [upd_ne (ne_of_none z h1)]; exact x.h a u m z, x.r.mut h2, x.n, fun a z => by
    by_cases q : a = D
    · rw [q, upd_same]; exact fun y => nomatch y
    · rw [upd_ne q]; exact x.d a z⟩
theorem FM.freeze (x : FM r Hb H1 Hr H2) (h1 : H1 D = none) (h2 : Hr D = none) (h3 : H2 D = some o) : FM r Hb H1 (L2.upd Hr D o) H2 := by
  refine ⟨x.b.trans (Ex.new h2), x.h, fun a u h => ?_, fun a g1 g2 => ?_, x.d⟩
  · by_cases e : a = D
    · subst e
      rw [upd_same] at h
      rw [h3]
      exact h
    · rw [upd_ne e] at h
      exact x.r a u h
  · have : a ≠ D := fun z => g2 (z ▸ h1)
    rw [upd_ne this]
    exact x.n a g1 g2
theorem FM.mut (f : FM r Hb H1 Hr H2) (hD : D ≠ r) (h1 : Hb D = none) (h2 : H1 D = some o) : Hr D = none ∧ H2 D = some o :=
  ⟨f.n D h1 (by rw [h2]; exact fun z => nomatch z), f.h D o hD h2⟩
end
/-! ### what evaluates, with draws, to what is so -/
def EM (K : PySem.W.Frag) (ρ : Rw) (te : TE) (σ : L2.St) (Hb : Hp) (Φ : PyData → Prop) : Prop := ∀ H1, Ex Hb H1 → Hb ρ.r = none → RowOk K H1 ρ → ∀ Q : VK, (∀ v Hr H2 d, FM ρ.r Hb H1 Hr H2 → RowOk K H2 ρ → Φ d → Dt Hr v d → Q v H2) → te σ H1 Q
def EMT (K : PySem.W.Frag) (ρ : Rw) (tt : TT) (σ : L2.St) (Hb : Hp) : Prop := ∀ H1, Ex Hb H1 → Hb ρ.r = none → RowOk K H1 ρ → ∀ Q : Bool → Hp → Prop, (∀ b Hr H2, FM ρ.r Hb H1 Hr H2 → RowOk K H2 ρ → Q b H2) → tt σ H1 Q
def IntIn (B : Int) (d : PyData) : Prop := ∃ k : Int, d = .int k ∧ 0 ≤ k ∧ k < B
section
variable {K : PySem.W.Frag} {ρ : Rw} {σ : L2.St} {Hb H : Hp} {ta tb te : TE} {tt : TT} {wi : TI} {vs : List Nat} {Φ Ψ Θ : PyData → Prop} {d : PyData} {rr : R2} {D : Ends} {tz : TS}
theorem FM.rn {H1 Hr H2 : Hp} (f : FM ρ.r Hb H1 Hr H2) (h : Hb ρ.r = none) (ro : RowOk K H1 ρ) : Hr ρ.r = none := f.n ρ.r h ro.ne
theorem em_pure (h : ED te σ Hb d) : EM K ρ te σ Hb (fun x => x = d) := fun H1 e nr ro Q q => h H1 e _ fun v Hr H2 f hd => q v Hr H2 d (FrM.of f) (ro.ex f.h) rfl hd
theorem em_weak (h : EM K ρ te σ Hb Φ) (w : ∀ d, Φ d → Ψ d) : EM K ρ te σ Hb Ψ := fun H1 e nr ro Q q => h H1 e nr ro _ fun v Hr H2 d f ro2 hd dv => q v Hr H2 d f ro2 (w d hd) dv
theorem em_take {i : Nat} {B : Int} (hs : σ[i]? = some (some (.ref ρ.r))) (h : EM K ρ te σ Hb Φ) (hΦ : ∀ d, Φ d → ∃ m : Int, d = .int m ∧ 1 ≤ m ∧ m ≤ B) (hB : B ≤ 1000) :
    EM K ρ (tCall (spTaken K) [] E0 (tCons (tVar i) (tCons te tNil))) σ Hb (IntIn B) := fun H1 e nr ro Q q =>
  ⟨.ref ρ.r, hs, h H1 e nr ro _ fun v Hr H2 d f ro2 hd dv => by
    obtain ⟨m, rfl, h1, h2⟩ := hΦ d hd
    obtain rfl := dv.int_eq
    exact ⟨ρ, m, rfl, h1, by omega, ro2, fun k o hk0 hkm ro3 => q (.int k) Hr (upd H2 ρ.r o) (.int k) (f.upd (f.rn nr ro)) ro3 ⟨k, rfl, hk0, by omega⟩ (.int k)⟩⟩
theorem em_take1 {i : Nat} {B : Int} (hs : σ[i]? = some (some (.ref ρ.r))) (h : ED te σ Hb (.int B)) (h1 : 1 ≤ B) (hB : B ≤ 1000) : EM K ρ (tCall (spTaken K) [] E0 (tCons (tVar i) (tCons te tNil))) σ Hb (IntIn B) :=
  em_take hs (em_pure h) (fun d hd => ⟨B, hd, h1, Int.le_refl _⟩) hB
theorem em_op (h1 : EM K ρ ta σ Hb Φ) (h2 : ∀ Hs, Ex Hb Hs → EM K ρ tb σ Hs Ψ) (hr : ∀ x y, Φ x → Ψ y → ∃ d, OR rr x y d ∧ Θ d) : EM K ρ (tOp rr ta tb) σ Hb Θ := fun H1 e nr ro Q q =>
  h1 H1 e nr ro _ fun vx Hr H2 x f ro2 hx dx => h2 Hr f.b H2 f.r (f.rn nr ro) ro2 _ fun vy Hs H3 y g ro3 hy dy => by
    obtain ⟨d, o, t⟩ := hr x y hx hy
    exact o Hs H3 vx vy g.r (dx.mono g.b) dy Q fun v Ht H4 k hd => q v Ht H4 d ((f.trans g).trans (FrM.of k)) (ro3.ex k.h) t hd
theorem em_cb1 {rc : List V → Hp → VK → Prop} (h : EM K ρ te σ Hb Φ) (hr : ∀ x, Φ x → ∃ d, BR rc [x] d ∧ Θ d) : EM K ρ (tCB rc (tCons te tNil)) σ Hb Θ := fun H1 e nr ro Q q =>
  h H1 e nr ro _ fun vx Hr H2 x f ro2 hx dx => by
    obtain ⟨d, o, t⟩ := hr x hx
    exact o Hr H2 [vx] f.r (.one dx) Q fun v Ht H4 k hd => q v Ht H4 d (f.trans (FrM.of k)) (ro2.ex k.h) t hd
theorem em_test (h : EM K ρ te σ Hb Φ) (hb : ∀ d, Φ d → ∃ b, d = .bool b) : EMT K ρ (tTest te) σ Hb := fun H1 e nr ro Q q => h H1 e nr ro _ fun v Hr H2 d f ro2 hd dv => by
  obtain ⟨b, rfl⟩ := hb d hd
  exact ⟨b, dv.bl_eq, q b Hr H2 f ro2⟩
theorem em_tup2 (h1 : EM K ρ ta σ Hb Φ) (h2 : ∀ Hs, Ex Hb Hs → EM K ρ tb σ Hs Ψ) : EM K ρ (tTup (tCons ta (tCons tb tNil))) σ Hb (fun d => ∃ x y, d = .tuple [x, y] ∧ Φ x ∧ Ψ y) := fun H1 e nr ro Q q =>
  h1 H1 e nr ro _ fun vx Hr H2 x f ro2 hx dx => h2 Hr f.b H2 f.r (f.rn nr ro) ro2 _ fun vy Hs H3 y g ro3 hy dy => ⟨by show 2 ≤ sizeLine; decide, fun p hp => by
    have k := Fr.new (o := .tup [vx, vy]) g.r hp
    exact q _ _ _ _ ((f.trans g).trans (FrM.of k)) (ro3.ex k.h) ⟨x, y, rfl, hx, hy⟩ (.tup upd_same (.cons ((dx.mono g.b).mono k.b) (.one (dy.mono k.b))))⟩
theorem sm_set {i : Nat} (eb : Ex Hb H) (nr : Hb ρ.r = none) (ro : RowOk K H ρ) (h : EM K ρ te σ Hb Φ) (k : ∀ v Hr H' d, FM ρ.r Hb H Hr H' → Hr ρ.r = none → RowOk K H' ρ → Φ d → Dt Hr v d → tz D (σ.set i (some v)) H') : tSeq (tAsg te (gName i)) tz D σ H :=
  h H eb nr ro _ fun v Hr H' d f ro2 hd dv => k v Hr H' d f (f.rn nr ro) ro2 hd dv
theorem sm_set1 {i : Nat} (eb : Ex Hb H) (nr : Hb ρ.r = none) (ro : RowOk K H ρ) (h : EM K ρ te σ Hb Φ) (k : ∀ v Hr H' d, FM ρ.r Hb H Hr H' → Hr ρ.r = none → RowOk K H' ρ → Φ d → Dt Hr v d → D.nx (σ.set i (some v)) H') : tAsg te (gName i) D σ H :=
  h H eb nr ro _ fun v Hr H' d f ro2 hd dv => k v Hr H' d f (f.rn nr ro) ro2 hd dv
theorem sm_ret (eb : Ex Hb H) (nr : Hb ρ.r = none) (ro : RowOk K H ρ) (h : EM K ρ te σ Hb Φ) (k : ∀ v Hr H' d, FM ρ.r Hb H Hr H' → RowOk K H' ρ → Φ d → Dt Hr v d → D.rt v H') : tRet te D σ H := h H eb nr ro _ k
theorem sm_par {i j : Nat} (eb : Ex Hb H) (nr : Hb ρ.r = none) (ro : RowOk K H ρ) (h1 : EM K ρ ta σ Hb Φ) (h2 : ∀ Hs, Ex Hb Hs → EM K ρ tb σ Hs Ψ)
    (k : ∀ v w Hr H' x y, FM ρ.r Hb H Hr H' → Hr ρ.r = none → RowOk K H' ρ → Φ x → Ψ y → Dt Hr v x → Dt Hr w y → tz D ((σ.set i (some v)).set j (some w)) H') : tSeq (tPar i j (tCons ta (tCons tb tNil))) tz D σ H :=
  h1 H eb nr ro _ fun vx Hr H2 x f ro2 hx dx => h2 Hr f.b H2 f.r (f.rn nr ro) ro2 _ fun vy Hs H3 y g ro3 hy dy => ⟨vx, vy, rfl, k vx vy Hs H3 x y (f.trans g) (FM.rn (f.trans g) nr ro) ro3 hx hy (dx.mono g.b) dy⟩
theorem sm_asg2 {i j : Nat} (eb : Ex Hb H) (nr : Hb ρ.r = none) (ro : RowOk K H ρ) (h1 : EM K ρ ta σ Hb Φ) (h2 : ∀ Hs, Ex Hb Hs → EM K ρ tb σ Hs Ψ)
    (k : ∀ v w Hr H' x y, FM ρ.r Hb H Hr H' → Hr ρ.r = none → RowOk K H' ρ → Φ x → Ψ y → Dt Hr v x → Dt Hr w y → tz D ((σ.set i (some v)).set j (some w)) H') : tSeq (tAsg (tTup (tCons ta (tCons tb tNil))) (gTup K 2 (gCons (gName i) (gCons (gName j) gNil)))) tz D σ H :=
  h1 H eb nr ro _ fun vx Hr H2 x f ro2 hx dx => h2 Hr f.b H2 f.r (f.rn nr ro) ro2 _ fun vy Hs H3 y g ro3 hy dy => by
    refine ⟨by show 2 ≤ sizeLine; decide, fun p hp => ?_⟩
    have fn := Fr.new (o := .tup [vx, vy]) g.r hp
    have ft := (f.trans g).trans (FrM.of fn)
    exact ⟨p, _, rfl, .inl (.inl upd_same), rfl, vx, [vy], rfl, vy, [], rfl, rfl, k vx vy _ _ x y ft (FM.rn ft nr ro) (ro3.ex fn.h) hx hy ((dx.mono g.b).mono fn.b) (dy.mono fn.b)⟩
theorem em_lc {α : Type} {A : List α} {enc : α → PyData} {j : Nat} (w : EW wi σ Hb (A.map enc)) (hz : A.length ≤ 100000) (hj : j ∈ vs)
    (he : ∀ a ∈ A, ∀ v H', Ex Hb H' → Dt H' v (enc a) → EM K ρ te ((L2.wipe σ vs).set j (some v)) H' Φ) :
    EM K ρ (tLc wi (gName j) tYes te vs) σ Hb (fun d => ∃ ds, d = .list ds ∧ ds.length = A.length ∧ ∀ x ∈ ds, Φ x) := fun H0 e0 nr ro0 Q q => w H0 e0 _ fun J G xs Hr H1 f wk hG hx D hD => by
  have hl : xs.length = A.length := by rw [hx.len, List.length_map]
  have ro1 : RowOk K H1 ρ := ro0.ex f.h
  have hDr : D ≠ ρ.r := fun z => ro1.ne (z ▸ hD)
  have nr1 : Hr ρ.r = none := f.n ρ.r nr ro0.ne
  refine lc_it wk (fun i H' => ∃ Hs ys ds, FM ρ.r Hr H1 Hs H' ∧ RowOk K H' ρ ∧ Hs D = none ∧ H' D = some (.lst ys) ∧ DtA Hs ys ds ∧ ds.length = i ∧ ∀ x ∈ ds, Φ x) ?_ ?_ ?_ ?_
  · have hrD := fresh_back f.r hD
    exact ⟨Hr, [], [], FM.mutate (FrM.of (Fr.refl f.r)) hD hrD, ro1.ex (Ex.new hD), hrD, upd_same, .nil, rfl, fun _ h => nomatch h⟩
  · rintro i H' hi ⟨Hs, ys, ds, g, _⟩
    exact hG H' (g.b.trans g.r)
  · rintro i v H' H'' hi ⟨Hs, ys, ds, g, ro, g1, g2, g3, g4, g5⟩ ⟨rfl, hv⟩
    obtain ⟨a, ha⟩ : ∃ a, A[i]? = some a := ⟨A[i]'(by omega), List.getElem?_eq_getElem (by omega)⟩
    have hmem : a ∈ A := List.mem_of_getElem? ha
    obtain ⟨v', hv', hd⟩ := hx.get (i := i) (d := enc a) (by rw [List.getElem?_map, ha]; rfl)
    rw [hv] at hv'
    cases hv'
    refine ⟨wipe_wipe hj, yes_go ?_⟩
    refine (he a hmem v Hs (f.b.trans g.b) (hd.mono g.b)) H'' g.r (g.rn nr1 ro1) ro _ fun y Hu H4 dy l ro4 py hy => ?_
    obtain ⟨l1, l2⟩ := l.mut hDr g1 g2
    have hyl := g3.len
    refine ⟨ys, l2, sz_lt (by omega), Hu, ys ++ [y], ds ++ [dy], FM.mutate (g.trans l) hD l1, ?_, l1, upd_same, (g3.mono l.b).app (.one hy), by rw [List.length_append, g4] <;> rfl, fun x hx => ?_⟩
    · exact ro1.at_new hD ro4
    · rcases List.mem_append.mp hx with z | z
      · exact g5 x z
      · rw [List.mem_singleton.mp z]; exact py
  · rintro H' ⟨Hs, ys, ds, g, ro, g1, g2, g3, g4, g5⟩
    have ff := (FrM.of (M := fun a => a = ρ.r) f).trans (g.freeze hD g1 g2)
    exact q _ (upd Hs D (.lst ys)) H' _ ff ro ⟨ds, rfl, by rw [g4, hl], g5⟩ (.lst upd_same (g3.mono (Ex.new g1)))
theorem em_lcIf {α : Type} {A : List α} {enc enc' : α → PyData} {j : Nat} (w : EW wi σ Hb (A.map enc)) (hz : A.length ≤ 100000) (hj : j ∈ vs)
    (ht : ∀ a ∈ A, ∀ v H', Ex Hb H' → Dt H' v (enc a) → EMT K ρ tt ((L2.wipe σ vs).set j (some v)) H')
    (he : ∀ a ∈ A, ∀ v H', Ex Hb H' → Dt H' v (enc a) → ED te ((L2.wipe σ vs).set j (some v)) H' (enc' a)) :
    EM K ρ (tLc wi (gName j) tt te vs) σ Hb (fun d => ∃ B : List α, B.Sublist A ∧ d = .list (B.map enc')) := fun H0 e0 nr ro0 Q q => w H0 e0 _ fun J G xs Hr H1 f wk hG hx D hD => by
  have hl : xs.length = A.length := by rw [hx.len, List.length_map]
  have ro1 : RowOk K H1 ρ := ro0.ex f.h
  have hDr : D ≠ ρ.r := fun z => ro1.ne (z ▸ hD)
  have nr1 : Hr ρ.r = none := f.n ρ.r nr ro0.ne
  refine lc_it wk (fun i H' => ∃ Hs ys, ∃ B : List α, FM ρ.r Hr H1 Hs H' ∧ RowOk K H' ρ ∧ Hs D = none ∧ H' D = some (.lst ys) ∧ DtA Hs ys (B.map enc') ∧ B.Sublist (A.take i) ∧ ys.length ≤ i) ?_ ?_ ?_ ?_
  · have hrD := fresh_back f.r hD
    exact ⟨Hr, [], [], FM.mutate (FrM.of (Fr.refl f.r)) hD hrD, ro1.ex (Ex.new hD), hrD, upd_same, .nil, List.nil_sublist _, Nat.le_refl _⟩
  · rintro i H' hi ⟨Hs, ys, B, g, _⟩
    exact hG H' (g.b.trans g.r)
  · rintro i v H' H'' hi ⟨Hs, ys, B, g, ro, g1, g2, g3, g4, g5⟩ ⟨rfl, hv⟩
    obtain ⟨a, ha⟩ : ∃ a, A[i]? = some a := ⟨A[i]'(by omega), List.getElem?_eq_getElem (by omega)⟩
    have hmem : a ∈ A := List.mem_of_getElem? ha
    obtain ⟨v', hv', hd⟩ := hx.get (i := i) (d := enc a) (by rw [List.getElem?_map, ha]; rfl)
    rw [hv] at hv'
    cases hv'
    have ek : A.take (i + 1) = A.take i ++ [a] := by rw [List.take_add_one, ha] <;> rfl
    refine ⟨wipe_wipe hj, (ht a hmem v Hs (f.b.trans g.b) (hd.mono g.b)) H'' g.r (FM.rn g nr1 ro1) ro _ fun b Ht H3 k ro3 => ?_⟩
    obtain ⟨k1, k2⟩ := FM.mut k hDr g1 g2
    cases b with
    | false =>
      rw [if_neg (by decide)]
      refine ⟨Ht, ys, B, g.trans k, ro3, k1, k2, g3.mono k.b, ?_, by omega⟩
      rw [ek]
      exact g4.trans (List.sublist_append_left _ _)
    | true =>
      rw [if_pos rfl]
      refine (he a hmem v Ht (f.b.trans (g.b.trans k.b)) ((hd.mono g.b).mono k.b)) H3 k.r _ fun y Hu H4 l hy => ?_
      obtain ⟨l1, l2⟩ := l.mut k1 k2
      refine ⟨ys, l2, sz_lt (by omega), Hu, ys ++ [y], B ++ [a], FM.mutate ((g.trans k).trans (FrM.of l)) hD l1, ro1.at_new hD (ro3.ex l.h), l1, upd_same, ?_, ?_, by rw [List.length_append]; show ys.length + 1 ≤ _; omega⟩
      · rw [List.map_append]
        exact (g3.mono (k.b.trans l.b)).app (.one hy)
      · rw [ek]
        exact g4.append (List.Sublist.refl _)
  · rintro H' ⟨Hs, ys, B, g, ro, g1, g2, g3, g4, g5⟩
    have ff := (FrM.of (M := fun a => a = ρ.r) f).trans (FM.freeze g hD g1 g2)
    rw [hl, List.take_length] at g4
    exact q _ (upd Hs D (.lst ys)) H' _ ff ro ⟨B, g4, rfl⟩ (.lst upd_same (g3.mono (Ex.new g1)))
theorem ints_of : ∀ {ds : List PyData} {B : Int}, (∀ x ∈ ds, IntIn B x) → ∃ ns : List Int, ds = ns.map .int ∧ ∀ n ∈ ns, 0 ≤ n ∧ n < B
  | [], _, _ => ⟨[], rfl, fun _ h => nomatch h⟩
  | d :: ds, B, h => by
    obtain ⟨k, rfl, k1, k2⟩ := h d List.mem_cons_self
    obtain ⟨ns, rfl, h2⟩ := ints_of (ds := ds) (B := B) fun x hx => h x (List.mem_cons_of_mem _ hx)
    refine ⟨k :: ns, rfl, fun n hn => ?_⟩
    rcases List.mem_cons.mp hn with z | z
    · rw [z]; exact ⟨k1, k2⟩
    · exact h2 n z
def TupOf (n : Nat) (d : PyData) : Prop := ∃ ns : List Int, d = Ti ns ∧ Bits ns ∧ ns.length = n
/-- tuple([bit for ..]) -/
theorem em_bits {n : Nat} (h : EM K ρ te σ Hb (fun d => ∃ ds, d = .list ds ∧ ds.length = n ∧ ∀ x ∈ ds, IntIn 2 x)) : EM K ρ (tCB (rTupOf K) (tCons te tNil)) σ Hb (TupOf n) :=
  em_cb1 h fun x hx => by
    obtain ⟨ds, rfl, hl, h2⟩ := hx
    obtain ⟨ns, rfl, h3⟩ := ints_of h2
    exact ⟨_, br_tuple, ns, rfl, h3, by rw [← hl, List.length_map]⟩
/-- the promise of a def that draws -/
def spM (K : PySem.W.Frag) (Pre : List PyData → Prop) (R : List PyData → PyData → Prop) : Sp := fun vs H Q _ => ∃ (ρ : Rw) (us : List V) (ds : List PyData) (Hb : Hp), vs = .ref ρ.r :: us ∧ Ex Hb H ∧ Hb ρ.r = none ∧ RowOk K H ρ ∧ DtA Hb us ds ∧ Pre ds ∧
  ∀ v Hr H2 d, FM ρ.r Hb H Hr H2 → RowOk K H2 ρ → R ds d → Dt Hr v d → Q v H2
theorem em_call {i : Nat} {Pre : List PyData → Prop} {R : List PyData → PyData → Prop} {ta : TA} {ds : List PyData} (hs : σ[i]? = some (some (.ref ρ.r))) (h : EA ta σ Hb ds) (hp : Pre ds) : EM K ρ (tCall (spM K Pre R) [] E0 (tCons (tVar i) ta)) σ Hb (R ds) := fun H1 e nr ro Q q =>
  ⟨.ref ρ.r, hs, h H1 e _ fun us Hr H2 f hd => ⟨ρ, us, ds, Hr, by rw [List.append_nil], f.r, f.n ρ.r nr ro.ne, ro.ex f.h, hd, hp, fun v Hs H3 d g ro3 hR dv => q v Hs H3 d ((FrM.of f).trans g) ro3 hR dv⟩⟩
end
section
variable {P : Program} {w : World} {K : PySem.W.Frag} {mg : PySem.Str → Option Value} {base : Heap}
/-! ### _law_taps -/
-- _law_taps: cells ['_law_prime', '_law_row']; slots 0 _law_row, 1 _law_prime, 2 _law_most, 3 _law_size, 4 _law_taps_here, 5 _law_at
abbrev s_law_taps : Stmt := topS 51
abbrev N_law_taps : List PySem.Str := ["_law_row", "_law_prime", "_law_most", "_law_size", "_law_taps_here", "_law_at"]
abbrev P_law_taps : List PySem.Str := ["_law_row", "_law_prime", "_law_most"]
theorem sc_law_taps : FnScope N_law_taps P_law_taps (defScope s_law_taps) := fscope_by (by decide +kernel)
def PreTaps (ds : List PyData) : Prop := ds = [.int 2, .int 7]
def RlawTaps (_ : List PyData) (d : PyData) : Prop := ∃ taps start : List Int, d = .tuple [Ti taps, Ti start] ∧ Bits taps ∧ Bits start ∧ start.length = taps.length ∧ taps.length ≤ 7
theorem ok_law_taps (T : Txt K mg) (F : Df K mg "_law_taps" s_law_taps P_law_taps) (c_law_taken : C8.Cal P w K mg base 1 "_law_taken" (spTaken K) []) : C8.Cal P w K mg base 2 "_law_taps" (spM K PreTaps RlawTaps) [] := by
  obtain ⟨f, fd, hF, hm, hb⟩ := F.ex
  refine ⟨f, fd, _, [], hF.ok sc_law_taps (fun vs H Q E h => by obtain ⟨_, us, ds, _, rfl, _, _, _, h1, h2, _⟩ := h; rw [List.length_cons, h1.len, show ds = _ from h2] <;> rfl) (fun cdv A outer s H vs Q E hr h => ⟨_,
    (pss_cons (ps_set (i := 3) sc_law_taps.nd rfl (by first | exact Or.inl rfl | exact Or.inr rfl) (C8.pe_c c_law_taken hr (by decide) (by rfl) (pa_cons (pv 0) (pa_cons (pe_op op_add (pv 2) pe_int) pa_nil))))
      (pss_cons (ps_set (i := 4) sc_law_taps.nd rfl (by first | exact Or.inl rfl | exact Or.inr rfl) (pe_callTy (r := rTupOf K) call_tuple_of (by rfl) T.tuple bt_tuple (pa_cons (pe_lc (own := [("_law_at", 5)]) (wi := iRng1 _) (g := (gName 5)) (tt := tYes) (by rfl) sc_law_taps.nd (pi_range1 (by rfl) T.range (pa_cons (pv 3) pa_nil)) (blkOk_by (own := [("_law_at", 5)]) (N := N_law_taps) (sc := (defScope s_law_taps)) (by decide +kernel)) (fun _ _ _ _ _ => (pg_name (i := 5) sc_law_taps.nd rfl (by first | exact Or.inl rfl | exact Or.inr rfl))) (fun _ _ _ _ _ => pts_nil) (fun _ _ _ _ _ => (C8.pe_c c_law_taken hr (by decide) (by rfl) (pa_cons (pv 0) (pa_cons (pv 1) pa_nil))))) pa_nil)))
      (pss_one (ps_ret (pe_tup (pa_cons (pv 4) (pa_cons (pe_callTy (r := rTupOf K) call_tuple_of (by rfl) T.tuple bt_tuple (pa_cons (pe_lc (own := [("_law_at", 5)]) (wi := iRng1 _) (g := (gName 5)) (tt := tYes) (by rfl) sc_law_taps.nd (pi_range1 (by rfl) T.range (pa_cons (pv 3) pa_nil)) (blkOk_by (own := [("_law_at", 5)]) (N := N_law_taps) (sc := (defScope s_law_taps)) (by decide +kernel)) (fun _ _ _ _ _ => (pg_name (i := 5) sc_law_taps.nd rfl (by first | exact Or.inl rfl | exact Or.inr rfl))) (fun _ _ _ _ _ => pts_nil) (fun _ _ _ _ _ => (C8.pe_c c_law_taken hr (by decide) (by rfl) (pa_cons (pv 0) (pa_cons (pv 1) pa_nil))))) pa_nil)) pa_nil))))))), ?_⟩), hm, hF.kp, hb, .nil⟩
  obtain ⟨ρ, us, ds, Hb, rfl, eb, nr, ro, hu, rfl, k⟩ := h
  obtain ⟨u1, u2, rfl, q1, q2⟩ := hu.two_eq
  obtain rfl := q1.int_eq
  obtain rfl := q2.int_eq
  show tSeq _ _ _ [some (V.ref ρ.r), some (.int 2), some (.int 7), none, none, none] H
  refine sm_set eb nr ro (em_take1 (B := 8) rfl (ed_is (ed_op (ed_at (i := 2) rfl (.int 7)) ed_int or_add) rfl) (by decide) (by decide)) fun v1 H1 H' d1 f1 nr1 ro1 hd1 dv1 => ?_
  obtain ⟨n, rfl, n0, n1⟩ := hd1
  obtain rfl := dv1.int_eq
  show tSeq _ _ _ [some (V.ref ρ.r), some (.int 2), some (.int 7), some (.int n), none, none] H'
  have bits : ∀ (t : Option V) (Hq : Hp), EM K ρ (tCB (rTupOf K) (tCons (tLc (iRng1 (tCons (tVar 3) tNil)) (gName 5) tYes (tCall (spTaken K) [] E0 (tCons (tVar 0) (tCons (tVar 1) tNil))) [5]) tNil)) [some (V.ref ρ.r), some (.int 2), some (.int 7), some (.int n), t, none] Hq (TupOf n.toNat) := fun t Hq =>
    em_bits (em_weak (em_lc (A := List.range n.toNat) (enc := fun i : Nat => .int i) (Φ := IntIn 2) (ew_rng1 (n := n) (ea_cons (ed_at rfl (.int n)) ea_nil) (by omega)) (by simp; omega) (by decide) fun a ha v H3 e3 hv => em_take1 (B := 2) rfl (ed_at (i := 1) rfl (.int 2)) (by decide) (by decide)) fun d hd => by
      obtain ⟨ds, h1, h2, h3⟩ := hd
      exact ⟨ds, h1, by rw [h2, List.length_range], h3⟩)
  refine sm_set f1.r nr1 ro1 (bits none H1) fun v2 H2 H'' d2 f2 nr2 ro2 hd2 dv2 => ?_
  obtain ⟨taps, rfl, b1, l1⟩ := hd2
  show tRet _ _ [some (V.ref ρ.r), some (.int 2), some (.int 7), some (.int n), some v2, none] H''
  refine sm_ret f2.r nr2 ro2 (em_tup2 (em_pure (ed_at (i := 4) rfl dv2)) fun Hs es => bits (some v2) Hs) fun v H3 H4 d f3 ro3 hd dv => k v H3 H4 d ((f1.trans f2).trans f3) ro3 ?_ dv
  obtain ⟨x, y, rfl, rfl, ⟨st, rfl, b2, l2⟩⟩ := hd
  exact ⟨taps, st, rfl, b1, b2, by omega, by omega⟩
/-! ### _law_bit_table -/
-- _law_bit_table: cells ['_law_add', '_law_row', '_law_size', '_law_state', '_law_told']; slots 0 _law_row, 1 _law_size, 2 _law_states, 3 _law_way, 4 _law_told, 5 _law_add, 6 _law_found, 7 _law_state, 8 _law_at
abbrev s_law_bit_table : Stmt := topS 53
abbrev N_law_bit_table : List PySem.Str := ["_law_row", "_law_size", "_law_states", "_law_way", "_law_told", "_law_add", "_law_found", "_law_state", "_law_at"]
abbrev P_law_bit_table : List PySem.Str := ["_law_row", "_law_size"]
theorem sc_law_bit_table : FnScope N_law_bit_table P_law_bit_table (defScope s_law_bit_table) := fscope_by (by decide +kernel)
def PreBt (ds : List PyData) : Prop := ∃ n : Nat, ds = [.int n] ∧ 1 ≤ n ∧ n ≤ 4
def RlawBt (ds : List PyData) (d : PyData) : Prop := ∃ n : Nat, ds = [.int n] ∧ ∃ tb : List Int, d = Ti tb ∧ Bits tb ∧ tb.length = 2 ^ n
theorem ok_law_bit_table (T : Txt K mg) (F : Df K mg "_law_bit_table" s_law_bit_table P_law_bit_table) (c_law_taken : C8.Cal P w K mg base 1 "_law_taken" (spTaken K) []) (c_law_every : CalD P w K mg base 1 "_law_every" RlawEvery) : C8.Cal P w K mg base 2 "_law_bit_table" (spM K PreBt RlawBt) [] := by
  obtain ⟨f, fd, hF, hm, hb⟩ := F.ex
  refine ⟨f, fd, _, [], hF.ok sc_law_bit_table (fun vs H Q E h => by obtain ⟨_, us, ds, _, rfl, _, _, _, h1, ⟨n, h2, _⟩, _⟩ := h; rw [List.length_cons, h1.len, show ds = _ from h2] <;> rfl) (fun cdv A outer s H vs Q E hr h => ⟨_,
    (pss_cons (ps_par (i := 2) (j := 3) (by rfl) sc_law_bit_table.nd rfl rfl (by decide) rfl rfl (pa_cons (C8.pe_c c_law_every hr (by decide) (by rfl) (pa_cons pe_int (pa_cons (pv 1) pa_nil))) (pa_cons (C8.pe_c c_law_taken hr (by decide) (by rfl) (pa_cons (pv 0) (pa_cons pe_int pa_nil))) pa_nil)) (by rfl))
      (pss_cons (ps_if (pt_cmpR op_eq (pv 3) pe_int (nomark _)) (pss_cons (ps_asg (pe_tup (pa_cons (pe_callTy (r := rTupOf K) call_tuple_of (by rfl) T.tuple bt_tuple (pa_cons (pe_lc (own := [("_law_at", 8)]) (wi := iRng1 _) (g := (gName 8)) (tt := tYes) (by rfl) sc_law_bit_table.nd (pi_range1 (by rfl) T.range (pa_cons (pv 1) pa_nil)) (blkOk_by (own := [("_law_at", 8)]) (N := N_law_bit_table) (sc := (defScope s_law_bit_table)) (by decide +kernel)) (fun _ _ _ _ _ => (pg_name (i := 8) sc_law_bit_table.nd rfl (by first | exact Or.inl rfl | exact Or.inr rfl))) (fun _ _ _ _ _ => pts_nil) (fun _ _ _ _ _ => (C8.pe_c c_law_taken hr (by decide) (by rfl) (pa_cons (pv 0) (pa_cons pe_int pa_nil))))) pa_nil)) (pa_cons (C8.pe_c c_law_taken hr (by decide) (by rfl) (pa_cons (pv 0) (pa_cons pe_int pa_nil))) pa_nil))) (pg_tup (n := 2) rfl (pgs_cons (pg_name (i := 4) sc_law_bit_table.nd rfl (by first | exact Or.inl rfl | exact Or.inr rfl)) (pgs_cons (pg_name (i := 5) sc_law_bit_table.nd rfl (by first | exact Or.inl rfl | exact Or.inr rfl)) pgs_nil))))
      (pss_one (ps_ret (pe_callTy (r := rTupOf K) call_tuple_of (by rfl) T.tuple bt_tuple (pa_cons (pe_lc (own := [("_law_state", 7)]) (wi := iList K _) (g := (gName 7)) (tt := tYes) (by rfl) sc_law_bit_table.nd (pi_list (pv 2)) (blkOk_by (own := [("_law_state", 7)]) (N := N_law_bit_table) (sc := (defScope s_law_bit_table)) (by decide +kernel)) (fun _ _ _ _ _ => (pg_name (i := 7) sc_law_bit_table.nd rfl (by first | exact Or.inl rfl | exact Or.inr rfl))) (fun _ _ _ _ _ => pts_nil) (fun _ _ _ _ _ => (pe_op op_mod (pe_callTy call_int1 (by rfl) T.int bt_int (pa_cons (pe_op op_add (pv 5) (pe_callB (r := rSum K) (cr_sum rfl) (by rfl) T.sum bt_sum (pa_cons (pe_lc (own := [("_law_at", 8)]) (wi := iRng1 _) (g := (gName 8)) (tt := tYes) (by rfl) sc_law_bit_table.nd (pi_range1 (by rfl) T.range (pa_cons (pv 1) pa_nil)) (blkOk_by (own := [("_law_at", 8)]) (N := N_law_bit_table) (by kernel_rfl)) (fun _ _ _ _ _ => (pg_name (i := 8) sc_law_bit_table.nd rfl (by first | exact Or.inl rfl | exact Or.inr rfl))) (fun _ _ _ _ _ => pts_nil) (fun _ _ _ _ _ => (pe_op op_mul (pe_ix (r := rIxT K) ix_tup (pv 4) (pv 8) (fun _ _ => rfl)) (pe_ix (r := rIxT K) ix_tup (pv 7) (pv 8) (fun _ _ => rfl))))) pa_nil))) pa_nil)) pe_int))) pa_nil))))) pss_nil)
      (pss_cons (ps_if (pt_cmpR op_eq (pv 3) pe_int (nomark _)) (pss_cons (ps_set (i := 6) sc_law_bit_table.nd rfl (by first | exact Or.inl rfl | exact Or.inr rfl) (pe_lst pa_nil))
      (pss_cons (ps_for PassesOwn.never rfl (pi_list (pv 2)) (pg_name (i := 7) sc_law_bit_table.nd rfl (by first | exact Or.inl rfl | exact Or.inr rfl)) (pss_one (ps_expr (pe_bm PySem.F.plainAttrs_list PySem.F.slot_list_append PySem.F.type_list_append mt_append (pv 6) (pa_cons (pe_op op_mod (pe_callTy call_int1 (by rfl) T.int bt_int (pa_cons (pe_callB (r := rSum K) (cr_sum rfl) (by rfl) T.sum bt_sum (pa_cons (pe_lc (own := [("_law_at", 8)]) (wi := iRng1 _) (g := (gName 8)) (tt := tYes) (by rfl) sc_law_bit_table.nd (pi_range1 (by rfl) T.range (pa_cons (pe_op op_fdiv (pv 1) pe_int) pa_nil)) (blkOk_by (own := [("_law_at", 8)]) (N := N_law_bit_table) (sc := (defScope s_law_bit_table)) (by decide +kernel)) (fun _ _ _ _ _ => (pg_name (i := 8) sc_law_bit_table.nd rfl (by first | exact Or.inl rfl | exact Or.inr rfl))) (fun _ _ _ _ _ => pts_nil) (fun _ _ _ _ _ => (pe_op op_mul (pe_ix (r := rIxT K) ix_tup (pv 7) (pe_op op_mul pe_int (pv 8)) (fun _ _ => rfl)) (pe_ix (r := rIxT K) ix_tup (pv 7) (pe_op op_add (pe_op op_mul pe_int (pv 8)) pe_int) (fun _ _ => rfl))))) pa_nil)) pa_nil)) pe_int) pa_nil)))))
      (pss_one (ps_ret (pe_callTy (r := rTupOf K) call_tuple_of (by rfl) T.tuple bt_tuple (pa_cons (pv 6) pa_nil)))))) pss_nil)
      (pss_one (ps_ret (pe_callTy (r := rTupOf K) call_tuple_of (by rfl) T.tuple bt_tuple (pa_cons (pe_lc (own := [("_law_state", 7)]) (wi := iList K _) (g := (gName 7)) (tt := tYes) (by rfl) sc_law_bit_table.nd (pi_list (pv 2)) (blkOk_by (own := [("_law_state", 7)]) (N := N_law_bit_table) (sc := (defScope s_law_bit_table)) (by decide +kernel)) (fun _ _ _ _ _ => (pg_name (i := 7) sc_law_bit_table.nd rfl (by first | exact Or.inl rfl | exact Or.inr rfl))) (fun _ _ _ _ _ => pts_nil) (fun _ _ _ _ _ => (C8.pe_c c_law_taken hr (by decide) (by rfl) (pa_cons (pv 0) (pa_cons pe_int pa_nil))))) pa_nil))))))), ?_⟩), hm, hF.kp, hb, .nil⟩
  obtain ⟨ρ, us, ds, Hb, rfl, eb, nr, ro, hu, ⟨n, rfl, hn1, hn4⟩, k⟩ := h
  obtain ⟨u1, rfl, q1⟩ := hu.one_eq
  obtain rfl := q1.int_eq
  have hpn : (2 ^ n : Nat) ≤ 2 ^ 4 := Nat.pow_le_pow_right (by decide) hn4
  have hsl := states_len n
  show tSeq _ _ _ [some (V.ref ρ.r), some (.int n), none, none, none, none, none, none, none] H
  refine sm_par eb nr ro (em_pure (ed_call (R := RlawEvery) (ea_cons ed_int (ea_cons (ed_at (i := 1) rfl (.int n)) ea_nil)) ⟨n, rfl, by omega, rfl⟩)) (fun Hs es => em_take1 (B := 4) rfl ed_int (by decide) (by decide)) fun v2 v3 H1 H' x y f1 nr1 ro1 hx hy d2 d3 => ?_
  subst hx
  obtain ⟨way, rfl, w0, w1⟩ := hy
  obtain rfl := d3.int_eq
  show tSeq _ _ _ [some (V.ref ρ.r), some (.int n), some v2, some (.int way), none, none, none, none, none] H'
  have fin : ∀ {v Hr Hs H2 tb} , FM ρ.r H1 H' Hr H2 → RowOk K H2 ρ → Hs = Hr → Bits tb → tb.length = 2 ^ n → Dt Hr v (Ti tb) → Q v H2 := fun {v Hr Hs H2 tb} f ro2 _ hb hl hd => k v Hr H2 _ (f1.trans f) ro2 ⟨n, rfl, tb, rfl, hb, hl⟩ hd
  refine st_if f1.r (eb_test (ed_op (ed_at (i := 3) rfl (.int way)) ed_int or_eq)) (fun hw Hr H2 f2 => ?_) (fun hw Hr H2 f2 => ?_)
  · -- a sum of places
    have nr2 : Hr ρ.r = none := f2.n ρ.r nr1 ro1.ne
    refine sm_asg2 f2.r nr2 (ro1.ex f2.h) (em_bits (n := n) (em_weak (em_lc (A := List.range n) (enc := fun i : Nat => .int i) (Φ := IntIn 2) (ew_rng1 (n := (n : Int)) (ea_cons (ed_at (i := 1) rfl (.int n)) ea_nil) (by omega)) (by simp; omega) (by decide) fun a ha v H3 e3 hv => em_take1 (B := 2) rfl ed_int (by decide) (by decide)) fun d hd => by
      obtain ⟨ds, h1, h2, h3⟩ := hd
      exact ⟨ds, h1, by rw [h2, List.length_range], h3⟩)) (fun Hs es => em_take1 (B := 2) rfl ed_int (by decide) (by decide)) fun v4 v5 H3 H4 x y f3 nr3 ro3 hx hy d4 d5 => ?_
    obtain ⟨told, rfl, tb1, tb2⟩ := hx
    obtain ⟨add, rfl, a0, a1⟩ := hy
    obtain rfl := d5.int_eq
    have dv2 := (d2.mono f2.b).mono f3.b
    show tRet _ _ [some (V.ref ρ.r), some (.int n), some v2, some (.int way), some v4, some (.int add), none, none, none] H4
    refine st_ret f3.r (ed_cb (ea_cons (ed_is (y := Li ((states n).map fun s => (add + ((List.range n).map fun i => told.getD i 0 * s.getD i 0).sum) % 2)) (ed_lcS (A := states n) (enc := Ti) (enc' := fun s => .int ((add + ((List.range n).map fun i => told.getD i 0 * s.getD i 0).sum) % 2)) (ew_list (ed_at (i := 2) rfl dv2)) (by omega) (by decide)
      fun s hs v H5 e5 hv => ed_op (ed_cb (ea_cons (ed_op (ed_at (i := 5) rfl (.int add)) (ed_cb (ea_cons (ed_is (y := Li ((List.range n).map fun i => told.getD i 0 * s.getD i 0)) (ed_lcS (A := List.range n) (enc := fun i : Nat => .int i) (enc' := fun i : Nat => .int (told.getD i 0 * s.getD i 0)) (ew_rng1 (n := (n : Int)) (ea_cons (ed_at (i := 1) rfl (.int n)) ea_nil) (by omega)) (by simp; omega) (by decide)
        fun i hi v H6 e6 hv6 => ed_op (ed_op (ed_at (i := 4) rfl ((d4.mono e5).mono e6)) (ed_at (i := 8) rfl hv6) (or_ixT (d := .int (told.getD i 0)) ?_)) (ed_op (ed_at (i := 7) rfl (hv.mono e6)) (ed_at (i := 8) rfl hv6) (or_ixT (d := .int (s.getD i 0)) ?_)) (or_mul ?_)) (Li_map _ _)) ea_nil) br_sum) or_add) ea_nil) br_int) ed_int (or_mod (by decide))) (Li_map _ _)) ea_nil) br_tuple) fun v H5 H6 f5 hd => fin ((FrM.of f2).trans (f3.trans (FrM.of f5))) (ro3.ex f5.h) rfl ?_ ?_ hd
    · have := List.mem_range.mp hi
      rw [at_int (by omega) (by omega)] <;> rfl
    · have := List.mem_range.mp hi
      rw [at_int (by omega) (by rw [states_in n s hs]; omega)] <;> rfl
    · have := bits_getD tb1 i
      unfold CMul
      omega
    · intro z hz
      obtain ⟨s, _, rfl⟩ := List.mem_map.mp hz
      omega
    · rw [List.length_map, hsl]
  have ro2 := ro1.ex f2.h
  have nr2 : Hr ρ.r = none := f2.n ρ.r nr1 ro1.ne
  have d2 := d2.mono f2.b
  refine st_if f2.r (eb_test (ed_op (ed_at (i := 3) rfl (.int way)) ed_int or_eq)) (fun hw Hs H3 f3 => ?_) (fun hw Hs H3 f3 => ?_)
  · -- a sum of products
    refine st_new fun l H4 nl e4 => ?_
    subst e4
    have hsl0 : Hs l = none := fresh_back f3.r nl
    have hrl0 : Hr l = none := fresh_back f3.b hsl0
    show tSeq _ _ _ [some (V.ref ρ.r), some (.int n), some v2, some (.int way), none, none, some (.ref l), none, none] _
    have d2 := d2.mono f3.b
    refine st_for (ew_list (ed_at (i := 2) rfl d2)) (f3.r.trans (Ex.new nl)) (fun He i σ' H' => ∃ t, σ' = [some (V.ref ρ.r), some (.int n), some v2, some (.int way), none, none, some (.ref l), t, none] ∧ Ex Hs He ∧ He l = none ∧ Ex He H' ∧ Ex H3 H' ∧ (∀ a, Hs a = none → H3 a ≠ none → He a = none) ∧
      H' l = some (.lst ((((states n).take i).map fun s => ((List.range (n / 2)).map fun i => s.getD (2 * i) 0 * s.getD (2 * i + 1) 0).sum % 2).map V.int))) (fun He H' f => ⟨none, rfl, f.b, (f.mut hsl0 upd_same).1, f.r, (Ex.new nl).trans f.h, fun a z1 z2 => f.n a z1 (ne_none_ex (Ex.new nl) z2), f.h _ _ upd_same⟩)
      (fun He i σ' H' ⟨t, _, _, _, z, _⟩ => z) (fun He i v d σ' H' eu hd hv ⟨t, es, e5, e6, e7, e8, e9, e10⟩ => ?_) (fun He σ' H' eu ⟨t, es, e5, e6, e7, e8, e9, e10⟩ => ?_)
    · subst es
      rw [List.getElem?_map] at hd
      obtain ⟨s, hs, rfl⟩ := Option.map_eq_some_iff.mp hd
      have hsm : s ∈ states n := List.mem_of_getElem? hs
      have hsn := states_in n s hsm
      have ek : (states n).take (i + 1) = (states n).take i ++ [s] := by rw [List.take_add_one, hs] <;> rfl
      refine st_app1 (σ := [some (V.ref ρ.r), some (.int n), some v2, some (.int way), none, none, some (.ref l), some v, none]) rfl e6 e10 (by rw [List.length_map, List.length_map, List.length_take]; omega) e7 (ed_op (ed_cb (ea_cons (ed_cb (ea_cons (ed_is (y := Li ((List.range (n / 2)).map fun i => s.getD (2 * i) 0 * s.getD (2 * i + 1) 0)) (ed_lcS (A := List.range (n / 2)) (enc := fun i : Nat => .int i) (enc' := fun i : Nat => .int (s.getD (2 * i) 0 * s.getD (2 * i + 1) 0)) (ew_rng1 (n := ((n / 2 : Nat) : Int)) (ea_cons (ed_is (ed_op (ed_at (i := 1) rfl (.int n)) ed_int (or_fdiv (by unfold CDiv; decide))) (by rw [Int.natCast_ediv] <;> rfl)) ea_nil) (by omega)) (by simp; omega) (by decide)
        fun j hj v3 H6 e6 hv6 => ed_op (ed_op (ed_at (i := 7) rfl (hv.mono e6)) (ed_op ed_int (ed_at (i := 8) rfl hv6) (or_mul (by unfold CMul; omega))) (or_ixT (d := .int (s.getD (2 * j) 0)) ?_)) (ed_op (ed_at (i := 7) rfl (hv.mono e6)) (ed_op (ed_op ed_int (ed_at (i := 8) rfl hv6) (or_mul (by unfold CMul; omega))) ed_int or_add) (or_ixT (d := .int (s.getD (2 * j + 1) 0)) ?_)) (or_mul ?_)) (Li_map _ _)) ea_nil) br_sum) ea_nil) br_int) ed_int (or_mod (by decide))) fun v9 H7 H8 f9 hd9 => ?_
      · have := List.mem_range.mp hj
        rw [at_int (by omega) (by omega)]
        congr 3
      · have := List.mem_range.mp hj
        rw [at_int (by omega) (by omega)]
        congr 3
      · have := bits_getD (states_bits n s hsm) (2 * j)
        unfold CMul
        omega
      obtain rfl := hd9.int_eq
      refine ⟨some v, rfl, e5, e6, (e7.trans f9.h).mut e6, (e8.trans f9.h).mut nl, e9, ?_⟩
      rw [upd_same, ek, List.map_append, List.map_append] <;> rfl
    · subst es
      rw [List.length_map, List.take_length] at e10
      have fz : Fr Hs H3 (upd He l _) H' := Fr.freeze ⟨e5, e8, e7, e9⟩ nl e6 e10
      refine st_ret fz.r (ed_cb (ea_cons (ed_at (σ := [some (V.ref ρ.r), some (.int n), some v2, some (.int way), none, none, some (.ref l), t, none]) (i := 6) rfl (dt_li upd_same)) ea_nil) br_tuple) fun v H5 H6 f5 hd => fin ((FrM.of f2).trans ((FrM.of f3).trans ((FrM.of fz).trans (FrM.of f5)))) ((ro2.ex f3.h).ex (e8.trans f5.h)) rfl ?_ ?_ hd
      · intro z hz
        obtain ⟨s, _, rfl⟩ := List.mem_map.mp hz
        omega
      · rw [List.length_map, hsl]
  · -- bits as they are drawn
    have ro3 := ro2.ex f3.h
    have nr3 : Hs ρ.r = none := f3.n ρ.r nr2 ro2.ne
    refine sm_ret f3.r nr3 ro3 (em_bits (n := 2 ^ n) (em_weak (em_lc (A := states n) (enc := Ti) (Φ := IntIn 2) (ew_list (ed_at (i := 2) rfl (d2.mono f3.b))) (by omega) (by decide) fun a ha v H3 e3 hv => em_take1 (B := 2) rfl ed_int (by decide) (by decide)) fun d hd => by
      obtain ⟨ds, h1, h2, h3⟩ := hd
      exact ⟨ds, h1, by rw [h2, hsl], h3⟩)) fun v H4 H5 d f4 ro4 hd dv => ?_
    obtain ⟨tb, rfl, t1, t2⟩ := hd
    exact fin ((FrM.of f2).trans ((FrM.of f3).trans f4)) ro4 rfl t1 t2 dv
end
end LX

set_option Elab.async false
set_option linter.all false
set_option maxRecDepth 100000
set_option maxHeartbeats 4000000
set_option autoImplicit false
namespace LX
open PySem PySem.Spec PyProof.Rows L2 Evl
/-! ### what the law takes -/
theorem asc_ins (x : List Int) : ∀ {S : List (List Int)}, Asc S → ∃ S' : List (List Int), Asc S' ∧ (∀ y, y ∈ S' ↔ y = x ∨ y ∈ S) ∧ S'.length ≤ S.length + 1
  | [], _ => ⟨[x], List.pairwise_singleton _ _, fun y => by simp, by simp⟩
  | a :: S, h => by
    obtain ⟨a1, a2⟩ := List.pairwise_cons.mp h
    by_cases e : x = a
    · exact ⟨a :: S, h, fun y => by rw [e]; simp, by omega⟩
    · cases q : lexi x a with
      | true =>
        refine ⟨x :: a :: S, List.pairwise_cons.mpr ⟨fun y hy => ?_, h⟩, fun y => by simp, by simp⟩
        rcases List.mem_cons.mp hy with z | z
        · rw [z]; exact q
        · exact lexi_trans q (a1 y z)
      | false =>
        have q2 : lexi a x = true := by
          cases p : lexi a x with
          | true => rfl
          | false => exact absurd (lexi_tot q p) e
        obtain ⟨S', s1, s2, s3⟩ := asc_ins x a2
        refine ⟨a :: S', List.pairwise_cons.mpr ⟨fun y hy => ?_, s1⟩, fun y => ?_, by simp; omega⟩
        · rcases (s2 y).mp hy with z | z
          · rw [z]; exact q2
          · exact a1 y z
        · rw [List.mem_cons, List.mem_cons, s2 y]
          constructor
          · rintro (z | z | z)
            · exact .inr (.inl z)
            · exact .inl z
            · exact .inr (.inr z)
          · rintro (z | z | z)
            · exact .inr (.inl z)
            · exact .inl z
            · exact .inr (.inr z)
theorem asc_exists : ∀ L : List (List Int), ∃ S : List (List Int), Asc S ∧ (∀ y, y ∈ S ↔ y ∈ L) ∧ S.length ≤ L.length
  | [] => ⟨[], .nil, fun _ => Iff.rfl, Nat.le_refl _⟩
  | x :: L => by
    obtain ⟨S, h1, h2, h3⟩ := asc_exists L
    obtain ⟨S', g1, g2, g3⟩ := asc_ins x h1
    exact ⟨S', g1, fun y => by rw [g2 y, List.mem_cons, h2 y], by rw [List.length_cons]; omega⟩
def degOf (S : List (List Int)) : Int := maxD (S.map fun t => (t.length : Int)) (-1)
theorem maxD_f : ∀ (ns : List Int) (a : Int), (ns.foldl (fun a y => if a < y then y else a) a = a ∨ ns.foldl (fun a y => if a < y then y else a) a ∈ ns) ∧ a ≤ ns.foldl (fun a y => if a < y then y else a) a ∧ ∀ y ∈ ns, y ≤ ns.foldl (fun a y => if a < y then y else a) a
  | [], a => ⟨.inl rfl, Int.le_refl _, fun _ h => nomatch h⟩
  | n :: ns, a => by
    show (ns.foldl _ (if a < n then n else a) = a ∨ ns.foldl _ (if a < n then n else a) ∈ n :: ns) ∧ a ≤ ns.foldl _ (if a < n then n else a) ∧ ∀ y ∈ n :: ns, y ≤ ns.foldl _ (if a < n then n else a)
    obtain ⟨h1, h2, h3⟩ := maxD_f ns (if a < n then n else a)
    refine ⟨?_, ?_, fun y hy => ?_⟩
    · rcases h1 with z | z
      · rw [z]
        split
        · exact .inr List.mem_cons_self
        · exact .inl rfl
      · exact .inr (List.mem_cons_of_mem _ z)
    · refine Int.le_trans ?_ h2
      split <;> omega
    · rcases List.mem_cons.mp hy with z | z
      · refine Int.le_trans ?_ h2
        rw [z]
        split <;> omega
      · exact h3 y z
theorem degOf_max (S : List (List Int)) : degOf S ∈ S.map (fun t => (t.length : Int)) ++ [-1] ∧ ∀ y ∈ S.map (fun t => (t.length : Int)) ++ [-1], y ≤ degOf S := by
  unfold degOf maxD
  cases e : S.map (fun t => (t.length : Int)) with
  | nil => exact ⟨List.mem_singleton.mpr rfl, fun y hy => by rw [List.mem_singleton.mp hy]; exact Int.le_refl _⟩
  | cons n ns =>
    obtain ⟨h1, h2, h3⟩ := maxD_f ns n
    have hn : 0 ≤ n := by
      have : n ∈ S.map (fun t => (t.length : Int)) := by rw [e]; exact List.mem_cons_self
      obtain ⟨t, _, rfl⟩ := List.mem_map.mp this
      omega
    refine ⟨List.mem_append_left _ ?_, fun y hy => ?_⟩
    · rcases h1 with z | z
      · show ns.foldl _ n ∈ n :: ns
        rw [z]; exact List.mem_cons_self
      · exact List.mem_cons_of_mem _ z
    · show y ≤ ns.foldl _ n
      rcases List.mem_append.mp hy with z | z
      · rcases List.mem_cons.mp z with w | w
        · rw [w]; exact h2
        · exact h3 y w
      · rw [List.mem_singleton.mp z]
        exact Int.le_trans (by omega) h2
theorem degOf_le {S : List (List Int)} {n : Nat} (h : ∀ t ∈ S, t.length ≤ n) : -1 ≤ degOf S ∧ degOf S ≤ n := by
  obtain ⟨h1, h2⟩ := degOf_max S
  refine ⟨h2 _ (List.mem_append_right _ (List.mem_singleton.mpr rfl)), ?_⟩
  rcases List.mem_append.mp h1 with z | z
  · obtain ⟨t, ht, e⟩ := List.mem_map.mp z
    have := h t ht
    omega
  · rw [List.mem_singleton.mp z]
    omega
section
variable {K : PySem.W.Frag} {ρ : Rw} {σ : L2.St} {Hb H : Hp} {ta tb te : TE} {Φ Ψ : PyData → Prop} {D : Ends} {tz tu : TS}
theorem sm_for {j : Nat} {B : Int} (eb : Ex Hb H) (nr : Hb ρ.r = none) (ro : RowOk K H ρ) (h : EM K ρ te σ Hb (IntIn B)) (hB : B ≤ 1000) (Pv : Hp → Nat → Nat → L2.St → Hp → Prop)
    (h0 : ∀ (m : Nat) (Hr H' : Hp), FM ρ.r Hb H Hr H' → Hr ρ.r = none → RowOk K H' ρ → (m : Int) < B → Pv Hr m 0 σ H')
    (hs : ∀ m Hr i σ' H' (D' : Ends), i < m → Pv Hr m i σ' H' → D'.nx = Pv Hr m (i + 1) → tu D' (σ'.set j (some (.int (i : Int)))) H')
    (hd : ∀ m Hr σ' H', Pv Hr m m σ' H' → tz D σ' H') : tSeq (tFor (iRng1 (tCons te tNil)) (gName j) tu) tz D σ H :=
  h H eb nr ro _ fun v Hr H' d f ro2 hd2 dv => by
    obtain ⟨m, rfl, m0, m1⟩ := hd2
    obtain rfl := dv.int_eq
    refine ⟨m, rfl, by omega, by omega, ?_⟩
    have hl : ((List.range m.toNat).map fun i : Nat => V.int (0 + i)).length = m.toNat := by rw [List.length_map, List.length_range]
    refine for_it (D := { D with nx := tz D }) (walk_rng (lo := 0) (n := m.toNat)) (fun i => Pv Hr m.toNat i) (h0 m.toNat Hr H' f (FM.rn f nr ro) ro2 (by show ((m.toNat : Nat) : Int) < B; omega)) (fun _ _ _ _ _ => trivial) (fun i x σ' H1 H2 hi p hy => ?_) (fun σ' H1 p => hd m.toNat Hr σ' H1 (by rw [hl] at p; exact p))
    obtain ⟨rfl, hx⟩ := hy
    rw [hl] at hi
    rw [List.getElem?_map, List.getElem?_range hi] at hx
    obtain rfl : x = .int (i : Int) := by rw [← Option.some.inj hx]; show V.int (0 + (i : Int)) = _; rw [Int.zero_add]
    exact hs m.toNat Hr i σ' H2 _ hi p rfl
theorem sm_app1 {i : Nat} {l : Addr} {xs : List V} (lr : l ≠ ρ.r) (hs : σ[i]? = some (some (.ref l))) (hb : Hb l = none) (hl : H l = some (.lst xs)) (hz : xs.length < 100000) (eb : Ex Hb H) (nr : Hb ρ.r = none) (ro : RowOk K H ρ) (h : EM K ρ te σ Hb Φ)
    (k : ∀ v Hr H' d, FM ρ.r Hb H Hr H' → Hr ρ.r = none → RowOk K H' ρ → Φ d → Dt Hr v d → Hr l = none → D.nx σ (upd H' l (.lst (xs ++ [v])))) : tDrop (tBM K "list" rAppend (tVar i) (tCons te tNil)) D σ H := by
  refine ⟨.ref l, hs, .inl ⟨rfl, xs, .inl (.inl hl)⟩, h H eb nr ro _ fun v Hr H' d f ro2 hd dv => ?_⟩
  obtain ⟨q1, q2⟩ := FM.mut f lr hb hl
  exact ⟨l, xs, v, rfl, rfl, q2, sz_lt hz, k v Hr H' d f (FM.rn f nr ro) ro2 hd dv q1⟩
end
theorem row_set {σ : L2.St} {i k : Nat} {x : Option (Option V)} {v : Option V} (h : σ[k]? = x) (hi : i ≠ k) : (σ.set i v)[k]? = x := by
  rw [List.getElem?_set_ne hi]; exact h
end LX

set_option Elab.async false
set_option linter.all false
set_option maxRecDepth 100000
set_option maxHeartbeats 4000000
set_option autoImplicit false
namespace LX
open PySem PySem.Spec PyProof.Rows L2 Evl
/-! ### the law's own three facts, in plain words -/
def P1 : Prop := ∀ (n : Nat) (S : List (List Int)), 1 ≤ n → n ≤ 4 → TermsOk n S → S.length ≤ 3 → termDeg n (tableOf n S) = degOf S
def P2 : Prop := ∀ l m : Nat, l ≤ 60 → m ≤ 9 → fbound l m = lbound l m
def P3 : Prop := ∀ (taps start ps : List Int) (n c : Nat) (S : List (List Int)), Bits taps → Bits start → start.length = taps.length → taps.length ≤ 7 → 1 ≤ n → n ≤ 4 → TermsOk n S → S.length ≤ 3 → ps.length = n → (∀ p ∈ ps, 0 ≤ p ∧ p ≤ 60) → c ≤ 400 →
  ((grun (filt (runOf taps start (c + 61)) (tableOf n S) ps c)).L : Int) ≤ fbound taps.length (degOf S).toNat
theorem tableOf_bits (n : Nat) (S : List (List Int)) : Bits (tableOf n S) := fun x hx => by
  obtain ⟨s, _, rfl⟩ := List.mem_map.mp hx
  omega
theorem tableOf_len (n : Nat) (S : List (List Int)) : (tableOf n S).length = 2 ^ n := by
  unfold tableOf
  rw [List.length_map, states_len]
theorem filt_bits {row tb ps : List Int} {c : Nat} (h : Bits tb) : Bits (filt row tb ps c) := fun x hx => by
  obtain ⟨i, _, rfl⟩ := List.mem_map.mp hx
  exact bits_getD h _
theorem filt_len {row tb ps : List Int} {c : Nat} : (filt row tb ps c).length = c := by
  unfold filt
  rw [List.length_map, List.length_range]
def spLaw (K : PySem.W.Frag) : Sp := fun vs H Q _ => ∃ (a : Addr) (ns : List Int), vs = [.ref a] ∧ SqL K H a (ns.map V.int) ∧ ns.length ≤ 63 ∧ ∀ H', Q (.bl true) H'
section
variable {P : Program} {w : World} {K : PySem.W.Frag} {mg : PySem.Str → Option Value} {base : Heap}
/-! ### law -/
-- law: cells ['_law_at', '_law_length', '_law_row', '_law_whole']; slots 0 _law_script, 1 _law_row, 2 _law_size, 3 _law_wired, 4 _law_table, 5 _law_places, 6 _law_at, 7 _law_turn, 8 _law_count, 9 _law_whole, 10 _law_due, 11 _law_terms, 12 _law_degree, 13 _law_told, 14 _law_length, 15 _law_most, 16 _law_bound, 17 _law_some, 18 _law_place_here, 19 _law_term, 20 _law_k
abbrev s_law : Stmt := topS 58
abbrev N_law : List PySem.Str := ["_law_script", "_law_row", "_law_size", "_law_wired", "_law_table", "_law_places", "_law_at", "_law_turn", "_law_count", "_law_whole", "_law_due", "_law_terms", "_law_degree", "_law_told", "_law_length", "_law_most", "_law_bound", "_law_some", "_law_place_here", "_law_term", "_law_k"]
abbrev P_law : List PySem.Str := ["_law_script"]
theorem sc_law : FnScope N_law P_law (defScope s_law) := fscope_by (by decide +kernel)
theorem ok_law {f : Addr} {fd : FuncData} (T : Txt K mg) (F : L2.Fun K "law" "law" s_law f fd) (p1 : P1) (p2 : P2) (p3 : P3) (c_law_taken : C8.Cal P w K mg base 1 "_law_taken" (spTaken K) []) (c_law_taps : C8.Cal P w K mg base 2 "_law_taps" (spM K PreTaps RlawTaps) []) (c_law_bit_table : C8.Cal P w K mg base 2 "_law_bit_table" (spM K PreBt RlawBt) [])
    (c_law_run : CalD P w K mg base 1 "_law_run" RlawRun) (c_law_place : CalD P w K mg base 1 "_law_place" RlawPlace) (c_law_alikeI : CalD P w K mg base 1 "_law_alike" RlawAlikeI) (c_law_alikeT : CalD P w K mg base 2 "_law_alike" RlawAlikeT) (c_law_choose : CalD P w K mg base 1 "_law_choose" RlawChoose) (c_filtered : CalD P w K mg base 6 "filtered" Rfiltered) (c_table_of : CalD P w K mg base 5 "table_of" RtableOf) (c_term_degree : CalD P w K mg base 6 "term_degree" RtermDegree) (c_filter_bound : CalD P w K mg base 4 "filter_bound" RfilterBound) (c_least_length : CalD P w K mg base 6 "least_length" RleastLength) : FnOk P w K mg base CX0 7 f fd P_law (spLaw K) := by
  refine F.ok sc_law (fun vs H Q E h => by obtain ⟨a, ns, rfl, _⟩ := h; rfl) fun cdv A outer s H vs Q E hr h => ⟨_,
    (pss_cons (ps_set (i := 1) sc_law.nd rfl (by first | exact Or.inl rfl | exact Or.inr rfl) (pe_lst (pa_cons (pv 0) (pa_cons pe_int (pa_cons pe_int (pa_cons pe_int pa_nil))))))
      (pss_cons (ps_set (i := 2) sc_law.nd rfl (by first | exact Or.inl rfl | exact Or.inr rfl) (pe_op op_add pe_int (C8.pe_c c_law_taken hr (by decide) (by rfl) (pa_cons (pv 1) (pa_cons pe_int pa_nil)))))
      (pss_cons (ps_par (i := 3) (j := 4) (by rfl) sc_law.nd rfl rfl (by decide) rfl rfl (pa_cons (C8.pe_c c_law_taps hr (by decide) (by rfl) (pa_cons (pv 1) (pa_cons pe_int (pa_cons pe_int pa_nil)))) (pa_cons (C8.pe_c c_law_bit_table hr (by decide) (by rfl) (pa_cons (pv 1) (pa_cons (pv 2) pa_nil))) pa_nil)) (by rfl))
      (pss_cons (ps_asg (pe_tup (pa_cons (pe_lst pa_nil) (pa_cons pe_int pa_nil))) (pg_tup (n := 2) rfl (pgs_cons (pg_name (i := 5) sc_law.nd rfl (by first | exact Or.inl rfl | exact Or.inr rfl)) (pgs_cons (pg_name (i := 6) sc_law.nd rfl (by first | exact Or.inl rfl | exact Or.inr rfl)) pgs_nil))))
      (pss_cons (ps_for PassesOwn.never rfl (pi_range1 (by rfl) T.range (pa_cons (pv 2) pa_nil)) (pg_name (i := 7) sc_law.nd rfl (by first | exact Or.inl rfl | exact Or.inr rfl)) (pss_cons (ps_set (i := 6) sc_law.nd rfl (by first | exact Or.inl rfl | exact Or.inr rfl) (pe_op op_add (pv 6) (C8.pe_c c_law_taken hr (by decide) (by rfl) (pa_cons (pv 1) (pa_cons (pe_ix (r := rIxL K) ix_list (pe_lst (pa_cons pe_int (pa_cons pe_int pa_nil))) (C8.pe_c c_law_taken hr (by decide) (by rfl) (pa_cons (pv 1) (pa_cons pe_int pa_nil))) (fun _ _ => rfl)) pa_nil)))))
      (pss_cons (ps_expr (pe_bm PySem.F.plainAttrs_list PySem.F.slot_list_append PySem.F.type_list_append mt_append (pv 5) (pa_cons (pv 6) pa_nil)))
      (pss_one (ps_set (i := 6) sc_law.nd rfl (by first | exact Or.inl rfl | exact Or.inr rfl) (pe_op op_add (pv 6) pe_int))))))
      (pss_cons (ps_par (i := 5) (j := 8) (by rfl) sc_law.nd rfl rfl (by decide) rfl rfl (pa_cons (pe_callTy (r := rTupOf K) call_tuple_of (by rfl) T.tuple bt_tuple (pa_cons (pv 5) pa_nil)) (pa_cons (C8.pe_c c_law_taken hr (by decide) (by rfl) (pa_cons (pv 1) (pa_cons (pe_ix (r := rIxL K) ix_list (pe_lst (pa_cons pe_int (pa_cons pe_int pa_nil))) (C8.pe_c c_law_taken hr (by decide) (by rfl) (pa_cons (pv 1) (pa_cons pe_int pa_nil))) (fun _ _ => rfl)) pa_nil))) pa_nil)) (by rfl))
      (pss_cons (ps_asg (pe_tup (pa_cons (C8.pe_c c_law_run hr (by decide) (by rfl) (pa_cons pe_int (pa_cons (pe_ix (r := rIxT K) ix_tup (pv 3) pe_int (fun _ _ => rfl)) (pa_cons (pe_ix (r := rIxT K) ix_tup (pv 3) pe_int (fun _ _ => rfl)) (pa_cons (pe_op op_add (pv 8) pe_int) pa_nil))))) (pa_cons (pe_lst pa_nil) pa_nil))) (pg_tup (n := 2) rfl (pgs_cons (pg_name (i := 9) sc_law.nd rfl (by first | exact Or.inl rfl | exact Or.inr rfl)) (pgs_cons (pg_name (i := 10) sc_law.nd rfl (by first | exact Or.inl rfl | exact Or.inr rfl)) pgs_nil))))
      (pss_cons (ps_for PassesOwn.never rfl (pi_range1 (by rfl) T.range (pa_cons (pv 8) pa_nil)) (pg_name (i := 6) sc_law.nd rfl (by first | exact Or.inl rfl | exact Or.inr rfl)) (pss_one (ps_expr (pe_bm PySem.F.plainAttrs_list PySem.F.slot_list_append PySem.F.type_list_append mt_append (pv 10) (pa_cons (pe_ix (r := rIxT K) ix_tup (pv 4) (C8.pe_c c_law_place hr (by decide) (by rfl) (pa_cons pe_int (pa_cons (pe_lc (own := [("_law_place_here", 18)]) (wi := iTup K _) (g := (gName 18)) (tt := tYes) (by rfl) sc_law.nd (pi_tup (pv 5)) (blkOk_by (own := [("_law_place_here", 18)]) (N := N_law) (sc := (defScope s_law)) (by decide +kernel)) (fun _ _ _ _ _ => (pg_name (i := 18) sc_law.nd rfl (by first | exact Or.inl rfl | exact Or.inr rfl))) (fun _ _ _ _ _ => pts_nil) (fun _ _ _ _ _ => (pe_ix (r := rIxT K) ix_tup (pv 9) (pe_op op_add (pv 6) (pv 18)) (fun _ _ => rfl)))) pa_nil))) (fun _ _ => rfl)) pa_nil)))))
      (pss_cons (ps_if (pt_not (pt_val (C8.pe_c c_law_alikeT hr (by decide) (by rfl) (pa_cons (C8.pe_c c_filtered hr (by decide) (by rfl) (pa_cons (pv 3) (pa_cons (pv 2) (pa_cons (pv 4) (pa_cons (pv 5) (pa_cons (pv 8) pa_nil)))))) (pa_cons (pe_callTy (r := rTupOf K) call_tuple_of (by rfl) T.tuple bt_tuple (pa_cons (pv 10) pa_nil)) pa_nil))))) (pss_one (ps_ret pe_bl)) pss_nil)
      (pss_cons (ps_set (i := 11) sc_law.nd rfl (by first | exact Or.inl rfl | exact Or.inr rfl) (pe_lst pa_nil))
      (pss_cons (ps_for PassesOwn.never rfl (pi_range1 (by rfl) T.range (pa_cons (C8.pe_c c_law_taken hr (by decide) (by rfl) (pa_cons (pv 1) (pa_cons pe_int pa_nil))) pa_nil)) (pg_name (i := 7) sc_law.nd rfl (by first | exact Or.inl rfl | exact Or.inr rfl)) (pss_one (ps_expr (pe_bm PySem.F.plainAttrs_list PySem.F.slot_list_append PySem.F.type_list_append mt_append (pv 11) (pa_cons (pe_callTy (r := rTupOf K) call_tuple_of (by rfl) T.tuple bt_tuple (pa_cons (pe_lc (own := [("_law_at", 6)]) (wi := iRng1 _) (g := (gName 6))  (by rfl) sc_law.nd (pi_range1 (by rfl) T.range (pa_cons (pv 2) pa_nil)) (blkOk_by (own := [("_law_at", 6)]) (N := N_law) (sc := (defScope s_law)) (by decide +kernel)) (fun _ _ _ _ _ => (pg_name (i := 6) sc_law.nd rfl (by first | exact Or.inl rfl | exact Or.inr rfl))) (fun _ _ _ _ _ => pts_one (pt_cmpR op_eq (C8.pe_c c_law_taken hr (by decide) (by rfl) (pa_cons (pv 1) (pa_cons pe_int pa_nil))) pe_int (nomark _))) (fun _ _ _ _ _ => (pv 6))) pa_nil)) pa_nil)))))
      (pss_cons (ps_set (i := 11) sc_law.nd rfl (by first | exact Or.inl rfl | exact Or.inr rfl) (pe_callTy (r := rTupOf K) call_tuple_of (by rfl) T.tuple bt_tuple (pa_cons (pe_callB (r := rSortSetU K P w) (cr_sortSetU rfl hr.units) (by rfl) T.sorted bt_sorted (pa_cons (pe_callTy (r := rSetOfT K P w) (cr_setOfT rfl hr.units) (by rfl) T.set bt_set (pa_cons (pv 11) pa_nil)) pa_nil)) pa_nil)))
      (pss_cons (ps_set (i := 12) sc_law.nd rfl (by first | exact Or.inl rfl | exact Or.inr rfl) (pe_callB (r := rMax K) (cr_max rfl) (by rfl) T.max bt_max (pa_cons (pe_op op_cat (pe_lc (own := [("_law_term", 19)]) (wi := iTup K _) (g := (gName 19)) (tt := tYes) (by rfl) sc_law.nd (pi_tup (pv 11)) (blkOk_by (own := [("_law_term", 19)]) (N := N_law) (sc := (defScope s_law)) (by decide +kernel)) (fun _ _ _ _ _ => (pg_name (i := 19) sc_law.nd rfl (by first | exact Or.inl rfl | exact Or.inr rfl))) (fun _ _ _ _ _ => pts_nil) (fun _ _ _ _ _ => (pe_callB (r := rLenQ K) call_len_seq (by rfl) T.len bt_len (pa_cons (pv 19) pa_nil)))) (pe_lst (pa_cons (pe_op op_sub pe_int pe_int) pa_nil))) pa_nil)))
      (pss_cons (ps_set (i := 13) sc_law.nd rfl (by first | exact Or.inl rfl | exact Or.inr rfl) (C8.pe_c c_table_of hr (by decide) (by rfl) (pa_cons (pv 2) (pa_cons (pv 11) pa_nil))))
      (pss_cons (ps_if (pt_not (pt_val (C8.pe_c c_law_alikeI hr (by decide) (by rfl) (pa_cons (C8.pe_c c_term_degree hr (by decide) (by rfl) (pa_cons (pv 2) (pa_cons (pv 13) pa_nil))) (pa_cons (pv 12) pa_nil))))) (pss_one (ps_ret pe_bl)) pss_nil)
      (pss_cons (ps_asg (pe_tup (pa_cons (C8.pe_c c_law_taken hr (by decide) (by rfl) (pa_cons (pv 1) (pa_cons pe_int pa_nil))) (pa_cons (C8.pe_c c_law_taken hr (by decide) (by rfl) (pa_cons (pv 1) (pa_cons pe_int pa_nil))) pa_nil))) (pg_tup (n := 2) rfl (pgs_cons (pg_name (i := 14) sc_law.nd rfl (by first | exact Or.inl rfl | exact Or.inr rfl)) (pgs_cons (pg_name (i := 15) sc_law.nd rfl (by first | exact Or.inl rfl | exact Or.inr rfl)) pgs_nil))))
      (pss_cons (ps_if (pt_not (pt_val (C8.pe_c c_law_alikeI hr (by decide) (by rfl) (pa_cons (C8.pe_c c_filter_bound hr (by decide) (by rfl) (pa_cons (pv 14) (pa_cons (pv 15) pa_nil))) (pa_cons (pe_callB (r := rSum K) (cr_sum rfl) (by rfl) T.sum bt_sum (pa_cons (pe_lc (own := [("_law_k", 20)]) (wi := iRng1 _) (g := (gName 20)) (tt := tYes) (by rfl) sc_law.nd (pi_range1 (by rfl) T.range (pa_cons (pe_op op_add (pv 15) pe_int) pa_nil)) (blkOk_by (own := [("_law_k", 20)]) (N := N_law) (sc := (defScope s_law)) (by decide +kernel)) (fun _ _ _ _ _ => (pg_name (i := 20) sc_law.nd rfl (by first | exact Or.inl rfl | exact Or.inr rfl))) (fun _ _ _ _ _ => pts_nil) (fun _ _ _ _ _ => (C8.pe_c c_law_choose hr (by decide) (by rfl) (pa_cons (pv 14) (pa_cons (pv 20) pa_nil))))) pa_nil)) pa_nil))))) (pss_one (ps_ret pe_bl)) pss_nil)
      (pss_cons (ps_set (i := 16) sc_law.nd rfl (by first | exact Or.inl rfl | exact Or.inr rfl) (C8.pe_c c_filter_bound hr (by decide) (by rfl) (pa_cons (pe_callB (r := rLenQ K) call_len_seq (by rfl) T.len bt_len (pa_cons (pe_ix (r := rIxT K) ix_tup (pv 3) pe_int (fun _ _ => rfl)) pa_nil)) (pa_cons (pe_callB (call_max2 rfl) (by rfl) T.max bt_max (pa_cons (pv 12) (pa_cons pe_int pa_nil))) pa_nil))))
      (pss_cons (ps_set (i := 17) sc_law.nd rfl (by first | exact Or.inl rfl | exact Or.inr rfl) (C8.pe_c c_filtered hr (by decide) (by rfl) (pa_cons (pv 3) (pa_cons (pv 2) (pa_cons (pv 13) (pa_cons (pv 5) (pa_cons (pe_callB (call_min2 rfl) (by rfl) T.min bt_min (pa_cons pe_int (pa_cons (pe_op op_add (pe_op op_mul pe_int (pv 16)) pe_int) pa_nil))) pa_nil)))))))
      (pss_one (ps_ret (pe_cmpR op_le (C8.pe_c c_least_length hr (by decide) (by rfl) (pa_cons pe_int (pa_cons (pv 17) pa_nil))) (pv 16) (nomark _))))))))))))))))))))))), ?_⟩
  obtain ⟨a, ns, rfl, hS, hlen, k⟩ := h
  -- the row
  refine x_set ⟨.ref a, rfl, by show 4 ≤ sizeLine; decide, fun r nr => ?_⟩
  obtain ⟨ρ, rfl⟩ : ∃ ρ : Rw, ρ = ⟨r, a, ns⟩ := ⟨_, rfl⟩
  have ro : RowOk K (upd H r (.lst [.ref a, .int 0, .int 5087, .int 0])) ⟨r, a, ns⟩ := ⟨0, 5087, 0, upd_same, sq_ex hS (Ex.new nr), hlen, by decide, by decide, by decide⟩
  obtain ⟨ρ, hρ⟩ : ∃ ρ : Rw, ρ = ⟨r, a, ns⟩ := ⟨_, rfl⟩
  rw [← hρ] at ro
  have hr' : r = ρ.r := by rw [hρ]
  obtain ⟨H0, eH0⟩ : ∃ H0, H0 = upd H r (.lst [.ref a, .int 0, .int 5087, .int 0]) := ⟨_, rfl⟩
  rw [← eH0] at ro
  show tSeq _ _ _ [some (V.ref a), some (.ref r), none, none, none, none, none, none, none, none, none, none, none, none, none, none, none, none, none, none, none] (upd H r (.lst [.ref a, .int 0, .int 5087, .int 0]))
  rw [← eH0, hr']
  have s1 : [some (V.ref a), some (.ref ρ.r), none, none, none, none, none, none, none, none, none, none, none, none, none, none, none, none, none, none, none][1]? = some (some (.ref ρ.r)) := rfl
  have en : En [some (V.ref a), some (.ref ρ.r), none, none, none, none, none, none, none, none, none, none, none, none, none, none, none, none, none, none, none] (fun _ => none) (List.replicate 21 none) := ⟨rfl, fun i d h => by
    rw [List.getElem?_replicate] at h
    split at h <;> cases h⟩
  generalize [some (V.ref a), some (.ref ρ.r), none, none, none, none, none, none, none, none, none, none, none, none, none, none, none, none, none, none, none] = σ at s1 en ⊢
  have eb : Ex (fun _ => none) H0 := fun _ _ h => nomatch h
  have nr : (fun _ => none : Hp) ρ.r = none := rfl
  generalize (fun _ => none : Hp) = Hb at en eb nr
  clear hρ hr' eH0
  -- size
  refine sm_set eb nr ro (Φ := fun d => ∃ n : Nat, d = .int n ∧ 1 ≤ n ∧ n ≤ 4) (em_op (em_pure ed_int) (fun Hs es => em_take1 s1 ed_int (by decide) (by decide)) (fun x y hx hy => ?_)) fun v1 H1 H1' d1 f1 nr1 ro1 hd1 dv1 => ?_
  · obtain ⟨n, rfl, n0, n1⟩ := hy
    subst hx
    exact ⟨_, or_add, (1 + n).toNat, by rw [Int.toNat_of_nonneg (by omega)], by omega, by omega⟩
  obtain ⟨n, rfl, hn1, hn4⟩ := hd1
  have en1 := (en.mono f1.b).set (i := 2) dv1
  have t1 := row_set (i := 2) (v := some v1) s1 (by decide)
  generalize σ.set 2 (some v1) = σ at en1 t1 ⊢
  clear en s1
  -- the register, the table
  refine sm_par f1.r nr1 ro1 (em_call t1 (ea_cons ed_int (ea_cons ed_int ea_nil)) rfl) (fun Hs es => em_call t1 (ea_cons (ed_var (en1.mono es) rfl) ea_nil) ⟨n, rfl, hn1, hn4⟩) fun v w H2 H2' x y f2 nr2 ro2 hx hy dx dy => ?_
  obtain ⟨taps, start, rfl, b1, b2, hl, hl7⟩ := hx
  obtain ⟨n', hn', tb, rfl, b3, htl⟩ := hy
  obtain rfl : n = n' := by
    have := PyData.int.inj (List.cons.inj hn').1
    omega
  have en2 := ((en1.mono f2.b).set (i := 3) dx).set (i := 4) dy
  have t2 := row_set (i := 4) (v := some w) (row_set (i := 3) (v := some v) t1 (by decide)) (by decide)
  generalize (σ.set 3 (some v)).set 4 (some w) = σ at en2 t2 ⊢
  clear en1 t1
  -- places, at = [], 0
  refine x_asg ⟨Nat.zero_le _, fun l nl => ⟨by show 2 ≤ sizeLine; decide, fun p np => ⟨p, _, rfl, .inl (.inl upd_same), rfl, .ref l, _, rfl, .int 0, [], rfl, rfl, ?_⟩⟩⟩
  have lr : l ≠ ρ.r := fun z => ro2.ne (z ▸ nl)
  have lp : l ≠ p := fun z => by rw [← z, upd_same] at np; cases np
  have nbl : H2 l = none := fresh_back f2.r nl
  have eh3 : Ex H2' (upd (upd H2' l (.lst [])) p (.tup [.ref l, .int 0])) := (Ex.new nl).trans (Ex.new np)
  have ro3 := ro2.ex eh3
  have hl3 : (upd (upd H2' l (.lst [])) p (.tup [.ref l, .int 0])) l = some (.lst []) := by rw [upd_ne lp, upd_same]
  have en3 := (en2.setN (i := 5) (o := some (.ref l))).set (i := 6) (.int 0)
  have t3 := row_set (i := 6) (v := some (.int 0)) (row_set (i := 5) (v := some (.ref l)) t2 (by decide)) (by decide)
  have u3 : ((σ.set 5 (some (.ref l))).set 6 (some (.int 0)))[5]? = some (some (.ref l)) := by
    rw [List.getElem?_set_ne (by decide), List.getElem?_set_self (by rw [en2.len]; simp)]
  have ex3 : Ex H2 (upd (upd H2' l (.lst [])) p (.tup [.ref l, .int 0])) := f2.r.trans eh3
  generalize (σ.set 5 (some (.ref l))).set 6 (some (.int 0)) = σ at en3 t3 u3 ⊢
  generalize upd (upd H2' l (.lst [])) p (.tup [.ref l, .int 0]) = H3 at ro3 hl3 ex3 ⊢
  clear en2 t2
  -- the places
  have hdraw : ∀ {σ : L2.St} {Hs : Hp} {A B M : Int}, σ[1]? = some (some (.ref ρ.r)) → 1 ≤ A → A ≤ B → B ≤ 1000 → EM K ρ (tCall (spTaken K) [] E0 (tCons (tVar 1) (tCons (tOp (rIxL K) (tLst (tCons (tC (.int A)) (tCons (tC (.int B)) tNil))) (tCall (spTaken K) [] E0 (tCons (tVar 1) (tCons (tC (.int 2)) tNil)))) tNil))) σ Hs (IntIn B) := fun {σ Hs A B M} hs hA hB hM =>
    em_take hs (em_op (em_pure (ed_lst (ea_cons ed_int (ea_cons ed_int ea_nil)) (by show 2 ≤ 100000; decide))) (fun Hs es => em_take1 hs ed_int (by decide) (by decide)) (Θ := fun d => ∃ m : Int, d = .int m ∧ 1 ≤ m ∧ m ≤ B) (fun x y hx hy => by
      obtain ⟨q, rfl, q0, q1⟩ := hy
      subst hx
      have hq : q = 0 ∨ q = 1 := by omega
      rcases hq with z | z
      · rw [z]; exact ⟨.int A, or_ixL rfl, A, rfl, hA, hB⟩
      · rw [z]; exact ⟨.int B, or_ixL rfl, B, rfl, by omega, Int.le_refl _⟩)) (fun d hd => hd) hM
  refine st_for (ew_rng1 (n := (n : Int)) (ea_cons (ed_var en3 rfl) ea_nil) (by omega)) ex3 (fun He i σ' H' => ∃ (Hc : Hp) (at' : Int) (ps : List Int) (t7 : Option PyData), Ex He Hc ∧ Ex Hc H' ∧ Hc ρ.r = none ∧ RowOk K H' ρ ∧ Hc l = none ∧ H' l = some (.lst (ps.map V.int)) ∧ σ'[1]? = some (some (.ref ρ.r)) ∧ σ'[5]? = some (some (.ref l)) ∧
    En σ' Hc [none, none, some (.int n), some (.tuple [Ti taps, Ti start]), some (Ti tb), none, some (.int at'), t7, none, none, none, none, none, none, none, none, none, none, none, none, none] ∧ ps.length = i ∧ ps.Pairwise (· < ·) ∧ (∀ p ∈ ps, 0 ≤ p ∧ p < at') ∧ 0 ≤ at' ∧ at' ≤ 14 * i)
    (fun He H' f => ⟨He, 0, [], none, Ex.refl _, f.r, f.n _ nr2 ro3.ne, ro3.ex f.h, (f.mut nbl hl3).1, (f.mut nbl hl3).2, t3, u3, en3.mono f.b, rfl, .nil, fun _ h => (nomatch h), by decide, by decide⟩)
    (fun He i σ' H' ⟨Hc, at', ps, t7, z1, z2, _⟩ => z1.trans z2) (fun He i v d σ' H' eu hd hv ⟨Hc, at', ps, t7, z1, z2, z3, z4, z5, z6, z7, z8, z9, z10, z11, z12, z13, z14⟩ => ?_) (fun He σ' H' eu ⟨Hc, at', ps, t7, z1, z2, z3, z4, z5, z6, z7, z8, z9, z10, z11, z12, z13, z14⟩ => ?_)
  · have hi : i < n := by
      have := (List.getElem?_eq_some_iff.mp hd).1
      rw [List.length_map, List.length_range] at this
      omega
    have y1 := row_set (i := 7) (v := some v) z7 (by decide)
    have y5 := row_set (i := 7) (v := some v) z8 (by decide)
    have en4 := z9.set (i := 7) (hv.mono z1)
    refine sm_set z2 z3 z4 (Φ := fun d => ∃ m : Int, d = .int m ∧ at' ≤ m ∧ m ≤ at' + 13) (em_op (em_pure (ed_var en4 rfl)) (fun Hs es => hdraw (M := 0) y1 (by decide) (by decide) (by decide)) (fun x y hx hy => ?_)) fun v6 H5 H5' d6 f6 nr6 ro6 hd6 dv6 => ?_
    · obtain ⟨q, rfl, q0, q1⟩ := hy
      subst hx
      exact ⟨_, or_add, _, rfl, by omega, by omega⟩
    obtain ⟨m, rfl, m0, m1⟩ := hd6
    obtain ⟨g1, g2⟩ := FM.mut f6 lr z5 z6
    have en5 := (en4.mono f6.b).set (i := 6) dv6
    have y1' := row_set (i := 6) (v := some v6) y1 (by decide)
    have y5' := row_set (i := 6) (v := some v6) y5 (by decide)
    refine st_app y5' g1 g2 (by rw [List.length_map]; omega) f6.r (ed_var en5 rfl) fun v8 H7 H7' f8 hd8 => ?_
    obtain rfl := hd8.int_eq
    obtain ⟨g3, g4⟩ := f8.mut g1 g2
    have en6 := en5.mono f8.b
    refine x_asg1 ((ed_op (ed_var en6 rfl) ed_int or_add) _ (f8.r.mut g3) _ fun v9 H9 H9' f9 hd9 => ?_)
    obtain ⟨h5, h6⟩ := f9.mut g3 upd_same
    refine ⟨H9, m + 1, ps ++ [m], some d, ((z1.trans f6.b).trans f8.b).trans f9.b, f9.r, f9.n _ (f8.n _ nr6 ro6.ne) (by rw [upd_ne lr.symm]; exact (ro6.ex f8.h).ne), (ro2.at_new nl (ro6.ex f8.h)).ex f9.h, h5, ?_, row_set y1' (by decide), row_set y5' (by decide), ?_, by rw [List.length_append, z10] <;> rfl, ?_, ?_, by omega, by omega⟩
    · rw [h6, List.map_append] <;> rfl
    · exact (en6.mono f9.b).set (i := 6) hd9
    · rw [List.pairwise_append]
      exact ⟨z11, List.pairwise_singleton _ _, fun a ha b hb => by rw [List.mem_singleton.mp hb]; have := z12 a ha; omega⟩
    · intro q hq
      rcases List.mem_append.mp hq with z | z
      · have := z12 q z; omega
      · rw [List.mem_singleton.mp z]; omega
  rw [List.length_map, List.length_range] at z10 z14
  have z10' : ps.length = n := by omega
  have z10 := z10'
  have z11' := z11
  have z14 : at' ≤ 56 := by omega
  clear ro3 hl3 ex3 t3 u3 en3
  -- the places, the count
  have exf : Ex (upd Hc l (.lst (ps.map V.int))) H' := exPin z2 z6
  have nrf : (upd Hc l (.lst (ps.map V.int))) ρ.r = none := by rw [upd_ne lr.symm]; exact z3
  have enf : En σ' (upd Hc l (.lst (ps.map V.int))) [none, none, some (.int n), some (.tuple [Ti taps, Ti start]), some (Ti tb), some (Li ps), some (.int at'), t7, none, none, none, none, none, none, none, none, none, none, none, none, none] := (z9.mono (Ex.new z5)).put (i := 5) z8 (.lst upd_same (DtA.ofInts ps))
  generalize upd Hc l (.lst (ps.map V.int)) = Hf at exf nrf enf
  clear z1 z2 z3 z5 z6 z8 z9
  refine sm_par exf nrf z4 (em_pure (ed_cb (ea_cons (ed_var enf rfl) ea_nil) br_tuple)) (fun Hs es => hdraw (M := 0) z7 (by decide) (by decide) (by decide)) fun v5 v8 H4 H4' x y f4 nr4 ro4 hx hy d5 d8 => ?_
  subst hx
  obtain ⟨ci, rfl, c0, c1⟩ := hy
  obtain ⟨cn, rfl⟩ : ∃ cn : Nat, ci = cn := ⟨ci.toNat, by omega⟩
  have en5 := ((enf.mono f4.b).set (i := 5) d5).set (i := 8) d8
  have t5 := row_set (i := 8) (v := some v8) (row_set (i := 5) (v := some v5) z7 (by decide)) (by decide)
  generalize (σ'.set 5 (some v5)).set 8 (some v8) = σ at en5 t5 ⊢
  clear enf z7
  have hpp : ∀ p ∈ ps, 0 ≤ p ∧ p ≤ 60 := fun p hp => by have := z12 p hp; omega
  have hwl : (runOf taps start (cn + 61)).length = cn + 61 := runOf_len (by omega)
  have hwb : Bits (runOf taps start (cn + 61)) := runOf_bits b2
  -- whole, due
  refine x_asg ((ed_call (R := RlawRun) (d := Ti (runOf taps start (cn + 61))) (ea_cons ed_int (ea_cons (ed_op (ed_var en5 rfl) ed_int (or_ixT (d := Ti taps) (by rfl))) (ea_cons (ed_op (ed_var en5 rfl) ed_int (or_ixT (d := Ti start) (by rfl))) (ea_cons (ed_op (ed_var en5 rfl) ed_int or_add) ea_nil)))) ⟨taps, start, cn + 61, by rw [show ((cn + 61 : Nat) : Int) = (cn : Int) + 61 by omega], b1, b2, hl, by omega, by omega, by omega, rfl⟩) H4' f4.r _ fun v9 H5 H5' f5 d9 => ⟨Nat.zero_le _, fun l2 nl2 => ⟨by show 2 ≤ sizeLine; decide, fun p np => ⟨p, _, rfl, .inl (.inl upd_same), rfl, v9, _, rfl, .ref l2, [], rfl, rfl, ?_⟩⟩⟩)
  have ro5 := ro4.ex f5.h
  have nr5 : H5 ρ.r = none := f5.n _ nr4 ro4.ne
  have lp2 : l2 ≠ p := fun z => by rw [← z, upd_same] at np; cases np
  have nbl2 : H5 l2 = none := fresh_back f5.r nl2
  have eh6 : Ex H5' (upd (upd H5' l2 (.lst [])) p (.tup [v9, .ref l2])) := (Ex.new nl2).trans (Ex.new np)
  have hl6 : (upd (upd H5' l2 (.lst [])) p (.tup [v9, .ref l2])) l2 = some (.lst []) := by rw [upd_ne lp2, upd_same]
  have en6 := ((en5.mono f5.b).set (i := 9) d9).setN (i := 10) (o := some (.ref l2))
  have t6 := row_set (i := 10) (v := some (.ref l2)) (row_set (i := 9) (v := some v9) t5 (by decide)) (by decide)
  have u6 : ((σ.set 9 (some v9)).set 10 (some (.ref l2)))[10]? = some (some (.ref l2)) := by
    rw [List.getElem?_set_self (by rw [List.length_set, en5.len]; simp)]
  have ex6 : Ex H5 (upd (upd H5' l2 (.lst [])) p (.tup [v9, .ref l2])) := f5.r.trans eh6
  have ro6 := ro5.ex eh6
  generalize (σ.set 9 (some v9)).set 10 (some (.ref l2)) = σ at en6 t6 u6 ⊢
  generalize upd (upd H5' l2 (.lst [])) p (.tup [v9, .ref l2]) = H6 at ro6 hl6 ex6 eh6 ⊢
  clear en5 t5
  have due_next : ∀ i : Nat, filt (runOf taps start (cn + 61)) tb ps (i + 1) = filt (runOf taps start (cn + 61)) tb ps i ++ [tb.getD (place (ps.map fun p => (runOf taps start (cn + 61)).getD (i + p.toNat) 0)).toNat 0] := fun i => by
    unfold filt
    rw [List.range_succ, List.map_append] <;> rfl
  refine st_for (ew_rng1 (n := (cn : Int)) (ea_cons (ed_var en6 rfl) ea_nil) (by omega)) ex6 (fun He i σ' H' => ∃ t6' : Option PyData, Ex H5 He ∧ Ex He H' ∧ He ρ.r = none ∧ RowOk K H' ρ ∧ He l2 = none ∧ H' l2 = some (.lst ((filt (runOf taps start (cn + 61)) tb ps i).map V.int)) ∧ σ'[1]? = some (some (.ref ρ.r)) ∧ σ'[10]? = some (some (.ref l2)) ∧
    En σ' He [none, none, some (.int n), some (.tuple [Ti taps, Ti start]), some (Ti tb), some (Ti ps), t6', t7, some (.int cn), some (Ti (runOf taps start (cn + 61))), none, none, none, none, none, none, none, none, none, none, none])
    (fun He H' f => ⟨some (.int at'), f.b, f.r, f.n _ nr5 ro6.ne, ro6.ex f.h, (f.mut nbl2 hl6).1, (f.mut nbl2 hl6).2, t6, u6, en6.mono f.b⟩)
    (fun He i σ' H' ⟨_, z1, z2, _⟩ => z2) (fun He i v d σ' H' eu hd hv ⟨t6', z1, z2, z3, z4, z5, z6, z7, z8, z9⟩ => ?_) (fun He σ' H' eu ⟨t6', z1, z2, z3, z4, z5, z6, z7, z8, z9⟩ => ?_)
  · have hi : i < cn := by
      have := (List.getElem?_eq_some_iff.mp hd).1
      rw [List.length_map, List.length_range] at this
      omega
    rw [List.getElem?_map, List.getElem?_range (by omega)] at hd
    obtain rfl := (Option.some.inj hd).symm
    have y1 := row_set (i := 6) (v := some v) z7 (by decide)
    have y10 := row_set (i := 6) (v := some v) z8 (by decide)
    have en7 := z9.set (i := 6) hv
    refine st_app1 y10 z5 z6 (by rw [List.length_map, filt_len]; omega) z2 (d := .int (tb.getD (place (ps.map fun p => (runOf taps start (cn + 61)).getD (i + p.toNat) 0)).toNat 0)) (ed_op (ed_var (i := 4) en7 rfl) (ed_call (R := RlawPlace) (ea_cons ed_int (ea_cons (ed_is (y := Li (ps.map fun p => (runOf taps start (cn + 61)).getD (i + p.toNat) 0)) (ed_lc0 (A := ps) (enc := fun p => .int p) (enc' := fun p => .int ((runOf taps start (cn + 61)).getD (i + p.toNat) 0)) (ew_tup (ed_var en7 rfl)) (by omega) en7 (by decide)
      fun p hp σ3 H8 e en => ed_op (ed_var en rfl) (ed_op (ed_var en rfl) (ed_var en rfl) or_add) (or_ixT ?_)) (Li_map _ _)) ea_nil)) ⟨_, rfl, rfl⟩) (or_ixT (at_int ?_ ?_))) fun v8 H7 H7' f7 hd7 => ?_
    · have := hpp p hp
      rw [at_int (by omega) (by omega)]
      congr 3
      omega
    · exact (place_lt _ (by intro x hx; obtain ⟨p, _, rfl⟩ := List.mem_map.mp hx; exact bits_getD hwb _)).1
    · have := (place_lt (ps.map fun p => (runOf taps start (cn + 61)).getD (i + p.toNat) 0) (by intro x hx; obtain ⟨p, _, rfl⟩ := List.mem_map.mp hx; exact bits_getD hwb _)).2
      rw [List.length_map, z10] at this
      rw [htl, Int.natCast_pow]
      exact this
    obtain rfl := hd7.int_eq
    refine ⟨some (.int i), z1, (z2.trans f7.h).mut z5, z3, ro5.at_new nl2 (z4.ex f7.h), z5, ?_, y1, y10, en7⟩
    rw [upd_same, due_next, List.map_append] <;> rfl
  rw [List.length_map, List.length_range, show (cn : Int).toNat = cn by omega] at z6
  have exf : Ex (upd He l2 (.lst ((filt (runOf taps start (cn + 61)) tb ps cn).map V.int))) H' := exPin z2 z6
  have lr2 : l2 ≠ ρ.r := fun z => ro5.ne (z ▸ nl2)
  have nrf : (upd He l2 (.lst ((filt (runOf taps start (cn + 61)) tb ps cn).map V.int))) ρ.r = none := by rw [upd_ne lr2.symm]; exact z3
  have enf : En σ' (upd He l2 (.lst ((filt (runOf taps start (cn + 61)) tb ps cn).map V.int))) [none, none, some (.int n), some (.tuple [Ti taps, Ti start]), some (Ti tb), some (Ti ps), t6', t7, some (.int cn), some (Ti (runOf taps start (cn + 61))), some (Li (filt (runOf taps start (cn + 61)) tb ps cn)), none, none, none, none, none, none, none, none, none, none] := (z9.mono (Ex.new z5)).put (i := 10) z8 (.lst upd_same (DtA.ofInts _))
  generalize upd He l2 (.lst ((filt (runOf taps start (cn + 61)) tb ps cn).map V.int)) = Hf at exf nrf enf
  clear z1 z2 z3 z5 z6 z8 z9 en6 t6 u6
  -- filtered, against it
  refine st_guard exf (eb_not (a := true) (eb_B (ed_call (R := RlawAlikeT) (ea_cons (ed_call (R := Rfiltered) (ea_cons (ed_var enf rfl) (ea_cons (ed_var enf rfl) (ea_cons (ed_var enf rfl) (ea_cons (ed_var enf rfl) (ea_cons (ed_var enf rfl) ea_nil))))) ⟨taps, start, tb, ps, n, cn, rfl, b1, b2, hl, by omega, hn1, by omega, b3, htl, z10, z11, hpp, by omega, rfl⟩) (ea_cons (ed_cb (ea_cons (ed_var enf rfl) ea_nil) br_tuple) ea_nil)) ⟨_, by rw [filt_len]; omega, rfl, rfl⟩))) fun H7 H7' f7 => ?_
  have enf := enf.mono f7.b
  have ro7 := z4.ex f7.h
  have nr7 : H7 ρ.r = none := f7.n _ nrf z4.ne
  -- terms
  refine st_new fun l3 H8 nl3 eH8 => ?_
  subst eH8
  have lr3 : l3 ≠ ρ.r := fun z => ro7.ne (z ▸ nl3)
  have nbl3 : H7 l3 = none := fresh_back f7.r nl3
  have en8 := enf.setN (i := 11) (o := some (.ref l3))
  have t8 := row_set (i := 11) (v := some (.ref l3)) z7 (by decide)
  have u8 : (σ'.set 11 (some (.ref l3)))[11]? = some (some (.ref l3)) := by
    rw [List.getElem?_set_self (by rw [enf.len]; simp)]
  have ex8 : Ex H7 (upd H7' l3 (.lst [])) := f7.r.trans (Ex.new nl3)
  have ro8 : RowOk K (upd H7' l3 (.lst [])) ρ := ro7.ex (Ex.new nl3)
  have hl8 : (upd H7' l3 (.lst [])) l3 = some (.lst []) := upd_same
  generalize σ'.set 11 (some (.ref l3)) = σ at en8 t8 u8 ⊢
  generalize upd H7' l3 (.lst []) = H8 at ex8 ro8 hl8 ⊢
  clear enf z7 z4 exf nrf
  refine sm_for (ρ := ρ) (B := 4) ex8 nr7 ro8 (em_take1 t8 ed_int (by decide) (by decide)) (by decide) (fun He m i σ' H' => ∃ (Hc : Hp) (ys : List V) (L : List (List Int)) (t7' : Option PyData), Ex Hc H' ∧ Hc ρ.r = none ∧ RowOk K H' ρ ∧ Hc l3 = none ∧ H' l3 = some (.lst ys) ∧ DtA Hc ys (L.map Ti) ∧ L.length = i ∧ m < 4 ∧ (∀ t ∈ L, t.Pairwise (· < ·) ∧ t.length ≤ n ∧ ∀ x ∈ t, 0 ≤ x ∧ x < n) ∧
    σ'[1]? = some (some (.ref ρ.r)) ∧ σ'[11]? = some (some (.ref l3)) ∧ En σ' Hc [none, none, some (.int n), some (.tuple [Ti taps, Ti start]), some (Ti tb), some (Ti ps), t6', t7', some (.int cn), some (Ti (runOf taps start (cn + 61))), some (Li (filt (runOf taps start (cn + 61)) tb ps cn)), none, none, none, none, none, none, none, none, none, none])
    (fun m He H' f nr9 ro9 hm => ⟨He, [], [], t7, f.r, nr9, ro9, (FM.mut f lr3 nbl3 hl8).1, (FM.mut f lr3 nbl3 hl8).2, .nil, rfl, by omega, fun _ h => (nomatch h), t8, u8, en8.mono f.b⟩)
    (fun m He i σ' H' D' hi ⟨Hc, ys, L, t7', z1, z2, z3, z4, z5, z6, z7, z8, z9, z10, z11, z12⟩ hD => ?_) (fun m He σ' H' ⟨Hc, ys, L, t7', z1, z2, z3, z4, z5, z6, z7, z8, z9, z10, z11, z12⟩ => ?_)
  · have y1 := row_set (i := 7) (v := some (.int (i : Int))) z10 (by decide)
    have y11 := row_set (i := 7) (v := some (.int (i : Int))) z11 (by decide)
    have en9 := z12.set (i := 7) (.int (i : Int))
    have hyl := z6.len
    rw [List.length_map] at hyl
    have hwl9 : ∀ v : V, ((L2.wipe (σ'.set 7 (some (.int (i : Int)))) [6]).set 6 (some v))[6]? = some (some v) := fun v => List.getElem?_set_self (by rw [wipe_length, en9.len]; simp)
    refine sm_app1 (ρ := ρ) lr3 y11 z4 z5 (by omega) z1 z2 z3 (Φ := fun d => ∃ t : List Int, d = Ti t ∧ t.Pairwise (· < ·) ∧ t.length ≤ n ∧ ∀ x ∈ t, 0 ≤ x ∧ x < n) (em_cb1 (em_lcIf (A := List.range n) (enc := fun i : Nat => .int i) (enc' := fun i : Nat => .int i) (ew_rng1 (n := (n : Int)) (ea_cons (ed_var en9 rfl) ea_nil) (by omega)) (by simp; omega) (by decide)
      (fun a ha v H5 e5 hv => em_test (em_op (em_take1 (B := 2) (by rw [List.getElem?_set_ne (by decide), wipe_at, if_neg (by decide)]; exact y1) ed_int (by decide) (by decide)) (fun Hs es => em_pure ed_int) (Θ := fun d => ∃ b, d = .bool b) (fun x y hx hy => by
        obtain ⟨q, rfl, _, _⟩ := hx
        subst hy
        exact ⟨_, or_eq, _, rfl⟩)) (fun d hd => hd))
      (fun a ha v H5 e5 hv => ed_at (hwl9 v) hv)) (fun x hx => ?_)) fun v9 Hr H9 d f9 nr9 ro9 hd9 dv9 hl9 => ?_
    · obtain ⟨B, hB, rfl⟩ := hx
      refine ⟨_, br_tuple, B.map fun i : Nat => (i : Int), Ti_map _ _, List.pairwise_map.mpr ((List.pairwise_lt_range.sublist hB).imp fun {a b} h => by omega), by rw [List.length_map]; have := hB.length_le; rwa [List.length_range] at this, fun x hx => ?_⟩
      obtain ⟨j, hj, rfl⟩ := List.mem_map.mp hx
      have := List.mem_range.mp (hB.subset hj)
      omega
    obtain ⟨t, rfl, ht1, ht2, ht3⟩ := hd9
    rw [hD]
    refine ⟨Hr, ys ++ [v9], L ++ [t], some (.int i), f9.r.mut hl9, nr9, ro7.at_new nl3 ro9, hl9, upd_same, ?_, by rw [List.length_append, z7] <;> rfl, z8, ?_, y1, y11, en9.mono f9.b⟩
    · rw [List.map_append]
      exact (z6.mono f9.b).app (.one dv9)
    · intro t' ht'
      rcases List.mem_append.mp ht' with z | z
      · exact z9 t' z
      · rw [List.mem_singleton.mp z]; exact ⟨ht1, ht2, ht3⟩
  obtain ⟨S, hS1, hS2, hS3⟩ := asc_exists L
  have hTO : TermsOk n S := ⟨hS1, by omega, fun t ht => by
    obtain ⟨q1, q2, q3⟩ := z9 t ((hS2 t).mp ht)
    exact ⟨q1, by omega, q3⟩⟩
  have hS4 : S.length ≤ 3 := by omega
  have hdeg := degOf_le (S := S) (n := n) fun t ht => (z9 t ((hS2 t).mp ht)).2.1
  have exf : Ex (upd Hc l3 (.lst ys)) H' := exPin z1 z5
  have nrf : (upd Hc l3 (.lst ys)) ρ.r = none := by rw [upd_ne lr3.symm]; exact z2
  have enf : En σ' (upd Hc l3 (.lst ys)) [none, none, some (.int n), some (.tuple [Ti taps, Ti start]), some (Ti tb), some (Ti ps), t6', t7', some (.int cn), some (Ti (runOf taps start (cn + 61))), some (Li (filt (runOf taps start (cn + 61)) tb ps cn)), some (.list (L.map Ti)), none, none, none, none, none, none, none, none, none] := (z12.mono (Ex.new z4)).put (i := 11) z11 (.lst upd_same (z6.mono (Ex.new z4)))
  generalize upd Hc l3 (.lst ys) = Hf at exf nrf enf
  clear z1 z2 z4 z5 z6 z12 en8 t8 u8
  -- terms = tuple(sorted(set(terms)))
  refine st_setS (d := .tuple (S.map Ti)) exf (ed_cb (ea_cons (ed_sortSetL (L := L) (ed_var enf rfl) (by omega) hS1 hS2) ea_nil) br_tuple) fun v9 H9 H9' f9 d9 => ?_
  have en9 := (enf.mono f9.b).set (i := 11) d9
  have t9 := row_set (i := 11) (v := some v9) z10 (by decide)
  have ro9 := z3.ex f9.h
  have nr9 : H9 ρ.r = none := f9.n _ nrf z3.ne
  generalize σ'.set 11 (some v9) = σ at en9 t9 ⊢
  clear enf z10 z11 z3 nrf exf
  -- degree
  refine st_setS (d := .int (degOf S)) f9.r (ed_cb (ea_cons (ed_is (y := Li (S.map (fun t => (t.length : Int)) ++ [-1])) (ed_op (ed_lc0 (A := S) (enc := Ti) (enc' := fun t : List Int => .int (t.length : Int)) (ew_tup (ed_var en9 rfl)) (by omega) en9 (by decide)
    fun t ht σ' H1 e en => ed_is (ed_cb (ea_cons (ed_var en rfl) ea_nil) br_lenT) (by rw [List.length_map])) (ed_lst (ea_cons (ed_op (ed_int (i := 0)) (ed_int (i := 1)) or_sub) ea_nil) (by show 1 ≤ 100000; decide)) (or_cat ?_)) ?_) ea_nil) (br_max (degOf_max S).1 (degOf_max S).2)) fun v10 H10 H10' f10 d10 => ?_
  · rw [List.length_map]
    show S.length + 1 ≤ _
    omega
  · show PyData.list _ = PyData.list _
    rw [List.map_append, List.map_map] <;> rfl
  have en10 := (en9.mono f10.b).set (i := 12) d10
  have t10 := row_set (i := 12) (v := some v10) t9 (by decide)
  have ro10 := ro9.ex f10.h
  have nr10 : H10 ρ.r = none := f10.n _ nr9 ro9.ne
  generalize σ.set 12 (some v10) = σ at en10 t10 ⊢
  clear en9 t9
  -- told
  refine st_setS (d := Ti (tableOf n S)) f10.r (ed_call (R := RtableOf) (ea_cons (ed_var en10 rfl) (ea_cons (ed_var en10 rfl) ea_nil)) ⟨n, S, rfl, hn1, by omega, hTO, rfl⟩) fun v11 H11 H11' f11 d11 => ?_
  have en11 := (en10.mono f11.b).set (i := 13) d11
  have t11 := row_set (i := 13) (v := some v11) t10 (by decide)
  have ro11 := ro10.ex f11.h
  have nr11 : H11 ρ.r = none := f11.n _ nr10 ro10.ne
  generalize σ.set 13 (some v11) = σ at en11 t11 ⊢
  clear en10 t10
  refine st_guard f11.r (eb_not (a := true) (eb_B (ed_call (R := RlawAlikeI) (ea_cons (ed_call (R := RtermDegree) (ea_cons (ed_var en11 rfl) (ea_cons (ed_var en11 rfl) ea_nil)) ⟨n, tableOf n S, rfl, hn1, by omega, tableOf_bits n S, tableOf_len n S, rfl⟩) (ea_cons (ed_var en11 rfl) ea_nil)) ⟨degOf S, by rw [p1 n S hn1 hn4 hTO hS4], rfl⟩))) fun H12 H12' f12 => ?_
  have en12 := en11.mono f12.b
  have ro12 := ro11.ex f12.h
  have nr12 : H12 ρ.r = none := f12.n _ nr11 ro11.ne
  clear en11
  -- length, most
  refine sm_asg2 f12.r nr12 ro12 (em_take1 (B := 61) t11 ed_int (by decide) (by decide)) (fun Hs es => em_take1 (B := 10) t11 ed_int (by decide) (by decide)) fun v14 v15 H13 H13' x y f13 nr13 ro13 hx hy d14 d15 => ?_
  obtain ⟨li, rfl, l0, l1⟩ := hx
  obtain ⟨mi, rfl, m0, m1⟩ := hy
  obtain ⟨ln, rfl⟩ : ∃ ln : Nat, li = ln := ⟨li.toNat, by omega⟩
  obtain ⟨mn, rfl⟩ : ∃ mn : Nat, mi = mn := ⟨mi.toNat, by omega⟩
  have en13 := ((en12.mono f13.b).set (i := 14) d14).set (i := 15) d15
  generalize (σ.set 14 (some v14)).set 15 (some v15) = σ at en13 ⊢
  clear en12 t11
  refine st_guard f13.r (eb_not (a := true) (eb_B (ed_call (R := RlawAlikeI) (ea_cons (ed_call (R := RfilterBound) (ea_cons (ed_var en13 rfl) (ea_cons (ed_var en13 rfl) ea_nil)) ⟨ln, mn, rfl, by omega, by omega, rfl⟩) (ea_cons (ed_cb (ea_cons (ed_is (y := Li ((List.range (mn + 1)).map fun k : Nat => lchoose ln k)) (ed_lc0 (A := List.range (mn + 1)) (enc := fun k : Nat => .int k) (enc' := fun k : Nat => .int (lchoose ln k)) (ew_rng1 (n := ((mn + 1 : Nat) : Int)) (ea_cons (ed_op (ed_var en13 rfl) ed_int or_add) ea_nil) (by omega)) (by simp; omega) en13 (by decide)
    fun k hk σ' H3 e en => ed_call (R := RlawChoose) (ea_cons (ed_var en rfl) (ea_cons (ed_var en rfl) ea_nil)) ⟨ln, k, rfl, by omega, by have := List.mem_range.mp hk; omega, rfl⟩) (Li_map _ _)) ea_nil) br_sum) ea_nil)) ⟨lbound ln mn, by rw [p2 ln mn (by omega) (by omega)] <;> rfl, rfl⟩))) fun H14 H14' f14 => ?_
  have en14 := en13.mono f14.b
  -- bound
  refine st_set (d := .int (fbound taps.length (degOf S).toNat)) en14 f14.r (ed_call (R := RfilterBound) (ea_cons (ed_is (y := .int taps.length) (ed_cb (ea_cons (ed_op (ed_var en14 rfl) ed_int (or_ixT (d := Ti taps) (by rfl))) ea_nil) br_lenT) (by rw [List.length_map])) (ea_cons (ed_is (y := .int ((degOf S).toNat : Int)) (ed_cb (ea_cons (ed_var en14 rfl) (ea_cons ed_int ea_nil)) br_max2) ?_) ea_nil)) ⟨taps.length, (degOf S).toNat, rfl, by omega, by omega, rfl⟩) fun σ2 H15 H15' f15 en15 => ?_
  · congr 1
    split <;> omega
  have hb0 : 0 ≤ fbound taps.length (degOf S).toNat := by
    have := p3 taps start ps n 0 S b1 b2 hl hl7 hn1 hn4 hTO hS4 z10' hpp (by omega)
    omega
  obtain ⟨c2, hc2⟩ : ∃ c2 : Nat, (c2 : Int) = if 2 * fbound taps.length (degOf S).toNat + 8 < 400 then 2 * fbound taps.length (degOf S).toNat + 8 else 400 := ⟨(if 2 * fbound taps.length (degOf S).toNat + 8 < 400 then 2 * fbound taps.length (degOf S).toNat + 8 else 400).toNat, by split <;> omega⟩
  have hc3 : c2 ≤ 400 := by
    have : (c2 : Int) ≤ 400 := by rw [hc2]; split <;> omega
    omega
  -- some
  refine st_set (d := Ti (filt (runOf taps start (c2 + 61)) (tableOf n S) ps c2)) en15 f15.r (ed_call (R := Rfiltered) (ea_cons (ed_var en15 rfl) (ea_cons (ed_var en15 rfl) (ea_cons (ed_var en15 rfl) (ea_cons (ed_var en15 rfl) (ea_cons (ed_is (y := .int (c2 : Int)) (ed_cb (ea_cons ed_int (ea_cons (ed_op (ed_op ed_int (ed_var en15 rfl) (or_mul (by unfold CMul; omega))) ed_int or_add) ea_nil)) br_min2) (by rw [hc2])) ea_nil))))) ⟨taps, start, tableOf n S, ps, n, c2, rfl, b1, b2, hl, by omega, hn1, by omega, tableOf_bits n S, tableOf_len n S, z10', z11', hpp, hc3, rfl⟩) fun σ3 H16 H16' f16 en16 => ?_
  -- the answer
  refine st_ret f16.r (ed_is (y := .bool true) (ed_op (ed_call (R := RleastLength) (ea_cons ed_int (ea_cons (ed_var en16 rfl) ea_nil)) ⟨_, rfl, filt_bits (tableOf_bits n S), by rw [filt_len]; exact hc3, rfl⟩) (ed_var en16 rfl) or_le) ?_) fun v Hr H' f hd => ?_
  · rw [decide_eq_true (p3 taps start ps n c2 S b1 b2 hl hl7 hn1 hn4 hTO hS4 z10' hpp hc3)]
  · obtain rfl := hd.bl_eq
    exact k H'
end
end LX

set_option Elab.async false
set_option linter.all false
set_option maxRecDepth 100000
set_option maxHeartbeats 4000000
set_option autoImplicit false
namespace LX
open PySem PySem.Spec PyProof.Rows L2 Evl
theorem df_mk {K : PySem.W.Frag} {h : Heap} {mg : PySem.Str → Option Value} (X : K.In h) (G : h.Ns mainGlobals mg) {x : PySem.Str} {st : Stmt} {ps : List PySem.Str} {f : Addr} {oc : Value} {od an : Option Addr} {osl : Array (Option Value)} {kV doc pm cdv ct : Value}
    (a : PySem.W.nsIn K mainGlobals x = some (some (.ref f))) (l : K.lookup f = some ⟨oc, od, .func (PySem.W.fnOf x x (defArgs st) (defBody st) (defScope st) .none kV doc pm an cdv ct), osl⟩) (c : PySem.W.codeIn K cdv x = true) (k : PySem.W.keepIn K (.ref f) = true)
    (b : ∀ (kV doc pm : Value) (an : Option Addr) (cdv ct : Value) (us : List Value), us.length = ps.length → bindArgs (PySem.W.fnOf x x (defArgs st) (defBody st) (defScope st) .none kV doc pm an cdv ct) ⟨us, []⟩ = pure (ps.zip us)) : Df K mg x st ps := by
  have F := fun_mk (st := st) l c k
  exact ⟨f, _, F, PySem.W.mg_of X G a, F.binds (ps := ps) fun kV doc pm an cdv ct us hl => b kV doc pm an cdv ct us hl⟩

theorem b_is_int (kV doc pm : Value) (an : Option Addr) (cdv ct : Value) (us : List Value) (hl : us.length = P_is_int.length) : bindArgs (PySem.W.fnOf "is_int" "is_int" (defArgs s_is_int) (defBody s_is_int) (defScope s_is_int) .none kV doc pm an cdv ct) ⟨us, []⟩ = pure (P_is_int.zip us) := match us, hl with | [_], _ => rfl
theorem b_is_in (kV doc pm : Value) (an : Option Addr) (cdv ct : Value) (us : List Value) (hl : us.length = P_is_in.length) : bindArgs (PySem.W.fnOf "is_in" "is_in" (defArgs s_is_in) (defBody s_is_in) (defScope s_is_in) .none kV doc pm an cdv ct) ⟨us, []⟩ = pure (P_is_in.zip us) := match us, hl with | [_, _, _], _ => rfl
theorem b_need_prime (kV doc pm : Value) (an : Option Addr) (cdv ct : Value) (us : List Value) (hl : us.length = P_need_prime.length) : bindArgs (PySem.W.fnOf "need_prime" "need_prime" (defArgs s_need_prime) (defBody s_need_prime) (defScope s_need_prime) .none kV doc pm an cdv ct) ⟨us, []⟩ = pure (P_need_prime.zip us) := match us, hl with | [_], _ => rfl
theorem b_need_number (kV doc pm : Value) (an : Option Addr) (cdv ct : Value) (us : List Value) (hl : us.length = P_need_number.length) : bindArgs (PySem.W.fnOf "need_number" "need_number" (defArgs s_need_number) (defBody s_need_number) (defScope s_need_number) .none kV doc pm an cdv ct) ⟨us, []⟩ = pure (P_need_number.zip us) := match us, hl with | [_, _, _], _ => rfl
theorem b_are_numbers (kV doc pm : Value) (an : Option Addr) (cdv ct : Value) (us : List Value) (hl : us.length = P_are_numbers.length) : bindArgs (PySem.W.fnOf "are_numbers" "are_numbers" (defArgs s_are_numbers) (defBody s_are_numbers) (defScope s_are_numbers) .none kV doc pm an cdv ct) ⟨us, []⟩ = pure (P_are_numbers.zip us) := match us, hl with | [_, _, _], _ => rfl
theorem b_need_row (kV doc pm : Value) (an : Option Addr) (cdv ct : Value) (us : List Value) (hl : us.length = P_need_row.length) : bindArgs (PySem.W.fnOf "need_row" "need_row" (defArgs s_need_row) (defBody s_need_row) (defScope s_need_row) .none kV doc pm an cdv ct) ⟨us, []⟩ = pure (P_need_row.zip us) := match us, hl with | [_, _], _ => rfl
theorem b_inverse (kV doc pm : Value) (an : Option Addr) (cdv ct : Value) (us : List Value) (hl : us.length = P_inverse.length) : bindArgs (PySem.W.fnOf "inverse" "inverse" (defArgs s_inverse) (defBody s_inverse) (defScope s_inverse) .none kV doc pm an cdv ct) ⟨us, []⟩ = pure (P_inverse.zip us) := match us, hl with | [_, _], _ => rfl
theorem b_whole_power (kV doc pm : Value) (an : Option Addr) (cdv ct : Value) (us : List Value) (hl : us.length = P_whole_power.length) : bindArgs (PySem.W.fnOf "whole_power" "whole_power" (defArgs s_whole_power) (defBody s_whole_power) (defScope s_whole_power) .none kV doc pm an cdv ct) ⟨us, []⟩ = pure (P_whole_power.zip us) := match us, hl with | [_, _], _ => rfl
theorem b_need_size (kV doc pm : Value) (an : Option Addr) (cdv ct : Value) (us : List Value) (hl : us.length = P_need_size.length) : bindArgs (PySem.W.fnOf "need_size" "need_size" (defArgs s_need_size) (defBody s_need_size) (defScope s_need_size) .none kV doc pm an cdv ct) ⟨us, []⟩ = pure (P_need_size.zip us) := match us, hl with | [_, _], _ => rfl
theorem b_need_table (kV doc pm : Value) (an : Option Addr) (cdv ct : Value) (us : List Value) (hl : us.length = P_need_table.length) : bindArgs (PySem.W.fnOf "need_table" "need_table" (defArgs s_need_table) (defBody s_need_table) (defScope s_need_table) .none kV doc pm an cdv ct) ⟨us, []⟩ = pure (P_need_table.zip us) := match us, hl with | [_, _, _], _ => rfl
theorem b_place_of (kV doc pm : Value) (an : Option Addr) (cdv ct : Value) (us : List Value) (hl : us.length = P_place_of.length) : bindArgs (PySem.W.fnOf "place_of" "place_of" (defArgs s_place_of) (defBody s_place_of) (defScope s_place_of) .none kV doc pm an cdv ct) ⟨us, []⟩ = pure (P_place_of.zip us) := match us, hl with | [_, _], _ => rfl
theorem b_states_of (kV doc pm : Value) (an : Option Addr) (cdv ct : Value) (us : List Value) (hl : us.length = P_states_of.length) : bindArgs (PySem.W.fnOf "states_of" "states_of" (defArgs s_states_of) (defBody s_states_of) (defScope s_states_of) .none kV doc pm an cdv ct) ⟨us, []⟩ = pure (P_states_of.zip us) := match us, hl with | [_, _], _ => rfl
theorem b_terms_of (kV doc pm : Value) (an : Option Addr) (cdv ct : Value) (us : List Value) (hl : us.length = P_terms_of.length) : bindArgs (PySem.W.fnOf "terms_of" "terms_of" (defArgs s_terms_of) (defBody s_terms_of) (defScope s_terms_of) .none kV doc pm an cdv ct) ⟨us, []⟩ = pure (P_terms_of.zip us) := match us, hl with | [_, _], _ => rfl
theorem b_need_terms (kV doc pm : Value) (an : Option Addr) (cdv ct : Value) (us : List Value) (hl : us.length = P_need_terms.length) : bindArgs (PySem.W.fnOf "need_terms" "need_terms" (defArgs s_need_terms) (defBody s_need_terms) (defScope s_need_terms) .none kV doc pm an cdv ct) ⟨us, []⟩ = pure (P_need_terms.zip us) := match us, hl with | [_, _], _ => rfl
theorem b_table_of (kV doc pm : Value) (an : Option Addr) (cdv ct : Value) (us : List Value) (hl : us.length = P_table_of.length) : bindArgs (PySem.W.fnOf "table_of" "table_of" (defArgs s_table_of) (defBody s_table_of) (defScope s_table_of) .none kV doc pm an cdv ct) ⟨us, []⟩ = pure (P_table_of.zip us) := match us, hl with | [_, _], _ => rfl
theorem b_next_of (kV doc pm : Value) (an : Option Addr) (cdv ct : Value) (us : List Value) (hl : us.length = P_next_of.length) : bindArgs (PySem.W.fnOf "next_of" "next_of" (defArgs s_next_of) (defBody s_next_of) (defScope s_next_of) .none kV doc pm an cdv ct) ⟨us, []⟩ = pure (P_next_of.zip us) := match us, hl with | [_, _, _], _ => rfl
theorem b_run_of (kV doc pm : Value) (an : Option Addr) (cdv ct : Value) (us : List Value) (hl : us.length = P_run_of.length) : bindArgs (PySem.W.fnOf "run_of" "run_of" (defArgs s_run_of) (defBody s_run_of) (defScope s_run_of) .none kV doc pm an cdv ct) ⟨us, []⟩ = pure (P_run_of.zip us) := match us, hl with | [_, _, _, _], _ => rfl
theorem b_massey (kV doc pm : Value) (an : Option Addr) (cdv ct : Value) (us : List Value) (hl : us.length = P_massey.length) : bindArgs (PySem.W.fnOf "massey" "massey" (defArgs s_massey) (defBody s_massey) (defScope s_massey) .none kV doc pm an cdv ct) ⟨us, []⟩ = pure (P_massey.zip us) := match us, hl with | [_, _], _ => rfl
theorem b_need_prime_row (kV doc pm : Value) (an : Option Addr) (cdv ct : Value) (us : List Value) (hl : us.length = P_need_prime_row.length) : bindArgs (PySem.W.fnOf "need_prime_row" "need_prime_row" (defArgs s_need_prime_row) (defBody s_need_prime_row) (defScope s_need_prime_row) .none kV doc pm an cdv ct) ⟨us, []⟩ = pure (P_need_prime_row.zip us) := match us, hl with | [_, _], _ => rfl
theorem b_least_length (kV doc pm : Value) (an : Option Addr) (cdv ct : Value) (us : List Value) (hl : us.length = P_least_length.length) : bindArgs (PySem.W.fnOf "least_length" "least_length" (defArgs s_least_length) (defBody s_least_length) (defScope s_least_length) .none kV doc pm an cdv ct) ⟨us, []⟩ = pure (P_least_length.zip us) := match us, hl with | [_, _], _ => rfl
theorem b_is_register (kV doc pm : Value) (an : Option Addr) (cdv ct : Value) (us : List Value) (hl : us.length = P_is_register.length) : bindArgs (PySem.W.fnOf "is_register" "is_register" (defArgs s_is_register) (defBody s_is_register) (defScope s_is_register) .none kV doc pm an cdv ct) ⟨us, []⟩ = pure (P_is_register.zip us) := match us, hl with | [_, _], _ => rfl
theorem b_need_register (kV doc pm : Value) (an : Option Addr) (cdv ct : Value) (us : List Value) (hl : us.length = P_need_register.length) : bindArgs (PySem.W.fnOf "need_register" "need_register" (defArgs s_need_register) (defBody s_need_register) (defScope s_need_register) .none kV doc pm an cdv ct) ⟨us, []⟩ = pure (P_need_register.zip us) := match us, hl with | [_, _], _ => rfl
theorem b_filtered (kV doc pm : Value) (an : Option Addr) (cdv ct : Value) (us : List Value) (hl : us.length = P_filtered.length) : bindArgs (PySem.W.fnOf "filtered" "filtered" (defArgs s_filtered) (defBody s_filtered) (defScope s_filtered) .none kV doc pm an cdv ct) ⟨us, []⟩ = pure (P_filtered.zip us) := match us, hl with | [_, _, _, _, _], _ => rfl
theorem b_term_degree (kV doc pm : Value) (an : Option Addr) (cdv ct : Value) (us : List Value) (hl : us.length = P_term_degree.length) : bindArgs (PySem.W.fnOf "term_degree" "term_degree" (defArgs s_term_degree) (defBody s_term_degree) (defScope s_term_degree) .none kV doc pm an cdv ct) ⟨us, []⟩ = pure (P_term_degree.zip us) := match us, hl with | [_, _], _ => rfl
theorem b_filter_bound (kV doc pm : Value) (an : Option Addr) (cdv ct : Value) (us : List Value) (hl : us.length = P_filter_bound.length) : bindArgs (PySem.W.fnOf "filter_bound" "filter_bound" (defArgs s_filter_bound) (defBody s_filter_bound) (defScope s_filter_bound) .none kV doc pm an cdv ct) ⟨us, []⟩ = pure (P_filter_bound.zip us) := match us, hl with | [_, _], _ => rfl
theorem b_law_taken (kV doc pm : Value) (an : Option Addr) (cdv ct : Value) (us : List Value) (hl : us.length = P_law_taken.length) : bindArgs (PySem.W.fnOf "_law_taken" "_law_taken" (defArgs s_law_taken) (defBody s_law_taken) (defScope s_law_taken) .none kV doc pm an cdv ct) ⟨us, []⟩ = pure (P_law_taken.zip us) := match us, hl with | [_, _], _ => rfl
theorem b_law_taps (kV doc pm : Value) (an : Option Addr) (cdv ct : Value) (us : List Value) (hl : us.length = P_law_taps.length) : bindArgs (PySem.W.fnOf "_law_taps" "_law_taps" (defArgs s_law_taps) (defBody s_law_taps) (defScope s_law_taps) .none kV doc pm an cdv ct) ⟨us, []⟩ = pure (P_law_taps.zip us) := match us, hl with | [_, _, _], _ => rfl
theorem b_law_every (kV doc pm : Value) (an : Option Addr) (cdv ct : Value) (us : List Value) (hl : us.length = P_law_every.length) : bindArgs (PySem.W.fnOf "_law_every" "_law_every" (defArgs s_law_every) (defBody s_law_every) (defScope s_law_every) .none kV doc pm an cdv ct) ⟨us, []⟩ = pure (P_law_every.zip us) := match us, hl with | [_, _], _ => rfl
theorem b_law_bit_table (kV doc pm : Value) (an : Option Addr) (cdv ct : Value) (us : List Value) (hl : us.length = P_law_bit_table.length) : bindArgs (PySem.W.fnOf "_law_bit_table" "_law_bit_table" (defArgs s_law_bit_table) (defBody s_law_bit_table) (defScope s_law_bit_table) .none kV doc pm an cdv ct) ⟨us, []⟩ = pure (P_law_bit_table.zip us) := match us, hl with | [_, _], _ => rfl
theorem b_law_run (kV doc pm : Value) (an : Option Addr) (cdv ct : Value) (us : List Value) (hl : us.length = P_law_run.length) : bindArgs (PySem.W.fnOf "_law_run" "_law_run" (defArgs s_law_run) (defBody s_law_run) (defScope s_law_run) .none kV doc pm an cdv ct) ⟨us, []⟩ = pure (P_law_run.zip us) := match us, hl with | [_, _, _, _], _ => rfl
theorem b_law_place (kV doc pm : Value) (an : Option Addr) (cdv ct : Value) (us : List Value) (hl : us.length = P_law_place.length) : bindArgs (PySem.W.fnOf "_law_place" "_law_place" (defArgs s_law_place) (defBody s_law_place) (defScope s_law_place) .none kV doc pm an cdv ct) ⟨us, []⟩ = pure (P_law_place.zip us) := match us, hl with | [_, _], _ => rfl
theorem b_law_alike (kV doc pm : Value) (an : Option Addr) (cdv ct : Value) (us : List Value) (hl : us.length = P_law_alike.length) : bindArgs (PySem.W.fnOf "_law_alike" "_law_alike" (defArgs s_law_alike) (defBody s_law_alike) (defScope s_law_alike) .none kV doc pm an cdv ct) ⟨us, []⟩ = pure (P_law_alike.zip us) := match us, hl with | [_, _], _ => rfl
theorem b_law_choose (kV doc pm : Value) (an : Option Addr) (cdv ct : Value) (us : List Value) (hl : us.length = P_law_choose.length) : bindArgs (PySem.W.fnOf "_law_choose" "_law_choose" (defArgs s_law_choose) (defBody s_law_choose) (defScope s_law_choose) .none kV doc pm an cdv ct) ⟨us, []⟩ = pure (P_law_choose.zip us) := match us, hl with | [_, _], _ => rfl
theorem b_Growing___init__ (kV doc pm : Value) (an : Option Addr) (cdv ct : Value) (us : List Value) (hl : us.length = P_Growing___init__.length) : bindArgs (PySem.W.fnOf "__init__" "Growing.__init__" (defArgs s_Growing___init__) (defBody s_Growing___init__) (defScope s_Growing___init__) .none kV doc pm an cdv ct) ⟨us, []⟩ = pure (P_Growing___init__.zip us) := match us, hl with | [_, _], _ => rfl
theorem b_Growing_expected (kV doc pm : Value) (an : Option Addr) (cdv ct : Value) (us : List Value) (hl : us.length = P_Growing_expected.length) : bindArgs (PySem.W.fnOf "expected" "Growing.expected" (defArgs s_Growing_expected) (defBody s_Growing_expected) (defScope s_Growing_expected) .none kV doc pm an cdv ct) ⟨us, []⟩ = pure (P_Growing_expected.zip us) := match us, hl with | [_], _ => rfl
theorem b_Growing_step (kV doc pm : Value) (an : Option Addr) (cdv ct : Value) (us : List Value) (hl : us.length = P_Growing_step.length) : bindArgs (PySem.W.fnOf "step" "Growing.step" (defArgs s_Growing_step) (defBody s_Growing_step) (defScope s_Growing_step) .none kV doc pm an cdv ct) ⟨us, []⟩ = pure (P_Growing_step.zip us) := match us, hl with | [_, _], _ => rfl
section
variable {P : Program} {w : World} {K : PySem.W.Frag} {mg : PySem.Str → Option Value} {base : Heap}
theorem top {f C fI fE fS : Addr} {fd fdI fdE fdS : FuncData} (T : Txt K mg) (F : L2.Fun K "law" "law" s_law f fd) (p1 : P1) (p2 : P2) (p3 : P3) (D_is_int : Df K mg "is_int" s_is_int P_is_int) (D_is_in : Df K mg "is_in" s_is_in P_is_in) (D_need_prime : Df K mg "need_prime" s_need_prime P_need_prime) (D_need_number : Df K mg "need_number" s_need_number P_need_number) (D_are_numbers : Df K mg "are_numbers" s_are_numbers P_are_numbers) (D_need_row : Df K mg "need_row" s_need_row P_need_row) (D_inverse : Df K mg "inverse" s_inverse P_inverse) (D_whole_power : Df K mg "whole_power" s_whole_power P_whole_power) (D_need_size : Df K mg "need_size" s_need_size P_need_size) (D_need_table : Df K mg "need_table" s_need_table P_need_table) (D_place_of : Df K mg "place_of" s_place_of P_place_of) (D_states_of : Df K mg "states_of" s_states_of P_states_of) (D_terms_of : Df K mg "terms_of" s_terms_of P_terms_of) (D_need_terms : Df K mg "need_terms" s_need_terms P_need_terms) (D_table_of : Df K mg "table_of" s_table_of P_table_of) (D_next_of : Df K mg "next_of" s_next_of P_next_of) (D_run_of : Df K mg "run_of" s_run_of P_run_of) (D_massey : Df K mg "massey" s_massey P_massey) (D_need_prime_row : Df K mg "need_prime_row" s_need_prime_row P_need_prime_row) (D_least_length : Df K mg "least_length" s_least_length P_least_length) (D_is_register : Df K mg "is_register" s_is_register P_is_register) (D_need_register : Df K mg "need_register" s_need_register P_need_register) (D_filtered : Df K mg "filtered" s_filtered P_filtered) (D_term_degree : Df K mg "term_degree" s_term_degree P_term_degree) (D_filter_bound : Df K mg "filter_bound" s_filter_bound P_filter_bound) (D_law_taken : Df K mg "_law_taken" s_law_taken P_law_taken) (D_law_taps : Df K mg "_law_taps" s_law_taps P_law_taps) (D_law_every : Df K mg "_law_every" s_law_every P_law_every) (D_law_bit_table : Df K mg "_law_bit_table" s_law_bit_table P_law_bit_table) (D_law_run : Df K mg "_law_run" s_law_run P_law_run) (D_law_place : Df K mg "_law_place" s_law_place P_law_place) (D_law_alike : Df K mg "_law_alike" s_law_alike P_law_alike) (D_law_choose : Df K mg "_law_choose" s_law_choose P_law_choose)
    (G : GCl K C) (M : Mk K C fI) (hmC : mg "Growing" = some (.ref C)) (FI : L2.Fun K "__init__" "Growing.__init__" s_Growing___init__ fI fdI) (bI : Binds K fdI P_Growing___init__ [])
    (FE : L2.Fun K "expected" "Growing.expected" s_Growing_expected fE fdE) (bE : Binds K fdE P_Growing_expected []) (mE : Meth K C "expected" fE)
    (FS : L2.Fun K "step" "Growing.step" s_Growing_step fS fdS) (bS : Binds K fdS P_Growing_step []) (mS : Meth K C "step" fS) : FnOk P w K mg base CX0 7 f fd P_law (spLaw K) := by
  have c_is_int : CalD P w K mg base 1 "is_int" RisInt := ok_is_int T D_is_int 
  have c_is_in : CalD P w K mg base 2 "is_in" RisIn := ok_is_in T D_is_in c_is_int
  have c_need_prime : CalD P w K mg base 2 "need_prime" RneedPrime := ok_need_prime T D_need_prime c_is_int
  have c_need_number : CalD P w K mg base 3 "need_number" RneedNumber := ok_need_number T D_need_number c_is_in
  have c_are_numbers : CalD P w K mg base 3 "are_numbers" RareNumbers := ok_are_numbers T D_are_numbers c_is_in
  have c_need_row : CalD P w K mg base 4 "need_row" RneedRow := ok_need_row T D_need_row c_are_numbers
  have c_inverse : CalD P w K mg base 1 "inverse" Rinverse := ok_inverse T D_inverse 
  have c_whole_power : CalD P w K mg base 1 "whole_power" RwholePower := ok_whole_power T D_whole_power 
  have c_need_size : CalD P w K mg base 3 "need_size" RneedSize := ok_need_size T D_need_size c_need_prime c_is_in c_whole_power
  have c_need_table : CalD P w K mg base 4 "need_table" RneedTable := ok_need_table T D_need_table c_need_size c_are_numbers c_whole_power
  have c_place_ofL : CalD P w K mg base 1 "place_of" RplaceL := ok_place_ofL T D_place_of 
  have c_place_ofT : CalD P w K mg base 1 "place_of" RplaceT := ok_place_ofT T D_place_of 
  have c_states_of : CalD P w K mg base 1 "states_of" RstatesOf := ok_states_of T D_states_of 
  have c_need_terms : CalD P w K mg base 4 "need_terms" RneedTerms := ok_need_terms T D_need_terms c_need_size c_is_in
  have c_next_of : CalD P w K mg base 1 "next_of" RnextOf := ok_next_of T D_next_of 
  have c_run_of : CalD P w K mg base 2 "run_of" RrunOf := ok_run_of T D_run_of c_next_of
  have c_filter_bound : CalD P w K mg base 4 "filter_bound" RfilterBound := ok_filter_bound T D_filter_bound c_need_number
  have c_is_register : CalD P w K mg base 4 "is_register" RisRegister := ok_is_register T D_is_register c_are_numbers
  have c_need_register : CalD P w K mg base 5 "need_register" RneedRegister := ok_need_register T D_need_register c_is_register
  have c_need_prime_row : CalD P w K mg base 5 "need_prime_row" RneedPrimeRow := ok_need_prime_row T D_need_prime_row c_need_prime c_need_row
  have c_table_of : CalD P w K mg base 5 "table_of" RtableOf := ok_table_of T D_table_of c_need_terms c_states_of
  have c_terms_of : CalD P w K mg base 5 "terms_of" RtermsOf := ok_terms_of T D_terms_of c_need_table c_states_of c_place_ofT
  have c_term_degree : CalD P w K mg base 6 "term_degree" RtermDegree := ok_term_degree T D_term_degree c_terms_of
  have c_filtered : CalD P w K mg base 6 "filtered" Rfiltered := ok_filtered T D_filtered c_need_register c_need_table c_is_in c_need_number c_run_of c_place_ofL
  have c_law_every : CalD P w K mg base 1 "_law_every" RlawEvery := ok_law_every T D_law_every 
  have c_law_run : CalD P w K mg base 1 "_law_run" RlawRun := ok_law_run T D_law_run 
  have c_law_place : CalD P w K mg base 1 "_law_place" RlawPlace := ok_law_place T D_law_place 
  have c_law_choose : CalD P w K mg base 1 "_law_choose" RlawChoose := ok_law_choose T D_law_choose 
  have c_law_alikeI : CalD P w K mg base 1 "_law_alike" RlawAlikeI := ok_law_alikeI T D_law_alike 
  have c_law_alikeT : CalD P w K mg base 2 "_law_alike" RlawAlikeT := ok_law_alikeT T D_law_alike c_law_alikeI
  have mk : C8.Mak P w K mg base 1 "Growing" C (spInit C) [] := ok_init FI bI G M hmC
  have m_expected : C8.Met P w K mg base 1 C "expected" (spExpected C) [] := ok_expected T FE bE G mE
  have m_step : C8.Met P w K mg base 2 C "step" (spStep C) [] := ok_step T FS bS G mS m_expected c_inverse
  have c_massey : CalD P w K mg base 3 "massey" Rmassey := ok_massey T D_massey G mk m_step
  have c_least_length : CalD P w K mg base 6 "least_length" RleastLength := ok_least_length T D_least_length c_need_prime_row c_massey
  have c_law_taken : C8.Cal P w K mg base 1 "_law_taken" (spTaken K) [] := ok_law_taken T D_law_taken
  have c_law_taps : C8.Cal P w K mg base 2 "_law_taps" (spM K PreTaps RlawTaps) [] := ok_law_taps T D_law_taps c_law_taken
  have c_law_bit_table : C8.Cal P w K mg base 2 "_law_bit_table" (spM K PreBt RlawBt) [] := ok_law_bit_table T D_law_bit_table c_law_taken c_law_every
  exact ok_law T F p1 p2 p3 c_law_taken c_law_taps c_law_bit_table c_law_run c_law_place c_law_alikeI c_law_alikeT c_law_choose c_filtered c_table_of c_term_degree c_filter_bound c_least_length
end
section
variable {K : PySem.W.Frag} {h : Heap} {mg : PySem.Str → Option Value}
theorem gi_mk (X : K.In h) (G : h.Ns mainGlobals mg) {x : PySem.Str} {v : Value} {i : Int} (a : PySem.W.nsIn K mainGlobals x = some (some v)) (hv : ∃ t, v = .int i t) : ∃ t, mg x = some (.int i t) := by
  obtain ⟨t, rfl⟩ := hv
  exact ⟨t, PySem.W.mg_of X G a⟩
theorem primes_mk (X : K.In h) (G : h.Ns mainGlobals mg) {q : Addr} {o : Obj} (a : PySem.W.nsIn K mainGlobals "PRIMES" = some (some (.ref q))) (l : K.lookup q = some o)
    (ho : ∃ t1 t2 t3 t4 n, o.cls = .type "tuple" ∧ o.data = .seq #[.int 2 t1, .int 3 t2, .int 5 t3, .int 7 t4] n) : ∃ a, mg "PRIMES" = some (.ref a) ∧ ∀ H, SqT K H a [.int 2, .int 3, .int 5, .int 7] := by
  obtain ⟨t1, t2, t3, t4, n, h1, h2⟩ := ho
  exact ⟨q, PySem.W.mg_of X G a, fun H => .inr ⟨o, _, n, l, h1, h2, by show 4 ≤ sizeLine; decide, .cons ⟨_, rfl⟩ (.cons ⟨_, rfl⟩ (.cons ⟨_, rfl⟩ (.cons ⟨_, rfl⟩ .nil)))⟩⟩
structure Grw (K : PySem.W.Frag) (mg : PySem.Str → Option Value) : Prop where
  ex : ∃ (C fI fE fS : Addr) (fdI fdE fdS : FuncData), GCl K C ∧ Mk K C fI ∧ mg "Growing" = some (.ref C) ∧ L2.Fun K "__init__" "Growing.__init__" s_Growing___init__ fI fdI ∧ Binds K fdI P_Growing___init__ [] ∧
    L2.Fun K "expected" "Growing.expected" s_Growing_expected fE fdE ∧ Binds K fdE P_Growing_expected [] ∧ Meth K C "expected" fE ∧ L2.Fun K "step" "Growing.step" s_Growing_step fS fdS ∧ Binds K fdS P_Growing_step [] ∧ Meth K C "step" fS
theorem grw_mk (X : K.In h) (G : h.Ns mainGlobals mg) {C f1 f2 f3 : Addr} {od1 an1 od2 an2 od3 an3 : Option Addr} {sl1 sl2 sl3 : Array (Option Value)} {oc1 kV1 dc1 pm1 cd1 ct1 oc2 kV2 dc2 pm2 cd2 ct2 oc3 kV3 dc3 pm3 cd3 ct3 : Value}
    (aC : PySem.W.nsIn K mainGlobals "Growing" = some (some (.ref C)))
    (a1 : PySem.W.findIn K (.ref C) "__init__" = some (some (.ref f1))) (i1 : PySem.W.isFn K (.ref f1) = true) (l1 : K.lookup f1 = some ⟨oc1, od1, .func (PySem.W.fnOf "__init__" "Growing.__init__" (defArgs s_Growing___init__) (defBody s_Growing___init__) (defScope s_Growing___init__) .none kV1 dc1 pm1 an1 cd1 ct1), sl1⟩) (c1 : PySem.W.codeIn K cd1 "Growing.__init__" = true) (k1 : PySem.W.keepIn K (.ref f1) = true)
    (a2 : PySem.W.findIn K (.ref C) "expected" = some (some (.ref f2))) (i2 : PySem.W.isFn K (.ref f2) = true) (l2 : K.lookup f2 = some ⟨oc2, od2, .func (PySem.W.fnOf "expected" "Growing.expected" (defArgs s_Growing_expected) (defBody s_Growing_expected) (defScope s_Growing_expected) .none kV2 dc2 pm2 an2 cd2 ct2), sl2⟩) (c2 : PySem.W.codeIn K cd2 "Growing.expected" = true) (k2 : PySem.W.keepIn K (.ref f2) = true)
    (a3 : PySem.W.findIn K (.ref C) "step" = some (some (.ref f3))) (i3 : PySem.W.isFn K (.ref f3) = true) (l3 : K.lookup f3 = some ⟨oc3, od3, .func (PySem.W.fnOf "step" "Growing.step" (defArgs s_Growing_step) (defBody s_Growing_step) (defScope s_Growing_step) .none kV3 dc3 pm3 an3 cd3 ct3), sl3⟩) (c3 : PySem.W.codeIn K cd3 "Growing.step" = true) (k3 : PySem.W.keepIn K (.ref f3) = true)
    (pg : PySem.W.plainGet K C Str.empty = true) (hd : PySem.W.hasDictIn K C = true) (po : PySem.W.plainOver K C = true) (sa : PySem.W.findIn K (.ref C) "__setattr__" = some (some (.builtin "object.__setattr__"))) (mk : PySem.W.makesIn K C = true) (kc : PySem.W.keepIn K (.ref C) = true)
    (n1 : PySem.W.findIn K (.ref C) "prime" = some none) (n2 : PySem.W.findIn K (.ref C) "row" = some none) (n3 : PySem.W.findIn K (.ref C) "length" = some none) (n4 : PySem.W.findIn K (.ref C) "taps" = some none) (n5 : PySem.W.findIn K (.ref C) "before" = some none) (n6 : PySem.W.findIn K (.ref C) "gap" = some none) (n7 : PySem.W.findIn K (.ref C) "base" = some none) : Grw K mg := by
  have F1 := fun_mk (st := s_Growing___init__) l1 c1 k1
  have F2 := fun_mk (st := s_Growing_expected) l2 c2 k2
  have F3 := fun_mk (st := s_Growing_step) l3 c3 k3
  exact ⟨C, f1, f2, f3, _, _, _, ⟨⟨pg, hd, po, sa⟩, n1, n2, n3, n4, n5, n6, n7⟩, ⟨mk, a1, i1, kc⟩, PySem.W.mg_of X G aC, F1, F1.binds (ps := P_Growing___init__) fun kV dc pm an cd ct us hl => b_Growing___init__ kV dc pm an cd ct us hl, F2, F2.binds (ps := P_Growing_expected) fun kV dc pm an cd ct us hl => b_Growing_expected kV dc pm an cd ct us hl, ⟨a2, i2, k2⟩,
    F3, F3.binds (ps := P_Growing_step) fun kV dc pm an cd ct us hl => b_Growing_step kV dc pm an cd ct us hl, ⟨a3, i3, k3⟩⟩
theorem fin {l : PySem.W.OpenLaw} {w : World} {fa f2 : Addr} (X : K.In h) (G : h.Ns mainGlobals mg) (hfa : mg "law" = some (.ref fa)) (p1 : P1) (p2 : P2) (p3 : P3) (T : Txt K mg) (D_is_int : Df K mg "is_int" s_is_int P_is_int) (D_is_in : Df K mg "is_in" s_is_in P_is_in) (D_need_prime : Df K mg "need_prime" s_need_prime P_need_prime) (D_need_number : Df K mg "need_number" s_need_number P_need_number) (D_are_numbers : Df K mg "are_numbers" s_are_numbers P_are_numbers) (D_need_row : Df K mg "need_row" s_need_row P_need_row) (D_inverse : Df K mg "inverse" s_inverse P_inverse) (D_whole_power : Df K mg "whole_power" s_whole_power P_whole_power) (D_need_size : Df K mg "need_size" s_need_size P_need_size) (D_need_table : Df K mg "need_table" s_need_table P_need_table) (D_place_of : Df K mg "place_of" s_place_of P_place_of) (D_states_of : Df K mg "states_of" s_states_of P_states_of) (D_terms_of : Df K mg "terms_of" s_terms_of P_terms_of) (D_need_terms : Df K mg "need_terms" s_need_terms P_need_terms) (D_table_of : Df K mg "table_of" s_table_of P_table_of) (D_next_of : Df K mg "next_of" s_next_of P_next_of) (D_run_of : Df K mg "run_of" s_run_of P_run_of) (D_massey : Df K mg "massey" s_massey P_massey) (D_need_prime_row : Df K mg "need_prime_row" s_need_prime_row P_need_prime_row) (D_least_length : Df K mg "least_length" s_least_length P_least_length) (D_is_register : Df K mg "is_register" s_is_register P_is_register) (D_need_register : Df K mg "need_register" s_need_register P_need_register) (D_filtered : Df K mg "filtered" s_filtered P_filtered) (D_term_degree : Df K mg "term_degree" s_term_degree P_term_degree) (D_filter_bound : Df K mg "filter_bound" s_filter_bound P_filter_bound) (D_law_taken : Df K mg "_law_taken" s_law_taken P_law_taken) (D_law_taps : Df K mg "_law_taps" s_law_taps P_law_taps) (D_law_every : Df K mg "_law_every" s_law_every P_law_every) (D_law_bit_table : Df K mg "_law_bit_table" s_law_bit_table P_law_bit_table) (D_law_run : Df K mg "_law_run" s_law_run P_law_run) (D_law_place : Df K mg "_law_place" s_law_place P_law_place) (D_law_alike : Df K mg "_law_alike" s_law_alike P_law_alike) (D_law_choose : Df K mg "_law_choose" s_law_choose P_law_choose) (R : Grw K mg)
    {od2 an2 : Option Addr} {sl2 : Array (Option Value)} {oc2 kV2 dc2 pm2 cd2 ct2 : Value}
    (a2 : PySem.W.nsIn K mainGlobals "law" = some (some (.ref f2))) (l2 : K.lookup f2 = some ⟨oc2, od2, .func (PySem.W.fnOf "law" "law" (defArgs s_law) (defBody s_law) (defScope s_law) .none kV2 dc2 pm2 an2 cd2 ct2), sl2⟩) (c2 : PySem.W.codeIn K cd2 "law" = true) (k2 : PySem.W.keepIn K (.ref f2) = true) :
    ∃ fd : FuncData, (∀ (s : Shared) (v : Value), BindsTo s fd ⟨[v], []⟩ [("_law_script", v)]) ∧ ∀ base : Heap, K.In base → base.Ns mainGlobals mg → FnOk l.prog w K mg base CX0 7 fa fd ["_law_script"] (spLaw K) := by
  have e := hfa.symm.trans (PySem.W.mg_of X G a2)
  cases e
  have F2 := fun_mk (st := s_law) l2 c2 k2
  obtain ⟨C, fI, fE, fS, fdI, fdE, fdS, g1, g2, g3, g4, g5, g6, g7, g8, g9, g10, g11⟩ := R.ex
  exact ⟨PySem.W.fnOf "law" "law" (defArgs s_law) (defBody s_law) (defScope s_law) .none kV2 dc2 pm2 an2 cd2 ct2, fun s v => .of_eq rfl, fun base _ _ => top T F2 p1 p2 p3 D_is_int D_is_in D_need_prime D_need_number D_are_numbers D_need_row D_inverse D_whole_power D_need_size D_need_table D_place_of D_states_of D_terms_of D_need_terms D_table_of D_next_of D_run_of D_massey D_need_prime_row D_least_length D_is_register D_need_register D_filtered D_term_degree D_filter_bound D_law_taken D_law_taps D_law_every D_law_bit_table D_law_run D_law_place D_law_alike D_law_choose g1 g2 g3 g4 g5 g6 g7 g8 g9 g10 g11⟩
end
end LX

set_option Elab.async false
set_option linter.all false
set_option autoImplicit false
namespace LX
/-! ### bits -/
/-- the sum of f over 0, .., n - 1 -/
def xs : Nat → (Nat → Bool) → Bool
  | 0, _ => false
  | n + 1, f => xor (xs n f) (f n)
theorem xs_congr : ∀ {n : Nat} {f g : Nat → Bool}, (∀ k, k < n → f k = g k) → xs n f = xs n g
  | 0, _, _, _ => rfl
  | n + 1, f, g, h => by
    show xor (xs n f) (f n) = xor (xs n g) (g n)
    rw [xs_congr (f := f) (g := g) fun k hk => h k (by omega), h n (by omega)]
theorem xs_zero : ∀ (n : Nat) {f : Nat → Bool}, (∀ k, k < n → f k = false) → xs n f = false
  | 0, _, _ => rfl
  | n + 1, f, h => by
    show xor (xs n f) (f n) = false
    rw [xs_zero n fun k hk => h k (by omega), h n (by omega)] <;> rfl
theorem xs_add : ∀ (n : Nat) (f g : Nat → Bool), xs n (fun k => xor (f k) (g k)) = xor (xs n f) (xs n g)
  | 0, _, _ => rfl
  | n + 1, f, g => by
    show xor (xs n _) (xor (f n) (g n)) = xor (xor (xs n f) (f n)) (xor (xs n g) (g n))
    rw [xs_add n f g]
    cases xs n f <;> cases xs n g <;> cases f n <;> cases g n <;> rfl
theorem xs_mul : ∀ (n : Nat) (b : Bool) (f : Nat → Bool), (b && xs n f) = xs n (fun k => b && f k)
  | 0, b, _ => by cases b <;> rfl
  | n + 1, b, f => by
    show (b && xor (xs n f) (f n)) = xor (xs n _) (b && f n)
    rw [← xs_mul n b f]
    cases b <;> cases xs n f <;> cases f n <;> rfl
theorem xs_swap : ∀ (n m : Nat) (f : Nat → Nat → Bool), xs n (fun i => xs m (f i)) = xs m (fun j => xs n fun i => f i j)
  | 0, m, f => (xs_zero m fun _ _ => rfl).symm
  | n + 1, m, f => by
    show xor (xs n _) (xs m (f n)) = xs m (fun j => xor (xs n fun i => f i j) (f n j))
    rw [xs_add, xs_swap n m f]
theorem xs_split : ∀ (n m : Nat) (f : Nat → Bool), xs (n + m) f = xor (xs n f) (xs m fun k => f (n + k))
  | n, 0, f => by show xs n f = xor (xs n f) false; cases xs n f <;> rfl
  | n, m + 1, f => by
    show xor (xs (n + m) f) (f (n + m)) = xor (xs n f) (xor (xs m fun k => f (n + k)) (f (n + m)))
    rw [xs_split n m f]
    cases xs n f <;> cases xs m (fun k => f (n + k)) <;> cases f (n + m) <;> rfl
theorem xs_ext {n m : Nat} {f : Nat → Bool} (h : n ≤ m) (h0 : ∀ k, n ≤ k → k < m → f k = false) : xs m f = xs n f := by
  obtain ⟨d, rfl⟩ : ∃ d, m = n + d := ⟨m - n, by omega⟩
  rw [xs_split, xs_zero d fun k hk => h0 (n + k) (by omega) (by omega)]
  cases xs n f <;> rfl
theorem xs_succ' (n : Nat) (f : Nat → Bool) : xs (n + 1) f = xor (f 0) (xs n fun k => f (k + 1)) := by
  rw [Nat.add_comm n 1, xs_split]
  show xor (xor false (f 0)) _ = _
  rw [xs_congr (g := fun k => f (k + 1)) fun k _ => by rw [Nat.add_comm]]
  cases f 0 <;> rfl
/-! ### spans -/
abbrev Sq := Nat → Bool
def sAdd (f g : Sq) : Sq := fun i => xor (f i) (g i)
def sMul (f g : Sq) : Sq := fun i => f i && g i
def sZero : Sq := fun _ => false
inductive InSp (G : List Sq) : Sq → Prop
  | zero : InSp G sZero
  | add {g f : Sq} : g ∈ G → InSp G f → InSp G (sAdd g f)
theorem sAdd_zero (f : Sq) : sAdd f sZero = f := funext fun i => by show xor (f i) false = f i; cases f i <;> rfl
theorem zero_sAdd (f : Sq) : sAdd sZero f = f := funext fun i => by show xor false (f i) = f i; cases f i <;> rfl
theorem sAdd_assoc (f g h : Sq) : sAdd (sAdd f g) h = sAdd f (sAdd g h) := funext fun i => by
  show xor (xor (f i) (g i)) (h i) = xor (f i) (xor (g i) (h i))
  cases f i <;> cases g i <;> cases h i <;> rfl
theorem sAdd_self (f : Sq) : sAdd f f = sZero := funext fun i => by show xor (f i) (f i) = false; cases f i <;> rfl
theorem sAdd_comm (f g : Sq) : sAdd f g = sAdd g f := funext fun i => by show xor (f i) (g i) = xor (g i) (f i); cases f i <;> cases g i <;> rfl
theorem InSp.sum {G : List Sq} {f g : Sq} (h : InSp G f) (k : InSp G g) : InSp G (sAdd f g) := by
  induction h with
  | zero => rw [zero_sAdd]; exact k
  | add m _ ih => rw [sAdd_assoc]; exact .add m ih
theorem InSp.one {G : List Sq} {g : Sq} (h : g ∈ G) : InSp G g := by
  have := InSp.add h .zero
  rwa [sAdd_zero] at this
theorem InSp.mono {G G' : List Sq} {f : Sq} (h : InSp G f) (s : ∀ g ∈ G, InSp G' g) : InSp G' f := by
  induction h with
  | zero => exact .zero
  | add m _ ih => exact (s _ m).sum ih
theorem InSp.sub {G G' : List Sq} {f : Sq} (h : InSp G f) (s : ∀ g ∈ G, g ∈ G') : InSp G' f := h.mono fun g hg => .one (s g hg)
theorem InSp.nil {f : Sq} (h : InSp [] f) : f = sZero := by
  cases h with
  | zero => rfl
  | add m _ => exact absurd m (by simp)
/-- split at the head -/
theorem InSp.head {g : Sq} {G : List Sq} {f : Sq} (h : InSp (g :: G) f) : InSp G f ∨ InSp G (sAdd f g) := by
  induction h with
  | zero => exact .inl .zero
  | @add a f m _ ih =>
    rcases List.mem_cons.mp m with e | e
    · subst e
      rcases ih with z | z
      · right
        rw [sAdd_comm a f, sAdd_assoc, sAdd_self, sAdd_zero]
        exact z
      · left
        rw [sAdd_comm]
        exact z
    · rcases ih with z | z
      · exact .inl (.add e z)
      · right
        rw [sAdd_assoc]
        exact .add e z
theorem least {p : Nat → Prop} : ∀ n, p n → ∃ m, m ≤ n ∧ p m ∧ ∀ i, i < m → ¬ p i := by
  intro n
  induction n using Nat.strongRecOn with
  | ind n ih =>
    intro h
    by_cases z : ∃ i, i < n ∧ p i
    · obtain ⟨i, hi, hp⟩ := z
      obtain ⟨m, h1, h2, h3⟩ := ih i hi hp
      exact ⟨m, by omega, h2, h3⟩
    · exact ⟨n, Nat.le_refl _, h, fun i hi hp => z ⟨i, hi, hp⟩⟩
theorem mem_rng {h : Nat → Sq} {i k : Nat} (hi : i < k) : h i ∈ (List.range k).map h := List.mem_map.mpr ⟨i, List.mem_range.mpr hi, rfl⟩
/-- among one more than there are generators one is a sum of those ahead of it -/
theorem dep : ∀ (G : List Sq) (h : Nat → Sq), (∀ j, j ≤ G.length → InSp G (h j)) → ∃ k, k ≤ G.length ∧ InSp ((List.range k).map h) (h k)
  | [], h, H => ⟨0, Nat.le_refl _, by rw [(H 0 (Nat.le_refl _)).nil]; exact .zero⟩
  | g :: G, h, H => by
    by_cases all : ∀ j, j ≤ G.length → InSp G (h j)
    · obtain ⟨k, h1, h2⟩ := dep G h all
      exact ⟨k, by rw [List.length_cons]; omega, h2⟩
    · -- the first with g in it
      have ex : ∃ j, j ≤ G.length ∧ ¬ InSp G (h j) :=
        Classical.byContradiction fun z => all fun j hj => Classical.byContradiction fun y => z ⟨j, hj, y⟩
      obtain ⟨j1, hj1⟩ := ex
      obtain ⟨j0, _, ⟨hj0, hn⟩, hmin⟩ := least (p := fun j => j ≤ G.length ∧ ¬ InSp G (h j)) j1 hj1
      have hg : InSp G (sAdd (h j0) g) := by
        rcases (H j0 (by rw [List.length_cons]; omega)).head with z | z
        · exact absurd z hn
        · exact z
      -- the others without it
      have pick : ∀ j, ∃ e : Bool, j ≤ G.length + 1 → InSp G (if e then sAdd (h j) (h j0) else h j) := fun j => by
        by_cases hj : j ≤ G.length + 1
        · rcases (H j (by rw [List.length_cons]; exact hj)).head with z | z
          · exact ⟨false, fun _ => z⟩
          · refine ⟨true, fun _ => ?_⟩
            have := z.sum hg
            have e : sAdd (sAdd (h j) g) (sAdd (h j0) g) = sAdd (h j) (h j0) := by
              rw [sAdd_comm (h j0) g, sAdd_assoc, ← sAdd_assoc g g, sAdd_self, zero_sAdd]
            rw [e] at this
            exact this
        · exact ⟨false, fun z => absurd z hj⟩
      obtain ⟨e, he⟩ := Classical.axiomOfChoice pick
      have step : ∀ j, j ≤ G.length → InSp G (if j < j0 then h j else if e (j + 1) then sAdd (h (j + 1)) (h j0) else h (j + 1)) := fun j hj => by
        by_cases hlt : j < j0
        · rw [if_pos hlt]
          exact Classical.byContradiction fun y => hmin j hlt ⟨hj, y⟩
        · rw [if_neg hlt]
          exact he (j + 1) (by omega)
      obtain ⟨k, hk, hs⟩ := dep G _ step
      by_cases hlt : k < j0
      · rw [if_pos hlt] at hs
        refine ⟨k, by rw [List.length_cons]; omega, hs.mono fun f hf => ?_⟩
        obtain ⟨i, hi, rfl⟩ := List.mem_map.mp hf
        have hi := List.mem_range.mp hi
        rw [if_pos (by omega)]
        exact .one (mem_rng hi)
      · rw [if_neg hlt] at hs
        have hs' := hs.mono (G' := (List.range (k + 1)).map h) fun f hf => by
          obtain ⟨i, hi, rfl⟩ := List.mem_map.mp hf
          have hi := List.mem_range.mp hi
          by_cases hi0 : i < j0
          · rw [if_pos hi0]
            exact .one (mem_rng (by omega))
          · rw [if_neg hi0]
            cases e (i + 1) with
            | false => exact .one (mem_rng (by omega))
            | true => exact (InSp.one (mem_rng (by omega))).sum (.one (mem_rng (by omega)))
        refine ⟨k + 1, by rw [List.length_cons]; omega, ?_⟩
        cases q : e (k + 1) with
        | false =>
          rw [q] at hs'
          exact hs'
        | true =>
          rw [q] at hs'
          have := hs'.sum (.one (mem_rng (h := h) (i := j0) (k := k + 1) (by omega)))
          rw [if_pos rfl, sAdd_assoc, sAdd_self, sAdd_zero] at this
          exact this
/-- what a sum of such is, place by place -/
theorem InSp.coef : ∀ {k : Nat} {h : Nat → Sq} {f : Sq}, InSp ((List.range k).map h) f → ∃ c : Nat → Bool, ∀ i, f i = xs k fun j => c j && h j i := by
  intro k h f hf
  induction hf with
  | zero => exact ⟨fun _ => false, fun i => (xs_zero k fun _ _ => rfl).symm⟩
  | @add g f m _ ih =>
    obtain ⟨j0, hj, rfl⟩ := List.mem_map.mp m
    have hj := List.mem_range.mp hj
    obtain ⟨c, hc⟩ := ih
    refine ⟨fun j => xor (decide (j = j0)) (c j), fun i => ?_⟩
    show xor (h j0 i) (f i) = _
    rw [hc i]
    have e : ∀ j, (xor (decide (j = j0)) (c j) && h j i) = xor (decide (j = j0) && h j i) (c j && h j i) := fun j => by
      cases decide (j = j0) <;> cases c j <;> cases h j i <;> rfl
    rw [xs_congr fun j _ => e j, xs_add]
    congr 1
    have : ∀ n, j0 < n → xs n (fun j => decide (j = j0) && h j i) = h j0 i := by
      intro n
      induction n with
      | zero => intro z; omega
      | succ n ihn =>
        intro hn
        show xor (xs n _) (decide (n = j0) && h n i) = _
        by_cases q : n = j0
        · subst q
          rw [xs_zero n fun j hj => by rw [decide_eq_false (by omega)] <;> rfl, decide_eq_true rfl]
          cases h n i <;> rfl
        · rw [decide_eq_false q, ihn (by omega)]
          cases h j0 i <;> rfl
    exact (this k hj).symm
/-! ### products of at most d of L things -/
def gens (x : Nat → Sq) : Nat → Nat → List Sq
  | 0, _ => [fun _ => true]
  | L + 1, 0 => gens x L 0
  | L + 1, d + 1 => gens x L (d + 1) ++ (gens x L d).map (sMul (x L))
def ngens : Nat → Nat → Nat
  | 0, _ => 1
  | L + 1, 0 => ngens L 0
  | L + 1, d + 1 => ngens L (d + 1) + ngens L d
theorem gens_len (x : Nat → Sq) : ∀ L d, (gens x L d).length = ngens L d
  | 0, _ => rfl
  | L + 1, 0 => gens_len x L 0
  | L + 1, d + 1 => by
    show ((gens x L (d + 1) ++ (gens x L d).map _).length = _)
    rw [List.length_append, List.length_map, gens_len x L (d + 1), gens_len x L d] <;> rfl
theorem gens_one (x : Nat → Sq) : ∀ L d, InSp (gens x L d) fun _ => true
  | 0, _ => .one (List.mem_singleton.mpr rfl)
  | L + 1, 0 => gens_one x L 0
  | L + 1, d + 1 => (gens_one x L (d + 1)).sub fun g hg => List.mem_append_left _ hg
theorem gens_up (x : Nat → Sq) : ∀ L d, ∀ g ∈ gens x L d, g ∈ gens x L (d + 1)
  | 0, _, g, h => h
  | L + 1, 0, g, h => List.mem_append_left _ (gens_up x L 0 g h)
  | L + 1, d + 1, g, h => by
    rcases List.mem_append.mp h with z | z
    · exact List.mem_append_left _ (gens_up x L (d + 1) g z)
    · refine List.mem_append_right _ ?_
      obtain ⟨f, hf, rfl⟩ := List.mem_map.mp z
      exact List.mem_map.mpr ⟨f, gens_up x L d f hf, rfl⟩
theorem sMul_zero (f : Sq) : sMul f sZero = sZero := funext fun i => by show (f i && false) = false; cases f i <;> rfl
theorem sMul_add (f g h : Sq) : sMul f (sAdd g h) = sAdd (sMul f g) (sMul f h) := funext fun i => by
  show (f i && xor (g i) (h i)) = xor (f i && g i) (f i && h i)
  cases f i <;> cases g i <;> cases h i <;> rfl
theorem add_sMul (f g h : Sq) : sMul (sAdd f g) h = sAdd (sMul f h) (sMul g h) := funext fun i => by
  show (xor (f i) (g i) && h i) = xor (f i && h i) (g i && h i)
  cases f i <;> cases g i <;> cases h i <;> rfl
theorem sMul_self (f g : Sq) : sMul f (sMul f g) = sMul f g := funext fun i => by
  show (f i && (f i && g i)) = (f i && g i)
  cases f i <;> cases g i <;> rfl
theorem sMul_swap (f g h : Sq) : sMul f (sMul g h) = sMul g (sMul f h) := funext fun i => by
  show (f i && (g i && h i)) = (g i && (f i && h i))
  cases f i <;> cases g i <;> cases h i <;> rfl
theorem InSp.mul {G G' : List Sq} {m f : Sq} (h : InSp G f) (s : ∀ g ∈ G, InSp G' (sMul m g)) : InSp G' (sMul m f) := by
  induction h with
  | zero => rw [sMul_zero]; exact .zero
  | add a _ ih => rw [sMul_add]; exact (s _ a).sum ih
/-- one of the things times such a product -/
theorem gens_mul (x : Nat → Sq) : ∀ (L d j : Nat), j < L → ∀ g ∈ gens x L d, InSp (gens x L (d + 1)) (sMul (x j) g)
  | 0, _, j, hj, _, _ => absurd hj (by omega)
  | L + 1, 0, j, hj, g, hg => by
    have hg : g ∈ gens x L 0 := hg
    by_cases q : j = L
    · rw [q]
      exact .one (List.mem_append_right _ (List.mem_map.mpr ⟨g, hg, rfl⟩))
    · exact (gens_mul x L 0 j (by omega) g hg).sub fun f hf => List.mem_append_left _ hf
  | L + 1, d + 1, j, hj, g, hg => by
    rcases List.mem_append.mp hg with z | z
    · by_cases q : j = L
      · rw [q]
        exact .one (List.mem_append_right _ (List.mem_map.mpr ⟨g, z, rfl⟩))
      · exact (gens_mul x L (d + 1) j (by omega) g z).sub fun f hf => List.mem_append_left _ hf
    · obtain ⟨f, hf, rfl⟩ := List.mem_map.mp z
      by_cases q : j = L
      · rw [q, sMul_self]
        exact .one (List.mem_append_right _ (List.mem_map.mpr ⟨f, gens_up x L d f hf, rfl⟩))
      · rw [sMul_swap]
        refine (gens_mul x L d j (by omega) f hf).mul fun u hu => ?_
        exact .one (List.mem_append_right _ (List.mem_map.mpr ⟨u, hu, rfl⟩))
theorem gens_le (x : Nat → Sq) (L : Nat) {d d' : Nat} (h : d ≤ d') : ∀ g ∈ gens x L d, g ∈ gens x L d' := by
  obtain ⟨e, rfl⟩ : ∃ e, d' = d + e := ⟨d' - d, by omega⟩
  clear h
  induction e with
  | zero => exact fun g h => h
  | succ e ih => exact fun g h => gens_up x L (d + e) g (ih g h)
/-- a sum of the things times .. -/
theorem gens_lin {x : Nat → Sq} {L d : Nat} {y f : Sq} (hy : InSp ((List.range L).map x) y) (hf : InSp (gens x L d) f) : InSp (gens x L (d + 1)) (sMul y f) := by
  induction hy with
  | zero =>
    have : sMul sZero f = sZero := rfl
    rw [this]; exact .zero
  | add m _ ih =>
    obtain ⟨j, hj, rfl⟩ := List.mem_map.mp m
    rw [add_sMul]
    exact (hf.mul fun g hg => gens_mul x L d j (List.mem_range.mp hj) g hg).sum ih
end LX

set_option Elab.async false
set_option linter.all false
set_option autoImplicit false
namespace LX
/-! ### the shortest register, by bits -/
def conv (c s : Sq) (i : Nat) : Bool := xs (i + 1) fun k => c k && s (i - k)
theorem conv_add (c b s : Sq) (i : Nat) : conv (sAdd c b) s i = xor (conv c s i) (conv b s i) := by
  unfold conv
  rw [← xs_add]
  refine xs_congr fun k _ => ?_
  show (xor (c k) (b k) && s (i - k)) = _
  cases c k <;> cases b k <;> cases s (i - k) <;> rfl
def shift (m : Nat) (b : Sq) : Sq := fun k => decide (m ≤ k) && b (k - m)
theorem conv_shift (m : Nat) (b s : Sq) (i : Nat) : conv (shift m b) s i = if m ≤ i then conv b s (i - m) else false := by
  unfold conv shift
  by_cases h : m ≤ i
  · rw [if_pos h, show i + 1 = m + (i - m + 1) by omega, xs_split, xs_zero m fun k hk => by rw [decide_eq_false (by omega)] <;> rfl]
    rw [xs_congr (g := fun k => b k && s (i - m - k)) fun k hk => by
      rw [decide_eq_true (by omega), show m + k - m = k by omega, show i - (m + k) = i - m - k by omega] <;> rfl]
    cases xs (i - m + 1) (fun k => b k && s (i - m - k)) <;> rfl
  · rw [if_neg h]
    exact xs_zero _ fun k hk => by rw [decide_eq_false (by omega)] <;> rfl
theorem conv_one (s : Sq) (c : Sq) (h : ∀ k, c k = decide (k = 0)) (i : Nat) : conv c s i = s i := by
  unfold conv
  rw [xs_succ', xs_zero i fun k _ => by rw [h, decide_eq_false (by omega)] <;> rfl, h]
  show xor (s i) false = s i
  cases s i <;> rfl
/-- a register of K makes s up to n -/
def Makes (s : Sq) (n K : Nat) : Prop := ∃ a : Sq, ∀ i, i + K < n → s (i + K) = xs K fun j => a j && s (i + j)
theorem massey_low {c s : Sq} {L n K : Nat} (c0 : c 0 = true) (cL : ∀ k, L < k → c k = false) (hLn : L ≤ n) (gen : ∀ i, L ≤ i → i < n → conv c s i = false) (bad : conv c s n = true) (hK : Makes s (n + 1) K) : n + 1 ≤ K + L := by
  refine Classical.byContradiction fun z => ?_
  obtain ⟨a, ha⟩ := hK
  have hKL : K + L ≤ n := by omega
  -- what c tells at i
  have tell : ∀ i, L ≤ i → conv c s i = xor (s i) (xs L fun k => c (k + 1) && s (i - (k + 1))) := fun i hi => by
    unfold conv
    rw [xs_ext (n := L + 1) (by omega) fun k h1 h2 => by rw [cL k (by omega)] <;> rfl, xs_succ', c0] <;> rfl
  have back : ∀ i, L ≤ i → i < n → (xs L fun k => c (k + 1) && s (i - (k + 1))) = s i := fun i h1 h2 => by
    have := gen i h1 h2
    rw [tell i h1] at this
    cases q : s i <;> cases p : (xs L fun k => c (k + 1) && s (i - (k + 1))) <;> rw [q, p] at this <;> first | rfl | cases this
  have at_ : ∀ m, K ≤ m → m ≤ n → s m = xs K fun j => a j && s (m - K + j) := fun m h1 h2 => by
    have := ha (m - K) (by omega)
    rwa [show m - K + K = m by omega] at this
  have e : (xs L fun k => c (k + 1) && s (n - (k + 1))) = s n := by
    rw [xs_congr (g := fun k => xs K fun j => c (k + 1) && (a j && s (n - K + j - (k + 1)))) fun k hk => by
      rw [at_ (n - (k + 1)) (by omega) (by omega), xs_mul]
      exact xs_congr fun j hj => by rw [show n - (k + 1) - K + j = n - K + j - (k + 1) by omega]]
    rw [xs_swap, at_ n (by omega) (Nat.le_refl _)]
    refine xs_congr fun j hj => ?_
    rw [← back (n - K + j) (by omega) (by omega), xs_mul]
    refine xs_congr fun k hk => ?_
    cases c (k + 1) <;> cases a j <;> rfl
  rw [tell n hLn, e] at bad
  cases q : s n <;> rw [q] at bad <;> cases bad
structure BM (s : Sq) (n L m : Nat) (c b : Sq) : Prop where
  c0 : c 0 = true
  cL : ∀ k, L < k → c k = false
  Ln : L ≤ n
  gen : ∀ i, L ≤ i → i < n → conv c s i = false
  m1 : 1 ≤ m
  alt : (L = 0 ∧ m = n + 1 ∧ (∀ k, c k = decide (k = 0)) ∧ (∀ k, b k = decide (k = 0))) ∨
    (1 ≤ L ∧ m ≤ n ∧ L + m ≤ n + 1 ∧ (∀ k, n + 1 < L + m + k → b k = false) ∧ (∀ i, n + 1 ≤ i + L + m → i + m < n → conv b s i = false) ∧ conv b s (n - m) = true)
  low : ∀ K, Makes s n K → L ≤ K
theorem Makes.less {s : Sq} {n K : Nat} (h : Makes s (n + 1) K) : Makes s n K := by
  obtain ⟨a, ha⟩ := h
  exact ⟨a, fun i hi => ha i (by omega)⟩
theorem bm_start (s : Sq) {c b : Sq} (hc : ∀ k, c k = decide (k = 0)) (hb : ∀ k, b k = decide (k = 0)) : BM s 0 0 1 c b :=
  ⟨by rw [hc] <;> rfl, fun k hk => by rw [hc, decide_eq_false (by omega)], Nat.le_refl _, fun i _ h => absurd h (by omega), Nat.le_refl _, .inl ⟨rfl, rfl, hc, hb⟩, fun K _ => Nat.zero_le _⟩
theorem bm_same {s c b : Sq} {n L m : Nat} (h : BM s n L m c b) (d : conv c s n = false) : BM s (n + 1) L (m + 1) c b := by
  refine ⟨h.c0, h.cL, by have := h.Ln; omega, fun i h1 h2 => ?_, by omega, ?_, fun K hK => h.low K hK.less⟩
  · by_cases e : i = n
    · rw [e]; exact d
    · exact h.gen i h1 (by omega)
  · rcases h.alt with ⟨h1, h2, h3, h4⟩ | ⟨h1, h2, h3, h4, h5, h6⟩
    · exact .inl ⟨h1, by omega, h3, h4⟩
    · refine .inr ⟨h1, by omega, by omega, fun k hk => h4 k (by omega), fun i g1 g2 => h5 i (by omega) (by omega), ?_⟩
      rw [show n + 1 - (m + 1) = n - m by omega]
      exact h6
theorem bm_stay {s c b : Sq} {n L m : Nat} (h : BM s n L m c b) (d : conv c s n = true) (hL : n < 2 * L) : BM s (n + 1) L (m + 1) (sAdd c (shift m b)) b := by
  have hm := h.m1
  have hn := h.Ln
  rcases h.alt with ⟨h1, h2, h3, h4⟩ | ⟨h1, h2, h3, h4, h5, h6⟩
  · omega
  refine ⟨?_, fun k hk => ?_, by omega, fun i g1 g2 => ?_, by omega, .inr ⟨h1, by omega, by omega, fun k hk => h4 k (by omega), fun i g1 g2 => h5 i (by omega) (by omega), by rw [show n + 1 - (m + 1) = n - m by omega]; exact h6⟩, fun K hK => h.low K hK.less⟩
  · show xor (c 0) (decide (m ≤ 0) && b (0 - m)) = true
    rw [h.c0, decide_eq_false (by omega)] <;> rfl
  · show xor (c k) (decide (m ≤ k) && b (k - m)) = false
    rw [h.cL k hk]
    by_cases q : m ≤ k
    · rw [h4 (k - m) (by omega)]
      cases decide (m ≤ k) <;> rfl
    · rw [decide_eq_false q] <;> rfl
  · rw [conv_add, conv_shift, if_pos (by omega)]
    by_cases e : i = n
    · rw [e, d, h6] <;> rfl
    · rw [h.gen i g1 (by omega), h5 (i - m) (by omega) (by omega)] <;> rfl
theorem bm_grow {s c b : Sq} {n L m : Nat} (h : BM s n L m c b) (d : conv c s n = true) (hL : 2 * L ≤ n) : BM s (n + 1) (n + 1 - L) 1 (sAdd c (shift m b)) c := by
  have hm := h.m1
  have hn := h.Ln
  refine ⟨?_, fun k hk => ?_, by omega, fun i g1 g2 => ?_, Nat.le_refl _, .inr ⟨by omega, by omega, by omega, fun k hk => h.cL k (by omega), fun i g1 g2 => h.gen i (by omega) (by omega), by rw [Nat.add_sub_cancel]; exact d⟩, fun K hK => ?_⟩
  · show xor (c 0) (decide (m ≤ 0) && b (0 - m)) = true
    rw [h.c0, decide_eq_false (by omega)] <;> rfl
  · show xor (c k) (decide (m ≤ k) && b (k - m)) = false
    rw [h.cL k (by omega)]
    by_cases q : m ≤ k
    · rcases h.alt with ⟨h1, h2, h3, h4⟩ | ⟨h1, h2, h3, h4, h5, h6⟩
      · rw [h4, decide_eq_false (show ¬ k - m = 0 by omega)]
        cases decide (m ≤ k) <;> rfl
      · rw [h4 (k - m) (by omega)]
        cases decide (m ≤ k) <;> rfl
    · rw [decide_eq_false q] <;> rfl
  · rcases h.alt with ⟨h1, h2, h3, h4⟩ | ⟨h1, h2, h3, h4, h5, h6⟩
    · omega
    · rw [conv_add, conv_shift, if_pos (by omega)]
      by_cases e : i = n
      · rw [e, d, h6] <;> rfl
      · rw [h.gen i (by omega) (by omega), h5 (i - m) (by omega) (by omega)] <;> rfl
  · have := massey_low h.c0 h.cL hn h.gen d hK
    omega
end LX

set_option Elab.async false
set_option linter.all false
set_option maxRecDepth 100000
set_option maxHeartbeats 4000000
set_option autoImplicit false
namespace LX
open PySem PySem.Spec PyProof.Rows L2 Evl
/-! ### ints as bits -/
def bit (x : Int) : Bool := decide (x % 2 = 1)
theorem bit_cases (a : Int) : (a % 2 = 0 ∧ bit a = false) ∨ (a % 2 = 1 ∧ bit a = true) := by
  have h : a % 2 = 0 ∨ a % 2 = 1 := by omega
  rcases h with h | h
  · exact .inl ⟨h, decide_eq_false (by omega)⟩
  · exact .inr ⟨h, decide_eq_true h⟩
theorem bit_f {a : Int} (h : a % 2 = 0) : bit a = false := decide_eq_false (by omega)
theorem bit_t {a : Int} (h : a % 2 = 1) : bit a = true := decide_eq_true h
theorem bit_add (a b : Int) : bit (a + b) = xor (bit a) (bit b) := by
  rcases bit_cases a with ⟨p, q⟩ | ⟨p, q⟩ <;> rcases bit_cases b with ⟨r, s⟩ | ⟨r, s⟩ <;> rw [q, s]
  · exact bit_f (by omega)
  · exact bit_t (by omega)
  · exact bit_t (by omega)
  · exact bit_f (by omega)
theorem bit_sub (a b : Int) : bit (a - b) = xor (bit a) (bit b) := by
  rcases bit_cases a with ⟨p, q⟩ | ⟨p, q⟩ <;> rcases bit_cases b with ⟨r, s⟩ | ⟨r, s⟩ <;> rw [q, s]
  · exact bit_f (by omega)
  · exact bit_t (by omega)
  · exact bit_t (by omega)
  · exact bit_f (by omega)
theorem bit_neg (a : Int) : bit (-a) = bit a := by
  rcases bit_cases a with ⟨p, q⟩ | ⟨p, q⟩ <;> rw [q]
  · exact bit_f (by omega)
  · exact bit_t (by omega)
theorem bit_mod (a : Int) : bit (a % 2) = bit a := by
  unfold bit
  rw [Int.emod_emod_of_dvd a (Int.dvd_refl 2)]
theorem bit_mul (a b : Int) : bit (a * b) = (bit a && bit b) := by
  rcases bit_cases a with ⟨p, q⟩ | ⟨p, q⟩ <;> rcases bit_cases b with ⟨r, s⟩ | ⟨r, s⟩ <;> rw [q, s]
  · exact bit_f (by rw [Int.mul_emod, p, r] <;> rfl)
  · exact bit_f (by rw [Int.mul_emod, p, r] <;> rfl)
  · exact bit_f (by rw [Int.mul_emod, p, r] <;> rfl)
  · exact bit_t (by rw [Int.mul_emod, p, r] <;> rfl)
theorem bit_sum (f : Nat → Int) : ∀ n : Nat, bit ((List.range n).map f).sum = xs n fun k => bit (f k)
  | 0 => rfl
  | n + 1 => by
    rw [List.range_succ, List.map_append, List.sum_append, bit_add, bit_sum f n]
    show xor _ (bit (f n + 0)) = _
    rw [Int.add_zero] <;> rfl
theorem bit_ne {x : Int} (h : 0 ≤ x ∧ x < 2) : (x != 0) = bit x := by
  have h : x = 0 ∨ x = 1 := by omega
  rcases h with h | h <;> rw [h] <;> rfl
/-! ### the measured row -/
def bf (ns : List Int) : Sq := fun k => bit (ns.getD k 0)
theorem bf_out {ns : List Int} {k : Nat} (h : ns.length ≤ k) : bf ns k = false := by
  unfold bf
  rw [List.getD_eq_getElem?_getD, List.getElem?_eq_none h] <;> rfl
theorem gbase_get (s : GS) (k : Nat) : (gbase s).getD k 0 = s.taps.getD k 0 := by
  unfold gbase
  by_cases h : k < s.taps.length
  · rw [List.getD_eq_getElem?_getD, List.getElem?_append_left h, ← List.getD_eq_getElem?_getD]
  · rw [List.getD_eq_getElem?_getD, List.getElem?_append_right (by omega), List.getElem?_replicate, List.getD_eq_getElem?_getD, List.getElem?_eq_none (by omega)]
    split <;> rfl
theorem glay_get (s : GS) : ∀ j : Nat, j ≤ s.before.length → ∀ k : Nat, bit ((glay s j).getD k 0) = if s.gap ≤ k ∧ k < s.gap + j then xor (bf s.taps k) (bf s.before (k - s.gap)) else bf s.taps k
  | 0, _, k => by
    rw [if_neg (by omega)]
    show bit ((gbase s).getD k 0) = _
    rw [gbase_get] <;> rfl
  | j + 1, hj, k => by
    have hl : (glay s j).length = max s.taps.length (s.before.length + s.gap) := by rw [glay_len, gbase_len]
    show bit (((glay s j).set (j + s.gap) _).getD k 0) = _
    by_cases e : j + s.gap = k
    · subst e
      rw [List.getD_eq_getElem?_getD, List.getElem?_set_self (by omega)]
      show bit ((_ - 1 * _) % 2) = _
      rw [bit_mod, bit_sub, glay_get s j (by omega), if_neg (by omega), if_pos (by omega), Int.one_mul, Nat.add_sub_cancel] <;> rfl
    · rw [List.getD_eq_getElem?_getD, List.getElem?_set_ne e, ← List.getD_eq_getElem?_getD, glay_get s j (by omega)]
      by_cases q : s.gap ≤ k ∧ k < s.gap + j
      · rw [if_pos q, if_pos (by omega)]
      · rw [if_neg q, if_neg (by omega)]
theorem bf_later (s : GS) : bf (glater s) = sAdd (bf s.taps) (shift s.gap (bf s.before)) := funext fun k => by
  show bit ((glay s s.before.length).getD k 0) = xor (bf s.taps k) (decide (s.gap ≤ k) && bf s.before (k - s.gap))
  rw [glay_get s _ (Nat.le_refl _)]
  by_cases h : s.gap ≤ k
  · rw [decide_eq_true h]
    by_cases q : k < s.gap + s.before.length
    · rw [if_pos ⟨h, q⟩] <;> rfl
    · rw [if_neg (fun z => q z.2), bf_out (ns := s.before) (by omega)]
      cases bf s.taps k <;> rfl
  · rw [if_neg (fun z => h z.1), decide_eq_false h]
    cases bf s.taps k <;> rfl
theorem miss_conv {sq : Sq} {s : GS} {x : Int} (ok : GOk s) (h : BM sq s.row.length s.L s.gap (bf s.taps) (bf s.before)) (hr : ∀ k, k < s.row.length → bf s.row k = sq k) (hx : sq s.row.length = bit x) : bit (gmiss s x) = conv (bf s.taps) sq s.row.length := by
  have hn := ok.Ln
  have e : bit (expectN s) = xs s.row.length fun k => bf s.taps (k + 1) && sq (s.row.length - (k + 1)) := by
    unfold expectN
    rw [bit_sum, xs_ext (n := min s.L (s.taps.length - 1)) (m := s.row.length) (by omega) fun k h1 h2 => ?_]
    · refine xs_congr fun k hk => ?_
      rw [bit_mul, ← hr _ (by omega)] <;> rfl
    · by_cases q : s.L ≤ k
      · rw [h.cL (k + 1) (by omega)] <;> rfl
      · rw [bf_out (by omega)] <;> rfl
  unfold gmiss conv
  rw [bit_mod, bit_sub, xs_succ', h.c0]
  unfold expect
  rw [bit_mod, bit_neg, e, ← hx] <;> rfl
theorem bm_step {sq : Sq} {s : GS} {x : Int} (ok : GOk s) (h : BM sq s.row.length s.L s.gap (bf s.taps) (bf s.before)) (hr : ∀ k, k < s.row.length → bf s.row k = sq k) (hx : sq s.row.length = bit x) :
    BM sq (s.row.length + 1) (gstep s x).L (gstep s x).gap (bf (gstep s x).taps) (bf (gstep s x).before) := by
  have e := miss_conv ok h hr hx
  unfold gstep
  by_cases hm : gmiss s x = 0
  · rw [if_pos hm]
    rw [hm] at e
    exact bm_same h e.symm
  · rw [if_neg hm]
    have hm1 : gmiss s x = 1 := by
      unfold gmiss at hm ⊢
      omega
    rw [hm1] at e
    by_cases hL : 2 * s.L ≤ s.row.length
    · rw [if_pos hL]
      show BM sq _ _ 1 (bf (glater s)) (bf s.taps)
      rw [bf_later]
      exact bm_grow h e.symm hL
    · rw [if_neg hL]
      show BM sq _ _ _ (bf (glater s)) (bf s.before)
      rw [bf_later]
      exact bm_stay h e.symm (Nat.lt_of_not_le hL)
theorem bm_all {ns : List Int} (hb : Bits ns) : ∀ i, i ≤ ns.length → BM (bf ns) i (grun (ns.take i)).L (grun (ns.take i)).gap (bf (grun (ns.take i)).taps) (bf (grun (ns.take i)).before)
  | 0, _ => bm_start _ (fun k => by
      show bit (([1] : List Int).getD k 0) = _
      cases k <;> rfl) (fun k => by
      show bit (([1] : List Int).getD k 0) = _
      cases k <;> rfl)
  | i + 1, hi => by
    have ih := bm_all hb i (by omega)
    have hx : ns[i]? = some (ns.getD i 0) := by rw [List.getD_eq_getElem?_getD, List.getElem?_eq_getElem (by omega)] <;> rfl
    have ok := grun_ok (ns := ns.take i) fun y hy => hb y (List.mem_of_mem_take hy)
    have hrow := grun_row (ns.take i)
    have hlen : (grun (ns.take i)).row.length = i := by rw [hrow, List.length_take]; omega
    rw [grun_next hx]
    have := bm_step (x := ns.getD i 0) ok (by rw [hlen]; exact ih) (fun k hk => by
      rw [hlen] at hk
      unfold bf
      rw [hrow, List.getD_eq_getElem?_getD, List.getElem?_take_of_lt hk, ← List.getD_eq_getElem?_getD]) (by rw [hlen] <;> rfl)
    rwa [hlen] at this
theorem grun_low {ns : List Int} (hb : Bits ns) {K : Nat} (h : Makes (bf ns) ns.length K) : (grun ns).L ≤ K := by
  have := (bm_all hb ns.length (Nat.le_refl _)).low K h
  rwa [List.take_length] at this
/-! ### the register's row without end -/
section
variable {taps start : List Int}
def zI (taps start : List Int) (i : Nat) : Int := (growR taps (i + 1) start).getD i 0
theorem grow_get (k d i : Nat) (h : i < start.length + k) : (growR taps (k + d) start).getD i 0 = (growR taps k start).getD i 0 := by
  induction d with
  | zero => rfl
  | succ d ih =>
    rw [← Nat.add_assoc, growR_next, List.getD_eq_getElem?_getD, List.getElem?_append_left (by rw [growR_len]; omega), ← List.getD_eq_getElem?_getD, ih]
theorem grow_zI (k i : Nat) (h : i < start.length + k) : (growR taps k start).getD i 0 = zI taps start i := by
  unfold zI
  by_cases q : k ≤ i + 1
  · obtain ⟨d, e⟩ : ∃ d, i + 1 = k + d := ⟨i + 1 - k, by omega⟩
    rw [e, grow_get k d i h]
  · obtain ⟨d, e⟩ : ∃ d, k = i + 1 + d := ⟨k - (i + 1), by omega⟩
    rw [e, grow_get (i + 1) d i (by omega)]
def zz (taps start : List Int) : Sq := fun i => bit (zI taps start i)
theorem zz_rec (hl : start.length = taps.length) (i : Nat) : zz taps start (i + taps.length) = xs taps.length fun k => bf taps k && zz taps start (i + taps.length - 1 - k) := by
  have e : zI taps start (i + taps.length) = nextOf taps (growR taps i start) := by
    rw [← grow_zI (i + 1) _ (by omega), growR_next, List.getD_eq_getElem?_getD, List.getElem?_append_right (by rw [growR_len]; omega), growR_len, show i + taps.length - (start.length + i) = 0 by omega] <;> rfl
  unfold zz
  rw [e]
  unfold nextOf
  rw [bit_mod, bit_sum]
  refine xs_congr fun k hk => ?_
  rw [bit_mul, growR_len, grow_zI _ _ (by omega), show start.length + i - 1 - k = i + taps.length - 1 - k by omega] <;> rfl
theorem insp_xs {G : List Sq} : ∀ (n : Nat) (f : Nat → Sq), (∀ k, k < n → InSp G (f k)) → InSp G fun i => xs n fun k => f k i
  | 0, _, _ => .zero
  | n + 1, f, h => (insp_xs n f fun k hk => h k (by omega)).sum (h n (by omega))
def zx (taps start : List Int) (p : Nat) : Sq := fun i => zz taps start (i + p)
theorem zx_lin (hl : start.length = taps.length) (p : Nat) : InSp ((List.range taps.length).map (zx taps start)) (zx taps start p) := by
  induction p using Nat.strongRecOn with
  | ind p ih =>
    by_cases h : p < taps.length
    · exact .one (List.mem_map.mpr ⟨p, List.mem_range.mpr h, rfl⟩)
    · have e : zx taps start p = fun i => xs taps.length fun k => (fun i => bf taps k && zx taps start (p - 1 - k) i) i := funext fun i => by
        show zz taps start (i + p) = _
        rw [show i + p = i + (p - taps.length) + taps.length by omega, zz_rec hl]
        refine xs_congr fun k hk => ?_
        show _ = (bf taps k && zz taps start (i + (p - 1 - k)))
        rw [show i + (p - taps.length) + taps.length - 1 - k = i + (p - 1 - k) by omega]
      rw [e]
      refine insp_xs _ _ fun k hk => ?_
      cases q : bf taps k with
      | false => exact .zero
      | true => exact ih (p - 1 - k) (by omega)
/-- the product of the places of a term, from q on -/
def prodT (taps start ps t : List Int) (q : Nat) : Sq := fun i => t.all fun j => zz taps start (i + q + (ps.getD j.toNat 0).toNat)
theorem prodT_in (hl : start.length = taps.length) (ps : List Int) (q : Nat) : ∀ t : List Int, InSp (gens (zx taps start) taps.length t.length) (prodT taps start ps t q)
  | [] => gens_one _ _ _
  | j :: t => by
    have e : prodT taps start ps (j :: t) q = sMul (zx taps start (q + (ps.getD j.toNat 0).toNat)) (prodT taps start ps t q) := funext fun i => by
      show (zz taps start (i + q + _) && _) = (zz taps start (i + (q + _)) && _)
      rw [Nat.add_assoc]
      rfl
    rw [e]
    exact gens_lin (zx_lin hl _) (prodT_in hl ps q t)
def sI (taps start ps : List Int) (S : List (List Int)) (i : Nat) : Bool := S.foldr (fun t a => xor (prodT taps start ps t 0 i) a) false
theorem sI_in (hl : start.length = taps.length) (ps : List Int) (q d : Nat) : ∀ S : List (List Int), (∀ t ∈ S, t.length ≤ d) → InSp (gens (zx taps start) taps.length d) fun i => sI taps start ps S (i + q)
  | [], _ => .zero
  | t :: S, h => by
    have h1 := (prodT_in hl ps q t).sub (gens_le (zx taps start) taps.length (h t List.mem_cons_self))
    have h2 := h1.sum (sI_in hl ps q d S fun t ht => h t (List.mem_cons_of_mem _ ht))
    have e : (fun i => sI taps start ps (t :: S) (i + q)) = sAdd (prodT taps start ps t q) fun i => sI taps start ps S (i + q) := rfl
    rw [e]
    exact h2
end
/-! ### the filter's table at a state -/
theorem states_all : ∀ (n : Nat) (v : List Int), Bits v → v.length = n → v ∈ states n
  | 0, v, _, h => by
    rw [List.length_eq_zero_iff.mp h]
    exact List.mem_singleton.mpr rfl
  | n + 1, v, hb, h => by
    have hne : v ≠ [] := fun z => by rw [z] at h; cases h
    have e := List.dropLast_concat_getLast hne
    have h1 := states_all n v.dropLast (fun x hx => hb x ((List.dropLast_sublist v).subset hx)) (by rw [List.length_dropLast, h]; omega)
    have h2 := hb (v.getLast hne) (List.getLast_mem hne)
    rw [states_succ]
    refine List.mem_flatMap.mpr ⟨v.dropLast, h1, ?_⟩
    have : v.getLast hne = 0 ∨ v.getLast hne = 1 := by omega
    rcases this with z | z
    · rw [z] at e
      rw [← e]
      simp
    · rw [z] at e
      rw [← e]
      simp
theorem states_ix : ∀ n : Nat, 1 ≤ n → n ≤ 4 → ∀ v ∈ states n, (states n)[(place v).toNat]? = some v := by
  intro n h1 h2
  have h : n = 1 ∨ n = 2 ∨ n = 3 ∨ n = 4 := by omega
  rcases h with h | h | h | h <;> subst h <;> decide +kernel
theorem table_at {n : Nat} {S : List (List Int)} {v : List Int} (h1 : 1 ≤ n) (h2 : n ≤ 4) (hb : Bits v) (hl : v.length = n) : (tableOf n S).getD (place v).toNat 0 = (S.map (termV v)).sum % 2 := by
  unfold tableOf
  rw [List.getD_eq_getElem?_getD, List.getElem?_map, states_ix n h1 h2 v (states_all n v hb hl)] <;> rfl
theorem bit_terms (v : List Int) (hb : Bits v) : ∀ S : List (List Int), bit (S.map (termV v)).sum = S.foldr (fun t a => xor (t.all fun j => bf v j.toNat) a) false
  | [] => rfl
  | t :: S => by
    rw [List.map_cons, List.sum_cons, bit_add, bit_terms v hb S, List.foldr_cons]
    congr 1
    unfold termV
    have e : ((t.map fun p => v.getD p.toNat 0).all fun x => x != 0) = t.all fun j => bf v j.toNat := by
      rw [List.all_map]
      congr 1
      funext j
      exact bit_ne (bits_getD hb j.toNat)
    rw [e]
    cases t.all fun j => bf v j.toNat <;> rfl
theorem fb_gens : ∀ L : Fin 8, ∀ d : Fin 10, fbound L d = ngens L d := by decide +kernel
theorem p3 : P3 := by
  intro taps start ps n c S b1 b2 hl hl7 h1 h2 hS hS3 hpl hpr hc
  obtain ⟨_, _, hT⟩ := hS
  have hd : ∀ t ∈ S, t.length ≤ (degOf S).toNat := fun t ht => by
    have := (degOf_max S).2 (t.length : Int) (List.mem_append_left _ (List.mem_map.mpr ⟨t, ht, rfl⟩))
    omega
  have hd9 : (degOf S).toNat ≤ 9 := by
    have := (degOf_le (S := S) (n := 9) fun t ht => by have := (hT t ht).2.1; omega).2
    omega
  -- the row, place by place
  have hrow : ∀ i, i < c + 61 → (runOf taps start (c + 61)).getD i 0 = zI taps start i := fun i hi => by
    unfold runOf
    rw [List.getD_eq_getElem?_getD, List.getElem?_take_of_lt hi, ← List.getD_eq_getElem?_getD, grow_zI _ _ (by omega)]
  have hwb : Bits (runOf taps start (c + 61)) := runOf_bits b2
  have hsq : ∀ i, i < c → bf (filt (runOf taps start (c + 61)) (tableOf n S) ps c) i = sI taps start ps S i := fun i hi => by
    have hv : Bits (ps.map fun p => (runOf taps start (c + 61)).getD (i + p.toNat) 0) := by
      intro x hx
      obtain ⟨p, _, rfl⟩ := List.mem_map.mp hx
      exact bits_getD hwb _
    unfold bf filt
    rw [List.getD_eq_getElem?_getD, List.getElem?_map, List.getElem?_range hi]
    show bit ((tableOf n S).getD (place (ps.map fun p => (runOf taps start (c + 61)).getD (i + p.toNat) 0)).toNat 0) = _
    rw [table_at h1 h2 hv (by rw [List.length_map, hpl]), bit_mod, bit_terms _ hv]
    unfold sI
    have key : ∀ S' : List (List Int), (∀ t ∈ S', t ∈ S) → S'.foldr (fun t a => xor (t.all fun j => bf (ps.map fun p => (runOf taps start (c + 61)).getD (i + p.toNat) 0) j.toNat) a) false = S'.foldr (fun t a => xor (prodT taps start ps t 0 i) a) false := by
      intro S'
      induction S' with
      | nil => intro _; rfl
      | cons t S' ih =>
        intro hs
        rw [List.foldr_cons, List.foldr_cons, ih fun t ht => hs t (List.mem_cons_of_mem _ ht)]
        congr 1
        unfold prodT
        have ht := (hT t (hs t List.mem_cons_self)).2.2
        have key2 : ∀ t' : List Int, (∀ j ∈ t', j ∈ t) → (t'.all fun j => bf (ps.map fun p => (runOf taps start (c + 61)).getD (i + p.toNat) 0) j.toNat) = t'.all fun j => zz taps start (i + 0 + (ps.getD j.toNat 0).toNat) := by
          intro t'
          induction t' with
          | nil => intro _; rfl
          | cons j t' ih2 =>
            intro hj
            rw [List.all_cons, List.all_cons, ih2 fun j hj' => hj j (List.mem_cons_of_mem _ hj')]
            congr 1
            have hjr := ht j (hj j List.mem_cons_self)
            have hlt : j.toNat < ps.length := by omega
            have hp := hpr ps[j.toNat] (List.getElem_mem hlt)
            unfold bf zz
            rw [List.getD_eq_getElem?_getD, List.getElem?_map, List.getElem?_eq_getElem hlt, List.getD_eq_getElem?_getD, List.getElem?_eq_getElem hlt]
            show bit ((runOf taps start (c + 61)).getD (i + (ps[j.toNat]).toNat) 0) = bit (zI taps start (i + 0 + (ps[j.toNat]).toNat))
            rw [hrow _ (by omega), Nat.add_zero]
        exact key2 t fun j hj => hj
    exact key S fun t ht => ht
  -- a register of few places makes it
  obtain ⟨k, hk, hs⟩ := dep (gens (zx taps start) taps.length (degOf S).toNat) (fun q i => sI taps start ps S (i + q)) fun j _ => sI_in hl ps j (degOf S).toNat S hd
  obtain ⟨a, ha⟩ := hs.coef
  have hlen : (filt (runOf taps start (c + 61)) (tableOf n S) ps c).length = c := filt_len
  have hM : Makes (bf (filt (runOf taps start (c + 61)) (tableOf n S) ps c)) (filt (runOf taps start (c + 61)) (tableOf n S) ps c).length k := by
    rw [hlen]
    refine ⟨a, fun i hi => ?_⟩
    rw [hsq _ hi, xs_congr (g := fun j => a j && sI taps start ps S (i + j)) fun j hj => by rw [hsq _ (by omega)]]
    exact ha i
  have hL := grun_low (filt_bits (tableOf_bits n S)) hM
  rw [gens_len] at hk
  have hf := fb_gens ⟨taps.length, by omega⟩ ⟨(degOf S).toNat, by omega⟩
  have hf : fbound taps.length (degOf S).toNat = ngens taps.length (degOf S).toNat := hf
  rw [hf]
  exact Int.ofNat_le.mpr (Nat.le_trans hL hk)
theorem p2 : P2 := by
  have h : ∀ l : Fin 61, ∀ m : Fin 10, fbound l m = lbound l m := by decide +kernel
  intro l m h1 h2
  exact h ⟨l, by omega⟩ ⟨m, by omega⟩
end LX

set_option Elab.async false
set_option linter.all false
set_option maxRecDepth 100000
set_option maxHeartbeats 4000000
set_option autoImplicit false
namespace LX
open PySem PySem.Spec PyProof.Rows L2 Evl
/-! ### the terms of a table -/
theorem degOf_congr {A B : List (List Int)} (h : ∀ t, t ∈ A ↔ t ∈ B) : degOf A = degOf B := by
  have key : ∀ {A B : List (List Int)}, (∀ t, t ∈ A → t ∈ B) → degOf A ≤ degOf B := fun {A B} h => by
    have hA := (degOf_max A).1
    have hB := (degOf_max B).2
    rcases List.mem_append.mp hA with z | z
    · obtain ⟨t, ht, e⟩ := List.mem_map.mp z
      rw [← e]
      exact hB _ (List.mem_append_left _ (List.mem_map.mpr ⟨t, h t ht, rfl⟩))
    · exact hB _ (List.mem_append_right _ z)
  exact Int.le_antisymm (key fun t => (h t).mp) (key fun t => (h t).mpr)
def wb (n : Nat) (ps : List Int) (g : List Int → Bool) (l : List (List Int)) : Bool := l.foldr (fun s a => xor (inside n ps s && g s) a) false
theorem wb_fold (n : Nat) (ps : List Int) (h : List Int → Int) : ∀ (l : List (List Int)) (a : Int), bit (l.foldl (fun a s => if inside n ps s = true then a + h s else a) a) = xor (bit a) (wb n ps (fun s => bit (h s)) l)
  | [], a => by show bit a = xor (bit a) false; cases bit a <;> rfl
  | s :: l, a => by
    rw [List.foldl_cons, wb_fold n ps h l]
    show _ = xor (bit a) (xor (inside n ps s && bit (h s)) (wb n ps (fun s => bit (h s)) l))
    cases q : inside n ps s with
    | true =>
      rw [if_pos rfl, bit_add]
      cases bit a <;> cases bit (h s) <;> cases wb n ps (fun s => bit (h s)) l <;> rfl
    | false =>
      rw [if_neg Bool.false_ne_true]
      cases bit a <;> cases wb n ps (fun s => bit (h s)) l <;> rfl
theorem wb_congr (n : Nat) (ps : List Int) {g g' : List Int → Bool} : ∀ l : List (List Int), (∀ s ∈ l, g s = g' s) → wb n ps g l = wb n ps g' l
  | [], _ => rfl
  | s :: l, h => by
    show xor (inside n ps s && g s) (wb n ps g l) = xor (inside n ps s && g' s) (wb n ps g' l)
    rw [h s List.mem_cons_self, wb_congr n ps l fun s hs => h s (List.mem_cons_of_mem _ hs)]
theorem wb_add (n : Nat) (ps : List Int) (g g' : List Int → Bool) : ∀ l : List (List Int), wb n ps (fun s => xor (g s) (g' s)) l = xor (wb n ps g l) (wb n ps g' l)
  | [] => rfl
  | s :: l => by
    show xor (inside n ps s && xor (g s) (g' s)) (wb n ps _ l) = xor (xor (inside n ps s && g s) (wb n ps g l)) (xor (inside n ps s && g' s) (wb n ps g' l))
    rw [wb_add n ps g g' l]
    cases inside n ps s <;> cases g s <;> cases g' s <;> cases wb n ps g l <;> cases wb n ps g' l <;> rfl
theorem wb_zero (n : Nat) (ps : List Int) : ∀ l : List (List Int), wb n ps (fun _ => false) l = false
  | [] => rfl
  | s :: l => by
    show xor (inside n ps s && false) (wb n ps _ l) = false
    rw [wb_zero n ps l]
    cases inside n ps s <;> rfl
theorem wb_sum (n : Nat) (ps : List Int) (l : List (List Int)) : ∀ S : List (List Int), wb n ps (fun s => S.foldr (fun t a => xor (t.all fun j => bf s j.toNat) a) false) l = S.foldr (fun t a => xor (wb n ps (fun s => t.all fun j => bf s j.toNat) l) a) false
  | [] => wb_zero n ps l
  | t :: S => by
    rw [List.foldr_cons, ← wb_sum n ps l S, ← wb_add] <;> rfl
def allT (n : Nat) : List (List Int) := (states n).map (placesOf n)
theorem wb_one : ∀ n : Nat, 1 ≤ n → n ≤ 4 → ∀ ps ∈ allT n, ∀ t ∈ allT n, wb n ps (fun s => t.all fun j => bf s j.toNat) (states n) = decide (ps = t) := by
  intro n h1 h2
  have h : n = 1 ∨ n = 2 ∨ n = 3 ∨ n = 4 := by omega
  rcases h with h | h | h | h <;> subst h <;> decide +kernel
theorem asc_nodup {S : List (List Int)} (h : Asc S) : S.Nodup := h.imp fun {a b} q z => by
  rw [z, lexi_irr] at q
  cases q
theorem xor_mem (ps : List Int) : ∀ S : List (List Int), S.Nodup → S.foldr (fun t a => xor (decide (ps = t)) a) false = decide (ps ∈ S)
  | [], _ => rfl
  | t :: S, h => by
    obtain ⟨h1, h2⟩ := List.nodup_cons.mp h
    rw [List.foldr_cons, xor_mem ps S h2]
    by_cases e : ps = t
    · subst e
      rw [decide_eq_true rfl, decide_eq_false h1, decide_eq_true List.mem_cons_self] <;> rfl
    · rw [decide_eq_false e]
      by_cases q : ps ∈ S
      · rw [decide_eq_true q, decide_eq_true (List.mem_cons_of_mem _ q)] <;> rfl
      · rw [decide_eq_false q, decide_eq_false fun z => (List.mem_cons.mp z).elim e q] <;> rfl
theorem in_all {n : Nat} {t : List Int} (hp : t.Pairwise (· < ·)) (hr : ∀ x ∈ t, 0 ≤ x ∧ x < n) : t ∈ allT n := by
  have hs : ((List.range n).map fun i : Nat => if (i : Int) ∈ t then (1 : Int) else 0) ∈ states n := by
    refine states_all n _ (fun x hx => ?_) (by rw [List.length_map, List.length_range])
    obtain ⟨i, _, rfl⟩ := List.mem_map.mp hx
    show 0 ≤ (if (i : Int) ∈ t then (1 : Int) else 0) ∧ (if (i : Int) ∈ t then (1 : Int) else 0) < 2
    split <;> decide
  refine List.mem_map.mpr ⟨_, hs, ?_⟩
  unfold placesOf
  refine int_uniq (List.pairwise_map.mpr ((List.pairwise_lt_range.sublist List.filter_sublist).imp fun {a b} h => by omega)) hp fun x => ?_
  rw [List.mem_map]
  constructor
  · rintro ⟨i, hi, rfl⟩
    obtain ⟨h1, h2⟩ := List.mem_filter.mp hi
    have h1 := List.mem_range.mp h1
    have h2 := of_decide_eq_true h2
    rw [List.getD_eq_getElem?_getD, List.getElem?_map, List.getElem?_range h1] at h2
    by_cases q : (i : Int) ∈ t
    · exact q
    · have : (if (i : Int) ∈ t then (1 : Int) else 0) = 1 := h2
      rw [if_neg q] at this
      cases this
  · intro hx
    have := hr x hx
    refine ⟨x.toNat, List.mem_filter.mpr ⟨List.mem_range.mpr (by omega), decide_eq_true ?_⟩, by omega⟩
    rw [List.getD_eq_getElem?_getD, List.getElem?_map, List.getElem?_range (by omega)]
    show (if ((x.toNat : Nat) : Int) ∈ t then (1 : Int) else 0) = 1
    rw [show ((x.toNat : Nat) : Int) = x by omega, if_pos hx]
theorem p1 : P1 := by
  intro n S h1 h2 hS hS3
  obtain ⟨hA, _, hT⟩ := hS
  have hin : ∀ t ∈ S, t ∈ allT n := fun t ht => in_all (hT t ht).1 (hT t ht).2.2
  show degOf (sortBy id (termsRaw n (tableOf n S))) = degOf S
  refine degOf_congr fun t => ?_
  rw [(sortBy_perm _ _).mem_iff]
  unfold termsRaw
  rw [List.mem_filter]
  have key : ∀ ps ∈ allT n, bit (wholeOf n (tableOf n S) ps (states n)) = decide (ps ∈ S) := fun ps hps => by
    unfold wholeOf
    rw [wb_fold n ps (fun s => (tableOf n S).getD (place s).toNat 0)]
    rw [wb_congr n ps (g' := fun s => S.foldr (fun t a => xor (t.all fun j => bf s j.toNat) a) false) (states n) fun s hs => by
      rw [table_at h1 h2 (states_bits n s hs) (states_in n s hs), bit_mod, bit_terms s (states_bits n s hs)], wb_sum, ← xor_mem ps S (asc_nodup hA)]
    show xor false _ = _
    rw [Bool.false_xor]
    have : ∀ S' : List (List Int), (∀ t ∈ S', t ∈ S) → S'.foldr (fun t a => xor (wb n ps (fun s => t.all fun j => bf s j.toNat) (states n)) a) false = S'.foldr (fun t a => xor (decide (ps = t)) a) false := by
      intro S'
      induction S' with
      | nil => intro _; rfl
      | cons u S' ih =>
        intro hs
        rw [List.foldr_cons, List.foldr_cons, ih fun t ht => hs t (List.mem_cons_of_mem _ ht), wb_one n h1 h2 ps hps u (hin u (hs u List.mem_cons_self))]
    exact this S fun t ht => ht
  constructor
  · rintro ⟨g1, g2⟩
    have e := key t g1
    have : bit (wholeOf n (tableOf n S) t (states n)) = true := g2
    rw [this] at e
    exact of_decide_eq_true e.symm
  · intro ht
    refine ⟨hin t ht, ?_⟩
    have e := key t (hin t ht)
    rw [decide_eq_true ht] at e
    exact e
end LX

set_option Elab.async false
set_option linter.all false
set_option maxRecDepth 100000
set_option autoImplicit false
open PySem PySem.W PyProof.Rows
set_option maxRecDepth 100000 in
set_option maxHeartbeats 0 in
theorem PySem.Challenge.cw_taprows_k87_whole_filtered_rows_holds : PySem.Challenge.rw_taprows_k87_whole_filtered_rows.Holds := by
  w_on; o_law; k_head; (case hw => w_witness2)
  k_fill
  refine L2.walk_of (l := PySem.Challenge.rw_taprows_k87_whole_filtered_rows) (n := 63) (k := 7) (x := "_law_script") (CX := fun _ => L2.CX0) (sp := fun w => LX.spLaw _) rfl (by decide) rfl ⟨rfl, by decide, by decide⟩ (fun w h Y => PySem.W.kIn_of Y) ?F (fun _ _ a ns hl _ hS => ⟨a, ns, rfl, hS, hl, fun _ => rfl⟩) (fun _ _ _ _ _ h => h)
  case F =>
    intro w mg fa h KX G hmg
    have z_len : mg "len" = none := by (refine' PySem.W.mg_none_of KX G ?_; k_is)
    have z_sum : mg "sum" = none := by (refine' PySem.W.mg_none_of KX G ?_; k_is)
    have z_all : mg "all" = none := by (refine' PySem.W.mg_none_of KX G ?_; k_is)
    have z_any : mg "any" = none := by (refine' PySem.W.mg_none_of KX G ?_; k_is)
    have z_max : mg "max" = none := by (refine' PySem.W.mg_none_of KX G ?_; k_is)
    have z_min : mg "min" = none := by (refine' PySem.W.mg_none_of KX G ?_; k_is)
    have z_sorted : mg "sorted" = none := by (refine' PySem.W.mg_none_of KX G ?_; k_is)
    have z_isinstance : mg "isinstance" = none := by (refine' PySem.W.mg_none_of KX G ?_; k_is)
    have z_int : mg "int" = none := by (refine' PySem.W.mg_none_of KX G ?_; k_is)
    have z_bool : mg "bool" = none := by (refine' PySem.W.mg_none_of KX G ?_; k_is)
    have z_str : mg "str" = none := by (refine' PySem.W.mg_none_of KX G ?_; k_is)
    have z_tuple : mg "tuple" = none := by (refine' PySem.W.mg_none_of KX G ?_; k_is)
    have z_list : mg "list" = none := by (refine' PySem.W.mg_none_of KX G ?_; k_is)
    have z_set : mg "set" = none := by (refine' PySem.W.mg_none_of KX G ?_; k_is)
    have z_range : mg "range" = none := by (refine' PySem.W.mg_none_of KX G ?_; k_is)
    have z_enumerate : mg "enumerate" = none := by (refine' PySem.W.mg_none_of KX G ?_; k_is)
    have z_MOST_ROW : ∃ t, mg "MOST_ROW" = some (.int 400 t) := by (refine' LX.gi_mk KX G ?a ?b; (case a => k_is); (case b => exact ⟨_, rfl⟩))
    have z_MOST_TAPS : ∃ t, mg "MOST_TAPS" = some (.int 60 t) := by (refine' LX.gi_mk KX G ?a ?b; (case a => k_is); (case b => exact ⟨_, rfl⟩))
    have z_MOST_STATES : ∃ t, mg "MOST_STATES" = some (.int 512 t) := by (refine' LX.gi_mk KX G ?a ?b; (case a => k_is); (case b => exact ⟨_, rfl⟩))
    have z_comb : mg "comb" = some (.builtin "math.comb") := by (refine' PySem.W.mg_of KX G ?_; k_is)
    have z_PRIMES : ∃ a, mg "PRIMES" = some (.ref a) ∧ ∀ H, L2.SqT (L2.KOf KX) H a [.int 2, .int 3, .int 5, .int 7] := by (refine' (LX.primes_mk KX G ?p1 ?p2 ?p3 : _); (case p1 => k_is); (case p2 => k_is); (case p3 => exact ⟨_, _, _, _, _, rfl, rfl⟩))
    have T : LX.Txt (L2.KOf KX) mg := ⟨z_len, z_sum, z_all, z_any, z_max, z_min, z_sorted, z_isinstance, z_int, z_bool, z_str, z_tuple, z_list, z_set, z_range, z_enumerate, z_MOST_ROW, z_MOST_TAPS, z_MOST_STATES, z_comb, z_PRIMES⟩
    have D_is_int : LX.Df (L2.KOf KX) mg "is_int" LX.s_is_int LX.P_is_int := by (refine' (LX.df_mk KX G ?a ?l ?c ?k LX.b_is_int : _); (case a => k_is); (case l => k_is); (case c => k_is); (case k => k_is))
    have D_is_in : LX.Df (L2.KOf KX) mg "is_in" LX.s_is_in LX.P_is_in := by (refine' (LX.df_mk KX G ?a ?l ?c ?k LX.b_is_in : _); (case a => k_is); (case l => k_is); (case c => k_is); (case k => k_is))
    have D_need_prime : LX.Df (L2.KOf KX) mg "need_prime" LX.s_need_prime LX.P_need_prime := by (refine' (LX.df_mk KX G ?a ?l ?c ?k LX.b_need_prime : _); (case a => k_is); (case l => k_is); (case c => k_is); (case k => k_is))
    have D_need_number : LX.Df (L2.KOf KX) mg "need_number" LX.s_need_number LX.P_need_number := by (refine' (LX.df_mk KX G ?a ?l ?c ?k LX.b_need_number : _); (case a => k_is); (case l => k_is); (case c => k_is); (case k => k_is))
    have D_are_numbers : LX.Df (L2.KOf KX) mg "are_numbers" LX.s_are_numbers LX.P_are_numbers := by (refine' (LX.df_mk KX G ?a ?l ?c ?k LX.b_are_numbers : _); (case a => k_is); (case l => k_is); (case c => k_is); (case k => k_is))
    have D_need_row : LX.Df (L2.KOf KX) mg "need_row" LX.s_need_row LX.P_need_row := by (refine' (LX.df_mk KX G ?a ?l ?c ?k LX.b_need_row : _); (case a => k_is); (case l => k_is); (case c => k_is); (case k => k_is))
    have D_inverse : LX.Df (L2.KOf KX) mg "inverse" LX.s_inverse LX.P_inverse := by (refine' (LX.df_mk KX G ?a ?l ?c ?k LX.b_inverse : _); (case a => k_is); (case l => k_is); (case c => k_is); (case k => k_is))
    have D_whole_power : LX.Df (L2.KOf KX) mg "whole_power" LX.s_whole_power LX.P_whole_power := by (refine' (LX.df_mk KX G ?a ?l ?c ?k LX.b_whole_power : _); (case a => k_is); (case l => k_is); (case c => k_is); (case k => k_is))
    have D_need_size : LX.Df (L2.KOf KX) mg "need_size" LX.s_need_size LX.P_need_size := by (refine' (LX.df_mk KX G ?a ?l ?c ?k LX.b_need_size : _); (case a => k_is); (case l => k_is); (case c => k_is); (case k => k_is))
    have D_need_table : LX.Df (L2.KOf KX) mg "need_table" LX.s_need_table LX.P_need_table := by (refine' (LX.df_mk KX G ?a ?l ?c ?k LX.b_need_table : _); (case a => k_is); (case l => k_is); (case c => k_is); (case k => k_is))
    have D_place_of : LX.Df (L2.KOf KX) mg "place_of" LX.s_place_of LX.P_place_of := by (refine' (LX.df_mk KX G ?a ?l ?c ?k LX.b_place_of : _); (case a => k_is); (case l => k_is); (case c => k_is); (case k => k_is))
    have D_states_of : LX.Df (L2.KOf KX) mg "states_of" LX.s_states_of LX.P_states_of := by (refine' (LX.df_mk KX G ?a ?l ?c ?k LX.b_states_of : _); (case a => k_is); (case l => k_is); (case c => k_is); (case k => k_is))
    have D_terms_of : LX.Df (L2.KOf KX) mg "terms_of" LX.s_terms_of LX.P_terms_of := by (refine' (LX.df_mk KX G ?a ?l ?c ?k LX.b_terms_of : _); (case a => k_is); (case l => k_is); (case c => k_is); (case k => k_is))
    have D_need_terms : LX.Df (L2.KOf KX) mg "need_terms" LX.s_need_terms LX.P_need_terms := by (refine' (LX.df_mk KX G ?a ?l ?c ?k LX.b_need_terms : _); (case a => k_is); (case l => k_is); (case c => k_is); (case k => k_is))
    have D_table_of : LX.Df (L2.KOf KX) mg "table_of" LX.s_table_of LX.P_table_of := by (refine' (LX.df_mk KX G ?a ?l ?c ?k LX.b_table_of : _); (case a => k_is); (case l => k_is); (case c => k_is); (case k => k_is))
    have D_next_of : LX.Df (L2.KOf KX) mg "next_of" LX.s_next_of LX.P_next_of := by (refine' (LX.df_mk KX G ?a ?l ?c ?k LX.b_next_of : _); (case a => k_is); (case l => k_is); (case c => k_is); (case k => k_is))
    have D_run_of : LX.Df (L2.KOf KX) mg "run_of" LX.s_run_of LX.P_run_of := by (refine' (LX.df_mk KX G ?a ?l ?c ?k LX.b_run_of : _); (case a => k_is); (case l => k_is); (case c => k_is); (case k => k_is))
    have D_massey : LX.Df (L2.KOf KX) mg "massey" LX.s_massey LX.P_massey := by (refine' (LX.df_mk KX G ?a ?l ?c ?k LX.b_massey : _); (case a => k_is); (case l => k_is); (case c => k_is); (case k => k_is))
    have D_need_prime_row : LX.Df (L2.KOf KX) mg "need_prime_row" LX.s_need_prime_row LX.P_need_prime_row := by (refine' (LX.df_mk KX G ?a ?l ?c ?k LX.b_need_prime_row : _); (case a => k_is); (case l => k_is); (case c => k_is); (case k => k_is))
    have D_least_length : LX.Df (L2.KOf KX) mg "least_length" LX.s_least_length LX.P_least_length := by (refine' (LX.df_mk KX G ?a ?l ?c ?k LX.b_least_length : _); (case a => k_is); (case l => k_is); (case c => k_is); (case k => k_is))
    have D_is_register : LX.Df (L2.KOf KX) mg "is_register" LX.s_is_register LX.P_is_register := by (refine' (LX.df_mk KX G ?a ?l ?c ?k LX.b_is_register : _); (case a => k_is); (case l => k_is); (case c => k_is); (case k => k_is))
    have D_need_register : LX.Df (L2.KOf KX) mg "need_register" LX.s_need_register LX.P_need_register := by (refine' (LX.df_mk KX G ?a ?l ?c ?k LX.b_need_register : _); (case a => k_is); (case l => k_is); (case c => k_is); (case k => k_is))
    have D_filtered : LX.Df (L2.KOf KX) mg "filtered" LX.s_filtered LX.P_filtered := by (refine' (LX.df_mk KX G ?a ?l ?c ?k LX.b_filtered : _); (case a => k_is); (case l => k_is); (case c => k_is); (case k => k_is))
    have D_term_degree : LX.Df (L2.KOf KX) mg "term_degree" LX.s_term_degree LX.P_term_degree := by (refine' (LX.df_mk KX G ?a ?l ?c ?k LX.b_term_degree : _); (case a => k_is); (case l => k_is); (case c => k_is); (case k => k_is))
    have D_filter_bound : LX.Df (L2.KOf KX) mg "filter_bound" LX.s_filter_bound LX.P_filter_bound := by (refine' (LX.df_mk KX G ?a ?l ?c ?k LX.b_filter_bound : _); (case a => k_is); (case l => k_is); (case c => k_is); (case k => k_is))
    have D_law_taken : LX.Df (L2.KOf KX) mg "_law_taken" LX.s_law_taken LX.P_law_taken := by (refine' (LX.df_mk KX G ?a ?l ?c ?k LX.b_law_taken : _); (case a => k_is); (case l => k_is); (case c => k_is); (case k => k_is))
    have D_law_taps : LX.Df (L2.KOf KX) mg "_law_taps" LX.s_law_taps LX.P_law_taps := by (refine' (LX.df_mk KX G ?a ?l ?c ?k LX.b_law_taps : _); (case a => k_is); (case l => k_is); (case c => k_is); (case k => k_is))
    have D_law_every : LX.Df (L2.KOf KX) mg "_law_every" LX.s_law_every LX.P_law_every := by (refine' (LX.df_mk KX G ?a ?l ?c ?k LX.b_law_every : _); (case a => k_is); (case l => k_is); (case c => k_is); (case k => k_is))
    have D_law_bit_table : LX.Df (L2.KOf KX) mg "_law_bit_table" LX.s_law_bit_table LX.P_law_bit_table := by (refine' (LX.df_mk KX G ?a ?l ?c ?k LX.b_law_bit_table : _); (case a => k_is); (case l => k_is); (case c => k_is); (case k => k_is))
    have D_law_run : LX.Df (L2.KOf KX) mg "_law_run" LX.s_law_run LX.P_law_run := by (refine' (LX.df_mk KX G ?a ?l ?c ?k LX.b_law_run : _); (case a => k_is); (case l => k_is); (case c => k_is); (case k => k_is))
    have D_law_place : LX.Df (L2.KOf KX) mg "_law_place" LX.s_law_place LX.P_law_place := by (refine' (LX.df_mk KX G ?a ?l ?c ?k LX.b_law_place : _); (case a => k_is); (case l => k_is); (case c => k_is); (case k => k_is))
    have D_law_alike : LX.Df (L2.KOf KX) mg "_law_alike" LX.s_law_alike LX.P_law_alike := by (refine' (LX.df_mk KX G ?a ?l ?c ?k LX.b_law_alike : _); (case a => k_is); (case l => k_is); (case c => k_is); (case k => k_is))
    have D_law_choose : LX.Df (L2.KOf KX) mg "_law_choose" LX.s_law_choose LX.P_law_choose := by (refine' (LX.df_mk KX G ?a ?l ?c ?k LX.b_law_choose : _); (case a => k_is); (case l => k_is); (case c => k_is); (case k => k_is))
    have R : LX.Grw (L2.KOf KX) mg := by (refine' (LX.grw_mk KX G ?aC ?a1 ?i1 ?l1 ?c1 ?k1 ?a2 ?i2 ?l2 ?c2 ?k2 ?a3 ?i3 ?l3 ?c3 ?k3 ?pg ?hd ?po ?sa ?mk ?kc ?n1 ?n2 ?n3 ?n4 ?n5 ?n6 ?n7 : _); (case aC => k_is); (case a1 => k_is); (case i1 => k_is); (case l1 => k_is); (case c1 => k_is); (case k1 => k_is); (case a2 => k_is); (case i2 => k_is); (case l2 => k_is); (case c2 => k_is); (case k2 => k_is); (case a3 => k_is); (case i3 => k_is); (case l3 => k_is); (case c3 => k_is); (case k3 => k_is); (case pg => k_is); (case hd => k_is); (case po => k_is); (case sa => k_is); (case mk => k_is); (case kc => k_is); (case n1 => k_is); (case n2 => k_is); (case n3 => k_is); (case n4 => k_is); (case n5 => k_is); (case n6 => k_is); (case n7 => k_is))
    refine' LX.fin KX G hmg LX.p1 LX.p2 LX.p3 T D_is_int D_is_in D_need_prime D_need_number D_are_numbers D_need_row D_inverse D_whole_power D_need_size D_need_table D_place_of D_states_of D_terms_of D_need_terms D_table_of D_next_of D_run_of D_massey D_need_prime_row D_least_length D_is_register D_need_register D_filtered D_term_degree D_filter_bound D_law_taken D_law_taps D_law_every D_law_bit_table D_law_run D_law_place D_law_alike D_law_choose R ?a ?l ?c ?k
    (case a => k_is); (case l => k_is); (case c => k_is); (case k => k_is)
