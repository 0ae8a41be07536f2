import PyProof.Rows.All
import Wide.All
import OpenK.AllK
import Wide.FinOn
import HandS.ForMost
import HandS.IsInst
import HandS.Wide
import HandS.TupAny
import HandS.Conv
import HandS.SortInts
import HandS.Deep
import HandS.Style
import HandS.TupMul
import HandS.Steps
import HandS.Star
import HandS.Zip
import HandS.Zip0
import PyProof.EnumMake
import PyProof.Draws
import HandS.FStr
import HandS.Codes
import HandS.HotCalls
import HandS.ExcCtx
import HandS.ExcIs
import HandS.ExcOwn
import HandS.Property
import HandS.ClsMeth
import HandS.MakeKwOnly
import HandS.TryOnly
import HandS.GenList
import HandS.GenYield
import HandS.SlotsOwn
import HandS.StrMore
import PyProof.Rows.StrIntSpec
import PyProof.FString3
import PyProof.Conv_bool
import PyProof.InstEq
import PyProof.Rows.SeqMore
import PySem.Challenge.RW_pageranges_k19_whole_jobs_step_by_step
set_option Elab.async false
set_option linter.all false
set_option maxRecDepth 100000
set_option maxHeartbeats 4000000
/-! readings at the level of data: no heap in them -/
namespace Pg
open PySem PySem.Spec PyProof.Rows L2

/-! ### the heap with some addresses hidden -/
abbrev Ms := Addr → Bool
def hid (M : Ms) (H : Hp) : Hp := fun b => if M b = true then none else H b
theorem hid_some {M : Ms} {H : Hp} {b : Addr} {o : HO} : hid M H b = some o ↔ M b = false ∧ H b = some o := by
  unfold hid
  cases h : M b <;> simp
theorem hid_le (M : Ms) (H : Hp) : Same (hid M H) H := fun b o e => (hid_some.mp e).2
theorem hid_sub {M M' : Ms} {H : Hp} (s : ∀ b, M' b = true → M b = true) : Same (hid M H) (hid M' H) := fun b o e => by
  obtain ⟨m, e⟩ := hid_some.mp e
  refine hid_some.mpr ⟨?_, e⟩
  cases q : M' b with
  | false => rfl
  | true =>
    rw [s b q] at m
    cases m
theorem same_sqT {K : PySem.W.Frag} {H H' : Hp} {a : Addr} {xs : List V} (e : Same H H') (h : SqT K H a xs) : SqT K H' a xs := by
  rcases h with (h | ⟨o, h⟩) | h
  · exact .inl (.inl (e _ _ h))
  · exact .inl (.inr ⟨o, e _ _ h⟩)
  · exact .inr h
mutual
inductive Dp (K : PySem.W.Frag) (H : Hp) : V → PyData → Prop
  | non : Dp K H .non .none
  | bl (b : Bool) : Dp K H (.bl b) (.bool b)
  | int (i : Int) : Dp K H (.int i) (.int i)
  | str (x : Str) : Dp K H (.str x) (.str x)
  | lst {a : Addr} {xs : List V} {ds : List PyData} (hs : SqL K H a xs) (ha : DpAll K H xs ds) : Dp K H (.ref a) (.list ds)
  | tup {a : Addr} {xs : List V} {ds : List PyData} (hs : SqT K H a xs) (ha : DpAll K H xs ds) : Dp K H (.ref a) (.tuple ds)
  | dct {a : Addr} {kvs : List (Key × V)} {l : List (PyData × PyData)} (hs : H a = some (.dK kvs)) (ha : DpKv K H kvs l) : Dp K H (.ref a) (.dict l)
inductive DpAll (K : PySem.W.Frag) (H : Hp) : List V → List PyData → Prop
  | nil : DpAll K H [] []
  | cons {v : V} {vs : List V} {d : PyData} {ds : List PyData} (h1 : Dp K H v d) (h2 : DpAll K H vs ds) : DpAll K H (v :: vs) (d :: ds)
inductive DpKv (K : PySem.W.Frag) (H : Hp) : List (Key × V) → List (PyData × PyData) → Prop
  | nil : DpKv K H [] []
  | cons {s : Str} {v : V} {vs : List (Key × V)} {d : PyData} {ds : List (PyData × PyData)} (h1 : Dp K H v d) (h2 : DpKv K H vs ds) : DpKv K H ((Sum.inr s, v) :: vs) ((.str s, d) :: ds)
end
mutual
theorem dp_mono {K : PySem.W.Frag} {H H' : Hp} (e : Same H H') : ∀ {d : PyData} {v : V}, Dp K H v d → Dp K H' v d
  | .none, _, h => by cases h; exact .non
  | .bool b, _, h => by cases h; exact .bl b
  | .int i, _, h => by cases h; exact .int i
  | .str x, _, h => by cases h; exact .str x
  | .list ds, _, h => by
    cases h with
    | lst hs ha => exact .lst (e.seq hs) (dpa_mono e ha)
  | .tuple ds, _, h => by
    cases h with
    | tup hs ha => exact .tup (same_sqT e hs) (dpa_mono e ha)
  | .dict l, _, h => by
    cases h with
    | dct hs ha => exact .dct (e _ _ hs) (dpk_mono e ha)
theorem dpk_mono {K : PySem.W.Frag} {H H' : Hp} (e : Same H H') : ∀ {ds : List (PyData × PyData)} {vs : List (Key × V)}, DpKv K H vs ds → DpKv K H' vs ds
  | [], _, h => by cases h; exact .nil
  | (_, d) :: ds, _, h => by
    cases h with
    | cons h1 h2 => exact .cons (dp_mono e h1) (dpk_mono e h2)
theorem dpa_mono {K : PySem.W.Frag} {H H' : Hp} (e : Same H H') : ∀ {ds : List PyData} {vs : List V}, DpAll K H vs ds → DpAll K H' vs ds
  | [], _, h => by cases h; exact .nil
  | d :: ds, _, h => by
    cases h with
    | cons h1 h2 => exact .cons (dp_mono e h1) (dpa_mono e h2)
end
mutual
theorem dp_kit {K : PySem.W.Frag} {H : Hp} : ∀ {d : PyData} {v : V}, Dp K H v d → PyData.canLay0 d = true → L2.Dp K H v d
  | .none, _, h, _ => by cases h; exact .non
  | .bool b, _, h, _ => by cases h; exact .bl b
  | .int i, _, h, _ => by cases h; exact .int i
  | .str x, _, h, _ => by cases h; exact .str x
  | .list ds, _, h, c => by
    cases h with
    | lst hs ha => exact .lst hs (dpa_kit ha (by simpa [PyData.canLay0] using c))
  | .tuple ds, _, h, c => by
    cases h with
    | tup hs ha => exact .tup hs (dpa_kit ha (by simpa [PyData.canLay0] using c))
  | .dict _, _, _, c => by simp [PyData.canLay0] at c
theorem dpa_kit {K : PySem.W.Frag} {H : Hp} : ∀ {ds : List PyData} {vs : List V}, DpAll K H vs ds → PyData.canLayAll0 ds = true → L2.DpAll K H vs ds
  | [], _, h, _ => by cases h; exact .nil
  | d :: ds, _, h, c => by
    rw [PyData.canLayAll0, Bool.and_eq_true] at c
    cases h with
    | cons h1 h2 => exact .cons (dp_kit h1 c.1) (dpa_kit h2 c.2)
end
theorem shp_lay {d : PyData} (h : SeqAt.shaped d = true) : PyData.canLay0 d = true := by
  unfold SeqAt.shaped at h
  rw [Bool.and_eq_true] at h
  exact h.1
section
variable {K : PySem.W.Frag} {H : Hp} {v : V} {vs : List V} {d : PyData} {ds : List PyData}
theorem dp_non (h : Dp K H v .none) : v = .non := by cases h; rfl
theorem dp_bl {b : Bool} (h : Dp K H v (.bool b)) : v = .bl b := by cases h; rfl
theorem dp_int {i : Int} (h : Dp K H v (.int i)) : v = .int i := by cases h; rfl
theorem dp_str {x : Str} (h : Dp K H v (.str x)) : v = .str x := by cases h; rfl
theorem dp_list (h : Dp K H v (.list ds)) : ∃ a xs, v = .ref a ∧ SqL K H a xs ∧ DpAll K H xs ds := by
  cases h with
  | lst hs ha => exact ⟨_, _, rfl, hs, ha⟩
theorem dp_tuple (h : Dp K H v (.tuple ds)) : ∃ a xs, v = .ref a ∧ SqT K H a xs ∧ DpAll K H xs ds := by
  cases h with
  | tup hs ha => exact ⟨_, _, rfl, hs, ha⟩
theorem dpa_len : ∀ {vs : List V} {ds : List PyData}, DpAll K H vs ds → vs.length = ds.length
  | _, _, .nil => rfl
  | _, _, .cons _ t => by rw [List.length_cons, List.length_cons, dpa_len t]
theorem dpa_get : ∀ {vs : List V} {ds : List PyData} {i : Nat} {d : PyData}, DpAll K H vs ds → ds[i]? = some d → ∃ v, vs[i]? = some v ∧ Dp K H v d
  | _, _, _, _, .nil, e => by simp at e
  | _, _, 0, _, .cons r _, e => by simp at e; subst e; exact ⟨_, rfl, r⟩
  | _, _, i + 1, d, .cons _ t, e => by
    obtain ⟨u, h1, h2⟩ := dpa_get (i := i) (d := d) t (by simpa using e)
    exact ⟨u, by simpa using h1, h2⟩
theorem dpa_at {vs : List V} {ds : List PyData} {i : Nat} {v : V} (h : DpAll K H vs ds) (e : vs[i]? = some v) : ∃ d, ds[i]? = some d ∧ Dp K H v d := by
  have hl := dpa_len h
  have hi : i < ds.length := by
    rw [← hl]
    exact (List.getElem?_eq_some_iff.mp e).1
  obtain ⟨u, h1, h2⟩ := dpa_get h (List.getElem?_eq_getElem hi)
  rw [e] at h1
  cases h1
  exact ⟨_, List.getElem?_eq_getElem hi, h2⟩
theorem dpa_app : ∀ {vs ws : List V} {ds es : List PyData}, DpAll K H vs ds → DpAll K H ws es → DpAll K H (vs ++ ws) (ds ++ es)
  | _, _, _, _, .nil, h => h
  | _, _, _, _, .cons r t, h => .cons r (dpa_app t h)
theorem dpa_take : ∀ {vs : List V} {ds : List PyData} (n : Nat), DpAll K H vs ds → DpAll K H (vs.take n) (ds.take n)
  | _, _, 0, _ => .nil
  | _, _, _ + 1, .nil => .nil
  | _, _, n + 1, .cons r t => .cons r (dpa_take n t)
theorem dpa_drop : ∀ {vs : List V} {ds : List PyData} (n : Nat), DpAll K H vs ds → DpAll K H (vs.drop n) (ds.drop n)
  | _, _, 0, h => h
  | _, _, _ + 1, .nil => .nil
  | _, _, n + 1, .cons _ t => dpa_drop n t
theorem dpa_rev {vs : List V} {ds : List PyData} (h : DpAll K H vs ds) : DpAll K H vs.reverse ds.reverse := by
  induction ds generalizing vs with
  | nil => cases h; exact .nil
  | cons d ds ih =>
    cases h with
    | cons h1 h2 =>
      rw [List.reverse_cons, List.reverse_cons]
      exact dpa_app (ih h2) (.cons h1 .nil)
theorem dpa_ints : ∀ {vs : List V} {ns : List Int}, DpAll K H vs (ns.map PyData.int) → vs = ns.map V.int
  | _, [], h => by cases h; rfl
  | _, n :: ns, h => by
    cases h with
    | cons h1 h2 => rw [dp_int h1, dpa_ints h2]; rfl
theorem dpa_of_ints : ∀ ns : List Int, DpAll K H (ns.map V.int) (ns.map PyData.int)
  | [] => .nil
  | n :: ns => .cons (.int n) (dpa_of_ints ns)
theorem dpa_bls : ∀ {vs : List V} {ns : List Bool}, DpAll K H vs (ns.map PyData.bool) → vs = ns.map V.bl
  | _, [], h => by cases h; rfl
  | _, n :: ns, h => by
    cases h with
    | cons h1 h2 => rw [dp_bl h1, dpa_bls h2]; rfl
theorem dpa_strs : ∀ {vs : List V} {ns : List Str}, DpAll K H vs (ns.map PyData.str) → vs = ns.map V.str
  | _, [], h => by cases h; rfl
  | _, n :: ns, h => by
    cases h with
    | cons h1 h2 => rw [dp_str h1, dpa_strs h2]; rfl
end

/-! ### how the heap goes on: all that stood stands, but for the tape -/
def RA (t : Option Addr) (H H' : Hp) : Prop := ∀ b o, t ≠ some b → H b = some o → H' b = some o
theorem RA.refl {t : Option Addr} {H : Hp} : RA t H H := fun _ _ _ e => e
theorem RA.trans {t : Option Addr} {H H1 H2 : Hp} (a : RA t H H1) (b : RA t H1 H2) : RA t H H2 := fun c o n e => b c o n (a c o n e)
theorem RA.of {t : Option Addr} {H H' : Hp} (s : Same H H') : RA t H H' := fun b o _ e => s b o e
theorem RA.same {H H' : Hp} (r : RA none H H') : Same H H' := fun b o e => r b o (by simp) e
theorem RA.hid {t : Option Addr} {M : Ms} {H H' : Hp} (m : ∀ a, t = some a → M a = true) (r : RA t H H') : Same (hid M H) (hid M H') := fun b o e => by
  obtain ⟨mb, e⟩ := hid_some.mp e
  refine hid_some.mpr ⟨mb, r b o (fun z => ?_) e⟩
  rw [m b z] at mb
  cases mb
def Live (M : Ms) (H : Hp) : Prop := ∀ b, M b = true → H b ≠ none
theorem Live.same {M : Ms} {H H' : Hp} (l : Live M H) (s : Same H H') : Live M H' := fun b m z => by
  cases e : H b with
  | none => exact l b m e
  | some o =>
    rw [s b o e] at z
    cases z
theorem Live.fresh {M : Ms} {H : Hp} {p : Addr} (l : Live M H) (h : H p = none) : M p = false := by
  cases e : M p with
  | false => rfl
  | true => exact absurd h (l p e)
/-- the law's tape at t: the script's numbers (a list at l), the place in it, the cell -/
def Tape (t l : Addr) (H : Hp) : Prop :=
  ∃ (ns : List Int) (n c : Int), H t = some (.lst [.ref l, .int n, .int c]) ∧ l ≠ t ∧ H l = some (.lst (ns.map V.int)) ∧ ns.length ≤ 63 ∧ 0 ≤ n ∧ 0 ≤ c
theorem Tape.same {t l : Addr} {H H' : Hp} (h : Tape t l H) (s : Same H H') : Tape t l H' := by
  obtain ⟨ns, n, c, h1, h2, h3, h4⟩ := h
  exact ⟨ns, n, c, s _ _ h1, h2, s _ _ h3, h4⟩
theorem Tape.live {t l : Addr} {H : Hp} (h : Tape t l H) : H t ≠ none := by
  obtain ⟨ns, n, c, h1, _⟩ := h
  rw [h1]
  exact fun z => nomatch z
theorem Tape.liveL {t l : Addr} {H : Hp} (h : Tape t l H) : H l ≠ none := by
  obtain ⟨ns, n, c, _, _, h1, _⟩ := h
  rw [h1]
  exact fun z => nomatch z

/-- .. or the object that a method is bound to, read only: its address, its form, what its fields hold -/
def TapeS (so : Option (HO × List (V × PyData))) (t l : Addr) (H : Hp) : Prop := match so with
  | none => Tape t l H
  | some q => l = t ∧ H t = some q.1
theorem tapeS_none {so : Option (HO × List (V × PyData))} (h : so = none) {t l : Addr} {H : Hp} : TapeS so t l H = Tape t l H := by rw [h]; rfl
theorem TapeS.same {so : Option (HO × List (V × PyData))} {t l : Addr} {H H' : Hp} (h : TapeS so t l H) (s : Same H H') : TapeS so t l H' := by
  cases so with
  | none => exact Tape.same h s
  | some q => exact ⟨h.1, s _ _ h.2⟩
theorem TapeS.live {so : Option (HO × List (V × PyData))} {t l : Addr} {H : Hp} (h : TapeS so t l H) : H t ≠ none := by
  cases so with
  | none => exact Tape.live h
  | some q => rw [h.2]; exact fun z => nomatch z
theorem TapeS.liveL {so : Option (HO × List (V × PyData))} {t l : Addr} {H : Hp} (h : TapeS so t l H) : H l ≠ none := by
  cases so with
  | none => exact Tape.liveL h
  | some q => rw [h.1, h.2]; exact fun z => nomatch z
theorem TapeS.upd {so : Option (HO × List (V × PyData))} {t l p : Addr} {H : Hp} {o : HO} (h : TapeS so t l H) (ht : t ≠ p) (hl : l ≠ p) : TapeS so t l (upd H p o) := by
  cases so with
  | none =>
    obtain ⟨ns, n, c, t1, t2, t3, t4⟩ := h
    exact ⟨ns, n, c, by rw [upd_ne ht]; exact t1, t2, by rw [upd_ne hl]; exact t3, t4⟩
  | some q => exact ⟨h.1, by rw [upd_ne ht]; exact h.2⟩

/-! ### the environment of a def, as data -/
abbrev En := List (Option PyData)
/-- the slots that hold lists of the def's own, which it changes; the slot of the tape -/
structure Sg where
  own : List Nat
  tp : Option Nat
  fr : Bool := false
  lx : Bool := false
  so : Option (HO × List (V × PyData)) := none
/-- .. with an own object in slot 0, read as data -/
abbrev Zs (own : List Nat) (o : HO) (vds : List (V × PyData)) : Sg := ⟨own, some 0, false, false, some (o, vds)⟩
structure Ct where
  M0 : Ms
  H0 : Hp
  t : Addr
  l : Addr
def Sg.ta (Z : Sg) (t : Addr) : Option Addr := Z.tp.map fun _ => t
structure ED (K : PySem.W.Frag) (Z : Sg) (C : Ct) (M : Ms) (σ : L2.St) (ρ : En) (H : Hp) : Prop where
  rel : RA (Z.ta C.t) C.H0 H
  tap : ∀ i, Z.tp = some i → C.M0 C.t = true ∧ TapeS Z.so C.t C.l H ∧ σ[i]? = some (some (.ref C.t))
  tal : ∀ i, Z.tp = some i → C.H0 C.l ≠ none
  sub : ∀ b, C.M0 b = true → M b = true
  liv0 : Live C.M0 C.H0
  liv : Live M H
  len : σ.length = ρ.length
  imm : ∀ i d, i ∉ Z.own → ρ[i]? = some (some d) → ∃ v, σ[i]? = some (some v) ∧ Dp K (hid M H) v d
  own : ∀ i d, i ∈ Z.own → ρ[i]? = some (some d) → ∃ p xs ds, σ[i]? = some (some (.ref p)) ∧ d = .list ds ∧ H p = some (.lst xs) ∧ C.H0 p = none ∧ M p = true ∧ DpAll K (hid M H) xs ds
  ol : ∀ i p, i ∈ Z.own → σ[i]? = some (some (.ref p)) → H p ≠ none
  inj : ∀ i j p d e, i ∈ Z.own → j ∈ Z.own → i ≠ j → ρ[i]? = some (some d) → ρ[j]? = some (some e) → σ[i]? = some (some (.ref p)) → σ[j]? ≠ some (some (.ref p))
  sd : ∀ q vd, Z.so = some q → vd ∈ q.2 → Dp K (hid M H) vd.1 vd.2
theorem Sg.ta_some {Z : Sg} {t a : Addr} (h : Z.ta t = some a) : (∃ i, Z.tp = some i) ∧ t = a := by
  unfold Sg.ta at h
  cases e : Z.tp with
  | none => rw [e] at h; cases h
  | some i =>
    rw [e] at h
    cases h
    exact ⟨⟨i, rfl⟩, rfl⟩
section
variable {K : PySem.W.Frag} {Z : Sg} {C : Ct} {M : Ms} {σ : L2.St} {ρ : En} {H H' : Hp}
theorem ED.mt (E : ED K Z C M σ ρ H) : ∀ a, Z.ta C.t = some a → M a = true := fun a e => by
  obtain ⟨⟨i, h⟩, rfl⟩ := Sg.ta_some e
  exact E.sub _ (E.tap i h).1
theorem ED.hs (E : ED K Z C M σ ρ H) (r : RA (Z.ta C.t) H H') : Same (hid M H) (hid M H') := r.hid E.mt
/-- the heap goes on -/
theorem ED.go (E : ED K Z C M σ ρ H) (r : RA (Z.ta C.t) H H') (t : ∀ i, Z.tp = some i → TapeS Z.so C.t C.l H') : ED K Z C M σ ρ H' := by
  have hs := E.hs r
  have alive : ∀ b, H b ≠ none → H' b ≠ none := fun b hb z => by
    by_cases q : Z.ta C.t = some b
    · obtain ⟨⟨i, h⟩, rfl⟩ := Sg.ta_some q
      exact (t i h).live z
    · cases e : H b with
      | none => exact hb e
      | some o =>
        rw [r b o q e] at z
        cases z
  refine ⟨E.rel.trans r, fun i h => ⟨(E.tap i h).1, t i h, (E.tap i h).2.2⟩, E.tal, E.sub, E.liv0, fun b m z => ?_, E.len, fun i d n e => ?_, fun i d n e => ?_, fun i p h1 h2 => alive p (E.ol i p h1 h2), E.inj, fun q vd h1 h2 => dp_mono hs (E.sd q vd h1 h2)⟩
  · by_cases q : Z.ta C.t = some b
    · obtain ⟨⟨i, h⟩, rfl⟩ := Sg.ta_some q
      exact (t i h).live z
    · cases e : H b with
      | none => exact E.liv b m e
      | some o =>
        rw [r b o q e] at z
        cases z
  · obtain ⟨v, h1, h2⟩ := E.imm i d n e
    exact ⟨v, h1, dp_mono hs h2⟩
  · obtain ⟨p, xs, ds, h1, h2, h3, h4, h5, h6⟩ := E.own i d n e
    refine ⟨p, xs, ds, h1, h2, r p _ (fun z => ?_) h3, h4, h5, dpa_mono hs h6⟩
    obtain ⟨⟨i, h⟩, rfl⟩ := Sg.ta_some z
    exact E.liv0 _ (E.tap i h).1 h4
theorem ED.same (E : ED K Z C M σ ρ H) (s : Same H H') : ED K Z C M σ ρ H' := E.go (.of s) fun i h => (E.tap i h).2.1.same s
theorem ED.fresh (E : ED K Z C M σ ρ H) {p : Addr} (h : H p = none) : M p = false := E.liv.fresh h
/-- what is free now was free at the entry -/
theorem ED.free0 (E : ED K Z C M σ ρ H) {p : Addr} (h : H p = none) : C.H0 p = none := by
  cases e : C.H0 p with
  | none => rfl
  | some o =>
    by_cases q : Z.ta C.t = some p
    · obtain ⟨⟨i, h'⟩, rfl⟩ := Sg.ta_some q
      exact absurd h (E.tap i h').2.1.live
    · rw [E.rel p o q e] at h
      cases h
theorem ED.not_t (E : ED K Z C M σ ρ H) {p : Addr} (h : C.H0 p = none) : Z.ta C.t ≠ some p := fun z => by
  obtain ⟨⟨i, h'⟩, rfl⟩ := Sg.ta_some z
  exact E.liv0 _ (E.tap i h').1 h
/-- a plain slot is stored -/
theorem ED.set (E : ED K Z C M σ ρ H) {i : Nat} {v : V} {d : PyData} (hi : i ∉ Z.own) (ht : Z.tp ≠ some i) (hv : Dp K (Pg.hid M H) v d) : ED K Z C M (σ.set i (some v)) (ρ.set i (some d)) H := by
  refine ⟨E.rel, fun j h => ⟨(E.tap j h).1, (E.tap j h).2.1, ?_⟩, E.tal, E.sub, E.liv0, E.liv, by rw [List.length_set, List.length_set]; exact E.len, fun j e n h => ?_, fun j e n h => ?_, fun j p h1 h2 => ?_, fun j k p d1 d2 h1 h2 h3 h4 h5 h6 => ?_, E.sd⟩
  · rw [List.getElem?_set_ne (fun z => ht (by rw [h, z]))]
    exact (E.tap j h).2.2
  · by_cases hj : i = j
    · subst hj
      have hl : i < ρ.length := by
        have := (List.getElem?_eq_some_iff.mp h).1
        rw [List.length_set] at this
        exact this
      rw [List.getElem?_set_self hl] at h
      cases h
      exact ⟨v, List.getElem?_set_self (by rw [E.len]; exact hl), hv⟩
    · rw [List.getElem?_set_ne hj] at h
      rw [List.getElem?_set_ne hj]
      exact E.imm j e n h
  · have hj : i ≠ j := fun z => hi (by rw [z]; exact n)
    rw [List.getElem?_set_ne hj] at h
    rw [List.getElem?_set_ne hj]
    exact E.own j e n h
  · have hj : i ≠ j := fun z => hi (by rw [z]; exact h1)
    rw [List.getElem?_set_ne hj] at h2
    exact E.ol j p h1 h2
  · have hj : i ≠ j := fun z => hi (by rw [z]; exact h1)
    have hk : i ≠ k := fun z => hi (by rw [z]; exact h2)
    rw [List.getElem?_set_ne hj] at h4 h6
    rw [List.getElem?_set_ne hk] at h5
    rw [List.getElem?_set_ne hk]
    exact E.inj j k p d1 d2 h1 h2 h3 h4 h5 h6
/-- slots are forgotten -/
theorem ED.forget (E : ED K Z C M σ ρ H) {ρ' : En} (hl : ρ'.length = ρ.length) (h : ∀ (i : Nat) (d : PyData), ρ'[i]? = some (some d) → ρ[i]? = some (some d)) : ED K Z C M σ ρ' H :=
  ⟨E.rel, E.tap, E.tal, E.sub, E.liv0, E.liv, E.len.trans hl.symm, fun i d n e => E.imm i d n (h i d e), fun i d n e => E.own i d n (h i d e), E.ol, fun i j p d e h1 h2 h3 h4 h5 h6 => E.inj i j p d e h1 h2 h3 (h _ _ h4) (h _ _ h5) h6, E.sd⟩
/-- a new object is laid and hidden -/
theorem ED.alloc (E : ED K Z C M σ ρ H) {p : Addr} {o : HO} (h : H p = none) (N : Ms) (hN : ∀ b, N b = (M b || b == p)) (hs : Same (Pg.hid M H) (Pg.hid N (upd H p o))) (hq : Same H (upd H p o)) : ED K Z C N σ ρ (upd H p o) := by
  refine ⟨E.rel.trans (.of hq), fun i h => ⟨(E.tap i h).1, (E.tap i h).2.1.same hq, (E.tap i h).2.2⟩, E.tal, fun b m => by rw [hN, E.sub b m]; rfl, E.liv0, fun b m z => ?_, E.len, fun i d n e => ?_, fun i d n e => ?_, fun i q h1 h2 z => by rw [upd_ne (fun y => E.ol i q h1 h2 (by rw [y]; exact h))] at z; exact E.ol i q h1 h2 z, E.inj, fun q vd h1 h2 => dp_mono hs (E.sd q vd h1 h2)⟩
  · by_cases hb : b = p
    · subst hb
      rw [upd_same] at z
      cases z
    · rw [upd_ne hb] at z
      rw [hN, beq_eq_false_iff_ne.mpr hb, Bool.or_false] at m
      exact E.liv b m z
  · obtain ⟨v, h1, h2⟩ := E.imm i d n e
    exact ⟨v, h1, dp_mono hs h2⟩
  · obtain ⟨q, xs, ds, h1, h2, h3, h4, h5, h6⟩ := E.own i d n e
    exact ⟨q, xs, ds, h1, h2, hq _ _ h3, h4, by rw [hN, h5]; rfl, dpa_mono hs h6⟩
end
/-- what is hidden from an expression: all of the def's own lists, or (lx) nothing of the def's own -/
def vw (lx : Bool) (C : Ct) (M : Ms) : Ms := match lx with
  | true => C.M0
  | false => M
section
variable {K : PySem.W.Frag} {Z : Sg} {C : Ct} {M : Ms} {σ : L2.St} {ρ : En} {H H' : Hp}
theorem ED.sv (E : ED K Z C M σ ρ H) (lx : Bool) : ∀ b, vw lx C M b = true → M b = true := fun b h => by
  cases lx with
  | true => exact E.sub b h
  | false => exact h
theorem ED.v0 (E : ED K Z C M σ ρ H) (lx : Bool) : ∀ b, C.M0 b = true → vw lx C M b = true := fun b h => by
  cases lx with
  | true => exact h
  | false => exact E.sub b h
theorem ED.lv (E : ED K Z C M σ ρ H) (lx : Bool) : Live (vw lx C M) H := fun b h => E.liv b (E.sv lx b h)
theorem ED.hv (E : ED K Z C M σ ρ H) (lx : Bool) (r : RA (Z.ta C.t) H H') : Same (Pg.hid (vw lx C M) H) (Pg.hid (vw lx C M) H') := r.hid fun a e => by
  obtain ⟨⟨i, h⟩, rfl⟩ := Sg.ta_some e
  exact E.v0 lx _ (E.tap i h).1
end
/-- one more hidden address, free so far -/
def Ms.with (M : Ms) (p : Addr) : Ms := fun b => M b || b == p
theorem with_self {M : Ms} {p : Addr} : M.with p p = true := by unfold Ms.with; simp
theorem with_sub {M : Ms} {p b : Addr} (h : M b = true) : M.with p b = true := by unfold Ms.with; rw [h]; rfl
theorem with_mono {M N : Ms} {p : Addr} (h : ∀ b, M b = true → N b = true) : ∀ b, M.with p b = true → N.with p b = true := fun b hb => by
  unfold Ms.with at hb ⊢
  rw [Bool.or_eq_true] at hb ⊢
  exact hb.imp (h b) id
theorem with_ne {M : Ms} {p b : Addr} (h : b ≠ p) : M.with p b = M b := by
  unfold Ms.with
  rw [beq_eq_false_iff_ne.mpr h, Bool.or_false]
theorem hid_with {M : Ms} {p : Addr} {H : Hp} {o : HO} (h : H p = none) : Same (hid M H) (hid (M.with p) (upd H p o)) := fun b u e => by
  obtain ⟨m, e⟩ := hid_some.mp e
  have hb : b ≠ p := ne_of_none e h
  exact hid_some.mpr ⟨by rw [with_ne hb]; exact m, by rw [upd_ne hb]; exact e⟩
/-- a hidden object may be written -/
theorem hid_upd {M : Ms} {p : Addr} {H : Hp} {o : HO} (h : M p = true) : hid M (upd H p o) = hid M H := by
  funext b
  unfold hid
  by_cases hb : b = p
  · subst hb
    rw [if_pos h, if_pos h]
  · rw [upd_ne hb]
theorem same_new {H : Hp} {p : Addr} {o : HO} (h : H p = none) : Same H (upd H p o) := fun b u e => by
  rw [upd_ne (ne_of_none e h)]
  exact e
end Pg

namespace Pg
open PySem PySem.Spec PyProof.Rows L2

/-! ### readings of data -/
abbrev DE := En → (PyData → Prop) → Prop
abbrev DB := En → (Bool → Prop) → Prop
abbrev DA := En → (List PyData → Prop) → Prop
structure DEnds where
  nx : En → Prop
  rt : PyData → Prop
  bk : En → Prop := fun _ => False
  ct : En → Prop := fun _ => False
abbrev DS := DEnds → En → Prop
def tG (K : PySem.W.Frag) (Z : Sg) (g : DE) : TE := fun σ H Q => ∃ (C : Ct) (M : Ms) (ρ : En) (P : PyData → Prop), ED K Z C M σ ρ H ∧ g ρ P ∧
  ∀ d, P d → ∀ v H', RA (Z.ta C.t) H H' → ED K Z C M σ ρ H' → Dp K (hid (vw Z.lx C M) H') v d → Q v H'
def tGB (K : PySem.W.Frag) (Z : Sg) (g : DB) : TT := fun σ H Q => ∃ (C : Ct) (M : Ms) (ρ : En) (P : Bool → Prop), ED K Z C M σ ρ H ∧ g ρ P ∧
  ∀ b, P b → ∀ H', RA (Z.ta C.t) H H' → ED K Z C M σ ρ H' → Q b H'
def tGA (K : PySem.W.Frag) (Z : Sg) (g : DA) : TA := fun σ H Q => ∃ (C : Ct) (M : Ms) (ρ : En) (P : List PyData → Prop), ED K Z C M σ ρ H ∧ g ρ P ∧
  ∀ ds, P ds → ∀ vs H', RA (Z.ta C.t) H H' → ED K Z C M σ ρ H' → DpAll K (hid (vw Z.lx C M) H') vs ds → Q vs H'
/-- a new list -/
def tGF (K : PySem.W.Frag) (Z : Sg) (g : DA) : TE := fun σ H Q => ∃ (C : Ct) (M : Ms) (ρ : En) (P : List PyData → Prop), ED K Z C M σ ρ H ∧ g ρ P ∧
  ∀ ds, P ds → ∀ p xs H', RA (Z.ta C.t) H H' → ED K Z C M σ ρ H' → ED K Z C (M.with p) σ ρ H' → Same (hid M H) (hid (M.with p) H') → H p = none → H' p = some (.lst xs) → DpAll K (hid ((vw Z.lx C M).with p) H') xs ds → Q (.ref p) H'
/-- a list or a tuple that is only looked at -/
def SqA (K : PySem.W.Frag) (H : Hp) (tu : Bool) (p : Addr) (xs : List V) : Prop := if tu = true then SqT K H p xs else SqL K H p xs
def tGQ (K : PySem.W.Frag) (Z : Sg) (tu : Bool) (g : DA) : TE := fun σ H Q => ∃ (C : Ct) (M : Ms) (ρ : En) (P : List PyData → Prop), ED K Z C M σ ρ H ∧ g ρ P ∧
  ∀ ds, P ds → ∀ p xs H', RA (Z.ta C.t) H H' → ED K Z C M σ ρ H' → SqA K H' tu p xs → DpAll K (hid (vw Z.lx C M) H') xs ds → Q (.ref p) H'
/-- v is a new list -/
def FreshL (K : PySem.W.Frag) (M : Ms) (H H' : Hp) (v : V) (d : PyData) : Prop := ∃ p xs es, v = .ref p ∧ H p = none ∧ d = .list es ∧ H' p = some (.lst xs) ∧ DpAll K (hid (M.with p) H') xs es
structure Thn (K : PySem.W.Frag) (Z : Sg) (C : Ct) (M : Ms) (H : Hp) (E : DEnds) (D : Ends) : Prop where
  nx : ∀ ρ', E.nx ρ' → ∀ M' σ' H', Same (hid M H) (hid M' H') → ED K Z C M' σ' ρ' H' → D.nx σ' H'
  rt : ∀ d, E.rt d → ∀ v H', RA (Z.ta C.t) C.H0 H' → (∀ i, Z.tp = some i → TapeS Z.so C.t C.l H') → Dp K (hid C.M0 H') v d → (Z.fr = true → FreshL K C.M0 C.H0 H' v d) → D.rt v H'
  bk : ∀ ρ', E.bk ρ' → ∀ M' σ' H', Same (hid M H) (hid M' H') → ED K Z C M' σ' ρ' H' → D.bk σ' H'
  ct : ∀ ρ', E.ct ρ' → ∀ M' σ' H', Same (hid M H) (hid M' H') → ED K Z C M' σ' ρ' H' → D.ct σ' H'
def tS (K : PySem.W.Frag) (Z : Sg) (g : DS) : TS := fun D σ H => ∃ (C : Ct) (M : Ms) (ρ : En) (E : DEnds), ED K Z C M σ ρ H ∧ g E ρ ∧ Thn K Z C M H E D
theorem Thn.step {K : PySem.W.Frag} {Z : Sg} {C : Ct} {M M1 : Ms} {H H1 : Hp} {E : DEnds} {D : Ends} (T : Thn K Z C M H E D) (s : Same (hid M H) (hid M1 H1)) : Thn K Z C M1 H1 E D :=
  ⟨fun ρ' e M' σ' H' q => T.nx ρ' e M' σ' H' (s.trans q), T.rt, fun ρ' e M' σ' H' q => T.bk ρ' e M' σ' H' (s.trans q), fun ρ' e M' σ' H' q => T.ct ρ' e M' σ' H' (s.trans q)⟩

section
variable {X : Cx} {e : Expr} {t t' : TE}
theorem pe_wk (h : PE X e t) (k : ∀ σ H Q, t' σ H Q → t σ H Q) : PE X e t' := ⟨fun pins s σ H Q I q => h.run pins s σ H Q I (k _ _ _ q)⟩
theorem pt_wk {t t' : TT} (h : PT X e t) (k : ∀ σ H Q, t' σ H Q → t σ H Q) : PT X e t' := ⟨fun pins s σ H Q I q => h.run pins s σ H Q I (k _ _ _ q)⟩
theorem pw_wk {t t' : TT} (h : PW X e t) (k : ∀ σ H Q, t' σ H Q → t σ H Q) : PW X e t' := ⟨fun wh pins s σ H Q I q => h.run wh pins s σ H Q I (k _ _ _ q)⟩
theorem pa_wk {es : List Expr} {t t' : TA} (h : PA X es t) (k : ∀ σ H Q, t' σ H Q → t σ H Q) : PA X es t' := ⟨fun pos pins s σ H Q I q => h.run pos pins s σ H Q I (k _ _ _ q)⟩
theorem ps_wk {st : Stmt} {t t' : TS} (h : PS X st t) (k : ∀ D σ H, t' D σ H → t D σ H) : PS X st t' := ⟨fun pins s σ H D I q => h.run pins s σ H D I (k _ _ _ q)⟩
theorem pss_wk {st : List Stmt} {t t' : TS} (h : PSs X st t) (k : ∀ D σ H, t' D σ H → t D σ H) : PSs X st t' := ⟨fun pins s σ H D I q => h.run pins s σ H D I (k _ _ _ q)⟩
theorem pi_wk {tg it : Expr} {t t' : TI} (h : PI X tg it t) (k : ∀ σ H R, t' σ H R → t σ H R) : PI X tg it t' := ⟨fun pins s σ H R I q => h.run pins s σ H R I (k _ _ _ q)⟩
end

/-! ### names, constants -/
section
variable {X : Cx} {Z : Sg} {pos : Pos}
abbrev PD (X : Cx) (Z : Sg) (e : Expr) (g : DE) : Prop := PE X e (tG X.K Z g)
abbrev PDB (X : Cx) (Z : Sg) (e : Expr) (g : DB) : Prop := PT X e (tGB X.K Z g)
abbrev PDA (X : Cx) (Z : Sg) (es : List Expr) (g : DA) : Prop := PA X es (tGA X.K Z g)
abbrev PDF (X : Cx) (Z : Sg) (e : Expr) (g : DA) : Prop := PE X e (tGF X.K Z g)
abbrev PDQ (X : Cx) (Z : Sg) (e : Expr) (tu : Bool) (g : DA) : Prop := PE X e (tGQ X.K Z tu g)
abbrev PDS (X : Cx) (Z : Sg) (st : Stmt) (g : DS) : Prop := PS X st (tS X.K Z g)
abbrev PDSs (X : Cx) (Z : Sg) (st : List Stmt) (g : DS) : Prop := PSs X st (tS X.K Z g)
@[simp] def gV (i : Nat) : DE := fun ρ P => ∃ d, ρ[i]? = some (some d) ∧ P d
@[simp] def gC (d : PyData) : DE := fun _ P => P d
theorem dv (i : Nat) {x : Str} (hO : i ∉ Z.own := by first | decide | (dsimp only [Zs]; decide)) (hN : X.N[i]? = some x := by rfl) (hv : Vis X.env.scope x := by first | exact Or.inl rfl | exact Or.inr (Or.inl rfl) | exact Or.inr (Or.inr rfl)) (hd : (x == ("__debug__" : Str)) = false := by decide)
    (hcd : (x == ("__classdict__" : Str)) = false := by decide) : PD X Z (.Name x pos) (gV i) := by
  refine pe_wk (pe_var hN hv hd hcd) fun σ H Q ⟨C, M, ρ, P, E, ⟨d, e, p⟩, k⟩ => ?_
  obtain ⟨v, h1, h2⟩ := E.imm i d hO e
  exact ⟨v, h1, k d p v H .refl E (dp_mono (hid_sub (E.sv _)) h2)⟩
theorem de_int {i : Int} {j : Nat} : PD X Z (.Constant (.int i) j pos) (gC (.int i)) := pe_wk pe_int fun σ H Q ⟨C, M, ρ, P, E, p, k⟩ => k _ p _ H .refl E (.int i)
theorem de_bl {b : Bool} {j : Nat} : PD X Z (.Constant (.bool b) j pos) (gC (.bool b)) := pe_wk pe_bl fun σ H Q ⟨C, M, ρ, P, E, p, k⟩ => k _ p _ H .refl E (.bl b)
theorem de_non {j : Nat} : PD X Z (.Constant .none j pos) (gC .none) := pe_wk pe_non fun σ H Q ⟨C, M, ρ, P, E, p, k⟩ => k _ p _ H .refl E .non
theorem de_str {x : Str} {j : Nat} : PD X Z (.Constant (.str x) j pos) (gC (.str x)) := pe_wk pe_str fun σ H Q ⟨C, M, ρ, P, E, p, k⟩ => k _ p _ H .refl E (.str x)
/-- a module's constant: a number -/
theorem de_glob {x : Str} {i : Int} {u : Value} (hg : Gl X x) (hm : X.mg x = some u) (r : RelV (.int i) u) (hd : (x == ("__debug__" : Str)) = false := by decide) : PD X Z (.Name x pos) (gC (.int i)) :=
  pe_wk (pe_glob hg hm r hd) fun σ H Q ⟨C, M, ρ, P, E, p, k⟩ => k _ p _ H .refl E (.int i)

/-! ### two places, one place -/
@[simp] def g2 (op : PyData → PyData → (PyData → Prop) → Prop) (ga gb : DE) : DE := fun ρ P => ga ρ fun x => gb ρ fun y => op x y P
@[simp] def g1 (op : PyData → (PyData → Prop) → Prop) (ga : DE) : DE := fun ρ P => ga ρ fun x => op x P
def Op2 (K : PySem.W.Frag) (r : R2) (op : PyData → PyData → (PyData → Prop) → Prop) : Prop := ∀ (M : Ms) (H : Hp) (v w : V) (x y : PyData) (P : PyData → Prop) (Q : VK), Live M H → Dp K (hid M H) v x → Dp K (hid M H) w y → op x y P →
  (∀ z, P z → ∀ u H', Same H H' → Dp K (hid M H') u z → Q u H') → r v w H Q
def Op1 (K : PySem.W.Frag) (r : V → Hp → VK → Prop) (op : PyData → (PyData → Prop) → Prop) : Prop := ∀ (M : Ms) (H : Hp) (v : V) (x : PyData) (P : PyData → Prop) (Q : VK), Live M H → Dp K (hid M H) v x → op x P →
  (∀ z, P z → ∀ u H', Same H H' → Dp K (hid M H') u z → Q u H') → r v H Q
def OpN (K : PySem.W.Frag) (r : List V → Hp → VK → Prop) (op : List PyData → (PyData → Prop) → Prop) : Prop := ∀ (M : Ms) (H : Hp) (vs : List V) (ds : List PyData) (P : PyData → Prop) (Q : VK), Live M H → DpAll K (hid M H) vs ds → op ds P →
  (∀ z, P z → ∀ u H', Same H H' → Dp K (hid M H') u z → Q u H') → r vs H Q
section
variable {K : PySem.W.Frag} {op : PyData → PyData → (PyData → Prop) → Prop} {r : R2} {ga gb : DE} {a b : Expr}
theorem tOp_of (h : Op2 K r op) {σ : L2.St} {H : Hp} {Q : VK} : tG K Z (g2 op ga gb) σ H Q → tOp r (tG K Z ga) (tG K Z gb) σ H Q := fun ⟨C, M, ρ, P, E, hg, k⟩ =>
  ⟨C, M, ρ, _, E, hg, fun x hx v H1 r1 E1 dv => ⟨C, M, ρ, _, E1, hx, fun y hy w H2 r2 E2 dw => h (vw Z.lx C M) H2 v w x y P _ (E2.lv _) (dp_mono (E1.hv _ r2) dv) dw hy fun z hz u H3 s3 du => k z hz u H3 (r1.trans (r2.trans (.of s3))) (E2.same s3) du⟩⟩
theorem de_op {o : Operator} (ho : OpR X (binaryOp o) r) (h : Op2 X.K r op) (ha : PD X Z a ga) (hb : PD X Z b gb) : PD X Z (.BinOp a o b pos) (g2 op ga gb) := pe_wk (pe_op ho ha hb) fun _ _ _ => tOp_of h
theorem de_cmp {o : CmpOp} (ho : OpR X (compareOp o) r) (h : Op2 X.K r op) (ha : PD X Z a ga) (hb : PD X Z b gb) (hm : behindInMarks o b = false) : PD X Z (.Compare a [o] [b] pos) (g2 op ga gb) := pe_wk (pe_cmpR ho ha hb hm) fun _ _ _ => tOp_of h
theorem de_ix (ho : IxR X r) (h : Op2 X.K r op) (ha : PD X Z a ga) (hb : PD X Z b gb) (hs : PlainIx b := by intro _ _; rfl) : PD X Z (.Subscript a b pos) (g2 op ga gb) := pe_wk (pe_ix ho ha hb hs) fun _ _ _ => tOp_of h
/-- as a test -/
@[simp] def gT (g : DE) : DB := fun ρ P => g ρ fun d => ∃ b, d = .bool b ∧ P b
theorem tTest_of {g : DE} {σ : L2.St} {H : Hp} {Q : Bool → Hp → Prop} (t : TE) (h : ∀ Q, tG K Z g σ H Q → t σ H Q) : tGB K Z (gT g) σ H Q → tTest t σ H Q := fun ⟨C, M, ρ, P, E, hg, k⟩ => h _ ⟨C, M, ρ, _, E, hg, fun d ⟨b, e, p⟩ v H1 r1 E1 dv => by
  subst e
  rw [dp_bl dv]
  exact ⟨b, rfl, k b p H1 r1 E1⟩⟩
theorem db_cmp {o : CmpOp} (ho : OpR X (compareOp o) r) (h : Op2 X.K r op) (ha : PD X Z a ga) (hb : PD X Z b gb) (hm : behindInMarks o b = false) : PDB X Z (.Compare a [o] [b] pos) (gT (g2 op ga gb)) :=
  pt_wk (pt_cmpR ho ha hb hm) fun _ _ _ => tTest_of _ fun _ => tOp_of h
theorem db_val {g : DE} (h : PD X Z a g) (he : ∀ whole, isTrue a X.env whole = (do let v ← whole; standAt a.pos; holding [v] (truthy v)) := by intro _; rfl) : PDB X Z a (gT g) :=
  pt_wk (pt_val h he) fun σ H Q q => by
    obtain ⟨C, M, ρ, P, E, hg, k⟩ := q
    refine ⟨C, M, ρ, _, E, hg, fun d ⟨b, e, p⟩ v H1 r1 E1 dv => ?_⟩
    subst e
    rw [dp_bl dv]
    exact ⟨b, rfl, k b p H1 r1 E1⟩
end

/-! ### and, or, not, if -/
section
variable {K : PySem.W.Frag} {ga gb : DE} {a b c : Expr} {rest : List Expr} {t u : DB}
@[simp] def gAnd (t u : DB) : DB := fun ρ P => t ρ fun x => if x = true then u ρ P else P false
@[simp] def gOr (t u : DB) : DB := fun ρ P => t ρ fun x => if x = true then P true else u ρ P
@[simp] def gNot (t : DB) : DB := fun ρ P => t ρ fun x => P (!x)
abbrev PDW (X : Cx) (Z : Sg) (e : Expr) (g : DB) : Prop := PW X e (tGB X.K Z g)
theorem dw_and1 (h : PDB X Z a t) : PDW X Z (.BoolOp .And [a] pos) t := pw_and1 h
theorem dw_or1 (h : PDB X Z a t) : PDW X Z (.BoolOp .Or [a] pos) t := pw_or1 h
theorem dw_and (h : PDB X Z a t) (h2 : PDW X Z (.BoolOp .And (b :: rest) pos) u) : PDW X Z (.BoolOp .And (a :: b :: rest) pos) (gAnd t u) :=
  pw_wk (pw_and h h2) fun σ H Q ⟨C, M, ρ, P, E, hg, k⟩ => ⟨C, M, ρ, _, E, hg, fun x hx H1 r1 E1 => by
    cases x with
    | true => exact ⟨C, M, ρ, P, E1, hx, fun y hy H2 r2 E2 => k y hy H2 (r1.trans r2) E2⟩
    | false => exact k false hx H1 r1 E1⟩
theorem dw_or (h : PDB X Z a t) (h2 : PDW X Z (.BoolOp .Or (b :: rest) pos) u) : PDW X Z (.BoolOp .Or (a :: b :: rest) pos) (gOr t u) :=
  pw_wk (pw_or h h2) fun σ H Q ⟨C, M, ρ, P, E, hg, k⟩ => ⟨C, M, ρ, _, E, hg, fun x hx H1 r1 E1 => by
    cases x with
    | true => exact k true hx H1 r1 E1
    | false => exact ⟨C, M, ρ, P, E1, hx, fun y hy H2 r2 E2 => k y hy H2 (r1.trans r2) E2⟩⟩
theorem db_w (h : PDW X Z a t) : PDB X Z a t := PW.pt h
theorem db_not (h : PDB X Z a t) : PDB X Z (.UnaryOp .Not a pos) (gNot t) :=
  pt_wk (pt_not h) fun σ H Q ⟨C, M, ρ, P, E, hg, k⟩ => ⟨C, M, ρ, _, E, hg, fun x hx H1 r1 E1 => k _ hx H1 r1 E1⟩
/-- as values, all but the last True or False -/
@[simp] def gAndV (ga gb : DE) : DE := fun ρ P => ga ρ fun x => ∃ b, x = .bool b ∧ if b = true then gb ρ P else P (.bool false)
@[simp] def gOrV (ga gb : DE) : DE := fun ρ P => ga ρ fun x => ∃ b, x = .bool b ∧ if b = true then P (.bool true) else gb ρ P
@[simp] def gNotV (ga : DE) : DE := fun ρ P => ga ρ fun x => ∃ b, x = .bool b ∧ P (.bool (!b))
theorem de_one {o : BoolOp} (h : PD X Z a ga) : PD X Z (.BoolOp o [a] pos) ga := pe_one h
theorem de_and (h : PD X Z a ga) (h2 : PD X Z (.BoolOp .And (b :: rest) pos) gb) : PD X Z (.BoolOp .And (a :: b :: rest) pos) (gAndV ga gb) :=
  pe_wk (pe_and h h2) fun σ H Q ⟨C, M, ρ, P, E, hg, k⟩ => ⟨C, M, ρ, _, E, hg, fun x ⟨b, e, hx⟩ v H1 r1 E1 dv => by
    subst e
    refine ⟨b, dp_bl dv, ?_⟩
    cases b with
    | true => exact ⟨C, M, ρ, P, E1, hx, fun y hy w H2 r2 E2 => k y hy w H2 (r1.trans r2) E2⟩
    | false => exact k _ hx _ H1 r1 E1 (.bl false)⟩
theorem de_or (h : PD X Z a ga) (h2 : PD X Z (.BoolOp .Or (b :: rest) pos) gb) : PD X Z (.BoolOp .Or (a :: b :: rest) pos) (gOrV ga gb) :=
  pe_wk (pe_or h h2) fun σ H Q ⟨C, M, ρ, P, E, hg, k⟩ => ⟨C, M, ρ, _, E, hg, fun x ⟨b, e, hx⟩ v H1 r1 E1 dv => by
    subst e
    refine ⟨b, dp_bl dv, ?_⟩
    cases b with
    | true => exact k _ hx _ H1 r1 E1 (.bl true)
    | false => exact ⟨C, M, ρ, P, E1, hx, fun y hy w H2 r2 E2 => k y hy w H2 (r1.trans r2) E2⟩⟩
theorem de_not (h : PD X Z a ga) : PD X Z (.UnaryOp .Not a pos) (gNotV ga) :=
  pe_wk (pe_not h) fun σ H Q ⟨C, M, ρ, P, E, hg, k⟩ => ⟨C, M, ρ, _, E, hg, fun x ⟨b, e, hx⟩ v H1 r1 E1 dv => by
    subst e
    exact ⟨b, dp_bl dv, k _ hx _ H1 r1 E1 (.bl _)⟩⟩
/-- not of a test, as a value -/
@[simp] def gIf (t : DB) (ga gb : DE) : DE := fun ρ P => t ρ fun x => if x = true then ga ρ P else gb ρ P
theorem de_if (h : PDB X Z c t) (ha : PD X Z a ga) (hb : PD X Z b gb) : PD X Z (.IfExp c a b pos) (gIf t ga gb) :=
  pe_wk (pe_ifExp h ha hb) fun σ H Q ⟨C, M, ρ, P, E, hg, k⟩ => ⟨C, M, ρ, _, E, hg, fun x hx H1 r1 E1 => by
    cases x with
    | true => exact ⟨C, M, ρ, P, E1, hx, fun y hy w H2 r2 E2 => k y hy w H2 (r1.trans r2) E2⟩
    | false => exact ⟨C, M, ρ, P, E1, hx, fun y hy w H2 r2 E2 => k y hy w H2 (r1.trans r2) E2⟩⟩
@[simp] def gIfB (t ga gb : DB) : DB := fun ρ P => t ρ fun x => if x = true then ga ρ P else gb ρ P
/-- a chain of two comparisons -/
@[simp] def gChain (op op' : PyData → PyData → (PyData → Prop) → Prop) (ga gb gc : DE) : DE := fun ρ P => ga ρ fun x => gb ρ fun y => op x y fun z => ∃ b, z = .bool b ∧ if b = true then gc ρ fun w => op' y w P else P (.bool false)
variable {r r' : R2} {op op' : PyData → PyData → (PyData → Prop) → Prop} {gc : DE}
theorem tChain_of {K : PySem.W.Frag} (h : Op2 K r op) (h' : Op2 K r' op') {σ : L2.St} {H : Hp} {Q : VK} : tG K Z (gChain op op' ga gb gc) σ H Q → tChain r r' (tG K Z ga) (tG K Z gb) (tG K Z gc) σ H Q := fun ⟨C, M, ρ, P, E, hg, k⟩ =>
  ⟨C, M, ρ, _, E, hg, fun x hx v H1 r1 E1 dv => ⟨C, M, ρ, _, E1, hx, fun y hy w H2 r2 E2 dw => h (vw Z.lx C M) H2 v w x y _ _ (E2.lv _) (dp_mono (E1.hv _ r2) dv) dw hy fun z ⟨b, e, hz⟩ u H3 s3 du => by
    subst e
    refine ⟨b, dp_bl du, ?_⟩
    have E3 := E2.same s3
    cases b with
    | true =>
      exact ⟨C, M, ρ, _, E3, hz, fun y' hy' w' H4 r4 E4 dw' => h' (vw Z.lx C M) H4 w w' y y' P _ (E4.lv _) (dp_mono ((E2.hv _ (.of s3)).trans (E3.hv _ r4)) dw) dw' hy' fun z' hz' u' H5 s5 du' =>
        k z' hz' u' H5 (r1.trans (r2.trans ((RA.of s3).trans (r4.trans (.of s5))))) (E4.same s5) du'⟩
    | false => exact k _ hz _ H3 (r1.trans (r2.trans (.of s3))) E3 (.bl false)⟩⟩
theorem de_chain {o o' : CmpOp} (ho : OpR X (compareOp o) r) (ho' : OpR X (compareOp o') r') (h : Op2 X.K r op) (h' : Op2 X.K r' op') (ha : PD X Z a ga) (hb : PD X Z b gb) (hc : PD X Z c gc)
    (hm : lastMarks [o, o'] [b, c] = false := by with_unfolding_all rfl) : PD X Z (.Compare a [o, o'] [b, c] pos) (gChain op op' ga gb gc) := pe_wk (pe_chain ho ho' ha hb hc hm) fun _ _ _ => tChain_of h h'
theorem db_chain {o o' : CmpOp} (ho : OpR X (compareOp o) r) (ho' : OpR X (compareOp o') r') (h : Op2 X.K r op) (h' : Op2 X.K r' op') (ha : PD X Z a ga) (hb : PD X Z b gb) (hc : PD X Z c gc)
    (hm : lastMarks [o, o'] [b, c] = false := by with_unfolding_all rfl) : PDB X Z (.Compare a [o, o'] [b, c] pos) (gT (gChain op op' ga gb gc)) := pt_wk (pt_chain ho ho' ha hb hc hm) fun _ _ _ => tTest_of _ fun _ => tChain_of h h'
end

/-! ### arguments, displays, calls -/
section
variable {K : PySem.W.Frag} {e : Expr} {es : List Expr} {ge : DE} {gs : DA}
@[simp] def gaNil : DA := fun _ P => P []
@[simp] def gaCons (g : DE) (gs : DA) : DA := fun ρ P => g ρ fun d => gs ρ fun ds => P (d :: ds)
theorem ga_nil : PDA X Z [] gaNil := pa_wk pa_nil fun σ H Q ⟨C, M, ρ, P, E, hg, k⟩ => k [] hg [] H .refl E .nil
theorem tCons_of {te : TE} {ts : TA} (h : ∀ σ H Q, tG K Z ge σ H Q → te σ H Q) (h2 : ∀ σ H Q, tGA K Z gs σ H Q → ts σ H Q) : ∀ σ H Q, tGA K Z (gaCons ge gs) σ H Q → tCons te ts σ H Q := fun σ H Q ⟨C, M, ρ, P, E, hg, k⟩ =>
  h _ _ _ ⟨C, M, ρ, _, E, hg, fun d hd v H1 r1 E1 dv => h2 _ _ _ ⟨C, M, ρ, _, E1, hd, fun ds hds vs H2 r2 E2 dvs => k _ hds _ H2 (r1.trans r2) E2 (.cons (dp_mono (E1.hv _ r2) dv) dvs)⟩⟩
theorem ga_cons (h : PD X Z e ge) (h2 : PDA X Z es gs) (hs : starEach (e :: es) X.env = (false, eval e X.env) :: starEach es X.env := by rfl) : PDA X Z (e :: es) (gaCons ge gs) :=
  pa_wk (pa_cons h h2 hs) (tCons_of (fun _ _ _ q => q) fun _ _ _ q => q)
@[simp] def gTup (gs : DA) : DE := fun ρ P => gs ρ fun ds => ds.length ≤ 100000 ∧ P (.tuple ds)
@[simp] def gLst (gs : DA) : DA := fun ρ P => gs ρ fun ds => ds.length ≤ 100000 ∧ P ds
theorem sz {n : Nat} (h : n ≤ 100000) : n ≤ sizeLine := Nat.le_trans h (by decide)
theorem szlt {n : Nat} (h : n < 100000) : n < sizeLine := Nat.lt_of_lt_of_le h (by decide)
theorem de_tup {k : Nat} (h : PDA X Z es gs) : PD X Z (.Tuple es k pos) (gTup gs) := pe_wk (pe_tup h) fun σ H Q ⟨C, M, ρ, P, E, hg, k⟩ =>
  ⟨C, M, ρ, _, E, hg, fun ds ⟨hl, p⟩ vs H1 r1 E1 dvs => ⟨by rw [dpa_len dvs]; exact sz hl, fun a ha => by
    have s2 : Same H1 (upd H1 a (.tup vs)) := same_new ha
    exact k _ p _ _ (r1.trans (.of s2)) (E1.same s2) (.tup (.inl (.inl (hid_some.mpr ⟨(E1.lv _).fresh ha, upd_same⟩))) (dpa_mono (E1.hv _ (.of s2)) dvs))⟩⟩
/-- what makes a new list -/
theorem tGF_new {C : Ct} {M : Ms} {σ : L2.St} {ρ : En} {H : Hp} {P : List PyData → Prop} {Q : VK} (E : ED K Z C M σ ρ H)
    (k : ∀ ds, P ds → ∀ p xs H', RA (Z.ta C.t) H H' → ED K Z C M σ ρ H' → ED K Z C (M.with p) σ ρ H' → Same (hid M H) (hid (M.with p) H') → H p = none → H' p = some (.lst xs) → DpAll K (hid ((vw Z.lx C M).with p) H') xs ds → Q (.ref p) H')
    {ds : List PyData} (hP : P ds) {H1 : Hp} (r1 : RA (Z.ta C.t) H H1) (E1 : ED K Z C M σ ρ H1) {xs : List V} (dvs : DpAll K (hid (vw Z.lx C M) H1) xs ds) {a : Addr} (ha : H1 a = none) : Q (.ref a) (upd H1 a (.lst xs)) := by
  have s2 : Same H1 (upd H1 a (.lst xs)) := same_new ha
  have sw : Same (hid M H1) (hid (M.with a) (upd H1 a (.lst xs))) := hid_with ha
  refine k ds hP a xs _ (r1.trans (.of s2)) (E1.same s2) (E1.alloc ha _ (fun b => rfl) sw s2) ((E.hs r1).trans sw) ?_ upd_same (dpa_mono (hid_with ha) dvs)
  cases e : H a with
  | none => rfl
  | some o =>
    by_cases q : Z.ta C.t = some a
    · obtain ⟨⟨i, h'⟩, e'⟩ := Sg.ta_some q
      subst e'
      exact absurd ha (E1.tap i h').2.1.live
    · rw [r1 a o q e] at ha
      cases ha
theorem df_lst (h : PDA X Z es gs) : PDF X Z (.List es pos) (gLst gs) := pe_wk (pe_lst h) fun σ H Q ⟨C, M, ρ, P, E, hg, k⟩ =>
  ⟨C, M, ρ, _, E, hg, fun ds ⟨hl, p⟩ vs H1 r1 E1 dvs => ⟨by rw [dpa_len dvs]; exact sz hl, fun a ha => tGF_new E k p r1 E1 dvs ha⟩⟩
/-- a new list as a value -/
@[simp] def gF (g : DA) : DE := fun ρ P => g ρ fun ds => P (.list ds)
theorem with_le {M : Ms} {p : Addr} {H : Hp} : Same (hid (M.with p) H) (hid M H) := hid_sub fun _ m => with_sub m
theorem de_F {g : DA} (h : PDF X Z e g) : PD X Z e (gF g) := pe_wk h fun σ H Q ⟨C, M, ρ, P, E, hg, k⟩ =>
  ⟨C, M, ρ, _, E, hg, fun ds p a xs H' r1 E1 _ _ hn ha dvs => k _ p _ H' r1 E1 (.lst (.inl (.inl (hid_some.mpr ⟨(E.lv _).fresh hn, ha⟩))) (dpa_mono with_le dvs))⟩
/-- a value, looked at -/
@[simp] def gQL (g : DE) : DA := fun ρ P => g ρ fun d => ∃ ds, d = .list ds ∧ P ds
@[simp] def gQT (g : DE) : DA := fun ρ P => g ρ fun d => ∃ ds, d = .tuple ds ∧ P ds
theorem dq_list (h : PD X Z e ge) : PDQ X Z e false (gQL ge) := pe_wk h fun σ H Q ⟨C, M, ρ, P, E, hg, k⟩ =>
  ⟨C, M, ρ, _, E, hg, fun d ⟨ds, e, p⟩ v H1 r1 E1 dv => by
    subst e
    obtain ⟨a, xs, rfl, h1, h2⟩ := dp_list dv
    exact k ds p a xs H1 r1 E1 ((hid_le _ H1).seq h1) h2⟩
theorem dq_tup (h : PD X Z e ge) : PDQ X Z e true (gQT ge) := pe_wk h fun σ H Q ⟨C, M, ρ, P, E, hg, k⟩ =>
  ⟨C, M, ρ, _, E, hg, fun d ⟨ds, e, p⟩ v H1 r1 E1 dv => by
    subst e
    obtain ⟨a, xs, rfl, h1, h2⟩ := dp_tuple dv
    exact k ds p a xs H1 r1 E1 (same_sqT (hid_le _ H1) h1) h2⟩
/-- a list of the def's own, looked at -/
@[simp] def gO (i : Nat) : DA := fun ρ P => ∃ ds, ρ[i]? = some (some (.list ds)) ∧ P ds
theorem dqo (i : Nat) {x : Str} (hO : i ∈ Z.own := by first | decide | (dsimp only [Zs]; decide)) (hN : X.N[i]? = some x := by rfl) (hv : Vis X.env.scope x := by first | exact Or.inl rfl | exact Or.inr (Or.inl rfl) | exact Or.inr (Or.inr rfl)) (hd : (x == ("__debug__" : Str)) = false := by decide)
    (hcd : (x == ("__classdict__" : Str)) = false := by decide) : PDQ X Z (.Name x pos) false (gO i) := by
  refine pe_wk (pe_var hN hv hd hcd) fun σ H Q ⟨C, M, ρ, P, E, ⟨ds, e, p⟩, k⟩ => ?_
  obtain ⟨a, xs, ds', h1, h2, h3, h4, h5, h6⟩ := E.own i _ hO e
  cases h2
  exact ⟨_, h1, k ds p a xs H .refl E (.of h3) (dpa_mono (hid_sub (E.sv _)) h6)⟩
/-- a built-in's call -/
@[simp] def gB (op : List PyData → (PyData → Prop) → Prop) (gs : DA) : DE := fun ρ P => gs ρ fun ds => op ds P
theorem tCB_of {r : List V → Hp → VK → Prop} {op : List PyData → (PyData → Prop) → Prop} (h : OpN K r op) {σ : L2.St} {H : Hp} {Q : VK} : tG K Z (gB op gs) σ H Q → tCB r (tGA K Z gs) σ H Q := fun ⟨C, M, ρ, P, E, hg, k⟩ =>
  ⟨C, M, ρ, _, E, hg, fun ds hds vs H1 r1 E1 dvs => h (vw Z.lx C M) H1 vs ds P _ (E1.lv _) dvs hds fun z hz u H2 s2 du => k z hz u H2 (r1.trans (.of s2)) (E1.same s2) du⟩
theorem de_callB {id : String} {x : Str} {p : Pos} {r : List V → Hp → VK → Prop} {op : List PyData → (PyData → Prop) → Prop} (hc : CallR X (.builtin id) r) (h : OpN X.K r op) (hg : Gl X x) (hm : X.mg x = none) (hv : bootBuiltins x = some (.builtin id)) (ha : PDA X Z (e :: es) gs) (hn : x ≠ "__name__" := by decide) (hdb : (x == ("__debug__" : Str)) = false := by decide)
    (he : starEach (e :: es) X.env = (false, eval e X.env) :: starEach es X.env := by rfl) (hpl : (backTo pos (starEach es X.env)).any (·.1) = false := by rfl) : PD X Z (.Call (.Name x p) (e :: es) [] pos) (gB op gs) := pe_wk (pe_callB hc hg hm hv ha hn hdb he hpl) fun _ _ _ => tCB_of h
theorem de_callTy {T : String} {x : Str} {p : Pos} {r : List V → Hp → VK → Prop} {op : List PyData → (PyData → Prop) → Prop} (hc : CallR X (.type T) r) (h : OpN X.K r op) (hg : Gl X x) (hm : X.mg x = none) (hv : bootBuiltins x = some (.type T)) (ha : PDA X Z (e :: es) gs) (hn : x ≠ "__name__" := by decide) (hdb : (x == ("__debug__" : Str)) = false := by decide)
    (he : starEach (e :: es) X.env = (false, eval e X.env) :: starEach es X.env := by rfl) (hpl : (backTo pos (starEach es X.env)).any (·.1) = false := by rfl) : PD X Z (.Call (.Name x p) (e :: es) [] pos) (gB op gs) := pe_wk (pe_callTy hc hg hm hv ha hn hdb he hpl) fun _ _ _ => tCB_of h
/-- a def's promise: from data to data -/
def spD (K : PySem.W.Frag) (T : List PyData → (PyData → Prop) → Prop) : Sp := fun vs H Q _ => ∃ (M : Ms) (ds : List PyData) (P : PyData → Prop), Live M H ∧ DpAll K (hid M H) vs ds ∧ T ds P ∧ ∀ d, P d → ∀ v H', Same H H' → Dp K (hid M H') v d → Q v H'
/-- .. to a new list -/
def spF (K : PySem.W.Frag) (T : List PyData → (PyData → Prop) → Prop) : Sp := fun vs H Q _ => ∃ (M : Ms) (ds : List PyData) (P : PyData → Prop), Live M H ∧ DpAll K (hid M H) vs ds ∧ T ds P ∧ ∀ d, P d → ∀ v H', Same H H' → Dp K (hid M H') v d → FreshL K M H H' v d → Q v H'
theorem spF_of {K : PySem.W.Frag} {T : List PyData → (PyData → Prop) → Prop} {vs : List V} {H : Hp} {Q : VK} {E : XK} (h : spD K T vs H Q E) : spF K T vs H Q E := by
  obtain ⟨M, ds, P, h1, h2, h3, h4⟩ := h
  exact ⟨M, ds, P, h1, h2, h3, fun d hd v H' s dv _ => h4 d hd v H' s dv⟩
/-- a def of the law that draws from the tape, its first argument -/
def spT (K : PySem.W.Frag) (T : List PyData → (PyData → Prop) → Prop) : Sp := fun vs H Q _ => ∃ (M : Ms) (t l : Addr) (vs' : List V) (ds : List PyData) (P : PyData → Prop), vs = .ref t :: vs' ∧ M t = true ∧ Tape t l H ∧ Live M H ∧ DpAll K (hid M H) vs' ds ∧ T ds P ∧
  ∀ d, P d → ∀ v H', RA (some t) H H' → Tape t l H' → Dp K (hid M H') v d → Q v H'
theorem tCall_of {T : List PyData → (PyData → Prop) → Prop} {E0' : XK} {σ : L2.St} {H : Hp} {Q : VK} : tG K Z (gB T gs) σ H Q → tCall (spD K T) [] E0' (tGA K Z gs) σ H Q := fun ⟨C, M, ρ, P, E, hg, k⟩ =>
  ⟨C, M, ρ, _, E, hg, fun ds hds vs H1 r1 E1 dvs => ⟨vw Z.lx C M, ds, P, E1.lv _, by rw [List.append_nil]; exact dvs, hds, fun d hd v H2 s2 dv => k d hd v H2 (r1.trans (.of s2)) (E1.same s2) dv⟩⟩
section
variable {CX : CXT} {k : Nat} {f : Addr} {fd : FuncData} {ps : List Str} {T : List PyData → (PyData → Prop) → Prop} {x : Str} {p : Pos}
theorem de_call (F : FnOk X.prog X.w X.K X.mg X.base CX0 k f fd ps (spD X.K T)) (hr : Room k X.A) (hg : Gl X x) (hm : X.mg x = some (.ref f)) (hk : PySem.W.keepIn X.K (.ref f) = true) (hb : Binds X.K fd ps []) (ha : PDA X Z (e :: es) gs)
    (hdb : (x == ("__debug__" : Str)) = false := by decide) (he : starEach (e :: es) X.env = (false, eval e X.env) :: starEach es X.env := by rfl) (hpl : (backTo pos (starEach es X.env)).any (·.1) = false := by rfl) :
    PD X Z (.Call (.Name x p) (e :: es) [] pos) (gB T gs) := pe_wk (pe_call F hr hg hm hk hb .nil pass0 ha hdb he hpl) fun _ _ _ => tCall_of
theorem de_call0 (F : FnOk X.prog X.w X.K X.mg X.base CX0 k f fd ps (spD X.K T)) (hr : Room k X.A) (hg : Gl X x) (hm : X.mg x = some (.ref f)) (hk : PySem.W.keepIn X.K (.ref f) = true) (hb : Binds X.K fd ps []) (hdb : (x == ("__debug__" : Str)) = false := by decide) :
    PD X Z (.Call (.Name x p) [] [] pos) (gB T gaNil) := pe_wk (pe_call0 F hr hg hm hk hb .nil pass0 hdb) fun σ H Q ⟨C, M, ρ, P, E, hg, k⟩ => ⟨vw Z.lx C M, [], P, E.lv _, .nil, hg, fun d hd v H2 s2 dv => k d hd v H2 (.of s2) (E.same s2) dv⟩
theorem de_callT (i : Nat) {xt : Str} {pt : Pos} (F : FnOk X.prog X.w X.K X.mg X.base CX0 k f fd ps (spT X.K T)) (hr : Room k X.A) (hg : Gl X x) (hm : X.mg x = some (.ref f)) (hk : PySem.W.keepIn X.K (.ref f) = true) (hb : Binds X.K fd ps []) (ht : Z.tp = some i) (hso : Z.so = none) (ha : PDA X Z es gs)
    (hN : X.N[i]? = some xt := by rfl) (hv : Vis X.env.scope xt := by first | exact Or.inl rfl | exact Or.inr (Or.inl rfl) | exact Or.inr (Or.inr rfl)) (hd : (xt == ("__debug__" : Str)) = false := by decide) (hcd : (xt == ("__classdict__" : Str)) = false := by decide)
    (hs : starEach (.Name xt pt :: es) X.env = (false, eval (.Name xt pt) X.env) :: starEach es X.env := by rfl) (hdb : (x == ("__debug__" : Str)) = false := by decide) (hpl : (backTo pos (starEach es X.env)).any (·.1) = false := by rfl) :
    PD X Z (.Call (.Name x p) (.Name xt pt :: es) [] pos) (gB T gs) := pe_wk (pe_call F hr hg hm hk hb .nil pass0 (pa_cons (pe_var hN hv hd hcd) ha hs) hdb hs hpl) fun σ H Q ⟨C, M, ρ, P, E, hg, k⟩ => by
  obtain ⟨h1, h2, h3⟩ := E.tap i ht
  have eta : Z.ta C.t = some C.t := by unfold Sg.ta; rw [ht]; rfl
  refine ⟨.ref C.t, h3, C, M, ρ, _, E, hg, fun ds hds vs H1 r1 E1 dvs => ?_⟩
  refine ⟨vw Z.lx C M, C.t, C.l, vs, ds, P, by rw [List.append_nil], E.v0 _ _ h1, tapeS_none hso ▸ (E1.tap i ht).2.1, E1.lv _, dvs, hds, fun d hd v H2 r2 t2 dv => ?_⟩
  have r2' : RA (Z.ta C.t) H1 H2 := by rw [eta]; exact r2
  exact k d hd v H2 (r1.trans r2') (E1.go r2' fun _ _ => (tapeS_none hso).symm ▸ t2) dv
end
end
end
end Pg

namespace Pg
open PySem PySem.Spec PyProof.Rows L2

/-! ### statements -/
section
variable {X : Cx} {Z : Sg} {pos : Pos}
section
variable {st : Stmt} {sts : List Stmt} {e c : Expr} {g g' : DS} {ge : DE} {gc : DB}
@[simp] def sNext : DS := fun E ρ => E.nx ρ
@[simp] def sSeq (g g' : DS) : DS := fun E ρ => g { E with nx := fun ρ' => g' E ρ' } ρ
theorem dss_nil : PDSs X Z [] sNext := pss_wk pss_nil fun D σ H ⟨C, M, ρ, E, I, hg, T⟩ => T.nx _ hg _ _ _ (Same.refl _) I
theorem dss_cons (h : PDS X Z st g) (h2 : PDSs X Z sts g') : PDSs X Z (st :: sts) (sSeq g g') := pss_wk (pss_cons h h2) fun D σ H ⟨C, M, ρ, E, I, hg, T⟩ =>
  ⟨C, M, ρ, _, I, hg, ⟨fun ρ' hρ M' σ' H' s I' => ⟨C, M', ρ', E, I', hρ, T.step s⟩, T.rt, T.bk, T.ct⟩⟩
theorem dss_one (h : PDS X Z st g) : PDSs X Z [st] g := pss_one h
theorem ds_pass : PDS X Z (.Pass pos) sNext := ps_wk ps_pass fun D σ H ⟨C, M, ρ, E, I, hg, T⟩ => T.nx _ hg _ _ _ (Same.refl _) I
@[simp] def sBreak : DS := fun E ρ => E.bk ρ
@[simp] def sCont : DS := fun E ρ => E.ct ρ
theorem ds_break : PDS X Z (.Break pos) sBreak := ps_wk ps_break fun D σ H ⟨C, M, ρ, E, I, hg, T⟩ => T.bk _ hg _ _ _ (Same.refl _) I
theorem ds_cont : PDS X Z (.Continue pos) sCont := ps_wk ps_continue fun D σ H ⟨C, M, ρ, E, I, hg, T⟩ => T.ct _ hg _ _ _ (Same.refl _) I
theorem ds_doc {x : Str} {j : Nat} {pos' : Pos} : PDS X Z (.Expr (.Constant (.str x) j pos) pos') sNext := ps_wk ps_doc fun D σ H ⟨C, M, ρ, E, I, hg, T⟩ => T.nx _ hg _ _ _ (Same.refl _) I
@[simp] def sRet (ge : DE) : DS := fun E ρ => ge ρ E.rt
theorem rt_of {K : PySem.W.Frag} {C : Ct} {M : Ms} {σ : L2.St} {ρ : En} {H H' : Hp} {E : DEnds} {D : Ends} {d : PyData} {v : V} (hf : Z.fr = false) (T : Thn K Z C M H E D) (I' : ED K Z C M σ ρ H') (hd : E.rt d) (dv : Dp K (hid (vw Z.lx C M) H') v d) : D.rt v H' :=
  T.rt d hd v H' I'.rel (fun i h => (I'.tap i h).2.1) (dp_mono (hid_sub (I'.v0 _)) dv) (fun z => by rw [hf] at z; cases z)
theorem ds_ret (h : PD X Z e ge) (hf : Z.fr = false := by rfl) : PDS X Z (.Return (some e) pos) (sRet ge) := ps_wk (ps_ret h) fun D σ H ⟨C, M, ρ, E, I, hg, T⟩ =>
  ⟨C, M, ρ, _, I, hg, fun d hd v H' r I' dv => rt_of hf T I' hd dv⟩
/-- a new list is handed back -/
@[simp] def sRetF (g : DA) : DS := fun E ρ => g ρ fun ds => E.rt (.list ds)
theorem ds_retF {g : DA} (h : PDF X Z e g) : PDS X Z (.Return (some e) pos) (sRetF g) := ps_wk (ps_ret h) fun D σ H ⟨C, M, ρ, E, I, hg, T⟩ =>
  ⟨C, M, ρ, _, I, hg, fun ds hd p xs H' r I' I2 _ hn h' dv => T.rt _ hd _ H' I'.rel (fun i h => (I'.tap i h).2.1) (dp_mono (hid_sub (I'.v0 _)) (.lst (.inl (.inl (hid_some.mpr ⟨(I.lv _).fresh hn, h'⟩))) (dpa_mono with_le dv))) fun _ => ⟨p, xs, ds, rfl, I.free0 hn, rfl, h', dpa_mono (hid_sub (with_mono (I.v0 _))) dv⟩⟩
@[simp] def sRetN : DS := fun E _ => E.rt .none
theorem ds_retN (hf : Z.fr = false := by rfl) : PDS X Z (.Return none pos) sRetN := ps_wk ps_retN fun D σ H ⟨C, M, ρ, E, I, hg, T⟩ => rt_of hf T I hg .non
/-- a list of the def's own is handed back -/
@[simp] def sRetO (i : Nat) : DS := fun E ρ => ∃ d, ρ[i]? = some (some d) ∧ E.rt d
theorem own_out {K : PySem.W.Frag} {C : Ct} {M : Ms} {σ : L2.St} {ρ : En} {H : Hp} {i : Nat} {d : PyData} (E : ED K Z C M σ ρ H) (hO : i ∈ Z.own) (e : ρ[i]? = some (some d)) : ∃ p, σ[i]? = some (some (.ref p)) ∧ Dp K (hid C.M0 H) (.ref p) d := by
  obtain ⟨a, xs, ds', h1, h2, h3, h4, h5, h6⟩ := E.own i _ hO e
  subst h2
  exact ⟨a, h1, .lst (.inl (.inl (hid_some.mpr ⟨E.liv0.fresh h4, h3⟩))) (dpa_mono (hid_sub E.sub) h6)⟩
theorem ds_retO (i : Nat) {x : Str} {px : Pos} (hO : i ∈ Z.own := by first | decide | (dsimp only [Zs]; decide)) (hN : X.N[i]? = some x := by rfl) (hv : Vis X.env.scope x := by first | exact Or.inl rfl | exact Or.inr (Or.inl rfl) | exact Or.inr (Or.inr rfl)) (hd : (x == ("__debug__" : Str)) = false := by decide)
    (hcd : (x == ("__classdict__" : Str)) = false := by decide) : PDS X Z (.Return (some (.Name x px)) pos) (sRetO i) := ps_wk (ps_ret (pe_var hN hv hd hcd)) fun D σ H ⟨C, M, ρ, E, I, ⟨d, e, hg⟩, T⟩ => by
  obtain ⟨p, h1, h2⟩ := own_out I hO e
  obtain ⟨p', xs, ds', k1, k2, k3, k4, k5, k6⟩ := I.own i _ hO e
  rw [h1] at k1
  cases k1
  exact ⟨_, h1, T.rt d hg _ H I.rel (fun i h => (I.tap i h).2.1) h2 fun _ => ⟨p, xs, ds', rfl, k4, k2, k3, dpa_mono (hid_sub fun b hb => by
    unfold Ms.with at hb
    rw [Bool.or_eq_true] at hb
    rcases hb with hb | hb
    · exact I.sub b hb
    · rw [eq_of_beq hb]
      exact k5) k6⟩⟩
@[simp] def sIf (gc : DB) (g g' : DS) : DS := fun E ρ => gc ρ fun b => if b = true then g E ρ else g' E ρ
theorem ds_if {a b : List Stmt} (h : PDB X Z c gc) (ha : PDSs X Z a g) (hb : PDSs X Z b g') : PDS X Z (.If c a b pos) (sIf gc g g') := ps_wk (ps_if h ha hb) fun D σ H ⟨C, M, ρ, E, I, hg, T⟩ =>
  ⟨C, M, ρ, _, I, hg, fun b hb H' r I' => by
    have T' := T.step (I.hs r)
    cases b with
    | true => exact ⟨C, M, ρ, E, I', hb, T'⟩
    | false => exact ⟨C, M, ρ, E, I', hb, T'⟩⟩
/-- an expression for its own sake -/
@[simp] def sDrop (ge : DE) : DS := fun E ρ => ge ρ fun _ => E.nx ρ
theorem ds_expr (h : PD X Z e ge) (hs : swapsWith e none pos.line X.env = pure false := by rfl) : PDS X Z (.Expr e pos) (sDrop ge) := ps_wk (ps_expr h hs) fun D σ H ⟨C, M, ρ, E, I, hg, T⟩ =>
  ⟨C, M, ρ, _, I, hg, fun d hd v H' r I' dv => T.nx _ hd _ _ _ (I.hs r) I'⟩
end

/-! ### names stored -/
section
variable {e : Expr} {ge : DE} {gs : DA}
@[simp] def sSet (i : Nat) (ge : DE) : DS := fun E ρ => ge ρ fun d => E.nx (ρ.set i (some d))
theorem vw_of {Z : Sg} (hl : Z.lx = false) (C : Ct) (M : Ms) : vw Z.lx C M = M := by rw [hl]; rfl
theorem ds_set (i : Nat) {x : Str} {px : Pos} (hn : X.N.Nodup) (h : PD X Z e ge) (hl : Z.lx = false := by rfl) (hO : i ∉ Z.own := by first | decide | (dsimp only [Zs]; decide)) (ht : Z.tp ≠ some i := by first | decide | (dsimp only [Zs]; decide)) (hN : X.N[i]? = some x := by rfl) (hx : Loc X.env.scope x := by first | exact Or.inl rfl | exact Or.inr rfl)
    (hs : swapsWith e (some (.Name x px)) pos.line X.env = pure false := by rfl) (hf : X.fn x = true ∨ X.env.scope.names.lookup x = some .local := by first | exact .inl rfl | exact .inr rfl) : PDS X Z (.Assign [.Name x px] e pos) (sSet i ge) :=
  ps_wk (ps_set hn hN hx h hs hf) fun D σ H ⟨C, M, ρ, E, I, hg, T⟩ => ⟨C, M, ρ, _, I, hg, fun d hd v H' r I' dv => T.nx _ hd _ _ _ (I.hs r) (I'.set hO ht (by rw [vw_of hl] at dv; exact dv))⟩
/-- a new list goes to a slot of the def's own lists -/
theorem ED.setOwn {K : PySem.W.Frag} {C : Ct} {M : Ms} {σ : L2.St} {ρ : En} {H0 H : Hp} {i : Nat} {p : Addr} {xs : List V} {ds : List PyData} (E0 : ED K Z C M σ ρ H0) (E : ED K Z C (M.with p) σ ρ H) (hO : i ∈ Z.own) (ht : Z.tp ≠ some i) (hn : H0 p = none) (h : H p = some (.lst xs)) (dv : DpAll K (hid (M.with p) H) xs ds) :
    ED K Z C (M.with p) (σ.set i (some (.ref p))) (ρ.set i (some (.list ds))) H := by
  have hne : ∀ j d, j ∈ Z.own → ρ[j]? = some (some d) → σ[j]? ≠ some (some (.ref p)) := fun j d hj e z => by
    obtain ⟨q, ys, es, h1, _, h3, _⟩ := E0.own j d hj e
    rw [h1] at z
    cases z
    rw [hn] at h3
    cases h3
  refine ⟨E.rel, fun j hj => ⟨(E.tap j hj).1, (E.tap j hj).2.1, ?_⟩, E.tal, E.sub, E.liv0, E.liv, by rw [List.length_set, List.length_set]; exact E.len, fun j e n hj => ?_, fun j e n hj => ?_, fun j q h1 h2 => ?_, fun j k q d1 d2 h1 h2 h3 h4 h5 h6 h7 => ?_, E.sd⟩
  · rw [List.getElem?_set_ne (fun z => ht (by rw [hj, z]))]
    exact (E.tap j hj).2.2
  · have hij : i ≠ j := fun z => n (by rw [← z]; exact hO)
    rw [List.getElem?_set_ne hij] at hj
    rw [List.getElem?_set_ne hij]
    exact E.imm j e n hj
  · by_cases hij : i = j
    · subst hij
      have hl : i < ρ.length := by
        have := (List.getElem?_eq_some_iff.mp hj).1
        rw [List.length_set] at this
        exact this
      rw [List.getElem?_set_self hl] at hj
      cases hj
      exact ⟨p, xs, ds, List.getElem?_set_self (by rw [E.len]; exact hl), rfl, h, E0.free0 hn, with_self, dv⟩
    · rw [List.getElem?_set_ne hij] at hj
      rw [List.getElem?_set_ne hij]
      exact E.own j e n hj
  · by_cases hij : i = j
    · subst hij
      by_cases hl : i < σ.length
      · rw [List.getElem?_set_self hl] at h2
        cases h2
        rw [h]
        exact fun z => nomatch z
      · rw [List.getElem?_eq_none (by rw [List.length_set]; omega)] at h2
        cases h2
    · rw [List.getElem?_set_ne hij] at h2
      exact E.ol j q h1 h2
  · by_cases hj : i = j
    · subst hj
      have hk : i ≠ k := h3
      rw [List.getElem?_set_ne hk] at h5 h7
      have hl : i < σ.length := by
        have := (List.getElem?_eq_some_iff.mp h6).1
        rw [List.length_set] at this
        exact this
      rw [List.getElem?_set_self hl] at h6
      cases h6
      exact hne k _ h2 h5 h7
    · rw [List.getElem?_set_ne hj] at h4 h6
      by_cases hk : i = k
      · subst hk
        have hl : i < σ.length := by
          have := (List.getElem?_eq_some_iff.mp h7).1
          rw [List.length_set] at this
          exact this
        rw [List.getElem?_set_self hl] at h7
        cases h7
        exact hne j _ h1 h4 h6
      · rw [List.getElem?_set_ne hk] at h5 h7
        exact E.inj j k q d1 d2 h1 h2 h3 h4 h5 h6 h7
@[simp] def sSetO (i : Nat) (gs : DA) : DS := fun E ρ => gs ρ fun ds => E.nx (ρ.set i (some (.list ds)))
theorem ds_setO (i : Nat) {x : Str} {px : Pos} (hn : X.N.Nodup) (h : PDF X Z e gs) (hl : Z.lx = false := by rfl) (hO : i ∈ Z.own := by first | decide | (dsimp only [Zs]; decide)) (ht : Z.tp ≠ some i := by first | decide | (dsimp only [Zs]; decide)) (hN : X.N[i]? = some x := by rfl) (hx : Loc X.env.scope x := by first | exact Or.inl rfl | exact Or.inr rfl)
    (hs : swapsWith e (some (.Name x px)) pos.line X.env = pure false := by rfl) (hf : X.fn x = true ∨ X.env.scope.names.lookup x = some .local := by first | exact .inl rfl | exact .inr rfl) : PDS X Z (.Assign [.Name x px] e pos) (sSetO i gs) :=
  ps_wk (ps_set hn hN hx h hs hf) fun D σ H ⟨C, M, ρ, E, I, hg, T⟩ => ⟨C, M, ρ, _, I, hg, fun ds hd p xs H' r _ I' sw hp h' dv => T.nx _ hd _ _ _ sw (I.setOwn I' hO ht hp h' (by rw [vw_of hl] at dv; exact dv))⟩
/-- xs.append(e), xs a list of the def's own -/
theorem ED.write {K : PySem.W.Frag} {C : Ct} {M : Ms} {σ : L2.St} {ρ : En} {H : Hp} {i : Nat} {p : Addr} {d : PyData} {ys : List V} {es : List PyData} (E : ED K Z C M σ ρ H) (hO : i ∈ Z.own) (hi : ρ[i]? = some (some d)) (hp : σ[i]? = some (some (.ref p))) (dv : DpAll K (hid M H) ys es) :
    ED K Z C M σ (ρ.set i (some (.list es))) (upd H p (.lst ys)) := by
  obtain ⟨q, xs, ds, h1, h2, h3, h4, h5, h6⟩ := E.own i d hO hi
  rw [hp] at h1
  cases h1
  have eh : hid M (upd H p (.lst ys)) = hid M H := hid_upd h5
  refine ⟨fun b o hb e => ?_, fun j hj => ⟨(E.tap j hj).1, ?_, (E.tap j hj).2.2⟩, E.tal, E.sub, E.liv0, fun b m z => ?_, by rw [List.length_set]; exact E.len, fun j e n hj => ?_, fun j e n hj => ?_, fun j q g1 g2 z => ?_, fun j k q d1 d2 g1 g2 g3 g4 g5 g6 g7 => ?_, fun q vd h1 h2 => by rw [eh]; exact E.sd q vd h1 h2⟩
  · have hbp : b ≠ p := fun z => by rw [z, h4] at e; cases e
    rw [upd_ne hbp]
    exact E.rel b o hb e
  · have htp : C.t ≠ p := fun z => E.liv0 _ (E.tap j hj).1 (by rw [z]; exact h4)
    have hlp : C.l ≠ p := fun z => E.tal j hj (by rw [z]; exact h4)
    exact (E.tap j hj).2.1.upd htp hlp
  · by_cases hb : b = p
    · subst hb
      rw [upd_same] at z
      cases z
    · rw [upd_ne hb] at z
      exact E.liv b m z
  · have hij : i ≠ j := fun z => n (by rw [← z]; exact hO)
    rw [List.getElem?_set_ne hij] at hj
    rw [eh]
    exact E.imm j e n hj
  · rw [eh]
    by_cases hij : i = j
    · subst hij
      have hl : i < ρ.length := by
        have := (List.getElem?_eq_some_iff.mp hj).1
        rw [List.length_set] at this
        exact this
      rw [List.getElem?_set_self hl] at hj
      cases hj
      exact ⟨p, ys, es, hp, rfl, upd_same, h4, h5, dv⟩
    · rw [List.getElem?_set_ne hij] at hj
      obtain ⟨q, zs, fs, k1, k2, k3, k4, k5, k6⟩ := E.own j e n hj
      refine ⟨q, zs, fs, k1, k2, ?_, k4, k5, k6⟩
      rw [upd_ne (fun z => E.inj i j p d e hO n hij hi hj hp (by rw [k1, z]))]
      exact k3
  · by_cases hq : q = p
    · subst hq
      rw [upd_same] at z
      cases z
    · rw [upd_ne hq] at z
      exact E.ol j q g1 g2 z
  · by_cases hj : i = j
    · subst hj
      have hk : i ≠ k := g3
      rw [List.getElem?_set_ne hk] at g5
      exact E.inj i k q d d2 g1 g2 g3 hi g5 g6 g7
    · rw [List.getElem?_set_ne hj] at g4
      by_cases hk : i = k
      · subst hk
        exact E.inj j i q d1 d g1 g2 g3 g4 hi g6 g7
      · rw [List.getElem?_set_ne hk] at g5
        exact E.inj j k q d1 d2 g1 g2 g3 g4 g5 g6 g7
end
end
end Pg

namespace Pg
open PySem PySem.Spec PyProof.Rows L2

/-! ### what is walked -/
structure GoD (K : PySem.W.Frag) (J : It) (ds : List PyData) (G : Ms → Hp → Prop) : Prop where
  stop : ∀ M H i, Live M H → G M H → ds.length ≤ i → J.stop i H
  go : ∀ M H i d, Live M H → G M H → ds[i]? = some d → J.go i H ∧ ∀ x H', J.yld i H x H' → Same H H' ∧ Dp K (hid M H') x d
  keep : ∀ M H M' H', G M H → Same (hid M H) (hid M' H') → G M' H'
def tIt (K : PySem.W.Frag) (Z : Sg) (g : DA) : TI := fun σ H R => ∃ (C : Ct) (M : Ms) (ρ : En) (P : List PyData → Prop), ED K Z C M σ ρ H ∧ g ρ P ∧
  ∀ ds, P ds → ∀ J H' G, RA (Z.ta C.t) H H' → ED K Z C M σ ρ H' → GoD K J ds G → G M H' → R J H'
abbrev PDI (X : Cx) (Z : Sg) (tg it : Expr) (g : DA) : Prop := PI X tg it (tIt X.K Z g)
theorem go_list {K : PySem.W.Frag} {a : Addr} {xs : List V} {ds : List PyData} : GoD K (Itl K a) ds (fun M H => SqL K (hid M H) a xs ∧ DpAll K (hid M H) xs ds) where
  stop := fun M H i _ ⟨h1, h2⟩ hi => ⟨xs, (hid_le M H).seq h1, by rw [dpa_len h2]; exact hi⟩
  go := fun M H i d _ ⟨h1, h2⟩ e => by
    obtain ⟨v, e1, dv⟩ := dpa_get h2 e
    refine ⟨⟨xs, v, (hid_le M H).seq h1, e1⟩, fun x H' ⟨eq, y⟩ => ?_⟩
    subst eq
    have e2 := y xs ((hid_le M H').seq h1)
    rw [e1] at e2
    cases e2
    exact ⟨Same.refl _, dv⟩
  keep := fun M H M' H' ⟨h1, h2⟩ s => ⟨s.seq h1, dpa_mono s h2⟩
theorem go_tup {K : PySem.W.Frag} {a : Addr} {xs : List V} {ds : List PyData} : GoD K (Itt K a) ds (fun M H => SqT K (hid M H) a xs ∧ DpAll K (hid M H) xs ds) where
  stop := fun M H i _ ⟨h1, h2⟩ hi => ⟨xs, same_sqT (hid_le M H) h1, by rw [dpa_len h2]; exact hi⟩
  go := fun M H i d _ ⟨h1, h2⟩ e => by
    obtain ⟨v, e1, dv⟩ := dpa_get h2 e
    refine ⟨⟨xs, v, same_sqT (hid_le M H) h1, e1⟩, fun x H' ⟨eq, y⟩ => ?_⟩
    subst eq
    have e2 := y xs (same_sqT (hid_le M H') h1)
    rw [e1] at e2
    cases e2
    exact ⟨Same.refl _, dv⟩
  keep := fun M H M' H' ⟨h1, h2⟩ s => ⟨same_sqT s h1, dpa_mono s h2⟩
/-- lo, lo + 1, .. -/
def rng (lo : Int) (n : Nat) : List PyData := (List.range n).map fun i => .int (lo + (i : Nat))
theorem go_rng {K : PySem.W.Frag} {lo : Int} {n : Nat} : GoD K (Itr lo n) (rng lo n) (fun _ _ => True) where
  stop := fun M H i _ _ hi => by
    unfold rng at hi
    rw [List.length_map, List.length_range] at hi
    exact hi
  go := fun M H i d _ _ e => by
    unfold rng at e
    rw [List.getElem?_map] at e
    obtain ⟨j, h1, h2⟩ := Option.map_eq_some_iff.mp e
    have hj := List.getElem?_eq_some_iff.mp h1
    obtain ⟨hlt, hj⟩ := hj
    rw [List.length_range] at hlt
    rw [List.getElem_range] at hj
    subst hj
    refine ⟨hlt, fun x H' ⟨e1, e2⟩ => ?_⟩
    subst e1 e2 h2
    exact ⟨Same.refl _, .int _⟩
  keep := fun _ _ _ _ _ _ => trivial
/-- lo, lo + c, .. -/
def rngC (lo c : Int) (n : Nat) : List PyData := (List.range n).map fun i => .int (lo + (i : Nat) * c)
theorem go_rngC {K : PySem.W.Frag} {lo c : Int} {n : Nat} : GoD K (Itc lo c n) (rngC lo c n) (fun _ _ => True) where
  stop := fun M H i _ _ hi => by
    unfold rngC at hi
    rw [List.length_map, List.length_range] at hi
    exact hi
  go := fun M H i d _ _ e => by
    unfold rngC at e
    rw [List.getElem?_map] at e
    obtain ⟨j, h1, h2⟩ := Option.map_eq_some_iff.mp e
    have hj := List.getElem?_eq_some_iff.mp h1
    obtain ⟨hlt, hj⟩ := hj
    rw [List.length_range] at hlt
    rw [List.getElem_range] at hj
    subst hj
    refine ⟨hlt, fun x H' ⟨e1, e2⟩ => ?_⟩
    subst e1 e2 h2
    exact ⟨Same.refl _, .int _⟩
  keep := fun _ _ _ _ _ _ => trivial
section
variable {X : Cx} {Z : Sg} {tg e a b c : Expr} {g ga gb gc : DE} {p pos : Pos}
theorem di_list (h : PD X Z e g) (hl : Z.lx = false := by rfl) : PDI X Z tg e (gQL g) := pi_wk (pi_list h) fun σ H R ⟨C, M, ρ, P, E, hg, k⟩ => ⟨C, M, ρ, _, E, hg, fun d ⟨ds, hd, hp⟩ v H1 r1 E1 dv => by
  subst hd
  rw [vw_of hl] at dv
  obtain ⟨q, xs, rfl, h1, h2⟩ := dp_list dv
  exact ⟨q, rfl, ⟨xs, (hid_le M H1).seq h1⟩, k ds hp _ H1 _ r1 E1 (go_list (xs := xs)) ⟨h1, h2⟩⟩⟩
theorem di_tup (h : PD X Z e g) (hl : Z.lx = false := by rfl) : PDI X Z tg e (gQT g) := pi_wk (pi_tup h) fun σ H R ⟨C, M, ρ, P, E, hg, k⟩ => ⟨C, M, ρ, _, E, hg, fun d ⟨ds, hd, hp⟩ v H1 r1 E1 dv => by
  subst hd
  rw [vw_of hl] at dv
  obtain ⟨q, xs, rfl, h1, h2⟩ := dp_tuple dv
  exact ⟨q, rfl, ⟨xs, same_sqT (hid_le M H1) h1⟩, k ds hp _ H1 _ r1 E1 (go_tup (xs := xs)) ⟨h1, h2⟩⟩⟩
@[simp] def gR1 (gs : DA) : DA := fun ρ P => gs ρ fun ds => ∃ j, ds = [.int j] ∧ (-(2 ^ 62) ≤ j ∧ j < 2 ^ 62) ∧ P (rng 0 j.toNat)
@[simp] def gR2 (gs : DA) : DA := fun ρ P => gs ρ fun ds => ∃ i j, ds = [.int i, .int j] ∧ (-(2 ^ 62) ≤ i ∧ i < 2 ^ 62 ∧ -(2 ^ 62) ≤ j ∧ j < 2 ^ 62) ∧ P (rng i (j - i).toNat)
@[simp] def gR3 (gs : DA) : DA := fun ρ P => gs ρ fun ds => ∃ i j c n, ds = [.int i, .int j, .int c] ∧ RgC i j c n ∧ P (rngC i c n)
variable {gs : DA}
theorem di_rng1 (hm : X.mg "range" = none) (h : PDA X Z [a] gs) (hg : Gl X "range" := by rfl) (hs : starEach [a] X.env = [(false, eval a X.env)] := by rfl) : PDI X Z tg (.Call (.Name "range" p) [a] [] pos) (gR1 gs) :=
  pi_wk (pi_range1 hg hm h hs) fun σ H R ⟨C, M, ρ, P, E, hg, k⟩ => ⟨C, M, ρ, _, E, hg, fun ds ⟨j, hd, ⟨l, u⟩, hp⟩ vs H1 r1 E1 dvs => by
    subst hd
    have e : vs = [.int j] := dpa_ints (ns := [j]) dvs
    exact ⟨j, e, l, u, k _ hp _ H1 _ r1 E1 go_rng trivial⟩⟩
theorem di_rng2 (hm : X.mg "range" = none) (h : PDA X Z [a, b] gs) (hg : Gl X "range" := by rfl) (hs : starEach [a, b] X.env = [(false, eval a X.env), (false, eval b X.env)] := by rfl) (hs2 : starEach [b] X.env = [(false, eval b X.env)] := by rfl) : PDI X Z tg (.Call (.Name "range" p) [a, b] [] pos) (gR2 gs) :=
  pi_wk (pi_range2 hg hm h hs hs2) fun σ H R ⟨C, M, ρ, P, E, hg, k⟩ => ⟨C, M, ρ, _, E, hg, fun ds ⟨i, j, hd, l, hp⟩ vs H1 r1 E1 dvs => by
    subst hd
    have e : vs = [.int i, .int j] := dpa_ints (ns := [i, j]) dvs
    exact ⟨i, j, e, l, k _ hp _ H1 _ r1 E1 go_rng trivial⟩⟩
theorem di_rng3 (hm : X.mg "range" = none) (h : PDA X Z [a, b, c] gs) (hg : Gl X "range" := by rfl) (hs : starEach [a, b, c] X.env = (false, eval a X.env) :: starEach [b, c] X.env := by rfl) (hs2 : (backTo pos (starEach [b, c] X.env)).any (·.1) = false := by rfl) : PDI X Z tg (.Call (.Name "range" p) [a, b, c] [] pos) (gR3 gs) :=
  pi_wk (pi_range3 hg hm h hs hs2) fun σ H R ⟨C, M, ρ, P, E, hg, k⟩ => ⟨C, M, ρ, _, E, hg, fun ds ⟨i, j, c, n, hd, l, hp⟩ vs H1 r1 E1 dvs => by
    subst hd
    have e : vs = [.int i, .int j, .int c] := dpa_ints (ns := [i, j, c]) dvs
    exact ⟨i, j, c, n, e, l, k _ hp _ H1 _ r1 E1 go_rngC trivial⟩⟩
end

/-! ### what a turn stores -/
abbrev Bd := PyData → En → (En → Prop) → Prop
def BdOk (K : PySem.W.Frag) (Z : Sg) (tg : TG) (b : Bd) (sl : List Nat) : Prop := ∀ (C : Ct) (M : Ms) (σ : L2.St) (ρ : En) (H : Hp) (v : V) (d : PyData) (P : En → Prop) (Q : L2.St → Hp → Prop), ED K Z C M σ ρ H → Dp K (hid M H) v d → b d ρ P →
  (∀ ρ', P ρ' → ∀ σ', ED K Z C M σ' ρ' H → σ'.length = σ.length → (∀ j, j ∉ sl → σ'[j]? = σ[j]?) → Q σ' H) → tg v σ H Q
@[simp] def bN (i : Nat) : Bd := fun d ρ P => P (ρ.set i (some d))
section
variable {K : PySem.W.Frag} {Z : Sg}
theorem bd_name (i : Nat) (hO : i ∉ Z.own := by first | decide | (dsimp only [Zs]; decide)) (ht : Z.tp ≠ some i := by first | decide | (dsimp only [Zs]; decide)) : BdOk K Z (L2.gName i) (bN i) [i] := fun C M σ ρ H v d P Q E dv hp k =>
  k _ hp _ (E.set hO ht dv) (by rw [List.length_set]) fun j hj => List.getElem?_set_ne fun z => hj (by simp [z])
@[simp] def bT2 (i j : Nat) : Bd := fun d ρ P => ∃ x y, d = .tuple [x, y] ∧ P ((ρ.set i (some x)).set j (some y))
@[simp] def bT3 (i j k : Nat) : Bd := fun d ρ P => ∃ x y z, d = .tuple [x, y, z] ∧ P (((ρ.set i (some x)).set j (some y)).set k (some z))
theorem dpa2 {H : Hp} {xs : List V} {x y : PyData} (h : DpAll K H xs [x, y]) : ∃ v w, xs = [v, w] ∧ Dp K H v x ∧ Dp K H w y := by
  cases h with
  | cons h1 h2 =>
    cases h2 with
    | cons h2 h3 =>
      cases h3
      exact ⟨_, _, rfl, h1, h2⟩
theorem dpa3 {H : Hp} {xs : List V} {x y z : PyData} (h : DpAll K H xs [x, y, z]) : ∃ u v w, xs = [u, v, w] ∧ Dp K H u x ∧ Dp K H v y ∧ Dp K H w z := by
  cases h with
  | cons h1 h2 =>
    obtain ⟨v, w, rfl, h3, h4⟩ := dpa2 h2
    exact ⟨_, _, _, rfl, h1, h3, h4⟩
theorem bd_tup2 (i j : Nat) (h1 : i ∉ Z.own := by first | decide | (dsimp only [Zs]; decide)) (h2 : j ∉ Z.own := by first | decide | (dsimp only [Zs]; decide)) (t1 : Z.tp ≠ some i := by first | decide | (dsimp only [Zs]; decide)) (t2 : Z.tp ≠ some j := by first | decide | (dsimp only [Zs]; decide)) : BdOk K Z (L2.gTup K 2 (gCons (L2.gName i) (gCons (L2.gName j) gNil))) (bT2 i j) [i, j] := fun C M σ ρ H v d P Q E dv ⟨x, y, e, hp⟩ k => by
  subst e
  obtain ⟨a, xs, rfl, hs, ha⟩ := dp_tuple dv
  obtain ⟨u, w, rfl, d1, d2⟩ := dpa2 ha
  refine ⟨a, _, rfl, same_sqT (hid_le M H) hs, rfl, u, [w], rfl, w, [], rfl, rfl, ?_⟩
  refine k _ hp _ ((E.set h1 t1 d1).set h2 t2 d2) (by rw [List.length_set, List.length_set]) fun l hl => ?_
  rw [List.getElem?_set_ne (fun z => hl (by simp [z])), List.getElem?_set_ne (fun z => hl (by simp [z]))]
theorem bd_tup3 (i j m : Nat) (h1 : i ∉ Z.own := by first | decide | (dsimp only [Zs]; decide)) (h2 : j ∉ Z.own := by first | decide | (dsimp only [Zs]; decide)) (h3 : m ∉ Z.own := by first | decide | (dsimp only [Zs]; decide)) (t1 : Z.tp ≠ some i := by first | decide | (dsimp only [Zs]; decide)) (t2 : Z.tp ≠ some j := by first | decide | (dsimp only [Zs]; decide)) (t3 : Z.tp ≠ some m := by first | decide | (dsimp only [Zs]; decide)) : BdOk K Z (L2.gTup K 3 (gCons (L2.gName i) (gCons (L2.gName j) (gCons (L2.gName m) gNil)))) (bT3 i j m) [i, j, m] := fun C M σ ρ H v d P Q E dv ⟨x, y, z, e, hp⟩ k => by
  subst e
  obtain ⟨a, xs, rfl, hs, ha⟩ := dp_tuple dv
  obtain ⟨u, w, q, rfl, d1, d2, d3⟩ := dpa3 ha
  refine ⟨a, _, rfl, same_sqT (hid_le M H) hs, rfl, u, [w, q], rfl, w, [q], rfl, q, [], rfl, rfl, ?_⟩
  refine k _ hp _ (((E.set h1 t1 d1).set h2 t2 d2).set h3 t3 d3) (by rw [List.length_set, List.length_set, List.length_set]) fun l hl => ?_
  rw [List.getElem?_set_ne (fun z => hl (by simp [z])), List.getElem?_set_ne (fun z => hl (by simp [z])), List.getElem?_set_ne (fun z => hl (by simp [z]))]
end

/-! ### for, while -/
@[simp] def forD (b : Bd) (g : DS) : List PyData → DS
  | [], E, ρ => E.nx ρ
  | d :: r, E, ρ => b d ρ fun ρ' => g { nx := fun ρ' => forD b g r E ρ', rt := E.rt, bk := E.nx, ct := fun ρ' => forD b g r E ρ' } ρ'
@[simp] def sFor (gi : DA) (b : Bd) (g : DS) : DS := fun E ρ => gi ρ fun ds => forD b g ds E ρ
theorem drop_at {α : Type} {l : List α} {i : Nat} (h : i < l.length) : l.drop i = l[i] :: l.drop (i + 1) := List.drop_eq_getElem_cons h
section
variable {X : Cx} {Z : Sg} {tg iter : Expr} {body : List Stmt} {gi : DA} {b : Bd} {g : DS} {tgt : TG} {sl : List Nat} {pos : Pos}
theorem ds_for (hp : PassesOwn (model X.prog X.w) X.A X.env X.xe) (hc : X.calm = true) (hi : PDI X Z tg iter gi) (hg : PG X tg tgt) (hb : BdOk X.K Z tgt b sl) (hbody : PDSs X Z body g) (hs : ∀ x, foldedSetIterable iter X.env x = pure x := by intro _; rfl) :
    PDS X Z (.For tg iter body [] pos) (sFor gi b g) := ps_wk (ps_for hp hc hi hg hbody hs) fun D σ H ⟨C, M, ρ, E, I, hgi, T⟩ => by
  refine ⟨C, M, ρ, _, I, hgi, fun ds hds J H1 G r1 I1 go hG => ?_⟩
  refine ⟨fun i m σ H => m = ds.length - i ∧ i ≤ ds.length ∧ ∃ M ρ, ED X.K Z C M σ ρ H ∧ G M H ∧ forD b g (ds.drop i) E ρ ∧ Thn X.K Z C M H E D,
    ⟨ds.length, rfl, Nat.zero_le _, M, ρ, I1, hG, hds, T.step (I.hs r1)⟩, ?_⟩
  rintro i m σ2 H2 ⟨rfl, hi, M2, ρ2, I2, G2, F2, T2⟩
  by_cases hlt : i < ds.length
  · rw [drop_at hlt] at F2
    obtain ⟨g1, g2⟩ := go.go M2 H2 i _ I2.liv G2 (List.getElem?_eq_getElem hlt)
    refine .inr ⟨g1, fun σ' H' => ∃ M ρ, ED X.K Z C M σ' ρ H' ∧ G M H' ∧ forD b g (ds.drop (i + 1)) E ρ ∧ Thn X.K Z C M H' E D, fun σ' H' ⟨M', ρ', h⟩ => ⟨ds.length - (i + 1), by omega, rfl, hlt, M', ρ', h⟩, fun x H3 y => ?_⟩
    obtain ⟨s3, dx⟩ := g2 x H3 y
    have s3' := I2.hs (.of s3)
    refine hb C M2 σ2 ρ2 H3 x _ _ _ (I2.same s3) dx F2 fun ρ' hP σ' I' _ _ => ?_
    have nxt : ∀ ρ'', forD b g (ds.drop (i + 1)) E ρ'' → ∀ M' σ'' H'', Same (hid M2 H3) (hid M' H'') → ED X.K Z C M' σ'' ρ'' H'' → ∃ M ρ, ED X.K Z C M σ'' ρ H'' ∧ G M H'' ∧ forD b g (ds.drop (i + 1)) E ρ ∧ Thn X.K Z C M H'' E D := fun ρ'' hF M' σ'' H'' s I'' =>
      ⟨M', ρ'', I'', go.keep _ _ _ _ G2 (s3'.trans s), hF, T2.step (s3'.trans s)⟩
    refine ⟨C, M2, ρ', _, I', hP, ⟨nxt, T2.rt, fun ρ'' hF M' σ'' H'' s I'' => ?_, nxt⟩⟩
    exact T2.nx ρ'' hF M' σ'' H'' (s3'.trans s) I''
  · have e : i = ds.length := by omega
    subst e
    rw [List.drop_length] at F2
    exact .inl ⟨go.stop _ _ _ I2.liv G2 (Nat.le_refl _), T2.nx _ F2 _ _ _ (Same.refl _) I2⟩
def sWhile (gc : DB) (g : DS) : DS := fun E ρ => ∃ W : Nat → En → Prop, (∃ m, W m ρ) ∧ ∀ m ρ, W m ρ → gc ρ fun c => if c = true then g { nx := fun ρ' => ∃ m', m' < m ∧ W m' ρ', rt := E.rt, bk := E.nx, ct := fun ρ' => ∃ m', m' < m ∧ W m' ρ' } ρ else E.nx ρ
theorem ds_while {c : Expr} {gc : DB} (hp : PassesOwn (model X.prog X.w) X.A X.env X.xe) (hc : PDB X Z c gc) (hb : PDSs X Z body g) : PDS X Z (.While c body [] pos) (sWhile gc g) := ps_wk (ps_while hp hc hb) fun D σ H ⟨C, M, ρ, E, I, ⟨W, ⟨m0, w0⟩, turn⟩, T⟩ => by
  refine ⟨fun m σ H => ∃ M ρ, ED X.K Z C M σ ρ H ∧ W m ρ ∧ Thn X.K Z C M H E D, ⟨m0, M, ρ, I, w0, T⟩, ?_⟩
  rintro m σ1 H1 ⟨M1, ρ1, I1, w1, T1⟩
  refine ⟨C, M1, ρ1, _, I1, turn m ρ1 w1, fun x hx H2 r2 I2 => ?_⟩
  have T2 := T1.step (I1.hs r2)
  cases x with
  | true =>
    have nxt : ∀ ρ', (∃ m', m' < m ∧ W m' ρ') → ∀ M' σ' H', Same (hid M1 H2) (hid M' H') → ED X.K Z C M' σ' ρ' H' → ∃ m', m' < m ∧ ∃ M ρ, ED X.K Z C M σ' ρ H' ∧ W m' ρ ∧ Thn X.K Z C M H' E D := fun ρ' ⟨m', hm, w'⟩ M' σ' H' s I' => ⟨m', hm, M', ρ', I', w', T2.step s⟩
    exact ⟨_, fun σ' H' h => h, C, M1, ρ1, _, I2, hx, ⟨nxt, T2.rt, T2.nx, nxt⟩⟩
  | false => exact T2.nx _ hx _ _ _ (Same.refl _) I2
end

/-! ### xs.append(e), two names at once -/
section
variable {X : Cx} {Z : Sg} {e : Expr} {ge : DE} {gs : DA} {pos : Pos}
@[simp] def sApp (i : Nat) (ge : DE) : DS := fun E ρ => ∃ ds, ρ[i]? = some (some (.list ds)) ∧ ds.length < 100000 ∧ ge ρ fun d => E.nx (ρ.set i (some (.list (ds ++ [d]))))
theorem ds_app (i : Nat) (h : PE X e (tBM X.K "list" rAppend (tVar i) (tGA X.K Z (gaCons ge gaNil)))) (hO : i ∈ Z.own := by first | decide | (dsimp only [Zs]; decide)) (hlx : Z.lx = false := by rfl) (hs : swapsWith e none pos.line X.env = pure false := by rfl) : PDS X Z (.Expr e pos) (sApp i ge) :=
  ps_wk (ps_expr h hs) fun D σ H ⟨C, M, ρ, E, I, ⟨ds, hi, hl, hg⟩, T⟩ => by
  obtain ⟨p, xs, ds', h1, h2, h3, h4, h5, h6⟩ := I.own i _ hO hi
  cases h2
  refine ⟨.ref p, h1, Or.inl ⟨rfl, xs, .of h3⟩, C, M, ρ, fun es => match es with | [d] => E.nx (ρ.set i (some (.list (ds ++ [d])))) | _ => False, I, hg, ?_⟩
  · intro es hn vs H1 r1 I1 dvs
    rw [vw_of hlx] at dvs
    obtain ⟨d, rfl⟩ : ∃ d, es = [d] := by
      match es, hn with
      | [d], _ => exact ⟨d, rfl⟩
    have hn : E.nx (ρ.set i (some (.list (ds ++ [d])))) := hn
    obtain ⟨q, ys, es', k1, k2, k3, k4, k5, k6⟩ := I1.own i _ hO hi
    cases k2
    rw [h1] at k1
    cases k1
    cases dvs with
    | cons dv dn =>
      cases dn
      refine ⟨_, ys, _, rfl, rfl, k3, by rw [dpa_len k6]; exact szlt hl, T.nx _ hn _ _ _ ?_ (I1.write hO hi h1 (dpa_app k6 (.cons dv .nil)))⟩
      rw [hid_upd k5]
      exact I.hs r1
/-- a, b = e1, e2, two plain local names -/
@[simp] def sPar (i j : Nat) (ga gb : DE) : DS := fun E ρ => ga ρ fun x => gb ρ fun y => E.nx ((ρ.set i (some x)).set j (some y))
theorem ds_par (i j : Nat) {x y : Str} {a b : Expr} {ga gb : DE} {px py pt : Pos} {kt k2 : Nat} {pt2 : Pos} (hc : X.calm = true) (hn : X.N.Nodup) (ha : PD X Z a ga) (hb : PD X Z b gb) (hi : X.N[i]? = some x := by rfl) (hj : X.N[j]? = some y := by rfl) (hij : i ≠ j := by decide)
    (hx : X.env.scope.names.lookup x = some .local := by rfl) (hy : X.env.scope.names.lookup y = some .local := by rfl)
    (hw : swappedStores [.Tuple [.Name x px, .Name y py] kt pt] (.Tuple [a, b] k2 pt2) X.env = pure (some [x, y]) := by rfl)
    (hs : swapsWithSole [.Tuple [.Name x px, .Name y py] kt pt] (.Tuple [a, b] k2 pt2) pos.line X.env = pure false := by rfl)
    (s1 : starEach [a, b] X.env = (false, eval a X.env) :: starEach [b] X.env := by rfl) (s2 : starEach [b] X.env = (false, eval b X.env) :: starEach [] X.env := by rfl)
    (hlx : Z.lx = false := by rfl) (o1 : i ∉ Z.own := by first | decide | (dsimp only [Zs]; decide)) (o2 : j ∉ Z.own := by first | decide | (dsimp only [Zs]; decide)) (t1 : Z.tp ≠ some i := by first | decide | (dsimp only [Zs]; decide)) (t2 : Z.tp ≠ some j := by first | decide | (dsimp only [Zs]; decide)) :
    PDS X Z (.Assign [.Tuple [.Name x px, .Name y py] kt pt] (.Tuple [a, b] k2 pt2) pos) (sPar i j ga gb) :=
  ps_wk (ps_par hc hn hi hj hij hx hy (ga_cons ha (ga_cons hb ga_nil s2) s1) hw hs) fun D σ H ⟨C, M, ρ, E, I, hg, T⟩ => by
  refine ⟨C, M, ρ, fun es => match es with | [d, e] => E.nx ((ρ.set i (some d)).set j (some e)) | _ => False, I, hg, ?_⟩
  intro es hq vs H1 r1 I1 dvs
  rw [vw_of hlx] at dvs
  obtain ⟨d, e, rfl⟩ : ∃ d e, es = [d, e] := by
    match es, hq with
    | [d, e], _ => exact ⟨d, e, rfl⟩
  obtain ⟨v, w, rfl, d1, d2⟩ := dpa2 dvs
  exact ⟨v, w, rfl, T.nx _ hq _ _ _ (I.hs r1) ((I1.set o1 t1 d1).set o2 t2 d2)⟩
end
end Pg

namespace Pg
open PySem PySem.Spec PyProof.Rows L2

/-! ### list comprehensions -/
@[simp] def wipeD (ρ : En) : List Nat → En
  | [] => ρ
  | v :: vs => (wipeD ρ vs).set v none
theorem wipeD_length (ρ : En) : ∀ vs : List Nat, (wipeD ρ vs).length = ρ.length
  | [] => rfl
  | v :: vs => by unfold wipeD; rw [List.length_set, wipeD_length ρ vs]
theorem wipeD_some {ρ : En} {i : Nat} {d : PyData} : ∀ {vs : List Nat}, (wipeD ρ vs)[i]? = some (some d) → ρ[i]? = some (some d) ∧ i ∉ vs
  | [], h => ⟨h, by simp⟩
  | v :: vs, h => by
    unfold wipeD at h
    by_cases hi : v = i
    · subst hi
      by_cases hv : v < (wipeD ρ vs).length
      · rw [List.getElem?_set_self hv] at h; cases h
      · rw [List.getElem?_eq_none (by simpa using hv)] at h; cases h
    · rw [List.getElem?_set_ne hi] at h
      obtain ⟨h1, h2⟩ := wipeD_some h
      exact ⟨h1, by simp only [List.mem_cons, not_or]; exact ⟨fun e => hi e.symm, h2⟩⟩
theorem wipe_in {σ : L2.St} {i : Nat} : ∀ {vs : List Nat}, i ∈ vs → (wipe σ vs)[i]? = (σ[i]?).map fun _ => none
  | [], h => absurd h (by simp)
  | v :: vs, h => by
    unfold wipe
    by_cases hi : v = i
    · subst hi
      by_cases hv : v < σ.length
      · rw [List.getElem?_set_self (by rw [wipe_length]; exact hv), List.getElem?_eq_getElem hv]
        rfl
      · rw [List.getElem?_eq_none (by rw [List.length_set, wipe_length]; omega), List.getElem?_eq_none (by omega)]
        rfl
    · rw [List.getElem?_set_ne hi]
      exact wipe_in ((List.mem_cons.mp h).resolve_left fun e => hi e.symm)
theorem wipe_eq {σ τ : L2.St} {vs : List Nat} (hl : τ.length = σ.length) (h : ∀ j, j ∉ vs → τ[j]? = (wipe σ vs)[j]?) : wipe τ vs = wipe σ vs := by
  refine List.ext_getElem? fun j => ?_
  by_cases hj : j ∈ vs
  · rw [wipe_in hj, wipe_in hj]
    by_cases hlt : j < σ.length
    · rw [List.getElem?_eq_getElem hlt, List.getElem?_eq_getElem (by omega)]
      rfl
    · rw [List.getElem?_eq_none (by omega), List.getElem?_eq_none (by omega)]
  · rw [wipe_out hj, h j hj]
section
variable {K : PySem.W.Frag} {Z : Sg} {C : Ct} {M : Ms} {σ : L2.St} {ρ : En} {H : Hp}
theorem ED.wipe (E : ED K Z C M σ ρ H) {vs : List Nat} (ht : ∀ i, Z.tp = some i → i ∉ vs) : ED K Z C M (L2.wipe σ vs) (wipeD ρ vs) H := by
  refine ⟨E.rel, fun i h => ⟨(E.tap i h).1, (E.tap i h).2.1, ?_⟩, E.tal, E.sub, E.liv0, E.liv, by rw [wipe_length, wipeD_length]; exact E.len, fun i d n h => ?_, fun i d n h => ?_, fun i p h1 h2 => E.ol i p h1 (wipe_some h2).1, fun i j p d e h1 h2 h3 h4 h5 h6 => ?_, E.sd⟩
  · rw [wipe_out (ht i h)]
    exact (E.tap i h).2.2
  · obtain ⟨h1, h2⟩ := wipeD_some h
    rw [wipe_out h2]
    exact E.imm i d n h1
  · obtain ⟨h1, h2⟩ := wipeD_some h
    rw [wipe_out h2]
    exact E.own i d n h1
  · obtain ⟨k1, k2⟩ := wipeD_some h4
    obtain ⟨k3, k4⟩ := wipeD_some h5
    rw [wipe_out k2] at h6
    rw [wipe_out k4]
    exact E.inj i j p d e h1 h2 h3 k1 k3 h6
/-- an object that no slot holds is written -/
theorem ED.writeD (E : ED K Z C M σ ρ H) {D : Addr} {xs ys : List V} (h : H D = some (.lst xs)) (h0 : C.H0 D = none) (hM : M D = true) (hn : ∀ i, i ∈ Z.own → σ[i]? ≠ some (some (.ref D))) : ED K Z C M σ ρ (upd H D (.lst ys)) := by
  have eh : hid M (upd H D (.lst ys)) = hid M H := hid_upd hM
  refine ⟨fun b o hb e => ?_, fun j hj => ⟨(E.tap j hj).1, ?_, (E.tap j hj).2.2⟩, E.tal, E.sub, E.liv0, fun b m z => ?_, E.len, fun i d n e => ?_, fun i d n e => ?_, fun i q g1 g2 z => E.ol i q g1 g2 (by rw [upd_ne (fun y => hn i g1 (by rw [g2, y]))] at z; exact z), E.inj, fun q vd h1 h2 => by rw [eh]; exact E.sd q vd h1 h2⟩
  · have hbp : b ≠ D := fun z => by rw [z, h0] at e; cases e
    rw [upd_ne hbp]
    exact E.rel b o hb e
  · have htp : C.t ≠ D := fun z => E.liv0 _ (E.tap j hj).1 (by rw [z]; exact h0)
    have hlp : C.l ≠ D := fun z => E.tal j hj (by rw [z]; exact h0)
    exact (E.tap j hj).2.1.upd htp hlp
  · by_cases hb : b = D
    · subst hb
      rw [upd_same] at z
      cases z
    · rw [upd_ne hb] at z
      exact E.liv b m z
  · rw [eh]
    exact E.imm i d n e
  · rw [eh]
    obtain ⟨q, zs, fs, k1, k2, k3, k4, k5, k6⟩ := E.own i d n e
    refine ⟨q, zs, fs, k1, k2, ?_, k4, k5, k6⟩
    rw [upd_ne (fun z => hn i n (by rw [k1, z]))]
    exact k3
/-- .. is shown again -/
theorem ED.show_ {D : Addr} (E : ED K Z C (M.with D) σ ρ H) (hs : ∀ b, C.M0 b = true → M b = true) (hn : ∀ i, i ∈ Z.own → σ[i]? ≠ some (some (.ref D))) : ED K Z C M σ ρ H := by
  have le : Same (hid (M.with D) H) (hid M H) := hid_sub fun _ m => with_sub m
  refine ⟨E.rel, E.tap, E.tal, hs, E.liv0, fun b m => E.liv b (with_sub m), E.len, fun i d n e => ?_, fun i d n e => ?_, E.ol, E.inj, fun q vd h1 h2 => dp_mono le (E.sd q vd h1 h2)⟩
  · obtain ⟨v, h1, h2⟩ := E.imm i d n e
    exact ⟨v, h1, dp_mono le h2⟩
  · obtain ⟨q, zs, fs, k1, k2, k3, k4, k5, k6⟩ := E.own i d n e
    refine ⟨q, zs, fs, k1, k2, k3, k4, ?_, dpa_mono le k6⟩
    rw [with_ne (fun z => hn i n (by rw [k1, z]))] at k5
    exact k5
end
@[simp] def compD (b : Bd) (gt : DB) (ge : DE) : List PyData → En → List PyData → (List PyData → Prop) → Prop
  | [], _, acc, P => P acc
  | d :: r, ρ, acc, P => b d ρ fun ρ' => gt ρ' fun c => if c = true then ge ρ' fun y => compD b gt ge r ρ (acc ++ [y]) P else compD b gt ge r ρ acc P
@[simp] def gComp (vs : List Nat) (gi : DA) (b : Bd) (gt : DB) (ge : DE) : DA := fun ρ P => gi ρ fun ds => ds.length ≤ 100000 ∧ compD b gt ge ds (wipeD ρ vs) [] P
@[simp] def gYes : DB := fun _ P => P true
abbrev PDTs (X : Cx) (Z : Sg) (ifs : List Expr) (g : DB) : Prop := PTs X ifs (tGB X.K Z g)
theorem pts_wk {X : Cx} {ifs : List Expr} {t t' : TT} (h : PTs X ifs t) (k : ∀ σ H Q, t' σ H Q → t σ H Q) : PTs X ifs t' := ⟨fun pins s σ H Q I q => h.run pins s σ H Q I (k _ _ _ q)⟩
theorem dt_nil {X : Cx} {Z : Sg} : PDTs X Z [] gYes := pts_wk pts_nil fun σ H Q ⟨C, M, ρ, P, E, hg, k⟩ => k true hg H .refl E
theorem dt_one {X : Cx} {Z : Sg} {c : Expr} {g : DB} (h : PDB X Z c g) : PDTs X Z [c] g := pts_one h
section
variable {X : Cx} {Z : Sg} {elt tg iter : Expr} {ifs : List Expr} {scope : Scope} {own : List (Str × Nat)} {pos : Pos} {gi : DA} {b : Bd} {sl : List Nat} {gt : DB} {ge : DE} {tgt : TG}
/-- the reading of a comprehension -/
theorem tLc_of {K : PySem.W.Frag} {vs : List Nat} (hlx : Z.lx = false) (hb : BdOk K Z tgt b sl) (hsl : ∀ j ∈ sl, j ∈ vs) (ht : ∀ i, Z.tp = some i → i ∉ vs) {σ : L2.St} {H : Hp} {Q : VK} : tGF K Z (gComp vs gi b gt ge) σ H Q → tLc (tIt K Z gi) tgt (tGB K Z gt) (tG K Z ge) vs σ H Q := fun ⟨C, M, ρ, P, E, hgi, k⟩ => by
  refine ⟨C, M, ρ, _, E, hgi, fun ds ⟨hl, hds⟩ J H1 G r1 E1 go hG D hD => ?_⟩
  have s1 : Same H1 (upd H1 D (.lst [])) := same_new hD
  have sw : Same (hid M H1) (hid (M.with D) (upd H1 D (.lst []))) := hid_with hD
  have hn : ∀ i, i ∈ Z.own → σ[i]? ≠ some (some (.ref D)) := fun i hi z => E1.ol i D hi z hD
  have nD : H D = none := by
    cases e : H D with
    | none => rfl
    | some o =>
      by_cases q : Z.ta C.t = some D
      · obtain ⟨⟨i, h'⟩, e'⟩ := Sg.ta_some q
        subst e'
        exact absurd hD (E1.tap i h').2.1.live
      · rw [r1 D o q e] at hD
        cases hD
  refine ⟨fun i m H2 => m = ds.length - i ∧ i ≤ ds.length ∧ ∃ av acc, ED K Z C (M.with D) σ ρ H2 ∧ RA (Z.ta C.t) H H2 ∧ Same (hid M H) (hid (M.with D) H2) ∧ G (M.with D) H2 ∧ H2 D = some (.lst av) ∧ DpAll K (hid (M.with D) H2) av acc ∧ acc.length ≤ i ∧ compD b gt ge (ds.drop i) (wipeD ρ vs) acc P,
    ⟨ds.length, rfl, Nat.zero_le _, [], [], E1.alloc hD _ (fun _ => rfl) sw s1, r1.trans (.of s1), (E.hs r1).trans sw, go.keep _ _ _ _ hG sw, upd_same, .nil, Nat.zero_le _, hds⟩, ?_⟩
  rintro i m H2 ⟨rfl, hi, av, acc, E2, r2, s2, G2, hD2, da2, ha, F2⟩
  by_cases hlt : i < ds.length
  · rw [drop_at hlt] at F2
    obtain ⟨g1, g2⟩ := go.go _ H2 i _ E2.liv G2 (List.getElem?_eq_getElem hlt)
    have h0 : C.H0 D = none := E.free0 nD
    refine .inr ⟨g1, fun H' => ∃ av acc, ED K Z C (M.with D) σ ρ H' ∧ RA (Z.ta C.t) H H' ∧ Same (hid M H) (hid (M.with D) H') ∧ G (M.with D) H' ∧ H' D = some (.lst av) ∧ DpAll K (hid (M.with D) H') av acc ∧ acc.length ≤ i + 1 ∧ compD b gt ge (ds.drop (i + 1)) (wipeD ρ vs) acc P,
      fun H' ⟨av', acc', h⟩ => ⟨ds.length - (i + 1), by omega, rfl, hlt, av', acc', h⟩, fun x H3 y => ?_⟩
    obtain ⟨s3, dx⟩ := g2 x H3 y
    have E3 := E2.same s3
    refine hb C _ _ _ H3 x _ _ _ (E3.wipe ht) dx F2 fun ρ' hP σ' E3' hl' hj => ⟨wipe_eq (by rw [hl', wipe_length]) fun j hjv => by rw [hj j fun z => hjv (hsl j z)], ?_⟩
    refine ⟨C, _, ρ', _, E3', hP, fun c hc H4 r4 E4 => ?_⟩
    have nt : Z.ta C.t ≠ some D := E.not_t h0
    have ED4 : ED K Z C (M.with D) σ ρ H4 := E3.go r4 fun i h => (E4.tap i h).2.1
    have q24 : RA (Z.ta C.t) H2 H4 := (RA.of s3).trans r4
    cases c with
    | false =>
      have hs24 := E2.hs q24
      exact ⟨av, acc, ED4, r2.trans q24, s2.trans hs24, go.keep _ _ _ _ G2 hs24, q24 D _ nt hD2, dpa_mono hs24 da2, Nat.le_succ_of_le ha, hc⟩
    | true =>
      refine ⟨C, _, ρ', _, E4, hc, fun d hd v H5 r5 E5 dv => ?_⟩
      rw [vw_of hlx] at dv
      have ED5 : ED K Z C (M.with D) σ ρ H5 := ED4.go r5 fun i h => (E5.tap i h).2.1
      have q25 := q24.trans r5
      have hs25 := E2.hs q25
      have hD5 := q25 D _ nt hD2
      have eh : hid (M.with D) (upd H5 D (.lst (av ++ [v]))) = hid (M.with D) H5 := hid_upd with_self
      have n5 : ∀ b, b ≠ D → (upd H5 D (.lst (av ++ [v]))) b = H5 b := fun b hb => upd_ne hb
      refine ⟨av, hD5, by rw [dpa_len da2]; exact szlt (by omega), av ++ [v], acc ++ [d], ED5.writeD hD5 h0 with_self hn, fun b o hb e => ?_, by rw [eh]; exact s2.trans hs25, go.keep _ _ _ _ G2 (by rw [eh]; exact hs25), upd_same, by rw [eh]; exact dpa_app (dpa_mono hs25 da2) (.cons dv .nil), by rw [List.length_append]; exact Nat.succ_le_succ ha, hd⟩
      have hbD : b ≠ D := fun z => by rw [z, nD] at e; cases e
      rw [upd_ne hbD]
      exact (r2.trans q25) b o hb e
  · have e : i = ds.length := by omega
    subst e
    rw [List.drop_length] at F2
    refine .inl ⟨go.stop _ _ _ E2.liv G2 (Nat.le_refl _), k acc F2 D av H2 r2 (E2.show_ E.sub hn) E2 s2 nD hD2 (by rw [vw_of hlx]; exact da2)⟩
theorem df_comp (hc : X.calm = true) (hN : X.N.Nodup) (hi : PDI X Z tg iter gi) (ok : BlkOk X.N X.env.scope scope own)
    (hg : ∀ (s : Shared) (H : Hp) (C : Addr) (cl : List (Str × Addr)) (fp : List Addr), PG (X.blk s H scope (compEnvC scope cl C X.env) fp) tg tgt) (hb : BdOk X.K Z tgt b sl)
    (htt : ∀ (s : Shared) (H : Hp) (C : Addr) (cl : List (Str × Addr)) (fp : List Addr), PDTs (X.blk s H scope (compEnvC scope cl C X.env) fp) Z ifs gt)
    (he : ∀ (s : Shared) (H : Hp) (C : Addr) (cl : List (Str × Addr)) (fp : List Addr), PD (X.blk s H scope (compEnvC scope cl C X.env) fp) Z elt ge)
    (hlx : Z.lx = false := by rfl) (hsl : ∀ j ∈ sl, j ∈ own.map (·.2) := by decide) (ht : ∀ i, Z.tp = some i → i ∉ own.map (·.2) := by intro i h; cases h <;> decide) (hs : ∀ x, foldedSetIterable iter X.env x = pure x := by intro _; rfl) :
    PDF X Z (.ListComp elt [⟨tg, iter, ifs, 0⟩] scope pos) (gComp (own.map (·.2)) gi b gt ge) :=
  pe_wk (pe_lc hc hN hi ok hg htt he hs) fun _ _ _ => tLc_of hlx hb hsl ht
end

/-- two sources -/
@[simp] def compD2 (b : Bd) (gt : DB) (gi1 : DA) (vs1 : List Nat) (b1 : Bd) (gt1 : DB) (ge : DE) : List PyData → En → List PyData → (List PyData → Prop) → Prop
  | [], _, acc, P => P acc
  | d :: r, ρ, acc, P => b d ρ fun ρ' => gt ρ' fun c => if c = true then gi1 ρ' fun ds1 => acc.length + ds1.length ≤ 100000 ∧ compD b1 gt1 ge ds1 (wipeD ρ' vs1) acc fun acc' => compD2 b gt gi1 vs1 b1 gt1 ge r ρ acc' P else compD2 b gt gi1 vs1 b1 gt1 ge r ρ acc P
@[simp] def gComp2 (vs vs1 : List Nat) (gi : DA) (b : Bd) (gt : DB) (gi1 : DA) (b1 : Bd) (gt1 : DB) (ge : DE) : DA := fun ρ P => gi ρ fun ds => compD2 b gt gi1 vs1 b1 gt1 ge ds (wipeD ρ vs) [] P
section
variable {X : Cx} {Z : Sg} {elt tg iter tg1 iter1 : Expr} {ifs ifs1 : List Expr} {scope : Scope} {own : List (Str × Nat)} {pos : Pos} {gi gi1 : DA} {b b1 : Bd} {sl sl1 vs1 : List Nat} {gt gt1 : DB} {ge : DE} {tgt tgt1 : TG}
theorem tLc2_of {K : PySem.W.Frag} {vs : List Nat} (hlx : Z.lx = false) (hb : BdOk K Z tgt b sl) (hso : ∀ j ∈ sl, j ∉ Z.own) (hsl : ∀ j ∈ sl, j ∈ vs) (ht : ∀ i, Z.tp = some i → i ∉ vs) (hb1 : BdOk K Z tgt1 b1 sl1) (hsl1 : ∀ j ∈ sl1, j ∈ vs1) (ht1 : ∀ i, Z.tp = some i → i ∉ vs1) {σ : L2.St} {H : Hp} {Q : VK} :
    tGF K Z (gComp2 vs vs1 gi b gt gi1 b1 gt1 ge) σ H Q → tLc2 (tIt K Z gi) tgt (tGB K Z gt) (tIt K Z gi1) tgt1 (tGB K Z gt1) (tG K Z ge) vs vs1 σ H Q := fun ⟨C, M, ρ, P, E, hgi, k⟩ => by
  refine ⟨C, M, ρ, _, E, hgi, fun ds hds J H1 G r1 E1 go hG D hD => ?_⟩
  have s1 : Same H1 (upd H1 D (.lst [])) := same_new hD
  have sw : Same (hid M H1) (hid (M.with D) (upd H1 D (.lst []))) := hid_with hD
  have hn : ∀ i, i ∈ Z.own → σ[i]? ≠ some (some (.ref D)) := fun i hi z => E1.ol i D hi z hD
  have nD : H D = none := by
    cases e : H D with
    | none => rfl
    | some o =>
      by_cases q : Z.ta C.t = some D
      · obtain ⟨⟨i, h'⟩, e'⟩ := Sg.ta_some q
        subst e'
        exact absurd hD (E1.tap i h').2.1.live
      · rw [r1 D o q e] at hD
        cases hD
  refine ⟨fun i m H2 => m = ds.length - i ∧ i ≤ ds.length ∧ ∃ av acc, ED K Z C (M.with D) σ ρ H2 ∧ RA (Z.ta C.t) H H2 ∧ Same (hid M H) (hid (M.with D) H2) ∧ G (M.with D) H2 ∧ H2 D = some (.lst av) ∧ DpAll K (hid (M.with D) H2) av acc ∧ compD2 b gt gi1 vs1 b1 gt1 ge (ds.drop i) (wipeD ρ vs) acc P,
    ⟨ds.length, rfl, Nat.zero_le _, [], [], E1.alloc hD _ (fun _ => rfl) sw s1, r1.trans (.of s1), (E.hs r1).trans sw, go.keep _ _ _ _ hG sw, upd_same, .nil, hds⟩, ?_⟩
  rintro i m H2 ⟨rfl, hi, av, acc, E2, r2, s2, G2, hD2, da2, F2⟩
  by_cases hlt : i < ds.length
  · rw [drop_at hlt] at F2
    obtain ⟨g1, g2⟩ := go.go _ H2 i _ E2.liv G2 (List.getElem?_eq_getElem hlt)
    have h0 : C.H0 D = none := E.free0 nD
    have nt : Z.ta C.t ≠ some D := E.not_t h0
    refine .inr ⟨g1, fun H' => ∃ av acc, ED K Z C (M.with D) σ ρ H' ∧ RA (Z.ta C.t) H H' ∧ Same (hid M H) (hid (M.with D) H') ∧ G (M.with D) H' ∧ H' D = some (.lst av) ∧ DpAll K (hid (M.with D) H') av acc ∧ compD2 b gt gi1 vs1 b1 gt1 ge (ds.drop (i + 1)) (wipeD ρ vs) acc P,
      fun H' ⟨av', acc', h⟩ => ⟨ds.length - (i + 1), by omega, rfl, hlt, av', acc', h⟩, fun x H3 y => ?_⟩
    obtain ⟨s3, dx⟩ := g2 x H3 y
    have E3 := E2.same s3
    refine hb C _ _ _ H3 x _ _ _ (E3.wipe ht) dx F2 fun ρ' hP σ' E3' hl' hj => ⟨wipe_eq (by rw [hl', wipe_length]) fun j hjv => by rw [hj j fun z => hjv (hsl j z)], ?_⟩
    refine ⟨C, _, ρ', _, E3', hP, fun c hc H4 r4 E4 => ?_⟩
    have ED4 : ED K Z C (M.with D) σ ρ H4 := E3.go r4 fun i h => (E4.tap i h).2.1
    have q24 : RA (Z.ta C.t) H2 H4 := (RA.of s3).trans r4
    have hs24 := E2.hs q24
    cases c with
    | false => exact ⟨av, acc, ED4, r2.trans q24, s2.trans hs24, go.keep _ _ _ _ G2 hs24, q24 D _ nt hD2, dpa_mono hs24 da2, hc⟩
    | true =>
      refine ⟨C, _, ρ', _, E4, hc, fun ds1 ⟨hl1, hds1⟩ J1 H5 G1 r5 E5 go1 hG1 => ?_⟩
      have ED5 : ED K Z C (M.with D) σ ρ H5 := ED4.go r5 fun i h => (E5.tap i h).2.1
      have q25 := q24.trans r5
      have hs25 := E2.hs q25
      have hn1 : ∀ i, i ∈ Z.own → σ'[i]? ≠ some (some (.ref D)) := fun i hi z => by
        have hsli : i ∉ sl := fun q => hso i q hi
        rw [hj i hsli] at z
        exact hn i hi (wipe_some z).1
      refine ⟨fun j m H6 => m = ds1.length - j ∧ j ≤ ds1.length ∧ ∃ av acc', ED K Z C (M.with D) σ ρ H6 ∧ ED K Z C (M.with D) σ' ρ' H6 ∧ RA (Z.ta C.t) H H6 ∧ Same (hid M H) (hid (M.with D) H6) ∧ G (M.with D) H6 ∧ G1 (M.with D) H6 ∧ H6 D = some (.lst av) ∧ DpAll K (hid (M.with D) H6) av acc' ∧ acc'.length ≤ acc.length + j ∧
        compD b1 gt1 ge (ds1.drop j) (wipeD ρ' vs1) acc' (fun acc'' => compD2 b gt gi1 vs1 b1 gt1 ge (ds.drop (i + 1)) (wipeD ρ vs) acc'' P),
        ⟨ds1.length, rfl, Nat.zero_le _, av, acc, ED5, E5, r2.trans q25, s2.trans hs25, go.keep _ _ _ _ G2 hs25, hG1, q25 D _ nt hD2, dpa_mono hs25 da2, Nat.le_refl _, hds1⟩, ?_⟩
      rintro j m H6 ⟨rfl, hj1, av6, acc6, EA6, EB6, r6, s6, G6, GG6, hD6, da6, hl6, F6⟩
      by_cases hlt1 : j < ds1.length
      · rw [drop_at hlt1] at F6
        obtain ⟨gg1, gg2⟩ := go1.go _ H6 j _ EB6.liv GG6 (List.getElem?_eq_getElem hlt1)
        refine .inr ⟨gg1, fun H' => ∃ av acc', ED K Z C (M.with D) σ ρ H' ∧ ED K Z C (M.with D) σ' ρ' H' ∧ RA (Z.ta C.t) H H' ∧ Same (hid M H) (hid (M.with D) H') ∧ G (M.with D) H' ∧ G1 (M.with D) H' ∧ H' D = some (.lst av) ∧ DpAll K (hid (M.with D) H') av acc' ∧ acc'.length ≤ acc.length + (j + 1) ∧
          compD b1 gt1 ge (ds1.drop (j + 1)) (wipeD ρ' vs1) acc' (fun acc'' => compD2 b gt gi1 vs1 b1 gt1 ge (ds.drop (i + 1)) (wipeD ρ vs) acc'' P),
          fun H' ⟨av', acc', h⟩ => ⟨ds1.length - (j + 1), by omega, rfl, hlt1, av', acc', h⟩, fun x1 H7 y1 => ?_⟩
        obtain ⟨s7, dx1⟩ := gg2 x1 H7 y1
        have EA7 := EA6.same s7
        have EB7 := EB6.same s7
        refine hb1 C _ _ _ H7 x1 _ _ _ (EB7.wipe ht1) dx1 F6 fun ρ'' hP1 σ'' E7' hl'' hj'' => ⟨wipe_eq (by rw [hl'', wipe_length]) fun j' hjv => by rw [hj'' j' fun z => hjv (hsl1 j' z)], ?_⟩
        refine ⟨C, _, ρ'', _, E7', hP1, fun c1 hc1 H8 r8 E8 => ?_⟩
        have q68 : RA (Z.ta C.t) H6 H8 := (RA.of s7).trans r8
        have EA8 : ED K Z C (M.with D) σ ρ H8 := EA7.go r8 fun i h => (E8.tap i h).2.1
        have EB8 : ED K Z C (M.with D) σ' ρ' H8 := EB7.go r8 fun i h => (E8.tap i h).2.1
        have hs68 := EA6.hs q68
        cases c1 with
        | false => exact ⟨av6, acc6, EA8, EB8, r6.trans q68, s6.trans hs68, go.keep _ _ _ _ G6 hs68, go1.keep _ _ _ _ GG6 hs68, q68 D _ nt hD6, dpa_mono hs68 da6, Nat.le_succ_of_le hl6, hc1⟩
        | true =>
          refine ⟨C, _, ρ'', _, E8, hc1, fun d hd v H9 r9 E9 dv => ?_⟩
          rw [vw_of hlx] at dv
          have EA9 : ED K Z C (M.with D) σ ρ H9 := EA8.go r9 fun i h => (E9.tap i h).2.1
          have EB9 : ED K Z C (M.with D) σ' ρ' H9 := EB8.go r9 fun i h => (E9.tap i h).2.1
          have q69 := q68.trans r9
          have hs69 := EA6.hs q69
          have hD9 := q69 D _ nt hD6
          have eh : hid (M.with D) (upd H9 D (.lst (av6 ++ [v]))) = hid (M.with D) H9 := hid_upd with_self
          refine ⟨av6, hD9, by rw [dpa_len da6]; exact szlt (by omega), av6 ++ [v], acc6 ++ [d], EA9.writeD hD9 h0 with_self hn, EB9.writeD hD9 h0 with_self hn1, fun b o hb e => ?_, by rw [eh]; exact s6.trans hs69, go.keep _ _ _ _ G6 (by rw [eh]; exact hs69), go1.keep _ _ _ _ GG6 (by rw [eh]; exact hs69), upd_same, by rw [eh]; exact dpa_app (dpa_mono hs69 da6) (.cons dv .nil), by rw [List.length_append]; exact Nat.succ_le_succ hl6, hd⟩
          have hbD : b ≠ D := fun z => by rw [z, nD] at e; cases e
          rw [upd_ne hbD]
          exact (r6.trans q69) b o hb e
      · have e : j = ds1.length := by omega
        subst e
        rw [List.drop_length] at F6
        exact .inl ⟨go1.stop _ _ _ EB6.liv GG6 (Nat.le_refl _), av6, acc6, EA6, r6, s6, G6, hD6, da6, F6⟩
  · have e : i = ds.length := by omega
    subst e
    rw [List.drop_length] at F2
    refine .inl ⟨go.stop _ _ _ E2.liv G2 (Nat.le_refl _), k acc F2 D av H2 r2 (E2.show_ E.sub hn) E2 s2 nD hD2 (by rw [vw_of hlx]; exact da2)⟩
theorem df_comp2 (hc : X.calm = true) (hN : X.N.Nodup) (hi : PDI X Z tg iter gi) (ok : BlkOk X.N X.env.scope scope own)
    (hg : ∀ (s : Shared) (H : Hp) (C : Addr) (cl : List (Str × Addr)) (fp : List Addr), PG (X.blk s H scope (compEnvC scope cl C X.env) fp) tg tgt) (hb : BdOk X.K Z tgt b sl)
    (htt : ∀ (s : Shared) (H : Hp) (C : Addr) (cl : List (Str × Addr)) (fp : List Addr), PDTs (X.blk s H scope (compEnvC scope cl C X.env) fp) Z ifs gt)
    (hi1 : ∀ (s : Shared) (H : Hp) (C : Addr) (cl : List (Str × Addr)) (fp : List Addr), PDI (X.blk s H scope (compEnvC scope cl C X.env) fp) Z tg1 iter1 gi1)
    (hg1 : ∀ (s : Shared) (H : Hp) (C : Addr) (cl : List (Str × Addr)) (fp : List Addr), PG (X.blk s H scope (compEnvC scope cl C X.env) fp) tg1 tgt1) (hb1 : BdOk X.K Z tgt1 b1 vs1)
    (htt1 : ∀ (s : Shared) (H : Hp) (C : Addr) (cl : List (Str × Addr)) (fp : List Addr), PDTs (X.blk s H scope (compEnvC scope cl C X.env) fp) Z ifs1 gt1)
    (he : ∀ (s : Shared) (H : Hp) (C : Addr) (cl : List (Str × Addr)) (fp : List Addr), PD (X.blk s H scope (compEnvC scope cl C X.env) fp) Z elt ge)
    (hlx : Z.lx = false := by rfl) (hso : ∀ j ∈ sl, j ∉ Z.own := by first | decide | (dsimp only [Zs]; decide)) (hsl : ∀ j ∈ sl, j ∈ own.map (·.2) := by decide) (hv1 : ∀ j ∈ vs1, j ∈ own.map (·.2) := by decide) (ht : ∀ i, Z.tp = some i → i ∉ own.map (·.2) := by intro i h; cases h <;> decide) (hs : ∀ x, foldedSetIterable iter X.env x = pure x := by intro _; rfl) (hs1 : ∀ env x, foldedSetIterable iter1 env x = pure x := by intro _ _; rfl) :
    PDF X Z (.ListComp elt [⟨tg, iter, ifs, 0⟩, ⟨tg1, iter1, ifs1, 0⟩] scope pos) (gComp2 (own.map (·.2)) vs1 gi b gt gi1 b1 gt1 ge) :=
  pe_wk (pe_lc2 hc hN hi ok hv1 hg htt hi1 hg1 htt1 he hs hs1) fun _ _ _ => tLc2_of hlx hb hso hsl ht hb1 (fun _ h => h) fun i h hm => ht i h (hv1 i hm)
end

/-! ### a def by its body -/
@[simp] def startD (N : List Str) (ds : List PyData) : En := ds.map some ++ List.replicate (N.length - ds.length) none
section
variable {P : Program} {w : World} {K : PySem.W.Frag} {mg : Str → Option Value} {base : Heap} {x qual : Str} {st : Stmt} {f : Addr} {fd : FuncData} {N ps : List Str} {k : Nat} {T : List PyData → (PyData → Prop) → Prop}
theorem start_imm {H : Hp} {M : Ms} {vs : List V} {ds : List PyData} (dvs : DpAll K (hid M H) vs ds) : ∀ (i : Nat) (d : PyData), (startD N ds)[i]? = some (some d) → ∃ v, (L2.start N vs)[i]? = some (some v) ∧ Dp K (hid M H) v d := fun i d e => by
  unfold startD at e
  have hl := dpa_len dvs
  by_cases hi : i < ds.length
  · rw [List.getElem?_append_left (by rw [List.length_map]; exact hi), List.getElem?_map] at e
    have e' : ds[i]? = some d := by
      cases q : ds[i]? with
      | none => rw [q] at e; cases e
      | some a => rw [q] at e; cases e; rfl
    obtain ⟨v, h1, h2⟩ := dpa_get dvs e'
    refine ⟨v, ?_, h2⟩
    unfold L2.start
    rw [List.getElem?_append_left (by rw [List.length_map, hl]; exact hi), List.getElem?_map, h1]
    rfl
  · rw [List.getElem?_append_right (by rw [List.length_map]; omega), List.getElem?_replicate] at e
    split at e <;> cases e
theorem start_len {H : Hp} {M : Ms} {vs : List V} {ds : List PyData} (dvs : DpAll K (hid M H) vs ds) : (L2.start N vs).length = (startD N ds).length := by
  unfold L2.start startD
  rw [List.length_append, List.length_append, List.length_map, List.length_map, List.length_replicate, List.length_replicate, dpa_len dvs]
theorem start_own {vs : List V} {i : Nat} {p : Addr} (hi : ps.length ≤ i) (hl : vs.length = ps.length) : (L2.start N vs)[i]? ≠ some (some (.ref p)) := fun e => by
  unfold L2.start at e
  rw [List.getElem?_append_right (by rw [List.length_map]; omega), List.getElem?_replicate] at e
  split at e <;> cases e
/-- THE RULE: a def from data to data. own: the slots of its own lists -/
theorem okD (F : Fun K x qual st f fd) (S : FnScope N ps (defScope st)) (own : List Nat) (len : ∀ ds P, T ds P → ds.length = ps.length) (hown : ∀ i ∈ own, ps.length ≤ i)
    (hb : ∀ (cdv : Value) (A : Around) (outer : List Env) (s : Shared) (H : Hp) (E : XK), Room k (A.deeper (envOfC qual (defScope st) s.heap.objs.size f cdv)) →
      ∃ g, PDSs (cxOf CX0 P w K mg base N qual (defScope st) f cdv A outer s H E).nox ⟨own, none, false, false, none⟩ (defBody st) g ∧ ∀ ds P, T ds P → g { nx := fun _ => P .none, rt := P } (startD N ds)) :
    FnOk P w K mg base CX0 (k + 1) f fd ps (spD K T) := by
  refine F.ok S (fun vs H Q E ⟨M, ds, P, _, dvs, hT, _⟩ => by rw [dpa_len dvs]; exact len ds P hT) fun cdv A outer s H vs Q E hr ⟨M, ds, Pp, lv, dvs, hT, q⟩ => ?_
  obtain ⟨g, h1, h2⟩ := hb cdv A outer s H E hr
  refine ⟨_, h1, ?_⟩
  have hl := len ds Pp hT
  have nown : ∀ i d, i ∈ own → (startD N ds)[i]? ≠ some (some d) := fun i d hi e => by
    have hip := hown i hi
    unfold startD at e
    rw [List.getElem?_append_right (by rw [List.length_map]; omega), List.getElem?_replicate] at e
    split at e <;> cases e
  refine ⟨⟨M, H, 0, 0⟩, M, startD N ds, _, ?_, h2 ds Pp hT, ⟨fun ρ' hp M' σ' H' s' I' => ?_, fun d hd v H' r' _ dv _ => ?_, fun _ z => z.elim, fun _ z => z.elim⟩⟩
  · refine ⟨.refl, fun i h => (nomatch h), fun i h => (nomatch h), fun _ m => m, lv, lv, start_len dvs, fun i d _ e => start_imm dvs i d e, fun i d hi e => absurd e (nown i d hi), fun i p hi e => absurd e (start_own (ps := ps) (hown i hi) (by rw [dpa_len dvs, hl])), fun i j p d e h1 _ _ h4 _ _ => absurd h4 (nown i d h1), fun q vd h => nomatch h⟩
  · exact q _ hp _ H' I'.rel.same .non
  · exact q d hd v H' r'.same dv
/-- .. to a new list -/
theorem okF (F : Fun K x qual st f fd) (S : FnScope N ps (defScope st)) (own : List Nat) (len : ∀ ds P, T ds P → ds.length = ps.length) (hown : ∀ i ∈ own, ps.length ≤ i)
    (hb : ∀ (cdv : Value) (A : Around) (outer : List Env) (s : Shared) (H : Hp) (E : XK), Room k (A.deeper (envOfC qual (defScope st) s.heap.objs.size f cdv)) →
      ∃ g, PDSs (cxOf CX0 P w K mg base N qual (defScope st) f cdv A outer s H E).nox ⟨own, none, true, false, none⟩ (defBody st) g ∧ ∀ ds P, T ds P → g { nx := fun _ => False, rt := P } (startD N ds)) :
    FnOk P w K mg base CX0 (k + 1) f fd ps (spF K T) := by
  refine F.ok S (fun vs H Q E ⟨M, ds, P, _, dvs, hT, _⟩ => by rw [dpa_len dvs]; exact len ds P hT) fun cdv A outer s H vs Q E hr ⟨M, ds, Pp, lv, dvs, hT, q⟩ => ?_
  obtain ⟨g, h1, h2⟩ := hb cdv A outer s H E hr
  refine ⟨_, h1, ?_⟩
  have hl := len ds Pp hT
  have nown : ∀ i d, i ∈ own → (startD N ds)[i]? ≠ some (some d) := fun i d hi e => by
    have hip := hown i hi
    unfold startD at e
    rw [List.getElem?_append_right (by rw [List.length_map]; omega), List.getElem?_replicate] at e
    split at e <;> cases e
  refine ⟨⟨M, H, 0, 0⟩, M, startD N ds, _, ?_, h2 ds Pp hT, ⟨fun ρ' hp M' σ' H' s' I' => ?_, fun d hd v H' r' _ dv fr => ?_, fun _ z => z.elim, fun _ z => z.elim⟩⟩
  · refine ⟨.refl, fun i h => (nomatch h), fun i h => (nomatch h), fun _ m => m, lv, lv, start_len dvs, fun i d _ e => start_imm dvs i d e, fun i d hi e => absurd e (nown i d hi), fun i p hi e => absurd e (start_own (ps := ps) (hown i hi) (by rw [dpa_len dvs, hl])), fun i j p d e h1 _ _ h4 _ _ => absurd h4 (nown i d h1), fun q vd h => nomatch h⟩
  · exact hp.elim
  · exact q d hd v H' r'.same dv (fr rfl)
/-- .. that draws from the tape, its first argument, in slot 0 -/
theorem okT {p0 : Str} {ps' : List Str} (F : Fun K x qual st f fd) (S : FnScope N (p0 :: ps') (defScope st)) (own : List Nat) (len : ∀ ds P, T ds P → ds.length = ps'.length) (hown : ∀ i ∈ own, ps'.length + 1 ≤ i)
    (hb : ∀ (cdv : Value) (A : Around) (outer : List Env) (s : Shared) (H : Hp) (E : XK), Room k (A.deeper (envOfC qual (defScope st) s.heap.objs.size f cdv)) →
      ∃ g, PDSs (cxOf CX0 P w K mg base N qual (defScope st) f cdv A outer s H E).nox ⟨own, some 0, false, false, none⟩ (defBody st) g ∧ ∀ ds P, T ds P → g { nx := fun _ => P .none, rt := P } (none :: startD (N.drop 1) ds)) :
    FnOk P w K mg base CX0 (k + 1) f fd (p0 :: ps') (spT K T) := by
  refine F.ok S (fun vs H Q E ⟨M, t, l, vs', ds, P, e, _, _, _, dvs, hT, _⟩ => by rw [e, List.length_cons, List.length_cons, dpa_len dvs, len ds P hT]) fun cdv A outer s H vs Q E hr ⟨M, t, l, vs', ds, Pp, ev, hM, tp, lv, dvs, hT, q⟩ => ?_
  subst ev
  obtain ⟨g, h1, h2⟩ := hb cdv A outer s H E hr
  refine ⟨_, h1, ?_⟩
  have hl := len ds Pp hT
  have est : L2.start N (.ref t :: vs') = some (.ref t) :: L2.start (N.drop 1) vs' := by
    unfold L2.start
    rw [List.map_cons, List.cons_append, List.length_drop, List.length_cons]
    congr 3
    omega
  have nown : ∀ i d, i ∈ own → (none :: startD (N.drop 1) ds : En)[i]? ≠ some (some d) := fun i d hi e => by
    have hip := hown i hi
    obtain ⟨j, rfl⟩ : ∃ j, i = j + 1 := ⟨i - 1, by omega⟩
    rw [List.getElem?_cons_succ] at e
    unfold startD at e
    rw [List.getElem?_append_right (by rw [List.length_map]; omega), List.getElem?_replicate] at e
    split at e <;> cases e
  refine ⟨⟨M, H, t, l⟩, M, _, _, ?_, h2 ds Pp hT, ⟨fun ρ' hp M' σ' H' s' I' => ?_, fun d hd v H' r' t' dv _ => ?_, fun _ z => z.elim, fun _ z => z.elim⟩⟩
  · refine ⟨.refl, fun i h => ?_, fun i h => tp.liveL, fun _ m => m, lv, lv, ?_, fun i d _ e => ?_, fun i d hi e => absurd e (nown i d hi), fun i p hi e => absurd e (start_own (ps := p0 :: ps') (by rw [List.length_cons]; exact hown i hi) (by rw [List.length_cons, List.length_cons, dpa_len dvs, hl])), fun i j p d e h1 _ _ h4 _ _ => absurd h4 (nown i d h1), fun q vd h => nomatch h⟩
    · cases h
      exact ⟨hM, tp, by rw [est]; rfl⟩
    · rw [est, List.length_cons, List.length_cons, start_len dvs]
    · cases i with
      | zero => cases e
      | succ i =>
        rw [List.getElem?_cons_succ] at e
        obtain ⟨v, k1, k2⟩ := start_imm dvs i d e
        exact ⟨v, by rw [est, List.getElem?_cons_succ]; exact k1, k2⟩
  · exact q _ hp _ H' I'.rel (I'.tap 0 rfl).2.1 .non
  · exact q d hd v H' r' (t' 0 rfl) dv
end
end Pg

namespace Pg
open PySem PySem.Spec PyProof.Rows L2

/-! ### operators on data -/
@[simp] def oII (f : Int → Int → Int) : PyData → PyData → (PyData → Prop) → Prop := fun x y P => ∃ i j, x = .int i ∧ y = .int j ∧ P (.int (f i j))
@[simp] def oIIc (C : Int → Int → Prop) (f : Int → Int → Int) : PyData → PyData → (PyData → Prop) → Prop := fun x y P => ∃ i j, x = .int i ∧ y = .int j ∧ C i j ∧ P (.int (f i j))
@[simp] def oIB (f : Int → Int → Bool) : PyData → PyData → (PyData → Prop) → Prop := fun x y P => ∃ i j, x = .int i ∧ y = .int j ∧ P (.bool (f i j))
section
variable {K : PySem.W.Frag}
theorem o2_II (f : Int → Int → Int) : Op2 K (rI0 fun i j => .int (f i j)) (oII f) := fun M H v w x y P Q _ d1 d2 ⟨i, j, e1, e2, p⟩ k => by
  subst e1 e2
  exact ⟨i, j, dp_int d1, dp_int d2, k _ p _ H (Same.refl _) (.int _)⟩
theorem o2_IIc (C : Int → Int → Prop) (f : Int → Int → Int) : Op2 K (rI C fun i j => .int (f i j)) (oIIc C f) := fun M H v w x y P Q _ d1 d2 ⟨i, j, e1, e2, c, p⟩ k => by
  subst e1 e2
  exact ⟨i, j, dp_int d1, dp_int d2, c, k _ p _ H (Same.refl _) (.int _)⟩
theorem o2_IB (f : Int → Int → Bool) : Op2 K (rI0 fun i j => .bl (f i j)) (oIB f) := fun M H v w x y P Q _ d1 d2 ⟨i, j, e1, e2, p⟩ k => by
  subst e1 e2
  exact ⟨i, j, dp_int d1, dp_int d2, k _ p _ H (Same.refl _) (.bl _)⟩
@[simp] def oEq : PyData → PyData → (PyData → Prop) → Prop := fun x y P => (SeqAt.shaped x = true ∧ SeqAt.shaped y = true) ∧ P (.bool (PyData.eqv x y))
@[simp] def oNe : PyData → PyData → (PyData → Prop) → Prop := fun x y P => (SeqAt.shaped x = true ∧ SeqAt.shaped y = true) ∧ P (.bool (!PyData.eqv x y))
theorem o2_Eq : Op2 K (rEqD K) oEq := fun M H v w x y P Q _ d1 d2 ⟨⟨s1, s2⟩, p⟩ k => ⟨x, y, dp_kit (dp_mono (hid_le M H) d1) (shp_lay s1), dp_kit (dp_mono (hid_le M H) d2) (shp_lay s2), s1, s2, k _ p _ H (Same.refl _) (.bl _)⟩
theorem o2_Ne : Op2 K (rNeD K) oNe := fun M H v w x y P Q _ d1 d2 ⟨⟨s1, s2⟩, p⟩ k => ⟨x, y, dp_kit (dp_mono (hid_le M H) d1) (shp_lay s1), dp_kit (dp_mono (hid_le M H) d2) (shp_lay s2), s1, s2, k _ p _ H (Same.refl _) (.bl _)⟩
def isN : PyData → Bool
  | .none => true
  | _ => false
@[simp] theorem isN_none : isN .none = true := rfl
@[simp] theorem isN_bool {b : Bool} : isN (.bool b) = false := rfl
@[simp] theorem isN_int {i : Int} : isN (.int i) = false := rfl
@[simp] theorem isN_str {s : Str} : isN (.str s) = false := rfl
@[simp] theorem isN_list {l : List PyData} : isN (.list l) = false := rfl
@[simp] theorem isN_tuple {l : List PyData} : isN (.tuple l) = false := rfl
theorem dp_isN {H : Hp} {v : V} {x : PyData} (h : Dp K H v x) : decide (v = V.non) = isN x := by
  cases h <;> rfl
@[simp] def oIs : PyData → PyData → (PyData → Prop) → Prop := fun x y P => y = .none ∧ P (.bool (isN x))
@[simp] def oIsNot : PyData → PyData → (PyData → Prop) → Prop := fun x y P => y = .none ∧ P (.bool (!isN x))
theorem o2_Is : Op2 K (fun x y H Q => y = .non ∧ Q (.bl (decide (x = .non))) H) oIs := fun M H v w x y P Q _ d1 d2 ⟨e, p⟩ k => by
  subst e
  exact ⟨dp_non d2, by rw [dp_isN d1]; exact k _ p _ H (Same.refl _) (.bl _)⟩
theorem o2_IsNot : Op2 K (fun x y H Q => y = .non ∧ Q (.bl (!decide (x = .non))) H) oIsNot := fun M H v w x y P Q _ d1 d2 ⟨e, p⟩ k => by
  subst e
  exact ⟨dp_non d2, by rw [dp_isN d1]; exact k _ p _ H (Same.refl _) (.bl _)⟩
/-- a text, a text -/
@[simp] def oSS : PyData → PyData → (PyData → Prop) → Prop := fun x y P => ∃ s t, x = .str s ∧ y = .str t ∧ s.length + t.length ≤ sizeLine ∧ P (.str (s ++ t))
theorem o2_SS : Op2 K (fun x y H Q => ∃ i j, x = .str i ∧ y = .str j ∧ i.length + j.length ≤ sizeLine ∧ Q (.str (i ++ j)) H) oSS := fun M H v w x y P Q _ d1 d2 ⟨i, j, e1, e2, c, p⟩ k => by
  subst e1 e2
  exact ⟨i, j, dp_str d1, dp_str d2, c, k _ p _ H (Same.refl _) (.str _)⟩
/-- a sequence at a place -/
def seqD : PyData → Option (List PyData)
  | .list ds => some ds
  | .tuple ds => some ds
  | _ => none
@[simp] theorem seqD_none : seqD .none = none := rfl
@[simp] theorem seqD_bool {b : Bool} : seqD (.bool b) = none := rfl
@[simp] theorem seqD_int {i : Int} : seqD (.int i) = none := rfl
@[simp] theorem seqD_str {s : Str} : seqD (.str s) = none := rfl
@[simp] theorem seqD_list {l : List PyData} : seqD (.list l) = some l := rfl
@[simp] theorem seqD_tuple {l : List PyData} : seqD (.tuple l) = some l := rfl
@[simp] def oIx : PyData → PyData → (PyData → Prop) → Prop := fun x y P => ∃ ds i d, seqD x = some ds ∧ y = .int i ∧ atI ds i = some d ∧ P d
theorem atI_dpa {H : Hp} {xs : List V} {ds : List PyData} {i : Int} {d : PyData} (h : DpAll K H xs ds) (e : atI ds i = some d) : ∃ v, atI xs i = some v ∧ Dp K H v d := by
  unfold atI at e ⊢
  rw [dpa_len h]
  cases q : ixN ds.length i with
  | none => rw [q] at e; cases e
  | some j =>
    rw [q] at e
    exact dpa_get h e
theorem o2_Ix : Op2 K (rIx K) oIx := fun M H v w x y P Q _ d1 d2 ⟨ds, i, d, e1, e2, e3, p⟩ k => by
  subst e2
  cases x with
  | list es =>
    cases e1
    obtain ⟨a, xs, rfl, h1, h2⟩ := dp_list d1
    obtain ⟨u, h3, h4⟩ := atI_dpa h2 e3
    exact .inl ⟨a, xs, i, u, rfl, dp_int d2, (hid_le M H).seq h1, h3, k _ p _ H (Same.refl _) h4⟩
  | tuple es =>
    cases e1
    obtain ⟨a, xs, rfl, h1, h2⟩ := dp_tuple d1
    obtain ⟨u, h3, h4⟩ := atI_dpa h2 e3
    exact .inr (.inl ⟨a, xs, i, u, rfl, dp_int d2, same_sqT (hid_le M H) h1, h3, k _ p _ H (Same.refl _) h4⟩)
  | _ => cases e1
@[simp] def oIxS : PyData → PyData → (PyData → Prop) → Prop := fun x y P => ∃ s i c, x = .str s ∧ y = .int i ∧ s.length ≤ sizeLine ∧ atI s.cps.toList i = some c ∧ P (.str ⟨#[c]⟩)
theorem o2_IxS : Op2 K rIxS oIxS := fun M H v w x y P Q _ d1 d2 ⟨s, i, c, e1, e2, e3, e4, p⟩ k => by
  subst e1 e2
  exact ⟨s, i, c, dp_str d1, dp_int d2, e3, e4, k _ p _ H (Same.refl _) (.str _)⟩
/-- a tuple, a tuple -/
@[simp] def oCatT : PyData → PyData → (PyData → Prop) → Prop := fun x y P => ∃ ds es, x = .tuple ds ∧ y = .tuple es ∧ ds.length + es.length ≤ 100000 ∧ P (.tuple (ds ++ es))
theorem o2_CatT : Op2 K (rCatA K) oCatT := fun M H v w x y P Q lv d1 d2 ⟨ds, es, e1, e2, c, p⟩ k => by
  subst e1 e2
  obtain ⟨a, xs, rfl, h1, h2⟩ := dp_tuple d1
  obtain ⟨b, ys, rfl, h3, h4⟩ := dp_tuple d2
  refine ⟨a, b, xs, ys, rfl, rfl, same_sqT (hid_le M H) h1, same_sqT (hid_le M H) h3, by rw [dpa_len h2, dpa_len h4]; exact sz c, fun e => ?_, fun _ e => ?_, fun _ _ q hq => ?_⟩
  · subst e
    cases h2
    exact k _ p _ H (Same.refl _) d2
  · subst e
    cases h4
    rw [List.append_nil] at p
    exact k _ p _ H (Same.refl _) d1
  · have s2 : Same H (upd H q (.tup (xs ++ ys))) := same_new hq
    exact k _ p _ _ s2 (.tup (.inl (.inl (hid_some.mpr ⟨lv.fresh hq, upd_same⟩))) (dpa_mono ((RA.of s2).hid (t := none) fun _ h => (nomatch h)) (dpa_app h2 h4)))
/-- is it in the list (data of any make) -/
@[simp] def oIn : PyData → PyData → (PyData → Prop) → Prop := fun x y P => ∃ ds, y = .list ds ∧ (SeqAt.shaped x = true ∧ SeqAt.shaped (.list ds) = true) ∧ P (.bool (ds.any fun z => PyData.eqv z x))
@[simp] def oNotIn : PyData → PyData → (PyData → Prop) → Prop := fun x y P => ∃ ds, y = .list ds ∧ (SeqAt.shaped x = true ∧ SeqAt.shaped (.list ds) = true) ∧ P (.bool (!ds.any fun z => PyData.eqv z x))
theorem o2_In : Op2 K (rInD K) oIn := fun M H v w x y P Q _ d1 d2 ⟨ds, e, ⟨s1, s2⟩, p⟩ k => by
  subst e
  exact ⟨x, ds, dp_kit (dp_mono (hid_le M H) d1) (shp_lay s1), dp_kit (dp_mono (hid_le M H) d2) (shp_lay s2), s1, s2, k _ p _ H (Same.refl _) (.bl _)⟩
theorem o2_NotIn : Op2 K (rNotInD K) oNotIn := fun M H v w x y P Q _ d1 d2 ⟨ds, e, ⟨s1, s2⟩, p⟩ k => by
  subst e
  exact ⟨x, ds, dp_kit (dp_mono (hid_le M H) d1) (shp_lay s1), dp_kit (dp_mono (hid_le M H) d2) (shp_lay s2), s1, s2, k _ p _ H (Same.refl _) (.bl _)⟩
/-- one place -/
@[simp] def oNeg : PyData → (PyData → Prop) → Prop := fun x P => ∃ i, x = .int i ∧ P (.int (-i))
theorem o1_Neg : Op1 K (rU fun i => .int (-i)) oNeg := fun M H v x P Q _ d1 ⟨i, e, p⟩ k => by
  subst e
  exact ⟨i, dp_int d1, k _ p _ H (Same.refl _) (.int _)⟩

/-! ### built-in calls -/
def lenD : PyData → Option Nat
  | .list ds => some ds.length
  | .tuple ds => some ds.length
  | .str s => if s.length ≤ sizeLine then some s.length else none
  | _ => none
@[simp] theorem lenD_list {l : List PyData} : lenD (.list l) = some l.length := rfl
@[simp] theorem lenD_tuple {l : List PyData} : lenD (.tuple l) = some l.length := rfl
@[simp] theorem lenD_str {s : Str} : lenD (.str s) = if s.length ≤ sizeLine then some s.length else none := rfl
@[simp] def oLen : List PyData → (PyData → Prop) → Prop := fun ds P => ∃ x n, ds = [x] ∧ lenD x = some n ∧ P (.int n)
theorem dpa1 {H : Hp} {xs : List V} {x : PyData} (h : DpAll K H xs [x]) : ∃ v, xs = [v] ∧ Dp K H v x := by
  cases h with
  | cons h1 h2 =>
    cases h2
    exact ⟨_, rfl, h1⟩
theorem on_Len : OpN K (fun xs H Q => ∃ x n, xs = [x] ∧ LenV K x H n ∧ Q (.int n) H) oLen := fun M H vs ds P Q _ dvs ⟨x, n, e, hl, p⟩ k => by
  subst e
  obtain ⟨v, rfl, dv⟩ := dpa1 dvs
  refine ⟨v, n, rfl, ?_, k _ p _ H (Same.refl _) (.int _)⟩
  cases x with
  | list es =>
    cases hl
    obtain ⟨a, xs, rfl, h1, h2⟩ := dp_list dv
    exact .inl ⟨xs, (hid_le M H).seq h1, (dpa_len h2).symm⟩
  | tuple es =>
    cases hl
    obtain ⟨a, xs, rfl, h1, h2⟩ := dp_tuple dv
    exact .inr ⟨xs, same_sqT (hid_le M H) h1, (dpa_len h2).symm⟩
  | str s =>
    rw [dp_str dv]
    have hl : (if s.length ≤ sizeLine then some s.length else none) = some n := hl
    by_cases hz : s.length ≤ sizeLine
    · rw [if_pos hz] at hl
      cases hl
      exact ⟨hz, rfl⟩
    · rw [if_neg hz] at hl
      cases hl
  | _ => cases hl
@[simp] def oInt : List PyData → (PyData → Prop) → Prop := fun ds P => (∃ i, ds = [.int i] ∧ P (.int i)) ∨ ∃ b, ds = [.bool b] ∧ P (.int (if b = true then 1 else 0))
theorem on_Int : OpN K (fun xs H Q => (∃ i, xs = [V.int i] ∧ Q (.int i) H) ∨ ∃ k, xs = [V.bl k] ∧ Q (.int (if k then 1 else 0)) H) oInt := fun M H vs ds P Q _ dvs h k => by
  rcases h with ⟨i, e, p⟩ | ⟨b, e, p⟩
  · subst e
    obtain ⟨v, rfl, dv⟩ := dpa1 dvs
    exact .inl ⟨i, by rw [dp_int dv], k _ p _ H (Same.refl _) (.int _)⟩
  · subst e
    obtain ⟨v, rfl, dv⟩ := dpa1 dvs
    exact .inr ⟨b, by rw [dp_bl dv], k _ p _ H (Same.refl _) (.int _)⟩
@[simp] def oAll : List PyData → (PyData → Prop) → Prop := fun ds P => ∃ bs : List Bool, ds = [.list (bs.map .bool)] ∧ P (.bool (bs.all id))
@[simp] def oAny : List PyData → (PyData → Prop) → Prop := fun ds P => ∃ bs : List Bool, ds = [.list (bs.map .bool)] ∧ P (.bool (bs.any id))
@[simp] def oSum : List PyData → (PyData → Prop) → Prop := fun ds P => ∃ ns : List Int, ds = [.list (ns.map .int)] ∧ P (.int ns.sum)
theorem on_All : OpN K (rAll K) oAll := fun M H vs ds P Q _ dvs ⟨bs, e, p⟩ k => by
  subst e
  obtain ⟨v, rfl, dv⟩ := dpa1 dvs
  obtain ⟨a, xs, rfl, h1, h2⟩ := dp_list dv
  rw [dpa_bls h2] at h1
  exact ⟨a, bs, rfl, (hid_le M H).seq h1, k _ p _ H (Same.refl _) (.bl _)⟩
theorem on_Any : OpN K (rAny K) oAny := fun M H vs ds P Q _ dvs ⟨bs, e, p⟩ k => by
  subst e
  obtain ⟨v, rfl, dv⟩ := dpa1 dvs
  obtain ⟨a, xs, rfl, h1, h2⟩ := dp_list dv
  rw [dpa_bls h2] at h1
  exact ⟨a, bs, rfl, (hid_le M H).seq h1, k _ p _ H (Same.refl _) (.bl _)⟩
theorem on_Sum : OpN K (rSum K) oSum := fun M H vs ds P Q _ dvs ⟨ns, e, p⟩ k => by
  subst e
  obtain ⟨v, rfl, dv⟩ := dpa1 dvs
  obtain ⟨a, xs, rfl, h1, h2⟩ := dp_list dv
  rw [dpa_ints h2] at h1
  exact ⟨a, ns, rfl, (hid_le M H).seq h1, k _ p _ H (Same.refl _) (.int _)⟩
@[simp] def oMin : List PyData → (PyData → Prop) → Prop := fun ds P => ∃ i j : Int, ds = [.int i, .int j] ∧ P (.int (if j < i then j else i))
@[simp] def oMax : List PyData → (PyData → Prop) → Prop := fun ds P => ∃ i j : Int, ds = [.int i, .int j] ∧ P (.int (if j > i then j else i))
theorem on_Min : OpN K (fun xs H Q => ∃ i j, xs = [V.int i, V.int j] ∧ Q (.int (if j < i then j else i)) H) oMin := fun M H vs ds P Q _ dvs ⟨i, j, e, p⟩ k => by
  subst e
  exact ⟨i, j, dpa_ints (ns := [i, j]) dvs, k _ p _ H (Same.refl _) (.int _)⟩
theorem on_Max : OpN K (fun xs H Q => ∃ i j, xs = [V.int i, V.int j] ∧ Q (.int (if j > i then j else i)) H) oMax := fun M H vs ds P Q _ dvs ⟨i, j, e, p⟩ k => by
  subst e
  exact ⟨i, j, dpa_ints (ns := [i, j]) dvs, k _ p _ H (Same.refl _) (.int _)⟩
@[simp] def oStr : List PyData → (PyData → Prop) → Prop := fun ds P => ∃ i : Int, ds = [.int i] ∧ i.natAbs.log2 < 1920 ∧ P (.str (toString i))
theorem on_Str : OpN K (fun xs H Q => ∃ i, xs = [V.int i] ∧ i.natAbs.log2 < 1920 ∧ Q (.str (toString i)) H) oStr := fun M H vs ds P Q _ dvs ⟨i, e, c, p⟩ k => by
  subst e
  exact ⟨i, dpa_ints (ns := [i]) dvs, c, k _ p _ H (Same.refl _) (.str _)⟩
@[simp] def oTuple : List PyData → (PyData → Prop) → Prop := fun ds P => ∃ x es, ds = [x] ∧ seqD x = some es ∧ P (.tuple es)
theorem on_Tuple : OpN K (fun xs H Q => ∃ p ys, xs = [V.ref p] ∧ ((SqL K H p ys ∧ ∀ l, H l = none → Q (.ref l) (upd H l (.tup ys))) ∨ (SqT K H p ys ∧ Q (.ref p) H))) oTuple := fun M H vs ds P Q lv dvs ⟨x, es, e, hs, p⟩ k => by
  subst e
  obtain ⟨v, rfl, dv⟩ := dpa1 dvs
  cases x with
  | list es' =>
    cases hs
    obtain ⟨a, xs, rfl, h1, h2⟩ := dp_list dv
    refine ⟨a, xs, rfl, .inl ⟨(hid_le M H).seq h1, fun l hl => ?_⟩⟩
    have s2 : Same H (upd H l (.tup xs)) := same_new hl
    exact k _ p _ _ s2 (.tup (.inl (.inl (hid_some.mpr ⟨lv.fresh hl, upd_same⟩))) (dpa_mono ((RA.of s2).hid (t := none) fun _ h => (nomatch h)) h2))
  | tuple es' =>
    cases hs
    obtain ⟨a, xs, rfl, h1, h2⟩ := dp_tuple dv
    exact ⟨a, xs, rfl, .inr ⟨same_sqT (hid_le M H) h1, k _ p _ H (Same.refl _) dv⟩⟩
  | _ => cases hs
end
section
variable {X : Cx} {Z : Sg} {a b c e : Expr} {ga gb gc : DE} {pos : Pos}
theorem de_add (ha : PD X Z a ga) (hb : PD X Z b gb) : PD X Z (.BinOp a .Add b pos) (g2 (oII fun i j => i + j) ga gb) := de_op op_add (o2_II _) ha hb
theorem de_sub (ha : PD X Z a ga) (hb : PD X Z b gb) : PD X Z (.BinOp a .Sub b pos) (g2 (oII fun i j => i - j) ga gb) := de_op op_sub (o2_II _) ha hb
theorem de_mul (ha : PD X Z a ga) (hb : PD X Z b gb) : PD X Z (.BinOp a .Mult b pos) (g2 (oIIc CMul fun i j => i * j) ga gb) := de_op op_mul (o2_IIc _ _) ha hb
theorem de_mulW (ha : PD X Z a ga) (hb : PD X Z b gb) : PD X Z (.BinOp a .Mult b pos) (g2 (oIIc CMulW fun i j => i * j) ga gb) := de_op op_mulW (o2_IIc _ _) ha hb
theorem de_fdiv (ha : PD X Z a ga) (hb : PD X Z b gb) : PD X Z (.BinOp a .FloorDiv b pos) (g2 (oIIc CDiv fun i j => i / j) ga gb) := de_op op_fdiv (o2_IIc _ _) ha hb
theorem de_fdivW (ha : PD X Z a ga) (hb : PD X Z b gb) : PD X Z (.BinOp a .FloorDiv b pos) (g2 (oIIc CDivW fun i j => i / j) ga gb) := de_op op_fdivW (o2_IIc _ _) ha hb
theorem de_mod (ha : PD X Z a ga) (hb : PD X Z b gb) : PD X Z (.BinOp a .Mod b pos) (g2 (oIIc (fun _ j => 0 < j) fun i j => i % j) ga gb) := de_op op_mod (o2_IIc _ _) ha hb
theorem de_pow (ha : PD X Z a ga) (hb : PD X Z b gb) : PD X Z (.BinOp a .Pow b pos) (g2 (oIIc CPow fun i j => i ^ j.toNat) ga gb) := de_op op_pow (o2_IIc _ _) ha hb
theorem de_adds (ha : PD X Z a ga) (hb : PD X Z b gb) : PD X Z (.BinOp a .Add b pos) (g2 oSS ga gb) := de_op op_add_str o2_SS ha hb
theorem de_catT (ha : PD X Z a ga) (hb : PD X Z b gb) : PD X Z (.BinOp a .Add b pos) (g2 oCatT ga gb) := de_op op_catA o2_CatT ha hb
theorem de_neg (ha : PD X Z a ga) : PD X Z (.UnaryOp .USub a pos) (g1 oNeg ga) := pe_wk (pe_un un_neg ha) fun σ H Q ⟨C, M, ρ, P, E, hg, k⟩ =>
  ⟨C, M, ρ, _, E, hg, fun x hx v H1 r1 E1 dv => o1_Neg (vw Z.lx C M) H1 v x P _ (E1.lv _) dv hx fun z hz u H2 s2 du => k z hz u H2 (r1.trans (.of s2)) (E1.same s2) du⟩
theorem de_ixq (ha : PD X Z a ga) (hb : PD X Z b gb) (hs : PlainIx b := by intro _ _; rfl) : PD X Z (.Subscript a b pos) (g2 oIx ga gb) := de_ix ix_seq o2_Ix ha hb hs
theorem de_ixs (ha : PD X Z a ga) (hb : PD X Z b gb) (hs : PlainIx b := by intro _ _; rfl) : PD X Z (.Subscript a b pos) (g2 oIxS ga gb) := de_ix ix_str o2_IxS ha hb hs
/-- comparisons as values -/
theorem de_lt (ha : PD X Z a ga) (hb : PD X Z b gb) : PD X Z (.Compare a [.Lt] [b] pos) (g2 (oIB fun i j => decide (i < j)) ga gb) := de_cmp op_lt (o2_IB _) ha hb (nomark _)
theorem de_le (ha : PD X Z a ga) (hb : PD X Z b gb) : PD X Z (.Compare a [.LtE] [b] pos) (g2 (oIB fun i j => decide (i ≤ j)) ga gb) := de_cmp op_le (o2_IB _) ha hb (nomark _)
theorem de_gt (ha : PD X Z a ga) (hb : PD X Z b gb) : PD X Z (.Compare a [.Gt] [b] pos) (g2 (oIB fun i j => decide (j < i)) ga gb) := de_cmp op_gt (o2_IB _) ha hb (nomark _)
theorem de_ge (ha : PD X Z a ga) (hb : PD X Z b gb) : PD X Z (.Compare a [.GtE] [b] pos) (g2 (oIB fun i j => decide (j ≤ i)) ga gb) := de_cmp op_ge (o2_IB _) ha hb (nomark _)
theorem de_eq {k : Nat} (hr : Room k X.A) (ha : PD X Z a ga) (hb : PD X Z b gb) : PD X Z (.Compare a [.Eq] [b] pos) (g2 oEq ga gb) := de_cmp (op_eqD hr.units) o2_Eq ha hb (nomark _)
theorem de_ne {k : Nat} (hr : Room k X.A) (ha : PD X Z a ga) (hb : PD X Z b gb) : PD X Z (.Compare a [.NotEq] [b] pos) (g2 oNe ga gb) := de_cmp (op_neD hr.units) o2_Ne ha hb (nomark _)
theorem de_is (ha : PD X Z a ga) (hb : PD X Z b gb) : PD X Z (.Compare a [.Is] [b] pos) (g2 oIs ga gb) := de_cmp op_isN o2_Is ha hb (nomark _)
theorem de_isnot (ha : PD X Z a ga) (hb : PD X Z b gb) : PD X Z (.Compare a [.IsNot] [b] pos) (g2 oIsNot ga gb) := de_cmp op_notN o2_IsNot ha hb (nomark _)
/-- .. as tests -/
theorem db_lt (ha : PD X Z a ga) (hb : PD X Z b gb) : PDB X Z (.Compare a [.Lt] [b] pos) (gT (g2 (oIB fun i j => decide (i < j)) ga gb)) := db_cmp op_lt (o2_IB _) ha hb (nomark _)
theorem db_le (ha : PD X Z a ga) (hb : PD X Z b gb) : PDB X Z (.Compare a [.LtE] [b] pos) (gT (g2 (oIB fun i j => decide (i ≤ j)) ga gb)) := db_cmp op_le (o2_IB _) ha hb (nomark _)
theorem db_gt (ha : PD X Z a ga) (hb : PD X Z b gb) : PDB X Z (.Compare a [.Gt] [b] pos) (gT (g2 (oIB fun i j => decide (j < i)) ga gb)) := db_cmp op_gt (o2_IB _) ha hb (nomark _)
theorem db_ge (ha : PD X Z a ga) (hb : PD X Z b gb) : PDB X Z (.Compare a [.GtE] [b] pos) (gT (g2 (oIB fun i j => decide (j ≤ i)) ga gb)) := db_cmp op_ge (o2_IB _) ha hb (nomark _)
theorem db_eq {k : Nat} (hr : Room k X.A) (ha : PD X Z a ga) (hb : PD X Z b gb) : PDB X Z (.Compare a [.Eq] [b] pos) (gT (g2 oEq ga gb)) := db_cmp (op_eqD hr.units) o2_Eq ha hb (nomark _)
theorem db_ne {k : Nat} (hr : Room k X.A) (ha : PD X Z a ga) (hb : PD X Z b gb) : PDB X Z (.Compare a [.NotEq] [b] pos) (gT (g2 oNe ga gb)) := db_cmp (op_neD hr.units) o2_Ne ha hb (nomark _)
theorem db_is (ha : PD X Z a ga) (hb : PD X Z b gb) : PDB X Z (.Compare a [.Is] [b] pos) (gT (g2 oIs ga gb)) := db_cmp op_isN o2_Is ha hb (nomark _)
theorem db_isnot (ha : PD X Z a ga) (hb : PD X Z b gb) : PDB X Z (.Compare a [.IsNot] [b] pos) (gT (g2 oIsNot ga gb)) := db_cmp op_notN o2_IsNot ha hb (nomark _)
theorem de_lele (ha : PD X Z a ga) (hb : PD X Z b gb) (hc : PD X Z c gc) (hm : lastMarks [.LtE, .LtE] [b, c] = false := by with_unfolding_all rfl) : PD X Z (.Compare a [.LtE, .LtE] [b, c] pos) (gChain (oIB fun i j => decide (i ≤ j)) (oIB fun i j => decide (i ≤ j)) ga gb gc) := de_chain op_le op_le (o2_IB _) (o2_IB _) ha hb hc hm
theorem db_lele (ha : PD X Z a ga) (hb : PD X Z b gb) (hc : PD X Z c gc) (hm : lastMarks [.LtE, .LtE] [b, c] = false := by with_unfolding_all rfl) : PDB X Z (.Compare a [.LtE, .LtE] [b, c] pos) (gT (gChain (oIB fun i j => decide (i ≤ j)) (oIB fun i j => decide (i ≤ j)) ga gb gc)) := db_chain op_le op_le (o2_IB _) (o2_IB _) ha hb hc hm
theorem db_ltlt (ha : PD X Z a ga) (hb : PD X Z b gb) (hc : PD X Z c gc) (hm : lastMarks [.Lt, .Lt] [b, c] = false := by with_unfolding_all rfl) : PDB X Z (.Compare a [.Lt, .Lt] [b, c] pos) (gT (gChain (oIB fun i j => decide (i < j)) (oIB fun i j => decide (i < j)) ga gb gc)) := db_chain op_lt op_lt (o2_IB _) (o2_IB _) ha hb hc hm
variable {gs : DA} {p : Pos}
theorem de_len (hm : X.mg "len" = none) (h : PD X Z e ga) (hg : Gl X "len" := by rfl) (he : starEach [e] X.env = (false, eval e X.env) :: starEach [] X.env := by rfl) (hpl : (backTo pos (starEach ([] : List Expr) X.env)).any (·.1) = false := by rfl) : PD X Z (.Call (.Name "len" p) [e] [] pos) (gB oLen (gaCons ga gaNil)) :=
  de_callB call_len on_Len hg hm PySem.boot_len (ga_cons h ga_nil he) (by decide) (by decide) he hpl
/-- len of what is only looked at -/
@[simp] def gLenQ (g : DA) : DE := fun ρ P => g ρ fun ds => P (.int ds.length)
theorem de_lenQ {tu : Bool} {g : DA} (hm : X.mg "len" = none) (h : PDQ X Z e tu g) (hg : Gl X "len" := by rfl) (he : starEach [e] X.env = (false, eval e X.env) :: starEach [] X.env := by rfl) (hpl : (backTo pos (starEach ([] : List Expr) X.env)).any (·.1) = false := by rfl) : PD X Z (.Call (.Name "len" p) [e] [] pos) (gLenQ g) :=
  pe_wk (pe_callB call_len_seq hg hm PySem.boot_len (pa_cons h pa_nil he) (by decide) (by decide) he hpl) fun σ H Q ⟨C, M, ρ, P, E, hg, k⟩ => ⟨C, M, ρ, _, E, hg, fun ds hd q xs H1 r1 E1 sq dvs => by
    refine ⟨q, xs, rfl, ?_, by rw [dpa_len dvs]; exact k _ hd _ H1 r1 E1 (.int _)⟩
    cases tu with
    | true => exact .inr sq
    | false => exact .inl sq⟩
theorem de_intc (hm : X.mg "int" = none) (h : PD X Z e ga) (hg : Gl X "int" := by rfl) (he : starEach [e] X.env = (false, eval e X.env) :: starEach [] X.env := by rfl) (hpl : (backTo pos (starEach ([] : List Expr) X.env)).any (·.1) = false := by rfl) : PD X Z (.Call (.Name "int" p) [e] [] pos) (gB oInt (gaCons ga gaNil)) :=
  de_callTy call_int1 on_Int hg hm (by decide +kernel) (ga_cons h ga_nil he) (by decide) (by decide) he hpl
theorem de_all (hc : X.calm = true) (hm : X.mg "all" = none) (h : PD X Z e ga) (hg : Gl X "all" := by rfl) (he : starEach [e] X.env = (false, eval e X.env) :: starEach [] X.env := by rfl) (hpl : (backTo pos (starEach ([] : List Expr) X.env)).any (·.1) = false := by rfl) : PD X Z (.Call (.Name "all" p) [e] [] pos) (gB oAll (gaCons ga gaNil)) :=
  de_callB (cr_all hc) on_All hg hm (by decide +kernel) (ga_cons h ga_nil he) (by decide) (by decide) he hpl
theorem de_any (hc : X.calm = true) (hm : X.mg "any" = none) (h : PD X Z e ga) (hg : Gl X "any" := by rfl) (he : starEach [e] X.env = (false, eval e X.env) :: starEach [] X.env := by rfl) (hpl : (backTo pos (starEach ([] : List Expr) X.env)).any (·.1) = false := by rfl) : PD X Z (.Call (.Name "any" p) [e] [] pos) (gB oAny (gaCons ga gaNil)) :=
  de_callB (cr_any hc) on_Any hg hm (by decide +kernel) (ga_cons h ga_nil he) (by decide) (by decide) he hpl
theorem de_sum (hc : X.calm = true) (hm : X.mg "sum" = none) (h : PD X Z e ga) (hg : Gl X "sum" := by rfl) (he : starEach [e] X.env = (false, eval e X.env) :: starEach [] X.env := by rfl) (hpl : (backTo pos (starEach ([] : List Expr) X.env)).any (·.1) = false := by rfl) : PD X Z (.Call (.Name "sum" p) [e] [] pos) (gB oSum (gaCons ga gaNil)) :=
  de_callB (cr_sum hc) on_Sum hg hm (by decide +kernel) (ga_cons h ga_nil he) (by decide) (by decide) he hpl
theorem de_tuplec (hm : X.mg "tuple" = none) (h : PD X Z e ga) (hg : Gl X "tuple" := by rfl) (he : starEach [e] X.env = (false, eval e X.env) :: starEach [] X.env := by rfl) (hpl : (backTo pos (starEach ([] : List Expr) X.env)).any (·.1) = false := by rfl) : PD X Z (.Call (.Name "tuple" p) [e] [] pos) (gB oTuple (gaCons ga gaNil)) :=
  de_callTy call_tuple_of on_Tuple hg hm (by decide +kernel) (ga_cons h ga_nil he) (by decide) (by decide) he hpl

/-! ### isinstance -/
def tyD : PyData → String
  | .none => "NoneType"
  | .bool _ => "bool"
  | .int _ => "int"
  | .str _ => "str"
  | .list _ => "list"
  | .tuple _ => "tuple"
  | .dict _ => "dict"
theorem sqL_ty {K : PySem.W.Frag} {H : Hp} {a : Addr} {xs : List V} (h : SqL K H a xs) : TyX K H (.ref a) (.type "list") := by
  rcases h with (h | ⟨o, h⟩) | ⟨o, its, n, h1, h2, _⟩
  · exact .base (.lst h)
  · exact .base (.frz h)
  · exact .kList h1 h2
theorem sqT_ty {K : PySem.W.Frag} {H : Hp} {a : Addr} {xs : List V} (h : SqT K H a xs) : TyX K H (.ref a) (.type "tuple") := by
  rcases h with (h | ⟨o, h⟩) | ⟨o, its, n, h1, h2, _⟩
  · exact .base (.tup h)
  · exact .fTuple h
  · exact .kTuple h1 h2
theorem dp_ty {K : PySem.W.Frag} {H : Hp} {v : V} {d : PyData} (h : Dp K H v d) : TyX K H v (.type (tyD d)) := by
  cases h with
  | non => exact .base .non
  | bl b => exact .base (.bl b)
  | int i => exact .base (.int i)
  | str x => exact .base (.str x)
  | lst hs _ => exact sqL_ty hs
  | tup hs _ => exact sqT_ty hs
  | dct hs _ => exact .base (.dK hs)
@[simp] def gIsi (f : PyData → Bool) (g : DE) : DE := fun ρ P => g ρ fun d => P (.bool (f d))
theorem de_isi {T : String} {xT : Str} {f : PyData → Bool} {pT : Pos} (hm : X.mg "isinstance" = none) (hmT : X.mg xT = none) (hv : bootBuiltins xT = some (.type T)) (hf : ∀ d, True → kitB (tyD d) T = some (f d)) (h : PD X Z e ga) (hg : Gl X "isinstance" := by rfl) (hgT : Gl X xT := by rfl)
    (hn : xT ≠ "__name__" := by decide) (hdb : (xT == ("__debug__" : Str)) = false := by decide)
    (he : starEach [e, .Name xT pT] X.env = (false, eval e X.env) :: starEach [.Name xT pT] X.env := by rfl) (he2 : starEach [.Name xT pT] X.env = (false, eval (.Name xT pT) X.env) :: starEach [] X.env := by rfl) (hpl : (backTo pos (starEach [.Name xT pT] X.env)).any (·.1) = false := by rfl) :
    PD X Z (.Call (.Name "isinstance" p) [e, .Name xT pT] [] pos) (gIsi f ga) :=
  pe_wk (pe_callB call_isi hg hm (by decide +kernel) (pa_cons h (pa_cons (pe_bltn (v := .ty T) hgT hmT hv rfl hn hdb) pa_nil he2) he) (by decide) (by decide) he hpl) fun σ H Q ⟨C, M, ρ, P, E, hg, k⟩ => ⟨C, M, ρ, _, E, hg, fun d hd v H1 r1 E1 dv =>
    ⟨v, .ty T, _, _, f d, rfl, .ty T, dp_ty (dp_mono (hid_le _ H1) dv), kit_ty (hf d True.intro), k _ hd _ H1 r1 E1 (.bl _)⟩⟩
theorem de_isi2 {T U : String} {xT xU : Str} {f : PyData → Bool} {pT pU pt : Pos} {kt : Nat} (hm : X.mg "isinstance" = none) (hmT : X.mg xT = none) (hmU : X.mg xU = none) (hv : bootBuiltins xT = some (.type T)) (hvU : bootBuiltins xU = some (.type U))
    (hf : ∀ d, True → ∃ b c, kitB (tyD d) T = some b ∧ kitB (tyD d) U = some c ∧ f d = (b || c)) (h : PD X Z e ga) (hg : Gl X "isinstance" := by rfl) (hgT : Gl X xT := by rfl) (hgU : Gl X xU := by rfl)
    (hn : xT ≠ "__name__" := by decide) (hdb : (xT == ("__debug__" : Str)) = false := by decide) (hnU : xU ≠ "__name__" := by decide) (hdbU : (xU == ("__debug__" : Str)) = false := by decide)
    (h1 : starEach [.Name xT pT, .Name xU pU] X.env = (false, eval (.Name xT pT) X.env) :: starEach [.Name xU pU] X.env := by rfl) (h2 : starEach [.Name xU pU] X.env = (false, eval (.Name xU pU) X.env) :: starEach [] X.env := by rfl)
    (he : starEach [e, .Tuple [.Name xT pT, .Name xU pU] kt pt] X.env = (false, eval e X.env) :: starEach [.Tuple [.Name xT pT, .Name xU pU] kt pt] X.env := by rfl) (he2 : starEach [.Tuple [.Name xT pT, .Name xU pU] kt pt] X.env = (false, eval (.Tuple [.Name xT pT, .Name xU pU] kt pt) X.env) :: starEach [] X.env := by rfl) (hpl : (backTo pos (starEach [.Tuple [.Name xT pT, .Name xU pU] kt pt] X.env)).any (·.1) = false := by rfl) :
    PD X Z (.Call (.Name "isinstance" p) [e, .Tuple [.Name xT pT, .Name xU pU] kt pt] [] pos) (gIsi f ga) :=
  pe_wk (pe_callB call_isiT hg hm (by decide +kernel) (pa_cons h (pa_cons (pe_tup (pa_cons (pe_bltn (v := .ty T) hgT hmT hv rfl hn hdb) (pa_cons (pe_bltn (v := .ty U) hgU hmU hvU rfl hnU hdbU) pa_nil h2) h1)) pa_nil he2) he) (by decide) (by decide) he hpl) fun σ H Q ⟨C, M, ρ, P, E, hg, k⟩ => ⟨C, M, ρ, _, E, hg, fun d hd v H1 r1 E1 dv => by
    refine ⟨by show 2 ≤ sizeLine; decide, fun q hq => ?_⟩
    have s2 : Same H1 (upd H1 q (.tup [.ty T, .ty U])) := same_new hq
    obtain ⟨b1, c1, e1, e2, e3⟩ := hf d True.intro
    refine ⟨v, q, [.ty T, .ty U], _, [.type T, .type U], f d, rfl, upd_same, .cons (.ty T) (.cons (.ty U) .nil), dp_ty (dp_mono s2 (dp_mono (hid_le _ H1) dv)), ?_, k _ hd _ _ (r1.trans (.of s2)) (E1.same s2) (.bl _)⟩
    refine kitAny_cons (kit_ty e1) (fun hb => kitAny_cons (kit_ty e2) (fun hc => ?_) fun hc => ?_) fun hb => ?_
    · rw [e3, hb, hc]
      exact kitAny_nil
    · rw [e3, hb, hc]
      rfl
    · rw [e3, hb]
      rfl⟩
def isList : PyData → Bool
  | .list _ => true
  | _ => false
def isTuple : PyData → Bool
  | .tuple _ => true
  | _ => false
def isBool : PyData → Bool
  | .bool _ => true
  | _ => false
def isIntB : PyData → Bool
  | .bool _ => true
  | .int _ => true
  | _ => false
def isStr : PyData → Bool
  | .str _ => true
  | _ => false
@[simp] theorem isList_none : isList .none = false := rfl
@[simp] theorem isList_bool {b : Bool} : isList (.bool b) = false := rfl
@[simp] theorem isList_int {i : Int} : isList (.int i) = false := rfl
@[simp] theorem isList_str {s : Str} : isList (.str s) = false := rfl
@[simp] theorem isList_list {l : List PyData} : isList (.list l) = true := rfl
@[simp] theorem isList_tuple {l : List PyData} : isList (.tuple l) = false := rfl
@[simp] theorem isTuple_none : isTuple .none = false := rfl
@[simp] theorem isTuple_bool {b : Bool} : isTuple (.bool b) = false := rfl
@[simp] theorem isTuple_int {i : Int} : isTuple (.int i) = false := rfl
@[simp] theorem isTuple_str {s : Str} : isTuple (.str s) = false := rfl
@[simp] theorem isTuple_list {l : List PyData} : isTuple (.list l) = false := rfl
@[simp] theorem isTuple_tuple {l : List PyData} : isTuple (.tuple l) = true := rfl
@[simp] theorem isBool_none : isBool .none = false := rfl
@[simp] theorem isBool_bool {b : Bool} : isBool (.bool b) = true := rfl
@[simp] theorem isBool_int {i : Int} : isBool (.int i) = false := rfl
@[simp] theorem isBool_str {s : Str} : isBool (.str s) = false := rfl
@[simp] theorem isBool_list {l : List PyData} : isBool (.list l) = false := rfl
@[simp] theorem isBool_tuple {l : List PyData} : isBool (.tuple l) = false := rfl
@[simp] theorem isIntB_none : isIntB .none = false := rfl
@[simp] theorem isIntB_bool {b : Bool} : isIntB (.bool b) = true := rfl
@[simp] theorem isIntB_int {i : Int} : isIntB (.int i) = true := rfl
@[simp] theorem isIntB_str {s : Str} : isIntB (.str s) = false := rfl
@[simp] theorem isIntB_list {l : List PyData} : isIntB (.list l) = false := rfl
@[simp] theorem isIntB_tuple {l : List PyData} : isIntB (.tuple l) = false := rfl
@[simp] theorem isStr_none : isStr .none = false := rfl
@[simp] theorem isStr_bool {b : Bool} : isStr (.bool b) = false := rfl
@[simp] theorem isStr_int {i : Int} : isStr (.int i) = false := rfl
@[simp] theorem isStr_str {s : Str} : isStr (.str s) = true := rfl
@[simp] theorem isStr_list {l : List PyData} : isStr (.list l) = false := rfl
@[simp] theorem isStr_tuple {l : List PyData} : isStr (.tuple l) = false := rfl
theorem kit_list : ∀ d, True → kitB (tyD d) "list" = some (isList d) := fun d h => by
  cases d <;> (dsimp only [tyD, isList]; decide +kernel)
theorem kit_tuple : ∀ d, True → kitB (tyD d) "tuple" = some (isTuple d) := fun d h => by
  cases d <;> (dsimp only [tyD, isTuple]; decide +kernel)
theorem kit_bool : ∀ d, True → kitB (tyD d) "bool" = some (isBool d) := fun d h => by
  cases d <;> (dsimp only [tyD, isBool]; decide +kernel)
theorem kit_int : ∀ d, True → kitB (tyD d) "int" = some (isIntB d) := fun d h => by
  cases d <;> (dsimp only [tyD, isIntB]; decide +kernel)
theorem kit_str : ∀ d, True → kitB (tyD d) "str" = some (isStr d) := fun d h => by
  cases d <;> (dsimp only [tyD, isStr]; decide +kernel)
end
@[simp] theorem atI_0 {α : Type} {a : α} {l : List α} : atI (a :: l) 0 = some a := atI_nat (j := 0) rfl
@[simp] theorem atI_1 {α : Type} {a b : α} {l : List α} : atI (a :: b :: l) 1 = some b := atI_nat (j := 1) rfl
@[simp] theorem atI_2 {α : Type} {a b c : α} {l : List α} : atI (a :: b :: c :: l) 2 = some c := atI_nat (j := 2) rfl
@[simp] theorem atI_3 {α : Type} {a b c d : α} {l : List α} : atI (a :: b :: c :: d :: l) 3 = some d := atI_nat (j := 3) rfl
@[simp] theorem atI_4 {α : Type} {a b c d e : α} {l : List α} : atI (a :: b :: c :: d :: e :: l) 4 = some e := atI_nat (j := 4) rfl
@[simp] theorem atI_5 {α : Type} {a b c d e f : α} {l : List α} : atI (a :: b :: c :: d :: e :: f :: l) 5 = some f := atI_nat (j := 5) rfl
@[simp] theorem atI_6 {α : Type} {a b c d e f g : α} {l : List α} : atI (a :: b :: c :: d :: e :: f :: g :: l) 6 = some g := atI_nat (j := 6) rfl
@[simp] theorem atI_7 {α : Type} {a b c d e f g h : α} {l : List α} : atI (a :: b :: c :: d :: e :: f :: g :: h :: l) 7 = some h := atI_nat (j := 7) rfl
@[simp] theorem atI_8 {α : Type} {a b c d e f g h i : α} {l : List α} : atI (a :: b :: c :: d :: e :: f :: g :: h :: i :: l) 8 = some i := atI_nat (j := 8) rfl
@[simp] theorem atI_9 {α : Type} {a b c d e f g h i j : α} {l : List α} : atI (a :: b :: c :: d :: e :: f :: g :: h :: i :: j :: l) 9 = some j := atI_nat (j := 9) rfl
@[simp] theorem atI_10 {α : Type} {a b c d e f g h i j k : α} {l : List α} : atI (a :: b :: c :: d :: e :: f :: g :: h :: i :: j :: k :: l) 10 = some k := atI_nat (j := 10) rfl
@[simp] theorem atI_11 {α : Type} {a b c d e f g h i j k m : α} {l : List α} : atI (a :: b :: c :: d :: e :: f :: g :: h :: i :: j :: k :: m :: l) 11 = some m := atI_nat (j := 11) rfl
end Pg

namespace Pg
open PySem PySem.Spec PyProof.Rows L2

/-! ### ranges with a step -/
/-- how many numbers a range has -/
def rcount (i j c : Int) : Nat := if 0 < c then (if i < j then ((j - i - 1) / c + 1).toNat else 0) else (if j < i then ((i - j - 1) / (-c) + 1).toNat else 0)
theorem rcount_size {i j c : Int} (hc : c ≠ 0) : Builtin.Range.rangeSize i j c = (rcount i j c : Int) := by
  unfold Builtin.Range.rangeSize rcount
  by_cases h : 0 < c
  · rw [if_pos (show c > 0 from h), if_pos h]
    by_cases h2 : i < j
    · rw [if_pos h2, if_pos h2]
      have : 0 ≤ (j - i - 1) / c := Int.ediv_nonneg (by omega) (by omega)
      omega
    · rw [if_neg h2, if_neg h2]
      rfl
  · rw [if_neg (show ¬ c > 0 from h), if_neg h]
    by_cases h2 : j < i
    · rw [if_pos (show i > j from h2), if_pos h2]
      have : 0 ≤ (i - j - 1) / (-c) := Int.ediv_nonneg (by omega) (by omega)
      omega
    · rw [if_neg (show ¬ i > j from h2), if_neg h2]
      rfl
theorem rcount_le {i j c : Int} : (rcount i j c : Int) ≤ (j - i).natAbs := by
  unfold rcount
  by_cases h : 0 < c
  · rw [if_pos h]
    by_cases h2 : i < j
    · rw [if_pos h2]
      have h3 : (j - i - 1) / c ≤ j - i - 1 := by
        have := Int.ediv_le_self (a := j - i - 1) c (by omega)
        exact this
      omega
    · rw [if_neg h2]
      omega
  · rw [if_neg h]
    by_cases h2 : j < i
    · rw [if_pos h2]
      have h3 : (i - j - 1) / (-c) ≤ i - j - 1 := Int.ediv_le_self (a := i - j - 1) (-c) (by omega)
      omega
    · rw [if_neg h2]
      omega
theorem rgC_of {i j c : Int} (hc : c ≠ 0) (h1 : c.natAbs < 1073741824) (hi : i.natAbs < 2 ^ 60) (hj : j.natAbs < 2 ^ 60) : RgC i j c (rcount i j c) := by
  refine ⟨hc, h1, ?_, rcount_size hc⟩
  have hl := rcount_le (i := i) (j := j) (c := c)
  have e := rcount_size (i := i) (j := j) hc
  have h0 : (0 : Int) ≤ (rcount i j c : Int) := Int.natCast_nonneg _
  have fit : ∀ x : Int, x.natAbs < 2 ^ 62 → Builtin.Range.rangeFitsLong x = true := fun x hx => by
    unfold Builtin.Range.rangeFitsLong
    rw [Bool.and_eq_true, decide_eq_true_eq, decide_eq_true_eq]
    omega
  unfold Builtin.Range.small
  rw [e, fit i (by omega), fit j (by omega), fit c (by omega), fit _ (by omega), fit (j + (c - 1)) (by omega), fit (j + (c + 1)) (by omega)]
  simp
section
variable {X : Cx} {Z : Sg} {a b c e : Expr} {ga gb gc : DE} {gs : DA} {ta : TA} {p p2 p3 pos : Pos}
def tLstRg3 (ta : TA) : TE := fun σ H Q => ta σ H fun vs H1 => ∃ (i j c : Int) (n : Nat), vs = [.int i, .int j, .int c] ∧ RgC i j c n ∧ n ≤ 100000 ∧ ∀ q, H1 q = none → Q (.ref q) (upd H1 q (.lst ((List.range n).map fun k => V.int (i + (k : Nat) * c))))
theorem vals_rgC {i c : Int} {n : Nat} {acc : Array Value} (h : ItemsOf (fun k v => ∃ t, v = .int (i + k * c) t) acc n) : Vals ((List.range n).map fun k => V.int (i + (k : Nat) * c)) acc.toList := by
  have e : acc.toList.length = n := by rw [Array.length_toList]; exact h.1
  rw [← e]
  refine vals_of_get acc.toList _ fun j u hj => ?_
  obtain ⟨t, rfl⟩ := h.2 j u (by rw [← hj, Array.getElem?_toList])
  exact ⟨t, rfl⟩
theorem pe_listRg3 (hc : X.calm = true) (hml : X.mg "list" = none) (hm : X.mg "range" = none) (ha : PA X [a, b, c] ta) (hgl : Gl X "list") (hg : Gl X "range")
    (hs : starEach [a, b, c] X.env = (false, eval a X.env) :: starEach [b, c] X.env) (hpl : (backTo p3 (starEach [b, c] X.env)).any (·.1) = false)
    (na : starEach [.Call (.Name "range" p2) [a, b, c] [] p3] X.env = (false, eval (.Call (.Name "range" p2) [a, b, c] [] p3) X.env) :: starEach [] X.env) :
    PE X (.Call (.Name "list" p) [.Call (.Name "range" p2) [a, b, c] [] p3] [] pos) (tLstRg3 ta) := by
  refine ⟨fun pins s σ H Q I h => ?_⟩
  refine Call_ (ld_blt I hgl hml boot_list (PyProof.Rows.callWith_type1 (args_cons (?_ : wpAny _ _ (eval _ _) _ _ _) na) na))
  refine Call_ (ld_blt I hg hm boot_range (PyProof.Rows.callWith_type1 (thn (ha.run p3 pins s σ H _ I h) fun us s1 ⟨vs, H1, I1, r1, q1⟩ => ?_) hs hpl))
  obtain ⟨i, j, k, n, e, ⟨c0, c1, c2, c3⟩, hn, q⟩ := q1
  subst e
  cases r1 with
  | cons r rr =>
    cases rr with
    | cons r' rr =>
      cases rr with
      | cons r'' rr =>
        cases rr
        obtain ⟨t, rfl⟩ := r
        obtain ⟨t', rfl⟩ := r'
        obtain ⟨t'', rfl⟩ := r''
        refine call_range_3 c0 ?_ (.inl (PyProof.noPylong_small c1))
        have I2 : Inv X pins σ H1 { s1 with heap := s1.heap.push { cls := .type "range", data := .fields #[.int i t, .int j t', .int k t''] } } := I1.kept (t' := s1.toks) fun b o e => Heap.get?_push_of_some _ e
        refine args_nil (call_list_range (n := n) (I1.ok.hd hc) (IsRange.new s1.heap i j k t t' t'') c2 c3 (by omega) fun h' tk acc c' hk e' hi => ?_)
        refine ⟨.ref (s1.heap.push { cls := .type "range", data := .fields #[.int i t, .int j t', .int k t''] }).objs.size, _, I2.laid hk (Nat.le_refl _) (show ObjOk X.prog X.w _ _ _ (.lst ((List.range n).map fun m => V.int (i + (m : Nat) * k))) from ⟨?_, acc.toList, c', vals_rgC hi, ?_⟩), rfl, q _ (I2.hok.fresh (Nat.le_refl _))⟩
        · rw [List.length_map, List.length_range]
          exact sz hn
        · rw [Array.toArray_toList]; exact e'
@[simp] def gLR3 (gs : DA) : DA := fun ρ P => gs ρ fun ds => ∃ i j c, ds = [.int i, .int j, .int c] ∧ (c ≠ 0 ∧ c.natAbs < 1073741824 ∧ i.natAbs < 2 ^ 60 ∧ j.natAbs < 2 ^ 60 ∧ rcount i j c ≤ 100000) ∧ P (rngC i c (rcount i j c))
theorem dpa_rngC {K : PySem.W.Frag} {H : Hp} {i c : Int} {n : Nat} : DpAll K H ((List.range n).map fun k => V.int (i + (k : Nat) * c)) (rngC i c n) := by
  have := dpa_of_ints (K := K) (H := H) ((List.range n).map fun k => (i + (k : Nat) * c : Int))
  rw [List.map_map, List.map_map] at this
  exact this
theorem dpa_rng {K : PySem.W.Frag} {H : Hp} {i : Int} {n : Nat} : DpAll K H ((List.range n).map fun k => V.int (i + (k : Nat))) (rng i n) := by
  have := dpa_of_ints (K := K) (H := H) ((List.range n).map fun k => (i + (k : Nat) : Int))
  rw [List.map_map, List.map_map] at this
  exact this
theorem df_listR3 (hc : X.calm = true) (hml : X.mg "list" = none) (hm : X.mg "range" = none) (ha : PDA X Z [a, b, c] gs) (hgl : Gl X "list" := by rfl) (hg : Gl X "range" := by rfl)
    (hs : starEach [a, b, c] X.env = (false, eval a X.env) :: starEach [b, c] X.env := by rfl) (hpl : (backTo p3 (starEach [b, c] X.env)).any (·.1) = false := by rfl)
    (na : starEach [.Call (.Name "range" p2) [a, b, c] [] p3] X.env = (false, eval (.Call (.Name "range" p2) [a, b, c] [] p3) X.env) :: starEach [] X.env := by rfl) :
    PDF X Z (.Call (.Name "list" p) [.Call (.Name "range" p2) [a, b, c] [] p3] [] pos) (gLR3 gs) :=
  pe_wk (pe_listRg3 hc hml hm ha hgl hg hs hpl na) fun σ H Q ⟨C, M, ρ, P, E, hg, k⟩ => ⟨C, M, ρ, _, E, hg, fun ds ⟨i, j, c, e, ⟨c0, c1, c2, c3, c4⟩, hp⟩ vs H1 r1 E1 dvs => by
    subst e
    exact ⟨i, j, c, _, dpa_ints (ns := [i, j, c]) dvs, rgC_of c0 c1 c2 c3, c4, fun q hq => tGF_new E k hp r1 E1 dpa_rngC hq⟩⟩
@[simp] def gLR2 (ga gb : DE) : DA := fun ρ P => ga ρ fun x => gb ρ fun y => ∃ i j : Int, x = .int i ∧ y = .int j ∧ (i.natAbs < 2 ^ 60 ∧ j.natAbs < 2 ^ 60 ∧ (j - i).toNat ≤ 100000) ∧ P (rng i (j - i).toNat)
theorem df_listR2 (hc : X.calm = true) (hml : X.mg "list" = none) (hm : X.mg "range" = none) (ha : PD X Z a ga) (hb : PD X Z b gb) (hgl : Gl X "list" := by rfl) (hg : Gl X "range" := by rfl)
    (n1 : starEach [a, b] X.env = (false, eval a X.env) :: starEach [b] X.env := by rfl) (n2 : starEach [b] X.env = (false, eval b X.env) :: starEach [] X.env := by rfl) (hp : (backTo p3 (starEach [b] X.env)).any (·.1) = false := by rfl)
    (na : starEach [.Call (.Name "range" p2) [a, b] [] p3] X.env = (false, eval (.Call (.Name "range" p2) [a, b] [] p3) X.env) :: starEach [] X.env := by rfl) :
    PDF X Z (.Call (.Name "list" p) [.Call (.Name "range" p2) [a, b] [] p3] [] pos) (gLR2 ga gb) :=
  pe_wk (pe_listRg hc hgl hml (prg_2 hg hm ha hb n1 n2 hp) na) fun σ H Q ⟨C, M, ρ, P, E, hg, k⟩ => ⟨C, M, ρ, _, E, hg, fun x hx v H1 r1 E1 dv => ⟨C, M, ρ, _, E1, hx, fun y ⟨i, j, e1, e2, ⟨c1, c2, c3⟩, hp⟩ w H2 r2 E2 dw => by
    subst e1 e2
    refine ⟨i, j, dp_int dv, dp_int dw, ⟨by omega, by omega, by omega, by omega, by omega⟩, fun q hq => ?_⟩
    exact tGF_new E k hp (r1.trans r2) E2 dpa_rng hq⟩⟩
@[simp] def gLR1 (ga : DE) : DA := fun ρ P => ga ρ fun x => ∃ j : Int, x = .int j ∧ (j.natAbs < 2 ^ 60 ∧ j.toNat ≤ 100000) ∧ P (rng 0 j.toNat)
theorem df_listR1 (hc : X.calm = true) (hml : X.mg "list" = none) (hm : X.mg "range" = none) (ha : PD X Z a ga) (hgl : Gl X "list" := by rfl) (hg : Gl X "range" := by rfl)
    (n1 : starEach [a] X.env = (false, eval a X.env) :: starEach [] X.env := by rfl)
    (na : starEach [.Call (.Name "range" p2) [a] [] p3] X.env = (false, eval (.Call (.Name "range" p2) [a] [] p3) X.env) :: starEach [] X.env := by rfl) :
    PDF X Z (.Call (.Name "list" p) [.Call (.Name "range" p2) [a] [] p3] [] pos) (gLR1 ga) :=
  pe_wk (pe_listRg hc hgl hml (prg_1 hg hm ha n1) na) fun σ H Q ⟨C, M, ρ, P, E, hg, k⟩ => ⟨C, M, ρ, _, E, hg, fun x ⟨j, e1, ⟨c1, c2⟩, hp⟩ v H1 r1 E1 dv => by
    subst e1
    refine ⟨j, dp_int dv, ⟨by omega, by omega, by omega, by omega, by omega⟩, fun q hq => ?_⟩
    have e0 : (j - 0).toNat = j.toNat := by rw [Int.sub_zero]
    have := tGF_new E k hp r1 E1 (dpa_rng (i := 0) (n := j.toNat)) hq
    unfold rgV
    rw [e0]
    exact this⟩
end
end Pg

namespace Pg
open PySem PySem.Spec PyProof.Rows L2

/-! ### a def as its callers see it -/
/-- how a def's arguments are bound: every parameter given -/
def BindsOk (x qual : Str) (st : Stmt) (ps : List Str) : Prop := ∀ (kV doc pm : Value) (an : Option Addr) (cdv ct : Value) (us : List Value), us.length = ps.length → bindArgs (PySem.W.fnOf x qual (defArgs st) (defBody st) (defScope st) .none kV doc pm an cdv ct) ⟨us, []⟩ = pure (ps.zip us)
/-- a def of the top, as it stands there -/
def Top (K : PySem.W.Frag) (mg : Str → Option Value) (x : Str) (st : Stmt) (ps : List Str) : Prop := ∃ f fd, Fun K x x st f fd ∧ mg x = some (.ref f) ∧ Binds K fd ps []
theorem top_mk {K : PySem.W.Frag} {h : Heap} {mg : Str → Option Value} {x : Str} {st : Stmt} {ps : List Str} {f : Addr} {oc : Value} {od an : Option Addr} {osl : Array (Option Value)} {kV doc pm cdv ct : Value} (X : K.In h) (G : h.Ns mainGlobals mg) (hb : BindsOk x x st ps)
    (a : PySem.W.nsIn K mainGlobals x = some (some (.ref f))) (l : K.lookup f = some ⟨oc, od, .func (PySem.W.fnOf x x (defArgs st) (defBody st) (defScope st) .none kV doc pm an cdv ct), osl⟩)
    (c : PySem.W.codeIn K cdv x = true) (k : PySem.W.keepIn K (.ref f) = true) : Top K mg x st ps :=
  ⟨f, _, fun_mk l c k, PySem.W.mg_of X G a, (fun_mk l c k).binds hb⟩
def Dn (P : Program) (w : World) (K : PySem.W.Frag) (mg : Str → Option Value) (base : Heap) (x : Str) (k : Nat) (ps : List Str) (sp : Sp) : Prop :=
  ∃ f fd, FnOk P w K mg base CX0 k f fd ps sp ∧ mg x = some (.ref f) ∧ PySem.W.keepIn K (.ref f) = true ∧ Binds K fd ps []
theorem dn_of {P : Program} {w : World} {K : PySem.W.Frag} {mg : Str → Option Value} {base : Heap} {x : Str} {st : Stmt} {k : Nat} {ps : List Str} {sp : Sp} (t : Top K mg x st ps) (h : ∀ f fd, Fun K x x st f fd → FnOk P w K mg base CX0 k f fd ps sp) : Dn P w K mg base x k ps sp := by
  obtain ⟨f, fd, F, g, b⟩ := t
  exact ⟨f, fd, h f fd F, g, F.kp, b⟩
section
variable {X : Cx} {Z : Sg} {e : Expr} {es : List Expr} {gs : DA} {pos : Pos} {j k : Nat} {ps : List Str} {T : List PyData → (PyData → Prop) → Prop} {x : Str} {p : Pos}
theorem de_callN (D : Dn X.prog X.w X.K X.mg X.base x k ps (spD X.K T)) (hr : Room j X.A) (ha : PDA X Z (e :: es) gs) (hk : k ≤ j := by first | decide | omega) (hg : Gl X x := by rfl)
    (hdb : (x == ("__debug__" : Str)) = false := by decide) (he : starEach (e :: es) X.env = (false, eval e X.env) :: starEach es X.env := by rfl) (hpl : (backTo pos (starEach es X.env)).any (·.1) = false := by rfl) :
    PD X Z (.Call (.Name x p) (e :: es) [] pos) (gB T gs) := by
  obtain ⟨f, fd, F, g, kp, b⟩ := D
  exact de_call F (hr.mono hk) hg g kp b ha hdb he hpl
theorem de_callN0 (D : Dn X.prog X.w X.K X.mg X.base x k ps (spD X.K T)) (hr : Room j X.A) (hk : k ≤ j := by first | decide | omega) (hg : Gl X x := by rfl) (hdb : (x == ("__debug__" : Str)) = false := by decide) :
    PD X Z (.Call (.Name x p) [] [] pos) (gB T gaNil) := by
  obtain ⟨f, fd, F, g, kp, b⟩ := D
  exact de_call0 F (hr.mono hk) hg g kp b hdb
theorem de_callNT (i : Nat) {xt : Str} {pt : Pos} (D : Dn X.prog X.w X.K X.mg X.base x k ps (spT X.K T)) (hr : Room j X.A) (ha : PDA X Z es gs) (hk : k ≤ j := by first | decide | omega) (ht : Z.tp = some i := by rfl) (hso : Z.so = none := by rfl) (hg : Gl X x := by rfl)
    (hN : X.N[i]? = some xt := by rfl) (hv : Vis X.env.scope xt := by first | exact Or.inl rfl | exact Or.inr (Or.inl rfl) | exact Or.inr (Or.inr rfl)) (hd : (xt == ("__debug__" : Str)) = false := by decide) (hcd : (xt == ("__classdict__" : Str)) = false := by decide)
    (hs : starEach (.Name xt pt :: es) X.env = (false, eval (.Name xt pt) X.env) :: starEach es X.env := by rfl) (hdb : (x == ("__debug__" : Str)) = false := by decide) (hpl : (backTo pos (starEach es X.env)).any (·.1) = false := by rfl) :
    PD X Z (.Call (.Name x p) (.Name xt pt :: es) [] pos) (gB T gs) := by
  obtain ⟨f, fd, F, g, kp, b⟩ := D
  exact de_callT i F (hr.mono hk) hg g kp b ht hso ha hN hv hd hcd hs hdb hpl
end
theorem Dn.D {P : Program} {w : World} {K : PySem.W.Frag} {mg : Str → Option Value} {base : Heap} {x : Str} {k : Nat} {ps : List Str} {T : List PyData → (PyData → Prop) → Prop} (d : Dn P w K mg base x k ps (spF K T)) : Dn P w K mg base x k ps (spD K T) := by
  obtain ⟨f, fd, F, r⟩ := d
  exact ⟨f, fd, F.imp fun vs H Q E h => spF_of h, r⟩
section
variable {X : Cx} {Z : Sg} {e : Expr} {es : List Expr} {gs : DA} {pos : Pos} {j k : Nat} {ps : List Str} {T : List PyData → (PyData → Prop) → Prop} {x : Str} {p : Pos}
/-- a call that makes a new list -/
@[simp] def gBF (T : List PyData → (PyData → Prop) → Prop) (gs : DA) : DA := fun ρ P => gs ρ fun ds => T ds fun d => ∃ es, d = .list es ∧ P es
theorem df_callN (D : Dn X.prog X.w X.K X.mg X.base x k ps (spF X.K T)) (hr : Room j X.A) (ha : PDA X Z (e :: es) gs) (hk : k ≤ j := by first | decide | omega) (hg : Gl X x := by rfl)
    (hdb : (x == ("__debug__" : Str)) = false := by decide) (he : starEach (e :: es) X.env = (false, eval e X.env) :: starEach es X.env := by rfl) (hpl : (backTo pos (starEach es X.env)).any (·.1) = false := by rfl) :
    PDF X Z (.Call (.Name x p) (e :: es) [] pos) (gBF T gs) := by
  obtain ⟨f, fd, F, g, kp, b⟩ := D
  refine pe_wk (pe_call F (hr.mono hk) hg g kp b .nil pass0 ha hdb he hpl) fun σ H Q ⟨C, M, ρ, P, E, hg, k⟩ => ⟨C, M, ρ, _, E, hg, fun ds hds vs H1 r1 E1 dvs => ⟨vw Z.lx C M, ds, _, E1.lv _, by rw [List.append_nil]; exact dvs, hds, fun d ⟨es, ed, hd⟩ v H2 s2 dv ⟨q, xs, es', ev, hn, ed', h2, da⟩ => ?_⟩⟩
  subst ev ed
  cases ed'
  have E2 := E1.same s2
  have hMq : M q = false := E1.fresh hn
  have nH : H q = none := by
    cases e : H q with
    | none => rfl
    | some o =>
      by_cases z : Z.ta C.t = some q
      · obtain ⟨⟨i, h'⟩, e'⟩ := Sg.ta_some z
        subst e'
        exact absurd hn (E1.tap i h').2.1.live
      · rw [r1 q o z e] at hn
        cases hn
  have sw : Same (hid M H1) (hid (M.with q) H2) := fun b o hb => by
    obtain ⟨m, hb⟩ := hid_some.mp hb
    exact hid_some.mpr ⟨by rw [with_ne (ne_of_none hb hn)]; exact m, s2 b o hb⟩
  have E3 : ED X.K Z C (M.with q) σ ρ H2 := by
    refine ⟨E2.rel, fun i h => ⟨(E2.tap i h).1, (E2.tap i h).2.1, (E2.tap i h).2.2⟩, E2.tal, fun b m => with_sub (E2.sub b m), E2.liv0, fun b m z => ?_, E2.len, fun i d n e => ?_, fun i d n e => ?_, E2.ol, E2.inj, fun _ vd g1 g2 => dp_mono sw (E1.sd _ vd g1 g2)⟩
    · by_cases hb : b = q
      · subst hb
        rw [h2] at z
        cases z
      · rw [with_ne hb] at m
        exact E2.liv b m z
    · obtain ⟨v, h1, h2⟩ := E1.imm i d n e
      exact ⟨v, h1, dp_mono sw h2⟩
    · obtain ⟨r, ys, es, h1, h2, h3, h4, h5, h6⟩ := E1.own i d n e
      exact ⟨r, ys, es, h1, h2, s2 _ _ h3, h4, with_sub h5, dpa_mono sw h6⟩
  exact k _ hd q xs H2 (r1.trans (.of s2)) E2 E3 ((E.hs r1).trans sw) nH h2 da
end
/-! a tuple's items go to several names -/
section
variable {X : Cx} {Z : Sg} {tg e : Expr} {ge : DE} {tgt : TG} {b : Bd} {sl : List Nat} {pos : Pos}
@[simp] def sAsg (ge : DE) (b : Bd) : DS := fun E ρ => ge ρ fun d => b d ρ E.nx
theorem ds_asg (h : PD X Z e ge) (hg : PG X tg tgt) (hb : BdOk X.K Z tgt b sl) (hlx : Z.lx = false := by rfl) (hs : swapsWithSole [tg] e pos.line X.env = pure false := by rfl) (hw : swappedStores [tg] e X.env = pure none := by rfl)
    (h1 : (assignEach [tg] X.env).map (·.2) = [assign tg X.env] := by rfl) : PDS X Z (.Assign [tg] e pos) (sAsg ge b) := ps_wk (ps_asg h hg hs hw h1) fun D σ H ⟨C, M, ρ, E, I, hg, T⟩ =>
  ⟨C, M, ρ, _, I, hg, fun d hd v H1 r1 I1 dv => hb C M σ ρ H1 v d _ _ I1 (by rw [vw_of hlx] at dv; exact dv) hd fun ρ' hP σ' I' _ _ => T.nx _ hP _ _ _ (I.hs r1) I'⟩
end
/-! name = [.. for ..], on one line -/
section
variable {X : Cx} {Z : Sg} {elt tg iter : Expr} {ifs : List Expr} {scope : Scope} {own : List (Str × Nat)} {pos spos : Pos} {gi : DA} {b : Bd} {sl : List Nat} {gt : DB} {ge : DE} {tgt : TG}
theorem ds_setC (i : Nat) {y : Str} {py : Pos} (hc : X.calm = true) (hN : X.N.Nodup) (hi : PDI X Z tg iter gi) (ok : BlkOk X.N X.env.scope scope own)
    (hg : ∀ (s : Shared) (H : Hp) (C : Addr) (cl : List (Str × Addr)) (fp : List Addr), PG (X.blk s H scope (compEnvC scope cl C X.env) fp) tg tgt) (hb : BdOk X.K Z tgt b sl)
    (htt : ∀ (s : Shared) (H : Hp) (C : Addr) (cl : List (Str × Addr)) (fp : List Addr), PDTs (X.blk s H scope (compEnvC scope cl C X.env) fp) Z ifs gt)
    (he : ∀ (s : Shared) (H : Hp) (C : Addr) (cl : List (Str × Addr)) (fp : List Addr), PD (X.blk s H scope (compEnvC scope cl C X.env) fp) Z elt ge)
    (hlx : Z.lx = false := by rfl) (hO : i ∉ Z.own := by first | decide | (dsimp only [Zs]; decide)) (htp : Z.tp ≠ some i := by first | decide | (dsimp only [Zs]; decide)) (hy : X.N[i]? = some y := by rfl) (hyl : X.env.scope.names.lookup y = some .local := by rfl)
    (hsw : swapsWith (.ListComp elt [⟨tg, iter, ifs, 0⟩] scope pos) (some (.Name y py)) spos.line X.env = pure true := by exact sw_true rfl rfl rfl (by decide +kernel))
    (hsl : ∀ j ∈ sl, j ∈ own.map (·.2) := by decide) (ht : ∀ i, Z.tp = some i → i ∉ own.map (·.2) := by intro i h; cases h <;> decide) (hs : ∀ x, foldedSetIterable iter X.env x = pure x := by intro _; rfl) :
    PDS X Z (.Assign [.Name y py] (.ListComp elt [⟨tg, iter, ifs, 0⟩] scope pos) spos) (sSet i (gF (gComp (own.map (·.2)) gi b gt ge))) :=
  ps_wk (ps_setLc hc hN hy hyl hsw hi ok hg htt he hs) fun D σ H ⟨C, M, ρ, E, I, hg, T⟩ =>
    tLc_of hlx hb hsl ht ⟨C, M, ρ, _, I, hg, fun ds hd p xs H' r I' _ sw hn h' dv => T.nx _ hd _ _ _ (I.hs r) (I'.set hO htp (.lst (.inl (.inl (hid_some.mpr ⟨I.fresh hn, h'⟩))) (dpa_mono with_le (by rw [vw_of hlx] at dv; exact dv))))⟩
theorem ds_setCO (i : Nat) {y : Str} {py : Pos} (hc : X.calm = true) (hN : X.N.Nodup) (hi : PDI X Z tg iter gi) (ok : BlkOk X.N X.env.scope scope own)
    (hg : ∀ (s : Shared) (H : Hp) (C : Addr) (cl : List (Str × Addr)) (fp : List Addr), PG (X.blk s H scope (compEnvC scope cl C X.env) fp) tg tgt) (hb : BdOk X.K Z tgt b sl)
    (htt : ∀ (s : Shared) (H : Hp) (C : Addr) (cl : List (Str × Addr)) (fp : List Addr), PDTs (X.blk s H scope (compEnvC scope cl C X.env) fp) Z ifs gt)
    (he : ∀ (s : Shared) (H : Hp) (C : Addr) (cl : List (Str × Addr)) (fp : List Addr), PD (X.blk s H scope (compEnvC scope cl C X.env) fp) Z elt ge)
    (hlx : Z.lx = false := by rfl) (hO : i ∈ Z.own := by first | decide | (dsimp only [Zs]; decide)) (htp : Z.tp ≠ some i := by first | decide | (dsimp only [Zs]; decide)) (hy : X.N[i]? = some y := by rfl) (hyl : X.env.scope.names.lookup y = some .local := by rfl)
    (hsw : swapsWith (.ListComp elt [⟨tg, iter, ifs, 0⟩] scope pos) (some (.Name y py)) spos.line X.env = pure true := by exact sw_true rfl rfl rfl (by decide +kernel))
    (hsl : ∀ j ∈ sl, j ∈ own.map (·.2) := by decide) (ht : ∀ i, Z.tp = some i → i ∉ own.map (·.2) := by intro i h; cases h <;> decide) (hs : ∀ x, foldedSetIterable iter X.env x = pure x := by intro _; rfl) :
    PDS X Z (.Assign [.Name y py] (.ListComp elt [⟨tg, iter, ifs, 0⟩] scope pos) spos) (sSetO i (gComp (own.map (·.2)) gi b gt ge)) :=
  ps_wk (ps_setLc hc hN hy hyl hsw hi ok hg htt he hs) fun D σ H ⟨C, M, ρ, E, I, hg, T⟩ =>
    tLc_of hlx hb hsl ht ⟨C, M, ρ, _, I, hg, fun ds hd p xs H' r _ I' sw hn h' dv => T.nx _ hd _ _ _ sw (I.setOwn I' hO htp hn h' (by rw [vw_of hlx] at dv; exact dv))⟩
end

/-- a if t else b, as a test -/
theorem db_ife {X : Cx} {Z : Sg} {a b c : Expr} {t ga gb : DB} {pos : Pos} (h : PDB X Z c t) (ha : PDB X Z a ga) (hb : PDB X Z b gb) : PDB X Z (.IfExp c a b pos) (gIfB t ga gb) := by
  refine ⟨fun pins s σ H Q I ⟨C, M, ρ, P, E, hg, k⟩ => ?_⟩
  refine isTrue_IfExp (thn (h.run pins s σ H _ I (show tGB X.K Z t σ H (fun x H1 => if x = true then tGB X.K Z ga σ H1 Q else tGB X.K Z gb σ H1 Q) from ⟨C, M, ρ, _, E, hg, fun x hx H1 r1 E1 => ?_⟩)) fun d s1 ⟨H1, I1, q1⟩ => ?_)
  · cases x with
    | true => exact ⟨C, M, ρ, P, E1, hx, fun y hy H2 r2 E2 => k y hy H2 (r1.trans r2) E2⟩
    | false => exact ⟨C, M, ρ, P, E1, hx, fun y hy H2 r2 E2 => k y hy H2 (r1.trans r2) E2⟩
  · cases d with
    | true => exact ha.run pins s1 σ H1 Q I1 q1
    | false => exact hb.run pins s1 σ H1 Q I1 q1

/-! ### the law itself: its tape is made, then the rest of its body -/
def spLaw (K : PySem.W.Frag) : Sp := fun vs H Q _ => ∃ (a : Addr) (ns : List Int), vs = [.ref a] ∧ SqL K H a (ns.map V.int) ∧ ns.length ≤ 63 ∧ ∀ H', Q (.bl true) H'
def tTape (K : PySem.W.Frag) : TS := tAsg (tLst (tCons (tCB (fun xs H Q => ∃ p ys, xs = [V.ref p] ∧ (SqL K H p ys ∨ SqT K H p ys) ∧ ∀ l, H l = none → Q (.ref l) (upd H l (.lst ys))) (tCons (tVar 0) tNil)) (tCons (tC (.int 0)) (tCons (tC (.int 0)) tNil)))) (L2.gName 1)
theorem okLaw {P : Program} {w : World} {K : PySem.W.Frag} {mg : Str → Option Value} {base : Heap} {x qual : Str} {st : Stmt} {f : Addr} {fd : FuncData} {N : List Str} {k : Nat} {s0 : Stmt} {rest : List Stmt} (F : Fun K x qual st f fd) (S : FnScope N ["script"] (defScope st)) (own : List Nat) (hown : ∀ i ∈ own, 2 ≤ i) (hN : 2 ≤ N.length) (hbody : defBody st = s0 :: rest)
    (hb : ∀ (cdv : Value) (A : Around) (outer : List Env) (s : Shared) (H : Hp) (E : XK), Room k (A.deeper (envOfC qual (defScope st) s.heap.objs.size f cdv)) →
      PS (cxOf CX0 P w K mg base N qual (defScope st) f cdv A outer s H E).nox s0 (tTape K) ∧
      ∃ g, PDSs (cxOf CX0 P w K mg base N qual (defScope st) f cdv A outer s H E).nox ⟨own, some 1, false, false, none⟩ rest g ∧ g { nx := fun _ => False, rt := fun d => d = .bool true } (List.replicate N.length none)) :
    FnOk P w K mg base CX0 (k + 1) f fd ["script"] (spLaw K) := by
  refine F.ok S (fun vs H Q E ⟨a, ns, e, _⟩ => by rw [e]; rfl) fun cdv A outer s H vs Q E hr ⟨a, ns, ev, hS, hlen, q⟩ => ?_
  subst ev
  obtain ⟨h0, g, h1, h2⟩ := hb cdv A outer s H E hr
  rw [hbody]
  refine ⟨_, pss_cons h0 h1, ?_⟩
  refine ⟨.ref a, rfl, a, ns.map V.int, rfl, .inl hS, fun l hl => ⟨by show 3 ≤ sizeLine; decide, fun t ht => ?_⟩⟩
  have s1 : Same H (upd H l (.lst (ns.map V.int))) := same_new hl
  have s2 : Same (upd H l (.lst (ns.map V.int))) (upd (upd H l (.lst (ns.map V.int))) t (.lst [.ref l, .int 0, .int 0])) := same_new ht
  have hlt : l ≠ t := fun z => by rw [← z, upd_same] at ht; cases ht
  generalize hH2 : upd (upd H l (.lst (ns.map V.int))) t (.lst [.ref l, .int 0, .int 0]) = H2 at s2 ⊢
  have e1 : H2 t = some (.lst [.ref l, .int 0, .int 0]) := by rw [← hH2, upd_same]
  have e2 : H2 l = some (.lst (ns.map V.int)) := s2 _ _ upd_same
  have lv : Live (fun b => b == t) H2 := fun b hbt z => by
    have : b = t := by simpa using hbt
    rw [this, e1] at z
    cases z
  have est : L2.start N [V.ref a] = some (.ref a) :: List.replicate (N.length - 1) none := rfl
  have tp : Tape t l H2 := ⟨ns, 0, 0, e1, hlt, e2, hlen, Int.le_refl _, Int.le_refl _⟩
  refine ⟨⟨fun b => b == t, H2, t, l⟩, fun b => b == t, _, _, ?_, h2, ⟨fun _ z => z.elim, fun d hd v H' _ _ dv _ => ?_, fun _ z => z.elim, fun _ z => z.elim⟩⟩
  · have nn : ∀ (i : Nat) (d : PyData), (List.replicate N.length (none : Option PyData))[i]? ≠ some (some d) := fun i d e => by
      rw [List.getElem?_replicate] at e
      split at e <;> cases e
    refine ⟨.refl, fun i h => ?_, fun i h => tp.liveL, fun _ m => m, lv, lv, ?_, fun i d _ e => absurd e (nn i d), fun i d _ e => absurd e (nn i d), fun i p hi e => ?_, fun i j p d e _ _ _ h4 _ _ => absurd h4 (nn i d), fun q vd z => (nomatch z)⟩
    · cases h
      refine ⟨by simp, tp, ?_⟩
      rw [List.getElem?_set_self (by rw [est, List.length_cons, List.length_replicate]; omega)]
    · rw [List.length_set, List.length_replicate, est, List.length_cons, List.length_replicate]
      omega
    · have hi2 := hown i hi
      rw [List.getElem?_set_ne (by omega), est] at e
      obtain ⟨j, rfl⟩ : ∃ j, i = j + 1 := ⟨i - 1, by omega⟩
      rw [List.getElem?_cons_succ, List.getElem?_replicate] at e
      split at e <;> cases e
  · subst hd
    rw [dp_bl dv]
    exact q _

/-! ### comprehensions that do what map and filter do -/
/-- each item kept and turned, as the turn tells -/
theorem compD_of {b : Bd} {gt : DB} {ge : DE} {ρ : En} {α : Type} (enc : α → PyData) (f : α → Option PyData) : ∀ (l : List α) (acc : List PyData) (P : List PyData → Prop),
    (∀ a ∈ l, ∀ (R : PyData → Prop) (R' : Prop), (∀ y, f a = some y → R y) → (f a = none → R') → b (enc a) ρ fun ρ' => gt ρ' fun c => if c = true then ge ρ' R else R') →
    P (acc ++ l.filterMap f) → compD b gt ge (l.map enc) ρ acc P
  | [], acc, P, _, h => by simpa using h
  | a :: l, acc, P, ht, h => by
    refine ht a List.mem_cons_self _ _ (fun y e => ?_) fun e => ?_
    · refine compD_of enc f l _ P (fun a ha => ht a (List.mem_cons_of_mem _ ha)) ?_
      rw [List.filterMap_cons, e] at h
      simpa using h
    · refine compD_of enc f l _ P (fun a ha => ht a (List.mem_cons_of_mem _ ha)) ?_
      rw [List.filterMap_cons, e] at h
      exact h
theorem compD_filter {b : Bd} {gt : DB} {ge : DE} {ρ : En} {α : Type} (enc : α → PyData) (p : α → Bool) (f : α → PyData) (l : List α) (acc : List PyData) (P : List PyData → Prop)
    (h : ∀ a ∈ l, ∀ (R : PyData → Prop) (R' : Prop), (p a = true → R (f a)) → (p a = false → R') → b (enc a) ρ fun ρ' => gt ρ' fun c => if c = true then ge ρ' R else R')
    (hP : P (acc ++ (l.filter p).map f)) : compD b gt ge (l.map enc) ρ acc P := by
  refine compD_of enc (fun a => if p a = true then some (f a) else none) l acc P (fun a ha R R' h1 h2 => h a ha R R' (fun e => h1 _ (by rw [if_pos e])) fun e => h2 (by rw [e]; rfl)) ?_
  have e : l.filterMap (fun a => if p a = true then some (f a) else none) = (l.filter p).map f := by
    clear h hP
    induction l with
    | nil => rfl
    | cons a l ih =>
      rw [List.filterMap_cons, List.filter_cons]
      by_cases q : p a = true
      · rw [if_pos q, if_pos q, List.map_cons, ih]
      · rw [if_neg q, if_neg q, ih]
  rw [e]
  exact hP
theorem compD_map {b : Bd} {ge : DE} {ρ : En} {α : Type} (enc : α → PyData) (f : α → PyData) (l : List α) (acc : List PyData) (P : List PyData → Prop)
    (h : ∀ a ∈ l, ∀ (R : PyData → Prop), R (f a) → b (enc a) ρ fun ρ' => ge ρ' R) (hP : P (acc ++ l.map f)) : compD b gYes ge (l.map enc) ρ acc P := by
  refine compD_of enc (fun a => some (f a)) l acc P (fun a ha R R' h1 _ => ?_) ?_
  · have := h a ha R (h1 _ rfl)
    simpa using this
  · have e : l.filterMap (fun a => some (f a)) = l.map f := by rw [← List.filterMap_eq_map]; rfl
    rw [e]
    exact hP
theorem compD2_of {b : Bd} {gt : DB} {gi1 : DA} {vs1 : List Nat} {b1 : Bd} {gt1 : DB} {ge : DE} {ρ : En} {α : Type} (enc : α → PyData) (f : α → List PyData) (B : Nat) : ∀ (l : List α) (acc : List PyData) (P : List PyData → Prop),
    (∀ a ∈ l, ∀ acc : List PyData, acc.length + B ≤ 100000 → ∀ R : List PyData → Prop, R (acc ++ f a) → b (enc a) ρ fun ρ' => gt ρ' fun c => if c = true then gi1 ρ' fun ds1 => acc.length + ds1.length ≤ 100000 ∧ compD b1 gt1 ge ds1 (wipeD ρ' vs1) acc R else R acc) →
    (∀ a ∈ l, (f a).length ≤ B) → acc.length + l.length * B ≤ 100000 → P (acc ++ l.flatMap f) → compD2 b gt gi1 vs1 b1 gt1 ge (l.map enc) ρ acc P
  | [], acc, P, _, _, _, h => by simpa using h
  | a :: l, acc, P, ht, hB, hn, h => by
    have e : (a :: l).length * B = l.length * B + B := by rw [List.length_cons, Nat.succ_mul]
    rw [e] at hn
    refine ht a List.mem_cons_self acc (by omega) _ ?_
    refine compD2_of enc f B l _ P (fun a ha => ht a (List.mem_cons_of_mem _ ha)) (fun a ha => hB a (List.mem_cons_of_mem _ ha)) ?_ ?_
    · have := hB a List.mem_cons_self
      rw [List.length_append]
      omega
    · rw [List.flatMap_cons] at h
      rw [List.append_assoc]
      exact h
/-- a loop by its invariant -/
theorem forD_of {b : Bd} {g : DS} {α : Type} (enc : α → PyData) (Inv : List α → En → Prop) (l : List α) (E : DEnds)
    (ht : ∀ pre a post, l = pre ++ a :: post → ∀ ρ, Inv pre ρ → ∀ nx : En → Prop, (∀ ρ', Inv (pre ++ [a]) ρ' → nx ρ') → b (enc a) ρ fun ρ' => g { nx := nx, rt := E.rt, bk := E.nx, ct := nx } ρ')
    (hd : ∀ ρ, Inv l ρ → E.nx ρ) {ρ : En} (h0 : Inv [] ρ) : forD b g (l.map enc) E ρ := by
  have core : ∀ (post pre : List α), l = pre ++ post → ∀ ρ, Inv pre ρ → forD b g (post.map enc) E ρ := by
    intro post
    induction post with
    | nil =>
      intro pre e ρ h
      rw [List.append_nil] at e
      subst e
      exact hd ρ h
    | cons a post ih =>
      intro pre e ρ h
      exact ht pre a post e ρ h _ fun ρ' h' => ih (pre ++ [a]) (by rw [e, List.append_assoc]; rfl) ρ' h'
  exact core l [] rfl ρ h0
theorem rng_eq (lo : Int) (n : Nat) : rng lo n = ((List.range n).map fun (i : Nat) => (lo + i : Int)).map PyData.int := by
  unfold rng
  rw [List.map_map]
  rfl
theorem rngC_eq (lo c : Int) (n : Nat) : rngC lo c n = ((List.range n).map fun (i : Nat) => (lo + i * c : Int)).map PyData.int := by
  unfold rngC
  rw [List.map_map]
  rfl
@[simp] theorem rng_len {lo : Int} {n : Nat} : (rng lo n).length = n := by unfold rng; simp
@[simp] theorem rngC_len {lo c : Int} {n : Nat} : (rngC lo c n).length = n := by unfold rngC; simp
end Pg

namespace Pg
open PySem PySem.Spec PyProof.Rows L2

/-! ### the def's own lists as values, where only numbers come out -/
def Sg.lax (Z : Sg) : Sg := ⟨Z.own, Z.tp, Z.fr, true, Z.so⟩
theorem ED.to {K : PySem.W.Frag} {Z Z' : Sg} {C : Ct} {M : Ms} {σ : L2.St} {ρ : En} {H : Hp} (E : ED K Z C M σ ρ H) (h1 : Z'.own = Z.own) (h2 : Z'.tp = Z.tp) (h3 : Z'.so = Z.so := by rfl) : ED K Z' C M σ ρ H := by
  obtain ⟨o, t, f, l, s⟩ := Z
  obtain ⟨o', t', f', l', s'⟩ := Z'
  simp only at h1 h2 h3
  subst h1 h2 h3
  exact ⟨E.rel, E.tap, E.tal, E.sub, E.liv0, E.liv, E.len, E.imm, E.own, E.ol, E.inj, E.sd⟩
theorem ED.lax {K : PySem.W.Frag} {Z : Sg} {C : Ct} {M : Ms} {σ : L2.St} {ρ : En} {H : Hp} (E : ED K Z C M σ ρ H) : ED K Z.lax C M σ ρ H := E.to rfl rfl
theorem ED.strict {K : PySem.W.Frag} {Z : Sg} {C : Ct} {M : Ms} {σ : L2.St} {ρ : En} {H : Hp} (E : ED K Z.lax C M σ ρ H) : ED K Z C M σ ρ H := E.to rfl rfl
section
variable {X : Cx} {Z : Sg} {e : Expr} {pos : Pos}
/-- a list of the def's own -/
theorem dvo (i : Nat) {x : Str} (hlx : Z.lx = true := by rfl) (hO : i ∈ Z.own := by first | decide | (dsimp only [Zs]; decide)) (hN : X.N[i]? = some x := by rfl) (hv : Vis X.env.scope x := by first | exact Or.inl rfl | exact Or.inr (Or.inl rfl) | exact Or.inr (Or.inr rfl)) (hd : (x == ("__debug__" : Str)) = false := by decide)
    (hcd : (x == ("__classdict__" : Str)) = false := by decide) : PD X Z (.Name x pos) (gV i) := by
  refine pe_wk (pe_var hN hv hd hcd) fun σ H Q ⟨C, M, ρ, P, E, ⟨d, e, p⟩, k⟩ => ?_
  obtain ⟨q, h1, h2⟩ := own_out E hO e
  refine ⟨_, h1, k d p _ H .refl E ?_⟩
  rw [hlx]
  exact h2
def Sc : PyData → Prop
  | .list _ => False
  | .tuple _ => False
  | .dict _ => False
  | _ => True
theorem dp_sc {K : PySem.W.Frag} {H H' : Hp} {v : V} {d : PyData} (h : Dp K H v d) (s : Sc d) : Dp K H' v d := by
  cases d with
  | none => cases h; exact .non
  | bool b => cases h; exact .bl b
  | int i => cases h; exact .int i
  | str x => cases h; exact .str x
  | list _ => exact s.elim
  | tuple _ => exact s.elim
  | dict _ => exact s.elim
@[simp] theorem sc_int {i : Int} : Sc (.int i) = True := rfl
@[simp] theorem sc_bool {i : Bool} : Sc (.bool i) = True := rfl
@[simp] theorem sc_none : Sc .none = True := rfl
@[simp] theorem sc_str {s : Str} : Sc (.str s) = True := rfl
@[simp] def gSc (g : DE) : DE := fun ρ P => g ρ fun d => Sc d ∧ P d
theorem de_lx {g : DE} (h : PD X Z.lax e g) : PD X Z e (gSc g) := pe_wk h fun σ H Q ⟨C, M, ρ, P, E, hg, k⟩ =>
  ⟨C, M, ρ, _, E.lax, hg, fun d ⟨s, p⟩ v H' r E' dv => k d p v H' r E'.strict (dp_sc dv s)⟩
theorem db_lx {g : DB} (h : PDB X Z.lax e g) : PDB X Z e g := pt_wk h fun σ H Q ⟨C, M, ρ, P, E, hg, k⟩ =>
  ⟨C, M, ρ, _, E.lax, hg, fun d p H' r E' => k d p H' r E'.strict⟩
@[simp] def gNs (g : DA) : DA := fun ρ P => g ρ fun ds => ∃ ns : List Int, ds = ns.map .int ∧ P (ns.map .int)
theorem df_lx {g : DA} (h : PDF X Z.lax e g) : PDF X Z e (gNs g) := pe_wk h fun σ H Q ⟨C, M, ρ, P, E, hg, k⟩ =>
  ⟨C, M, ρ, _, E.lax, hg, fun ds ⟨ns, ed, p⟩ q xs H' r E' E'' s hn h' da => by
    subst ed
    refine k _ p q xs H' r E'.strict E''.strict s hn h' ?_
    rw [dpa_ints da]
    exact dpa_of_ints ns⟩
end

/-! ### tuple * int -/
section
variable {X : Cx} {Z : Sg} {a b : Expr} {ga gb : DE} {pos : Pos}
@[simp] def oRepT : PyData → PyData → (PyData → Prop) → Prop := fun x y P => ∃ ds k, x = .tuple ds ∧ y = .int k ∧ (ds ≠ [] ∧ 2 ≤ k ∧ k ≤ 1000 ∧ ds.length ≤ 1000) ∧ P (.tuple (List.replicate k.toNat ds).flatten)
theorem dpa_rep {K : PySem.W.Frag} {H : Hp} {xs : List V} {ds : List PyData} (h : DpAll K H xs ds) : ∀ n : Nat, DpAll K H (List.replicate n xs).flatten (List.replicate n ds).flatten
  | 0 => .nil
  | n + 1 => by
    rw [List.replicate_succ, List.replicate_succ, List.flatten_cons, List.flatten_cons]
    exact dpa_app h (dpa_rep h n)
theorem o2_RepT {K : PySem.W.Frag} : Op2 K (rRepT K) oRepT := fun M H v w x y P Q lv d1 d2 ⟨ds, k, e1, e2, ⟨c1, c2, c3, c4⟩, p⟩ q => by
  subst e1 e2
  obtain ⟨l, xs, rfl, hs, ha⟩ := dp_tuple d1
  refine ⟨l, k, xs, rfl, dp_int d2, same_sqT (hid_le _ _) hs, fun z => c1 ?_, c2, c3, by rw [dpa_len ha]; exact c4, fun r hr => q _ p _ _ (same_new hr) ?_⟩
  · have := dpa_len ha
    rw [z] at this
    exact List.length_eq_zero_iff.mp this.symm
  · have s2 : Same H (upd H r (.tup (List.replicate k.toNat xs).flatten)) := same_new hr
    have hh : Same (hid M H) (hid M (upd H r (.tup (List.replicate k.toNat xs).flatten))) := fun b o e => by
      obtain ⟨m, e⟩ := hid_some.mp e
      exact hid_some.mpr ⟨m, s2 b o e⟩
    exact .tup (.inl (.inl (hid_some.mpr ⟨lv.fresh hr, upd_same⟩))) (dpa_mono hh (dpa_rep ha _))
theorem de_repT (ha : PD X Z a ga) (hb : PD X Z b gb) : PD X Z (.BinOp a .Mult b pos) (g2 oRepT ga gb) := de_op op_repT o2_RepT ha hb
end
end Pg

namespace Pg
open PySem PySem.Spec PyProof.Rows L2 StX

/-! ### slices -/
abbrev DO := En → (Option Int → Prop) → Prop
def tGO (K : PySem.W.Frag) (Z : Sg) (g : DO) : TO := fun σ H Q => ∃ (C : Ct) (M : Ms) (ρ : En) (P : Option Int → Prop), ED K Z C M σ ρ H ∧ g ρ P ∧
  ∀ o, P o → ∀ H', RA (Z.ta C.t) H H' → ED K Z C M σ ρ H' → Q o H'
abbrev PDO (X : Cx) (Z : Sg) (e : Option Expr) (g : DO) : Prop := PO X e (tGO X.K Z g)
def cutD (ds : List PyData) (lo hi : Option Int) : List PyData := (ds.drop (HT.sIx ds.length 0 lo)).take (HT.sIx ds.length ds.length hi - HT.sIx ds.length 0 lo)
theorem cutD_map {α : Type} (f : α → PyData) (l : List α) (lo hi : Option Int) : cutD (l.map f) lo hi = ((l.drop (HT.sIx l.length 0 lo)).take (HT.sIx l.length l.length hi - HT.sIx l.length 0 lo)).map f := by
  unfold cutD
  rw [List.length_map, List.map_take, List.map_drop]
theorem cutD_to {ds : List PyData} {i : Int} (h : 0 ≤ i) : cutD ds none (some i) = ds.take i.toNat := by
  unfold cutD HT.sIx
  simp only [if_neg (show ¬ i < 0 by omega), List.drop_zero, Nat.sub_zero]
  by_cases q : i.toNat ≤ ds.length
  · rw [Nat.min_eq_left q]
  · rw [Nat.min_eq_right (by omega), List.take_of_length_le (by omega), List.take_of_length_le (by omega)]
theorem cutD_from {ds : List PyData} {i : Int} (h : 0 ≤ i) : cutD ds (some i) none = ds.drop i.toNat := by
  unfold cutD HT.sIx
  simp only [if_neg (show ¬ i < 0 by omega)]
  by_cases q : i.toNat ≤ ds.length
  · rw [Nat.min_eq_left q]
    exact List.take_of_length_le (by rw [List.length_drop]; omega)
  · rw [Nat.min_eq_right (by omega), List.drop_of_length_le (by omega), List.drop_of_length_le (by omega)]
    simp
theorem dpa_cut {K : PySem.W.Frag} {H : Hp} {xs : List V} {ds : List PyData} (h : DpAll K H xs ds) (lo hi : Option Int) : DpAll K H (cutV xs lo hi) (cutD ds lo hi) := by
  unfold cutV cutD
  rw [dpa_len h]
  exact dpa_take _ (dpa_drop _ h)
section
variable {X : Cx} {Z : Sg} {e : Expr} {g : DE} {pos : Pos}
@[simp] def gNo : DO := fun _ P => P none
@[simp] def gSo (g : DE) : DO := fun ρ P => g ρ fun d => ∃ i, d = .int i ∧ P (some i)
theorem po_wk {o : Option Expr} {t t' : TO} (h : PO X o t) (k : ∀ σ H Q, t' σ H Q → t σ H Q) : PO X o t' := ⟨fun pins s σ H Q I q => h.run pins s σ H Q I (k _ _ _ q)⟩
theorem do_none : PDO X Z none gNo := po_wk po_none fun σ H Q ⟨C, M, ρ, P, E, hg, k⟩ => k none hg H .refl E
theorem do_some (h : PD X Z e g) : PDO X Z (some e) (gSo g) := po_wk (po_some h) fun σ H Q ⟨C, M, ρ, P, E, hg, k⟩ => ⟨C, M, ρ, _, E, hg, fun d ⟨i, ed, p⟩ v H1 r1 E1 dv => by
  subst ed
  exact ⟨i, dp_int dv, k _ p H1 r1 E1⟩⟩
variable {lo hi : Option Expr} {gl gh : DO} {p2 : Pos}
@[simp] def gSlT (ge : DE) (gl gh : DO) : DE := fun ρ P => ge ρ fun d => gl ρ fun l => gh ρ fun h => ∃ ds, d = .tuple ds ∧ P (.tuple (cutD ds l h))
@[simp] def gSlL (ge : DE) (gl gh : DO) : DA := fun ρ P => ge ρ fun d => gl ρ fun l => gh ρ fun h => ∃ ds, d = .list ds ∧ P (cutD ds l h)
theorem de_slT (he : PD X Z e g) (hl : PDO X Z lo gl) (hh : PDO X Z hi gh) : PD X Z (.Subscript e (.Slice lo hi none p2) pos) (gSlT g gl gh) := pe_wk (pe_slice sl_tupA he hl hh) fun σ H Q ⟨C, M, ρ, P, E, hg, k⟩ =>
  ⟨C, M, ρ, _, E, hg, fun d hd v H1 r1 E1 dv => ⟨C, M, ρ, _, E1, hd, fun l hl H2 r2 E2 => ⟨C, M, ρ, _, E2, hl, fun h ⟨ds, ed, p⟩ H3 r3 E3 => by
    subst ed
    have dv3 := dp_mono ((E1.hv _ r2).trans (E2.hv _ r3)) dv
    obtain ⟨a, xs, rfl, hs, ha⟩ := dp_tuple dv3
    have r13 := r1.trans (r2.trans r3)
    have hc := dpa_cut ha l h
    refine ⟨a, xs, rfl, same_sqT (hid_le _ _) hs, fun hw => ?_, fun hw q hq => ?_⟩
    · refine k _ p _ H3 r13 E3 ?_
      have e : cutD ds l h = ds := by
        unfold cutD
        rw [← dpa_len ha, hw.1, hw.2, List.drop_zero, Nat.sub_zero, dpa_len ha, List.take_length]
      rw [e]
      exact dv3
    · have s2 : Same H3 (upd H3 q (.tup (cutV xs l h))) := same_new hq
      exact k _ p _ _ (r13.trans (.of s2)) (E3.same s2) (.tup (.inl (.inl (hid_some.mpr ⟨(E3.lv _).fresh hq, upd_same⟩))) (dpa_mono (E3.hv _ (.of s2)) hc))⟩⟩⟩
theorem df_slL (he : PD X Z e g) (hl : PDO X Z lo gl) (hh : PDO X Z hi gh) : PDF X Z (.Subscript e (.Slice lo hi none p2) pos) (gSlL g gl gh) := pe_wk (pe_slice sl_list he hl hh) fun σ H Q ⟨C, M, ρ, P, E, hg, k⟩ =>
  ⟨C, M, ρ, _, E, hg, fun d hd v H1 r1 E1 dv => ⟨C, M, ρ, _, E1, hd, fun l hl H2 r2 E2 => ⟨C, M, ρ, _, E2, hl, fun h ⟨ds, ed, p⟩ H3 r3 E3 => by
    subst ed
    have dv3 := dp_mono ((E1.hv _ r2).trans (E2.hv _ r3)) dv
    obtain ⟨a, xs, rfl, hs, ha⟩ := dp_list dv3
    exact ⟨a, xs, rfl, (hid_le _ _).seq hs, fun q hq => tGF_new E k p (r1.trans (r2.trans r3)) E3 (dpa_cut ha l h) hq⟩⟩⟩⟩
@[simp] def gRev (g : DE) : DA := fun ρ P => g ρ fun d => ∃ ds, d = .list ds ∧ P ds.reverse
theorem df_revL {k : Nat} {p1 p2 p3 : Pos} (he : PD X Z e g) : PDF X Z (.Subscript e (.Slice none none (some (.UnaryOp .USub (.Constant (.int 1) k p1) p2)) p3) pos) (gRev g) := pe_wk (pe_revL he) fun σ H Q ⟨C, M, ρ, P, E, hg, k⟩ =>
  ⟨C, M, ρ, _, E, hg, fun d ⟨ds, ed, p⟩ v H1 r1 E1 dv => by
    subst ed
    obtain ⟨a, xs, rfl, hs, ha⟩ := dp_list dv
    exact ⟨a, xs, rfl, (hid_le _ _).seq hs, fun q hq => tGF_new E k p r1 E1 (dpa_rev ha) hq⟩⟩
/-! ### stars -/
variable {es : List Expr} {gs : DA} {p : Pos}
@[simp] def gaStar (g : DE) (gs : DA) : DA := fun ρ P => g ρ fun d => ∃ xs, seqD d = some xs ∧ gs ρ fun ds => P (xs ++ ds)
theorem ga_star (he : PD X Z e g) (hr : PDA X Z es gs) (hs : starEach (.Starred e p :: es) X.env = (true, eval e X.env) :: starEach es X.env := by rfl) : PDA X Z (.Starred e p :: es) (gaStar g gs) := pa_wk (pa_star he hr hs) fun σ H Q ⟨C, M, ρ, P, E, hg, k⟩ =>
  ⟨C, M, ρ, _, E, hg, fun d ⟨ds, ed, hd⟩ v H1 r1 E1 dv => by
    have hv : ∃ a xs, v = .ref a ∧ (SqT X.K H1 a xs ∨ SqL X.K H1 a xs) ∧ DpAll X.K (hid (vw Z.lx C M) H1) xs ds := by
      cases d with
      | list es' =>
        cases ed
        obtain ⟨a, xs, rfl, h1, h2⟩ := dp_list dv
        exact ⟨a, xs, rfl, .inr ((hid_le _ _).seq h1), h2⟩
      | tuple es' =>
        cases ed
        obtain ⟨a, xs, rfl, h1, h2⟩ := dp_tuple dv
        exact ⟨a, xs, rfl, .inl (same_sqT (hid_le _ _) h1), h2⟩
      | _ => cases ed
    obtain ⟨a, xs, rfl, h1, h2⟩ := hv
    exact ⟨a, xs, rfl, h1, C, M, ρ, _, E1, hd, fun es' hes ws H2 r2 E2 dws => k _ hes _ H2 (r1.trans r2) E2 (dpa_app (dpa_mono (E1.hv _ r2) h2) dws)⟩⟩
/-! ### sorted, list(x), min, max, str -/
@[simp] def gSorted (g : DE) : DA := fun ρ P => g ρ fun d => ∃ ns : List Int, d = .list (ns.map .int) ∧ ∀ ns' : List Int, ns'.Perm ns → ns'.Pairwise (· ≤ ·) → P (ns'.map .int)
theorem df_sorted (hm : X.mg "sorted" = none) (h : PD X Z e g) (hg : Gl X "sorted" := by rfl) (he : starEach [e] X.env = (false, eval e X.env) :: starEach [] X.env := by rfl) (hpl : (backTo pos (starEach ([] : List Expr) X.env)).any (·.1) = false := by rfl) : PDF X Z (.Call (.Name "sorted" p) [e] [] pos) (gSorted g) :=
  pe_wk (pe_callB cr_sortedI hg hm (by decide +kernel) (pa_cons h pa_nil he) (by decide) (by decide) he hpl) fun σ H Q ⟨C, M, ρ, P, E, hg, k⟩ => ⟨C, M, ρ, _, E, hg, fun d ⟨ns, ed, p⟩ v H1 r1 E1 dv => by
    subst ed
    obtain ⟨a, xs, rfl, h1, h2⟩ := dp_list dv
    have ex := dpa_ints h2
    subst ex
    refine ⟨a, ns, rfl, (hid_le _ _).seq h1, fun ns' q hp hw hq => ?_⟩
    exact tGF_new E k (p ns' hp hw) r1 E1 (dpa_of_ints ns') hq⟩
@[simp] def gListOf (g : DE) : DA := fun ρ P => g ρ fun d => ∃ ds, seqD d = some ds ∧ P ds
theorem df_listc (hm : X.mg "list" = none) (h : PD X Z e g) (hg : Gl X "list" := by rfl) (he : starEach [e] X.env = (false, eval e X.env) :: starEach [] X.env := by rfl) (hpl : (backTo pos (starEach ([] : List Expr) X.env)).any (·.1) = false := by rfl) : PDF X Z (.Call (.Name "list" p) [e] [] pos) (gListOf g) :=
  pe_wk (pe_callTy call_list_of hg hm boot_list (pa_cons h pa_nil he) (by decide) (by decide) he hpl) fun σ H Q ⟨C, M, ρ, P, E, hg, k⟩ => ⟨C, M, ρ, _, E, hg, fun d ⟨ds, ed, p⟩ v H1 r1 E1 dv => by
    cases d with
    | list es' =>
      cases ed
      obtain ⟨a, xs, rfl, h1, h2⟩ := dp_list dv
      exact ⟨a, xs, rfl, .inl ((hid_le _ _).seq h1), fun q hq => tGF_new E k p r1 E1 h2 hq⟩
    | tuple es' =>
      cases ed
      obtain ⟨a, xs, rfl, h1, h2⟩ := dp_tuple dv
      exact ⟨a, xs, rfl, .inr (same_sqT (hid_le _ _) h1), fun q hq => tGF_new E k p r1 E1 h2 hq⟩
    | _ => cases ed⟩
variable {a b : Expr} {ga gb : DE}
theorem de_min2 (hc : X.calm = true) (hm : X.mg "min" = none) (h : PDA X Z [a, b] gs) (hg : Gl X "min" := by rfl) (he : starEach [a, b] X.env = (false, eval a X.env) :: starEach [b] X.env := by rfl) (hpl : (backTo pos (starEach [b] X.env)).any (·.1) = false := by rfl) : PD X Z (.Call (.Name "min" p) [a, b] [] pos) (gB oMin gs) :=
  de_callB (call_min2 hc) on_Min hg hm (by decide +kernel) h (by decide) (by decide) he hpl
theorem de_max2 (hc : X.calm = true) (hm : X.mg "max" = none) (h : PDA X Z [a, b] gs) (hg : Gl X "max" := by rfl) (he : starEach [a, b] X.env = (false, eval a X.env) :: starEach [b] X.env := by rfl) (hpl : (backTo pos (starEach [b] X.env)).any (·.1) = false := by rfl) : PD X Z (.Call (.Name "max" p) [a, b] [] pos) (gB oMax gs) :=
  de_callB (call_max2 hc) on_Max hg hm (by decide +kernel) h (by decide) (by decide) he hpl
theorem de_strc (hm : X.mg "str" = none) (h : PD X Z e g) (hg : Gl X "str" := by rfl) (he : starEach [e] X.env = (false, eval e X.env) :: starEach [] X.env := by rfl) (hpl : (backTo pos (starEach ([] : List Expr) X.env)).any (·.1) = false := by rfl) : PD X Z (.Call (.Name "str" p) [e] [] pos) (gB oStr (gaCons g gaNil)) :=
  de_callTy call_str_int on_Str hg hm (by decide +kernel) (ga_cons h ga_nil he) (by decide) (by decide) he hpl
theorem de_in {k : Nat} (hr : Room k X.A) (ha : PD X Z a ga) (hb : PD X Z b gb) (hm : behindInMarks .In b = false := by rfl) : PD X Z (.Compare a [.In] [b] pos) (g2 oIn ga gb) := de_cmp (op_inD (by have := hr.un; omega)) o2_In ha hb hm
theorem db_in {k : Nat} (hr : Room k X.A) (ha : PD X Z a ga) (hb : PD X Z b gb) (hm : behindInMarks .In b = false := by rfl) : PDB X Z (.Compare a [.In] [b] pos) (gT (g2 oIn ga gb)) := db_cmp (op_inD (by have := hr.un; omega)) o2_In ha hb hm
theorem de_notin {k : Nat} (hr : Room k X.A) (ha : PD X Z a ga) (hb : PD X Z b gb) (hm : behindInMarks .NotIn b = false := by rfl) : PD X Z (.Compare a [.NotIn] [b] pos) (g2 oNotIn ga gb) := de_cmp (op_notInD (by have := hr.un; omega)) o2_NotIn ha hb hm
theorem db_notin {k : Nat} (hr : Room k X.A) (ha : PD X Z a ga) (hb : PD X Z b gb) (hm : behindInMarks .NotIn b = false := by rfl) : PDB X Z (.Compare a [.NotIn] [b] pos) (gT (g2 oNotIn ga gb)) := db_cmp (op_notInD (by have := hr.un; omega)) o2_NotIn ha hb hm
/-! ### a list of the def's own: an item, in, equal -/
variable {gq : DA}
@[simp] def gIxO (gq : DA) (gi : DE) : DE := fun ρ P => gq ρ fun ds => gi ρ fun d => ∃ i x, d = .int i ∧ atI ds i = some x ∧ P x
end
section
variable {X : Cx} {Z : Sg} {e a b : Expr} {ga gb : DE} {pos : Pos}
/-- a list of the def's own, at a place -/
theorem de_ixO' (i : Nat) {x : Str} {px : Pos} (hb : PD X Z b gb) (hlx : Z.lx = false := by rfl) (hO : i ∈ Z.own := by first | decide | (dsimp only [Zs]; decide)) (hN : X.N[i]? = some x := by rfl) (hv : Vis X.env.scope x := by first | exact Or.inl rfl | exact Or.inr (Or.inl rfl) | exact Or.inr (Or.inr rfl)) (hd : (x == ("__debug__" : Str)) = false := by decide)
    (hcd : (x == ("__classdict__" : Str)) = false := by decide) (hs : PlainIx b := by intro _ _; rfl) : PD X Z (.Subscript (.Name x px) b pos) (gIxO (gO i) gb) :=
  pe_wk (pe_ix ix_seq (pe_var hN hv hd hcd) hb hs) fun σ H Q ⟨C, M, ρ, P, E, ⟨ds, e, hg⟩, k⟩ => by
    obtain ⟨p, xs, ds', h1, h2, h3, h4, h5, h6⟩ := E.own i _ hO e
    cases h2
    refine ⟨.ref p, h1, C, M, ρ, _, E, hg, fun d ⟨j, y, ed, ey, hP⟩ w H2 r2 E2 dw => ?_⟩
    subst ed
    obtain ⟨p', xs', ds', k1, k2, k3, k4, k5, k6⟩ := E2.own i _ hO e
    cases k2
    rw [h1] at k1
    cases k1
    obtain ⟨v, e1, dv⟩ := atI_dpa k6 ey
    exact .inl ⟨p, xs', j, v, rfl, dp_int dw, .of k3, e1, k y hP v H2 r2 E2 (by rw [vw_of hlx]; exact dv)⟩
end
/-- a statement, then the rest -/
theorem seq_gen {g g' : DS} {E : DEnds} {ρ : En} (h : ∀ G : En → Prop, (∀ ρ', g' E ρ' → G ρ') → g { E with nx := G } ρ) : sSeq g g' E ρ := h _ fun _ h => h
theorem seq_inv {g g' : DS} {E : DEnds} {ρ : En} (I : En → Prop) (h : ∀ G : En → Prop, (∀ ρ', I ρ' → G ρ') → g { E with nx := G } ρ) (h2 : ∀ ρ', I ρ' → g' E ρ') : sSeq g g' E ρ := h _ h2
/-! ### enumerate(list), zip(list, list) -/
def enumD (ds : List PyData) : List PyData := ds.zipIdx.map fun p => .tuple [.int (p.2 : Nat), p.1]
def zipD (ds es : List PyData) : List PyData := (ds.zip es).map fun p => .tuple [p.1, p.2]
theorem go_enum {K : PySem.W.Frag} {a : Addr} {xs : List V} {ds : List PyData} : GoD K (Ite K a) (enumD ds) (fun M H => SqL K (hid M H) a xs ∧ DpAll K (hid M H) xs ds) where
  stop := fun M H i _ ⟨h1, h2⟩ hi => ⟨xs, (hid_le M H).seq h1, by
    unfold enumD at hi
    rw [List.length_map, List.length_zipIdx] at hi
    rw [dpa_len h2]
    exact hi⟩
  go := fun M H i d lv ⟨h1, h2⟩ e => by
    unfold enumD at e
    rw [List.getElem?_map, List.getElem?_zipIdx] at e
    obtain ⟨p, e1, e2⟩ := Option.map_eq_some_iff.mp e
    obtain ⟨d', e3, e4⟩ := Option.map_eq_some_iff.mp e1
    subst e4 e2
    obtain ⟨v, e5, dv⟩ := dpa_get h2 e3
    refine ⟨⟨xs, v, (hid_le M H).seq h1, e5⟩, fun x H' ⟨T, y, ex, hT, eH, hy⟩ => ?_⟩
    subst ex eH
    have e6 := hy xs ((hid_le M H).seq h1)
    rw [e5] at e6
    cases e6
    have s2 : Same H (upd H T (.tup [.int (i : Nat), v])) := same_new hT
    refine ⟨s2, .tup (.inl (.inl (hid_some.mpr ⟨lv.fresh hT, upd_same⟩))) (.cons (by rw [Nat.zero_add]; exact .int _) (.cons (dp_mono ((RA.of s2).hid (t := none) fun _ h => (nomatch h)) dv) .nil))⟩
  keep := fun M H M' H' ⟨h1, h2⟩ s => ⟨s.seq h1, dpa_mono s h2⟩
theorem go_zip {K : PySem.W.Frag} {a b : Addr} {xs ys : List V} {ds es : List PyData} : GoD K (Itz K a b) (zipD ds es) (fun M H => (SqL K (hid M H) a xs ∧ DpAll K (hid M H) xs ds) ∧ SqL K (hid M H) b ys ∧ DpAll K (hid M H) ys es) where
  stop := fun M H i _ ⟨⟨h1, h2⟩, h3, h4⟩ hi => ⟨xs, ys, (hid_le M H).seq h1, (hid_le M H).seq h3, by
    unfold zipD at hi
    rw [List.length_map, List.length_zip] at hi
    rw [dpa_len h2, dpa_len h4]
    omega⟩
  go := fun M H i d lv ⟨⟨h1, h2⟩, h3, h4⟩ e => by
    unfold zipD at e
    rw [List.getElem?_map] at e
    obtain ⟨p, e1, e2⟩ := Option.map_eq_some_iff.mp e
    subst e2
    obtain ⟨ea, eb⟩ := List.getElem?_zip_eq_some.mp e1
    obtain ⟨v, e5, dv⟩ := dpa_get h2 ea
    obtain ⟨w, e7, dw⟩ := dpa_get h4 eb
    refine ⟨⟨xs, ys, v, w, (hid_le M H).seq h1, (hid_le M H).seq h3, e5, e7⟩, fun x H' ⟨T, y, z, ex, hT, eH, hy, hz⟩ => ?_⟩
    subst ex eH
    have e6 := hy xs ((hid_le M H).seq h1)
    rw [e5] at e6
    cases e6
    have e8 := hz ys ((hid_le M H).seq h3)
    rw [e7] at e8
    cases e8
    have s2 : Same H (upd H T (.tup [v, w])) := same_new hT
    have hm := (RA.of s2).hid (t := none) (M := M) fun _ h => (nomatch h)
    exact ⟨s2, .tup (.inl (.inl (hid_some.mpr ⟨lv.fresh hT, upd_same⟩))) (.cons (dp_mono hm dv) (.cons (dp_mono hm dw) .nil))⟩
  keep := fun M H M' H' ⟨⟨h1, h2⟩, h3, h4⟩ s => ⟨⟨s.seq h1, dpa_mono s h2⟩, s.seq h3, dpa_mono s h4⟩
section
variable {X : Cx} {Z : Sg} {e a b : Expr} {g : DE} {gs : DA} {pos tpos p : Pos} {elts : List Expr} {kk : Nat}
@[simp] def gEnum (g : DE) : DA := fun ρ P => g ρ fun d => ∃ ds, d = .list ds ∧ P (enumD ds)
theorem di_enum (hm : X.mg "enumerate" = none) (h : PD X Z e g) (hl : Z.lx = false := by rfl) (hg : Gl X "enumerate" := by rfl) (hs : starEach [e] X.env = [(false, eval e X.env)] := by rfl) : PDI X Z (.Tuple elts kk tpos) (.Call (.Name "enumerate" p) [e] [] pos) (gEnum g) :=
  pi_wk (pi_enum hg hm (pa_cons h pa_nil hs) hs) fun σ H R ⟨C, M, ρ, P, E, hgg, k⟩ => ⟨C, M, ρ, _, E, hgg, fun d ⟨ds, ed, hp⟩ v H1 r1 E1 dv => by
    subst ed
    rw [vw_of hl] at dv
    obtain ⟨q, xs, rfl, h1, h2⟩ := dp_list dv
    exact ⟨q, xs, rfl, (hid_le M H1).seq h1, k _ hp _ H1 _ r1 E1 (go_enum (xs := xs)) ⟨h1, h2⟩⟩⟩
@[simp] def gZip (gs : DA) : DA := fun ρ P => gs ρ fun xs => ∃ ds es, xs = [.list ds, .list es] ∧ P (zipD ds es)
theorem di_zip (hm : X.mg "zip" = none) (h : PDA X Z [a, b] gs) (hl : Z.lx = false := by rfl) (hg : Gl X "zip" := by rfl) (hs : starEach [a, b] X.env = (false, eval a X.env) :: starEach [b] X.env := by rfl) (hpl : (backTo pos (starEach [b] X.env)).any (·.1) = false := by rfl) : PDI X Z (.Tuple elts kk tpos) (.Call (.Name "zip" p) [a, b] [] pos) (gZip gs) :=
  pi_wk (RZ.pi_zipA hg hm h hs hpl) fun σ H R ⟨C, M, ρ, P, E, hgg, k⟩ => ⟨C, M, ρ, _, E, hgg, fun xs ⟨ds, es, ed, hp⟩ vs H1 r1 E1 dvs => by
    subst ed
    rw [vw_of hl] at dvs
    obtain ⟨v, w, rfl, d1, d2⟩ := dpa2 dvs
    obtain ⟨q, xs, rfl, h1, h2⟩ := dp_list d1
    obtain ⟨q', ys, rfl, h3, h4⟩ := dp_list d2
    exact ⟨q, q', xs, ys, rfl, .inl ⟨(hid_le M H1).seq h1, (hid_le M H1).seq h3, k _ hp _ H1 _ r1 E1 (go_zip (xs := xs) (ys := ys)) ⟨⟨h1, h2⟩, h3, h4⟩⟩⟩⟩
end
end Pg

namespace Pg
open PySem PySem.Spec PyProof.Rows L2 StX

/-! ### list + list, list * int: a new list, or one of the def's own -/
section
variable {X : Cx} {Z : Sg} {a b : Expr} {ga gb : DA} {g : DE} {pos : Pos}
@[simp] def gCat (ga gb : DA) : DA := fun ρ P => ga ρ fun ds => gb ρ fun es => ds.length + es.length ≤ 100000 ∧ P (ds ++ es)
theorem df_catOF (i : Nat) {x : Str} {px : Pos} (hb : PDF X Z b gb) (hO : i ∈ Z.own := by first | decide | (dsimp only [Zs]; decide)) (hN : X.N[i]? = some x := by rfl) (hv : Vis X.env.scope x := by first | exact Or.inl rfl | exact Or.inr (Or.inl rfl) | exact Or.inr (Or.inr rfl)) (hd : (x == ("__debug__" : Str)) = false := by decide)
    (hcd : (x == ("__classdict__" : Str)) = false := by decide) : PDF X Z (.BinOp (.Name x px) .Add b pos) (gCat (gO i) gb) :=
  pe_wk (pe_op op_cat (pe_var hN hv hd hcd) hb) fun σ H Q ⟨C, M, ρ, P, E, ⟨ds, e, hg⟩, k⟩ => by
    obtain ⟨p, xs, ds', h1, h2, h3, h4, h5, h6⟩ := E.own i _ hO e
    cases h2
    refine ⟨.ref p, h1, C, M, ρ, _, E, hg, fun es ⟨hl, hP⟩ q ys H2 r2 E2 _ _ _ hq da => ?_⟩
    obtain ⟨p', xs', ds', k1, k2, k3, k4, k5, k6⟩ := E2.own i _ hO e
    cases k2
    rw [h1] at k1
    cases k1
    have da' := dpa_mono with_le da
    refine ⟨p, q, xs', ys, rfl, rfl, k3, hq, by rw [dpa_len k6, dpa_len da]; exact sz hl, fun r hr => ?_⟩
    exact tGF_new E k hP r2 E2 (dpa_app (dpa_mono (hid_sub (E2.sv _)) k6) da') hr
@[simp] def gRep (ga : DA) (g : DE) : DA := fun ρ P => ga ρ fun ds => g ρ fun d => ∃ k, d = .int k ∧ (-(2 ^ 62) ≤ k ∧ k < 2 ^ 62 ∧ ds.length * k.toNat ≤ 100000) ∧ P (List.replicate k.toNat ds).flatten
theorem df_rep {es : List Expr} {gs : DA} {p : Pos} (ha : PDA X Z es gs) (hb : PD X Z b g) : PDF X Z (.BinOp (.List es p) .Mult b pos) (gRep (gLst gs) g) :=
  pe_wk (pe_op op_rep (df_lst ha) hb) fun σ H Q ⟨C, M, ρ, P, E, hg, k⟩ => ⟨C, M, ρ, _, E, hg, fun ds hd q xs H1 r1 E1 E1' s1 hn hq da =>
    ⟨C, M.with q, ρ, _, E1', hd, fun d ⟨m, ed, ⟨c1, c2, c3⟩, hP⟩ v H2 r2 E2 dv => by
      subst ed
      have hq2 := r2 q _ (E.not_t (E.free0 hn)) hq
      have E2' := E1.go r2 fun i h => (E2.tap i h).2.1
      refine ⟨q, m, xs, rfl, dp_int dv, hq2, by omega, by omega, by rw [dpa_len da]; exact sz c3, fun r hr => ?_⟩
      exact tGF_new E k hP (r1.trans r2) E2' (dpa_rep (dpa_mono (E1.hv _ r2) (dpa_mono with_le da)) m.toNat) hr⟩⟩
theorem df_catFF (ha : PDF X Z a ga) (hb : PDF X Z b gb) : PDF X Z (.BinOp a .Add b pos) (gCat ga gb) :=
  pe_wk (pe_op op_cat ha hb) fun σ H Q ⟨C, M, ρ, P, E, hg, k⟩ => ⟨C, M, ρ, _, E, hg, fun ds hd q xs H1 r1 E1 E1' s1 hn hq da =>
    ⟨C, M.with q, ρ, _, E1', hd, fun es ⟨hl, hP⟩ q2 ys H2 r2 E2 _ _ hn2 hq2 da2 => by
      have hq' := r2 q _ (E.not_t (E.free0 hn)) hq
      have E2' := E1.go r2 fun i h => (E2.tap i h).2.1
      refine ⟨q, q2, xs, ys, rfl, rfl, hq', hq2, by rw [dpa_len da, dpa_len da2]; exact sz hl, fun r hr => ?_⟩
      refine tGF_new E k hP (r1.trans r2) E2' (dpa_app (dpa_mono (E1.hv _ r2) (dpa_mono with_le da)) ?_) hr
      refine dpa_mono (hid_sub fun b hb => ?_) da2
      refine with_sub ?_
      cases hx : Z.lx with
      | true => rw [hx] at hb; exact hb
      | false => rw [hx] at hb; exact with_sub hb⟩⟩
end
end Pg

namespace Pg
open PySem PySem.Spec PyProof.Rows L2 StX

/-! ### several names at once -/
section
variable {X : Cx} {Z : Sg} {a b c : Expr} {ga gb gc : DE} {gf : DA} {pos : Pos}
@[simp] def sPar3 (i j l : Nat) (ga gb gc : DE) : DS := fun E ρ => ga ρ fun x => gb ρ fun y => gc ρ fun z => E.nx (((ρ.set i (some x)).set j (some y)).set l (some z))
theorem ds_par3 (i j l : Nat) {x y z : Str} {px py pz pt : Pos} {kt k2 : Nat} {pt2 : Pos} (hc : X.calm = true) (hn : X.N.Nodup) (ha : PD X Z a ga) (hb : PD X Z b gb) (hcc : PD X Z c gc) (hi : X.N[i]? = some x := by rfl) (hj : X.N[j]? = some y := by rfl) (hl : X.N[l]? = some z := by rfl) (hij : i ≠ j := by decide) (hil : i ≠ l := by decide) (hjl : j ≠ l := by decide)
    (hx : X.env.scope.names.lookup x = some .local := by rfl) (hy : X.env.scope.names.lookup y = some .local := by rfl) (hz : X.env.scope.names.lookup z = some .local := by rfl)
    (hw : swappedStores [.Tuple [.Name x px, .Name y py, .Name z pz] kt pt] (.Tuple [a, b, c] k2 pt2) X.env = pure (some [x, y, z]) := by rfl)
    (hs : swapsWithSole [.Tuple [.Name x px, .Name y py, .Name z pz] kt pt] (.Tuple [a, b, c] k2 pt2) pos.line X.env = pure false := by rfl)
    (s1 : starEach [a, b, c] X.env = (false, eval a X.env) :: starEach [b, c] X.env := by rfl) (s2 : starEach [b, c] X.env = (false, eval b X.env) :: starEach [c] X.env := by rfl) (s3 : starEach [c] X.env = (false, eval c X.env) :: starEach [] X.env := by rfl)
    (hlx : Z.lx = false := by rfl) (o1 : i ∉ Z.own := by first | decide | (dsimp only [Zs]; decide)) (o2 : j ∉ Z.own := by first | decide | (dsimp only [Zs]; decide)) (o3 : l ∉ Z.own := by first | decide | (dsimp only [Zs]; decide)) (t1 : Z.tp ≠ some i := by first | decide | (dsimp only [Zs]; decide)) (t2 : Z.tp ≠ some j := by first | decide | (dsimp only [Zs]; decide)) (t3 : Z.tp ≠ some l := by first | decide | (dsimp only [Zs]; decide)) :
    PDS X Z (.Assign [.Tuple [.Name x px, .Name y py, .Name z pz] kt pt] (.Tuple [a, b, c] k2 pt2) pos) (sPar3 i j l ga gb gc) :=
  ps_wk (ps_par3 hc hn hi hj hl hij hil hjl hx hy hz (ga_cons ha (ga_cons hb (ga_cons hcc ga_nil s3) s2) s1) hw hs) fun D σ H ⟨C, M, ρ, E, I, hg, T⟩ => by
  refine ⟨C, M, ρ, fun es => match es with | [d, e, f] => E.nx (((ρ.set i (some d)).set j (some e)).set l (some f)) | _ => False, I, hg, ?_⟩
  intro es hq vs H1 r1 I1 dvs
  rw [vw_of hlx] at dvs
  obtain ⟨d, e, f, rfl⟩ : ∃ d e f, es = [d, e, f] := by
    match es, hq with
    | [d, e, f], _ => exact ⟨d, e, f, rfl⟩
  obtain ⟨u, v, w, rfl, d1, d2, d3⟩ := dpa3 dvs
  exact ⟨u, v, w, rfl, T.nx _ hq _ _ _ (I.hs r1) (((I1.set o1 t1 d1).set o2 t2 d2).set o3 t3 d3)⟩
/-- a new list goes to a list of the def's own, a value to a plain name -/
@[simp] def sParOV (i j : Nat) (gf : DA) (gb : DE) : DS := fun E ρ => gf ρ fun ds => gb ρ fun y => E.nx ((ρ.set i (some (.list ds))).set j (some y))
theorem ds_parOV (i j : Nat) {x y : Str} {px py pt : Pos} {kt k2 : Nat} {pt2 : Pos} (hc : X.calm = true) (hn : X.N.Nodup) (ha : PDF X Z a gf) (hb : PD X Z b gb) (hi : X.N[i]? = some x := by rfl) (hj : X.N[j]? = some y := by rfl) (hij : i ≠ j := by decide)
    (hx : X.env.scope.names.lookup x = some .local := by rfl) (hy : X.env.scope.names.lookup y = some .local := by rfl)
    (hw : swappedStores [.Tuple [.Name x px, .Name y py] kt pt] (.Tuple [a, b] k2 pt2) X.env = pure (some [x, y]) := by rfl)
    (hs : swapsWithSole [.Tuple [.Name x px, .Name y py] kt pt] (.Tuple [a, b] k2 pt2) pos.line X.env = pure false := by rfl)
    (s1 : starEach [a, b] X.env = (false, eval a X.env) :: starEach [b] X.env := by rfl) (s2 : starEach [b] X.env = (false, eval b X.env) :: starEach [] X.env := by rfl)
    (hlx : Z.lx = false := by rfl) (o1 : i ∈ Z.own := by first | decide | (dsimp only [Zs]; decide)) (o2 : j ∉ Z.own := by first | decide | (dsimp only [Zs]; decide)) (t1 : Z.tp ≠ some i := by first | decide | (dsimp only [Zs]; decide)) (t2 : Z.tp ≠ some j := by first | decide | (dsimp only [Zs]; decide)) :
    PDS X Z (.Assign [.Tuple [.Name x px, .Name y py] kt pt] (.Tuple [a, b] k2 pt2) pos) (sParOV i j gf gb) :=
  ps_wk (ps_par hc hn hi hj hij hx hy (pa_cons ha (pa_cons hb pa_nil s2) s1) hw hs) fun D σ H ⟨C, M, ρ, E, I, hg, T⟩ =>
    ⟨C, M, ρ, _, I, hg, fun ds hd p xs H1 r1 I1 I1' sw hp h1 da => ⟨C, M.with p, ρ, _, I1', hd, fun d hq w H2 r2 I2 dw => by
      rw [vw_of hlx] at da dw
      have h2 := r2 p _ (I.not_t (I.free0 hp)) h1
      have s2' := I1'.hs r2
      exact ⟨.ref p, w, rfl, T.nx _ hq _ _ _ (sw.trans s2') ((I.setOwn I2 o1 t1 hp h2 (dpa_mono s2' da)).set o2 t2 dw)⟩⟩⟩
@[simp] def sParVO (i j : Nat) (ga : DE) (gf : DA) : DS := fun E ρ => ga ρ fun x => gf ρ fun ds => E.nx ((ρ.set i (some x)).set j (some (.list ds)))
theorem ds_parVO (i j : Nat) {x y : Str} {px py pt : Pos} {kt k2 : Nat} {pt2 : Pos} (hc : X.calm = true) (hn : X.N.Nodup) (ha : PD X Z a ga) (hb : PDF X Z b gf) (hi : X.N[i]? = some x := by rfl) (hj : X.N[j]? = some y := by rfl) (hij : i ≠ j := by decide)
    (hx : X.env.scope.names.lookup x = some .local := by rfl) (hy : X.env.scope.names.lookup y = some .local := by rfl)
    (hw : swappedStores [.Tuple [.Name x px, .Name y py] kt pt] (.Tuple [a, b] k2 pt2) X.env = pure (some [x, y]) := by rfl)
    (hs : swapsWithSole [.Tuple [.Name x px, .Name y py] kt pt] (.Tuple [a, b] k2 pt2) pos.line X.env = pure false := by rfl)
    (s1 : starEach [a, b] X.env = (false, eval a X.env) :: starEach [b] X.env := by rfl) (s2 : starEach [b] X.env = (false, eval b X.env) :: starEach [] X.env := by rfl)
    (hlx : Z.lx = false := by rfl) (o1 : i ∉ Z.own := by first | decide | (dsimp only [Zs]; decide)) (o2 : j ∈ Z.own := by first | decide | (dsimp only [Zs]; decide)) (t1 : Z.tp ≠ some i := by first | decide | (dsimp only [Zs]; decide)) (t2 : Z.tp ≠ some j := by first | decide | (dsimp only [Zs]; decide)) :
    PDS X Z (.Assign [.Tuple [.Name x px, .Name y py] kt pt] (.Tuple [a, b] k2 pt2) pos) (sParVO i j ga gf) :=
  ps_wk (ps_par hc hn hi hj hij hx hy (pa_cons ha (pa_cons hb pa_nil s2) s1) hw hs) fun D σ H ⟨C, M, ρ, E, I, hg, T⟩ =>
    ⟨C, M, ρ, _, I, hg, fun d hd v H1 r1 I1 dv => ⟨C, M, ρ, _, I1, hd, fun ds hq p xs H2 r2 _ I2 sw hp h2 da => by
      rw [vw_of hlx] at da dv
      have dv2 := dp_mono sw dv
      exact ⟨v, .ref p, rfl, T.nx _ hq _ _ _ ((I.hs r1).trans sw) ((I1.set o1 t1 (dp_mono (hid_sub fun _ h => h) dv)).setOwn (I2.set o1 t1 dv2) o2 t2 hp h2 da)⟩⟩⟩
/-- .. where one of the two is a cell: a tuple is laid and taken apart -/
theorem ds_asgOV (i j : Nat) {tg : Expr} {k2 : Nat} {pt2 : Pos} (ha : PDF X Z a gf) (hb : PD X Z b gb) (hg : PG X tg (L2.gTup X.K 2 (gCons (L2.gName i) (gCons (L2.gName j) gNil))))
    (hs : swapsWithSole [tg] (.Tuple [a, b] k2 pt2) pos.line X.env = pure false := by rfl) (hw : swappedStores [tg] (.Tuple [a, b] k2 pt2) X.env = pure none := by rfl)
    (h1 : (assignEach [tg] X.env).map (·.2) = [assign tg X.env] := by rfl)
    (s1 : starEach [a, b] X.env = (false, eval a X.env) :: starEach [b] X.env := by rfl) (s2 : starEach [b] X.env = (false, eval b X.env) :: starEach [] X.env := by rfl)
    (hlx : Z.lx = false := by rfl) (o1 : i ∈ Z.own := by first | decide | (dsimp only [Zs]; decide)) (o2 : j ∉ Z.own := by first | decide | (dsimp only [Zs]; decide)) (t1 : Z.tp ≠ some i := by first | decide | (dsimp only [Zs]; decide)) (t2 : Z.tp ≠ some j := by first | decide | (dsimp only [Zs]; decide)) :
    PDS X Z (.Assign [tg] (.Tuple [a, b] k2 pt2) pos) (sParOV i j gf gb) :=
  ps_wk (ps_asg (pe_tup (pa_cons ha (pa_cons hb pa_nil s2) s1)) hg hs hw h1) fun D σ H ⟨C, M, ρ, E, I, hg, T⟩ =>
    ⟨C, M, ρ, _, I, hg, fun ds hd p xs H1 r1 I1 I1' sw hp h1 da => ⟨C, M.with p, ρ, _, I1', hd, fun d hq w H2 r2 I2 dw => ⟨by show 2 ≤ sizeLine; decide, fun t ht => by
      rw [vw_of hlx] at da dw
      have h2 := r2 p _ (I.not_t (I.free0 hp)) h1
      have s2' := I1'.hs r2
      have s3 : Same H2 (upd H2 t (.tup [.ref p, w])) := same_new ht
      have s3' := I2.hs (.of s3)
      exact ⟨t, _, rfl, .inl (.inl upd_same), rfl, .ref p, [w], rfl, w, [], rfl, rfl, T.nx _ hq _ _ _ (sw.trans (s2'.trans s3')) ((I.setOwn (I2.same s3) o1 t1 hp (s3 _ _ h2) (dpa_mono (s2'.trans s3') da)).set o2 t2 (dp_mono s3' dw))⟩⟩⟩⟩
end
end Pg

namespace Pg
open PySem PySem.Spec PyProof.Rows L2 StX

/-! ### xs[a:b:c] of a list -/
def pick3 (xs : List V) (lo hi st : Option Int) : List V := (sliceRange (sliceBounds lo hi st xs.length).1 (sliceBounds lo hi st xs.length).2.1 (sliceBounds lo hi st xs.length).2.2).filterMap (xs[·]?)
def pickD (xs : List PyData) (lo hi st : Option Int) : List PyData := (sliceRange (sliceBounds lo hi st xs.length).1 (sliceBounds lo hi st xs.length).2.1 (sliceBounds lo hi st xs.length).2.2).filterMap (xs[·]?)
theorem vals_pick {xs : List V} {its : List Value} (r : Vals xs its) : ∀ l : List Nat, Vals (l.filterMap (xs[·]?)) (l.filterMap (its.toArray[·]?))
  | [] => .nil
  | i :: l => by
    rw [List.filterMap_cons, List.filterMap_cons]
    cases e : xs[i]? with
    | none =>
      have e2 := r.none_of e
      simp only [List.getElem?_toArray, e2]
      simpa using vals_pick r l
    | some x =>
      obtain ⟨u, e2, ru⟩ := r.get e
      simp only [List.getElem?_toArray, e2]
      exact .cons ru (by simpa using vals_pick r l)
theorem dpa_pick {K : PySem.W.Frag} {H : Hp} {xs : List V} {ds : List PyData} (r : DpAll K H xs ds) : ∀ l : List Nat, DpAll K H (l.filterMap (xs[·]?)) (l.filterMap (ds[·]?))
  | [] => .nil
  | i :: l => by
    rw [List.filterMap_cons, List.filterMap_cons]
    cases e : ds[i]? with
    | none =>
      have e2 : xs[i]? = none := by
        rw [List.getElem?_eq_none_iff] at e ⊢
        rw [dpa_len r]
        exact e
      simp only [e2]
      exact dpa_pick r l
    | some x =>
      obtain ⟨u, e2, ru⟩ := dpa_get r e
      simp only [e2]
      exact .cons ru (dpa_pick r l)
section
variable {X : Cx} {Z : Sg} {e st : Expr} {lo hi : Option Expr} {te : TE} {tl th ts : TO} {g : DE} {gl gh gs : DO} {p3 pos : Pos}
theorem pe_step (he : PE X e te) (hl : PO X lo tl) (hh : PO X hi th) (hst : PO X (some st) ts) : PE X (.Subscript e (.Slice lo hi (some st) p3) pos) (fun σ H Q => te σ H fun x H1 => tl σ H1 fun l H2 => th σ H2 fun u H3 => ts σ H3 fun o H4 =>
    ∃ a xs, x = .ref a ∧ SqL X.K H4 a xs ∧ o ≠ some 0 ∧ (pick3 xs l u o).length ≤ sizeLine ∧ ∀ p, H4 p = none → Q (.ref p) (upd H4 p (.lst (pick3 xs l u o)))) := by
  refine ⟨fun pins s σ H Q I h => ?_⟩
  refine Subscript_ (thn (he.run pins s σ H _ I h) fun v s1 ⟨x, H1, I1, r1, q1⟩ => ?_)
  refine wpAny_Slice (thn (hl.run pins s1 σ H1 _ I1 q1) fun vl s2 ⟨l, H2, I2, pl, q2⟩ => ?_)
  refine thn (hh.run pins s2 σ H2 _ I2 q2) fun vu s3 ⟨u, H3, I3, pu, q3⟩ => ?_
  refine thn (hst.run pins s3 σ H3 _ I3 q3) fun vs s4 ⟨o, H4, I4, ps, a, xs, ex, hx, ho, hz0, q⟩ => ?_
  subst ex
  cases r1
  have I5 : Inv X pins σ H4 { s4 with heap := s4.heap.push { cls := .type "slice", data := .fields #[vl, vu, vs] } } := I4.kept (t' := s4.toks) fun b ob q => Heap.get?_push_of_some _ q
  obtain ⟨its, r, ht, hz⟩ := I5.list hx
  have hlen := r.length
  show wpAny (model X.prog X.w) X.A (subscriptTail e (.Slice lo hi (some st) p3) (.ref a) (.ref s4.heap.objs.size)) (EP X pins σ Q) X.xe { s4 with heap := s4.heap.push { cls := .type "slice", data := .fields #[vl, vu, vs] } }
  refine tail_any (ops := [.ref a, .ref s4.heap.objs.size]) ht.isList.typeIs (PySem.slot_list_getitem.lookup) ?_ (by with_unfolding_all rfl)
  refine wpAny_getItem_list_slice ht.isList (Heap.IsSliceOf.new _ vl vu vs) pl pu ps ho ?_ (by rw [List.size_toArray]; omega)
  have ep : Vals (pick3 xs l u o) ((sliceRange (sliceBounds l u o xs.length).1 (sliceBounds l u o xs.length).2.1 (sliceBounds l u o xs.length).2.2).filterMap (its.toArray[·]?)) := vals_pick r _
  have es : slicePick its.toArray l u o = ((sliceRange (sliceBounds l u o xs.length).1 (sliceBounds l u o xs.length).2.1 (sliceBounds l u o xs.length).2.2).filterMap (its.toArray[·]?)).toArray := by
    unfold slicePick
    rw [List.size_toArray, ← hlen]
  rw [es]
  refine ⟨.ref _, _, I5.laid (t' := s4.toks) (o := .lst (pick3 xs l u o)) (fun b ob q => Heap.get?_push_of_some _ q) (Nat.le_refl _) ?_, rfl, q _ (I5.hok.fresh (Nat.le_refl _))⟩
  exact ⟨hz0, _, 0, ep, Heap.get?_push_size _ rfl⟩
@[simp] def gStep (ge : DE) (gl gh gs : DO) : DA := fun ρ P => ge ρ fun d => gl ρ fun l => gh ρ fun h => gs ρ fun o => ∃ ds, d = .list ds ∧ (o ≠ some 0 ∧ (pickD ds l h o).length ≤ 100000) ∧ P (pickD ds l h o)
theorem df_step (he : PD X Z e g) (hl : PDO X Z lo gl) (hh : PDO X Z hi gh) (hs : PDO X Z (some st) gs) : PDF X Z (.Subscript e (.Slice lo hi (some st) p3) pos) (gStep g gl gh gs) := pe_wk (pe_step he hl hh hs) fun σ H Q ⟨C, M, ρ, P, E, hg, k⟩ =>
  ⟨C, M, ρ, _, E, hg, fun d hd v H1 r1 E1 dv => ⟨C, M, ρ, _, E1, hd, fun l hl H2 r2 E2 => ⟨C, M, ρ, _, E2, hl, fun h hh H3 r3 E3 => ⟨C, M, ρ, _, E3, hh, fun o ⟨ds, ed, ⟨c1, c2⟩, p⟩ H4 r4 E4 => by
    subst ed
    have dv4 := dp_mono ((E1.hv _ r2).trans ((E2.hv _ r3).trans (E3.hv _ r4))) dv
    obtain ⟨a, xs, rfl, hs, ha⟩ := dp_list dv4
    have hp : DpAll X.K (hid (vw Z.lx C M) H4) (pick3 xs l h o) (pickD ds l h o) := by
      unfold pick3 pickD
      rw [dpa_len ha]
      exact dpa_pick ha _
    exact ⟨a, xs, rfl, (hid_le _ _).seq hs, c1, by rw [dpa_len hp]; exact sz c2, fun q hq => tGF_new E k p (r1.trans (r2.trans (r3.trans r4))) E4 hp hq⟩⟩⟩⟩⟩
end

/-! ### xs[i] = e, xs a list of the def's own -/
section
variable {X : Cx} {Z : Sg} {e i : Expr} {ge gi : DE} {pos : Pos}
@[simp] def sSetIx (j : Nat) (ge gi : DE) : DS := fun E ρ => ∃ ds, ρ[j]? = some (some (.list ds)) ∧ ge ρ fun d => gi ρ fun k => ∃ i m, k = .int i ∧ ixN ds.length i = some m ∧ E.nx (ρ.set j (some (.list (ds.set m d))))
theorem dpa_set {K : PySem.W.Frag} {H : Hp} : ∀ {xs : List V} {ds : List PyData} {m : Nat} {v : V} {d : PyData}, DpAll K H xs ds → Dp K H v d → DpAll K H (xs.set m v) (ds.set m d)
  | _, _, _, _, _, .nil, _ => .nil
  | _, _, 0, _, _, .cons _ t, r => .cons r t
  | _, _, m + 1, _, _, .cons r0 t, r => .cons r0 (dpa_set t r)
theorem ds_setIx (j : Nat) {tg : Expr} (he : PD X Z e ge) (hg : PG X tg (L2.gSub (tVar j) (tG X.K Z gi) rSetL)) (hO : j ∈ Z.own := by first | decide | (dsimp only [Zs]; decide)) (hlx : Z.lx = false := by rfl)
    (hs : swapsWithSole [tg] e pos.line X.env = pure false := by rfl) (hw : swappedStores [tg] e X.env = pure none := by rfl) (h1 : (assignEach [tg] X.env).map (·.2) = [assign tg X.env] := by rfl) :
    PDS X Z (.Assign [tg] e pos) (sSetIx j ge gi) :=
  ps_wk (ps_asg he hg hs hw h1) fun D σ H ⟨C, M, ρ, E, I, ⟨ds, hj, hg⟩, T⟩ => ⟨C, M, ρ, _, I, hg, fun d hd v H1 r1 I1 dv => by
    rw [vw_of hlx] at dv
    obtain ⟨p, _, _, k1, _⟩ := I1.own j _ hO hj
    refine ⟨.ref p, k1, C, M, ρ, _, I1, hd, fun k ⟨i, m, ek, em, hq⟩ w H2 r2 I2 dw => ?_⟩
    subst ek
    obtain ⟨p', xs, ds', h1, h2, h3, h4, h5, h6⟩ := I2.own j _ hO hj
    cases h2
    rw [k1] at h1
    cases h1
    have s2 := I1.hs r2
    refine ⟨p, xs, i, m, rfl, dp_int dw, h3, by rw [dpa_len h6]; exact em, ?_⟩
    refine T.nx _ hq _ _ _ ?_ (I2.write hO hj k1 (dpa_set h6 (dp_mono s2 dv)))
    rw [hid_upd h5]
    exact (I.hs r1).trans s2⟩
/-- a value and two new lists, stored at once -/
@[simp] def sParVOO (i j l : Nat) (ga : DE) (gf gf' : DA) : DS := fun E ρ => ga ρ fun x => gf ρ fun ds => gf' ρ fun es => E.nx (((ρ.set i (some x)).set j (some (.list ds))).set l (some (.list es)))
theorem ED.setOwn2 {K : PySem.W.Frag} {C : Ct} {M : Ms} {σ : L2.St} {ρ : En} {H : Hp} {i : Nat} {p : Addr} {xs : List V} {ds : List PyData} (E : ED K Z C M σ ρ H) (hO : i ∈ Z.own) (ht : Z.tp ≠ some i) (hn : C.H0 p = none) (hM : M p = true) (h : H p = some (.lst xs)) (dv : DpAll K (hid M H) xs ds)
    (hne : ∀ j d, j ∈ Z.own → ρ[j]? = some (some d) → σ[j]? ≠ some (some (.ref p))) :
    ED K Z C M (σ.set i (some (.ref p))) (ρ.set i (some (.list ds))) H := by
  refine ⟨E.rel, fun j hj => ⟨(E.tap j hj).1, (E.tap j hj).2.1, ?_⟩, E.tal, E.sub, E.liv0, E.liv, by rw [List.length_set, List.length_set]; exact E.len, fun j e n hj => ?_, fun j e n hj => ?_, fun j q h1 h2 => ?_, fun j k q d1 d2 h1 h2 h3 h4 h5 h6 h7 => ?_, E.sd⟩
  · rw [List.getElem?_set_ne (fun z => ht (by rw [hj, z]))]
    exact (E.tap j hj).2.2
  · have hij : i ≠ j := fun z => n (by rw [← z]; exact hO)
    rw [List.getElem?_set_ne hij] at hj
    rw [List.getElem?_set_ne hij]
    exact E.imm j e n hj
  · by_cases hij : i = j
    · subst hij
      have hl : i < ρ.length := by
        have := (List.getElem?_eq_some_iff.mp hj).1
        rw [List.length_set] at this
        exact this
      rw [List.getElem?_set_self hl] at hj
      cases hj
      exact ⟨p, xs, ds, List.getElem?_set_self (by rw [E.len]; exact hl), rfl, h, hn, hM, dv⟩
    · rw [List.getElem?_set_ne hij] at hj
      rw [List.getElem?_set_ne hij]
      exact E.own j e n hj
  · by_cases hij : i = j
    · subst hij
      by_cases hl : i < σ.length
      · rw [List.getElem?_set_self hl] at h2
        cases h2
        rw [h]
        exact fun z => nomatch z
      · rw [List.getElem?_eq_none (by rw [List.length_set]; omega)] at h2
        cases h2
    · rw [List.getElem?_set_ne hij] at h2
      exact E.ol j q h1 h2
  · by_cases hj : i = j
    · subst hj
      have hk : i ≠ k := h3
      rw [List.getElem?_set_ne hk] at h5 h7
      have hl : i < σ.length := by
        have := (List.getElem?_eq_some_iff.mp h6).1
        rw [List.length_set] at this
        exact this
      rw [List.getElem?_set_self hl] at h6
      cases h6
      exact hne k _ h2 h5 h7
    · rw [List.getElem?_set_ne hj] at h4 h6
      by_cases hk : i = k
      · subst hk
        have hl : i < σ.length := by
          have := (List.getElem?_eq_some_iff.mp h7).1
          rw [List.length_set] at this
          exact this
        rw [List.getElem?_set_self hl] at h7
        cases h7
        exact hne j _ h1 h4 h6
      · rw [List.getElem?_set_ne hk] at h5 h7
        exact E.inj j k q d1 d2 h1 h2 h3 h4 h5 h6 h7
variable {a b c : Expr} {ga : DE} {gf gf' : DA}
theorem ds_parVOO (i j l : Nat) {x y z : Str} {px py pz pt : Pos} {kt k2 : Nat} {pt2 : Pos} (hc : X.calm = true) (hn : X.N.Nodup) (ha : PD X Z a ga) (hb : PDF X Z b gf) (hcc : PDF X Z c gf') (hi : X.N[i]? = some x := by rfl) (hj : X.N[j]? = some y := by rfl) (hl : X.N[l]? = some z := by rfl) (hij : i ≠ j := by decide) (hil : i ≠ l := by decide) (hjl : j ≠ l := by decide)
    (hx : X.env.scope.names.lookup x = some .local := by rfl) (hy : X.env.scope.names.lookup y = some .local := by rfl) (hz : X.env.scope.names.lookup z = some .local := by rfl)
    (hw : swappedStores [.Tuple [.Name x px, .Name y py, .Name z pz] kt pt] (.Tuple [a, b, c] k2 pt2) X.env = pure (some [x, y, z]) := by rfl)
    (hs : swapsWithSole [.Tuple [.Name x px, .Name y py, .Name z pz] kt pt] (.Tuple [a, b, c] k2 pt2) pos.line X.env = pure false := by rfl)
    (s1 : starEach [a, b, c] X.env = (false, eval a X.env) :: starEach [b, c] X.env := by rfl) (s2 : starEach [b, c] X.env = (false, eval b X.env) :: starEach [c] X.env := by rfl) (s3 : starEach [c] X.env = (false, eval c X.env) :: starEach [] X.env := by rfl)
    (hlx : Z.lx = false := by rfl) (o1 : i ∉ Z.own := by first | decide | (dsimp only [Zs]; decide)) (o2 : j ∈ Z.own := by first | decide | (dsimp only [Zs]; decide)) (o3 : l ∈ Z.own := by first | decide | (dsimp only [Zs]; decide)) (t1 : Z.tp ≠ some i := by first | decide | (dsimp only [Zs]; decide)) (t2 : Z.tp ≠ some j := by first | decide | (dsimp only [Zs]; decide)) (t3 : Z.tp ≠ some l := by first | decide | (dsimp only [Zs]; decide)) :
    PDS X Z (.Assign [.Tuple [.Name x px, .Name y py, .Name z pz] kt pt] (.Tuple [a, b, c] k2 pt2) pos) (sParVOO i j l ga gf gf') :=
  ps_wk (ps_par3 hc hn hi hj hl hij hil hjl hx hy hz (pa_cons ha (pa_cons hb (pa_cons hcc pa_nil s3) s2) s1) hw hs) fun D σ H ⟨C, M, ρ, E, I, hg, T⟩ =>
    ⟨C, M, ρ, _, I, hg, fun d hd v H1 r1 I1 dv => ⟨C, M, ρ, _, I1, hd, fun ds hds p xs H2 r2 I2 I2' sw hp h2 da => ⟨C, M.with p, ρ, _, I2', hds, fun es hq q ys H3 r3 I3 I3' sw3 hq0 h3 db => by
      rw [vw_of hlx] at da db dv
      have hp3 := r3 p _ (I1.not_t (I1.free0 hp)) h2
      have hpq : p ≠ q := fun z => by
        rw [← z, h2] at hq0
        cases hq0
      have hold : ∀ r : Addr, H1 r = none → ∀ k d, k ∈ Z.own → ρ[k]? = some (some d) → σ[k]? ≠ some (some (.ref r)) := fun r hr k d hk e z => by
        obtain ⟨r', _, _, g1, _, g3, _⟩ := I1.own k d hk e
        rw [g1] at z
        cases z
        rw [hr] at g3
        cases g3
      have hq1 : H1 q = none := by
        cases e : H1 q with
        | none => rfl
        | some o =>
          by_cases hqt : Z.ta C.t = some q
          · obtain ⟨⟨i', h'⟩, e'⟩ := Sg.ta_some hqt
            subst e'
            exact absurd hq0 (I2.tap i' h').2.1.live
          · rw [r2 q o hqt e] at hq0
            cases hq0
      have E1 := I3'.set (v := v) (d := d) o1 t1 (dp_mono (sw.trans sw3) dv)
      have hset : ∀ r : Addr, H1 r = none → ∀ k e, k ∈ Z.own → (ρ.set i (some d))[k]? = some (some e) → (σ.set i (some v))[k]? ≠ some (some (.ref r)) := fun r hr k e hk e1 => by
        have hik : i ≠ k := fun z => o1 (by rw [z]; exact hk)
        rw [List.getElem?_set_ne hik] at e1 ⊢
        exact hold r hr k e hk e1
      have E2 := E1.setOwn2 o2 t2 (I1.free0 hp) (with_sub with_self) hp3 (dpa_mono sw3 da) (hset p hp)
      have E3 := E2.setOwn2 (p := q) (xs := ys) (ds := es) o3 t3 (I1.free0 hq1) with_self h3 db fun k e hk e1 => by
        by_cases hjk : j = k
        · subst hjk
          intro z
          by_cases hlen : j < (σ.set i (some v)).length
          · rw [List.getElem?_set_self hlen] at z
            cases z
            exact hpq rfl
          · rw [List.getElem?_eq_none (by rw [List.length_set]; omega)] at z
            cases z
        · rw [List.getElem?_set_ne hjk] at e1 ⊢
          exact hset q hq1 k e hk e1
      exact ⟨v, .ref p, .ref q, rfl, T.nx _ hq _ _ _ ((I.hs r1).trans (sw.trans sw3)) E3⟩⟩⟩⟩
/-- two new lists, stored at once -/
@[simp] def sParOO (j l : Nat) (gf gf' : DA) : DS := fun E ρ => gf ρ fun ds => gf' ρ fun es => E.nx ((ρ.set j (some (.list ds))).set l (some (.list es)))
theorem ds_parOO (j l : Nat) {b c : Expr} {gf gf' : DA} {y z : Str} {py pz pt : Pos} {kt k2 : Nat} {pt2 : Pos} (hc : X.calm = true) (hn : X.N.Nodup) (hb : PDF X Z b gf) (hcc : PDF X Z c gf') (hj : X.N[j]? = some y := by rfl) (hl : X.N[l]? = some z := by rfl) (hjl : j ≠ l := by decide)
    (hy : X.env.scope.names.lookup y = some .local := by rfl) (hz : X.env.scope.names.lookup z = some .local := by rfl)
    (hw : swappedStores [.Tuple [.Name y py, .Name z pz] kt pt] (.Tuple [b, c] k2 pt2) X.env = pure (some [y, z]) := by rfl)
    (hs : swapsWithSole [.Tuple [.Name y py, .Name z pz] kt pt] (.Tuple [b, c] k2 pt2) pos.line X.env = pure false := by rfl)
    (s2 : starEach [b, c] X.env = (false, eval b X.env) :: starEach [c] X.env := by rfl) (s3 : starEach [c] X.env = (false, eval c X.env) :: starEach [] X.env := by rfl)
    (hlx : Z.lx = false := by rfl) (o2 : j ∈ Z.own := by first | decide | (dsimp only [Zs]; decide)) (o3 : l ∈ Z.own := by first | decide | (dsimp only [Zs]; decide)) (t2 : Z.tp ≠ some j := by first | decide | (dsimp only [Zs]; decide)) (t3 : Z.tp ≠ some l := by first | decide | (dsimp only [Zs]; decide)) :
    PDS X Z (.Assign [.Tuple [.Name y py, .Name z pz] kt pt] (.Tuple [b, c] k2 pt2) pos) (sParOO j l gf gf') :=
  ps_wk (ps_par hc hn hj hl hjl hy hz (pa_cons hb (pa_cons hcc pa_nil s3) s2) hw hs) fun D σ H ⟨C, M, ρ, E, I, hg, T⟩ =>
    ⟨C, M, ρ, _, I, hg, fun ds hds p xs H2 r2 I2 I2' sw hp h2 da => ⟨C, M.with p, ρ, _, I2', hds, fun es hq q ys H3 r3 I3 I3' sw3 hq0 h3 db => by
      rw [vw_of hlx] at da db
      have hp3 := r3 p _ (I.not_t (I.free0 hp)) h2
      have hpq : p ≠ q := fun z => by
        rw [← z, h2] at hq0
        cases hq0
      have hold : ∀ r : Addr, H r = none → ∀ k d, k ∈ Z.own → ρ[k]? = some (some d) → σ[k]? ≠ some (some (.ref r)) := fun r hr k d hk e z => by
        obtain ⟨r', _, _, g1, _, g3, _⟩ := I.own k d hk e
        rw [g1] at z
        cases z
        rw [hr] at g3
        cases g3
      have hq1 : H q = none := by
        cases e : H q with
        | none => rfl
        | some o =>
          by_cases hqt : Z.ta C.t = some q
          · obtain ⟨⟨i', h'⟩, e'⟩ := Sg.ta_some hqt
            subst e'
            exact absurd hq0 (I2.tap i' h').2.1.live
          · rw [r2 q o hqt e] at hq0
            cases hq0
      have E2 := I3'.setOwn2 o2 t2 (I.free0 hp) (with_sub with_self) hp3 (dpa_mono sw3 da) (hold p hp)
      have E3 := E2.setOwn2 (p := q) (xs := ys) (ds := es) o3 t3 (I.free0 hq1) with_self h3 db fun k e hk e1 => by
        by_cases hjk : j = k
        · subst hjk
          intro z
          by_cases hlen : j < σ.length
          · rw [List.getElem?_set_self hlen] at z
            cases z
            exact hpq rfl
          · rw [List.getElem?_eq_none (by rw [List.length_set]; omega)] at z
            cases z
        · rw [List.getElem?_set_ne hjk] at e1 ⊢
          exact hold q hq1 k e hk e1
      exact ⟨.ref p, .ref q, rfl, T.nx _ hq _ _ _ (sw.trans sw3) E3⟩⟩⟩
end
end Pg

/-! enumerate of a tuple -/
namespace PgE
open PySem
open Sem (wp)
open AutoSeq1 (wpAny_loadPart')
theorem meets_enumerate_newT (l : Addr) (items : Array Value) (n : Nat) (dct : Option Addr) (sl : Array (Option Value)) :
    Meets (Builtin.«enumerate.__new__» ⟨[.type "enumerate", .ref l], []⟩) (fun _ R s => s.heap.get? l = some { cls := .type "tuple", dict := dct, data := .seq items n, slots := sl } ∧
      R (.ok (.ret (.ref (s.heap.push { cls := .type "tuple_iterator", data := .fields #[.ref l, .int 0 0] }).objs.size)))
        { s with heap := (s.heap.push { cls := .type "tuple_iterator", data := .fields #[.ref l, .int 0 0] }).push { cls := .type "enumerate", data := .fields #[.none, .bool false, .ref s.heap.objs.size, rawInt 0, .none, .none] } }) :=
  .of_wp fun prog w A R s h => by
    obtain ⟨hp, g, d, tk, os⟩ := s; obtain ⟨hl, h⟩ := h
    have hsub := sub_enumerate
    have hL : Heap.IsTuple (Shared.heap ⟨hp, g, d, tk, os⟩) l items := ⟨_, hl, rfl, n, rfl⟩
    wp_walk using wpAny_loadPart' hl
    refine wpAny_stack_any fun st => wpAny_pure ?_
    split
    · rename_i c _ _ _ _ _
      cases (c == Value.type "enumerate")
      · wp_walk using wpAny_loadPart' hl, wpAny_pyIter_tuple hL
        exact ⟨_, rfl, h⟩
      · wp_walk using wpAny_loadPart' hl, wpAny_pyIter_tuple hL
        exact ⟨_, rfl, h⟩
    · wp_walk using wpAny_loadPart' hl, wpAny_pyIter_tuple hL
      exact ⟨_, rfl, h⟩
section
variable {prog : Program} {w : World} {A : Around} {E : Value → Shared → Prop} {s : Shared}
theorem call_enumerate_tuple {l : Addr} {items : Array Value} {Q : Value → Shared → Prop} (hL : s.heap.IsTuple l items)
    (h : ∀ h', IsEnum h' (s.heap.objs.size + 1) s.heap.objs.size 0 .none → h'.IsTupleIter s.heap.objs.size l 0 → h'.objs.size = s.heap.objs.size + 2 →
      (∀ b o, s.heap.get? b = some o → h'.get? b = some o) → Q (.ref (s.heap.objs.size + 1)) { s with heap := h' }) :
    wpAny (model prog w) A (call (.type "enumerate") [.ref l]) Q E s := by
  obtain ⟨⟨c, dct, dt, sl⟩, hl, hc, n, hd⟩ := hL
  replace hc : c = .type "tuple" := hc
  replace hd : dt = .seq items n := hd
  subst hc hd
  refine callType_new F.called_enumerate (by decide) (F.typeCall_enumerate_1 _) (F.newCall_enumerate_1 _) (fun obj => F.args_object_init_2 obj _) F.entry_enumerate_new
    (meets_enumerate_newT l items n dct sl) ⟨hl, ?_⟩
  have hz : (s.heap.push { cls := .type "tuple_iterator", data := .fields #[.ref l, .int 0 0] }).objs.size = s.heap.objs.size + 1 := Heap.size_push ..
  show _ ∧ _
  rw [hz]
  have he : IsEnum ((s.heap.push { cls := .type "tuple_iterator", data := .fields #[.ref l, .int 0 0] }).push
      { cls := .type "enumerate", data := .fields #[.none, .bool false, .ref s.heap.objs.size, rawInt 0, .none, .none] }) (s.heap.objs.size + 1) s.heap.objs.size 0 .none := by
    have := Heap.get?_push_size (s.heap.push { cls := .type "tuple_iterator", data := .fields #[.ref l, .int 0 0] })
      (o := { cls := .type "enumerate", data := .fields #[.none, .bool false, .ref s.heap.objs.size, rawInt 0, .none, .none] }) rfl
    rw [hz] at this; exact this
  refine ⟨⟨_, he, rfl⟩, h _ he ⟨_, Heap.get?_push_of_some _ (Heap.get?_push_size _ rfl), rfl, rfl⟩ (by rw [Heap.size_push, hz]) fun b o x => Heap.get?_push_of_some _ (Heap.get?_push_of_some _ x)⟩
theorem draws_tuple {A : Around} (hh : A.handled = none) (it l : Addr) (hne : l ≠ it) (items : Array Value) :
    Draws prog w A it [it, l] items.size (fun i v => items[i]? = some v) (fun i h => h.IsTupleIter it l i ∧ h.IsTuple l items) where
  live := fun _ _ st => let ⟨o, ho, _⟩ := st.1; ⟨o, ho⟩
  frame := fun _ _ _ st hk => by
    obtain ⟨⟨o, ho, r⟩, ⟨p, hp, r'⟩⟩ := st
    exact ⟨⟨o, hk it (by simp) o ho, r⟩, ⟨p, hk l (by simp) p hp, r'⟩⟩
  item := fun i s Q E hi st hQ => by
    refine RZ.nextOf_tuple_item st.1 st.2 (x := items[i]) (by simp [hi]) fun h' hit' hs' => ?_
    obtain ⟨p, hp, r'⟩ := st.2
    exact hQ _ h' s.toks (by simp [hi]) ⟨hit', ⟨p, (hs'.extBut l p hne hp), r'⟩⟩ hs'
  done := fun s Q E st hE => RZ.nextOf_tuple_end hh st.1 st.2 (by simp) hE
theorem pyNext_enumT_end {e it l : Addr} {i : Nat} {items : Array Value} {old : Value} {Q : Option Value → Shared → Prop} (hh : A.handled = none)
    (he : IsEnum s.heap e it i old) (hit : s.heap.IsTupleIter it l i) (hl : s.heap.IsTuple l items) (hx : items[i]? = none)
    (hQ : ∀ h', Heap.ExtBut it s.heap h' → Q none { s with heap := h' }) : wpAny (model prog w) A (pyNext (.ref e)) Q E s := by
  have hT : s.TypeIs (.ref e) "enumerate" := ⟨_, he, rfl⟩
  unfold pyNext
  refine wpAny_bind (wpAny_attempt (wpAny_callSpecial?_slot (name := Str.ofString "__next__") hT F.slot_enumerate_next
    (wpAny_call_entry F.slot_enumerate_next hT F.entry_enumerate_next ?_ (F.args_enumerate_next_1 _))))
  show wpAny _ _ (field (.ref e) 2 >>= _) _ _ _
  refine wpAny_bind (wpAny_field he rfl (x := .ref it) rfl ?_)
  refine wpAny_bind (RZ.nextOf_tuple_end hh hit hl hx fun h' x he' hx' => ?_)
  obtain ⟨o, ho, hc⟩ := hx'
  refine wpAny_bind (wpAny_isInstance (T := "StopIteration") (b := true) ⟨o, ho, hc⟩ isSubtype_stop ?_)
  exact wpAny_pure (hQ _ he')
end
end PgE
namespace Pg
open PySem PySem.Spec PyProof.Rows L2 StX
/-- the tuple at a, each item in a new pair behind its number -/
def IteT (K : PySem.W.Frag) (a : Addr) : It :=
  ⟨fun i H => ∃ (xs : List V) (x : V), SqT K H a xs ∧ xs[i]? = some x, fun i H v H' => ∃ T x, v = .ref T ∧ H T = none ∧ H' = upd H T (.tup [.int (i : Nat), x]) ∧ ∀ xs, SqT K H a xs → xs[i]? = some x, fun i H => ∃ xs : List V, SqT K H a xs ∧ xs.length ≤ i⟩
theorem turn_enumT {P : Program} {w : World} {K : PySem.W.Frag} {elts : List Expr} {kk : Nat} {tpos : Pos} (a e it : Addr) (hai : a ≠ it) :
    Turn P w K (.Tuple elts kk tpos) (IteT K a) [e, it] e (fun i h => (∃ old, IsEnum h e it ((i : Nat) : Int) old) ∧ h.IsTupleIter it a i ∧ e ≠ it ∧ e ≠ a) where
  mem := by simp
  obj := fun i h st b hb => by
    obtain ⟨⟨old, he⟩, ⟨o, ho, hc, hd⟩, _⟩ := st
    have e' : b = e ∨ b = it := by simpa using hb
    rcases e' with z | z
    · rw [z]; exact ⟨_, he, fun v q => nomatch q⟩
    · rw [z]; exact ⟨o, ho, fun v q => by rw [hd] at q; cases q⟩
  keep := fun i h h' st k => let ⟨⟨old, he⟩, hi, hne⟩ := st; ⟨⟨old, k e (by simp) _ he⟩, hi.at fun o q => k it (by simp) o q, hne⟩
  item := by
    intro X hP hw hK hc i pins s σ H E I hf st hg
    subst hP hw hK
    obtain ⟨⟨old, he⟩, hit, hne, hea⟩ := st
    obtain ⟨xs, x, hq, hx⟩ := hg
    obtain ⟨its, rv, p, hz⟩ := I.tuple hq
    obtain ⟨u, hu, ru⟩ := rv.get hx
    have hel : e < s.heap.objs.size := Heap.lt_size he
    have hil : it < s.heap.objs.size := by obtain ⟨_, q, _⟩ := hit; exact Heap.lt_size q
    have hil2 : i < its.toArray.size := by
      have := (List.getElem?_eq_some_iff.mp hu).1
      simpa using this
    refine wpAny_pyNext_enum_itemD (PgE.draws_tuple (A := X.A.in1) (I.ok.hd hc) it a hai its.toArray) he ⟨hit, p⟩ hil2 hne (by simp [hne, hea]) fun y h' tk hy ho st' hT hsz hk => ?_
    have ey : y = u := by
      have h1 : its.toArray[i]? = some u := by simpa using hu
      rw [h1] at hy
      exact (Option.some.inj hy).symm
    subst ey
    obtain ⟨hit', _⟩ := st'
    refine ⟨_, rfl, wpAny_letOwnedTupleGo_enum (s := { s with heap := h', toks := tk + 1 }) ho fun h'' he' sb => ?_⟩
    have hT2 : h''.get? s.heap.objs.size = some { cls := .type "tuple", data := .seq #[.int i tk, y] } := (sb.2 _ (Nat.ne_of_gt hel)).trans hT
    have new : ObjOk X.prog X.w (upd H s.heap.objs.size (.tup [.int (i : Nat), x])) h'' s.heap.objs.size (.tup [.int (i : Nat), x]) :=
      ⟨by show 2 ≤ sizeLine; decide, [.int i tk, y], .cons ⟨_, rfl⟩ (.cons ru .nil), ⟨_, hT2, rfl, _, rfl⟩⟩
    have I1 : Inv X pins σ (upd H s.heap.objs.size (.tup [.int (i : Nat), x])) { s with heap := h'', toks := tk + 1 } :=
      I.turnedNew (ch := [e, it]) (fun b ob hb q => (sb.2 b (fun z => hb (by simp [z]))).trans (hk b ob (fun z => hb (by simp [z])) (fun z => hb (by simp [z])) q)) hf (Nat.le_refl _) new
    refine ⟨.ref s.heap.objs.size, _, I1, rfl, ⟨_, x, rfl, I.hok.fresh (Nat.le_refl _), rfl, fun ys hy => by rw [I.tuple_inj hy hq]; exact hx⟩, ⟨⟨y, ?_⟩, hit'.at fun o q => (sb.2 it (Ne.symm hne)).trans q, hne, hea⟩, fun b hb => ?_⟩
    · have e1 : ((i + 1 : Nat) : Int) = (i : Int) + 1 := by omega
      rw [e1]; exact he'
    · have hb' : b < s.heap.objs.size := by
        have e' : b = e ∨ b = it := by simpa using hb
        rcases e' with z | z
        · rw [z]; exact hel
        · rw [z]; exact hil
      rw [upd_ne (Nat.ne_of_lt hb')]
      exact (hf b hb).1
  done := by
    intro X hP hw hK hc i pins s σ H E I hf st hg
    subst hP hw hK
    obtain ⟨⟨old, he⟩, hit, hne, hea⟩ := st
    obtain ⟨xs, hq, hx⟩ := hg
    obtain ⟨its, rv, p, hz⟩ := I.tuple hq
    obtain ⟨f0, f1, f2, f3, f4, f5⟩ := hf it (by simp)
    have hl := rv.length
    exact PgE.pyNext_enumT_end (I.ok.hd hc) he hit p (by simp; omega) fun h' eb => ⟨rfl, I.turned (t' := s.toks) (fun b o hb q => eb b o hb q) f0 f1 f3 f4 f5⟩
  self := fun A i s Q E st h => let ⟨⟨_, he⟩, _⟩ := st; wpAny_pyIter_enum he h
def iEnumT (K : PySem.W.Frag) (ta : TA) : TI := fun σ H R => ta σ H fun vs H1 => ∃ a xs, vs = [.ref a] ∧ SqT K H1 a xs ∧ R (IteT K a) H1
theorem pi_enumT {X : Cx} {e : Expr} {ta : TA} {p pos tpos : Pos} {elts : List Expr} {kk : Nat} (hg : Gl X "enumerate") (hm : X.mg "enumerate" = none) (ha : PA X [e] ta) (hs : starEach [e] X.env = [(false, eval e X.env)] := by rfl) :
    PI X (.Tuple elts kk tpos) (.Call (.Name "enumerate" p) [e] [] pos) (iEnumT X.K ta) := by
  refine ⟨fun pins s σ H R I h => ?_⟩
  refine Call_ (ld_blt I hg hm boot_enumerate (PyProof.Rows.callWith_type1 (thn (ha.run pos pins s σ H _ I h) fun us s1 ⟨vs, H1, I1, r1, q1⟩ => ?_) hs rfl))
  obtain ⟨a, xs, ex, hq, q⟩ := q1
  subst ex
  cases r1 with
  | cons r rr =>
    cases rr
    cases r
    obtain ⟨its, rv, p', hz⟩ := I1.tuple hq
    obtain ⟨o1, ho1, _⟩ := id p'
    have hlt := Heap.lt_size ho1
    refine PgE.call_enumerate_tuple p' fun h' he hit hsz hk => wpAny_pyIter_enum he ?_
    have I2 : Inv X pins σ H1 { s1 with heap := h' } := I1.kept (t' := s1.toks) hk
    refine ⟨s1.heap.objs.size + 1, [s1.heap.objs.size + 1, s1.heap.objs.size], _, _, H1, rfl, I2, turn_enumT a (s1.heap.objs.size + 1) s1.heap.objs.size (Nat.ne_of_lt hlt), ⟨⟨.none, he⟩, hit, Nat.succ_ne_self _, Nat.ne_of_gt (Nat.lt_succ_of_lt hlt)⟩, fun b hb => ?_, q⟩
    have e' : b = s1.heap.objs.size + 1 ∨ b = s1.heap.objs.size := by simpa using hb
    have hle : s1.heap.objs.size ≤ b := by
      rcases e' with z | z
      · rw [z]; exact Nat.le_add_right _ _
      · rw [z]; exact Nat.le_refl _
    exact I1.fpOk hle (I1.hok.fresh hle)
theorem go_enumT {K : PySem.W.Frag} {a : Addr} {xs : List V} {ds : List PyData} : GoD K (IteT K a) (enumD ds) (fun M H => SqT K (hid M H) a xs ∧ DpAll K (hid M H) xs ds) where
  stop := fun M H i _ ⟨h1, h2⟩ hi => ⟨xs, same_sqT (hid_le M H) h1, by
    unfold enumD at hi
    rw [List.length_map, List.length_zipIdx] at hi
    rw [dpa_len h2]
    exact hi⟩
  go := fun M H i d lv ⟨h1, h2⟩ e => by
    unfold enumD at e
    rw [List.getElem?_map, List.getElem?_zipIdx] at e
    obtain ⟨p, e1, e2⟩ := Option.map_eq_some_iff.mp e
    obtain ⟨d', e3, e4⟩ := Option.map_eq_some_iff.mp e1
    subst e4 e2
    obtain ⟨v, e5, dv⟩ := dpa_get h2 e3
    refine ⟨⟨xs, v, same_sqT (hid_le M H) h1, e5⟩, fun x H' ⟨T, y, ex, hT, eH, hy⟩ => ?_⟩
    subst ex eH
    have e6 := hy xs (same_sqT (hid_le M H) h1)
    rw [e5] at e6
    cases e6
    have s2 : Same H (upd H T (.tup [.int (i : Nat), v])) := same_new hT
    refine ⟨s2, .tup (.inl (.inl (hid_some.mpr ⟨lv.fresh hT, upd_same⟩))) (.cons (by rw [Nat.zero_add]; exact .int _) (.cons (dp_mono ((RA.of s2).hid (t := none) fun _ h => (nomatch h)) dv) .nil))⟩
  keep := fun M H M' H' ⟨h1, h2⟩ s => ⟨same_sqT s h1, dpa_mono s h2⟩
section
variable {X : Cx} {Z : Sg} {e : Expr} {g : DE} {pos tpos p : Pos} {elts : List Expr} {kk : Nat}
@[simp] def gEnumT (g : DE) : DA := fun ρ P => g ρ fun d => ∃ ds, d = .tuple ds ∧ P (enumD ds)
theorem di_enumT (hm : X.mg "enumerate" = none) (h : PD X Z e g) (hl : Z.lx = false := by rfl) (hg : Gl X "enumerate" := by rfl) (hs : starEach [e] X.env = [(false, eval e X.env)] := by rfl) : PDI X Z (.Tuple elts kk tpos) (.Call (.Name "enumerate" p) [e] [] pos) (gEnumT g) :=
  pi_wk (pi_enumT hg hm (pa_cons h pa_nil hs) hs) fun σ H R ⟨C, M, ρ, P, E, hgg, k⟩ => ⟨C, M, ρ, _, E, hgg, fun d ⟨ds, ed, hp⟩ v H1 r1 E1 dv => by
    subst ed
    rw [vw_of hl] at dv
    obtain ⟨q, xs, rfl, h1, h2⟩ := dp_tuple dv
    exact ⟨q, xs, rfl, same_sqT (hid_le M H1) h1, k _ hp _ H1 _ r1 E1 (go_enumT (xs := xs)) ⟨h1, h2⟩⟩⟩
end
end Pg

namespace Pg
open PySem PySem.Spec PyProof.Rows L2 StX

/-! ### *range(..) in a display -/
section
variable {X : Cx} {Z : Sg} {a b c : Expr} {es : List Expr} {ta t : TA} {gs ga : DA} {p p2 p3 : Pos}
def tStarR (ta t : TA) : TA := fun σ H Q => ta σ H fun vs H1 => ∃ (i j k : Int) (n : Nat), vs = [.int i, .int j, .int k] ∧ RgC i j k n ∧ n ≤ 100000 ∧ t σ H1 fun ys H2 => Q (((List.range n).map fun m => V.int (i + (m : Nat) * k)) ++ ys) H2
theorem pa_starR3 (hc : X.calm = true) (hm : X.mg "range" = none) (ha : PA X [a, b, c] ta) (hr : PA X es t) (hg : Gl X "range")
    (hs : starEach [a, b, c] X.env = (false, eval a X.env) :: starEach [b, c] X.env) (hpl : (backTo p3 (starEach [b, c] X.env)).any (·.1) = false)
    (hst : starEach (.Starred (.Call (.Name "range" p2) [a, b, c] [] p3) p :: es) X.env = (true, eval (.Call (.Name "range" p2) [a, b, c] [] p3) X.env) :: starEach es X.env) :
    PA X (.Starred (.Call (.Name "range" p2) [a, b, c] [] p3) p :: es) (tStarR ta t) := by
  refine ⟨fun pos pins s σ H Q I h => ?_⟩
  refine PySem.W.items_star ?_ hst
  refine Call_ (ld_blt I hg hm boot_range (PyProof.Rows.callWith_type1 (thn (ha.run p3 pins s σ H _ I h) fun us s1 ⟨vs, H1, I1, r1, q1⟩ => ?_) hs hpl))
  obtain ⟨i, j, k, n, e, ⟨c0, c1, c2, c3⟩, hn, q⟩ := q1
  subst e
  cases r1 with
  | cons r rr =>
    cases rr with
    | cons r' rr =>
      cases rr with
      | cons r'' rr =>
        cases rr
        obtain ⟨t, rfl⟩ := r
        obtain ⟨t', rfl⟩ := r'
        obtain ⟨t'', rfl⟩ := r''
        refine call_range_3 c0 ?_ (.inl (PyProof.noPylong_small c1))
        have I2 : Inv X pins σ H1 { s1 with heap := s1.heap.push { cls := .type "range", data := .fields #[.int i t, .int j t', .int k t''] } } := I1.kept (t' := s1.toks) fun b o e => Heap.get?_push_of_some _ e
        have hR : IsRange (s1.heap.push { cls := .type "range", data := .fields #[.int i t, .int j t', .int k t''] }) s1.heap.objs.size i j k t t' t'' := IsRange.new s1.heap i j k t t' t''
        unfold PySem.W.StarOf notIterableAtAll
        refine wpAny_bind (wpAny_specialOf ⟨_, hR, rfl⟩ PySem.F.slot_range_iter.lookup (wpAny_pure ⟨rfl, ?_⟩))
        refine collect_range (I2.ok.hd hc) hR c2 c3 (by omega) fun h' tk acc hk hi => ?_
        have I3 : Inv X pins σ H1 { s1 with heap := h', toks := tk } := I2.kept (t' := tk) hk
        refine thn (hr.run pos pins _ σ H1 _ I3 q) fun ws s3 ⟨vs, H3, I4, r3, q3⟩ => ⟨_, H3, I4, (vals_rgC hi).append r3, q3⟩
@[simp] def gaStarR (ga gs : DA) : DA := fun ρ P => ga ρ fun ds => ∃ i j k, ds = [.int i, .int j, .int k] ∧ (k ≠ 0 ∧ k.natAbs < 1073741824 ∧ i.natAbs < 2 ^ 60 ∧ j.natAbs < 2 ^ 60 ∧ rcount i j k ≤ 100000) ∧ gs ρ fun es => P (rngC i k (rcount i j k) ++ es)
theorem ga_starR3 (hc : X.calm = true) (hm : X.mg "range" = none) (ha : PDA X Z [a, b, c] ga) (hr : PDA X Z es gs) (hg : Gl X "range" := by rfl)
    (hs : starEach [a, b, c] X.env = (false, eval a X.env) :: starEach [b, c] X.env := by rfl) (hpl : (backTo p3 (starEach [b, c] X.env)).any (·.1) = false := by rfl)
    (hst : starEach (.Starred (.Call (.Name "range" p2) [a, b, c] [] p3) p :: es) X.env = (true, eval (.Call (.Name "range" p2) [a, b, c] [] p3) X.env) :: starEach es X.env := by rfl) :
    PDA X Z (.Starred (.Call (.Name "range" p2) [a, b, c] [] p3) p :: es) (gaStarR ga gs) :=
  pa_wk (pa_starR3 hc hm ha hr hg hs hpl hst) fun σ H Q ⟨C, M, ρ, P, E, hgg, k⟩ => ⟨C, M, ρ, _, E, hgg, fun ds ⟨i, j, m, ed, ⟨c0, c1, c2, c3, c4⟩, hd⟩ vs H1 r1 E1 dvs => by
    subst ed
    exact ⟨i, j, m, _, dpa_ints (ns := [i, j, m]) dvs, rgC_of c0 c1 c2 c3, c4, C, M, ρ, _, E1, hd, fun es' hes ws H2 r2 E2 dws => k _ hes _ H2 (r1.trans r2) E2 (dpa_app dpa_rngC dws)⟩⟩
def tStarG (te : L2.St → Hp → (Int → Int → Hp → Prop) → Prop) (t : TA) : TA := fun σ H Q => te σ H fun i j H1 => RgOk i j ∧ t σ H1 fun ys H2 => Q (rgV i j ++ ys) H2
theorem pa_starR2 {e : Expr} {te : L2.St → Hp → (Int → Int → Hp → Prop) → Prop} (hc : X.calm = true) (he : PRg X e te) (hr : PA X es t) (hst : starEach (.Starred e p :: es) X.env = (true, eval e X.env) :: starEach es X.env) : PA X (.Starred e p :: es) (tStarG te t) := by
  refine ⟨fun pos pins s σ H Q I h => ?_⟩
  refine PySem.W.items_star (thn (he pins s σ H _ I h) fun x s1 ⟨r, i, j, t1, t2, t3, H1, ex, hR, I1, ok, q⟩ => ?_) hst
  subst ex
  obtain ⟨b1, b2, b3, b4, b5⟩ := ok
  unfold PySem.W.StarOf notIterableAtAll
  refine wpAny_bind (wpAny_specialOf ⟨_, hR, rfl⟩ PySem.F.slot_range_iter.lookup (wpAny_pure ⟨rfl, ?_⟩))
  refine collect_range (n := (j - i).toNat) (I1.ok.hd hc) hR (small_one b1 b2 b3 b4) (rangeSize_nat i j) b5 fun h' tk acc hk hi => ?_
  have I3 : Inv X pins σ H1 { s1 with heap := h', toks := tk } := I1.kept (t' := tk) hk
  exact thn (hr.run pos pins _ σ H1 _ I3 q) fun ws s3 ⟨vs, H3, I4, r3, q3⟩ => ⟨_, H3, I4, (vals_rg hi).append r3, q3⟩
variable {gA gB' : DE} {pp : Pos}
@[simp] def gaStarR2 (ga gb : DE) (gs : DA) : DA := fun ρ P => ga ρ fun x => gb ρ fun y => ∃ i j : Int, x = .int i ∧ y = .int j ∧ (i.natAbs < 2 ^ 60 ∧ j.natAbs < 2 ^ 60 ∧ (j - i).toNat ≤ 100000) ∧ gs ρ fun es => P (rng i (j - i).toNat ++ es)
theorem ga_starR2 (hc : X.calm = true) (hm : X.mg "range" = none) (ha : PD X Z a gA) (hb : PD X Z b gB') (hr : PDA X Z es gs) (hg : Gl X "range" := by rfl)
    (n1 : starEach [a, b] X.env = (false, eval a X.env) :: starEach [b] X.env := by rfl) (n2 : starEach [b] X.env = (false, eval b X.env) :: starEach [] X.env := by rfl) (hp : (backTo p3 (starEach [b] X.env)).any (·.1) = false := by rfl)
    (hst : starEach (.Starred (.Call (.Name "range" p2) [a, b] [] p3) p :: es) X.env = (true, eval (.Call (.Name "range" p2) [a, b] [] p3) X.env) :: starEach es X.env := by rfl) :
    PDA X Z (.Starred (.Call (.Name "range" p2) [a, b] [] p3) p :: es) (gaStarR2 gA gB' gs) :=
  pa_wk (pa_starR2 hc (prg_2 hg hm ha hb n1 n2 hp) hr hst) fun σ H Q ⟨C, M, ρ, P, E, hgg, k⟩ => ⟨C, M, ρ, _, E, hgg, fun x hx v H1 r1 E1 dv => ⟨C, M, ρ, _, E1, hx, fun y ⟨i, j, e1, e2, ⟨c1, c2, c3⟩, hd⟩ w H2 r2 E2 dw => by
    subst e1 e2
    exact ⟨i, j, dp_int dv, dp_int dw, ⟨by omega, by omega, by omega, by omega, by omega⟩, C, M, ρ, _, E2, hd, fun es' hes ws H3 r3 E3 dws => k _ hes _ H3 (r1.trans (r2.trans r3)) E3 (dpa_app dpa_rng dws)⟩⟩⟩
end
end Pg

namespace Pg
open PySem PySem.Spec PyProof.Rows L2 StX

/-! ### a comprehension's clauses, one in another -/
abbrev BodyT := (Shared → Prop) → Shared → Prop
abbrev NoE : Value → Shared → Prop := fun _ _ => False
abbrev testsOf (ifs : List Expr) (env : Env) : Sem Bool := forIn ifs true fun c r => if r = true then do let ok ← isTrue c env (eval c env); pure (ForInStep.yield ok) else pure (ForInStep.yield r)
section
variable {prog : Program} {w : World} {A : Around} {s : Shared} {elt t0 i0 t1 i1 t2 i2 : Expr} {if0 if1 if2 : List Expr} {scope : Scope} {pos : Pos} {it acc : Value} {env : Env}
/-- the last body: an item is laid behind -/
def bLast (prog : Program) (w : World) (A : Around) (elt : Expr) (env : Env) (acc : Value) : BodyT := fun K s =>
  wpAny (model prog w) A (eval elt env) (fun x s4 => wpAny (model prog w) A (call (.builtin "list.append") [acc, x]) (fun _ s5 => K s5) NoE s4) NoE s
/-- a body that is the next clause -/
def bNest (prog : Program) (w : World) (A : Around) (e : Expr) (k : Nat) (iter : Expr) (env : Env) (acc : Value) : BodyT := fun K s =>
  wpAny (model prog w) A (eval iter env) (fun x s4 => wpAny (model prog w) A (pyIter x) (fun it1 s5 =>
    codeAny (model prog w) A (.compStart e k it1 acc env) (fun r s' => match r with | .ok _ => K s' | .error _ => False) s5) NoE s4) NoE s
/-- a turn of the clause at k, with that body -/
def TurnsBy (prog : Program) (w : World) (A : Around) (e : Expr) (k : Nat) (t : Expr) (ifs : List Expr) (acc : Value) (env : Env) (B : BodyT) : Prop :=
  ∀ (it : Value) (Q : Fin → Shared → Prop) (E : Value → Shared → Prop) (s : Shared),
    wpAny (model prog w) A (pyNext it) (fun r s1 => match r with
      | none => Q (.done .next) s1
      | some v => wpAny (model prog w) A (letOwnedTupleGo t it v) (fun _ s2 => wpAny (model prog w) A (assign t env v) (fun _ s3 =>
          wpAny (model prog w) A (testsOf ifs env) (fun ok s4 => if ok = true then B (fun s5 => Q (.again (.compLoop e k it acc env)) s5) s4 else Q (.again (.compLoop e k it acc env)) s4) NoE s3) NoE s2) NoE s1) NoE s →
    wpAny (model prog w) A (compTurn e k it acc env) Q E s
abbrev lc3E (elt t0 i0 t1 i1 t2 i2 : Expr) (if0 if1 if2 : List Expr) (scope : Scope) (pos : Pos) : Expr := .ListComp elt [⟨t0, i0, if0, 0⟩, ⟨t1, i1, if1, 0⟩, ⟨t2, i2, if2, 0⟩] scope pos
theorem turns_0 (hs : ∀ x, foldedSetIterable i1 env x = pure x) :
    TurnsBy prog w A (lc3E elt t0 i0 t1 i1 t2 i2 if0 if1 if2 scope pos) 0 t0 if0 acc env (bNest prog w A (lc3E elt t0 i0 t1 i1 t2 i2 if0 if1 if2 scope pos) 1 i1 env acc) := by
  intro it Q E s h
  unfold compTurn
  refine wpAny_bind (wpAny_standAt (wpAny_bind (thnF h fun r s1 h1 => ?_)))
  cases r with
  | none => exact wpAny_pure h1
  | some v =>
    refine wpAny_bind (thnF h1 fun _ s2 h2 => ?_)
    refine wpAny_bind (thnF h2 fun _ s3 h3 => wpAny_bind (thnF h3 fun ok s4 h4 => ?_))
    cases ok with
    | false => exact wpAny_pure h4
    | true =>
      refine wpAny_bind (thnF h4 fun x s5 h5 => ?_)
      refine wpAny_bind (wpAny_standAt (wpAny_bind (wpAny_of_eq (hs x) (wpAny_bind (wpAny_holding (thnF h5 fun it1 s6 h6 => ?_))))))
      refine wpAny_bind (wpAny_runOwn ?_)
      rw [Around.mark_none]
      refine codeAny_mono h6 fun r s' hr => ?_
      cases r with
      | ok f =>
        first
          | exact wpAny_pure hr
          | exact wpAny_bind (wpAny_pure (wpAny_pure hr))
      | error e => exact hr.elim
theorem turns_1 (hs : ∀ x, foldedSetIterable i2 env x = pure x) :
    TurnsBy prog w A (lc3E elt t0 i0 t1 i1 t2 i2 if0 if1 if2 scope pos) 1 t1 if1 acc env (bNest prog w A (lc3E elt t0 i0 t1 i1 t2 i2 if0 if1 if2 scope pos) 2 i2 env acc) := by
  intro it Q E s h
  unfold compTurn
  refine wpAny_bind (wpAny_standAt (wpAny_bind (thnF h fun r s1 h1 => ?_)))
  cases r with
  | none => exact wpAny_pure h1
  | some v =>
    refine wpAny_bind (thnF h1 fun _ s2 h2 => ?_)
    refine wpAny_bind (thnF h2 fun _ s3 h3 => wpAny_bind (thnF h3 fun ok s4 h4 => ?_))
    cases ok with
    | false => exact wpAny_pure h4
    | true =>
      refine wpAny_bind (thnF h4 fun x s5 h5 => ?_)
      refine wpAny_bind (wpAny_standAt (wpAny_bind (wpAny_of_eq (hs x) (wpAny_bind (wpAny_holding (thnF h5 fun it1 s6 h6 => ?_))))))
      refine wpAny_bind (wpAny_runOwn ?_)
      rw [Around.mark_none]
      refine codeAny_mono h6 fun r s' hr => ?_
      cases r with
      | ok f =>
        first
          | exact wpAny_pure hr
          | exact wpAny_bind (wpAny_pure (wpAny_pure hr))
      | error e => exact hr.elim
theorem turns_2 : TurnsBy prog w A (lc3E elt t0 i0 t1 i1 t2 i2 if0 if1 if2 scope pos) 2 t2 if2 acc env (bLast prog w A elt env acc) := by
  intro it Q E s h
  unfold compTurn
  refine wpAny_bind (wpAny_standAt (wpAny_bind (thnF h fun r s1 h1 => ?_)))
  cases r with
  | none => exact wpAny_pure h1
  | some v =>
    refine wpAny_bind (thnF h1 fun _ s2 h2 => ?_)
    refine wpAny_bind (thnF h2 fun _ s3 h3 => wpAny_bind (thnF h3 fun ok s4 h4 => ?_))
    cases ok with
    | false => exact wpAny_pure h4
    | true => exact wpAny_bind (wpAny_bind (thnF h4 fun x s5 h5 => wpAny_bind (thnF h5 fun _ s6 h6 => wpAny_pure (wpAny_pure h6))))
/-- a clause's loop -/
theorem turns_loop {gens : List Comprehension} {k : Nat} {t : Expr} {ifs : List Expr} {B : BodyT} {R : Result → Shared → Prop} (hT : TurnsBy prog w A (.ListComp elt gens scope pos) k t ifs acc env B) (hq : (Code.compLoop (.ListComp elt gens scope pos) k it acc env).quiet = true) (I : Nat → Shared → Prop)
    (turn : ∀ n s, I n s → wpAny (model prog w) A (pyNext it) (fun r s1 => match r with
      | none => R (.ok .next) s1
      | some v => wpAny (model prog w) A (letOwnedTupleGo t it v) (fun _ s2 => wpAny (model prog w) A (assign t env v) (fun _ s3 =>
          wpAny (model prog w) A (testsOf ifs env) (fun ok s4 => if ok = true then B (fun s5 => ∃ m, m < n ∧ I m s5) s4 else ∃ m, m < n ∧ I m s4) NoE s3) NoE s2) NoE s1) NoE s)
    (hB : ∀ (K K' : Shared → Prop) s, (∀ s, K s → K' s) → B K s → B K' s)
    (n : Nat) (h : I n s) : codeAny (model prog w) A (.compLoop (.ListComp elt gens scope pos) k it acc env) R s := by
  refine codeAny_loop hq I (fun n s hI => ?_) n h
  show wpAny _ A ((compTurn (.ListComp elt gens scope pos) k it acc env).onRaise (fun x => do noteFrame x env; theTreesLotGoes x)) _ _ s
  refine wpAny_noted (hT it _ _ s (thnF (turn n s hI) fun r s1 h1 => ?_))
  cases r with
  | none => exact h1
  | some v =>
    refine thnF h1 fun _ s2 h2 => thnF h2 fun _ s3 h3 => thnF h3 fun ok s4 h4 => ?_
    cases ok with
    | false => exact ⟨rfl, h4⟩
    | true => exact hB _ _ _ (fun s5 h5 => ⟨rfl, h5⟩) h4
theorem bLast_mono {K K' : Shared → Prop} (hk : ∀ s, K s → K' s) (h : bLast prog w A elt env acc K s) : bLast prog w A elt env acc K' s :=
  thnF h fun x s4 h4 => thnF h4 fun _ s5 h5 => hk _ h5
theorem bNest_mono {e iter : Expr} {k : Nat} {K K' : Shared → Prop} (hk : ∀ s, K s → K' s) (h : bNest prog w A e k iter env acc K s) : bNest prog w A e k iter env acc K' s :=
  thnF h fun x s4 h4 => thnF h4 fun _ s5 h5 => codeAny_mono h5 fun r s' hr => by
    cases r with
    | ok f => exact hk _ hr
    | error e => exact hr.elim
/-- a clause's start, behind the first one's -/
theorem start_at {gens : List Comprehension} {k : Nat} {R : Result → Shared → Prop} (ha : ((clausesOf (.ListComp elt gens scope pos))[k]?).elim false (fun g => g.is_async != 0) = false) (h0 : codeAny (model prog w) A (.compLoop (.ListComp elt gens scope pos) k it acc env) R s)
    (h : wpAny (model prog w) A (pyIter it) (fun it' s' => codeAny (model prog w) A (.compLoop (.ListComp elt gens scope pos) k it' acc env) R s') NoE s) (hq : (Code.compLoop (.ListComp elt gens scope pos) k it acc env).quiet = true := by rfl) (hq' : ∀ it', (Code.compLoop (.ListComp elt gens scope pos) k it' acc env).quiet = true := by intro _; rfl) :
    codeAny (model prog w) A (.compStart (.ListComp elt gens scope pos) k it acc env) R s := by
  refine codeAny_of_tree ?_
  show wpAny _ _ ((compStart (.ListComp elt gens scope pos) k it acc env).onRaise (fun x => do noteFrame x env; standAt theWindowsPlace)) _ _ s
  refine wpAny_notedAt ?_
  unfold compStart
  rw [ha]
  show wpAny _ _ (ask >>= _) _ _ s
  refine wpAny_bind (wpAny_askSetting (wpAny_ite ?_))
  split
  · first
      | exact wpAny_bind (wpAny_pure (wpAny_pure ⟨hq, h0⟩))
      | exact wpAny_pure ⟨hq, h0⟩
  · refine wpAny_bind (wpAny_rule ?_)
    split
    · exact wpAny_bind (wpAny_standAt (wpAny_bind (thnF h fun it' s' h' => wpAny_pure ⟨hq' it', h'⟩)))
    · first
        | exact wpAny_bind (thnF h fun it' s' h' => wpAny_pure ⟨hq' it', h'⟩)
        | exact wpAny_bind (wpAny_pure (wpAny_bind (thnF h fun it' s' h' => wpAny_pure ⟨hq' it', h'⟩)))
end

/-! ### with the invariant -/
abbrev TBd := L2.St → Hp → (Hp → Prop) → Prop
/-- what a body brings about; vsB: the slots that it may write -/
structure PBd (Y : Cx) (B : BodyT) (vsB : List Nat) (t : TBd) : Prop where
  run : ∀ (pins : List (Addr × Obj)) (s : Shared) (σ : L2.St) (H : Hp) (Q : Hp → Prop), Inv Y pins σ H s → t σ H Q → B (fun s' => ∃ H', Inv Y pins (wipe σ vsB) H' s' ∧ Q H') s
  mono : ∀ (K K' : Shared → Prop) s, (∀ s, K s → K' s) → B K s → B K' s
def tbLast (te : TE) (D : Addr) : TBd := fun σ H Q => te σ H fun y H1 => ∃ acc, H1 D = some (.lst acc) ∧ acc.length < sizeLine ∧ Q (upd H1 D (.lst (acc ++ [y])))
def tbNest (wi : TI) (g : TG) (tt : TT) (tB : TBd) (vs : List Nat) : TBd := fun σ H Q => wi σ H fun J H1 => ∃ W : Nat → Nat → Hp → Prop, (∃ m, W 0 m H1) ∧ ∀ i m H, W i m H →
  (J.stop i H ∧ Q H) ∨ (J.go i H ∧ ∃ Nx : Hp → Prop, (∀ H', Nx H' → ∃ m', m' < m ∧ W (i + 1) m' H') ∧ ∀ x H', J.yld i H x H' → g x (wipe σ vs) H' fun σ2 H2 => wipe σ2 vs = wipe σ vs ∧ tt σ2 H2 fun b H3 => if b = true then tB σ2 H3 Nx else Nx H3)
section
variable {Y : Cx}
theorem pbd_last {elt : Expr} {te : TE} {D : Addr} (hx : Y.xe = NoE) (he : PE Y elt te) : PBd Y (bLast Y.prog Y.w Y.A elt Y.env (.ref D)) [] (tbLast te D) where
  run := fun pins s σ H Q I h => by
    have r := he.run pins s σ H _ I h
    rw [hx] at r
    exact thnF r fun z s4 ⟨yv, H4, I4, r4, ac, hD, hz, q⟩ => app_ok I4 hD hz r4 fun s5 I5 => ⟨_, I5, q⟩
  mono := fun K K' s hk h => bLast_mono hk h
/-- the loop of a clause whose iterator is there -/
theorem clause_loop {elt tg : Expr} {gens : List Comprehension} {scope : Scope} {pos : Pos} {k : Nat} {ifs : List Expr} {B : BodyT} {vsB vs : List Nat} {tB : TBd} {g : TG} {tt : TT} {D : Addr} {it : Addr} {fp : List Addr} {tn : Nat → Heap → Prop} {J : It} {pins : List (Addr × Obj)} {σ : L2.St} {W : Nat → Nat → Hp → Prop} {Q : Hp → Prop} {m0 : Nat} {H0 : Hp} {s : Shared}
    (hc : Y.calm = true) (hx : Y.xe = NoE) (hg : PG Y tg g) (ht : PTs Y ifs tt) (hB : PBd Y B vsB tB) (hsub : ∀ i ∈ vsB, i ∈ vs) (hT : TurnsBy Y.prog Y.w Y.A (.ListComp elt gens scope pos) k tg ifs (.ref D) Y.env B) (T : Turn Y.prog Y.w Y.K tg J fp it tn)
    (turn : ∀ i m H, W i m H → (J.stop i H ∧ Q H) ∨ (J.go i H ∧ ∃ Nx : Hp → Prop, (∀ H', Nx H' → ∃ m', m' < m ∧ W (i + 1) m' H') ∧ ∀ x H', J.yld i H x H' → g x (wipe σ vs) H' fun σ2 H2 => wipe σ2 vs = wipe σ vs ∧ tt σ2 H2 fun b H3 => if b = true then tB σ2 H3 Nx else Nx H3))
    (I0 : Inv Y pins (wipe σ vs) H0 s) (st0 : tn 0 s.heap) (f0 : ∀ b ∈ fp, FpOk Y pins H0 b) (w0 : W 0 m0 H0) (hq : (Code.compLoop (.ListComp elt gens scope pos) k (.ref it) (.ref D) Y.env).quiet = true := by rfl) :
    codeAny (model Y.prog Y.w) Y.A (.compLoop (.ListComp elt gens scope pos) k (.ref it) (.ref D) Y.env) (fun r s' => match r with | .ok _ => ∃ H', Inv Y pins (wipe σ vs) H' s' ∧ Q H' | .error _ => False) s := by
  have stat : ∀ {H' : Hp}, (∀ b ∈ fp, H' b = none) → ∀ b ∈ fp, FpOk Y pins H' b := fun hn b hb => ⟨hn b hb, (f0 b hb).2⟩
  refine turns_loop hT hq (fun n s' => ∃ i H', Inv Y pins (wipe σ vs) H' s' ∧ tn i s'.heap ∧ (∀ b ∈ fp, H' b = none) ∧ W i n H') ?_ hB.mono m0 ⟨0, H0, I0, st0, fun b hb => (f0 b hb).1, w0⟩
  rintro n s5 ⟨i, H5, I5, st5, n5, w5⟩
  rcases turn i n H5 w5 with ⟨stop, qq⟩ | ⟨go, Nx, hNx, step⟩
  · refine thnF (T.done Y rfl rfl rfl hc i pins s5 _ H5 NoE I5 (stat n5) st5 stop) fun r s6 ⟨hr, I6⟩ => ?_
    subst hr
    exact ⟨H5, I6, qq⟩
  · refine thnF (T.item Y rfl rfl rfl hc i pins s5 _ H5 NoE I5 (stat n5) st5 go) fun r s6 ⟨u, hr, h6⟩ => ?_
    subst hr
    refine thnF h6 fun _ s7 ⟨x, H7, I7, r7, y7, st7, n7⟩ => ?_
    have I7' := I7.pinned (stat n7) (T.obj _ _ st7)
    have ra := hg.run _ s7 _ H7 x u _ I7' r7 (step x H7 y7)
    rw [hx] at ra
    refine thnF ra fun _ s8 ⟨σ8, H8, I8, hw8, q8⟩ => ?_
    have rt := ht.run _ s8 σ8 H8 _ I8 q8
    rw [hx] at rt
    refine thnF rt fun b s9 ⟨H9, I9, q9⟩ => ?_
    have fin : ∀ {σ9 : L2.St} {s' : Shared} {H' : Hp}, Inv Y (pins ++ pinsAt fp s7.heap) σ9 H' s' → (wipe σ vs).length = σ9.length → (∀ (j : Nat) v, (wipe σ vs)[j]? = some (some v) → σ9[j]? = some (some v)) → Nx H' →
        ∃ m, m < n ∧ ∃ i H', Inv Y pins (wipe σ vs) H' s' ∧ tn i s'.heap ∧ (∀ b ∈ fp, H' b = none) ∧ W i m H' := fun {σ9 s' H'} I' hl hk nx => by
      obtain ⟨m', hm, w'⟩ := hNx H' nx
      have pin' : ∀ b ∈ fp, ∀ o, s7.heap.get? b = some o → s'.heap.get? b = some o ∧ H' b = none := fun b hb o e =>
        have z := I'.pin (b, o) (List.mem_append_right _ (List.mem_append_right _ (mem_pinsAt hb e)))
        ⟨z.1, z.2.1⟩
      refine ⟨m', hm, i + 1, H', (I'.unpinned (pins := pins)).weak hl hk, T.keep _ _ _ st7 fun b hb o e => (pin' b hb o e).1, fun b hb => ?_, w'⟩
      obtain ⟨o, e, _⟩ := T.obj _ _ st7 b hb
      exact (pin' b hb o e).2
    have hl8 : (wipe σ vs).length = σ8.length := by rw [← hw8, wipe_length]
    have hk8 : ∀ (j : Nat) v, (wipe σ vs)[j]? = some (some v) → σ8[j]? = some (some v) ∧ j ∉ vs := fun j v e => by
      rw [← hw8] at e
      exact wipe_some e
    cases b with
    | false => exact fin I9 hl8 (fun j v e => (hk8 j v e).1) q9
    | true =>
      refine hB.mono _ _ _ (fun s' ⟨H', I', q'⟩ => fin I' (hl8.trans (wipe_length _ _).symm) (fun j v e => ?_) q') (hB.run _ s9 σ8 H9 _ I9 q9)
      obtain ⟨e1, e2⟩ := hk8 j v e
      rw [wipe_out fun z => e2 (hsub j z)]
      exact e1
theorem pbd_nest {elt tg iter : Expr} {gens : List Comprehension} {scope : Scope} {pos : Pos} {k : Nat} {ifs : List Expr} {B : BodyT} {vsB vs : List Nat} {tB : TBd} {wi : TI} {g : TG} {tt : TT} {D : Addr} (hc : Y.calm = true) (hx : Y.xe = NoE) (hi : PI Y tg iter wi) (hg : PG Y tg g) (ht : PTs Y ifs tt) (hB : PBd Y B vsB tB) (hsub : ∀ i ∈ vsB, i ∈ vs)
    (hT : TurnsBy Y.prog Y.w Y.A (.ListComp elt gens scope pos) k tg ifs (.ref D) Y.env B) (ha : ((clausesOf (.ListComp elt gens scope pos))[k]?).elim false (fun g => g.is_async != 0) = false) : PBd Y (bNest Y.prog Y.w Y.A (.ListComp elt gens scope pos) k iter Y.env (.ref D)) vs (tbNest wi g tt tB vs) where
  run := fun pins s σ H Q I h => by
    have r := hi.run pins s σ H _ I h
    rw [hx] at r
    refine thnF r fun xv s10 h10 => thnF h10 fun itv s11 h11 => ?_
    obtain ⟨it1, fp1, tn1, J1, H11, e1, I11, T1, st11, f11, W1, ⟨m1, w1⟩, turn1⟩ := h11
    subst e1
    have loop := clause_loop (k := k) (D := D) hc hx hg ht hB hsub hT T1 turn1 (I11.weak (wipe_length _ _) fun j v e => (wipe_some e).1) st11 f11 w1
    exact start_at ha loop (T1.self Y.A 0 _ _ _ st11 loop)
  mono := fun K K' s hk h => bNest_mono hk h
end
/-- a list comprehension by its first clause and a body -/
def tLcB (wi : TI) (g : TG) (tt : TT) (tB : Addr → TBd) (vs : List Nat) : TE := fun σ H Q => wi σ H fun J H1 => ∀ D, H1 D = none → ∃ W : Nat → Nat → Hp → Prop, (∃ m, W 0 m (upd H1 D (.lst []))) ∧ ∀ i m H, W i m H →
  (J.stop i H ∧ Q (.ref D) H) ∨ (J.go i H ∧ ∃ Nx : Hp → Prop, (∀ H', Nx H' → ∃ m', m' < m ∧ W (i + 1) m' H') ∧ ∀ x H', J.yld i H x H' → g x (wipe σ vs) H' fun σ2 H2 => wipe σ2 vs = wipe σ vs ∧ tt σ2 H2 fun b H3 => if b = true then tB D σ2 H3 Nx else Nx H3)
section
variable {X : Cx}
abbrev Blk (X : Cx) (s : Shared) (H : Hp) (scope : Scope) (C : Addr) (cl : List (Str × Addr)) (fp : List Addr) : Cx := X.blk s H scope (compEnvC scope cl C X.env) fp
theorem pe_lcB {elt tg iter : Expr} {ifs : List Expr} {rest : List Comprehension} {scope : Scope} {own : List (Str × Nat)} {pos : Pos} {wi : TI} {g : TG} {tt : TT} {tB : Addr → TBd} {vsB : List Nat} {B : Env → Addr → BodyT} (hc : X.calm = true) (hN : X.N.Nodup) (hi : PI X tg iter wi) (ok : BlkOk X.N X.env.scope scope own)
    (hg : ∀ (s : Shared) (H : Hp) (C : Addr) (cl : List (Str × Addr)) (fp : List Addr), PG (X.blk s H scope (compEnvC scope cl C X.env) fp) tg g) (ht : ∀ (s : Shared) (H : Hp) (C : Addr) (cl : List (Str × Addr)) (fp : List Addr), PTs (X.blk s H scope (compEnvC scope cl C X.env) fp) ifs tt)
    (hB : ∀ (s : Shared) (H : Hp) (C : Addr) (cl : List (Str × Addr)) (fp : List Addr) (D : Addr), PBd (Blk X s H scope C cl fp) (B (compEnvC scope cl C X.env) D) vsB (tB D)) (hsub : ∀ i ∈ vsB, i ∈ own.map (·.2))
    (hT : ∀ env D, TurnsBy X.prog X.w X.A (.ListComp elt (⟨tg, iter, ifs, 0⟩ :: rest) scope pos) 0 tg ifs (.ref D) env (B env D)) (hs : ∀ x, foldedSetIterable iter X.env x = pure x) :
    PE X (.ListComp elt (⟨tg, iter, ifs, 0⟩ :: rest) scope pos) (tLcB wi g tt tB (own.map (·.2))) := by
  refine ⟨fun pins s σ H Q I h => ?_⟩
  rw [eval_ListComp]
  have caught : ∀ y ∈ scope.names, y.2 = .free → ∃ c, X.env.cells.lookup y.1 = some c := fun y hy e => (ok.free y hy e).elim (fun k => I.ok.has _ (.inl k)) fun k => I.ok.has _ (.inr k)
  refine wpAny_comprehension_free (use := none) rfl hs (closure_ok caught) ok.kind (fun y hy e => by rw [ok.uniq y hy, e]) (thn (hi.run pins s σ H _ I h) fun xv s1 hx => thn hx fun itv s2 ⟨it, fp, tn, J, H2, ee, I2, T, st2, f2, q⟩ => ?_)
  subst ee
  refine wpAny_newObj_type (newEnv_comp ?_) (by show 0 ≤ sizeLine; decide)
  generalize hD : s2.heap.objs.size = D
  obtain ⟨W, ⟨m0, w0⟩, turn⟩ := q D (I2.hok.fresh (Nat.le_of_eq hD))
  generalize hs3 : ({ s2 with heap := s2.heap.push { cls := .type "list", data := .seq ([] : List Value).toArray } } : Shared) = s3
  have hp3 : s3.heap = s2.heap.push { cls := .type "list", data := .seq ([] : List Value).toArray } := by rw [← hs3]
  have I3 : Inv X pins σ (upd H2 D (.lst [])) s3 := by
    subst hs3
    exact I2.laid (t' := s2.toks) (fun b o e => Heap.get?_push_of_some _ e) (Nat.le_of_eq hD) ⟨Nat.zero_le _, [], 0, .nil, by subst hD; exact Heap.get?_push_size _ rfl⟩
  have f3 : ∀ b ∈ fp, FpOk X pins (upd H2 D (.lst [])) b ∧ b < s3.heap.objs.size := fun b hb => by
    obtain ⟨o, e, _⟩ := T.obj _ _ st2 b hb
    have hlt := Heap.lt_size e
    refine ⟨⟨?_, (f2 b hb).2⟩, by rw [hp3, Heap.size_push]; exact Nat.lt_succ_of_lt hlt⟩
    rw [upd_ne (by rw [← hD]; exact Nat.ne_of_lt hlt)]
    exact (f2 b hb).1
  have st3 : tn 0 s3.heap := T.keep _ _ _ st2 fun b _ o e => by rw [hp3]; exact Heap.get?_push_of_some _ e
  have I4 := block_start I3 ok hN f3
  show codeAny (model X.prog X.w) X.A (.compStart (.ListComp elt (⟨tg, iter, ifs, 0⟩ :: rest) scope pos) 0 (.ref it) (.ref D) (compEnvC scope (cellsFrom (s3.heap.objs.size + 1) scope.names (cloFrom X.env.cells scope.names [])) s3.heap.objs.size X.env)) (compPost (model X.prog X.w) X.A X.xe none (EP X pins σ Q) (.ref D) s3.heap.objs.size) { s3 with heap := pushCells (s3.heap.push { cls := .type "dict", data := .dict #[] }) scope.names }
  generalize hcl : cellsFrom (s3.heap.objs.size + 1) scope.names (cloFrom X.env.cells scope.names []) = cl at I4 ⊢
  have pg := hg s3 (upd H2 D (.lst [])) s3.heap.objs.size cl fp
  have pt := ht s3 (upd H2 D (.lst [])) s3.heap.objs.size cl fp
  have pb := hB s3 (upd H2 D (.lst [])) s3.heap.objs.size cl fp D
  have st4 : tn 0 (pushCells (s3.heap.push { cls := .type "dict", data := .dict #[] }) scope.names) := T.keep _ _ _ st3 fun b _ o e => pushCells_keeps _ _ _ _ (Heap.get?_push_of_some _ e)
  have f4 : ∀ b ∈ fp, FpOk (Blk X s3 (upd H2 D (.lst [])) scope s3.heap.objs.size cl fp) [] (upd H2 D (.lst [])) b := fun b hb =>
    ⟨(f3 b hb).1.1, (I4.ok.exf b hb).1, I4.ok.exfs b hb, .inl hb, fun x c e => (I4.ok.exf b hb).2 x c e, fun p hp => absurd (show p ∈ ([] : List (Addr × Obj)) ++ [] from hp) (by simp)⟩
  have loop := clause_loop (Y := Blk X s3 (upd H2 D (.lst [])) scope s3.heap.objs.size cl fp) (k := 0) (Q := fun H' => Q (.ref D) H') hc rfl pg pt pb hsub (hT _ D) T turn I4 st4 f4 w0
  have post := codeAny_mono (R' := compPost (model X.prog X.w) X.A X.xe none (EP X pins σ Q) (.ref D) s3.heap.objs.size) loop fun r s6 hr => by
    cases r with
    | error e => exact hr.elim
    | ok v =>
      obtain ⟨H5, I6, qq⟩ := hr
      have I7 : Inv X pins σ H5 s6 := I3.call' (ch := fp) I6.os I6.base I6.hok I6.bare fun b hb => ⟨(f3 b hb).1.2.2.2.1, (f3 b hb).1.2.1, (f3 b hb).1.2.2.2.2.1, (f3 b hb).1.2.2.2.2.2⟩
      have nC : H5 s3.heap.objs.size = none := I6.free
      obtain ⟨m, hn, _⟩ := I6.loc
      obtain ⟨z0, z1, z2, z3, z4, z5⟩ := I3.fpOk (H' := H5) (Nat.le_refl _) nC
      exact ⟨m, hn, fun h'' sb => ⟨.ref D, H5, I7.turned (t' := s6.toks) (fun b o hb e => (sb.2 b hb).trans e) z0 z1 z3 z4 z5, rfl, qq⟩⟩
  exact codeAny_compStart_list post (T.self X.A 0 _ _ _ st4 post)
end

/-! ### as data -/
abbrev DN := En → List PyData → (List PyData → Prop) → Prop
@[simp] def walkN (b : Bd) (gt : DB) (dB : DN) : List PyData → En → List PyData → (List PyData → Prop) → Prop
  | [], _, acc, P => P acc
  | d :: r, ρ, acc, P => b d ρ fun ρ' => gt ρ' fun c => if c = true then dB ρ' acc fun acc' => walkN b gt dB r ρ acc' P else walkN b gt dB r ρ acc P
@[simp] def dnLast (ge : DE) : DN := fun ρ acc P => ge ρ fun y => acc.length < 100000 ∧ P (acc ++ [y])
@[simp] def dnNest (vs : List Nat) (gi : DA) (b : Bd) (gt : DB) (dB : DN) : DN := fun ρ acc P => gi ρ fun ds => walkN b gt dB ds (wipeD ρ vs) acc P
@[simp] def gCompN (vs : List Nat) (gi : DA) (b : Bd) (gt : DB) (dB : DN) : DA := fun ρ P => gi ρ fun ds => walkN b gt dB ds (wipeD ρ vs) [] P
/-- from H to H' no more has come about than D's growth -/
def Tr (K : PySem.W.Frag) (Z : Sg) (C : Ct) (M : Ms) (D : Addr) (H H' : Hp) : Prop :=
  (∀ σ ρ, (∀ i, i ∈ Z.own → σ[i]? ≠ some (some (.ref D))) → ED K Z C (M.with D) σ ρ H → ED K Z C (M.with D) σ ρ H') ∧ (∀ b o, b ≠ D → Z.ta C.t ≠ some b → H b = some o → H' b = some o) ∧ Same (hid (M.with D) H) (hid (M.with D) H')
theorem Tr.trans {K : PySem.W.Frag} {Z : Sg} {C : Ct} {M : Ms} {D : Addr} {H H1 H2 : Hp} (a : Tr K Z C M D H H1) (b : Tr K Z C M D H1 H2) : Tr K Z C M D H H2 :=
  ⟨fun σ ρ hn E => b.1 σ ρ hn (a.1 σ ρ hn E), fun c o h1 h2 e => b.2.1 c o h1 h2 (a.2.1 c o h1 h2 e), a.2.2.trans b.2.2⟩
def tDN (K : PySem.W.Frag) (Z : Sg) (D : Addr) (dB : DN) : TBd := fun σ H Q => ∃ (C : Ct) (M : Ms) (ρ : En) (acc : List PyData) (av : List V) (P : List PyData → Prop), ED K Z C (M.with D) σ ρ H ∧ C.H0 D = none ∧ (∀ i, i ∈ Z.own → σ[i]? ≠ some (some (.ref D))) ∧
  H D = some (.lst av) ∧ DpAll K (hid (M.with D) H) av acc ∧ dB ρ acc P ∧ ∀ acc', P acc' → ∀ av' H', Tr K Z C M D H H' → H' D = some (.lst av') → DpAll K (hid (M.with D) H') av' acc' → Q H'
theorem tr_ra {K : PySem.W.Frag} {Z : Sg} {C : Ct} {M : Ms} {D : Addr} {H H' : Hp} {σ : L2.St} {ρ : En} (r : RA (Z.ta C.t) H H') (E : ED K Z C (M.with D) σ ρ H') : Tr K Z C M D H H' :=
  ⟨fun σ ρ _ E' => E'.go r fun i h => (E.tap i h).2.1, fun b o _ h e => r b o h e, r.hid E.mt⟩
theorem tr_upd {K : PySem.W.Frag} {Z : Sg} {C : Ct} {M : Ms} {D : Addr} {H : Hp} {xs ys : List V} (h : H D = some (.lst xs)) (h0 : C.H0 D = none) : Tr K Z C M D H (upd H D (.lst ys)) :=
  ⟨fun σ ρ hn E => E.writeD h h0 with_self hn, fun b o hb _ e => by rw [upd_ne hb]; exact e, by rw [hid_upd with_self]; exact .refl _⟩
section
variable {Y : Cx} {Z : Sg} {K : PySem.W.Frag} {D : Addr}
theorem pbd_wk {B : BodyT} {vsB : List Nat} {t t' : TBd} (h : PBd Y B vsB t) (k : ∀ σ H Q, t' σ H Q → t σ H Q) : PBd Y B vsB t' := ⟨fun pins s σ H Q I q => h.run pins s σ H Q I (k _ _ _ q), h.mono⟩
theorem last_of {ge : DE} (hlx : Z.lx = false) {σ : L2.St} {H : Hp} {Q : Hp → Prop} : tDN K Z D (dnLast ge) σ H Q → tbLast (tG K Z ge) D σ H Q := fun ⟨C, M, ρ, acc, av, P, E, h0, hn, hD, da, hge, k⟩ => by
  refine ⟨C, _, ρ, _, E, hge, fun d ⟨hl, hd⟩ v H5 r5 E5 dv => ?_⟩
  rw [vw_of hlx] at dv
  have hD5 := r5 D _ (E.not_t h0) hD
  have s5 := E.hs r5
  refine ⟨av, hD5, by rw [dpa_len da]; exact szlt hl, k _ hd (av ++ [v]) _ ((tr_ra r5 E5).trans (tr_upd hD5 h0)) upd_same ?_⟩
  rw [hid_upd with_self]
  exact dpa_app (dpa_mono s5 da) (.cons dv .nil)
theorem nest_of {gi : DA} {b : Bd} {sl vs : List Nat} {gt : DB} {dB : DN} {tgt : TG} (hb : BdOk K Z tgt b sl) (hso : ∀ j ∈ sl, j ∉ Z.own) (hsl : ∀ j ∈ sl, j ∈ vs) (ht : ∀ i, Z.tp = some i → i ∉ vs) {σ : L2.St} {H : Hp} {Q : Hp → Prop} :
    tDN K Z D (dnNest vs gi b gt dB) σ H Q → tbNest (tIt K Z gi) tgt (tGB K Z gt) (tDN K Z D dB) vs σ H Q := fun ⟨C, M, ρ, acc, av, P, E, h0, hn, hD, da, hgi, k⟩ => by
  refine ⟨C, _, ρ, _, E, hgi, fun ds hds J H1 G r1 E1 go hG => ?_⟩
  have nt : Z.ta C.t ≠ some D := E.not_t h0
  refine ⟨fun i m H2 => m = ds.length - i ∧ i ≤ ds.length ∧ ∃ av acc, ED K Z C (M.with D) σ ρ H2 ∧ Tr K Z C M D H H2 ∧ G (M.with D) H2 ∧ H2 D = some (.lst av) ∧ DpAll K (hid (M.with D) H2) av acc ∧ walkN b gt dB (ds.drop i) (wipeD ρ vs) acc P,
    ⟨ds.length, rfl, Nat.zero_le _, av, acc, E1, tr_ra r1 E1, hG, r1 D _ nt hD, dpa_mono (E.hs r1) da, hds⟩, ?_⟩
  rintro i m H2 ⟨rfl, hi, av2, acc2, E2, T2, G2, hD2, da2, F2⟩
  by_cases hlt : i < ds.length
  · rw [drop_at hlt] at F2
    obtain ⟨g1, g2⟩ := go.go _ H2 i _ E2.liv G2 (List.getElem?_eq_getElem hlt)
    refine .inr ⟨g1, fun H' => ∃ av acc, ED K Z C (M.with D) σ ρ H' ∧ Tr K Z C M D H H' ∧ G (M.with D) H' ∧ H' D = some (.lst av) ∧ DpAll K (hid (M.with D) H') av acc ∧ walkN b gt dB (ds.drop (i + 1)) (wipeD ρ vs) acc P,
      fun H' ⟨av', acc', h⟩ => ⟨ds.length - (i + 1), by omega, rfl, hlt, av', acc', h⟩, fun x H3 y => ?_⟩
    obtain ⟨s3, dx⟩ := g2 x H3 y
    have E3 := E2.same s3
    refine hb C _ _ _ H3 x _ _ _ (E3.wipe ht) dx F2 fun ρ' hP σ' E3' hl' hj => ⟨wipe_eq (by rw [hl', wipe_length]) fun j hjv => by rw [hj j fun z => hjv (hsl j z)], ?_⟩
    refine ⟨C, _, ρ', _, E3', hP, fun c hc H4 r4 E4 => ?_⟩
    have q24 : RA (Z.ta C.t) H2 H4 := (RA.of s3).trans r4
    have T24 : Tr K Z C M D H2 H4 := tr_ra q24 E4
    have hs24 := E2.hs q24
    cases c with
    | false => exact ⟨av2, acc2, T24.1 _ _ hn E2, T2.trans T24, go.keep _ _ _ _ G2 hs24, q24 D _ nt hD2, dpa_mono hs24 da2, hc⟩
    | true =>
      refine ⟨C, M, ρ', acc2, av2, _, E4, h0, fun i hi z => ?_, q24 D _ nt hD2, dpa_mono hs24 da2, hc, fun acc' hP' av' H' T4 hD' da' => ⟨av', acc', (T24.trans T4).1 _ _ hn E2, (T2.trans T24).trans T4, go.keep _ _ _ _ G2 (hs24.trans T4.2.2), hD', da', hP'⟩⟩
      rw [hj i fun q => hso i q hi] at z
      exact hn i hi (wipe_some z).1
  · have e : i = ds.length := by omega
    subst e
    rw [List.drop_length] at F2
    exact .inl ⟨go.stop _ _ _ E2.liv G2 (Nat.le_refl _), k acc2 F2 av2 H2 T2 hD2 da2⟩
theorem tLcB_of {gi : DA} {b : Bd} {sl vs : List Nat} {gt : DB} {dB : DN} {tgt : TG} (hlx : Z.lx = false) (hb : BdOk K Z tgt b sl) (hso : ∀ j ∈ sl, j ∉ Z.own) (hsl : ∀ j ∈ sl, j ∈ vs) (ht : ∀ i, Z.tp = some i → i ∉ vs) {σ : L2.St} {H : Hp} {Q : VK} :
    tGF K Z (gCompN vs gi b gt dB) σ H Q → tLcB (tIt K Z gi) tgt (tGB K Z gt) (fun D => tDN K Z D dB) vs σ H Q := fun ⟨C, M, ρ, P, E, hgi, k⟩ => by
  refine ⟨C, M, ρ, _, E, hgi, fun ds hds J H1 G r1 E1 go hG D hD => ?_⟩
  have s1 : Same H1 (upd H1 D (.lst [])) := same_new hD
  have sw : Same (hid M H1) (hid (M.with D) (upd H1 D (.lst []))) := hid_with hD
  have hn : ∀ i, i ∈ Z.own → σ[i]? ≠ some (some (.ref D)) := fun i hi z => E1.ol i D hi z hD
  have nD : H D = none := by
    cases e : H D with
    | none => rfl
    | some o =>
      by_cases q : Z.ta C.t = some D
      · obtain ⟨⟨i, h'⟩, e'⟩ := Sg.ta_some q
        subst e'
        exact absurd hD (E1.tap i h').2.1.live
      · rw [r1 D o q e] at hD
        cases hD
  have h0 : C.H0 D = none := E.free0 nD
  have nt : Z.ta C.t ≠ some D := E.not_t h0
  have EA : ED K Z C (M.with D) σ ρ (upd H1 D (.lst [])) := E1.alloc hD _ (fun _ => rfl) sw s1
  refine ⟨fun i m H2 => m = ds.length - i ∧ i ≤ ds.length ∧ ∃ av acc, ED K Z C (M.with D) σ ρ H2 ∧ Tr K Z C M D (upd H1 D (.lst [])) H2 ∧ G (M.with D) H2 ∧ H2 D = some (.lst av) ∧ DpAll K (hid (M.with D) H2) av acc ∧ walkN b gt dB (ds.drop i) (wipeD ρ vs) acc P,
    ⟨ds.length, rfl, Nat.zero_le _, [], [], EA, tr_ra .refl EA, go.keep _ _ _ _ hG sw, upd_same, .nil, hds⟩, ?_⟩
  rintro i m H2 ⟨rfl, hi, av2, acc2, E2, T2, G2, hD2, da2, F2⟩
  by_cases hlt : i < ds.length
  · rw [drop_at hlt] at F2
    obtain ⟨g1, g2⟩ := go.go _ H2 i _ E2.liv G2 (List.getElem?_eq_getElem hlt)
    refine .inr ⟨g1, fun H' => ∃ av acc, ED K Z C (M.with D) σ ρ H' ∧ Tr K Z C M D (upd H1 D (.lst [])) H' ∧ G (M.with D) H' ∧ H' D = some (.lst av) ∧ DpAll K (hid (M.with D) H') av acc ∧ walkN b gt dB (ds.drop (i + 1)) (wipeD ρ vs) acc P,
      fun H' ⟨av', acc', h⟩ => ⟨ds.length - (i + 1), by omega, rfl, hlt, av', acc', h⟩, fun x H3 y => ?_⟩
    obtain ⟨s3, dx⟩ := g2 x H3 y
    have E3 := E2.same s3
    refine hb C _ _ _ H3 x _ _ _ (E3.wipe ht) dx F2 fun ρ' hP σ' E3' hl' hj => ⟨wipe_eq (by rw [hl', wipe_length]) fun j hjv => by rw [hj j fun z => hjv (hsl j z)], ?_⟩
    refine ⟨C, _, ρ', _, E3', hP, fun c hc H4 r4 E4 => ?_⟩
    have q24 : RA (Z.ta C.t) H2 H4 := (RA.of s3).trans r4
    have T24 : Tr K Z C M D H2 H4 := tr_ra q24 E4
    have hs24 := E2.hs q24
    cases c with
    | false => exact ⟨av2, acc2, T24.1 _ _ hn E2, T2.trans T24, go.keep _ _ _ _ G2 hs24, q24 D _ nt hD2, dpa_mono hs24 da2, hc⟩
    | true =>
      refine ⟨C, M, ρ', acc2, av2, _, E4, h0, fun i hi z => ?_, q24 D _ nt hD2, dpa_mono hs24 da2, hc, fun acc' hP' av' H' T4 hD' da' => ⟨av', acc', (T24.trans T4).1 _ _ hn E2, (T2.trans T24).trans T4, go.keep _ _ _ _ G2 (hs24.trans T4.2.2), hD', da', hP'⟩⟩
      rw [hj i fun q => hso i q hi] at z
      exact hn i hi (wipe_some z).1
  · have e : i = ds.length := by omega
    subst e
    rw [List.drop_length] at F2
    have s2 : Same (hid M H) (hid (M.with D) H2) := ((E.hs r1).trans sw).trans T2.2.2
    have q2 : RA (Z.ta C.t) H H2 := fun b o ht e => by
      have hbD : b ≠ D := fun z => by rw [z, nD] at e; cases e
      exact T2.2.1 b o hbD ht (s1 b o (r1 b o ht e))
    refine .inl ⟨go.stop _ _ _ E2.liv G2 (Nat.le_refl _), k acc2 F2 D av2 H2 q2 (E2.show_ E.sub hn) E2 s2 nD hD2 (by rw [vw_of hlx]; exact da2)⟩
theorem pdn_last {elt : Expr} {ge : DE} (hx : Y.xe = NoE) (he : PD Y Z elt ge) (hlx : Z.lx = false) : PBd Y (bLast Y.prog Y.w Y.A elt Y.env (.ref D)) [] (tDN Y.K Z D (dnLast ge)) := pbd_wk (pbd_last hx he) fun _ _ _ => last_of hlx
theorem pdn_nest {elt tg iter : Expr} {gens : List Comprehension} {scope : Scope} {pos : Pos} {k : Nat} {ifs : List Expr} {B : BodyT} {vsB vs sl : List Nat} {dB : DN} {gi : DA} {b : Bd} {gt : DB} {tgt : TG} (hc : Y.calm = true) (hx : Y.xe = NoE) (hi : PDI Y Z tg iter gi) (hg : PG Y tg tgt) (hb : BdOk Y.K Z tgt b sl) (ht : PDTs Y Z ifs gt) (hB : PBd Y B vsB (tDN Y.K Z D dB)) (hsub : ∀ i ∈ vsB, i ∈ vs)
    (hT : TurnsBy Y.prog Y.w Y.A (.ListComp elt gens scope pos) k tg ifs (.ref D) Y.env B) (ha : ((clausesOf (.ListComp elt gens scope pos))[k]?).elim false (fun g => g.is_async != 0) = false) (hso : ∀ j ∈ sl, j ∉ Z.own) (hsl : ∀ j ∈ sl, j ∈ vs) (htp : ∀ i, Z.tp = some i → i ∉ vs) :
    PBd Y (bNest Y.prog Y.w Y.A (.ListComp elt gens scope pos) k iter Y.env (.ref D)) vs (tDN Y.K Z D (dnNest vs gi b gt dB)) := pbd_wk (pbd_nest hc hx hi hg ht hB hsub hT ha) fun _ _ _ => nest_of hb hso hsl htp
end
section
variable {X : Cx} {Z : Sg} {elt t0 i0 t1 i1 t2 i2 : Expr} {if0 if1 if2 : List Expr} {scope : Scope} {own : List (Str × Nat)} {pos : Pos} {gi gi1 gi2 : DA} {b b1 b2 : Bd} {sl sl1 vs1 vs2 : List Nat} {gt gt1 gt2 : DB} {ge : DE} {tgt tgt1 tgt2 : TG}
/-- three sources -/
theorem df_comp3 (hc : X.calm = true) (hN : X.N.Nodup) (hi : PDI X Z t0 i0 gi) (ok : BlkOk X.N X.env.scope scope own)
    (hg : ∀ (s : Shared) (H : Hp) (C : Addr) (cl : List (Str × Addr)) (fp : List Addr), PG (X.blk s H scope (compEnvC scope cl C X.env) fp) t0 tgt) (hb : BdOk X.K Z tgt b sl)
    (htt : ∀ (s : Shared) (H : Hp) (C : Addr) (cl : List (Str × Addr)) (fp : List Addr), PDTs (X.blk s H scope (compEnvC scope cl C X.env) fp) Z if0 gt)
    (hi1 : ∀ s H C cl fp, PDI (Blk X s H scope C cl fp) Z t1 i1 gi1) (hg1 : ∀ s H C cl fp, PG (Blk X s H scope C cl fp) t1 tgt1) (hb1 : BdOk X.K Z tgt1 b1 sl1) (htt1 : ∀ s H C cl fp, PDTs (Blk X s H scope C cl fp) Z if1 gt1)
    (hi2 : ∀ s H C cl fp, PDI (Blk X s H scope C cl fp) Z t2 i2 gi2) (hg2 : ∀ s H C cl fp, PG (Blk X s H scope C cl fp) t2 tgt2) (hb2 : BdOk X.K Z tgt2 b2 vs2) (htt2 : ∀ s H C cl fp, PDTs (Blk X s H scope C cl fp) Z if2 gt2)
    (he : ∀ s H C cl fp, PD (Blk X s H scope C cl fp) Z elt ge) (hv1 : vs1 = sl1 ++ vs2 := by rfl)
    (hlx : Z.lx = false := by rfl) (hso : ∀ j ∈ own.map (·.2), j ∉ Z.own := by decide) (hsl : ∀ j ∈ sl, j ∈ own.map (·.2) := by decide) (hv : ∀ j ∈ vs1, j ∈ own.map (·.2) := by decide) (ht : ∀ i, Z.tp = some i → i ∉ own.map (·.2) := by intro i h; cases h <;> decide)
    (hs : ∀ x, foldedSetIterable i0 X.env x = pure x := by intro _; rfl) (hs1 : ∀ env x, foldedSetIterable i1 env x = pure x := by intro _ _; rfl) (hs2 : ∀ env x, foldedSetIterable i2 env x = pure x := by intro _ _; rfl) :
    PDF X Z (lc3E elt t0 i0 t1 i1 t2 i2 if0 if1 if2 scope pos) (gCompN (own.map (·.2)) gi b gt (dnNest vs1 gi1 b1 gt1 (dnNest vs2 gi2 b2 gt2 (dnLast ge)))) := by
  have h1 : ∀ j ∈ sl1, j ∈ vs1 := fun j h => by rw [hv1]; exact List.mem_append_left _ h
  have h2 : ∀ j ∈ vs2, j ∈ vs1 := fun j h => by rw [hv1]; exact List.mem_append_right _ h
  refine pe_wk (pe_lcB (vsB := vs1) (tB := fun D => tDN X.K Z D (dnNest vs1 gi1 b1 gt1 (dnNest vs2 gi2 b2 gt2 (dnLast ge)))) (B := fun env D => bNest X.prog X.w X.A (lc3E elt t0 i0 t1 i1 t2 i2 if0 if1 if2 scope pos) 1 i1 env (.ref D)) hc hN hi ok hg htt
    (fun s H C cl fp D => pdn_nest (Y := Blk X s H scope C cl fp) hc rfl (hi1 s H C cl fp) (hg1 s H C cl fp) hb1 (htt1 s H C cl fp)
      (pdn_nest (Y := Blk X s H scope C cl fp) hc rfl (hi2 s H C cl fp) (hg2 s H C cl fp) hb2 (htt2 s H C cl fp) (pdn_last (Y := Blk X s H scope C cl fp) rfl (he s H C cl fp) hlx) (fun i h => absurd h List.not_mem_nil) turns_2 rfl
        (fun j h => hso j (hv j (h2 j h))) (fun j h => h) (fun i h z => ht i h (hv i (h2 i z)))) h2 (turns_1 fun x => hs2 _ x) rfl (fun j h => hso j (hv j (h1 j h))) h1 (fun i h z => ht i h (hv i z)))
    hv (fun env D => turns_0 fun x => hs1 _ x) hs) fun _ _ _ => tLcB_of hlx hb (fun j h => hso j (hsl j h)) hsl ht
end
/-- a clause all of whose turns go on -/
theorem walkN_all {b : Bd} {gt : DB} {dB : DN} {ρ : En} {P : List PyData → Prop} (f : PyData → List PyData) (c N : Nat) : ∀ (ds acc : List PyData), (∀ d ∈ ds, (f d).length ≤ c) →
    (∀ d ∈ ds, ∀ acc Q, acc.length + c ≤ N → Q (acc ++ f d) → b d ρ fun ρ' => gt ρ' fun c => if c = true then dB ρ' acc Q else Q acc) → acc.length + ds.length * c ≤ N → P (acc ++ ds.flatMap f) → walkN b gt dB ds ρ acc P
  | [], acc, _, _, _, h => by simpa using h
  | d :: r, acc, hc, hd, hN, h => by
    rw [List.length_cons, Nat.succ_mul] at hN
    refine hd d List.mem_cons_self acc _ (by omega) (walkN_all f c N r (acc ++ f d) (fun d' h' => hc d' (List.mem_cons_of_mem _ h')) (fun d' h' => hd d' (List.mem_cons_of_mem _ h')) ?_ (by rw [List.flatMap_cons, ← List.append_assoc] at h; exact h))
    have := hc d List.mem_cons_self
    rw [List.length_append]
    omega
end Pg

namespace Pg
open PySem PySem.Spec PyProof.Rows L2 StX

/-! ### t[::-1] of a tuple -/
section
variable {prog : Program} {w : World} {A : Around} {E : Value → Shared → Prop} {s : Shared}
theorem sl_back {sl : Addr} {vs : Value} {n : Nat} {Q : Int × Int × Nat → Shared → Prop} (hs : s.heap.IsSliceOf sl .none .none vs) (ps : IsPart vs (some (-1)))
    (h : Q ((n : Int) - 1, -1, n) s) : wpAny (model prog w) A (Builtin.Slice.sliceApplied (.ref sl) (pure (n : Int))) Q E s := by
  obtain ⟨os, hos, hcs, hds⟩ := id hs
  unfold Builtin.Slice.sliceApplied Builtin.Slice.sliceFields
  refine wpAny_bind (wpAny_bind (wpAny_field hos hds (x := .none) rfl (wpAny_bind (wpAny_field hos hds (x := .none) rfl (wpAny_bind (wpAny_field hos hds (x := vs) rfl (wpAny_pure ?_)))))))
  refine wpAny_bind (HT.slicePart_ ps ?_)
  show wpAny _ _ (if ((-1 : Int) == 0) = true then _ else _) _ _ s
  rw [if_neg (by decide)]
  refine wpAny_bind (HT.slicePart_ .none (wpAny_bind (HT.slicePart_ .none (wpAny_bind (wpAny_pure ?_)))))
  show wpAny _ _ (pure ((n : Int) - 1, (-1 : Int), Builtin.Slice.slicePlaces ((n : Int) - 1) (-1) (-1))) _ _ s
  have e : Builtin.Slice.slicePlaces ((n : Int) - 1) (-1) (-1) = n := by
    unfold Builtin.Slice.slicePlaces
    rw [if_neg (by decide), Int.neg_neg, Int.ediv_one]
    split <;> omega
  rw [e]
  exact wpAny_pure h
theorem pick_back (xs : List Value) : ((List.range xs.length).filterMap fun (m : Nat) => xs.toArray[(((xs.length : Nat) : Int) - 1 + (m : Int) * (-1)).toNat]?) = xs.reverse := by
  refine List.ext_getElem? fun i => ?_
  have key : ∀ l : List Nat, (∀ m ∈ l, m < xs.length) → (l.filterMap fun (m : Nat) => xs.toArray[(((xs.length : Nat) : Int) - 1 + (m : Int) * (-1)).toNat]?) = l.map fun m => xs.getD (xs.length - 1 - m) .none := fun l => by
    induction l with
    | nil => intro _; rfl
    | cons m l ih =>
      intro hl
      have hm := hl m List.mem_cons_self
      have h1 : (((xs.length : Nat) : Int) - 1 + (m : Int) * (-1)).toNat = xs.length - 1 - m := by omega
      rw [List.filterMap_cons, h1, List.getElem?_toArray, List.getElem?_eq_getElem (by omega), ih fun m' h' => hl m' (List.mem_cons_of_mem _ h'), List.map_cons]
      show _ :: _ = _
      rw [List.getD_eq_getElem?_getD, List.getElem?_eq_getElem (by omega)]
      rfl
  rw [key _ fun m hm => List.mem_range.mp hm, List.getElem?_map]
  by_cases h : i < xs.length
  · rw [List.getElem?_range h, List.getElem?_reverse h]
    show some (xs.getD (xs.length - 1 - i) .none) = _
    rw [List.getD_eq_getElem?_getD, List.getElem?_eq_getElem (by omega)]
    rfl
  · rw [List.getElem?_eq_none (by rw [List.length_range]; omega), List.getElem?_eq_none (by rw [List.length_reverse]; omega)]
    rfl
theorem tup_back {t sl : Addr} {items : List Value} {vs : Value} {Q : Value → Shared → Prop} (ht : IsTup s.heap t items.toArray) (hs : s.heap.IsSliceOf sl .none .none vs) (ps : IsPart vs (some (-1)))
    (h : Q (.ref s.heap.objs.size) { s with heap := s.heap.push { cls := .type "tuple", data := .seq items.reverse.toArray } }) (hsz : items.length ≤ sizeLine) : wpAny (model prog w) A (getItem (.ref t) (.ref sl)) Q E s := by
  have hsz' : sizeOk (.seq items.reverse.toArray) := by
    show items.reverse.toArray.size ≤ sizeLine
    rw [List.size_toArray, List.length_reverse]
    exact hsz
  obtain ⟨os, hos, hcs, hds⟩ := id hs
  have hTs : s.TypeIs (.ref sl) "slice" := ⟨os, hos, hcs⟩
  unfold getItem
  try with_reducible refine wpAny_holding ?_
  first | refine wpAny_bind (wpAny_pure ?_) | skip
  refine wpAny_bind (wpAny_sequenceKey ht.typeIs (by decide) ?_)
  refine wpAny_bind (wpAny_callSpecial?_slot (name := Str.ofString "__getitem__") ht.typeIs PyProof.Rows.slot_tuple_getitem (wpAny_call_entry PyProof.Rows.slot_tuple_getitem ht.typeIs entry_tuple_getitem ?_ (args_tuple_getitem _ _)))
  show wpAny _ _ (Builtin.Tuple.tupleItemsOf (.ref t) >>= _) _ _ s
  refine wpAny_bind (tupleItemsOf_ ht ?_)
  refine wpAny_bind (wpAny_typeOf hTs ?_)
  rw [if_pos (by decide)]
  have ez : items.toArray.size = items.length := List.size_toArray ..
  rw [ez]
  refine wpAny_bind (sl_back hs ps ?_)
  have no : ¬ ((((items.length : Nat) : Int) - 1 == 0 && (-1 : Int) == 1 && items.length == items.length) = true) := by simp
  show wpAny _ _ (if (((items.length : Nat) : Int) - 1 == 0 && (-1 : Int) == 1 && items.length == items.length) = true then _ else _) _ _ s
  rw [if_neg no, pick_back]
  first
    | exact wpAny_bind (m := Builtin.Tuple.tupleExact _) (wpAny_newObj_type (wpAny_pure ⟨_, rfl, wpAny_pure h⟩) hsz')
    | exact wpAny_bind (m := Builtin.Tuple.tupleExact _) (wpAny_newObj_type (wpAny_bind (wpAny_pure (wpAny_pure ⟨_, rfl, wpAny_pure h⟩))) hsz')
    | exact wpAny_bind (wpAny_bind (m := Builtin.Tuple.tupleExact _) (wpAny_newObj_type (wpAny_pure (wpAny_pure ⟨_, rfl, wpAny_pure h⟩)) hsz'))
    | exact wpAny_bind (wpAny_bind (m := Builtin.Tuple.tupleExact _) (wpAny_newObj_type (wpAny_pure ⟨_, rfl, wpAny_pure h⟩) hsz'))
end
section
variable {X : Cx} {Z : Sg} {e : Expr} {te : TE} {g : DE} {k : Nat} {p1 p2 p3 pos : Pos}
theorem pe_revT (he : PE X e te) : PE X (.Subscript e (.Slice none none (some (.UnaryOp .USub (.Constant (.int 1) k p1) p2)) p3) pos) (fun σ H Q => te σ H fun x H1 => ∃ a xs, x = .ref a ∧ SqT X.K H1 a xs ∧ ∀ p, H1 p = none → Q (.ref p) (upd H1 p (.tup xs.reverse))) := by
  refine ⟨fun pins s σ H Q I h => ?_⟩
  refine Subscript_ (thn (he.run pins s σ H _ I h) fun v s1 ⟨x, H1, I1, r1, a, xs, ex, hx, q⟩ => ?_)
  subst ex
  cases r1
  have hst : PO X (some (.UnaryOp .USub (.Constant (.int 1) k p1) p2)) (tPart (tUn (rU fun i => .int (-i)) (tC (.int 1)))) := po_some (pe_un un_neg pe_int)
  refine wpAny_Slice (thn (po_none.run pins s1 σ H1 (fun o H2 => o = none ∧ H2 = H1) I1 ⟨rfl, rfl⟩) fun vl s2 ⟨l, H2, I2, pl, el, e2⟩ => ?_)
  subst el e2
  refine thn (po_none.run pins s2 σ H2 (fun o H3 => o = none ∧ H3 = H2) I2 ⟨rfl, rfl⟩) fun vu s3 ⟨u, H3, I3, pu, eu, e3⟩ => ?_
  subst eu e3
  refine thn (hst.run pins s3 σ H3 (fun o H4 => o = some (-1) ∧ H4 = H3) I3 ⟨1, rfl, -1, rfl, rfl, rfl⟩) fun vs s4 ⟨o, H4, I4, ps, eo, e4⟩ => ?_
  subst eo e4
  cases pl
  cases pu
  have I5 : Inv X pins σ H4 { s4 with heap := s4.heap.push { cls := .type "slice", data := .fields #[.none, .none, vs] } } := I4.kept (t' := s4.toks) fun b ob q => Heap.get?_push_of_some _ q
  obtain ⟨its, r, ht, hz⟩ := I5.tuple hx
  have hlen := r.length
  show wpAny (model X.prog X.w) X.A (subscriptTail e (.Slice none none (some (.UnaryOp .USub (.Constant (.int 1) k p1) p2)) p3) (.ref a) (.ref s4.heap.objs.size)) (EP X pins σ Q) X.xe { s4 with heap := s4.heap.push { cls := .type "slice", data := .fields #[.none, .none, vs] } }
  refine tail_any (ops := [.ref a, .ref s4.heap.objs.size]) ht.typeIs (PyProof.Rows.slot_tuple_getitem.lookup) ?_ (by with_unfolding_all rfl)
  refine tup_back ht (Heap.IsSliceOf.new _ .none .none vs) ps ?_ (by omega)
  refine ⟨.ref _, _, I5.laid (t' := s4.toks) (o := .tup xs.reverse) (fun b ob q => Heap.get?_push_of_some _ q) (Nat.le_refl _) ?_, rfl, q _ (I5.hok.fresh (Nat.le_refl _))⟩
  exact ⟨by rw [List.length_reverse]; exact hz, _, r.reverse, IsTup.new _ _⟩
@[simp] def gRevT (g : DE) : DE := fun ρ P => g ρ fun d => ∃ ds, d = .tuple ds ∧ P (.tuple ds.reverse)
theorem de_revT (he : PD X Z e g) : PD X Z (.Subscript e (.Slice none none (some (.UnaryOp .USub (.Constant (.int 1) k p1) p2)) p3) pos) (gRevT g) := pe_wk (pe_revT he) fun σ H Q ⟨C, M, ρ, P, E, hg, k⟩ =>
  ⟨C, M, ρ, _, E, hg, fun d ⟨ds, ed, p⟩ v H1 r1 E1 dv => by
    subst ed
    obtain ⟨a, xs, rfl, hs, ha⟩ := dp_tuple dv
    refine ⟨a, xs, rfl, same_sqT (hid_le _ _) hs, fun q hq => ?_⟩
    have s2 : Same H1 (upd H1 q (.tup xs.reverse)) := same_new hq
    exact k _ p _ _ (r1.trans (.of s2)) (E1.same s2) (.tup (.inl (.inl (hid_some.mpr ⟨(E1.lv _).fresh hq, upd_same⟩))) (dpa_mono (E1.hv _ (.of s2)) (dpa_rev ha)))⟩
end
end Pg

namespace Pg
open PySem PySem.Spec PyProof.Rows L2 StX

/-! ### a list of the def's own: pop(k), insert(k, e), [::-1], tuple(xs), handed back or a value -/
section
variable {X : Cx} {Z : Sg} {e a c : Expr} {ge gk ga : DE} {gc : DB} {gs : DA} {pos p1 p2 p3 px : Pos} {x : Str}
theorem six_nat {n : Nat} {k : Int} (h0 : 0 ≤ k) (h1 : k < n) : seqIndex? k n = some k.toNat := by
  have h2 : ¬ k < 0 := by omega
  simp [seqIndex?, h0, h1, h2]
theorem dpa_erase {K : PySem.W.Frag} {H : Hp} : ∀ {xs : List V} {ds : List PyData} (m : Nat), DpAll K H xs ds → DpAll K H (xs.eraseIdx m) (ds.eraseIdx m)
  | _, _, _, .nil => .nil
  | _, _, 0, .cons _ t => t
  | _, _, m + 1, .cons r0 t => .cons r0 (dpa_erase m t)
@[simp] def sPopAt (i : Nat) (gk : DE) : DS := fun E ρ => ∃ ds, ρ[i]? = some (some (.list ds)) ∧ ds.length ≤ 100000 ∧ gk ρ fun d => ∃ k, d = .int k ∧ (0 ≤ k ∧ k < (ds.length : Int)) ∧ E.nx (ρ.set i (some (.list (ds.eraseIdx k.toNat))))
theorem ds_popAt (i : Nat) (h : PE X e (tBM X.K "list" rPopAt (tVar i) (tGA X.K Z (gaCons gk gaNil)))) (hO : i ∈ Z.own := by first | decide | (dsimp only [Zs]; decide)) (hlx : Z.lx = false := by rfl) (hs : swapsWith e none pos.line X.env = pure false := by rfl) : PDS X Z (.Expr e pos) (sPopAt i gk) :=
  ps_wk (ps_expr h hs) fun D σ H ⟨C, M, ρ, E, I, ⟨ds, hi, hl, hg⟩, T⟩ => by
  obtain ⟨p, xs, ds', h1, h2, h3, h4, h5, h6⟩ := I.own i _ hO hi
  cases h2
  refine ⟨.ref p, h1, Or.inl ⟨rfl, xs, .of h3⟩, C, M, ρ, fun es => ∃ d, es = [d] ∧ ∃ k, d = .int k ∧ (0 ≤ k ∧ k < (ds.length : Int)) ∧ E.nx (ρ.set i (some (.list (ds.eraseIdx k.toNat)))), I, ?_, ?_⟩
  · show gk ρ fun d => _
    simpa using hg
  · rintro es ⟨d, rfl, k, rfl, ⟨k0, k1⟩, hn⟩ vs H1 r1 I1 dvs
    rw [vw_of hlx] at dvs
    obtain rfl : vs = [.int k] := dpa_ints (ns := [k]) dvs
    obtain ⟨q, ys, es', j1, j2, j3, j4, j5, j6⟩ := I1.own i _ hO hi
    cases j2
    rw [h1] at j1
    cases j1
    have hly := dpa_len j6
    have hlt : k.toNat < ys.length := by omega
    refine ⟨p, ys, k, k.toNat, ys[k.toNat], rfl, rfl, j3, by omega, by omega, six_nat k0 (by omega), List.getElem?_eq_getElem hlt, T.nx _ hn _ _ _ ?_ (I1.write hO hi h1 (dpa_erase _ j6))⟩
    rw [hid_upd j5]
    exact I.hs r1
@[simp] def sIns (i : Nat) (gk ge : DE) : DS := fun E ρ => ∃ ds, ρ[i]? = some (some (.list ds)) ∧ ds.length < 100000 ∧ gk ρ fun d => ge ρ fun v => ∃ k, d = .int k ∧ (0 ≤ k ∧ k < 2 ^ 62) ∧ E.nx (ρ.set i (some (.list (ds.take k.toNat ++ [v] ++ ds.drop k.toNat))))
theorem ds_ins (i : Nat) (h : PE X e (tBM X.K "list" (fun x vs H Q => ∃ (l : Addr) (xs : List V) (i : Int) (y : V), x = .ref l ∧ vs = [.int i, y] ∧ H l = some (.lst xs) ∧ xs.length < sizeLine ∧ 0 ≤ i ∧ i < 2 ^ 63 ∧ Q .non (upd H l (.lst (xs.take i.toNat ++ [y] ++ xs.drop i.toNat)))) (tVar i) (tGA X.K Z (gaCons gk (gaCons ge gaNil)))))
    (hO : i ∈ Z.own := by first | decide | (dsimp only [Zs]; decide)) (hlx : Z.lx = false := by rfl) (hs : swapsWith e none pos.line X.env = pure false := by rfl) : PDS X Z (.Expr e pos) (sIns i gk ge) :=
  ps_wk (ps_expr h hs) fun D σ H ⟨C, M, ρ, E, I, ⟨ds, hi, hl, hg⟩, T⟩ => by
  obtain ⟨p, xs, ds', h1, h2, h3, h4, h5, h6⟩ := I.own i _ hO hi
  cases h2
  refine ⟨.ref p, h1, Or.inl ⟨rfl, xs, .of h3⟩, C, M, ρ, fun es => match es with | [d, v] => ∃ k, d = .int k ∧ (0 ≤ k ∧ k < 2 ^ 62) ∧ E.nx (ρ.set i (some (.list (ds.take k.toNat ++ [v] ++ ds.drop k.toNat)))) | _ => False, I, ?_, ?_⟩
  · exact hg
  · intro es hes vs H1 r1 I1 dvs
    obtain ⟨d, v, rfl⟩ : ∃ d v, es = [d, v] := by
      match es, hes with
      | [d, v], _ => exact ⟨d, v, rfl⟩
    obtain ⟨k, rfl, ⟨k0, k1⟩, hn⟩ := hes
    rw [vw_of hlx] at dvs
    cases dvs with
    | cons dk dr =>
      cases dr with
      | cons dv dn =>
        cases dn
        obtain rfl := dp_int dk
        obtain ⟨q, ys, es', j1, j2, j3, j4, j5, j6⟩ := I1.own i _ hO hi
        cases j2
        rw [h1] at j1
        cases j1
        refine ⟨p, ys, k, _, rfl, rfl, j3, by rw [dpa_len j6]; exact szlt hl, k0, by omega, T.nx _ hn _ _ _ ?_ (I1.write hO hi h1 (dpa_app (dpa_app (dpa_take _ j6) (.cons dv .nil)) (dpa_drop _ j6)))⟩
        rw [hid_upd j5]
        exact I.hs r1
@[simp] def gRevO (i : Nat) : DA := fun ρ P => ∃ ds, ρ[i]? = some (some (.list ds)) ∧ P ds.reverse
theorem df_revO (i : Nat) {k : Nat} (hO : i ∈ Z.own := by first | decide | (dsimp only [Zs]; decide)) (hN : X.N[i]? = some x := by rfl) (hv : Vis X.env.scope x := by first | exact Or.inl rfl | exact Or.inr (Or.inl rfl) | exact Or.inr (Or.inr rfl)) (hd : (x == ("__debug__" : Str)) = false := by decide)
    (hcd : (x == ("__classdict__" : Str)) = false := by decide) : PDF X Z (.Subscript (.Name x px) (.Slice none none (some (.UnaryOp .USub (.Constant (.int 1) k p1) p2)) p3) pos) (gRevO i) :=
  pe_wk (pe_revL (pe_var hN hv hd hcd)) fun σ H Q ⟨C, M, ρ, P, E, ⟨ds, e, hP⟩, k⟩ => by
    obtain ⟨p, xs, ds', h1, h2, h3, h4, h5, h6⟩ := E.own i _ hO e
    cases h2
    exact ⟨.ref p, h1, p, xs, rfl, .of h3, fun q hq => tGF_new E k hP .refl E (dpa_rev (dpa_mono (hid_sub (E.sv _)) h6)) hq⟩
@[simp] def gTupO (i : Nat) : DE := fun ρ P => ∃ ds, ρ[i]? = some (some (.list ds)) ∧ P (.tuple ds)
theorem de_tupleO (i : Nat) {px' : Pos} (hm : X.mg "tuple" = none) (hO : i ∈ Z.own := by first | decide | (dsimp only [Zs]; decide)) (hlx : Z.lx = false := by rfl) (hN : X.N[i]? = some x := by rfl) (hv : Vis X.env.scope x := by first | exact Or.inl rfl | exact Or.inr (Or.inl rfl) | exact Or.inr (Or.inr rfl)) (hd : (x == ("__debug__" : Str)) = false := by decide)
    (hcd : (x == ("__classdict__" : Str)) = false := by decide) (hg : Gl X "tuple" := by rfl) (he : starEach [.Name x px] X.env = (false, eval (.Name x px) X.env) :: starEach [] X.env := by rfl) (hpl : (backTo pos (starEach ([] : List Expr) X.env)).any (·.1) = false := by rfl) : PD X Z (.Call (.Name "tuple" px') [.Name x px] [] pos) (gTupO i) :=
  pe_wk (pe_callTy call_tuple_of hg hm (by decide +kernel) (pa_cons (pe_var hN hv hd hcd) pa_nil he) (by decide) (by decide) he hpl) fun σ H Q ⟨C, M, ρ, P, E, ⟨ds, e, hP⟩, k⟩ => by
    obtain ⟨p, xs, ds', h1, h2, h3, h4, h5, h6⟩ := E.own i _ hO e
    cases h2
    refine ⟨.ref p, h1, p, xs, rfl, .inl ⟨.of h3, fun l hl => ?_⟩⟩
    have s2 : Same H (upd H l (.tup xs)) := same_new hl
    have dv : Dp X.K (hid M (upd H l (.tup xs))) (.ref l) (.tuple ds) := .tup (.inl (.inl (hid_some.mpr ⟨E.fresh hl, upd_same⟩))) (dpa_mono (E.hs (.of s2)) h6)
    exact k _ hP _ _ (.of s2) (E.same s2) (by rw [vw_of hlx]; exact dv)
@[simp] def sRetIfO (gc : DB) (ga : DE) (i : Nat) : DS := fun E ρ => gc ρ fun b => if b = true then ga ρ E.rt else ∃ d, ρ[i]? = some (some d) ∧ E.rt d
theorem ds_retIfO (i : Nat) (h : PDB X Z c gc) (ha : PD X Z a ga) (hf : Z.fr = false := by rfl) (hO : i ∈ Z.own := by first | decide | (dsimp only [Zs]; decide)) (hN : X.N[i]? = some x := by rfl) (hv : Vis X.env.scope x := by first | exact Or.inl rfl | exact Or.inr (Or.inl rfl) | exact Or.inr (Or.inr rfl)) (hd : (x == ("__debug__" : Str)) = false := by decide)
    (hcd : (x == ("__classdict__" : Str)) = false := by decide) : PDS X Z (.Return (some (.IfExp c a (.Name x px) p1)) pos) (sRetIfO gc ga i) :=
  ps_wk (ps_ret (pe_ifExp h ha (pe_var hN hv hd hcd))) fun D σ H ⟨C, M, ρ, E, I, hg, T⟩ => ⟨C, M, ρ, _, I, hg, fun b hb H1 r1 I1 => by
    have T1 : ∀ d, E.rt d → ∀ v H', RA (Z.ta C.t) H1 H' → ED X.K Z C M σ ρ H' → Dp X.K (hid (vw Z.lx C M) H') v d → D.rt v H' := fun d hd v H' r I' dv =>
      T.rt d hd v H' I'.rel (fun i h => (I'.tap i h).2.1) (dp_mono (hid_sub (I'.v0 _)) dv) (fun z => by rw [hf] at z; cases z)
    cases b with
    | true => exact ⟨C, M, ρ, _, I1, hb, T1⟩
    | false =>
      obtain ⟨d, e, hr⟩ := hb
      obtain ⟨p, h1, h2⟩ := own_out I1 hO e
      exact ⟨_, h1, T.rt d hr _ H1 I1.rel (fun i h => (I1.tap i h).2.1) h2 fun z => by rw [hf] at z; cases z⟩⟩
end
/-! ### x is True -/
section
variable {X : Cx} {Z : Sg} {a b : Expr} {ga gb : DE} {pos : Pos}
theorem op_isB : OpR X (compareOp .Is) (fun x y H Q => ∃ i j, x = .bl i ∧ y = .bl j ∧ Q (.bl (decide (i = j))) H) := by
  intro pins s σ H x y v u Q I rx ry h
  obtain ⟨i, j, rfl, rfl, q⟩ := h
  cases rx
  cases ry
  show wpAny _ _ ((isSame (Value.bool i) (Value.bool j)) >>= fun z => pure (Value.bool z)) _ _ s
  have e : isSame (Value.bool i) (Value.bool j) = pure (decide (i = j)) := by
    cases i <;> cases j <;> rfl
  rw [e]
  exact wpAny_bind (wpAny_pure (wpAny_pure ⟨.bl _, H, I, rfl, q⟩))
@[simp] def oIsB : PyData → PyData → (PyData → Prop) → Prop := fun x y P => ∃ i j, x = .bool i ∧ y = .bool j ∧ P (.bool (decide (i = j)))
theorem o2_IsB {K : PySem.W.Frag} : Op2 K (fun x y H Q => ∃ i j, x = .bl i ∧ y = .bl j ∧ Q (.bl (decide (i = j))) H) oIsB := fun M H v w x y P Q _ d1 d2 ⟨i, j, e1, e2, p⟩ k => by
  subst e1 e2
  cases d1
  cases d2
  exact ⟨_, _, rfl, rfl, k _ p _ H (Same.refl _) (.bl _)⟩
theorem de_isB (ha : PD X Z a ga) (hb : PD X Z b gb) : PD X Z (.Compare a [.Is] [b] pos) (g2 oIsB ga gb) := de_cmp op_isB o2_IsB ha hb (nomark _)
theorem db_isB (ha : PD X Z a ga) (hb : PD X Z b gb) : PDB X Z (.Compare a [.Is] [b] pos) (gT (g2 oIsB ga gb)) := db_cmp op_isB o2_IsB ha hb (nomark _)
end
end Pg

namespace Pg
open PySem PySem.Spec PyProof.Rows L2 StX

/-! ### xs.append(ys), both lists of the def's own: ys is given away -/
/-- one address less is hidden -/
def Ms.less (M : Ms) (p : Addr) : Ms := fun b => M b && !(b == p)
theorem less_sub {M : Ms} {p b : Addr} (h : M.less p b = true) : M b = true := by
  unfold Ms.less at h
  rw [Bool.and_eq_true] at h
  exact h.1
theorem less_self {M : Ms} {p : Addr} : M.less p p = false := by unfold Ms.less; simp
theorem less_ne {M : Ms} {p b : Addr} (h : b ≠ p) : M.less p b = M b := by
  unfold Ms.less
  rw [beq_eq_false_iff_ne.mpr h]
  simp
section
variable {K : PySem.W.Frag} {Z : Sg} {C : Ct} {M : Ms} {σ : L2.St} {ρ : En} {H : Hp}
theorem ED.give (E : ED K Z C M σ ρ H) {j : Nat} {p : Addr} {es : List PyData} (hO : j ∈ Z.own) (hj : ρ[j]? = some (some (.list es))) (hp : σ[j]? = some (some (.ref p))) :
    ED K Z C (M.less p) σ (ρ.set j none) H ∧ Same (hid M H) (hid (M.less p) H) ∧ Dp K (hid (M.less p) H) (.ref p) (.list es) := by
  obtain ⟨q, xs, es', h1, h2, h3, h4, h5, h6⟩ := E.own j _ hO hj
  cases h2
  rw [hp] at h1
  cases h1
  have hs : Same (hid M H) (hid (M.less p) H) := hid_sub fun b hb => less_sub hb
  have back : ∀ {i : Nat} {d : PyData}, (ρ.set j none)[i]? = some (some d) → ρ[i]? = some (some d) ∧ i ≠ j := fun {i d} e => by
    by_cases hij : j = i
    · subst hij
      by_cases hl : j < ρ.length
      · rw [List.getElem?_set_self hl] at e; cases e
      · rw [List.getElem?_eq_none (by rw [List.length_set]; omega)] at e; cases e
    · rw [List.getElem?_set_ne hij] at e
      exact ⟨e, fun z => hij z.symm⟩
  refine ⟨⟨E.rel, E.tap, E.tal, fun b m => ?_, E.liv0, fun b m => E.liv b (less_sub m), by rw [List.length_set]; exact E.len, fun i d n e => ?_, fun i d n e => ?_, E.ol, fun i k q d e g1 g2 g3 g4 g5 g6 => E.inj i k q d e g1 g2 g3 (back g4).1 (back g5).1 g6, fun q vd h1 h2 => dp_mono hs (E.sd q vd h1 h2)⟩, hs, .lst (.inl (.inl (hid_some.mpr ⟨less_self, h3⟩))) (dpa_mono hs h6)⟩
  · have hb : b ≠ p := fun z => by
      subst z
      exact E.liv0 _ m h4
    rw [less_ne hb]
    exact E.sub b m
  · obtain ⟨v, g1, g2⟩ := E.imm i d n (back e).1
    exact ⟨v, g1, dp_mono hs g2⟩
  · obtain ⟨e0, hij⟩ := back e
    obtain ⟨q, ys, ds, g1, g2, g3, g4, g5, g6⟩ := E.own i d n e0
    have hq : q ≠ p := fun z => by
      subst z
      exact E.inj i j q d _ n hO hij e0 hj g1 hp
    exact ⟨q, ys, ds, g1, g2, g3, g4, by rw [less_ne hq]; exact g5, dpa_mono hs g6⟩
end
section
variable {X : Cx} {Z : Sg} {e : Expr} {ge gk : DE} {pos : Pos}
@[simp] def sAppO (i j : Nat) : DS := fun E ρ => ∃ ds es, ρ[i]? = some (some (.list ds)) ∧ ρ[j]? = some (some (.list es)) ∧ ds.length < 100000 ∧ E.nx ((ρ.set j none).set i (some (.list (ds ++ [.list es]))))
theorem ds_appO (i j : Nat) (h : PE X e (tBM X.K "list" rAppend (tVar i) (tCons (tVar j) tNil))) (hij : i ≠ j := by decide) (hO : i ∈ Z.own := by first | decide | (dsimp only [Zs]; decide)) (hOj : j ∈ Z.own := by first | decide | (dsimp only [Zs]; decide)) (hlx : Z.lx = false := by rfl) (hs : swapsWith e none pos.line X.env = pure false := by rfl) : PDS X Z (.Expr e pos) (sAppO i j) :=
  ps_wk (ps_expr h hs) fun D σ H ⟨C, M, ρ, E, I, ⟨ds, es, hi, hj, hl, hg⟩, T⟩ => by
  obtain ⟨p, xs, ds', h1, h2, h3, h4, h5, h6⟩ := I.own i _ hO hi
  cases h2
  obtain ⟨q, ys, es', j1, j2, j3, j4, j5, j6⟩ := I.own j _ hOj hj
  cases j2
  obtain ⟨I', hs', dv⟩ := I.give hOj hj j1
  have hi' : (ρ.set j none)[i]? = some (some (.list ds)) := by rw [List.getElem?_set_ne (fun z => hij z.symm)]; exact hi
  obtain ⟨p', xs', ds', k1, k2, k3, k4, k5, k6⟩ := I'.own i _ hO hi'
  cases k2
  rw [h1] at k1
  cases k1
  rw [h3] at k3
  cases k3
  refine ⟨.ref p, h1, Or.inl ⟨rfl, xs, .of h3⟩, .ref q, j1, p, xs, .ref q, rfl, rfl, h3, by rw [dpa_len h6]; exact szlt hl, T.nx _ hg _ _ _ ?_ (I'.write hO hi' h1 (dpa_app k6 (.cons dv .nil)))⟩
  rw [hid_upd k5]
  exact hs'
/-! ### xs.index(e), a list of numbers -/
@[simp] def gIdx (ge gk : DE) : DE := fun ρ P => ge ρ fun d => ∃ ns : List Int, d = .list (ns.map .int) ∧ gk ρ fun k => ∃ (x : Int) (j : Nat), k = .int x ∧ (ns[j]? = some x ∧ ∀ m : Nat, m < j → ns[m]? ≠ some x) ∧ P (.int (j : Nat))
theorem de_idx (h : PE X e (tBM X.K "list" (rIndex X.K) (tG X.K Z ge) (tGA X.K Z (gaCons gk gaNil)))) : PD X Z e (gIdx ge gk) :=
  pe_wk h fun σ H Q ⟨C, M, ρ, P, E, hg, k⟩ => ⟨C, M, ρ, _, E, hg, fun d ⟨ns, ed, hk⟩ v H1 r1 E1 dv => by
    subst ed
    obtain ⟨a, xs, rfl, hs, ha⟩ := dp_list dv
    obtain rfl := dpa_ints ha
    refine ⟨Or.inl ⟨rfl, _, (hid_le _ _).seq hs⟩, C, M, ρ, fun ks => ∃ k, ks = [k] ∧ ∃ (x : Int) (j : Nat), k = .int x ∧ (ns[j]? = some x ∧ ∀ m : Nat, m < j → ns[m]? ≠ some x) ∧ P (.int (j : Nat)), E1, ?_, ?_⟩
    · show gk ρ fun d => _
      simpa using hk
    · rintro ks ⟨kk, rfl, x, j, rfl, ⟨hj, hno⟩, hp⟩ vs H2 r2 E2 dks
      obtain rfl : vs = [.int x] := dpa_ints (ns := [x]) dks
      have dv2 := dp_mono (E1.hv _ r2) dv
      obtain ⟨a', xs', e', hs', ha'⟩ := dp_list dv2
      cases e'
      obtain rfl := dpa_ints ha'
      refine ⟨a, ns.map .int, .int x, j, .int x, rfl, rfl, (hid_le _ _).seq hs', rfl, ?_, by rw [List.getElem?_map, hj]; rfl, by simp [eqV], fun m z' hm hz => ?_, k _ hp _ _ (r1.trans r2) E2 (.int _)⟩
      · rw [List.all_eq_true]
        intro y hy
        obtain ⟨n, _, rfl⟩ := List.mem_map.mp hy
        rfl
      · rw [List.getElem?_map] at hz
        cases hn : ns[m]? with
        | none => rw [hn] at hz; cases hz
        | some n =>
          rw [hn] at hz
          cases hz
          have : n ≠ x := fun z => hno m hm (by rw [hn, z])
          simpa [eqV] using this⟩
end
end Pg

namespace Pg
open PySem PySem.Spec PyProof.Rows L2 StX

/-! ### texts -/
theorem dpa_of_strs {K : PySem.W.Frag} {H : Hp} : ∀ ns : List Str, DpAll K H (ns.map V.str) (ns.map PyData.str)
  | [] => .nil
  | n :: ns => .cons (.str n) (dpa_of_strs ns)
section
variable {X : Cx} {Z : Sg} {e a b o : Expr} {g ga gb go : DE} {pos p p2 : Pos}
/-- {e} in an f-string -/
@[simp] def gFmt (g : DE) : DE := fun ρ P => g ρ fun d => (∃ y : Str, d = .str y ∧ y.length ≤ sizeLine ∧ P (.str y)) ∨ ∃ i : Int, d = .int i ∧ i.natAbs.log2 < 1920 ∧ P (.str (toString i))
theorem de_fmt (h : PD X Z e g) : PD X Z (.FormattedValue e (-1) none pos) (gFmt g) := pe_wk (pe_fmt h) fun σ H Q ⟨C, M, ρ, P, E, hg, k⟩ => ⟨C, M, ρ, _, E, hg, fun d hd v H1 r1 E1 dv => by
  rcases hd with ⟨y, rfl, hz, hp⟩ | ⟨i, rfl, hz, hp⟩
  · exact .inl ⟨y, dp_str dv, hz, k _ hp _ _ r1 E1 (.str _)⟩
  · exact .inr ⟨i, dp_int dv, hz, k _ hp _ _ r1 E1 (.str _)⟩⟩
@[simp] def jsD : List DE → Str → DE
  | [], acc => fun _ P => P (.str acc)
  | g :: gs, acc => fun ρ P => g ρ fun d => ∃ y : Str, d = .str y ∧ (acc ++ y).length ≤ sizeLine ∧ jsD gs (acc ++ y) ρ P
theorem js_of : ∀ (gs : List DE) (acc : Str) {σ : L2.St} {H : Hp} {Q : Str → Hp → Prop}, tG X.K Z (jsD gs acc) σ H (fun x H1 => ∀ y, x = .str y → Q y H1) → tJs (gs.map (tG X.K Z)) acc σ H Q
  | [], acc, σ, H, Q, ⟨C, M, ρ, P, E, hg, k⟩ => k _ hg (.str acc) H .refl E (.str acc) acc rfl
  | g :: gs, acc, σ, H, Q, ⟨C, M, ρ, P, E, hg, k⟩ => ⟨C, M, ρ, _, E, hg, fun d ⟨y, ed, hz, hp⟩ v H1 r1 E1 dv => by
    subst ed
    exact ⟨y, dp_str dv, hz, js_of gs (acc ++ y) ⟨C, M, ρ, P, E1, hp, fun d' hd' v' H2 r2 E2 dv' => k d' hd' v' H2 (r1.trans r2) E2 dv'⟩⟩⟩
inductive PDJ (X : Cx) (Z : Sg) : List Expr → List DE → Prop where
  | nil : PDJ X Z [] []
  | cons {e : Expr} {g : DE} {es : List Expr} {gs : List DE} (h : PD X Z e g) (r : PDJ X Z es gs) : PDJ X Z (e :: es) (g :: gs)
theorem PDJ.pj {es : List Expr} {gs : List DE} (h : PDJ X Z es gs) : PJ X es (gs.map (tG X.K Z)) := by
  induction h with
  | nil => exact .nil
  | cons h _ ih => exact .cons h ih
@[simp] def gJs (gs : List DE) : DE := fun ρ P => jsD gs Str.empty ρ P
theorem de_js {v1 v2 : Expr} {rest : List Expr} {gs : List DE} (h : PDJ X Z (v1 :: v2 :: rest) gs) : PD X Z (.JoinedStr (v1 :: v2 :: rest) pos) (gJs gs) := pe_wk (pe_joined h.pj) fun σ H Q ⟨C, M, ρ, P, E, hg, k⟩ =>
  js_of gs Str.empty ⟨C, M, ρ, fun d => P d, E, hg, fun d hd v H1 r1 E1 dv y ey => by
    subst ey
    exact k d hd _ H1 r1 E1 dv⟩
/-- sep.join(list of texts) -/
@[simp] def gJoin (go g : DE) : DE := fun ρ P => go ρ fun s => ∃ a : Str, s = .str a ∧ g ρ fun d => ∃ ys : List Str, d = .list (ys.map .str) ∧ (ys.map (·.length)).sum + ys.length * a.length ≤ 16777216 ∧ P (.str (Txt.join a ys))
theorem de_join (h : PE X e (tBM X.K "str" (fun x xs H Q => ∃ a p, ∃ ys : List Str, x = .str a ∧ xs = [.ref p] ∧ (SqL X.K H p (ys.map V.str) ∨ SqT X.K H p (ys.map V.str)) ∧
    (ys.map (·.length)).sum + ys.length * a.length ≤ 16777216 ∧ Q (.str (Txt.join a ys)) H) (tG X.K Z go) (tGA X.K Z (gaCons g gaNil)))) : PD X Z e (gJoin go g) :=
  pe_wk h fun σ H Q ⟨C, M, ρ, P, E, hg, k⟩ => ⟨C, M, ρ, _, E, hg, fun s ⟨a, es, hs⟩ v H1 r1 E1 dv => by
    subst es
    obtain rfl := dp_str dv
    refine ⟨rfl, C, M, ρ, fun ds => match ds with | [d] => ∃ ys : List Str, d = .list (ys.map .str) ∧ (ys.map (·.length)).sum + ys.length * a.length ≤ 16777216 ∧ P (.str (Txt.join a ys)) | _ => False, E1, hs, ?_⟩
    intro ds hds vs H2 r2 E2 dvs
    obtain ⟨d, rfl⟩ : ∃ d, ds = [d] := by
      match ds, hds with
      | [d], _ => exact ⟨d, rfl⟩
    obtain ⟨ys, rfl, hz, hp⟩ := hds
    cases dvs with
    | cons d1 dn =>
      cases dn
      obtain ⟨q, xs, rfl, h1, h2⟩ := dp_list d1
      obtain rfl := dpa_strs h2
      exact ⟨a, q, ys, rfl, rfl, .inl ((hid_le _ _).seq h1), hz, k _ hp _ _ (r1.trans r2) E2 (.str _)⟩⟩
variable {lo hi : Option Expr} {gl gh : DO}
/-- s[lo:hi], s[i] -/
@[simp] def gSlS (ge : DE) (gl gh : DO) : DE := fun ρ P => ge ρ fun d => gl ρ fun l => gh ρ fun h => ∃ z : Str, d = .str z ∧ z.length ≤ sizeLine ∧ P (.str (cutS z l h))
theorem de_slS (he : PD X Z e g) (hl : PDO X Z lo gl) (hh : PDO X Z hi gh) : PD X Z (.Subscript e (.Slice lo hi none p2) pos) (gSlS g gl gh) := pe_wk (pe_slice sl_str he hl hh) fun σ H Q ⟨C, M, ρ, P, E, hg, k⟩ =>
  ⟨C, M, ρ, _, E, hg, fun d hd v H1 r1 E1 dv => ⟨C, M, ρ, _, E1, hd, fun l hl H2 r2 E2 => ⟨C, M, ρ, _, E2, hl, fun h ⟨z, ed, hz, hp⟩ H3 r3 E3 => by
    subst ed
    obtain rfl := dp_str dv
    exact ⟨z, rfl, hz, k _ hp _ _ (r1.trans (r2.trans r3)) E3 (.str _)⟩⟩⟩⟩
/-- c in s, c not in s: one sign -/
@[simp] def oInS : PyData → PyData → (PyData → Prop) → Prop := fun x y P => ∃ (c : Nat) (z : Str), x = .str ⟨#[c]⟩ ∧ y = .str z ∧ P (.bool (decide (c ∈ z.cps.toList)))
@[simp] def oNotInS : PyData → PyData → (PyData → Prop) → Prop := fun x y P => ∃ (c : Nat) (z : Str), x = .str ⟨#[c]⟩ ∧ y = .str z ∧ P (.bool (!decide (c ∈ z.cps.toList)))
theorem o2_InS {K : PySem.W.Frag} : Op2 K rInS oInS := fun M H v w x y P Q _ d1 d2 ⟨c, z, e1, e2, hp⟩ k => by
  subst e1 e2
  exact ⟨c, z, dp_str d1, dp_str d2, k _ hp _ H (Same.refl _) (.bl _)⟩
theorem o2_NotInS {K : PySem.W.Frag} : Op2 K rNotInS oNotInS := fun M H v w x y P Q _ d1 d2 ⟨c, z, e1, e2, hp⟩ k => by
  subst e1 e2
  exact ⟨c, z, dp_str d1, dp_str d2, k _ hp _ H (Same.refl _) (.bl _)⟩
theorem de_inS (ha : PD X Z a ga) (hb : PD X Z b gb) (hm : behindInMarks .In b = false := by rfl) : PD X Z (.Compare a [.In] [b] pos) (g2 oInS ga gb) := de_cmp op_inS o2_InS ha hb hm
theorem db_inS (ha : PD X Z a ga) (hb : PD X Z b gb) (hm : behindInMarks .In b = false := by rfl) : PDB X Z (.Compare a [.In] [b] pos) (gT (g2 oInS ga gb)) := db_cmp op_inS o2_InS ha hb hm
theorem de_notinS (ha : PD X Z a ga) (hb : PD X Z b gb) (hm : behindInMarks .NotIn b = false := by rfl) : PD X Z (.Compare a [.NotIn] [b] pos) (g2 oNotInS ga gb) := de_cmp op_notInS o2_NotInS ha hb hm
theorem db_notinS (ha : PD X Z a ga) (hb : PD X Z b gb) (hm : behindInMarks .NotIn b = false := by rfl) : PDB X Z (.Compare a [.NotIn] [b] pos) (gT (g2 oNotInS ga gb)) := db_cmp op_notInS o2_NotInS ha hb hm
/-- x not in (texts) -/
@[simp] def oNotInTs : PyData → PyData → (PyData → Prop) → Prop := fun x y P => ∃ (z : Str) (ys : List Str), x = .str z ∧ y = .tuple (ys.map .str) ∧ P (.bool (!decide (z ∈ ys)))
theorem inV_strs (z : Str) : ∀ ys : List Str, inV (.str z) (ys.map V.str) = decide (z ∈ ys) := fun ys => by
  unfold inV
  rw [List.any_map]
  by_cases h : z ∈ ys
  · rw [decide_eq_true h, List.any_eq_true]
    exact ⟨z, h, by simp [eqV]⟩
  · rw [decide_eq_false h, List.any_eq_false]
    intro y hy
    have : y ≠ z := fun e => h (by rw [← e]; exact hy)
    have h2 : z ≠ y := fun e => this e.symm
    simp [eqV, this, h2]
theorem o2_NotInTs {K : PySem.W.Frag} : Op2 K (rIn K true) oNotInTs := fun M H v w x y P Q _ d1 d2 ⟨z, ys, e1, e2, hp⟩ k => by
  subst e1 e2
  obtain rfl := dp_str d1
  obtain ⟨q, xs, rfl, h1, h2⟩ := dp_tuple d2
  obtain rfl := dpa_strs h2
  refine ⟨q, ys.map .str, rfl, .inr (same_sqT (hid_le M H) h1), rfl, ?_, ?_⟩
  · rw [List.all_eq_true]
    intro y hy
    obtain ⟨n, _, rfl⟩ := List.mem_map.mp hy
    rfl
  · rw [inV_strs]
    exact k _ hp _ H (Same.refl _) (.bl _)
theorem de_notinTs (ha : PD X Z a ga) (hb : PD X Z b gb) (hm : behindInMarks .NotIn b = false := by rfl) : PD X Z (.Compare a [.NotIn] [b] pos) (g2 oNotInTs ga gb) := de_cmp op_notIn_seq o2_NotInTs ha hb hm
theorem db_notinTs (ha : PD X Z a ga) (hb : PD X Z b gb) (hm : behindInMarks .NotIn b = false := by rfl) : PDB X Z (.Compare a [.NotIn] [b] pos) (gT (g2 oNotInTs ga gb)) := db_cmp op_notIn_seq o2_NotInTs ha hb hm
/-- int(text) -/
@[simp] def oIntS : List PyData → (PyData → Prop) → Prop := fun ds P => ∃ (a : Str) (n : Int), ds = [.str a] ∧ PySem.intText? a = some n ∧ a.length ≤ 640 ∧ P (.int n)
theorem on_IntS {K : PySem.W.Frag} : OpN K (fun xs H Q => ∃ a n, xs = [V.str a] ∧ PySem.intText? a = some n ∧ a.length ≤ 640 ∧ Q (.int n) H) oIntS := fun M H vs ds P Q _ dvs ⟨a, n, e, h1, h2, hp⟩ k => by
  subst e
  obtain rfl : vs = [.str a] := dpa_strs (ns := [a]) dvs
  exact ⟨a, n, rfl, h1, h2, k _ hp _ H (Same.refl _) (.int _)⟩
theorem de_intS (hm : X.mg "int" = none) (h : PD X Z e ga) (hg : Gl X "int" := by rfl) (he : starEach [e] X.env = (false, eval e X.env) :: starEach [] X.env := by rfl) (hpl : (backTo pos (starEach ([] : List Expr) X.env)).any (·.1) = false := by rfl) : PD X Z (.Call (.Name "int" p) [e] [] pos) (gB oIntS (gaCons ga gaNil)) :=
  de_callTy call_int_str on_IntS hg hm (by decide +kernel) (ga_cons h ga_nil he) (by decide) (by decide) he hpl
/-- s.partition(sep), s.split(sep) -/
@[simp] def gPart (go g : DE) : DE := fun ρ P => go ρ fun s => ∃ a : Str, s = .str a ∧ g ρ fun d => ∃ b : Str, d = .str b ∧ ((b.length == 0) = false ∧ a.length ≤ sizeLine) ∧ P (.tuple [.str (Txt.partition a b).1, .str (Txt.partition a b).2.1, .str (Txt.partition a b).2.2])
theorem de_part (h : PE X e (tBM X.K "str" (fun x xs H Q => ∃ a b, x = .str a ∧ xs = [.str b] ∧ (b.length == 0) = false ∧ a.length ≤ sizeLine ∧
    ∀ p, H p = none → Q (.ref p) (upd H p (.tup [.str (Txt.partition a b).1, .str (Txt.partition a b).2.1, .str (Txt.partition a b).2.2]))) (tG X.K Z go) (tGA X.K Z (gaCons g gaNil)))) : PD X Z e (gPart go g) :=
  pe_wk h fun σ H Q ⟨C, M, ρ, P, E, hg, k⟩ => ⟨C, M, ρ, _, E, hg, fun s ⟨a, es, hs⟩ v H1 r1 E1 dv => by
    subst es
    obtain rfl := dp_str dv
    refine ⟨rfl, C, M, ρ, fun ds => match ds with | [d] => ∃ b : Str, d = .str b ∧ ((b.length == 0) = false ∧ a.length ≤ sizeLine) ∧ P (.tuple [.str (Txt.partition a b).1, .str (Txt.partition a b).2.1, .str (Txt.partition a b).2.2]) | _ => False, E1, hs, ?_⟩
    intro ds hds vs H2 r2 E2 dvs
    obtain ⟨d, rfl⟩ : ∃ d, ds = [d] := by
      match ds, hds with
      | [d], _ => exact ⟨d, rfl⟩
    obtain ⟨b, rfl, ⟨h1, h2⟩, hp⟩ := hds
    obtain rfl : vs = [.str b] := dpa_strs (ns := [b]) dvs
    refine ⟨a, b, rfl, rfl, h1, h2, fun q hq => ?_⟩
    have s2 : Same H2 (upd H2 q (.tup [.str (Txt.partition a b).1, .str (Txt.partition a b).2.1, .str (Txt.partition a b).2.2])) := same_new hq
    exact k _ hp _ _ (r1.trans (r2.trans (.of s2))) (E2.same s2) (.tup (.inl (.inl (hid_some.mpr ⟨(E2.lv _).fresh hq, upd_same⟩))) (.cons (.str _) (.cons (.str _) (.cons (.str _) .nil))))⟩
@[simp] def gSplit (go g : DE) : DA := fun ρ P => go ρ fun s => ∃ a : Str, s = .str a ∧ g ρ fun d => ∃ b : Str, d = .str b ∧ ((b.length == 0) = false ∧ a.length + 2 ≤ sizeLine) ∧ P ((Txt.split a b).map .str)
theorem df_split (h : PE X e (tBM X.K "str" (fun x xs H Q => ∃ a b, x = .str a ∧ xs = [.str b] ∧ (b.length == 0) = false ∧ a.length + 2 ≤ sizeLine ∧ rNewStrs (Txt.split a b) H Q) (tG X.K Z go) (tGA X.K Z (gaCons g gaNil)))) : PDF X Z e (gSplit go g) :=
  pe_wk h fun σ H Q ⟨C, M, ρ, P, E, hg, k⟩ => ⟨C, M, ρ, _, E, hg, fun s ⟨a, es, hs⟩ v H1 r1 E1 dv => by
    subst es
    obtain rfl := dp_str dv
    refine ⟨rfl, C, M, ρ, fun ds => match ds with | [d] => ∃ b : Str, d = .str b ∧ ((b.length == 0) = false ∧ a.length + 2 ≤ sizeLine) ∧ P ((Txt.split a b).map .str) | _ => False, E1, hs, ?_⟩
    intro ds hds vs H2 r2 E2 dvs
    obtain ⟨d, rfl⟩ : ∃ d, ds = [d] := by
      match ds, hds with
      | [d], _ => exact ⟨d, rfl⟩
    obtain ⟨b, rfl, ⟨h1, h2⟩, hp⟩ := hds
    obtain rfl : vs = [.str b] := dpa_strs (ns := [b]) dvs
    exact ⟨a, b, rfl, rfl, h1, h2, fun q hq => tGF_new E k hp (r1.trans r2) E2 (dpa_of_strs _) hq⟩⟩
end
end Pg

namespace Pg
open PySem PySem.Spec PyProof.Rows L2 StX

/-! ### d.get(text) -/
def dlook : List (PyData × PyData) → Str → PyData
  | [], _ => .none
  | (.str k, d) :: r, s => if k = s then d else dlook r s
  | _ :: r, s => dlook r s
theorem dpk_look {K : PySem.W.Frag} {H : Hp} (s : Str) : ∀ {l : List (PyData × PyData)} {kvs : List (Key × V)}, DpKv K H kvs l → Dp K H ((valV kvs (Sum.inr s)).getD .non) (dlook l s)
  | [], _, h => by
    cases h
    exact .non
  | p :: r, _, h => by
    cases h with
    | cons h1 h2 =>
      rename_i k v vs d
      unfold dlook
      by_cases e : k = s
      · subst e
        rw [if_pos rfl, valV_pos rfl]
        exact h1
      · rw [if_neg e, valV_neg (by intro z; injection z with z; exact e z)]
        exact dpk_look s h2
section
variable {X : Cx} {Z : Sg} {o e : Expr} {go g : DE} {apos cpos : Pos}
@[simp] def gDGet (go g : DE) : DE := fun ρ P => go ρ fun d => ∃ l, d = .dict l ∧ g ρ fun k => ∃ s : Str, k = .str s ∧ P (dlook l s)
theorem de_dget {k : Nat} (hr : Room k X.A) (ho : PD X Z o go) (he : PD X Z e g) (m : M1 X o "get" apos e cpos := by exact ⟨rfl, rfl, rfl, rfl⟩) : PD X Z (.Call (.Attribute o "get" apos) [e] [] cpos) (gDGet go g) :=
  pe_wk (pe_dget1 (by have := hr.units; omega) ho he m) fun σ H Q ⟨C, M, ρ, P, E, hg, k⟩ => ⟨C, M, ρ, _, E, hg, fun d ⟨l, ed, hd⟩ v H1 r1 E1 dv => by
    subst ed
    cases dv with
    | dct hs ha =>
      rename_i a kvs
      refine ⟨a, rfl, ?_, C, M, ρ, _, E1, hd, fun kk ⟨s, ek, hp⟩ w H2 r2 E2 dw => ?_⟩
      · exact .inl ⟨kvs, .inl (hid_le _ _ _ _ hs)⟩
      · subst ek
        obtain rfl := dp_str dw
        have dv2 : Dp X.K (hid (vw Z.lx C M) H2) (.ref a) (.dict l) := dp_mono (E1.hv _ r2) (.dct hs ha)
        cases dv2 with
        | dct hs2 ha2 =>
          rename_i kvs2
          exact ⟨_, DGet.k (k := Sum.inr s) (hid_le _ _ _ _ hs2), k _ hp _ _ (r1.trans r2) E2 (dpk_look s ha2)⟩⟩
end
/-! ### a comprehension in a comprehension -/
theorem blkOk_in {N : List Str} {sc scope0 scope : Scope} {own : List (Str × Nat)} {cl : List (Str × Addr)} {C : Addr} {env : Env} (he : env.scope = sc) (h : blkC N (relS scope0 sc) scope own = true) : BlkOk N (compEnvC scope0 cl C env).scope scope own := by
  have e : (compEnvC scope0 cl C env).scope = relS scope0 env.scope := rfl
  rw [e, he]
  exact blkOk_by h
/-! ### for over a list of the def's own, which is given away -/
section
variable {X : Cx} {Z : Sg} {tg : Expr} {body : List Stmt} {b : Bd} {g : DS} {tgt : TG} {sl : List Nat} {pos px : Pos} {x : Str}
@[simp] def sForO (j : Nat) (b : Bd) (g : DS) : DS := fun E ρ => ∃ ds, ρ[j]? = some (some (.list ds)) ∧ forD b g ds E (ρ.set j none)
theorem ds_forO (j : Nat) (hp : PassesOwn (model X.prog X.w) X.A X.env X.xe) (hc : X.calm = true) (hg : PG X tg tgt) (hb : BdOk X.K Z tgt b sl) (hbody : PDSs X Z body g) (hO : j ∈ Z.own := by first | decide | (dsimp only [Zs]; decide)) (hN : X.N[j]? = some x := by rfl) (hv : Vis X.env.scope x := by first | exact Or.inl rfl | exact Or.inr (Or.inl rfl) | exact Or.inr (Or.inr rfl)) (hd : (x == ("__debug__" : Str)) = false := by decide)
    (hcd : (x == ("__classdict__" : Str)) = false := by decide) (hs : ∀ y, foldedSetIterable (.Name x px) X.env y = pure y := by intro _; rfl) : PDS X Z (.For tg (.Name x px) body [] pos) (sForO j b g) :=
  ps_wk (ps_for hp hc (pi_list (pe_var hN hv hd hcd)) hg hbody hs) fun D σ H ⟨C, M, ρ, E, I, ⟨ds, hj, hds⟩, T⟩ => by
  obtain ⟨p, xs, ds', h1, h2, h3, h4, h5, h6⟩ := I.own j _ hO hj
  cases h2
  obtain ⟨I1, hs1, dv⟩ := I.give hO hj h1
  obtain ⟨p', xs', e', hsq, hda⟩ := dp_list dv
  cases e'
  have go := go_list (K := X.K) (a := p) (xs := xs') (ds := ds)
  refine ⟨.ref p, h1, p, rfl, ⟨xs', (hid_le _ _).seq hsq⟩, ?_⟩
  refine ⟨fun i m σ H => m = ds.length - i ∧ i ≤ ds.length ∧ ∃ M ρ, ED X.K Z C M σ ρ H ∧ (SqL X.K (hid M H) p xs' ∧ DpAll X.K (hid M H) xs' ds) ∧ forD b g (ds.drop i) E ρ ∧ Thn X.K Z C M H E D,
    ⟨ds.length, rfl, Nat.zero_le _, _, _, I1, ⟨hsq, hda⟩, hds, T.step hs1⟩, ?_⟩
  rintro i m σ2 H2 ⟨rfl, hi, M2, ρ2, I2, G2, F2, T2⟩
  by_cases hlt : i < ds.length
  · rw [drop_at hlt] at F2
    obtain ⟨g1, g2⟩ := go.go M2 H2 i _ I2.liv G2 (List.getElem?_eq_getElem hlt)
    refine .inr ⟨g1, fun σ' H' => ∃ M ρ, ED X.K Z C M σ' ρ H' ∧ (SqL X.K (hid M H') p xs' ∧ DpAll X.K (hid M H') xs' ds) ∧ forD b g (ds.drop (i + 1)) E ρ ∧ Thn X.K Z C M H' E D, fun σ' H' ⟨M', ρ', h⟩ => ⟨ds.length - (i + 1), by omega, rfl, hlt, M', ρ', h⟩, fun x H3 y => ?_⟩
    obtain ⟨s3, dx⟩ := g2 x H3 y
    have s3' := I2.hs (.of s3)
    refine hb C M2 σ2 ρ2 H3 x _ _ _ (I2.same s3) dx F2 fun ρ' hP σ' I' _ _ => ?_
    have nxt : ∀ ρ'', forD b g (ds.drop (i + 1)) E ρ'' → ∀ M' σ'' H'', Same (hid M2 H3) (hid M' H'') → ED X.K Z C M' σ'' ρ'' H'' → ∃ M ρ, ED X.K Z C M σ'' ρ H'' ∧ (SqL X.K (hid M H'') p xs' ∧ DpAll X.K (hid M H'') xs' ds) ∧ forD b g (ds.drop (i + 1)) E ρ ∧ Thn X.K Z C M H'' E D := fun ρ'' hF M' σ'' H'' s I'' =>
      ⟨M', ρ'', I'', go.keep _ _ _ _ G2 (s3'.trans s), hF, T2.step (s3'.trans s)⟩
    exact ⟨C, M2, ρ', _, I', hP, ⟨nxt, T2.rt, fun ρ'' hF M' σ'' H'' s I'' => T2.nx ρ'' hF M' σ'' H'' (s3'.trans s) I'', nxt⟩⟩
  · have e : i = ds.length := by omega
    subst e
    rw [List.drop_length] at F2
    exact .inl ⟨go.stop _ _ _ I2.liv G2 (Nat.le_refl _), T2.nx _ F2 _ _ _ (Same.refl _) I2⟩
end
end Pg

namespace Pg
open PySem PySem.Spec PyProof.Rows L2 StX

def clsBody : Stmt → List Stmt
  | .ClassDef (body := b) .. => b
  | _ => []

/-! ### slots that are written out, as data -/
inductive DEn (K : PySem.W.Frag) (H : Hp) : L2.St → En → Prop
  | nil : DEn K H [] []
  | non {o : Option V} {σ : L2.St} {ρ : En} (t : DEn K H σ ρ) : DEn K H (o :: σ) (none :: ρ)
  | dat {v : V} {d : PyData} {σ : L2.St} {ρ : En} (h : Dp K H v d) (t : DEn K H σ ρ) : DEn K H (some v :: σ) (some d :: ρ)
section
variable {K : PySem.W.Frag} {M : Ms} {H H' : Hp} {σ : L2.St} {ρ : En}
theorem DEn.mono (s : Same H H') (h : DEn K H σ ρ) : DEn K H' σ ρ := by
  induction h with
  | nil => exact .nil
  | non t ih => exact .non ih
  | dat h t ih => exact .dat (dp_mono s h) ih
theorem DEn.len (h : DEn K H σ ρ) : σ.length = ρ.length := by
  induction h with
  | nil => rfl
  | non t ih => rw [List.length_cons, List.length_cons, ih]
  | dat h t ih => rw [List.length_cons, List.length_cons, ih]
theorem DEn.at (h : DEn K H σ ρ) : ∀ (i : Nat) (d : PyData), ρ[i]? = some (some d) → ∃ v, σ[i]? = some (some v) ∧ Dp K H v d := by
  induction h with
  | nil => intro i d e; simp at e
  | non t ih =>
    intro i d e
    cases i with
    | zero => simp at e
    | succ i => exact ih i d (by simpa using e)
  | dat h t ih =>
    intro i d e
    cases i with
    | zero =>
      simp only [List.getElem?_cons_zero, Option.some.injEq] at e
      subst e
      exact ⟨_, rfl, h⟩
    | succ i => exact ih i d (by simpa using e)
abbrev Zp : Sg := ⟨[], none, false, false, none⟩
theorem DEn.ed (lv : Live M H) (h : DEn K (hid M H) σ ρ) : ED K Zp ⟨M, H, 0, 0⟩ M σ ρ H :=
  ⟨.refl, fun i z => (nomatch z), fun i z => (nomatch z), fun _ m => m, lv, lv, h.len, fun i d _ e => h.at i d e, fun i d z _ => (nomatch z), fun i p z _ => (nomatch z), fun i j p d e z _ _ _ _ _ => (nomatch z), fun q vd z => (nomatch z)⟩
theorem rdE (lv : Live M H) (h : DEn K (hid M H) σ ρ) {g : DE} {P : PyData → Prop} {Q : VK} (hg : g ρ P) (k : ∀ d, P d → ∀ v H', Same H H' → Dp K (hid M H') v d → Q v H') : tG K Zp g σ H Q :=
  ⟨_, _, ρ, P, h.ed lv, hg, fun d hd v H' r _ dv => k d hd v H' r.same dv⟩
theorem rdB (lv : Live M H) (h : DEn K (hid M H) σ ρ) {g : DB} {P : Bool → Prop} {Q : Bool → Hp → Prop} (hg : g ρ P) (k : ∀ b, P b → ∀ H', Same H H' → Q b H') : tGB K Zp g σ H Q :=
  ⟨_, _, ρ, P, h.ed lv, hg, fun b hb H' r _ => k b hb H' r.same⟩
theorem rdA (lv : Live M H) (h : DEn K (hid M H) σ ρ) {g : DA} {P : List PyData → Prop} {Q : List V → Hp → Prop} (hg : g ρ P) (k : ∀ ds, P ds → ∀ vs H', Same H H' → DpAll K (hid M H') vs ds → Q vs H') : tGA K Zp g σ H Q :=
  ⟨_, _, ρ, P, h.ed lv, hg, fun ds hd vs H' r _ dv => k ds hd vs H' r.same dv⟩
theorem same_hid (s : Same H H') : Same (hid M H) (hid M H') := fun b o e => by
  obtain ⟨m, e⟩ := hid_some.mp e
  exact hid_some.mpr ⟨m, s b o e⟩
end

/-! ### a def with a star and one parameter behind it, given by its name -/
def FnK (P : Program) (w : World) (K : PySem.W.Frag) (mg : Str → Option Value) (base : Heap) (CX : CXT) (k : Nat) (f : Addr) (nm : Str) (sp : List V → V → Hp → VK → XK → Prop) : Prop :=
  ∀ (A : Around) (outer : List Env) (s : Shared) (H : Hp) (us : List Value) (vs : List V) (w' : Value) (z : V) (Q : VK) (E : XK), Room k A → Env0 P w K mg base A outer s H → Vals vs us → RelV z w' → sp vs z H Q E →
    codeAny (model P w) A (.call (.ref f) ⟨us, [(nm, w')]⟩) (CR CX outer P w H s Q E) s
theorem cxUpN {P : Program} {w : World} : CXUp (L2N.CX P w) := by
  rintro outer s H s2 H2 E e s' un keep hos ⟨a, B, H1, c, d, ea, hfl, ho, hu, hn, ho2, hb, hE⟩
  refine ⟨a, B, H1, c, d, ea, hfl, ho, ⟨?_, fun b o q hb => hu.slot b o (keep b o q) hb, ?_, ?_, fun b xs q => hu.tups b xs (un.tups b xs q), fun b o xs q => hu.frzs b o xs (un.frzs b o xs q), ?_⟩, hn, ho2.trans hos, hb, hE⟩
  · intro b o q n hb
    exact hu.keep b o (keep b o q) (un.free b o q n (by simp)) hb
  · intro b o q n
    exact hu.free b o (keep b o q) (un.free b o q n (by simp))
  · intro b o q hb
    exact hu.there b o (keep b o q) hb
  · intro b ps q
    obtain ⟨m1, e1⟩ := un.tbls b ps q
    obtain ⟨m2, e2⟩ := hu.tbls b _ e1
    exact ⟨m1 ++ m2, by rw [e2, Array.append_assoc]⟩
section
variable {CX : CXT} {P : Program} {w : World} {K : PySem.W.Frag} {mg : Str → Option Value} {base : Heap} {k : Nat} {f : Addr} {name qual : Str} {params : Arguments} {body : List Stmt} {scope : Scope} {dV kV doc pm cdv ct oc : Value} {an od : Option Addr}
  {osl : Array (Option Value)} {N : List Str} {p1 nm pv : Str} {sp : V → V → V → Hp → VK → XK → Prop}
theorem fnK_of (lk : K.lookup f = some ⟨oc, od, .func (PySem.W.fnOf name qual params body scope dV kV doc pm an cdv ct), osl⟩) (hcd : PySem.W.codeIn K cdv qual = true) (S : FnScope N [p1, nm, pv] scope) (hC : CXUp CX)
    (hb : ∀ (u w' : Value) (rest : List Value), bindArgs (PySem.W.fnOf name qual params body scope dV kV doc pm an cdv ct) ⟨u :: rest, [(nm, w')]⟩ = (newTuple rest >>= fun t => pure [(p1, u), (nm, w'), (pv, t)]))
    (hbody : ∀ (A : Around) (outer : List Env) (s : Shared) (H : Hp) (a z it : V) (Q : VK) (E : XK), Room k (A.deeper (envOfC qual scope s.heap.objs.size f cdv)) → sp a z it H Q E →
      ∃ t, PSs (cxOf CX P w K mg base N qual scope f cdv A outer s H E) body t ∧ t { nx := fun _ H' => Q .non H', rt := Q } (start N [a, z, it]) H) :
    FnK P w K mg base CX (k + 1) f nm (fun vs z H Q E => ∃ a rest, vs = a :: rest ∧ rest.length ≤ sizeLine ∧ ∀ p, H p = none → sp a z (.ref p) (upd H p (.tup rest)) Q E) := by
  intro A outer s H us vs w' z Q E hr e0 r rz hsp
  obtain ⟨a, rest, ev, hz, hq⟩ := hsp
  subst ev
  cases r with
  | @cons _ u _ us' ra rr =>
    have hn : H s.heap.objs.size = none := e0.hok.fresh (Nat.le_refl _)
    refine run_bnd lk hcd S hr e0 (G := fun xs H2 => ∃ p, H p = none ∧ xs = [a, z, V.ref p] ∧ H2 = upd H p (.tup rest)) (fun A' Ex Q' h => ?_) fun s2 H2 xs ⟨p, hp, ex, eH⟩ hr' => ?_
    · rw [hb u w' us']
      refine wpAny_bind (wpAny_newTuple (wpAny_pure ?_) (by rw [← rr.length]; exact hz))
      have new : ObjOk P w (upd H s.heap.objs.size (.tup rest)) (s.heap.push ({ cls := .type "tuple", data := .seq us'.toArray } : Obj)) s.heap.objs.size (.tup rest) := ⟨hz, us', rr, ⟨_, Heap.get?_push_size _ rfl, rfl, _, rfl⟩⟩
      exact h _ _ [a, z, V.ref s.heap.objs.size] [u, w', Value.ref s.heap.objs.size] (env0_laid e0 new) (un_laid hn) rfl (fun e s' => hC outer s H _ _ E e s' (un_laid (u := .tup rest) hn) (fun b o q => Heap.get?_push_of_some _ q) rfl) (.cons ra (.cons rz (.cons rfl .nil))) rfl ⟨_, hn, rfl, rfl⟩
    · subst ex eH
      exact hbody A outer s2 _ a z (.ref p) Q E hr' (hq p hp)
end

/-! ### such an instance is made -/
def tMkK (C : Addr) (sp : List V → V → Hp → VK → XK → Prop) (E : XK) (t : TA) (tz : TA) : TE := fun σ H Q => t σ H fun vs H1 => tz σ H1 fun zs H2 => ∃ z, zs = [z] ∧ ∀ x dx, H2 x = none → H2 dx = none → dx ≠ x →
  sp (.ref x :: vs) z (upd (upd H2 dx (.own x)) x (.ins C dx [])) (fun v H3 => v = .non ∧ Q (.ref x) H3) E
section
variable {X : Cx} {CX : CXT} {k : Nat} {f C : Addr} {nm : Str} {sp : List V → V → Hp → VK → XK → Prop} {E : XK} {x : Str} {p pos kp : Pos} {e b : Expr} {es : List Expr} {t tz : TA}
theorem run_mkK {pins : List (Addr × Obj)} {σ : L2.St} {H : Hp} {s : Shared} {Q : VK} {us : List Value} {vs : List V} {w' : Value} {z : V} (M : Mk X.K C f) (F : FnK X.prog X.w X.K X.mg X.base CX k f nm sp) (hr : Room (k + 1) X.A) (hx : Passes CX X E)
    (I : Inv X pins σ H s) (r : Vals vs us) (rz : RelV z w')
    (h : ∀ x dx, H x = none → H dx = none → dx ≠ x → sp (.ref x :: vs) z (upd (upd H dx (.own x)) x (.ins C dx [])) (fun v H2 => v = .non ∧ Q (.ref x) H2) E) :
    wpAny (model X.prog X.w) X.A (call (.ref C) us [(nm, w')]) (EP X pins σ Q) X.xe s := by
  have hd := h (s.heap.objs.size + 1) s.heap.objs.size (I.hok.fresh (Nat.le_succ _)) (I.hok.fresh (Nat.le_refl _)) (Nat.ne_of_lt (Nat.lt_succ_self _))
  have I2 := Inv.made (C := C) I
  have r2 : Vals (V.ref (s.heap.objs.size + 1) :: vs) (Value.ref (s.heap.objs.size + 1) :: us) := .cons rfl r
  refine wpAny_call (make_map (f := f) I.kIn M.makes M.init (beq_iff_eq.mp M.fn) (codeAny_mono (F _ X.stack _ _ (Value.ref (s.heap.objs.size + 1) :: us) _ w' z _ E (hr.make C us [(nm, w')]) (I2.env0.make C us [(nm, w')]) r2 rz hd) fun res s2 hq => ?_))
  cases res with
  | error er => exact hx pins σ _ _ er s2 I2 hq
  | ok fl =>
    cases fl with
    | ret u =>
      obtain ⟨v, H2, I3, rv, ev, q3⟩ := I2.after hq
      subst ev
      exact ⟨rv, ⟨V.ref (s.heap.objs.size + 1), H2, I3, rfl, q3⟩⟩
    | next => exact hq.elim
    | brk => exact hq.elim
    | cont => exact hq.elim
/-- C(nm = b) -/
theorem pe_mkK0 (M : Mk X.K C f) (F : FnK X.prog X.w X.K X.mg X.base CX k f nm sp) (hr : Room (k + 1) X.A) (hm : X.mg x = some (.ref C)) (hx : Passes CX X E) (hk : PK X [⟨some nm, b, kp⟩] tz) (hg : Gl X x := by rfl) (hdb : (x == ("__debug__" : Str)) = false := by decide)
    (hall : (backToKw pos (keywordEach [⟨some nm, b, kp⟩] X.env)).all (·.1.isSome) = true := by rfl) (hks : (backToKw pos (keywordEach [⟨some nm, b, kp⟩] X.env)).filterMap (·.1) = [nm] := by rfl)
    (hpl : ((backTo pos (starEach [] X.env)).any (·.1) || (backToKw pos (keywordEach [⟨some nm, b, kp⟩] X.env)).any (·.1.isNone)) = false := by rfl) :
    PE X (.Call (.Name x p) [] [⟨some nm, b, kp⟩] pos) (tMkK C sp E tNil tz) := by
  refine ⟨fun pins s σ H Q I h => ?_⟩
  refine wpAny_Call_Name_kw (ld_glob I hg hm ?_ hdb)
  refine PySem.W.callWith_KW0 (h₀ := X.base) I.ok.mod.kin M.kp hall (thn (hk.run pos pins s σ H _ I h) fun ws s2 ⟨zs, H2, I2, rz, z, ez, q⟩ => ⟨I2.kIn, ?_⟩) hpl
  subst ez
  rw [hks]
  cases rz with
  | cons rz r0 =>
    cases r0
    exact run_mkK (us := []) (vs := []) M F hr hx I2 .nil rz q
/-- C(e, .., nm = b) -/
theorem pe_mkK (M : Mk X.K C f) (F : FnK X.prog X.w X.K X.mg X.base CX k f nm sp) (hr : Room (k + 1) X.A) (hm : X.mg x = some (.ref C)) (hx : Passes CX X E) (ha : PA X (e :: es) t) (hk : PK X [⟨some nm, b, kp⟩] tz) (hg : Gl X x := by rfl) (hdb : (x == ("__debug__" : Str)) = false := by decide)
    (hall : (backToKw pos (keywordEach [⟨some nm, b, kp⟩] X.env)).all (·.1.isSome) = true := by rfl) (hks : (backToKw pos (keywordEach [⟨some nm, b, kp⟩] X.env)).filterMap (·.1) = [nm] := by rfl)
    (he : starEach (e :: es) X.env = (false, eval e X.env) :: starEach es X.env := by rfl) (hpl : ((backTo pos (starEach (e :: es) X.env)).any (·.1) || (backToKw pos (keywordEach [⟨some nm, b, kp⟩] X.env)).any (·.1.isNone)) = false := by rfl) :
    PE X (.Call (.Name x p) (e :: es) [⟨some nm, b, kp⟩] pos) (tMkK C sp E t tz) := by
  refine ⟨fun pins s σ H Q I h => ?_⟩
  refine wpAny_Call_Name_kw (ld_glob I hg hm ?_ hdb)
  refine PySem.W.callWith_KW (h₀ := X.base) I.ok.mod.kin M.kp hall (thn (ha.run pos pins s σ H _ I h) fun us s1 ⟨vs, H1, I1, r, q1⟩ => ?_) hpl he
  refine thn (hk.run pos pins s1 σ H1 _ I1 q1) fun ws s2 ⟨zs, H2, I2, rz, z, ez, q⟩ => ⟨I2.kIn, ?_⟩
  subst ez
  rw [hks]
  cases rz with
  | cons rz r0 =>
    cases r0
    exact run_mkK M F hr hx I2 r rz q
end

/-! ### c(*e, nm = b), c a local that holds the class -/
section
variable {M : Model} {A : Around} {E : Value → Shared → Prop} {s : Shared}
theorem args_SK {f : Value} {x : Sem Value} {pos : Pos} {kws : List (Option Str × Sem Value)} {Q : Args → Shared → Prop} (hall : kws.all (·.1.isSome) = true)
    (h : wpAny M A x (fun v s₁ => wpAny M A (evalAll (kws.map (·.2))) (fun ks s₂ => PySem.W.StarOf M A E v (fun vs s₃ => Q ⟨vs, (kws.filterMap (·.1)).zip ks⟩ s₃) s₂) E s₁) E s) :
    wpAny M A (evalArgs f true [(true, (do let v ← x; standAt pos; pure v))] kws) Q E s := by
  unfold evalArgs
  first
    | refine wpAny_bind (wpAny_bind (wpAny_mono h (fun v s₁ h₁ => wpAny_bind (wpAny_standAt (wpAny_pure ?_))) fun _ _ q => q))
    | refine wpAny_bind (wpAny_bind (wpAny_bind (wpAny_mono h (fun v s₁ h₁ => wpAny_bind (wpAny_standAt (wpAny_pure (wpAny_pure ?_)))) fun _ _ q => q)))
  refine wpAny_holding ?_
  simp only [hall, if_true]
  simp only [bind_assoc, pure_bind]
  refine wpAny_bind (wpAny_mono h₁ (fun ks s₂ h₂ => wpAny_bind ?_) fun _ _ q => q)
  unfold PySem.W.StarOf at h₂
  refine wpAny_mono h₂ (fun b s₃ h₃ => ?_) fun _ _ q => q
  obtain ⟨rfl, h₃⟩ := h₃
  simp only [Bool.false_eq_true, if_false]
  exact wpAny_bind (wpAny_holding (wpAny_mono h₃ (fun vs s₄ h₄ => wpAny_pure h₄) fun _ _ q => q))
theorem callWith_any {f : Value} {first : List Value} {pos : Pos} {Q : Value → Shared → Prop} {R : Heap → Prop} {args : List (Bool × Sem Value)} {kws : List (Option Str × Sem Value)} (hst : args.any (·.1) = true)
    (hk : ∀ h, R h → ∃ k, (k = Keeper.frame ∨ k = Keeper.machine ∨ k = Keeper.boundFrame) ∧ PySem.W.Looks M h (keeperOf f) k)
    (h : wpAny M A (evalArgs f true args kws) (fun a s₁ => R s₁.heap ∧ wpAny M A (call f (first ++ a.pos) a.kw) Q E s₁) E s) : wpAny M A (callWith pos f first args kws) Q E s := by
  unfold callWith
  refine wpAny_bind (wpAny_holding (wpAny_mono h (fun a s₁ h1 => wpAny_bind (wpAny_standAt ?_)) fun _ _ q => q))
  obtain ⟨kk, hkk, look⟩ := hk _ h1.1
  simp only [hst, Bool.true_or]
  refine wpAny_bind (look.here ?_)
  have ends : ∀ {t : Sem Value}, wpAny M A t Q E s₁ → wpAny M A (t >>= fun r => holding [r] point >>= fun _ => pure r) Q E s₁ := fun ht =>
    wpAny_bind (wpAny_mono ht (fun r s₂ hr2 => wpAny_bind (wpAny_holding (wpAny_point (wpAny_pure hr2)))) fun _ _ q => q)
  rcases hkk with rfl | rfl | rfl
  · exact ends (by unfold callMarked; exact Calls.wpAny_keep h1.2)
  · exact ends (wpAny_operating h1.2)
  · exact ends (wpAny_operating h1.2)
end
section
variable {X : Cx} {CX : CXT} {k i : Nat} {f C : Addr} {nm x : Str} {sp : List V → V → Hp → VK → XK → Prop} {E : XK} {p sp_ pos kp : Pos} {e b : Expr} {te : TE} {tz : TA}
/-- the i-th slot holds the class at C -/
def tClsK (K : PySem.W.Frag) (i : Nat) (C : Addr) (sp : List V → V → Hp → VK → XK → Prop) (E : XK) (te : TE) (tz : TA) : TE := fun σ H Q => σ[i]? = some (some (.ref C)) ∧ te σ H fun y H1 => ∃ a xs, y = V.ref a ∧ tz σ H1 fun zs H2 => (SqT K H2 a xs ∨ SqL K H2 a xs) ∧ ∃ z, zs = [z] ∧
  ∀ x dx, H2 x = none → H2 dx = none → dx ≠ x → sp (.ref x :: xs) z (upd (upd H2 dx (.own x)) x (.ins C dx [])) (fun v H3 => v = .non ∧ Q (.ref x) H3) E
theorem pe_clsK (M : Mk X.K C f) (F : FnK X.prog X.w X.K X.mg X.base CX k f nm sp) (hr : Room (k + 1) X.A) (hx : Passes CX X E) (he : PE X e te) (hk : PK X [⟨some nm, b, kp⟩] tz) (hN : X.N[i]? = some x) (hv : Vis X.env.scope x)
    (hdb : (x == ("__debug__" : Str)) = false := by decide) (hcd : (x == ("__classdict__" : Str)) = false := by decide)
    (hall : (backToKw pos (keywordEach [⟨some nm, b, kp⟩] X.env)).all (·.1.isSome) = true := by rfl) (hks : (backToKw pos (keywordEach [⟨some nm, b, kp⟩] X.env)).filterMap (·.1) = [nm] := by rfl)
    (hst : starEach [.Starred e sp_] X.env = [(true, eval e X.env)] := by rfl) :
    PE X (.Call (.Name x p) [.Starred e sp_] [⟨some nm, b, kp⟩] pos) (tClsK X.K i C sp E te tz) := by
  refine ⟨fun pins s σ H Q I h => ?_⟩
  obtain ⟨hs, ht⟩ := h
  refine wpAny_Call_Name_kw (thn ((pe_var (pos := p) hN hv hdb hcd).run pins s σ H (fun v H1 => v = .ref C ∧ H1 = H) I ⟨.ref C, hs, rfl, rfl⟩) fun u s1 ⟨v, H1, I1, r1, e1, e2⟩ => ?_)
  subst e1 e2
  cases r1
  rw [hst]
  refine callWith_any (R := fun h => X.K.In h) (by rfl) (PySem.W.keeps_K M.kp) (args_SK hall (thn (he.run pins s1 σ _ _ I1 ht) fun u2 s2 ⟨y, H2, I2, ry, a, xs, ey, hz⟩ => ?_))
  subst ey
  obtain rfl : u2 = Value.ref a := ry
  refine thn (hk.run pos pins s2 σ H2 _ I2 hz) fun ws s3 ⟨zs, H3, I3, rz, hxs, z, ez, q⟩ => ?_
  subst ez
  rw [hks]
  cases rz with
  | cons rz r0 =>
    cases r0
    exact star_any I3 hxs fun us s4 I4 rv => ⟨I4.kIn, run_mkK M F hr hx I4 rv rz q⟩
end
end Pg

namespace Pg
open PySem PySem.Spec PyProof.Rows L2 StX

/-! ### the end of an iterator while an exception is handled -/
section
variable {prog : Program} {w : World} {A : Around} {E : Value → Shared → Prop} {s : Shared}
theorem kept_hot {x1 it : Addr} {g : Obj → Obj} {o1 o2 o3 : Obj} {h : Heap} (hne : x1 ≠ it) (h1 : h.get? x1 = some o1) : (((h.update it g).push o2).push o3).get? x1 = some o1 := by
  refine Heap.get?_push_of_some _ (Heap.get?_push_of_some _ ?_)
  rw [Heap.get?_update_other _ _ (Ne.symm hne)]
  exact h1
theorem list_end_hot {it l x1 : Addr} {i : Nat} {items} {Q : Option Value → Shared → Prop} (hot : HotX.HotAt A x1 s.heap) (hne : x1 ≠ it) (hit : s.heap.IsListIter it l i) (hl : s.heap.IsList l items) (hx : items[i]? = none)
    (hQ : ∀ h2, Heap.ExtBut it s.heap h2 → Q none { s with heap := h2 }) : wpAny (model prog w) A (pyNext (.ref it)) Q E s := by
  obtain ⟨hh, o1, f1, g1, d1, c1⟩ := hot
  obtain ⟨oi, hoi, hci, hdi⟩ := id hit
  obtain ⟨ol, hol, hcl, nl, hdl⟩ := hl
  unfold pyNext
  refine wpAny_bind (wpAny_attempt (wpAny_callSpecial?_slot (name := Str.ofString "__next__") hit.typeIs slot_listiter_next (wpAny_call_entry slot_listiter_next hit.typeIs entry_listiter_next ?_ (args_listiter_next _))))
  show wpAny _ _ (field (.ref it) 0 >>= _) _ _ s
  refine wpAny_bind (wpAny_field hoi hdi (x := .ref l) rfl ?_)
  show wpAny _ _ (if (Value.ref l == Value.none) = true then _ else _) _ _ s
  rw [if_neg (show ¬ ((Value.ref l == Value.none) = true) from Bool.false_ne_true)]
  show wpAny _ _ (field (.ref it) 1 >>= _) _ _ s
  refine wpAny_bind (wpAny_field hoi hdi (x := .int i 0) rfl ?_)
  show wpAny _ _ (seqItems? (.ref l) >>= _) _ _ s
  refine wpAny_bind (wpAny_seqItems hol hdl ?_)
  simp only [Int.toNat_natCast, hx]
  refine wpAny_bind (wpAny_rule (wpAny_bind (wpAny_setField hoi hdi (by simp) ?_)))
  show wpAny _ _ (newExc (.type "StopIteration") [] >>= _) _ _ _
  refine wpAny_bind ?_
  simp only [newExc, newTuple]
  refine wpAny_bind (wpAny_newObj_type ?_ (by size_fits))
  refine wpAny_bind (m := firstArgMember _ _) (wpAny_of_eq (a := Value.none) (by first | rfl | (simp only [firstArgMember]; rfl)) ?_)
  refine wpAny_newObj_type ?_ (by size_fits)
  refine HotX.raiseNew_hot ⟨hh, o1, f1, kept_hot hne g1, d1, c1⟩ (Nat.ne_of_lt ?_) (Heap.get?_push_size _ rfl) rfl (by first | (simp; done) | (simp; omega) | (simp only [Array.size_append]; simp; omega)) ?_
  · have z := Heap.lt_size g1
    show x1 < ((s.heap.update it (Obj.mapFields (·.setIfInBounds 0 Value.none))).push _).objs.size
    rw [Heap.size_push, Heap.size_update]
    exact Nat.lt_succ_of_lt z
  refine wpAny_bind (wpAny_isInstance (T := "StopIteration") (b := true) ⟨_, Heap.get?_update_self _ (Heap.get?_push_size _ rfl) rfl, rfl⟩ isSubtype_stop ?_)
  refine wpAny_pure (hQ _ fun b o hb e => ?_)
  have z := Heap.lt_size e
  refine (Heap.get?_update_other _ _ (Nat.ne_of_gt ?_)).trans (kept_hot hb e)
  show b < ((s.heap.update it (Obj.mapFields (·.setIfInBounds 0 Value.none))).push _).objs.size
  rw [Heap.size_push, Heap.size_update]
  exact Nat.lt_succ_of_lt z
theorem tup_end_hot {it l x1 : Addr} {i : Nat} {items} {Q : Option Value → Shared → Prop} (hot : HotX.HotAt A x1 s.heap) (hne : x1 ≠ it) (hit : IsTupIter s.heap it l i) (hl : IsTup s.heap l items) (hx : items[i]? = none)
    (hQ : ∀ h2, Heap.ExtBut it s.heap h2 → Q none { s with heap := h2 }) : wpAny (model prog w) A (pyNext (.ref it)) Q E s := by
  obtain ⟨hh, o1, f1, g1, d1, c1⟩ := hot
  obtain ⟨oi, hoi, hci, hdi⟩ := id hit
  obtain ⟨ol, hol, hcl, nl, hdl⟩ := hl
  unfold pyNext
  refine wpAny_bind (wpAny_attempt (wpAny_callSpecial?_slot (name := Str.ofString "__next__") hit.typeIs slot_tupleiter_next (wpAny_call_entry slot_tupleiter_next hit.typeIs entry_tupleiter_next ?_ (args_tupleiter_next _))))
  show wpAny _ _ (field (.ref it) 0 >>= _) _ _ s
  refine wpAny_bind (wpAny_field hoi hdi (x := .ref l) rfl ?_)
  show wpAny _ _ (if (Value.ref l == Value.none) = true then _ else _) _ _ s
  rw [if_neg (show ¬ ((Value.ref l == Value.none) = true) from Bool.false_ne_true)]
  show wpAny _ _ (field (.ref it) 1 >>= _) _ _ s
  refine wpAny_bind (wpAny_field hoi hdi (x := .int i 0) rfl ?_)
  show wpAny _ _ (seqItems? (.ref l) >>= _) _ _ s
  refine wpAny_bind (wpAny_seqItems hol hdl ?_)
  simp only [Int.toNat_natCast, hx]
  refine wpAny_bind (wpAny_rule (wpAny_bind (wpAny_setField hoi hdi (by simp) ?_)))
  show wpAny _ _ (newExc (.type "StopIteration") [] >>= _) _ _ _
  refine wpAny_bind ?_
  simp only [newExc, newTuple]
  refine wpAny_bind (wpAny_newObj_type ?_ (by size_fits))
  refine wpAny_bind (m := firstArgMember _ _) (wpAny_of_eq (a := Value.none) (by first | rfl | (simp only [firstArgMember]; rfl)) ?_)
  refine wpAny_newObj_type ?_ (by size_fits)
  refine HotX.raiseNew_hot ⟨hh, o1, f1, kept_hot hne g1, d1, c1⟩ (Nat.ne_of_lt ?_) (Heap.get?_push_size _ rfl) rfl (by first | (simp; done) | (simp; omega) | (simp only [Array.size_append]; simp; omega)) ?_
  · have z := Heap.lt_size g1
    show x1 < ((s.heap.update it (Obj.mapFields (·.setIfInBounds 0 Value.none))).push _).objs.size
    rw [Heap.size_push, Heap.size_update]
    exact Nat.lt_succ_of_lt z
  refine wpAny_bind (wpAny_isInstance (T := "StopIteration") (b := true) ⟨_, Heap.get?_update_self _ (Heap.get?_push_size _ rfl) rfl, rfl⟩ isSubtype_stop ?_)
  refine wpAny_pure (hQ _ fun b o hb e => ?_)
  have z := Heap.lt_size e
  refine (Heap.get?_update_other _ _ (Nat.ne_of_gt ?_)).trans (kept_hot hb e)
  show b < ((s.heap.update it (Obj.mapFields (·.setIfInBounds 0 Value.none))).push _).objs.size
  rw [Heap.size_push, Heap.size_update]
  exact Nat.lt_succ_of_lt z
theorem unpackItems_hot {t x1 : Addr} {items : Array Value} {Q : List Value → Shared → Prop} (hot : HotX.HotAt A x1 s.heap) (ht : IsTup s.heap t items)
    (hQ : ∀ h2, Heap.ExtBut s.heap.objs.size s.heap h2 → Q items.toList { s with heap := h2 }) : wpAny (model prog w) A (unpackItems (.ref t) items.size none) Q E s := by
  have tlt : t < s.heap.objs.size := by
    obtain ⟨o, ho, _⟩ := ht
    exact Heap.lt_size ho
  have tne : t ≠ s.heap.objs.size := Nat.ne_of_lt tlt
  obtain ⟨hh, o1, f1, g1, d1, c1⟩ := hot
  have xne : x1 ≠ s.heap.objs.size := Nat.ne_of_lt (Heap.lt_size g1)
  unfold unpackItems notIterableAtAll
  refine wpAny_bind ?_
  refine wpAny_bind (wpAny_specialOf ht.typeIs slot_tuple_iter.lookup (wpAny_pure ?_))
  simp only [Bool.false_eq_true, if_false]
  refine wpAny_bind (wpAny_holding (iter_tuple ht (wpAny_bind (wpAny_holding (draw_tuple tne items.size 0 _ _ ⟨_, Heap.get?_push_size _ rfl, rfl, rfl⟩ (ht.push _) (by omega) fun hA hit sA => ?_)))))
  have all_ : (items.toList.drop 0).take items.size = items.toList := by
    rw [List.drop_zero]
    exact List.take_of_length_le (by simp)
  rw [all_, if_neg (by simp)]
  have tA : IsTup hA t items := (ht.push _).extBut sA.extBut tne
  refine wpAny_bind (wpAny_holding (tup_end_hot (x1 := x1) ⟨hh, o1, f1, sA.extBut x1 o1 xne (Heap.get?_push_of_some _ g1), d1, c1⟩ xne hit tA (by simp) fun hB eB => ?_))
  simp only [Option.isSome_none, Bool.false_eq_true, if_false]
  exact wpAny_pure (hQ hB fun b o hb e => eB b o hb (sA.extBut b o hb (Heap.get?_push_of_some _ e)))
theorem assign_hot {env : Env} {elts : List Expr} {kk : Nat} {pos : Pos} {t x1 : Addr} {items : Array Value} {Q : Unit → Shared → Prop} (hot : HotX.HotAt A x1 s.heap) (ht : IsTup s.heap t items)
    (hn : (assignEach elts env).length = items.size) (hstar : (assignEach elts env).findIdx? (·.1) = none)
    (h : ∀ h2, Heap.ExtBut s.heap.objs.size s.heap h2 → wpAny (model prog w) A (assignInOrder ((assignEach elts env).map (·.2)) items.toList) Q E { s with heap := h2 }) :
    wpAny (model prog w) A (assign (.Tuple elts kk pos) env (.ref t)) Q E s := by
  rw [assign_Tuple]
  refine wpAny_bind (wpAny_standAt ?_)
  unfold unpack
  rw [hn, hstar]
  exact wpAny_bind (wpAny_holding (unpackItems_hot hot ht h))
end
section
variable {X : Cx} {pos : Pos}
theorem pg_tupH {es : List Expr} {k : Nat} {t : TGs} {n : Nat} (hc : L2H.HotC X) (h : PGs X es t) (hn : (assignEach es X.env).length = n := by rfl) (hst : (assignEach es X.env).findIdx? (·.1) = none := by rfl) : PG X (.Tuple es k pos) (L2.gTup X.K n t) := by
  refine ⟨fun pins s σ H v u Q I r ⟨a, xs, ev, hq, hl, hw⟩ => ?_⟩
  subst ev
  cases r
  obtain ⟨its, rv, ht, hz⟩ := I.tuple hq
  obtain ⟨x1, hot⟩ := hc.at I
  refine assign_hot hot ht (by simp [hn, ← hl, rv.length]) hst fun h2 hx => ?_
  have I1 : Inv X pins σ H { s with heap := h2 } := I.kept (t' := s.toks) fun b o e => hx b o (Nat.ne_of_lt (Heap.lt_size e)) e
  exact h.run pins _ σ H xs _ Q I1 (by simpa using rv) hw
end

/-! ### a list walked there -/
theorem turn_listH {P : Program} {w : World} {K : PySem.W.Frag} {tg : Expr} (a it : Addr) : L2H.TurnH P w K tg (Itl K a) [it] it (fun i h => h.IsListIter it a i) where
  mem := List.mem_singleton.mpr rfl
  obj := (turn_list (P := P) (w := w) (K := K) (tg := tg) a it).obj
  keep := (turn_list (P := P) (w := w) (K := K) (tg := tg) a it).keep
  item := by
    intro X hP hw hK hc i pins s σ H E I hf st ⟨xs, x, hq, hx⟩
    subst hP hw hK
    obtain ⟨its, rv, p, hz⟩ := I.list hq
    obtain ⟨u, hu, ru⟩ := rv.get hx
    obtain ⟨f0, f1, f2, f3, f4, f5⟩ := hf it (List.mem_singleton.mpr rfl)
    refine wpAny_pyNext_list_item st p.isList (x := u) (by simpa using hu) fun h2 st2 sb => ?_
    have I1 : Inv X pins σ H { s with heap := h2 } := I.turned (t' := s.toks) (fun b o hb e => (sb.2 b hb).trans e) f0 f1 f3 f4 f5
    obtain ⟨o, e, c, d⟩ := id st2
    exact ⟨u, rfl, go_of (s := { s with heap := h2 }) e c d (by decide) ⟨x, H, I1, ru, ⟨rfl, fun ys hy => by rw [I.list_inj hy hq]; exact hx⟩, st2, fun b hb => (hf b hb).1⟩⟩
  done := by
    intro X hP hw hK hc i pins s σ H E I hf st ⟨xs, hq, hx⟩
    subst hP hw hK
    obtain ⟨its, rv, p, hz⟩ := I.list hq
    obtain ⟨f0, f1, f2, f3, f4, f5⟩ := hf it (List.mem_singleton.mpr rfl)
    have hl := rv.length
    obtain ⟨q, ⟨hh, v1, e1, c1⟩, hp⟩ := hc
    have P1 := I.pin q (List.mem_append_left _ hp)
    exact list_end_hot (x1 := q.1) ⟨hh, q.2, v1, P1.1, e1, c1⟩ (f5 q (List.mem_append_left _ hp)) st p.isList (by simp; omega) fun h2 eb => ⟨rfl, I.turned (t' := s.toks) (fun b o hb e => eb b o hb e) f0 f1 f3 f4 f5⟩
  self := (turn_list (P := P) (w := w) (K := K) (tg := tg) a it).self
theorem pi_listH {X : Cx} {tg l : Expr} {tl : TE} (hl : PE X l tl) : L2H.PIH X tg l (iList X.K tl) := by
  refine ⟨fun pins s σ H R I h => ?_⟩
  refine thn (hl.run pins s σ H _ I h) fun v s1 ⟨x, H1, I1, r1, a, e, ⟨xs, hq⟩, q⟩ => ?_
  subst e
  cases r1
  obtain ⟨its, rv, p, hz⟩ := I1.list hq
  refine wpAny_pyIter_list p.isList ?_
  refine ⟨s1.heap.objs.size, [s1.heap.objs.size], _, _, H1, rfl, I1.kept (t' := s1.toks) fun b o e => Heap.get?_push_of_some _ e, turn_listH a _, ⟨_, Heap.get?_push_size _ rfl, rfl, rfl⟩, fun b hb => ?_, q⟩
  obtain rfl : b = s1.heap.objs.size := List.mem_singleton.mp hb
  exact I1.fpOk (Nat.le_refl _) (I1.hok.fresh (Nat.le_refl _))

/-! ### a comprehension there -/
abbrev BlkH (X : Cx) (s : Shared) (H : Hp) (scope : Scope) (C : Addr) (cl : List (Str × Addr)) (fp : List Addr) : Cx := (Blk X s H scope C cl fp).tr X.pn NoE
theorem hot_blk {X : Cx} {s : Shared} {H : Hp} {scope : Scope} {C : Addr} {cl : List (Str × Addr)} {fp : List Addr} (hc : L2H.HotC X) : L2H.HotC (BlkH X s H scope C cl fp) := hc
section
variable {X : Cx} {pins : List (Addr × Obj)} {σ σ' : L2.St} {H : Hp} {s s' : Shared} {scope : Scope} {cl : List (Str × Addr)} {fp : List Addr}
theorem blk_hot (I4 : Inv (Blk X s H scope s.heap.objs.size cl fp) [] σ' H { s with heap := pushCells (s.heap.push { cls := .type "dict", data := .dict #[] }) scope.names }) (I : Inv X pins σ H s) :
    Inv (BlkH X s H scope s.heap.objs.size cl fp) [] σ' H { s with heap := pushCells (s.heap.push { cls := .type "dict", data := .dict #[] }) scope.names } :=
  (I4.pins_of (pins' := X.pn) fun p hp => by
    have P1 := I.pin p (List.mem_append_left _ hp)
    exact ⟨pushCells_keeps _ _ _ _ (Heap.get?_push_of_some _ P1.1), P1.2.1, Nat.ne_of_lt (Heap.lt_size P1.1), fun hm => (List.mem_cons.mp (I.stkSub p.1 hm)).elim P1.2.2.1 P1.2.2.2.1, P1.2.2.2.2⟩).toTry NoE
end
section
variable {prog : Program} {w : World} {A : Around} {s : Shared} {elt t0 i0 : Expr} {if0 : List Expr} {scope : Scope} {pos : Pos} {acc : Value} {env : Env}
theorem turns_one : TurnsBy prog w A (.ListComp elt [⟨t0, i0, if0, 0⟩] scope pos) 0 t0 if0 acc env (bLast prog w A elt env acc) := by
  intro it Q E s h
  unfold compTurn
  refine wpAny_bind (wpAny_standAt (wpAny_bind (thnF h fun r s1 h1 => ?_)))
  cases r with
  | none => exact wpAny_pure h1
  | some v =>
    refine wpAny_bind (thnF h1 fun _ s2 h2 => ?_)
    refine wpAny_bind (thnF h2 fun _ s3 h3 => wpAny_bind (thnF h3 fun ok s4 h4 => ?_))
    cases ok with
    | false => exact wpAny_pure h4
    | true => exact wpAny_bind (wpAny_bind (thnF h4 fun x s5 h5 => wpAny_bind (thnF h5 fun _ s6 h6 => wpAny_pure (wpAny_pure h6))))
end
section
variable {Y : Cx}
theorem clause_loopH {elt tg : Expr} {gens : List Comprehension} {scope : Scope} {pos : Pos} {k : Nat} {ifs : List Expr} {B : BodyT} {vsB vs : List Nat} {tB : TBd} {g : TG} {tt : TT} {D : Addr} {it : Addr} {fp : List Addr} {tn : Nat → Heap → Prop} {J : It} {pins : List (Addr × Obj)} {σ : L2.St} {W : Nat → Nat → Hp → Prop} {Q : Hp → Prop} {m0 : Nat} {H0 : Hp} {s : Shared}
    (hc : L2H.HotC Y) (hx : Y.xe = NoE) (hg : PG Y tg g) (ht : PTs Y ifs tt) (hB : PBd Y B vsB tB) (hsub : ∀ i ∈ vsB, i ∈ vs) (hT : TurnsBy Y.prog Y.w Y.A (.ListComp elt gens scope pos) k tg ifs (.ref D) Y.env B) (T : L2H.TurnH Y.prog Y.w Y.K tg J fp it tn)
    (turn : ∀ i m H, W i m H → (J.stop i H ∧ Q H) ∨ (J.go i H ∧ ∃ Nx : Hp → Prop, (∀ H', Nx H' → ∃ m', m' < m ∧ W (i + 1) m' H') ∧ ∀ x H', J.yld i H x H' → g x (wipe σ vs) H' fun σ2 H2 => wipe σ2 vs = wipe σ vs ∧ tt σ2 H2 fun b H3 => if b = true then tB σ2 H3 Nx else Nx H3))
    (I0 : Inv Y pins (wipe σ vs) H0 s) (st0 : tn 0 s.heap) (f0 : ∀ b ∈ fp, FpOk Y pins H0 b) (w0 : W 0 m0 H0) (hq : (Code.compLoop (.ListComp elt gens scope pos) k (.ref it) (.ref D) Y.env).quiet = true := by rfl) :
    codeAny (model Y.prog Y.w) Y.A (.compLoop (.ListComp elt gens scope pos) k (.ref it) (.ref D) Y.env) (fun r s' => match r with | .ok _ => ∃ H', Inv Y pins (wipe σ vs) H' s' ∧ Q H' | .error _ => False) s := by
  have stat : ∀ {H' : Hp}, (∀ b ∈ fp, H' b = none) → ∀ b ∈ fp, FpOk Y pins H' b := fun hn b hb => ⟨hn b hb, (f0 b hb).2⟩
  refine turns_loop hT hq (fun n s' => ∃ i H', Inv Y pins (wipe σ vs) H' s' ∧ tn i s'.heap ∧ (∀ b ∈ fp, H' b = none) ∧ W i n H') ?_ hB.mono m0 ⟨0, H0, I0, st0, fun b hb => (f0 b hb).1, w0⟩
  rintro n s5 ⟨i, H5, I5, st5, n5, w5⟩
  rcases turn i n H5 w5 with ⟨stop, qq⟩ | ⟨go, Nx, hNx, step⟩
  · refine thnF (T.done Y rfl rfl rfl hc i pins s5 _ H5 NoE I5 (stat n5) st5 stop) fun r s6 ⟨hr, I6⟩ => ?_
    subst hr
    exact ⟨H5, I6, qq⟩
  · refine thnF (T.item Y rfl rfl rfl hc i pins s5 _ H5 NoE I5 (stat n5) st5 go) fun r s6 ⟨u, hr, h6⟩ => ?_
    subst hr
    refine thnF h6 fun _ s7 ⟨x, H7, I7, r7, y7, st7, n7⟩ => ?_
    have I7' := I7.pinned (stat n7) (T.obj _ _ st7)
    have ra := hg.run _ s7 _ H7 x u _ I7' r7 (step x H7 y7)
    rw [hx] at ra
    refine thnF ra fun _ s8 ⟨σ8, H8, I8, hw8, q8⟩ => ?_
    have rt := ht.run _ s8 σ8 H8 _ I8 q8
    rw [hx] at rt
    refine thnF rt fun b s9 ⟨H9, I9, q9⟩ => ?_
    have fin : ∀ {σ9 : L2.St} {s' : Shared} {H' : Hp}, Inv Y (pins ++ pinsAt fp s7.heap) σ9 H' s' → (wipe σ vs).length = σ9.length → (∀ (j : Nat) v, (wipe σ vs)[j]? = some (some v) → σ9[j]? = some (some v)) → Nx H' →
        ∃ m, m < n ∧ ∃ i H', Inv Y pins (wipe σ vs) H' s' ∧ tn i s'.heap ∧ (∀ b ∈ fp, H' b = none) ∧ W i m H' := fun {σ9 s' H'} I' hl hk nx => by
      obtain ⟨m', hm, w'⟩ := hNx H' nx
      have pin' : ∀ b ∈ fp, ∀ o, s7.heap.get? b = some o → s'.heap.get? b = some o ∧ H' b = none := fun b hb o e =>
        have z := I'.pin (b, o) (List.mem_append_right _ (List.mem_append_right _ (mem_pinsAt hb e)))
        ⟨z.1, z.2.1⟩
      refine ⟨m', hm, i + 1, H', (I'.unpinned (pins := pins)).weak hl hk, T.keep _ _ _ st7 fun b hb o e => (pin' b hb o e).1, fun b hb => ?_, w'⟩
      obtain ⟨o, e, _⟩ := T.obj _ _ st7 b hb
      exact (pin' b hb o e).2
    have hl8 : (wipe σ vs).length = σ8.length := by rw [← hw8, wipe_length]
    have hk8 : ∀ (j : Nat) v, (wipe σ vs)[j]? = some (some v) → σ8[j]? = some (some v) ∧ j ∉ vs := fun j v e => by
      rw [← hw8] at e
      exact wipe_some e
    cases b with
    | false => exact fin I9 hl8 (fun j v e => (hk8 j v e).1) q9
    | true =>
      refine hB.mono _ _ _ (fun s' ⟨H', I', q'⟩ => fin I' (hl8.trans (wipe_length _ _).symm) (fun j v e => ?_) q') (hB.run _ s9 σ8 H9 _ I9 q9)
      obtain ⟨e1, e2⟩ := hk8 j v e
      rw [wipe_out fun z => e2 (hsub j z)]
      exact e1
end
section
variable {X : Cx}
theorem pe_lcH {elt tg iter : Expr} {ifs : List Expr} {rest : List Comprehension} {scope : Scope} {own : List (Str × Nat)} {pos : Pos} {wi : TI} {g : TG} {tt : TT} {tB : Addr → TBd} {vsB : List Nat} {B : Env → Addr → BodyT} (hc : L2H.HotC X) (hN : X.N.Nodup) (hi : L2H.PIH X tg iter wi) (ok : BlkOk X.N X.env.scope scope own)
    (hg : ∀ (s : Shared) (H : Hp) (C : Addr) (cl : List (Str × Addr)) (fp : List Addr), PG (BlkH X s H scope C cl fp) tg g) (ht : ∀ (s : Shared) (H : Hp) (C : Addr) (cl : List (Str × Addr)) (fp : List Addr), PTs (BlkH X s H scope C cl fp) ifs tt)
    (hB : ∀ (s : Shared) (H : Hp) (C : Addr) (cl : List (Str × Addr)) (fp : List Addr) (D : Addr), PBd (BlkH X s H scope C cl fp) (B (compEnvC scope cl C X.env) D) vsB (tB D)) (hsub : ∀ i ∈ vsB, i ∈ own.map (·.2))
    (hT : ∀ env D, TurnsBy X.prog X.w X.A (.ListComp elt (⟨tg, iter, ifs, 0⟩ :: rest) scope pos) 0 tg ifs (.ref D) env (B env D)) (hs : ∀ x, foldedSetIterable iter X.env x = pure x) :
    PE X (.ListComp elt (⟨tg, iter, ifs, 0⟩ :: rest) scope pos) (tLcB wi g tt tB (own.map (·.2))) := by
  refine ⟨fun pins s σ H Q I h => ?_⟩
  rw [eval_ListComp]
  have caught : ∀ y ∈ scope.names, y.2 = .free → ∃ c, X.env.cells.lookup y.1 = some c := fun y hy e => (ok.free y hy e).elim (fun k => I.ok.has _ (.inl k)) fun k => I.ok.has _ (.inr k)
  refine wpAny_comprehension_free (use := none) rfl hs (closure_ok caught) ok.kind (fun y hy e => by rw [ok.uniq y hy, e]) (thn (hi.run pins s σ H _ I h) fun xv s1 hx => thn hx fun itv s2 ⟨it, fp, tn, J, H2, ee, I2, T, st2, f2, q⟩ => ?_)
  subst ee
  refine wpAny_newObj_type (newEnv_comp ?_) (by show 0 ≤ sizeLine; decide)
  generalize hD : s2.heap.objs.size = D
  obtain ⟨W, ⟨m0, w0⟩, turn⟩ := q D (I2.hok.fresh (Nat.le_of_eq hD))
  generalize hs3 : ({ s2 with heap := s2.heap.push { cls := .type "list", data := .seq ([] : List Value).toArray } } : Shared) = s3
  have hp3 : s3.heap = s2.heap.push { cls := .type "list", data := .seq ([] : List Value).toArray } := by rw [← hs3]
  have I3 : Inv X pins σ (upd H2 D (.lst [])) s3 := by
    subst hs3
    exact I2.laid (t' := s2.toks) (fun b o e => Heap.get?_push_of_some _ e) (Nat.le_of_eq hD) ⟨Nat.zero_le _, [], 0, .nil, by subst hD; exact Heap.get?_push_size _ rfl⟩
  have f3 : ∀ b ∈ fp, FpOk X pins (upd H2 D (.lst [])) b ∧ b < s3.heap.objs.size := fun b hb => by
    obtain ⟨o, e, _⟩ := T.obj _ _ st2 b hb
    have hlt := Heap.lt_size e
    refine ⟨⟨?_, (f2 b hb).2⟩, by rw [hp3, Heap.size_push]; exact Nat.lt_succ_of_lt hlt⟩
    rw [upd_ne (by rw [← hD]; exact Nat.ne_of_lt hlt)]
    exact (f2 b hb).1
  have st3 : tn 0 s3.heap := T.keep _ _ _ st2 fun b _ o e => by rw [hp3]; exact Heap.get?_push_of_some _ e
  have I4 := blk_hot (block_start I3 ok hN f3) I3
  show codeAny (model X.prog X.w) X.A (.compStart (.ListComp elt (⟨tg, iter, ifs, 0⟩ :: rest) scope pos) 0 (.ref it) (.ref D) (compEnvC scope (cellsFrom (s3.heap.objs.size + 1) scope.names (cloFrom X.env.cells scope.names [])) s3.heap.objs.size X.env)) (compPost (model X.prog X.w) X.A X.xe none (EP X pins σ Q) (.ref D) s3.heap.objs.size) { s3 with heap := pushCells (s3.heap.push { cls := .type "dict", data := .dict #[] }) scope.names }
  generalize hcl : cellsFrom (s3.heap.objs.size + 1) scope.names (cloFrom X.env.cells scope.names []) = cl at I4 ⊢
  have pg := hg s3 (upd H2 D (.lst [])) s3.heap.objs.size cl fp
  have pt := ht s3 (upd H2 D (.lst [])) s3.heap.objs.size cl fp
  have pb := hB s3 (upd H2 D (.lst [])) s3.heap.objs.size cl fp D
  have st4 : tn 0 (pushCells (s3.heap.push { cls := .type "dict", data := .dict #[] }) scope.names) := T.keep _ _ _ st3 fun b _ o e => pushCells_keeps _ _ _ _ (Heap.get?_push_of_some _ e)
  have f4 : ∀ b ∈ fp, FpOk (BlkH X s3 (upd H2 D (.lst [])) scope s3.heap.objs.size cl fp) [] (upd H2 D (.lst [])) b := fun b hb =>
    ⟨(f3 b hb).1.1, (I4.ok.exf b hb).1, I4.ok.exfs b hb, .inl hb, fun x c e => (I4.ok.exf b hb).2 x c e, fun p hp => (f3 b hb).1.2.2.2.2.2 p (List.mem_append_left _ (by simpa using hp))⟩
  have loop := clause_loopH (Y := BlkH X s3 (upd H2 D (.lst [])) scope s3.heap.objs.size cl fp) (k := 0) (Q := fun H' => Q (.ref D) H') hc rfl pg pt pb hsub (hT _ D) T turn I4 st4 f4 w0
  have post := codeAny_mono (R' := compPost (model X.prog X.w) X.A X.xe none (EP X pins σ Q) (.ref D) s3.heap.objs.size) loop fun r s6 hr => by
    cases r with
    | error e => exact hr.elim
    | ok v =>
      obtain ⟨H5, I6, qq⟩ := hr
      have I7 : Inv X pins σ H5 s6 := I3.call' (ch := fp) I6.os I6.base I6.hok I6.bare fun b hb => ⟨(f3 b hb).1.2.2.2.1, (f3 b hb).1.2.1, (f3 b hb).1.2.2.2.2.1, (f3 b hb).1.2.2.2.2.2⟩
      have nC : H5 s3.heap.objs.size = none := I6.free
      obtain ⟨m, hn, _⟩ := I6.loc
      obtain ⟨z0, z1, z2, z3, z4, z5⟩ := I3.fpOk (H' := H5) (Nat.le_refl _) nC
      exact ⟨m, hn, fun h'' sb => ⟨.ref D, H5, I7.turned (t' := s6.toks) (fun b o hb e => (sb.2 b hb).trans e) z0 z1 z3 z4 z5, rfl, qq⟩⟩
  exact codeAny_compStart_list post (T.self X.A 0 _ _ _ st4 post)
end
end Pg

namespace Pg
open PySem PySem.Spec PyProof.Rows L2 StX

/-! ### a def that is called with the exception that is handled: a, of the class at D -/
def FnE (P : Program) (w : World) (K : PySem.W.Frag) (mg : Str → Option Value) (base : Heap) (k : Nat) (f : Addr) (fd : FuncData) (ps : List Str) (D : Addr) (sp : Addr → List V → Hp → VK → Prop) : Prop :=
  (∀ a vs H Q, sp a vs H Q → vs.length = ps.length) ∧ ∀ (A : Around) (outer : List Env) (s : Shared) (H : Hp) (args : Args) (us : List Value) (vs : List V) (Q : VK) (a : Addr) (oe : Obj), L2H.RoomH k A → L2H.Hot1 A (a, oe) → Zc (.ref D) none oe → L2H.PinOk outer H s (a, oe) →
    Env0 P w K mg base A outer s H → BindsTo s fd args (ps.zip us) → Vals vs us → sp a vs H Q → codeAny (model P w) A (.call (.ref f) args) (CR L2.CX0 outer P w H s Q L2.E0) s
section
variable {P : Program} {w : World} {K : PySem.W.Frag} {mg : Str → Option Value} {base : Heap} {k : Nat} {x qual : Str} {st : Stmt} {f D : Addr} {fd : FuncData} {N ps : List Str} {sp : Addr → List V → Hp → VK → Prop}
theorem fnE_of (F : Fun K x qual st f fd) (S : FnScope N ps (defScope st)) (len : ∀ a vs H Q, sp a vs H Q → vs.length = ps.length)
    (hb : ∀ (cdv : Value) (A : Around) (outer : List Env) (s : Shared) (H : Hp) (vs : List V) (Q : VK) (a : Addr) (oe : Obj), L2H.Hot1 A (a, oe) → Zc (.ref D) none oe → L2H.RoomH k (A.deeper (envOfC qual (defScope st) s.heap.objs.size f cdv)) → sp a vs H Q →
      ∃ t, PSs (L2H.cxH L2.CX0 P w K mg base N qual (defScope st) f cdv A outer s H L2.E0 (a, oe)).nox (defBody st) t ∧ t { nx := fun _ H' => Q .non H', rt := Q } (start N vs) H) :
    FnE P w K mg base (k + 1) f fd ps D sp := by
  obtain ⟨oc, od, kV, doc, pm, an, cdv, ct, osl, rfl, lk, hcd⟩ := F.ex
  refine ⟨len, fun A outer s H args us vs Q a oe hr hot hz hpin e0 hbd r hsp => ?_⟩
  have hl := len _ _ _ _ hsp
  have kin : K.In s.heap := e0.mod.kin.keeps fun b o e => (e0.bs b o e).1
  have nolim : s.heap.NoLimit := e0.mod.nolimit.keeps fun b o e => (e0.bs b o e).1
  have kinds : ∀ y ∈ ps.zip us, (defScope st).names.lookup y.1 = some .local ∨ ((defScope st).names.lookup y.1 = some .cell ∧ ((cellsFrom (s.heap.objs.size + 1) (defScope st).names []).lookup y.1).isSome = true) := fun y hy =>
    (S.par y.1 (List.of_mem_zip hy).1).elim .inl fun q => .inr ⟨q, PySem.W.cellsFrom_some _ _ _ (.inl q)⟩
  refine codeAny_call_function hr.depth (kin _ _ lk) rfl S.co S.gen rfl (PySem.W.codeRec_of kin hcd) (hbd _ _ _ _ (wpAny_newFunctionEnv_cells S.kind kinds fun env he s1 ic => ?_))
  subst he
  refine ⟨nolim.keeps ic.toInCall.keep, codeAny_func ?_⟩
  obtain ⟨t, ht, hq⟩ := hb cdv A outer s H vs Q a oe hot hz (hr.deeper _) hsp
  have I := L2H.inv_startH (CX := L2.CX0) (E := L2.E0) (P := P) (w := w) (mg := mg) (f := f) (cd := cdv) S hpin e0 hl r ic
  refine wpAny_mono (ht.nox.run [] s1 _ H _ I hq) (fun fl s2 hs => ?_) fun e s2 hs => hs
  cases fl with
  | ret u =>
    obtain ⟨v, σ2, H2, J, rv, q⟩ := hs
    exact ⟨v, H2, J.os, J.bare, J.base, J.hok, rv, q⟩
  | next =>
    obtain ⟨σ2, H2, J, q⟩ := hs
    exact ⟨.non, H2, J.os, J.bare, J.base, J.hok, rfl, q⟩
  | brk =>
    obtain ⟨_, _, _, q⟩ := hs
    exact q.elim
  | cont =>
    obtain ⟨_, _, _, q⟩ := hs
    exact q.elim
end
section
variable {X : Cx} {k : Nat} {f a : Addr} {oe : Obj} {fd : FuncData} {ps : List Str} {cls : Value} {d : Option Addr} {x : Str} {q pos : Pos} {e : Expr} {es : List Expr} {t : TA}
theorem pe_callE (hr : L2H.RoomH k X.A) (hh : L2H.Hot1 X.A (a, oe)) (hz : Zc cls d oe) (hp : (a, oe) ∈ X.pn) (hm : X.mg x = some (.ref f)) (hk : PySem.W.keepIn X.K (.ref f) = true) (hb : Binds X.K fd ps []) (ha : PA X (e :: es) t) (hg : Gl X x := by rfl)
    (hdb : (x == ("__debug__" : Str)) = false := by decide) (he : starEach (e :: es) X.env = (false, eval e X.env) :: starEach es X.env := by rfl) (hpl : (backTo pos (starEach es X.env)).any (·.1) = false := by rfl) :
    PE X (.Call (.Name x q) (e :: es) [] pos) (fun σ H Q => ∃ (D : Addr) (sp : Addr → List V → Hp → VK → Prop), cls = .ref D ∧ d = none ∧ FnE X.prog X.w X.K X.mg X.base k f fd ps D sp ∧ t σ H fun vs H1 => sp a vs H1 Q) := by
  refine ⟨fun pins s σ H Q I ⟨D, sp, ec, ed, F, h⟩ => ?_⟩
  subst ec ed
  refine wpAny_Call_Name_kw (ld_glob I hg hm (PySem.W.callWith_K (h₀ := X.base) I.ok.mod.kin hk (thn (ha.run pos pins s σ H _ I h) fun us s1 ⟨vs, H1, I1, r, hsp⟩ => ⟨I1.kIn, ?_⟩) he hpl) hdb)
  have hl : us.length = ps.length := by rw [← r.length]; exact F.1 _ _ _ _ hsp
  have b := hb s1 us I1.kIn (by rw [List.append_nil]; exact hl)
  rw [List.append_nil] at b
  have P1 := I1.pin (a, oe) (List.mem_append_left _ hp)
  have hpin : L2H.PinOk X.stack H1 s1 (a, oe) := ⟨P1.1, P1.2.1, fun hm => (List.mem_cons.mp (I1.stkSub a hm)).elim P1.2.2.1 P1.2.2.2.1, P1.2.2.2.2⟩
  refine wpAny_call (codeAny_mono (F.2 X.A X.stack s1 H1 ⟨us, []⟩ us vs Q a oe hr hh hz hpin I1.env0 b r hsp) fun res s2 hq => ?_)
  cases res with
  | error er => exact hq.elim
  | ok fl =>
    cases fl with
    | ret u => exact I1.after hq
    | next => exact hq.elim
    | brk => exact hq.elim
    | cont => exact hq.elim
/-- isinstance of it -/
theorem call_isP {D : Addr} (C : ExcC X.K D) (hp : (a, oe) ∈ X.pn) (hz : Zc (.ref D) none oe) (hf : ∃ vs, oe.data = .fields vs) : CallR X (.builtin "isinstance") (rIsE X.K D a) := by
  intro pins s σ H xs us Q I r h
  obtain ⟨c, cv, b, rfl, hcv, e, q⟩ := h
  cases r with
  | cons rx rr =>
    cases rr with
    | cons rt rr =>
      cases rr
      cases rx
      have ec := hcv _ rt
      subst ec
      obtain ⟨vs, hv⟩ := hf
      have J : PySem.W.InstAt s.heap a oe D none := by
        have hget := (I.pin (a, oe) (List.mem_append_left _ hp)).1
        obtain ⟨oc, od, oda, osl⟩ := oe
        obtain ⟨h1, h2⟩ := hz
        dsimp only at h1 h2 hv
        subst h1 h2 hv
        exact ⟨hget, rfl, rfl, trivial⟩
      exact PySem.W.kia_one (PySem.W.handS_kitx_exc C.hg C.hk C.hs C.hd C.ha C.hn C.ht C.hm) I.kIn J e (fun z => nomatch z) fun tk => ⟨.bl b, H, I.kept (t' := tk) fun _ _ z => z, rfl, q⟩
end

/-! ### pairs of a text and a truth value -/
inductive PrsAt (H : Hp) : List V → List (Str × Bool) → Prop
  | nil : PrsAt H [] []
  | cons {t : Addr} {s : Str} {b : Bool} {vs : List V} {l : List (Str × Bool)} (h : H t = some (.tup [.str s, .bl b])) (r : PrsAt H vs l) : PrsAt H (.ref t :: vs) ((s, b) :: l)
section
variable {H H' : Hp} {vs ws : List V} {l m : List (Str × Bool)}
theorem PrsAt.mono (s : Same H H') (h : PrsAt H vs l) : PrsAt H' vs l := by
  induction h with
  | nil => exact .nil
  | cons h r ih => exact .cons (s _ _ h) ih
theorem PrsAt.app (h : PrsAt H vs l) (k : PrsAt H ws m) : PrsAt H (vs ++ ws) (l ++ m) := by
  induction h with
  | nil => exact k
  | cons h r ih => exact .cons h ih
theorem PrsAt.len (h : PrsAt H vs l) : vs.length = l.length := by
  induction h with
  | nil => rfl
  | cons h r ih => rw [List.length_cons, List.length_cons, ih]
theorem PrsAt.at (h : PrsAt H vs l) : ∀ (i : Nat) (v : V), vs[i]? = some v → ∃ t s b, v = .ref t ∧ l[i]? = some (s, b) ∧ H t = some (.tup [.str s, .bl b]) := by
  induction h with
  | nil => intro i v e; simp at e
  | cons h r ih =>
    intro i v e
    cases i with
    | zero =>
      simp only [List.getElem?_cons_zero, Option.some.injEq] at e
      subst e
      exact ⟨_, _, _, rfl, rfl, h⟩
    | succ i => exact ih i v (by simpa using e)
def wordsOf (l : List (Str × Bool)) : List Str := (l.filter (·.2)).map (·.1)
theorem wordsOf_snoc {s : Str} {b : Bool} : wordsOf (l ++ [(s, b)]) = wordsOf l ++ (if b = true then [s] else []) := by
  cases b <;> simp [wordsOf]
end
theorem map_none {α β : Type} {A B : List α} {r : Nat} (h : A.length = B.length) : Option.map (fun _ => (none : Option β)) A[r]? = Option.map (fun _ => (none : Option β)) B[r]? := by
  by_cases hr : r < A.length
  · rw [List.getElem?_eq_getElem hr, List.getElem?_eq_getElem (by omega)]
    rfl
  · rw [List.getElem?_eq_none (by omega), List.getElem?_eq_none (by omega)]
/-- the reading of [word for word, good in some if good] -/
theorem rd_words {K : PySem.W.Frag} {σ : L2.St} {H : Hp} {Q : VK} {tl : TE} {a i j : Addr} {vs : List V} {l : List (Str × Bool)} (hij : i ≠ j) (hi : i < σ.length) (hj : j < σ.length) (hl : l.length ≤ 100) (hA : H a = some (.lst vs)) (hP : PrsAt H vs l)
    (ht : ∀ R : V → Hp → Prop, R (.ref a) H → tl σ H R) (hQ : ∀ D H', H D = none → Same H H' → H' D = some (.lst ((wordsOf l).map V.str)) → Q (.ref D) H') :
    tLcB (iList K tl) (L2.gTup K 2 (L2.gCons (L2.gName i) (L2.gCons (L2.gName j) L2.gNil))) (fun σ H R => tVar j σ H fun v H1 => ∃ b : Bool, v = .bl b ∧ R b H1) (fun D => tbLast (tVar i) D) [i, j] σ H Q := by
  refine ht _ ⟨a, rfl, ⟨vs, SqL.of hA⟩, fun D hD => ?_⟩
  have hlen := hP.len
  have hDa : D ≠ a := fun z => by rw [z, hA] at hD; cases hD
  refine ⟨fun n m H2 => n + m = vs.length ∧ (∀ b o, b ≠ D → H b = some o → H2 b = some o) ∧ H2 D = some (.lst ((wordsOf (l.take n)).map V.str)), ⟨vs.length, by omega, fun b o hb e => by rw [upd_ne hb]; exact e, by rw [upd_same]; rfl⟩, ?_⟩
  rintro n m H2 ⟨h1, h2, h3⟩
  have hA2 : H2 a = some (.lst vs) := h2 a _ (Ne.symm hDa) hA
  by_cases hn : n < vs.length
  · refine .inr ⟨⟨vs, vs[n], SqL.of hA2, List.getElem?_eq_getElem hn⟩, fun H3 => (∀ b o, b ≠ D → H b = some o → H3 b = some o) ∧ H3 D = some (.lst ((wordsOf (l.take (n + 1))).map V.str)), fun H3 ⟨q1, q2⟩ => ⟨m - 1, by omega, by omega, q1, q2⟩, ?_⟩
    rintro v H3 ⟨rfl, hy⟩
    obtain ⟨t, s, b, ev, el, hT⟩ := hP.at n v (hy vs (SqL.of hA2))
    subst ev
    have hTD : t ≠ D := fun z => by rw [z, hD] at hT; cases hT
    have hT2 : H3 t = some (.tup [.str s, .bl b]) := h2 t _ hTD hT
    have w1 : (wipe σ [i, j]).length = σ.length := wipe_length _ _
    refine ⟨t, _, rfl, SqT.of hT2, rfl, .str s, [.bl b], rfl, .bl b, [], rfl, rfl, ?_, .bl b, List.getElem?_set_self (by rw [List.length_set, w1]; exact hj), b, rfl, ?_⟩
    · refine List.ext_getElem? fun r => ?_
      by_cases hr : r ∈ [i, j]
      · rw [wipe_in hr, wipe_in hr]
        exact map_none (by rw [List.length_set, List.length_set, w1])
      · have n1 : i ≠ r := fun z => hr (by simp [z])
        have n2 : j ≠ r := fun z => hr (by simp [z])
        rw [wipe_out hr, List.getElem?_set_ne n2, List.getElem?_set_ne n1]
    · have el2 : l.take (n + 1) = l.take n ++ [(s, b)] := by rw [List.take_succ, el]; rfl
      cases b with
      | false =>
        refine iteF ⟨h2, ?_⟩
        rw [el2, wordsOf_snoc, if_neg Bool.false_ne_true, List.append_nil]
        exact h3
      | true =>
        refine iteT ⟨.str s, by rw [List.getElem?_set_ne (Ne.symm hij)]; exact List.getElem?_set_self (by rw [w1]; exact hi), _, h3, ?_, fun b o hb e => by rw [upd_ne hb]; exact h2 b o hb e, ?_⟩
        · refine small1000 (Nat.le_trans ?_ (Nat.le_trans hl (by decide)))
          rw [List.length_map]
          unfold wordsOf
          rw [List.length_map]
          exact Nat.le_trans (List.length_filter_le _ _) (by rw [List.length_take]; omega)
        · rw [upd_same, el2, wordsOf_snoc, if_pos rfl, List.map_append]
          rfl
  · refine .inl ⟨⟨vs, SqL.of hA2, by omega⟩, hQ D H2 hD (fun b o e => h2 b o (fun z => by rw [z, hD] at e; cases e) e) ?_⟩
    rw [List.take_of_length_le (by omega)] at h3
    exact h3
theorem rd_two {K : PySem.W.Frag} {D a c1 c2 : Addr} {b1 b2 : Bool} {w1 w2 : Str} (k1 : PySem.W.kitOne K (.ref D) (.ref c1) = some b1) (k2 : PySem.W.kitOne K (.ref D) (.ref c2) = some b2) (σ : L2.St) (H : Hp) (Q : VK)
    (h : σ[0]? = some (some (.ref a)) ∧ ∀ q H' vs, H q = none → Same H H' → H' q = some (.lst vs) → PrsAt H' vs [(w1, b1), (w2, b2)] → Q (.ref q) H') :
    tLst (tCons (tTup (tCons (tC (.str w1)) (tCons (tCB (rIsE K D a) (tCons (tVar 0) (tCons (tC (.ref c1)) tNil))) tNil))) (tCons (tTup (tCons (tC (.str w2)) (tCons (tCB (rIsE K D a) (tCons (tVar 0) (tCons (tC (.ref c2)) tNil))) tNil))) tNil)) σ H Q := by
  obtain ⟨h0, k⟩ := h
  refine ⟨.ref a, h0, .ref c1, .ref c1, b1, rfl, fun u hu => hu, k1, (by show 2 ≤ sizeLine; decide), fun p hp => ⟨.ref a, h0, .ref c2, .ref c2, b2, rfl, fun u hu => hu, k2, (by show 2 ≤ sizeLine; decide), fun r hr => ⟨(by show 2 ≤ sizeLine; decide), fun q hq => ?_⟩⟩⟩
  have pr : p ≠ r := fun z => by rw [← z, upd_same] at hr; cases hr
  have pq : p ≠ q := fun z => by rw [← z, upd_ne pr, upd_same] at hq; cases hq
  have rq : r ≠ q := fun z => by rw [← z, upd_same] at hq; cases hq
  have s1 : Same H (upd H p (.tup [.str w1, .bl b1])) := same_new hp
  have s2 : Same (upd H p (.tup [.str w1, .bl b1])) (upd (upd H p (.tup [.str w1, .bl b1])) r (.tup [.str w2, .bl b2])) := same_new hr
  have s3 : Same (upd (upd H p (.tup [.str w1, .bl b1])) r (.tup [.str w2, .bl b2])) (upd (upd (upd H p (.tup [.str w1, .bl b1])) r (.tup [.str w2, .bl b2])) q (.lst [.ref p, .ref r])) := same_new hq
  refine k q _ [.ref p, .ref r] ?_ ((s1.trans s2).trans s3) upd_same (.cons (s3 _ _ (s2 _ _ upd_same)) (.cons (s3 _ _ upd_same) .nil))
  rw [upd_ne (Ne.symm rq), upd_ne (Ne.symm pq)] at hq
  exact hq
abbrev bmVE : List Value := [.type "ValueError", .type "Exception", .type "BaseException", .type "object"]
/-- an own error class, over ValueError -/
structure ErrC (K : PySem.W.Frag) (mg : Str → Option Value) (x : Str) (C : Addr) : Prop where
  g : mg x = some (.ref C)
  ex : PySem.W.excIn K C bmVE "ValueError.__new__" = true
  kp : PySem.W.keepIn K (.ref C) = true
  sb : PySem.W.subIn K (.ref C) (.type "BaseException") = some true
  ty : PySem.W.typeIn K (.ref C) = some (.type "type")
  ec : ExcC K C
section
variable {X : Cx} {x m : Str} {C : Addr} {j : Nat} {p p2 pos pos2 : Pos} {W : WX}
/-- raise X('m') -/
theorem ps_rz (e : ErrC X.K X.mg x C) (hc : X.calm = true) (tk : L2N.Takes X W) (hg : Gl X x := by rfl) (hdb : (x == ("__debug__" : Str)) = false := by decide) :
    PS X (.Raise (some (.Call (.Name x p) [.Constant (.str m) j p2] [] pos)) none pos2) (fun _ σ H => W (.ref C) none σ H) :=
  L2N.ps_raise hc tk (L2N.pmk_own PySem.F.excBase_ValueError e.ex e.g e.kp (raises_own e.sb e.ty) hg hdb)
end
section
variable {P : Program} {w : World} {K : PySem.W.Frag} {mg : Str → Option Value} {base : Heap} {x qual : Str} {st : Stmt} {f : Addr} {fd : FuncData} {N ps : List Str} {k : Nat} {sp : Sp}
/-- a def that may raise where nothing is handled -/
theorem okXN (F : Fun K x qual st f fd) (S : FnScope N ps (defScope st)) (len : ∀ vs H Q E, sp vs H Q E → vs.length = ps.length)
    (hbody : ∀ (cdv : Value) (A : Around) (outer : List Env) (s : Shared) (H : Hp) (vs : List V) (Q : VK) (E : XK), Room k (A.deeper (envOfC qual (defScope st) s.heap.objs.size f cdv)) → sp vs H Q E →
      ∃ t, PSs (cxOf (L2N.CX P w) P w K mg base N qual (defScope st) f cdv A outer s H E) (defBody st) t ∧ t { nx := fun _ H' => Q .non H', rt := Q } (start N vs) H) : FnOk P w K mg base (L2N.CX P w) (k + 1) f fd ps sp := by
  obtain ⟨oc, od, kV, doc, pm, an, cdv, ct, osl, rfl, lk, hcd⟩ := F.ex
  exact fn_of lk hcd S len fun A outer s H vs Q E hr h => hbody cdv A outer s H vs Q E hr h
theorem okKN {p1 nm pv : Str} {sp : V → V → V → Hp → VK → XK → Prop} (F : Fun K x qual st f fd) (S : FnScope N [p1, nm, pv] (defScope st))
    (hb : ∀ (kV doc pm : Value) (an : Option Addr) (cdv ct : Value) (u w' : Value) (rest : List Value), bindArgs (PySem.W.fnOf x qual (defArgs st) (defBody st) (defScope st) .none kV doc pm an cdv ct) ⟨u :: rest, [(nm, w')]⟩ = (newTuple rest >>= fun t => pure [(p1, u), (nm, w'), (pv, t)]))
    (hbody : ∀ (cdv : Value) (A : Around) (outer : List Env) (s : Shared) (H : Hp) (a z it : V) (Q : VK) (E : XK), Room k (A.deeper (envOfC qual (defScope st) s.heap.objs.size f cdv)) → sp a z it H Q E →
      ∃ t, PSs (cxOf (L2N.CX P w) P w K mg base N qual (defScope st) f cdv A outer s H E) (defBody st) t ∧ t { nx := fun _ H' => Q .non H', rt := Q } (start N [a, z, it]) H) :
    FnK P w K mg base (L2N.CX P w) (k + 1) f nm (fun vs z H Q E => ∃ a rest, vs = a :: rest ∧ rest.length ≤ sizeLine ∧ ∀ p, H p = none → sp a z (.ref p) (upd H p (.tup rest)) Q E) := by
  obtain ⟨oc, od, kV, doc, pm, an, cdv, ct, osl, rfl, lk, hcd⟩ := F.ex
  exact fnK_of lk hcd S cxUpN (hb kV doc pm an cdv ct) fun A outer s H a z it Q E hr h => hbody cdv A outer s H a z it Q E hr h
end
end Pg

namespace Pg
open PySem PySem.Spec PyProof.Rows L2 StX GenW

/-! ### for in a generator's body -/
def forPre (target : Expr) (it : Value) (env : Env) : Sem Bool := do
  standAt target.pos
  match ← (pyNext it).onRaise (fun _ => standAt { target.pos with line := 0 }) with
  | none => pure false
  | some v =>
    letOwnedTupleGo target it v
    assign target env v
    pure true
def forPost (target : Expr) (it : Value) (body : List Stmt) (env : Env) (b : Bool) : Sem PySem.Fin :=
  if b = true then execs body env >>= fun f => match f with
    | .next | .cont => again (.forLoop target it body [] env)
    | .brk => pure (.done .next)
    | .ret v => pure (.done (.ret v))
  else again (.block [] env)
theorem forTurn_eq {target : Expr} {it : Value} {body : List Stmt} {env : Env} : forTurn target it body [] env = (forPre target it env >>= forPost target it body env) := by
  unfold forTurn forPre
  simp only [bind_assoc]
  refine congrArg _ (funext fun _ => congrArg _ (funext fun r => ?_))
  cases r with
  | none => simp [forPost]
  | some v =>
    simp only [bind_assoc, pure_bind]
    refine congrArg _ (funext fun _ => congrArg _ (funext fun _ => ?_))
    simp only [forPost, if_true]
    rfl
section
variable {prog : Program} {w : World} {A : Around} {R : GenEnd} {Y : Protocol} {n : Nat} {s₀ : Shared} {fs : List Frame} {s : Shared} {env : Env}
abbrev loopK (target : Expr) (it : Value) (body : List Stmt) (env : Env) : Flow → Sem PySem.Fin := fun f => match f with
  | .next | .cont => .pure (.again (.forLoop target it body [] env))
  | .brk => .pure (.done .next)
  | .ret v => .pure (.done (.ret v))
abbrev loopJ (env : Env) : Value → Sem PySem.Fin := fun e => (do noteFrame e env; theTreesLotGoes e : Sem Unit).wrap (fun _ => .raise e) .raise id id
theorem seg_forLoop {target : Expr} {it : Value} {body : List Stmt}
    (h : wpAny (model prog w) (A.over (.forLoop target it body [] env) fs) (pyNext it) (fun r s1 => match r with
      | none => Seg (model prog w) A R Y n s₀ (.forLoop target it body [] env) (.pure (.again (.block [] env))) fs s1
      | some v => wpAny (model prog w) (A.over (.forLoop target it body [] env) fs) (letOwnedTupleGo target it v) (fun _ s2 => wpAny (model prog w) (A.over (.forLoop target it body [] env) fs) (assign target env v) (fun _ s3 =>
          Seg (model prog w) A R Y n s₀ (.forLoop target it body [] env) ((execs body env).wrap (loopK target it body env) (loopJ env) id id) fs s3)
          (fun x s' => Seg (model prog w) A R Y n s₀ (.forLoop target it body [] env) (loopJ env x) fs s') s2) (fun x s' => Seg (model prog w) A R Y n s₀ (.forLoop target it body [] env) (loopJ env x) fs s') s1)
      (fun x s' => Seg (model prog w) A R Y n s₀ (.forLoop target it body [] env) (loopJ env x) fs s') s) :
    Seg (model prog w) A R Y n s₀ (.forLoop target it body [] env) ((model prog w).den (.forLoop target it body [] env)) fs s := by
  show Seg _ A R Y n s₀ _ ((forTurn target it body [] env).onRaise (fun x => do noteFrame x env; theTreesLotGoes x)) fs s
  rw [forTurn_eq, Sem.onRaise_eq_wrap, Sem.bind_eq_wrap', Sem.wrap_wrap]
  have hJ : ∀ x s', Seg (model prog w) A R Y n s₀ (.forLoop target it body [] env) (loopJ env x) fs s' → Seg (model prog w) A R Y n s₀ (.forLoop target it body [] env) ((do noteFrame x env; theTreesLotGoes x : Sem Unit).bind fun _ => .raise x) fs s' := fun x s' hx => by
    rw [Sem.bind_eq_wrap]
    exact hx
  refine seg_wrap ?_
  unfold forPre
  refine wpAny_bind (wpAny_standAt (wpAny_bind (wpAny_onRaise (wpAny_mono h (fun r s1 h1 => ?_) fun x s' hx => wpAny_standAt ?_))))
  · cases r with
    | none =>
      refine wpAny_pure ?_
      exact h1
    | some v =>
      refine wpAny_bind (wpAny_mono h1 (fun _ s2 h2 => wpAny_bind (wpAny_mono h2 (fun _ s3 h3 => wpAny_pure ?_) fun x s' hx => ?_)) fun x s' hx => ?_)
      · show Seg _ A R Y n s₀ _ (Sem.wrap _ _ _ _ (forPost target it body env true)) fs s3
        unfold forPost
        rw [if_pos rfl, Sem.bind_eq_wrap', Sem.wrap_wrap]
        rw [Sem.wrap_congr (execs body env) _ _ (K' := loopK target it body env) (H' := loopJ env) (fun f => by cases f <;> rfl) (fun e => by first | exact Sem.bind_eq_wrap _ _ | (show (do noteFrame e env; theTreesLotGoes e : Sem Unit).bind (fun _ => .raise e) = _; rw [Sem.bind_eq_wrap]))]
        exact h3
      · exact hJ x s' hx
      · exact hJ x s' hx
  · exact hJ x s' hx
end
/-- for x in e (a tuple that stands still), x in slot i -/
def tGFor (K : PySem.W.Frag) (te : TE) (i : Nat) (tb : TGn) : TGn := fun D ys σ H => te σ H fun x H1 => ∃ (a : Addr) (xs : List V), x = .ref a ∧ ∃ W : Nat → List V → L2.St → Hp → Prop, W 0 ys σ H1 ∧ (∀ j ys σ H, W j ys σ H → SqT K H a xs) ∧
  (∀ j v ys σ H, xs[j]? = some v → W j ys σ H → tb { D with nx := W (j + 1), ct := W (j + 1), bk := D.nx } ys (σ.set i (some v)) H) ∧ (∀ ys σ H, W xs.length ys σ H → D.nx ys σ H)
section
variable {X : Cx} {tg iter : Expr} {body : List Stmt} {pos : Pos} {te : TE} {i : Nat} {tb : TGn}
theorem gi_less {S : Addr} {p : Addr × Obj} {ip : List (Addr × Obj)} {ys : List V} {σ : L2.St} {H : Hp} {s : Shared} (h : GI X S (p :: ip) ys σ H s) : GI X S ip ys σ H s := by
  obtain ⟨acc, c, r, I⟩ := h
  refine ⟨acc, c, r, I.pins_of fun q hq => I.pin q (List.mem_append_right _ ?_)⟩
  rcases List.mem_cons.mp hq with e | e
  · rw [e]; exact List.mem_cons_self
  · exact List.mem_cons_of_mem _ (List.mem_cons_of_mem _ e)
theorem gs_for (hp : PassesOwn (model X.prog X.w) X.A X.env X.xe) (hc : X.calm = true) (he : PE X iter te) (hg : PG X tg (L2.gName i)) (hb : GSs X body tb) (hs : ∀ x, foldedSetIterable iter X.env x = pure x := by intro _; rfl) :
    GS X (.For tg iter body [] pos) (tGFor X.K te i tb) := by
  refine ⟨fun A S ip R n ys s₀ c fs K J gd lv s σ H D g hn k hI ht => ?_⟩
  obtain ⟨acc0, cc0, r0, I0⟩ := hI
  rw [exec_For]
  refine seg_bind_wrap (wpAny_standAt (seg_bind_wrap ?_))
  rw [g.over]
  refine wpAny_mono (he.run _ s σ H _ I0 ht) (fun v s1 hv => ?_) fun x s' hx => k.exc n s₀ x s' hx
  obtain ⟨xv, H1, I1, rx, a, xs, ex, W, w0, wseq, wstep, wend⟩ := hv
  subst ex
  obtain rfl : v = Value.ref a := rx
  refine seg_bind_wrap (wpAny_of_eq (hs _) (seg_bind_wrap (wpAny_standAt (seg_bind_wrap (wpAny_holding ?_)))))
  obtain ⟨its, rv, p, hz⟩ := I1.tuple (wseq _ _ _ _ w0)
  refine wpAny_pyIter_tuple (show s1.heap.IsTuple a its.toArray from p) ?_
  generalize hit : s1.heap.objs.size = it
  generalize hs2 : ({ s1 with heap := s1.heap.push { cls := .type "tuple_iterator", data := .fields #[.ref a, .int 0 0] } } : Shared) = s2
  have I2 : Inv X ((S, lstObj acc0 cc0) :: ip) σ H1 s2 := by
    subst hs2
    exact I1.kept (t' := s1.toks) fun b o e => Heap.get?_push_of_some _ e
  have st2 : s2.heap.IsTupleIter it a 0 := by
    subst hs2 hit
    exact ⟨_, Heap.get?_push_size _ rfl, rfl, rfl⟩
  have f2 : FpOk X ((S, lstObj acc0 cc0) :: ip) H1 it := by
    subst hit
    exact I1.fpOk (Nat.le_refl _) (I1.hok.fresh (Nat.le_refl _))
  have itS : it ≠ S := fun e => f2.2.2.2.2.2 (S, lstObj acc0 cc0) (List.mem_append_right _ List.mem_cons_self) e.symm
  have T := turn_tuple (P := X.prog) (w := X.w) (K := X.K) (tg := tg) a it
  have fo : ∀ (acc : Array Value) (cc : Nat) {H' : Hp}, H' it = none → ∀ b ∈ [it], FpOk X ((S, lstObj acc cc) :: ip) H' b := fun acc cc H' hn b hb => by
    obtain rfl := List.mem_singleton.mp hb
    refine ⟨hn, f2.2.1, f2.2.2.1, f2.2.2.2.1, f2.2.2.2.2.1, fun q hq => ?_⟩
    rcases List.mem_append.mp hq with hq | hq
    · exact f2.2.2.2.2.2 q (List.mem_append_left _ hq)
    · rcases List.mem_cons.mp hq with hq | hq
      · rw [hq]; exact Ne.symm itS
      · exact f2.2.2.2.2.2 q (List.mem_append_right _ (List.mem_cons_of_mem _ hq))
  have gl := fun (p : Pos) (kk : Result → Sem PySem.Fin) => gc_loop (k := kk) (c' := .forLoop tg (.ref it) body [] X.env) (l := lv []) (kp := []) (p := p) g rfl rfl
  refine seg_call (h := none) (g := gd false) (l := lv []) (k := fun r => ((match r with | .ok f => (.pure f : Sem Flow) | .error e => .raise e).onRaise (cameBack X.env)).wrap K J gd lv) fun p => ?_
  have loop : ∀ (m j n : Nat) (ys : List V) (s₀ s : Shared) (σ : L2.St) (H : Hp), j + m = xs.length → n + ys.length = sizeLine → W j ys σ H → GI X S ip ys σ H s → s.heap.IsTupleIter it a j → H it = none →
      Seg (model X.prog X.w) A R (GY X S) n s₀ (.forLoop tg (.ref it) body [] X.env) ((model X.prog X.w).den (.forLoop tg (.ref it) body [] X.env))
        (.ret (fun r => ((match r with | .ok f => (.pure f : Sem Flow) | .error e => .raise e).onRaise (cameBack X.env)).wrap K J gd lv) none (gd false) (lv []) c p [] :: fs) s := by
    intro m
    induction m with
    | zero =>
      intro j n ys s₀ s σ H hj hn w hI st hn0
      obtain ⟨acc, cc, r, I⟩ := hI
      refine seg_forLoop ?_
      rw [(gl _ _).over]
      refine wpAny_mono (T.done X rfl rfl rfl hc j _ s σ H (fun _ _ => False) I (fo acc cc hn0) st ⟨xs, wseq _ _ _ _ w, by omega⟩) (fun r1 s3 ⟨hr, I3⟩ => ?_) fun _ _ z => z.elim
      subst hr
      refine seg_again rfl ?_
      have hjx : j = xs.length := by omega
      subst hjx
      exact seg_leaf (.ok .next) (k.ok n ys s₀ s3 .next hn ⟨σ, H, ⟨acc, cc, r, I3⟩, wend _ _ _ w⟩)
    | succ m ih =>
      intro j n ys s₀ s σ H hj hn w hI st hn0
      obtain ⟨acc, cc, r, I⟩ := hI
      have ee : ∀ (n : Nat) (s₀ : Shared) (x : Value) (s' : Shared), X.xe x s' → Seg (model X.prog X.w) A R (GY X S) n s₀ (.forLoop tg (.ref it) body [] X.env) (loopJ X.env x)
          (.ret (fun r => ((match r with | .ok f => (.pure f : Sem Flow) | .error e => .raise e).onRaise (cameBack X.env)).wrap K J gd lv) none (gd false) (lv []) c p [] :: fs) s' := fun n s₀ x s' hx => by
        refine seg_wrap ?_
        rw [(gl _ _).over]
        refine wpAny_bind (wpAny_mono (hp x s' hx) (fun _ s'' hcb => wpAny_theTreesLotGoes ?_) fun y s'' hcb => ?_)
        · exact seg_leaf (.error x) (seg_cameBack g k hcb)
        · exact seg_leaf (.error y) (seg_cameBack g k hcb)
      refine seg_forLoop ?_
      rw [(gl _ _).over]
      have hlt : j < xs.length := by omega
      refine wpAny_mono (T.item X rfl rfl rfl hc j _ s σ H (fun _ _ => False) I (fo acc cc hn0) st ⟨xs, xs[j], wseq _ _ _ _ w, List.getElem?_eq_getElem hlt⟩) (fun r1 s3 ⟨u, hr, h3⟩ => ?_) fun _ _ z => z.elim
      subst hr
      refine wpAny_mono h3 (fun _ s4 ⟨x, H4, I4, r4, y4, st4, n4⟩ => ?_) fun _ _ z => z.elim
      obtain ⟨rfl, hx⟩ := y4
      have hxj := hx xs (wseq _ _ _ _ w)
      have I4' := I4.pinned (fo acc cc (n4 it (List.mem_singleton.mpr rfl))) (T.obj _ _ st4)
      refine wpAny_mono (hg.run _ s4 σ _ x u (fun σ' H' => σ' = σ.set i (some x) ∧ H' = H4) I4' r4 ⟨rfl, rfl⟩) (fun _ s5 ⟨σ5, H5, I5, e5, e6⟩ => ?_) fun x s' hx => ee n s₀ x s' hx
      subst e5 e6
      obtain ⟨o, ho, hoc⟩ := T.obj _ _ st4 it (List.mem_singleton.mpr rfl)
      have hmo : (it, o) ∈ pinsAt [it] s4.heap := mem_pinsAt (List.mem_singleton.mpr rfl) ho
      have G5 : GI X S ((it, o) :: ip) ys (σ.set i (some x)) H5 s5 := ⟨acc, cc, r, I5.pins_of fun q hq => I5.pin q (List.mem_append_right _ (by
        rcases List.mem_cons.mp hq with e | e
        · rw [e]; exact List.mem_append_left _ List.mem_cons_self
        · rcases List.mem_cons.mp e with e | e
          · rw [e]; exact List.mem_append_right _ hmo
          · exact List.mem_append_left _ (List.mem_cons_of_mem _ e)))⟩
      have st5 : ∀ {s' : Shared}, s'.heap.get? it = some o → s'.heap.IsTupleIter it a (j + 1) := fun {s'} e => T.keep _ _ _ st4 fun b hb o' e' => by
        obtain rfl := List.mem_singleton.mp hb
        rw [ho] at e'
        cases e'
        exact e
      have back : ∀ {ys' : List V} {σ' : L2.St} {H' : Hp} {s' : Shared}, GI X S ((it, o) :: ip) ys' σ' H' s' → s'.heap.get? it = some o ∧ H' it = none := fun {ys' σ' H' s'} G => by
        obtain ⟨acc', cc', r', I'⟩ := G
        have z := I'.pin (it, o) (List.mem_append_right _ (List.mem_cons_of_mem _ List.mem_cons_self))
        exact ⟨z.1, z.2.1⟩
      have g5 : GC X S ((it, o) :: ip) A (.forLoop tg (.ref it) body [] X.env) (.ret (fun r => ((match r with | .ok f => (.pure f : Sem Flow) | .error e => .raise e).onRaise (cameBack X.env)).wrap K J gd lv) none (gd false) (lv []) c p [] :: fs) id :=
        { gl p (fun r => ((match r with | .ok f => (.pure f : Sem Flow) | .error e => .raise e).onRaise (cameBack X.env)).wrap K J gd lv) with ip := fun q hq => (List.mem_cons.mp hq).elim (fun e => by rw [e]; exact itS) fun e => g.ip q e }
      refine hb.run A S ((it, o) :: ip) R n ys s₀ _ _ _ _ id id s5 _ H5 { D with nx := W (j + 1), ct := W (j + 1), bk := D.nx } g5 hn ⟨fun n' ys' s₀' s6 f hn' hs => ?_, fun n' s₀' x s6 hx => ee n' s₀' x s6 hx⟩ G5 (wstep j x ys σ _ hxj w)
      cases f with
      | next =>
        obtain ⟨σ6, H6, G6, q6⟩ := hs
        exact seg_again rfl (ih (j + 1) n' ys' s₀' s6 σ6 H6 (by omega) hn' q6 (gi_less G6) (st5 (back G6).1) (back G6).2)
      | cont =>
        obtain ⟨σ6, H6, G6, q6⟩ := hs
        exact seg_again rfl (ih (j + 1) n' ys' s₀' s6 σ6 H6 (by omega) hn' q6 (gi_less G6) (st5 (back G6).1) (back G6).2)
      | brk =>
        obtain ⟨σ6, H6, G6, q6⟩ := hs
        exact seg_leaf (.ok .next) (k.ok n' ys' s₀' s6 .next hn' ⟨σ6, H6, gi_less G6, q6⟩)
      | ret v =>
        obtain ⟨v6, σ6, H6, G6, r6, q6⟩ := hs
        exact seg_leaf (.ok (.ret v)) (k.ok n' ys' s₀' s6 (.ret v) hn' ⟨v6, σ6, H6, gi_less G6, r6, q6⟩)
  exact loop xs.length 0 n ys s₀ s2 σ H1 (by omega) hn w0 ⟨acc0, cc0, r0, I2⟩ st2 f2.1
end
end Pg

namespace Pg
open PySem PySem.Spec PyProof.Rows L2 StX SlX

/-! ### own len, in, subscripts -/
/-- an own special method -/
structure SpM (K : PySem.W.Frag) (C : Addr) (nm : Str) (g : Addr) : Prop where
  at_ : PySem.W.findIn K (.ref C) nm = some (some (.ref g))
  fn : PySem.W.isFn K (.ref g) = true
  fi : PySem.W.fnIn K g = true
def rLenO (C : Addr) (sp : Sp) (E : XK) : List V → Hp → VK → Prop := fun xs H Q => ∃ a dx fs, xs = [V.ref a] ∧ H a = some (.ins C dx fs) ∧ sp [.ref a] H (fun z H' => ∃ i : Int, z = .int i ∧ 0 ≤ i ∧ i < 2 ^ 63 ∧ Q (.int i) H') E
def rInO (C : Addr) (sp : Sp) (E : XK) : R2 := fun x y H Q => ∃ a dx fs, y = .ref a ∧ H a = some (.ins C dx fs) ∧ sp [.ref a, x] H (fun z H' => ∃ b, z = .bl b ∧ Q (.bl b) H') E
def rIxO (C : Addr) (sp : Sp) (E : XK) : R2 := fun x y H Q => ∃ a dx fs, x = .ref a ∧ H a = some (.ins C dx fs) ∧ sp [.ref a, y] H Q E
def rBoolO (C : Addr) (sp : Sp) (E : XK) : V → Hp → (Bool → Hp → Prop) → Prop := fun x H Q => ∃ a dx fs, x = .ref a ∧ H a = some (.ins C dx fs) ∧ sp [.ref a] H (fun z H' => ∃ i : Int, z = .int i ∧ 0 ≤ i ∧ i < 2 ^ 63 ∧ Q (decide (i ≠ 0)) H') E
section
variable {X : Cx} {CX : CXT} {C g : Addr} {n : Nat} {sp : Sp} {E : XK} {pins : List (Addr × Obj)} {σ : L2.St} {H : Hp} {s : Shared} {a dx : Addr} {fs : List (Str × V)}
theorem ins_at (I : Inv X pins σ H s) (h : H a = some (.ins C dx fs)) : ∃ ox od, PySem.W.InstAt s.heap a ox C od ∧ ox.data = .plain := insC_at (X := X) (C := C) I (.inr ⟨dx, fs, h⟩)
theorem call_lenO (S : SpM X.K C "__len__" g) (F : FnR X.prog X.w X.K X.mg X.base CX n g sp) (hr : Room (n + 1) X.A) (hx : Passes CX X E) : CallR X (.builtin "len") (rLenO C sp E) := by
  intro pins s σ H xs us Q I r h
  obtain ⟨a, dx, fs, rfl, hi, q⟩ := h
  obtain ⟨u, rfl, ru⟩ := r.one
  cases (show u = Value.ref a from ru)
  obtain ⟨ox, od, J, _⟩ := ins_at I hi
  obtain ⟨m, F0⟩ := I.fr
  refine PySem.W.len_K F0 I.ok.mod.kin J S.at_ S.fn (wpAny_mono (wpAny_call (run_at (us := [.ref a]) (ws := [.ref a]) F hr.in1 I.env0.in1 hx I (.cons rfl .nil) q)) (fun w s' z => ?_) fun _ _ x => x)
  obtain ⟨z', H', I', rz, i, ei, h0, h1, qz⟩ := z
  subst ei
  obtain ⟨t, e⟩ := (show ∃ t, w = Value.int i t from rz)
  cases e
  exact ⟨⟨h0, h1⟩, .int i, H', I'.tok _, ⟨_, rfl⟩, qz⟩
theorem in_ownO (S : SpM X.K C "__contains__" g) (F : FnR X.prog X.w X.K X.mg X.base CX n g sp) (hr : Room n X.A) (hx : Passes CX X E) : OpR X (compareOp .In) (rInO C sp E) := by
  intro pins s σ H x y v u Q I rx ry h
  obtain ⟨a, dx, fs, rfl, hi, q⟩ := h
  cases (show u = Value.ref a from ry)
  obtain ⟨ox, od, J, _⟩ := ins_at I hi
  obtain ⟨m, F0⟩ := I.fr
  refine PySem.W.in_K F0 I.ok.mod.kin J S.at_ S.fn (wpAny_mono (wpAny_call (run_at (us := [.ref a, v]) (ws := [.ref a, x]) F hr I.env0 hx I (.cons rfl (.cons rx .nil)) q)) (fun w s' z => ?_) fun _ _ x => x)
  obtain ⟨z', H', I', rz, b, eb, qz⟩ := z
  subst eb
  obtain rfl : w = Value.bool b := rz
  exact wpAny_truthy_bool ⟨.bl b, H', I', rfl, qz⟩
theorem pe_ixO {e b : Expr} {ta tb : TE} {pos : Pos} (S : SpM X.K C "__getitem__" g) (F : FnR X.prog X.w X.K X.mg X.base CX n g sp) (hr : Room (n + 1) X.A) (hx : Passes CX X E) (ha : PE X e ta) (hb : PE X b tb)
    (hs : ∀ o i, subscripted b true o i = runValue (.builtin "lifetime.subscript" ⟨[o, i], []⟩) := by intro _ _; rfl) : PE X (.Subscript e b pos) (tOp (rIxO C sp E) ta tb) := by
  refine ⟨fun pins s σ H Q I h => ?_⟩
  refine Subscript_ (binT ha hb I h fun v u s2 x y H2 I2 rx ry q => ?_)
  obtain ⟨a, dx, fs, rfl, hi, q⟩ := q
  cases (show v = Value.ref a from rx)
  obtain ⟨ox, od, J, _⟩ := ins_at I2 hi
  obtain ⟨m, F0⟩ := I2.fr
  exact PySem.W.sub_K F0 I2.ok.mod.kin J S.at_ S.fi S.fn (wpAny_call (run_at (us := [.ref a, u]) (ws := [.ref a, y]) F hr.in1 I2.env0.in1 hx I2 (.cons rfl (.cons ry .nil)) q)) (hs _ _)
end
end Pg

namespace Pg
open PySem PySem.Spec PyProof.Rows L2 StX

/-! ### an own object in slot 0, read as data -/
section
variable {K : PySem.W.Frag} {H H' : Hp}
theorem dpa_zip {vs : List V} {ds : List PyData} (h : DpAll K H vs ds) : ∀ vd ∈ vs.zip ds, Dp K H vd.1 vd.2 := by
  induction vs generalizing ds with
  | nil => intro vd hm; simp at hm
  | cons v vs ih =>
    intro vd hm
    cases h with
    | cons h t =>
      rw [List.zip_cons_cons, List.mem_cons] at hm
      rcases hm with rfl | hm
      · exact h
      · exact ih t vd hm
theorem zip_dpa : ∀ {vs : List V} {ds : List PyData}, vs.length = ds.length → (∀ vd ∈ vs.zip ds, Dp K H vd.1 vd.2) → DpAll K H vs ds
  | [], [], _, _ => .nil
  | [], _ :: _, e, _ => by simp at e
  | _ :: _, [], e, _ => by simp at e
  | v :: vs, d :: ds, e, h => .cons (h (v, d) (by rw [List.zip_cons_cons]; exact List.mem_cons_self)) (zip_dpa (by simpa using e) fun vd hm => h vd (by rw [List.zip_cons_cons]; exact List.mem_cons_of_mem _ hm))
theorem same_of_ra {x : Addr} {o : HO} (r : RA (some x) H H') (h : H x = some o) (h' : H' x = some o) : Same H H' := fun b q e => by
  by_cases hb : b = x
  · subst hb
    rw [h] at e
    cases e
    exact h'
  · exact r b q (fun z => hb (Option.some.inj z).symm) e
end
/-- a method that reads its object and gives data -/
def spO (K : PySem.W.Frag) (C : Addr) (nms : List Str) (T : List PyData → List PyData → (PyData → Prop) → Prop) : Sp := fun vs H Q _ => ∃ (M : Ms) (x dx : Addr) (us : List V) (uds : List PyData) (vs' : List V) (ds : List PyData) (P : PyData → Prop),
  vs = .ref x :: vs' ∧ M x = true ∧ H x = some (.ins C dx (nms.zip us)) ∧ us.length = nms.length ∧ Live M H ∧ DpAll K (hid M H) us uds ∧ DpAll K (hid M H) vs' ds ∧ T uds ds P ∧ ∀ d, P d → ∀ v H', Same H H' → Dp K (hid M H') v d → Q v H'
section
variable {P : Program} {w : World} {K : PySem.W.Frag} {mg : Str → Option Value} {base : Heap} {x qual : Str} {st : Stmt} {f C : Addr} {fd : FuncData} {N : List Str} {k : Nat} {T : List PyData → List PyData → (PyData → Prop) → Prop} {nms : List Str}
theorem okO {p0 : Str} {ps' : List Str} (F : Fun K x qual st f fd) (S : FnScope N (p0 :: ps') (defScope st)) (own : List Nat) (len : ∀ us ds P, T us ds P → ds.length = ps'.length) (hown : ∀ i ∈ own, ps'.length + 1 ≤ i)
    (hb : ∀ (cdv : Value) (A : Around) (outer : List Env) (s : Shared) (H : Hp) (E : XK) (dx : Addr) (us : List V) (uds : List PyData), us.length = nms.length → uds.length = us.length → Room k (A.deeper (envOfC qual (defScope st) s.heap.objs.size f cdv)) →
      ∃ g, PDSs (cxOf CX0 P w K mg base N qual (defScope st) f cdv A outer s H E).nox (Zs own (.ins C dx (nms.zip us)) (us.zip uds)) (defBody st) g ∧ ∀ ds P, T uds ds P → g { nx := fun _ => P .none, rt := P } (none :: startD (N.drop 1) ds)) :
    FnOk P w K mg base CX0 (k + 1) f fd (p0 :: ps') (spO K C nms T) := by
  refine F.ok S (fun vs H Q E ⟨M, t, dx, us, uds, vs', ds, P, e, _, _, _, _, _, dvs, hT, _⟩ => by rw [e, List.length_cons, List.length_cons, dpa_len dvs, len _ ds P hT]) fun cdv A outer s H vs Q E hr ⟨M, t, dx, us, uds, vs', ds, Pp, ev, hM, hx, hul, lv, dus, dvs, hT, q⟩ => ?_
  subst ev
  obtain ⟨g, h1, h2⟩ := hb cdv A outer s H E dx us uds hul (dpa_len dus).symm hr
  refine ⟨_, h1, ?_⟩
  have hl := len _ ds Pp hT
  have est : L2.start N (.ref t :: vs') = some (.ref t) :: L2.start (N.drop 1) vs' := by
    unfold L2.start
    rw [List.map_cons, List.cons_append, List.length_drop, List.length_cons]
    congr 3
    omega
  have nown : ∀ i d, i ∈ own → (none :: startD (N.drop 1) ds : En)[i]? ≠ some (some d) := fun i d hi e => by
    have hip := hown i hi
    obtain ⟨j, rfl⟩ : ∃ j, i = j + 1 := ⟨i - 1, by omega⟩
    rw [List.getElem?_cons_succ] at e
    unfold startD at e
    rw [List.getElem?_append_right (by rw [List.length_map]; omega), List.getElem?_replicate] at e
    split at e <;> cases e
  have back : ∀ {H' : Hp}, RA (some t) H H' → TapeS (some (.ins C dx (nms.zip us), us.zip uds)) t t H' → Same H H' := fun r z => same_of_ra r hx z.2
  refine ⟨⟨M, H, t, t⟩, M, _, _, ?_, h2 ds Pp hT, ⟨fun ρ' hp M' σ' H' s' I' => ?_, fun d hd v H' r' t' dv _ => ?_, fun _ z => z.elim, fun _ z => z.elim⟩⟩
  · refine ⟨.refl, fun i h => ?_, fun i h => (by show H t ≠ none; rw [hx]; exact fun z => nomatch z), fun _ m => m, lv, lv, ?_, fun i d _ e => ?_, fun i d hi e => absurd e (nown i d hi), fun i p hi e => absurd e (start_own (ps := p0 :: ps') (by rw [List.length_cons]; exact hown i hi) (by rw [List.length_cons, List.length_cons, dpa_len dvs, hl])), fun i j p d e h1 _ _ h4 _ _ => absurd h4 (nown i d h1), fun q vd h1 h2 => ?_⟩
    · cases h
      exact ⟨hM, ⟨rfl, hx⟩, by rw [est]; rfl⟩
    · rw [est, List.length_cons, List.length_cons, start_len dvs]
    · cases i with
      | zero => cases e
      | succ i =>
        rw [List.getElem?_cons_succ] at e
        obtain ⟨v, k1, k2⟩ := start_imm dvs i d e
        exact ⟨v, by rw [est, List.getElem?_cons_succ]; exact k1, k2⟩
    · cases h1
      exact dpa_zip dus vd h2
  · exact q _ hp _ H' (back I'.rel (I'.tap 0 rfl).2.1) .non
  · exact q d hd v H' (back r' (t' 0 rfl)) dv
end
/-! ### readings with such an object, at the kit's level -/
section
variable {K : PySem.W.Frag} {M : Ms} {H H' : Hp} {σ : L2.St} {ρ : En} {x : Addr} {o : HO} {vds : List (V × PyData)}
theorem DEn.edS (lv : Live M H) (h : DEn K (hid M H) σ ρ) (hM : M x = true) (h0 : σ[0]? = some (some (.ref x))) (hx : H x = some o) (hd : ∀ vd ∈ vds, Dp K (hid M H) vd.1 vd.2) : ED K (Zs [] o vds) ⟨M, H, x, x⟩ M σ ρ H :=
  ⟨.refl, fun i z => by cases z; exact ⟨hM, ⟨rfl, hx⟩, h0⟩, fun i z => (by show H x ≠ none; rw [hx]; exact fun z => nomatch z), fun _ m => m, lv, lv, h.len, fun i d _ e => h.at i d e, fun i d z _ => (nomatch z), fun i p z _ => (nomatch z), fun i j p d e z _ _ _ _ _ => (nomatch z), fun q vd h1 h2 => by cases h1; exact hd vd h2⟩
theorem rdES (lv : Live M H) (h : DEn K (hid M H) σ ρ) (hM : M x = true) (h0 : σ[0]? = some (some (.ref x))) (hx : H x = some o) (hd : ∀ vd ∈ vds, Dp K (hid M H) vd.1 vd.2) {g : DE} {P : PyData → Prop} {Q : VK} (hg : g ρ P) (k : ∀ d, P d → ∀ v H', Same H H' → Dp K (hid M H') v d → Q v H') : tG K (Zs [] o vds) g σ H Q :=
  ⟨_, _, ρ, P, h.edS lv hM h0 hx hd, hg, fun d hd v H' r E dv => k d hd v H' (same_of_ra r hx (E.tap 0 rfl).2.1.2) dv⟩
theorem rdBS (lv : Live M H) (h : DEn K (hid M H) σ ρ) (hM : M x = true) (h0 : σ[0]? = some (some (.ref x))) (hx : H x = some o) (hd : ∀ vd ∈ vds, Dp K (hid M H) vd.1 vd.2) {g : DB} {P : Bool → Prop} {Q : Bool → Hp → Prop} (hg : g ρ P) (k : ∀ b, P b → ∀ H', Same H H' → Q b H') : tGB K (Zs [] o vds) g σ H Q :=
  ⟨_, _, ρ, P, h.edS lv hM h0 hx hd, hg, fun b hb H' r E => k b hb H' (same_of_ra r hx (E.tap 0 rfl).2.1.2)⟩
end
/-! ### rules -/
section
variable {X : Cx} {Z : Sg} {C dx p g : Addr} {nms : List Str} {us : List V} {uds : List PyData} {f x : Str} {q pos : Pos} {k j : Nat} {T : List PyData → List PyData → (PyData → Prop) → Prop}
/-- self.f -/
theorem de_fld (i : Nat) {ps : List (V × PyData)} {fs : List (Str × V)} {v : V} {d : PyData} (hso : Z.so = some (.ins C dx fs, ps)) (htp : Z.tp = some 0) (hc : Cls X.K C) (hn : NoAttr X.K C f) (hl : fs.lookup f = some v) (hm : (v, d) ∈ ps) (hN : X.N[0]? = some x := by rfl)
    (hv : Vis X.env.scope x := by first | exact Or.inl rfl | exact Or.inr (Or.inl rfl) | exact Or.inr (Or.inr rfl)) (hd : (x == ("__debug__" : Str)) = false := by decide) (hcd : (x == ("__classdict__" : Str)) = false := by decide)
    (hb : attributeBase (.Name x q) f X.env (eval (.Name x q) X.env) = eval (.Name x q) X.env := by rfl) : PD X Z (.Attribute (.Name x q) f pos) (gC d) :=
  pe_wk (pe_fld (pe_var hN hv hd hcd) hb) fun σ H Q ⟨Ct, M, ρ, P, E, hp, k⟩ => by
    obtain ⟨h1, h2, h3⟩ := E.tap 0 htp
    rw [hso] at h2
    exact ⟨.ref Ct.t, h3, Ct.t, C, dx, fs, v, rfl, h2.2, hc, hn, hl, k _ hp _ H .refl E (dp_mono (hid_sub (E.sv _)) (E.sd _ _ hso hm))⟩
theorem spO_at {Ct : Ct} {M : Ms} {σ : L2.St} {ρ : En} {H : Hp} {Q : VK} {vs : List V} {ds : List PyData} {P : PyData → Prop} {K : PySem.W.Frag} {E0' : XK} (E : ED K Z Ct M σ ρ H) (hso : Z.so = some (.ins C dx (nms.zip us), us.zip uds)) (htp : Z.tp = some 0) (h1 : us.length = nms.length) (h2 : uds.length = us.length)
    (dvs : DpAll K (hid (vw Z.lx Ct M) H) vs ds) (hT : T uds ds P) (q : ∀ d, P d → ∀ v H', Same H H' → Dp K (hid (vw Z.lx Ct M) H') v d → Q v H') : spO K C nms T (.ref Ct.t :: vs) H Q E0' := by
  obtain ⟨t1, t2, t3⟩ := E.tap 0 htp
  rw [hso] at t2
  exact ⟨vw Z.lx Ct M, Ct.t, dx, us, uds, vs, ds, P, rfl, E.v0 _ _ t1, t2.2, h1, E.lv _, zip_dpa h2.symm fun vd hm => dp_mono (hid_sub (E.sv _)) (E.sd _ _ hso hm), dvs, hT, q⟩
/-- self.f, f a property -/
theorem de_sprop {fd : FuncData} (hso : Z.so = some (.ins C dx (nms.zip us), us.zip uds)) (htp : Z.tp = some 0) (h1 : us.length = nms.length) (h2 : uds.length = us.length) (hc : Cls X.K C) (hp : PropOf X.K C f p g) (F : FnOk X.prog X.w X.K X.mg X.base CX0 k g fd ["self"] (spO X.K C nms T)) (hr : Room j X.A) (hb : Binds X.K fd ["self"] [])
    (hk : k + 1 ≤ j := by first | decide | omega) (hN : X.N[0]? = some x := by rfl) (hv : Vis X.env.scope x := by first | exact Or.inl rfl | exact Or.inr (Or.inl rfl) | exact Or.inr (Or.inr rfl)) (hd : (x == ("__debug__" : Str)) = false := by decide) (hcd : (x == ("__classdict__" : Str)) = false := by decide)
    (hab : attributeBase (.Name x q) f X.env (eval (.Name x q) X.env) = eval (.Name x q) X.env := by rfl) : PD X Z (.Attribute (.Name x q) f pos) (fun _ P => T uds [] P) :=
  pe_wk (pe_prop (pe_var hN hv hd hcd) hc hp F (hr.mono hk) hb .nil pass0 hab) fun σ H Q ⟨Ct, M, ρ, P, E, hg, k⟩ => by
    obtain ⟨t1, t2, t3⟩ := E.tap 0 htp
    rw [hso] at t2
    exact ⟨.ref Ct.t, t3, Ct.t, dx, _, rfl, t2.2, spO_at E hso htp h1 h2 .nil hg fun d hd v H' s' dv => k d hd v H' (.of s') (E.same s') dv⟩
end
end Pg

namespace Pg
open PySem PySem.Spec PyProof.Rows L2 StX SlX Builtin Builtin.Str Builtin.Int Builtin.Float

/-! ### f'{i:4}' -/
theorem gives_fmt4 {a : Int} {t u : Tok} (hd : a.natAbs.log2 < 1920) (hs : (intSpecTextOf ("4" : Str) a).length ≤ sizeLine) : Gives («int.__format__» ⟨[.int a t, .str ("4" : Str) u], []⟩) (.str (intSpecTextOf ("4" : Str) a)) := by
  intro prog w A R s hq
  unfold «int.__format__»
  have hok : intSpecOk ("4" : Str) = true := by decide +kernel
  unfold intSpecOk at hok
  cases hps : parseFormatSpec ("4" : Str).cps.toList "int" 62 with
  | error m => rw [hps] at hok; simp at hok
  | ok f =>
  rw [hps] at hok
  simp only [Bool.and_eq_true] at hok
  obtain ⟨⟨hne, hasc⟩, hg⟩ := hok
  simp only [Bool.not_eq_true'] at hne hasc
  unfold intSpecGood at hg
  simp only [Bool.and_eq_true] at hg
  obtain ⟨⟨⟨⟨⟨⟨hty, hpr⟩, hz⟩, hal⟩, hw⟩, hgr⟩, hsg⟩ := hg
  replace hty := beq_iff_eq.mp hty
  replace hpr := Option.isNone_iff_eq_none.mp hpr
  replace hz : f.noNeg0 = false := by simpa using hz
  replace hal : f.alt = false := by simpa using hal
  replace hw : f.width.getD 0 ≤ 100000 := by simpa using hw
  replace hgr := Option.isNone_iff_eq_none.mp hgr
  replace hsg := Option.isNone_iff_eq_none.mp hsg
  have htx : intSpecTextOf ("4" : Str) a = intSpecText f a := by unfold intSpecTextOf; rw [hps]
  rw [htx] at hq hs
  simp only [selfAndOne, noKeywords, Int.intOfSelf, asInt?, asStr?, List.isEmpty_nil, if_true, pure_bind, bind_pure, bind_assoc, hne, hasc, Bool.false_eq_true, if_false,
    show (Value.str ("4" : Str) u == Value.none) = false from rfl]
  refine wpAny_bind (wpAny_typeNameOf (T := "str") (typeIs_str _ _ _) (by decide) fun _ => ?_)
  refine wpAny_bind (wpAny_typeNameOfCut_int ?_)
  simp only [hps, hty]
  rw [if_pos (by decide)]
  show wpAny _ _ (if _ then _ else _) _ _ _
  rw [if_neg (by simp [hpr])]
  show wpAny _ _ (if _ then _ else _) _ _ _
  rw [if_neg (by simp [hz])]
  show wpAny _ _ (if _ then _ else _) _ _ _
  rw [if_neg (by decide)]
  show wpAny _ _ (do let r ← Builtin.overDigitLimit? a; _) _ _ _
  rw [PySem.overDigitLimit_small hd]
  refine wpAny_bind (wpAny_pure ?_)
  show wpAny _ _ (if _ then _ else _) _ _ _
  rw [if_neg (by simpa using (show ¬ (f.width.getD 0 > 100000) by omega))]
  show wpAny _ _ (retStr _) _ _ _
  unfold retStr
  obtain ⟨hq1, hq⟩ := hq
  refine wpAny_bind (wpAny_mkStr (wpAny_pure ?_) ?hs2)
  case hs2 =>
    simp only [hal, Bool.false_eq_true, if_false, show ((10 : Nat) == 10) = true by decide, if_true]
    conv => lhs; arg 1; whnf
    simp only [intSpecText, intField', hgr, hsg, hal, Bool.false_eq_true, if_false, show ((10 : Nat) == 10) = true by decide, if_true] at hs ⊢
    exact hs
  dsimp only
  simp only [hal, Bool.false_eq_true, if_false, show ((10 : Nat) == 10) = true by decide, if_true]
  conv => arg 1; arg 1; arg 1; arg 1; whnf
  simp only [intSpecText, intField', hgr, hsg, hal, Bool.false_eq_true, if_false, show ((10 : Nat) == 10) = true by decide, if_true] at hq ⊢
  exact hq
/-- a number in a tuple of numbers -/
@[simp] def oInTI : PyData → PyData → (PyData → Prop) → Prop := fun x y P => ∃ (i : Int) (l : List Int), x = .int i ∧ y = .tuple (l.map .int) ∧ P (.bool (decide (i ∈ l)))
theorem inV_int (i : Int) : ∀ l : List Int, inV (.int i) (l.map V.int) = decide (i ∈ l)
  | [] => by simp [inV]
  | a :: l => by
    have ih := inV_int i l
    unfold inV at ih ⊢
    rw [List.map_cons, List.any_cons, ih]
    by_cases e : i = a
    · subst e
      simp [eqV]
    · have e2 : ¬ a = i := fun z => e z.symm
      simp [eqV, e, e2]
theorem all_flat (l : List Int) : (l.map V.int).all flatV = true := by
  induction l with
  | nil => rfl
  | cons a l ih => rw [List.map_cons, List.all_cons, ih]; rfl
theorem o2_InTI {K : PySem.W.Frag} : Op2 K (rIn K false) oInTI := fun M H v w x y P Q _ d1 d2 ⟨i, l, e1, e2, hp⟩ k => by
  subst e1 e2
  cases dp_int d1
  obtain ⟨a, xs, rfl, h1, h2⟩ := dp_tuple d2
  have e := dpa_ints h2
  subst e
  exact ⟨a, _, rfl, .inr (same_sqT (hid_le M H) h1), rfl, all_flat l, k _ (by rw [if_neg (by decide), inV_int]; exact hp) _ H (Same.refl _) (.bl _)⟩
section
variable {X : Cx} {Z : Sg} {a b : Expr} {ga gb : DE} {pos : Pos}
theorem de_inTI (hr : True) (ha : PD X Z a ga) (hb : PD X Z b gb) (hm : behindInMarks .In b = false := by rfl) : PD X Z (.Compare a [.In] [b] pos) (g2 oInTI ga gb) := de_cmp op_in_seq o2_InTI ha hb hm
theorem db_inTI (hr : True) (ha : PD X Z a ga) (hb : PD X Z b gb) (hm : behindInMarks .In b = false := by rfl) : PDB X Z (.Compare a [.In] [b] pos) (gT (g2 oInTI ga gb)) := db_cmp op_in_seq o2_InTI ha hb hm
/-! ### f'{i:4}', as a reading -/
def tFmt4 (te : TE) : TE := fun σ H Q => te σ H fun x H1 => ∃ i : Int, x = .int i ∧ i.natAbs.log2 < 1920 ∧ (intSpecTextOf ("4" : Str) i).length ≤ sizeLine ∧ Q (.str (intSpecTextOf ("4" : Str) i)) H1
theorem pe_fmt4 {e s : Expr} {te : TE} (he : PE X e te) (hs : PE X s (tC (.str "4"))) : PE X (.FormattedValue e (-1) (some s) pos) (tFmt4 te) := by
  refine ⟨fun pins st σ H Q I h => ?_⟩
  refine wpAny_FormattedValue_spec (thn (he.run pins st σ H _ I h) fun v s1 hv => ?_)
  obtain ⟨x, H1, I1, r1, i, rfl, h1, h2, q⟩ := hv
  obtain ⟨t, rfl⟩ := r1
  refine thn (hs.run pins s1 σ H1 (fun v H2 => v = .str "4" ∧ H2 = H1) I1 ⟨rfl, rfl⟩) fun r s2 hv => ?_
  obtain ⟨y, H2, I2, r2, e1, e2⟩ := hv
  subst e1 e2
  obtain ⟨u, rfl⟩ := r2
  refine ⟨("4" : Str), u, rfl, wpAny_formatField_spec (by decide +kernel) (fun s' => typeIs_int s' i t) F.slot_int_format F.entry_int_format F.args_int_format_2 (fun _ => gives_fmt4 h1 h2) ?_ (by decide +kernel) h2⟩
  exact ⟨V.str (intSpecTextOf ("4" : Str) i), H2, I2.tok _, ⟨_, rfl⟩, q⟩
@[simp] def oFmt4 : PyData → (PyData → Prop) → Prop := fun x P => ∃ i : Int, x = .int i ∧ i.natAbs.log2 < 1920 ∧ (intSpecTextOf ("4" : Str) i).length ≤ sizeLine ∧ P (.str (intSpecTextOf ("4" : Str) i))
theorem de_fmt4 {e s : Expr} {ge : DE} (he : PD X Z e ge) (hs : PE X s (tC (.str "4"))) : PD X Z (.FormattedValue e (-1) (some s) pos) (g1 oFmt4 ge) := pe_wk (pe_fmt4 he hs) fun σ H Q ⟨C, M, ρ, P, E, hg, k⟩ =>
  ⟨C, M, ρ, _, E, hg, fun d ⟨i, e, h1, h2, hp⟩ v H1 r1 E1 dv => by
    subst e
    cases dp_int dv
    exact ⟨i, rfl, h1, h2, k _ hp _ H1 r1 E1 (.str _)⟩⟩
end
/-- a reading that fits whatever comes -/
theorem pe_ex {α : Type} {X : Cx} {e : Expr} {t : α → TE} (h : ∀ a, PE X e (t a)) : PE X e (fun σ H Q => ∃ a, t a σ H Q) := ⟨fun pins s σ H Q I ⟨a, q⟩ => (h a).run pins s σ H Q I q⟩
theorem pt_ex {α : Type} {X : Cx} {e : Expr} {t : α → TT} (h : ∀ a, PT X e (t a)) : PT X e (fun σ H Q => ∃ a, t a σ H Q) := ⟨fun pins s σ H Q I ⟨a, q⟩ => (h a).run pins s σ H Q I q⟩
theorem pss_ex {α : Type} {X : Cx} {e : List Stmt} {t : α → TS} (h : ∀ a, PSs X e (t a)) : PSs X e (fun D σ H => ∃ a, t a D σ H) := ⟨fun pins s σ H D I ⟨a, q⟩ => (h a).run pins s σ H D I q⟩
section
variable {X : Cx} {Z : Sg} {C dx : Addr} {f x : Str} {q pos : Pos} {fs : List (Str × V)} {ps : List (V × PyData)} {i : Int} {u : Value}
/-- self.f, a number of the class -/
theorem de_scon (hso : Z.so = some (.ins C dx fs, ps)) (htp : Z.tp = some 0) (hc : Cls X.K C) (hk : Con X.K C f (.int i) u) (hl : fs.lookup f = none) (hN : X.N[0]? = some x := by rfl)
    (hv : Vis X.env.scope x := by first | exact Or.inl rfl | exact Or.inr (Or.inl rfl) | exact Or.inr (Or.inr rfl)) (hd : (x == ("__debug__" : Str)) = false := by decide) (hcd : (x == ("__classdict__" : Str)) = false := by decide)
    (hb : attributeBase (.Name x q) f X.env (eval (.Name x q) X.env) = eval (.Name x q) X.env := by rfl) : PD X Z (.Attribute (.Name x q) f pos) (gC (.int i)) :=
  pe_wk (pe_con (pe_var hN hv hd hcd) hb) fun σ H Q ⟨Ct, M, ρ, P, E, hp, k⟩ => by
    obtain ⟨h1, h2, h3⟩ := E.tap 0 htp
    rw [hso] at h2
    exact ⟨.ref Ct.t, h3, Ct.t, C, dx, fs, .int i, u, rfl, h2.2, hc, hk, hl, k _ hp _ H .refl E (.int i)⟩
end
end Pg

namespace Pg
open PySem PySem.Spec PyProof.Rows L2 StX

/-! ### a def with a star and one parameter behind it that is left to its default -/
def KwTail {α : Type} (D : Addr) (nm : Str) (z : Value) (t t' : Sem α) : Prop := ∃ (β γ : Type) (k1 : Option Value → Sem β) (k2 : β → Sem γ) (k3 : γ → Sem α) (a : β), t = ((nsGet D nm >>= k1) >>= k2) >>= k3 ∧ k1 (some z) = pure a ∧ (k2 a >>= k3) = t'
theorem KwTail.run {α : Type} {K : PySem.W.Frag} {M : Model} {A : Around} {Q : α → Shared → Prop} {E : Value → Shared → Prop} {s : Shared} {D : Addr} {nm : Str} {z : Value} {t t' : Sem α} (X : K.In s.heap) (hd : PySem.W.nsIn K D nm = some (some z)) (h : KwTail D nm z t t')
    (q : wpAny M A t' Q E s) : wpAny M A t Q E s := by
  obtain ⟨β, γ, k1, k2, k3, a, e1, e2, e3⟩ := h
  have l1 : PySem.W.Looks M s.heap (nsGet D nm >>= k1) a := (PySem.W.looks_nsIn X hd).andThen (PySem.W.Looks.of_pure e2)
  rw [e1, bind_assoc]
  refine wpAny_bind (l1.here ?_)
  rw [e3]
  exact q
section
variable {CX : CXT} {P : Program} {w : World} {K : PySem.W.Frag} {mg : Str → Option Value} {base : Heap} {k : Nat} {f D : Addr} {name qual : Str} {params : Arguments} {body : List Stmt} {scope : Scope} {dV doc pm cdv ct oc zv : Value} {an od : Option Addr}
  {osl : Array (Option Value)} {N : List Str} {p1 nm pv : Str} {sp : V → V → V → Hp → VK → XK → Prop} {z : V}
theorem fnR_of0 (lk : K.lookup f = some ⟨oc, od, .func (PySem.W.fnOf name qual params body scope dV (.ref D) doc pm an cdv ct), osl⟩) (hcd : PySem.W.codeIn K cdv qual = true) (S : FnScope N [p1, nm, pv] scope) (hC : CXUp CX) (hd : PySem.W.nsIn K D nm = some (some zv)) (rz : RelV z zv)
    (hb : ∀ (u : Value) (rest : List Value), KwTail D nm zv (bindArgs (PySem.W.fnOf name qual params body scope dV (.ref D) doc pm an cdv ct) ⟨u :: rest, []⟩) (newTuple rest >>= fun t => pure [(p1, u), (nm, zv), (pv, t)]))
    (hbody : ∀ (A : Around) (outer : List Env) (s : Shared) (H : Hp) (a z it : V) (Q : VK) (E : XK), Room k (A.deeper (envOfC qual scope s.heap.objs.size f cdv)) → sp a z it H Q E →
      ∃ t, PSs (cxOf CX P w K mg base N qual scope f cdv A outer s H E) body t ∧ t { nx := fun _ H' => Q .non H', rt := Q } (start N [a, z, it]) H) :
    FnR P w K mg base CX (k + 1) f (fun vs H Q E => ∃ a rest, vs = a :: rest ∧ rest.length ≤ sizeLine ∧ ∀ p, H p = none → sp a z (.ref p) (upd H p (.tup rest)) Q E) := by
  intro A outer s H us vs Q E hr e0 r hsp
  obtain ⟨a, rest, ev, hz, hq⟩ := hsp
  subst ev
  have KX : K.In s.heap := e0.mod.kin.keeps fun b o e => (e0.bs b o e).1
  cases r with
  | @cons _ u _ us' ra rr =>
    have hn : H s.heap.objs.size = none := e0.hok.fresh (Nat.le_refl _)
    refine run_bnd lk hcd S hr e0 (G := fun xs H2 => ∃ p, H p = none ∧ xs = [a, z, V.ref p] ∧ H2 = upd H p (.tup rest)) (fun A' Ex Q' h => ?_) fun s2 H2 xs ⟨p, hp, ex, eH⟩ hr' => ?_
    · refine (hb u us').run KX hd ?_
      refine wpAny_bind (wpAny_newTuple (wpAny_pure ?_) (by rw [← rr.length]; exact hz))
      have new : ObjOk P w (upd H s.heap.objs.size (.tup rest)) (s.heap.push ({ cls := .type "tuple", data := .seq us'.toArray } : Obj)) s.heap.objs.size (.tup rest) := ⟨hz, us', rr, ⟨_, Heap.get?_push_size _ rfl, rfl, _, rfl⟩⟩
      exact h _ _ [a, z, V.ref s.heap.objs.size] [u, zv, Value.ref s.heap.objs.size] (env0_laid e0 new) (un_laid hn) rfl (fun e s' => hC outer s H _ _ E e s' (un_laid (u := .tup rest) hn) (fun b o q => Heap.get?_push_of_some _ q) rfl) (.cons ra (.cons rz (.cons rfl .nil))) rfl ⟨_, hn, rfl, rfl⟩
    · subst ex eH
      exact hbody A outer s2 _ a z (.ref p) Q E hr' (hq p hp)
end
/-! ### readings in any slots, no object, no tape -/
section
variable {K : PySem.W.Frag} {M : Ms} {H H' : Hp} {σ : L2.St} {ρ : En}
theorem ed_any (lv : Live M H) (hl : σ.length = ρ.length) (h : ∀ (i : Nat) (d : PyData), ρ[i]? = some (some d) → ∃ v, σ[i]? = some (some v) ∧ Dp K (hid M H) v d) : ED K Zp ⟨M, H, 0, 0⟩ M σ ρ H :=
  ⟨.refl, fun i z => (nomatch z), fun i z => (nomatch z), fun _ m => m, lv, lv, hl, fun i d _ e => h i d e, fun i d z _ => (nomatch z), fun i p z _ => (nomatch z), fun i j p d e z _ _ _ _ _ => (nomatch z), fun q vd z => (nomatch z)⟩
theorem rdG (lv : Live M H) (hl : σ.length = ρ.length) (h : ∀ (i : Nat) (d : PyData), ρ[i]? = some (some d) → ∃ v, σ[i]? = some (some v) ∧ Dp K (hid M H) v d) {g : DE} {P : PyData → Prop} {Q : VK} (hg : g ρ P) (k : ∀ d, P d → ∀ v H', Same H H' → Dp K (hid M H') v d → Q v H') : tG K Zp g σ H Q :=
  ⟨_, _, ρ, P, ed_any lv hl h, hg, fun d hd v H' r _ dv => k d hd v H' r.same dv⟩
theorem rdGA (lv : Live M H) (hl : σ.length = ρ.length) (h : ∀ (i : Nat) (d : PyData), ρ[i]? = some (some d) → ∃ v, σ[i]? = some (some v) ∧ Dp K (hid M H) v d) {g : DA} {P : List PyData → Prop} {Q : List V → Hp → Prop} (hg : g ρ P) (k : ∀ ds, P ds → ∀ vs H', Same H H' → DpAll K (hid M H') vs ds → Q vs H') : tGA K Zp g σ H Q :=
  ⟨_, _, ρ, P, ed_any lv hl h, hg, fun ds hd vs H' r _ dv => k ds hd vs H' r.same dv⟩
end
theorem passF {X : Cx} : Passes (L2N.CX X.prog X.w) X (fun _ _ _ => False) := fun pins σ H s e s' I ⟨_, _, _, _, _, _, _, _, _, _, _, _, h⟩ => h.elim
theorem passG {X : Cx} : Passes (L2.CX X.prog X.w) X (fun _ _ _ => False) := fun pins σ H s e s' I ⟨_, _, _, _, _, _, _, _, _, _, _, _, h⟩ => h.elim
/-! ### C(*e, nm = b), C a class of the module -/
def tMkS (K : PySem.W.Frag) (C : Addr) (sp : List V → V → Hp → VK → XK → Prop) (E : XK) (te : TE) (tz : TA) : TE := fun σ H Q => te σ H fun y H1 => ∃ a xs, y = V.ref a ∧ tz σ H1 fun zs H2 => (SqT K H2 a xs ∨ SqL K H2 a xs) ∧ ∃ z, zs = [z] ∧
  ∀ x dx, H2 x = none → H2 dx = none → dx ≠ x → sp (.ref x :: xs) z (upd (upd H2 dx (.own x)) x (.ins C dx [])) (fun v H3 => v = .non ∧ Q (.ref x) H3) E
section
variable {X : Cx} {CX : CXT} {k : Nat} {f C : Addr} {nm x : Str} {sp : List V → V → Hp → VK → XK → Prop} {E : XK} {p sp_ pos kp : Pos} {e b : Expr} {te : TE} {tz : TA}
theorem pe_mkS (M : Mk X.K C f) (F : FnK X.prog X.w X.K X.mg X.base CX k f nm sp) (hr : Room (k + 1) X.A) (hm : X.mg x = some (.ref C)) (hx : Passes CX X E) (he : PE X e te) (hk : PK X [⟨some nm, b, kp⟩] tz) (hg : Gl X x := by rfl) (hdb : (x == ("__debug__" : Str)) = false := by decide)
    (hall : (backToKw pos (keywordEach [⟨some nm, b, kp⟩] X.env)).all (·.1.isSome) = true := by rfl) (hks : (backToKw pos (keywordEach [⟨some nm, b, kp⟩] X.env)).filterMap (·.1) = [nm] := by rfl)
    (hst : starEach [.Starred e sp_] X.env = [(true, eval e X.env)] := by rfl) :
    PE X (.Call (.Name x p) [.Starred e sp_] [⟨some nm, b, kp⟩] pos) (tMkS X.K C sp E te tz) := by
  refine ⟨fun pins s σ H Q I h => ?_⟩
  refine wpAny_Call_Name_kw (ld_glob I hg hm ?_ hdb)
  rw [hst]
  refine callWith_any (R := fun h => X.K.In h) (by rfl) (PySem.W.keeps_K M.kp) (args_SK hall (thn (he.run pins s σ H _ I h) fun u2 s2 ⟨y, H2, I2, ry, a, xs, ey, hz⟩ => ?_))
  subst ey
  obtain rfl : u2 = Value.ref a := ry
  refine thn (hk.run pos pins s2 σ H2 _ I2 hz) fun ws s3 ⟨zs, H3, I3, rz, hxs, z, ez, q⟩ => ?_
  subst ez
  rw [hks]
  cases rz with
  | cons rz r0 =>
    cases r0
    exact star_any I3 hxs fun us s4 I4 rv => ⟨I4.kIn, run_mkK M F hr hx I4 rv rz q⟩
end
end Pg

namespace Pg
open PySem PySem.Spec PyProof.Rows L2 StX SlX

/-! ### truth by an own len, bool(o), != by an own == -/
section
variable {prog : Program} {w : World} {A : Around} {E : Value → Shared → Prop} {s : Shared} {K : PySem.W.Frag} {x C f : Addr} {ox : Obj} {od : Option Obj}
theorem truthy_lenO {Q : Bool → Shared → Prop} (X : K.In s.heap) (I : PySem.W.InstAt s.heap x ox C od) (hb : PySem.W.findIn K (.ref C) "__bool__" = some none) (hs : PySem.W.findIn K (.ref C) "__len__" = some (some (.ref f))) (hf : PySem.W.isFn K (.ref f) = true)
    (h : wpAny (model prog w) A.in1 (call (.ref f) [.ref x]) (fun v s' => ∃ n t, v = Value.int n t ∧ 0 ≤ n ∧ n < 2 ^ 63 ∧ Q (n != 0) { s' with toks := s'.toks + 1 }) E s) : wpAny (model prog w) A (truthy (.ref x)) Q E s := by
  unfold truthy
  refine wpAny_bind (m := callSpecial? (.ref x) (Str.ofString "__bool__")) (wpAny_bind (wpAny_bind (I.type.here ((PySem.W.looks_findIn X hb).here (wpAny_pure ?_)))))
  refine wpAny_bind (wpAny_bind (I.type.here ((PySem.W.looks_findIn X hs).here ?_)))
  show wpAny _ _ (if (some (Value.ref f)).isNone = true then _ else _) _ _ _
  rw [if_neg (by simp)]
  refine wpAny_bind (wpAny_runValue (codeAny_builtin entry_len ?_))
  unfold Builtin.«len»
  refine wpAny_bind (m := oneArg "len" _) (wpAny_pure ?_)
  refine wpAny_bind (m := callSpecial? (.ref x) (Str.ofString "__len__")) (PySem.W.special_fn X I hs (beq_iff_eq.mp hf) (wpAny_mono h (fun r s' hr => ?_) fun _ _ y => y))
  obtain ⟨n, u, rfl, h0, h1, hq⟩ := hr
  refine wpAny_bind (wpAny_holding (wpAny_pure ?_))
  refine wpAny_bind (wpAny_letGo ?_)
  show wpAny _ _ (if n < 0 then _ else _) _ _ _
  rw [if_neg (by omega)]
  show wpAny _ _ (if n ≥ 2 ^ 63 then _ else _) _ _ _
  rw [if_neg (by omega)]
  refine wpAny_bind (wpAny_mkInt (wpAny_pure ?_))
  exact wpAny_pure hq
theorem bool_own {Q : Value → Shared → Prop} (h : wpAny (model prog w) A.in1.in1 (truthy (.ref x)) (fun b s' => Q (.bool b) s') E s) : wpAny (model prog w) A (call (.type "bool") [.ref x]) Q E s := by
  refine callType_codes (T := "bool") (Bi := Builtin.«object.__init__») (Q₁ := fun r s₁ => ∃ b, r = Value.bool b ∧ Q r s₁) PySem.F.called_bool (PySem.F.typeCall_bool_1 _) PySem.F.entry_object_init ?_ ?_
  · refine codeAny_of_tree ?_
    show wpAny _ A.in1.in1 (do checkBuiltinCall "bool.__new__" ⟨[.type "bool", .ref x], []⟩; again (.builtin "bool.__new__" ⟨[.type "bool", .ref x], []⟩)) _ _ s
    refine wpAny_bind (wpAny_of_eq (PySem.F.newCall_bool_1 _) (wpAny_pure ⟨plainId_quiet (by decide +kernel) _, codeAny_builtin PySem.F.entry_bool_new ?_⟩))
    rw [Around.under_plainId (by decide +kernel) _]
    unfold Builtin.«bool.__new__»
    refine wpAny_bind (wpAny_of_eq (a := true) (by rfl) ?_)
    refine PySem.W.KFB.if_not rfl ?_
    refine wpAny_bind (wpAny_of_eq (a := true) PySem.F.conv_sub_bool ?_)
    refine PySem.W.KFB.if_not rfl ?_
    refine wpAny_bind (wpAny_of_eq (a := [.ref x]) (by rfl) ?_)
    exact wpAny_bind (wpAny_mono h (fun b s' hq => wpAny_pure ⟨b, rfl, hq⟩) fun _ _ y => y)
  · rintro obj s₁ ⟨b, rfl, hq⟩
    exact ⟨PySem.typeIs_bool _ _, PySem.F.args_object_init_2 _ _, object_init_meets PySem.F.called_bool.init.lookup PySem.F.called_bool.made (by decide) prog w A.in1 _ s₁ ⟨PySem.typeIs_bool _ _, rfl, hq⟩⟩
theorem ifBound_slot {M : Model} {T : String} {name : Str} {id : String} {args : List Value} {Q : Option Value → Shared → Prop} (X : K.In s.heap) (I : PySem.W.InstAt s.heap x ox C od) (hs : PySem.W.findIn K (.ref C) name = some (some (.builtin id))) (S : Slot T name id)
    (hcall : wpAny M A (call (.builtin id) (.ref x :: args)) (fun v => Q (some v)) E s) : wpAny M A (callSpecialIfBound? (.ref x) name args) Q E s := by
  simp only [callSpecialIfBound?, bindSpecialIfBound?]
  refine wpAny_holding (wpAny_bind (wpAny_bind (wpAny_bind (I.type.here ((PySem.W.looks_findIn X hs).here ?_)))))
  simp only [S.bind]
  refine wpAny_bind (wpAny_askSetting (wpAny_ite ?_))
  have fin : wpAny M A (call (.builtin id) ([.ref x] ++ args) >>= fun v => pure (some v)) Q E s :=
    wpAny_bind (wpAny_mono hcall (fun v s' h' => wpAny_pure h') fun _ _ h' => h')
  split
  · exact wpAny_bind (wpAny_pure (wpAny_pure fin))
  · exact wpAny_tryCatch (wpAny_bind (wpAny_pure (wpAny_pure fin)))
theorem ne_own {b tb : Value} {Q : Value → Shared → Prop} (hu : A.units + 1 < cLine) (X : K.In s.heap) (I : PySem.W.InstAt s.heap x ox C od) (hb : PySem.W.Looks (model prog w) s.heap (typeOf b) tb) (hn : PySem.W.notFirst K C tb = true)
    (hne : PySem.W.findIn K (.ref C) "__ne__" = some (some (.builtin "object.__ne__"))) (heq : PySem.W.findIn K (.ref C) "__eq__" = some (some (.ref f))) (hf : PySem.W.isFn K (.ref f) = true) (hm : PySem.W.mroIn K C (.type "object") = some true)
    (h : wpAny (model prog w) A.in1 (call (.ref f) [.ref x, b]) (fun v s' => ∃ c, v = .bool c ∧ Q (.bool (!c)) s') E s) : wpAny (model prog w) A (richCompare .NotEq (.ref x) b) Q E s := by
  have sub : PySem.W.Looks (model prog w) s.heap (isInstance (.ref x) (.type "object")) true := I.type.andThen (PySem.W.looks_mroIn X hm)
  have one : wpAny (model prog w) A (tryCompare (.ref x) (cmpInfo .NotEq).2.1 b) (fun r s' => ∃ v, r = some v ∧ Q v s') E s := by
    unfold tryCompare
    refine wpAny_bind (ifBound_slot X I hne PySem.F.cmp_object.ne (wpAny_call (codeAny_call_builtin PySem.F.cmp_object.ne.plain PySem.F.cmpEntry_ne (PySem.W.check_slot PySem.F.cmpKind_ne PySem.F.cmpSplit_ne sub (PySem.F.cmpArgs_ne _ _) ?_))))
    unfold Builtin.«object.__ne__»
    refine wpAny_bind (m := slotArgs "__ne__" 1 _) (wpAny_pure ?_)
    refine wpAny_bind (wpAny_cRoomFor hu ?_)
    refine wpAny_bind (PySem.W.ifBound_K X I heq hf (wpAny_mono h (fun v s' hv => ?_) fun _ _ y => y))
    obtain ⟨c, rfl, hq⟩ := hv
    exact wpAny_bind (wpAny_truthy_bool (wpAny_pure (wpAny_pure ⟨_, rfl, hq⟩)))
  unfold richCompare
  simp only [oneThing_ref]
  refine wpAny_holding (wpAny_bind (wpAny_cRoomFor (Nat.lt_of_succ_lt hu) ?_))
  refine wpAny_bind (I.type.here (wpAny_bind (hb.here ?_)))
  split
  · rename_i q
    have e : PySem.W.subIn K tb (.ref C) = some false := by
      rcases Bool.or_eq_true_iff.mp hn with e | e
      · rw [beq_iff_eq.mp e] at q; simp at q
      · exact beq_iff_eq.mp e
    refine wpAny_bind ((PySem.W.looks_subIn X e).here ?_)
    simp only [Bool.false_eq_true, if_false]
    refine wpAny_bind (wpAny_mono one (fun r s' z => ?_) fun _ _ e => e)
    obtain ⟨v, rfl, hq⟩ := z
    exact wpAny_pure hq
  · refine wpAny_bind (wpAny_pure ?_)
    simp only [Bool.false_eq_true, if_false]
    refine wpAny_bind (wpAny_mono one (fun r s' z => ?_) fun _ _ e => e)
    obtain ⟨v, rfl, hq⟩ := z
    exact wpAny_pure hq
end
end Pg

namespace Pg
open PySem PySem.Spec PyProof.Rows L2 StX SlX

/-! ### bool(o), o != x, o == p, by own defs -/
/-- how a class's instances compare and are true -/
structure CmpC (K : PySem.W.Frag) (C gE gL : Addr) : Prop where
  eq : PySem.W.findIn K (.ref C) "__eq__" = some (some (.ref gE))
  eqf : PySem.W.isFn K (.ref gE) = true
  ne : PySem.W.findIn K (.ref C) "__ne__" = some (some (.builtin "object.__ne__"))
  nl : PySem.W.notFirst K C (.type "list") = true
  ns : PySem.W.notFirst K C (.ref C) = true
  ob : PySem.W.mroIn K C (.type "object") = some true
  nb : PySem.W.findIn K (.ref C) "__bool__" = some none
def rBoolC (C : Addr) (sp : Sp) (E : XK) : List V → Hp → VK → Prop := fun xs H Q => ∃ a dx fs, xs = [V.ref a] ∧ H a = some (.ins C dx fs) ∧ sp [.ref a] H (fun z H' => ∃ i : Int, z = .int i ∧ 0 ≤ i ∧ i < 2 ^ 63 ∧ Q (.bl (i != 0)) H') E
def rNeL (K : PySem.W.Frag) (C : Addr) (sp : Sp) (E : XK) : R2 := fun x y H Q => ∃ a dx fs, x = .ref a ∧ H a = some (.ins C dx fs) ∧ TyX K H y (.type "list") ∧ sp [.ref a, y] H (fun z H' => ∃ b, z = .bl b ∧ Q (.bl (!b)) H') E
def rEqI (C : Addr) (sp : Sp) (E : XK) : R2 := fun x y H Q => ∃ a dx fs b dy gs, x = .ref a ∧ y = .ref b ∧ H a = some (.ins C dx fs) ∧ H b = some (.ins C dy gs) ∧ sp [.ref a, .ref b] H Q E
section
variable {X : Cx} {CX : CXT} {C gE gL : Addr} {n : Nat} {sp : Sp} {E : XK}
theorem call_boolO (S : SpM X.K C "__len__" gL) (D : CmpC X.K C gE gL) (F : FnR X.prog X.w X.K X.mg X.base CX n gL sp) (hr : Room (n + 3) X.A) (hx : Passes CX X E) : CallR X (.type "bool") (rBoolC C sp E) := by
  intro pins s σ H xs us Q I r h
  obtain ⟨a, dx, fs, rfl, hi, q⟩ := h
  obtain ⟨u, rfl, ru⟩ := r.one
  cases (show u = Value.ref a from ru)
  obtain ⟨ox, od, J, _⟩ := ins_at I hi
  have hr3 : Room n X.A.in1.in1.in1 := ((show Room (n + 2) X.A.in1 from Room.in1 hr).in1).in1
  refine bool_own (truthy_lenO I.kIn J D.nb S.at_ S.fn (wpAny_mono (wpAny_call (run_at (us := [.ref a]) (ws := [.ref a]) F hr3 I.env0.in1.in1.in1 hx I (.cons rfl .nil) q)) (fun w s' z => ?_) fun _ _ x => x))
  obtain ⟨z', H', I', rz, i, ei, h0, h1, qz⟩ := z
  subst ei
  obtain ⟨t, e⟩ := (show ∃ t, w = Value.int i t from rz)
  cases e
  exact ⟨i, t, rfl, h0, h1, .bl (i != 0), H', I'.tok _, rfl, qz⟩
theorem op_neL (D : CmpC X.K C gE gL) (F : FnR X.prog X.w X.K X.mg X.base CX n gE sp) (hr : Room (n + 1) X.A) (hx : Passes CX X E) : OpR X (compareOp .NotEq) (rNeL X.K C sp E) := by
  intro pins s σ H x y v u Q I rx ry h
  obtain ⟨a, dx, fs, rfl, hi, ty, q⟩ := h
  cases (show v = Value.ref a from rx)
  obtain ⟨ox, od, J, _⟩ := ins_at I hi
  obtain ⟨Pr, Z, pp, _⟩ := kit_of I ry ty
  show wpAny _ _ (richCompare .NotEq _ _) _ _ _
  refine ne_own (by have := hr.un; omega) I.kIn J (Z.ty _ _ I.kIn pp) D.nl D.ne D.eq D.eqf D.ob (wpAny_mono (wpAny_call (run_at (us := [.ref a, u]) (ws := [.ref a, y]) F hr.in1 I.env0.in1 hx I (.cons rfl (.cons ry .nil)) q)) (fun w s' z => ?_) fun _ _ x => x)
  obtain ⟨z', H', I', rz, b, eb, qz⟩ := z
  subst eb
  obtain rfl : w = Value.bool b := rz
  exact ⟨b, rfl, .bl (!b), H', I', rfl, qz⟩
theorem op_eqI (D : CmpC X.K C gE gL) (F : FnR X.prog X.w X.K X.mg X.base CX n gE sp) (hr : Room n X.A) (hx : Passes CX X E) : OpR X (compareOp .Eq) (rEqI C sp E) := by
  intro pins s σ H x y v u Q I rx ry h
  obtain ⟨a, dx, fs, b, dy, gs, rfl, rfl, hi, hj, q⟩ := h
  cases (show v = Value.ref a from rx)
  cases (show u = Value.ref b from ry)
  obtain ⟨ox, od, J, _⟩ := ins_at I hi
  obtain ⟨oy, od', J', _⟩ := ins_at I hj
  obtain ⟨m, hF⟩ := I.fr
  show wpAny _ _ (richCompare .Eq _ _) _ _ _
  refine PySem.W.cmp_K (op := .Eq) (tb := .ref C) hr.units0 hF I.ok.mod.kin J J'.type D.ns D.eq D.eqf ?_
  refine wpAny_mono (wpAny_call (run_fnR (us := [.ref a, .ref b]) (vs := [.ref a, .ref b]) F hr hx I (.cons rfl (.cons rfl .nil)) q)) (fun w s' z => ?_) fun _ _ x => x
  obtain ⟨z', H', I', rz, qz⟩ := z
  exact cmpback rz ⟨z', H', I', rz, qz⟩
end
/-! ### the same of an object in slot 0, as data -/
section
variable {X : Cx} {Z : Sg} {C dx g gL : Addr} {nms : List Str} {us : List V} {uds : List PyData} {x fn : Str} {q p pos : Pos} {k j : Nat} {T : List PyData → List PyData → (PyData → Prop) → Prop} {e : Expr} {ge : DE}
theorem de_slen (hso : Z.so = some (.ins C dx (nms.zip us), us.zip uds)) (htp : Z.tp = some 0) (h1 : us.length = nms.length) (h2 : uds.length = us.length) (S : SpM X.K C "__len__" g) (F : FnR X.prog X.w X.K X.mg X.base CX0 k g (spO X.K C nms T)) (hr : Room j X.A) (hm : X.mg "len" = none)
    (hk : k + 1 ≤ j := by first | decide | omega) (hg : Gl X "len" := by rfl) (hN : X.N[0]? = some x := by rfl) (hv : Vis X.env.scope x := by first | exact Or.inl rfl | exact Or.inr (Or.inl rfl) | exact Or.inr (Or.inr rfl)) (hd : (x == ("__debug__" : Str)) = false := by decide) (hcd : (x == ("__classdict__" : Str)) = false := by decide)
    (he : starEach [.Name x q] X.env = (false, eval (.Name x q) X.env) :: starEach [] X.env := by rfl) (hpl : (backTo pos (starEach ([] : List Expr) X.env)).any (·.1) = false := by rfl) :
    PD X Z (.Call (.Name "len" p) [.Name x q] [] pos) (fun _ P => T uds [] fun d => ∃ i : Int, d = .int i ∧ 0 ≤ i ∧ i < 2 ^ 63 ∧ P (.int i)) :=
  pe_wk (pe_callB (call_lenO S F (hr.mono hk) pass0) hg hm PySem.boot_len (pa_cons (pe_var hN hv hd hcd) pa_nil he) (by decide) (by decide) he hpl) fun σ H Q ⟨Ct, M, ρ, P, E, hg, kk⟩ => by
    obtain ⟨t1, t2, t3⟩ := E.tap 0 htp
    rw [hso] at t2
    exact ⟨.ref Ct.t, t3, Ct.t, dx, _, rfl, t2.2, spO_at E hso htp h1 h2 .nil hg fun d ⟨i, ed, i0, i1, hp⟩ v H' s' dv => ⟨i, by subst ed; exact dp_int dv, i0, i1, kk _ hp _ H' (.of s') (E.same s') (.int i)⟩⟩
theorem de_sbool {gE : Addr} (hso : Z.so = some (.ins C dx (nms.zip us), us.zip uds)) (htp : Z.tp = some 0) (h1 : us.length = nms.length) (h2 : uds.length = us.length) (S : SpM X.K C "__len__" gL) (D : CmpC X.K C gE gL) (F : FnR X.prog X.w X.K X.mg X.base CX0 k gL (spO X.K C nms T)) (hr : Room j X.A) (hm : X.mg "bool" = none)
    (hk : k + 3 ≤ j := by first | decide | omega) (hg : Gl X "bool" := by rfl) (hN : X.N[0]? = some x := by rfl) (hv : Vis X.env.scope x := by first | exact Or.inl rfl | exact Or.inr (Or.inl rfl) | exact Or.inr (Or.inr rfl)) (hd : (x == ("__debug__" : Str)) = false := by decide) (hcd : (x == ("__classdict__" : Str)) = false := by decide)
    (he : starEach [.Name x q] X.env = (false, eval (.Name x q) X.env) :: starEach [] X.env := by rfl) (hpl : (backTo pos (starEach ([] : List Expr) X.env)).any (·.1) = false := by rfl) :
    PD X Z (.Call (.Name "bool" p) [.Name x q] [] pos) (fun _ P => T uds [] fun d => ∃ i : Int, d = .int i ∧ 0 ≤ i ∧ i < 2 ^ 63 ∧ P (.bool (i != 0))) :=
  pe_wk (pe_callTy (call_boolO S D F (hr.mono hk) pass0) hg hm boot_bool (pa_cons (pe_var hN hv hd hcd) pa_nil he) (by decide) (by decide) he hpl) fun σ H Q ⟨Ct, M, ρ, P, E, hg, kk⟩ => by
    obtain ⟨t1, t2, t3⟩ := E.tap 0 htp
    rw [hso] at t2
    exact ⟨.ref Ct.t, t3, Ct.t, dx, _, rfl, t2.2, spO_at E hso htp h1 h2 .nil hg fun d ⟨i, ed, i0, i1, hp⟩ v H' s' dv => ⟨i, by subst ed; exact dp_int dv, i0, i1, kk _ hp _ H' (.of s') (E.same s') (.bl _)⟩⟩
theorem de_sin (hso : Z.so = some (.ins C dx (nms.zip us), us.zip uds)) (htp : Z.tp = some 0) (h1 : us.length = nms.length) (h2 : uds.length = us.length) (S : SpM X.K C "__contains__" g) (F : FnR X.prog X.w X.K X.mg X.base CX0 k g (spO X.K C nms T)) (hr : Room j X.A) (ha : PD X Z e ge)
    (hk : k ≤ j := by first | decide | omega) (hN : X.N[0]? = some x := by rfl) (hv : Vis X.env.scope x := by first | exact Or.inl rfl | exact Or.inr (Or.inl rfl) | exact Or.inr (Or.inr rfl)) (hd : (x == ("__debug__" : Str)) = false := by decide) (hcd : (x == ("__classdict__" : Str)) = false := by decide)
    (hm : behindInMarks .In (.Name x q) = false := by rfl) : PD X Z (.Compare e [.In] [.Name x q] pos) (fun ρ P => ge ρ fun d => T uds [d] fun r => ∃ b, r = .bool b ∧ P (.bool b)) :=
  pe_wk (pe_cmpR (in_ownO S F (hr.mono hk) pass0) ha (pe_var hN hv hd hcd) hm) fun σ H Q ⟨Ct, M, ρ, P, E, hg, kk⟩ => ⟨Ct, M, ρ, _, E, hg, fun d hd v H1 r1 E1 dv => by
    obtain ⟨t1, t2, t3⟩ := E1.tap 0 htp
    rw [hso] at t2
    exact ⟨.ref Ct.t, t3, Ct.t, dx, _, rfl, t2.2, spO_at E1 hso htp h1 h2 (.cons dv .nil) hd fun r ⟨b, er, hp⟩ w H' s' dw => ⟨b, by subst er; exact dp_bl dw, kk _ hp _ H' (r1.trans (.of s')) (E1.same s') (.bl b)⟩⟩⟩
theorem de_sne {gE : Addr} (hso : Z.so = some (.ins C dx (nms.zip us), us.zip uds)) (htp : Z.tp = some 0) (h1 : us.length = nms.length) (h2 : uds.length = us.length) (D : CmpC X.K C gE gL) (F : FnR X.prog X.w X.K X.mg X.base CX0 k gE (spO X.K C nms T)) (hr : Room j X.A) (ha : PD X Z e ge)
    (hk : k + 1 ≤ j := by first | decide | omega) (hN : X.N[0]? = some x := by rfl) (hv : Vis X.env.scope x := by first | exact Or.inl rfl | exact Or.inr (Or.inl rfl) | exact Or.inr (Or.inr rfl)) (hd : (x == ("__debug__" : Str)) = false := by decide) (hcd : (x == ("__classdict__" : Str)) = false := by decide) :
    PD X Z (.Compare (.Name x q) [.NotEq] [e] pos) (fun ρ P => ge ρ fun d => ∃ l, d = .list l ∧ T uds [d] fun r => ∃ b, r = .bool b ∧ P (.bool (!b))) :=
  pe_wk (pe_cmpR (op_neL D F (hr.mono hk) pass0) (pe_var hN hv hd hcd) ha (nomark _)) fun σ H Q ⟨Ct, M, ρ, P, E, hg, kk⟩ => by
    obtain ⟨t1, t2, t3⟩ := E.tap 0 htp
    refine ⟨.ref Ct.t, t3, Ct, M, ρ, _, E, hg, fun d ⟨l, ed, hd⟩ v H1 r1 E1 dv => ?_⟩
    obtain ⟨t1, t2, t3⟩ := E1.tap 0 htp
    rw [hso] at t2
    exact ⟨Ct.t, dx, _, rfl, t2.2, by have := dp_ty (dp_mono (hid_le _ _) dv); subst ed; exact this, spO_at E1 hso htp h1 h2 (.cons dv .nil) hd fun r ⟨b, er, hp⟩ w H' s' dw => ⟨b, by subst er; exact dp_bl dw, kk _ hp _ H' (r1.trans (.of s')) (E1.same s') (.bl _)⟩⟩
/-- f(job, ..) -/
theorem de_callNS {ps : List Str} {es : List Expr} {gs : DA} {xt : Str} {pt : Pos} (hso : Z.so = some (.ins C dx (nms.zip us), us.zip uds)) (htp : Z.tp = some 0) (h1 : us.length = nms.length) (h2 : uds.length = us.length) (D : Dn X.prog X.w X.K X.mg X.base fn k ps (spO X.K C nms T)) (hr : Room j X.A) (ha : PDA X Z es gs)
    (hk : k ≤ j := by first | decide | omega) (hg : Gl X fn := by rfl)
    (hN : X.N[0]? = some xt := by rfl) (hv : Vis X.env.scope xt := by first | exact Or.inl rfl | exact Or.inr (Or.inl rfl) | exact Or.inr (Or.inr rfl)) (hd : (xt == ("__debug__" : Str)) = false := by decide) (hcd : (xt == ("__classdict__" : Str)) = false := by decide)
    (hs : starEach (.Name xt pt :: es) X.env = (false, eval (.Name xt pt) X.env) :: starEach es X.env := by rfl) (hdb : (fn == ("__debug__" : Str)) = false := by decide) (hpl : (backTo pos (starEach es X.env)).any (·.1) = false := by rfl) :
    PD X Z (.Call (.Name fn p) (.Name xt pt :: es) [] pos) (fun ρ P => gs ρ fun ds => T uds ds P) := by
  obtain ⟨f, fd, F, g, kp, b⟩ := D
  refine pe_wk (pe_call F (hr.mono hk) hg g kp b .nil pass0 (pa_cons (pe_var hN hv hd hcd) ha hs) hdb hs hpl) fun σ H Q ⟨Ct, M, ρ, P, E, hg, kk⟩ => ?_
  obtain ⟨t1, t2, t3⟩ := E.tap 0 htp
  refine ⟨.ref Ct.t, t3, Ct, M, ρ, _, E, hg, fun ds hds vs H1 r1 E1 dvs => ?_⟩
  show spO _ _ _ _ (.ref Ct.t :: (vs ++ [])) _ _ _
  rw [List.append_nil]
  exact spO_at E1 hso htp h1 h2 dvs hds fun d hd v H' s' dv => kk d hd v H' (r1.trans (.of s')) (E1.same s') dv
/-- e.rjust(i) -/
@[simp] def oRj : PyData → PyData → (PyData → Prop) → Prop := fun x y P => ∃ (a : Str) (i : Int), x = .str a ∧ y = .int i ∧ PadOk i = true ∧ P (.str (Txt.rjust a i))
@[simp] def gRj (go g : DE) : DE := fun ρ P => go ρ fun s => ∃ a : Str, s = .str a ∧ g ρ fun d => ∃ i : Int, d = .int i ∧ PadOk i = true ∧ P (.str (Txt.rjust a i))
theorem de_rj {go g : DE} {e : Expr} (h : PE X e (tBM X.K "str" (fun x xs H Q => ∃ (a : Str) (i : Int), x = .str a ∧ xs = [.int i] ∧ PadOk i = true ∧ Q (.str (Txt.rjust a i)) H) (tG X.K Z go) (tGA X.K Z (gaCons g gaNil)))) : PD X Z e (gRj go g) :=
  pe_wk h fun σ H Q ⟨C, M, ρ, P, E, hg, k⟩ => ⟨C, M, ρ, _, E, hg, fun s ⟨a, es, hs⟩ v H1 r1 E1 dv => by
    subst es
    obtain rfl := dp_str dv
    refine ⟨rfl, C, M, ρ, fun ds => match ds with | [d] => ∃ i : Int, d = .int i ∧ PadOk i = true ∧ P (.str (Txt.rjust a i)) | _ => False, E1, hs, ?_⟩
    intro ds hds vs H2 r2 E2 dvs
    match ds, hds with
    | [d], hds =>
      obtain ⟨i, ed, ok, hp⟩ := hds
      obtain ⟨v2, rfl, dv2⟩ := dpa1 dvs
      subst ed
      cases dp_int dv2
      exact ⟨a, i, rfl, rfl, ok, k _ hp _ H2 (r1.trans r2) E2 (.str _)⟩⟩
end
end Pg

namespace Pg
open PySem PySem.Spec PyProof.Rows L2

/-! ### list + list, of any make -/
def rCatL (K : PySem.W.Frag) : R2 := fun x y H Q => ∃ l b xs zs, x = .ref l ∧ y = .ref b ∧ SqL K H l xs ∧ SqL K H b zs ∧ xs.length + zs.length ≤ sizeLine ∧ ∀ p, H p = none → Q (.ref p) (upd H p (.lst (xs ++ zs)))
theorem same_sqL {K : PySem.W.Frag} {H H' : Hp} {a : Addr} {xs : List V} (e : Same H H') (h : SqL K H a xs) : SqL K H' a xs := by
  rcases h with (h | ⟨o, h⟩) | h
  · exact .inl (.inl (e _ _ h))
  · exact .inl (.inr ⟨o, e _ _ h⟩)
  · exact .inr h
section
variable {X : Cx} {Z : Sg} {a b c : Expr} {ga gb gc : DE} {pos : Pos}
theorem op_catL : OpR X (binaryOp .Add) (rCatL X.K) := by
  intro pins s σ H x y v u Q I rx ry h
  obtain ⟨l, b, xs, zs, rfl, rfl, hH, hB, hz, q⟩ := h
  cases rx
  cases ry
  obtain ⟨its, r, pl, hz1⟩ := I.list hH
  obtain ⟨its2, r2, pl2, hz2⟩ := I.list hB
  obtain ⟨⟨cls, dd, data, sl⟩, n, ho, hc, hd, hs⟩ := pl
  obtain ⟨⟨cls2, dd2, data2, sl2⟩, n2, ho2, hc2, hd2, hs2⟩ := pl2
  simp only at hc hd hs hc2 hd2 hs2
  subst hc hd hs hc2 hd2 hs2
  have hl1 := r.length
  have hl2 := r2.length
  refine concat_meets ⟨_, ho, rfl⟩ ⟨_, ho2, rfl⟩ PySem.noFill_list_add PySem.seq_list_add PySem.F.slot_list_add PySem.F.entry_list_add (PySem.F.args_list_add_2 _ _) (list_addW l b its.toArray its2.toArray n n2 none none sl sl2 (by rw [List.size_toArray, List.size_toArray]; omega)) ⟨ho, ho2, ?_⟩
  have ea : its.toArray ++ its2.toArray = (its ++ its2).toArray := by simp
  rw [ea]
  exact ⟨.ref _, _, I.lnew (t' := s.toks) (r.append r2) (by rw [List.length_append]; omega), rfl, q _ I.fresh⟩
@[simp] def gCatL (ga gb : DE) : DA := fun ρ P => ga ρ fun x => gb ρ fun y => ∃ ds es, x = .list ds ∧ y = .list es ∧ ds.length + es.length ≤ 100000 ∧ P (ds ++ es)
theorem df_catL (ha : PD X Z a ga) (hb : PD X Z b gb) : PDF X Z (.BinOp a .Add b pos) (gCatL ga gb) :=
  pe_wk (pe_op op_catL ha hb) fun σ H Q ⟨C, M, ρ, P, E, hg, k⟩ => ⟨C, M, ρ, _, E, hg, fun x hx v H1 r1 E1 dv => ⟨C, M, ρ, _, E1, hx, fun y ⟨ds, es, e1, e2, hl, hP⟩ w H2 r2 E2 dw => by
    subst e1 e2
    have dv2 := dp_mono (E1.hv _ r2) dv
    obtain ⟨p, xs, rfl, g1, g2⟩ := dp_list dv2
    obtain ⟨q, ys, rfl, g3, g4⟩ := dp_list dw
    exact ⟨p, q, xs, ys, rfl, rfl, same_sqL (hid_le _ _) g1, same_sqL (hid_le _ _) g3, by rw [dpa_len g2, dpa_len g4]; exact sz hl, fun r hr => tGF_new E k hP (r1.trans r2) E2 (dpa_app g2 g4) hr⟩⟩⟩
theorem db_lelt (ha : PD X Z a ga) (hb : PD X Z b gb) (hc : PD X Z c gc) (hm : lastMarks [.LtE, .Lt] [b, c] = false := by with_unfolding_all rfl) : PDB X Z (.Compare a [.LtE, .Lt] [b, c] pos) (gT (gChain (oIB fun i j => decide (i ≤ j)) (oIB fun i j => decide (i < j)) ga gb gc)) := db_chain op_le op_lt (o2_IB _) (o2_IB _) ha hb hc hm
end
end Pg

namespace Pg
open PySem PySem.Spec PyProof.Rows L2
def topS (i : Nat) : Stmt := PySem.Challenge.pw_pageranges_k19_whole_jobs_step_by_step.main.body.getD i (.Pass ⟨0, 0, 0, 0⟩)
abbrev s_is_integer : Stmt := topS 13
abbrev s_is_end : Stmt := topS 14
abbrev s_is_item : Stmt := topS 15
abbrev s_is_list : Stmt := topS 16
abbrev s_is_expression : Stmt := topS 17
abbrev s_place : Stmt := topS 18
abbrev s_positions : Stmt := topS 19
abbrev s_taken : Stmt := topS 20
abbrev s_printed : Stmt := topS 21
abbrev s_end_text : Stmt := topS 23
abbrev s_item_text : Stmt := topS 24
abbrev s_expression_text : Stmt := topS 25
abbrev s_law_draw : Stmt := topS 29
abbrev s_law_like : Stmt := topS 30
abbrev s_law_end : Stmt := topS 31
abbrev s_law_item : Stmt := topS 32
abbrev s_law_list : Stmt := topS 33
abbrev s_law_expression : Stmt := topS 34
abbrev s_law_meant : Stmt := topS 35
abbrev s_law_took : Stmt := topS 36
abbrev s_law_shown : Stmt := topS 37
abbrev s_law_error : Stmt := topS 38
abbrev s_law_call : Stmt := topS 39
abbrev s_law_next : Stmt := topS 40
abbrev s_law_item_of : Stmt := topS 41
abbrev s_law_seen : Stmt := topS 42
abbrev s_law : Stmt := topS 43
abbrev s_Job_init : Stmt := (clsBody (topS 27)).getD 1 (.Pass ⟨0, 0, 0, 0⟩)
abbrev s_Job_add : Stmt := (clsBody (topS 27)).getD 2 (.Pass ⟨0, 0, 0, 0⟩)
abbrev s_Job_undo : Stmt := (clsBody (topS 27)).getD 3 (.Pass ⟨0, 0, 0, 0⟩)
abbrev s_Job_number : Stmt := (clsBody (topS 27)).getD 4 (.Pass ⟨0, 0, 0, 0⟩)
abbrev s_Job_pages : Stmt := (clsBody (topS 27)).getD 5 (.Pass ⟨0, 0, 0, 0⟩)
abbrev s_Job_lines : Stmt := (clsBody (topS 27)).getD 6 (.Pass ⟨0, 0, 0, 0⟩)
abbrev s_Job_getitem : Stmt := (clsBody (topS 27)).getD 7 (.Pass ⟨0, 0, 0, 0⟩)
abbrev s_Job_iter : Stmt := (clsBody (topS 27)).getD 8 (.Pass ⟨0, 0, 0, 0⟩)
abbrev s_Job_contains : Stmt := (clsBody (topS 27)).getD 9 (.Pass ⟨0, 0, 0, 0⟩)
abbrev s_Job_len : Stmt := (clsBody (topS 27)).getD 10 (.Pass ⟨0, 0, 0, 0⟩)
abbrev s_Job_eq : Stmt := (clsBody (topS 27)).getD 11 (.Pass ⟨0, 0, 0, 0⟩)
end Pg
namespace Pg
open PySem PySem.Spec PyProof.Rows L2
/-! ## data: of what shape, when equal -/
/-- data of depth n at most, that can be compared -/
def Sh (n : Nat) (d : PyData) : Prop := d.canLay0 = true ∧ d.depth ≤ n
theorem Sh.ok {n : Nat} {d : PyData} (h : Sh n d) (hn : n ≤ 64 := by decide) : SeqAt.shaped d = true := by
  unfold SeqAt.shaped
  rw [h.1, Bool.true_and, decide_eq_true_eq]
  exact Nat.le_trans h.2 hn
theorem Sh.mono {m n : Nat} {d : PyData} (h : Sh m d) (hn : m ≤ n) : Sh n d := ⟨h.1, Nat.le_trans h.2 hn⟩
theorem sh_int {n : Nat} {i : Int} : Sh n (.int i) := ⟨by simp [PyData.canLay0], by simp [PyData.depth]⟩
theorem sh_bool {n : Nat} {b : Bool} : Sh n (.bool b) := ⟨by simp [PyData.canLay0], by simp [PyData.depth]⟩
theorem sh_none {n : Nat} : Sh n .none := ⟨by simp [PyData.canLay0], by simp [PyData.depth]⟩
theorem sh_str {n : Nat} {s : Str} (h : PyData.strOk s = true) : Sh n (.str s) := ⟨by simp [PyData.canLay0, h], by simp [PyData.depth]⟩
theorem sh_all {n : Nat} : ∀ {l : List PyData}, (∀ d ∈ l, Sh n d) → PyData.canLayAll0 l = true ∧ PyData.depthAll l ≤ n
  | [], _ => ⟨by simp [PyData.canLayAll0], by simp [PyData.depthAll]⟩
  | d :: l, h => by
    obtain ⟨h1, h2⟩ := h d List.mem_cons_self
    obtain ⟨h3, h4⟩ := sh_all (l := l) fun e he => h e (List.mem_cons_of_mem _ he)
    exact ⟨by simp [PyData.canLayAll0, h1, h3], by simp only [PyData.depthAll]; omega⟩
theorem sh_list {n : Nat} {l : List PyData} (h : ∀ d ∈ l, Sh n d) : Sh (n + 1) (.list l) := by
  obtain ⟨h1, h2⟩ := sh_all h
  exact ⟨by simp [PyData.canLay0, h1], by simp only [PyData.depth]; omega⟩
theorem sh_tuple {n : Nat} {l : List PyData} (h : ∀ d ∈ l, Sh n d) : Sh (n + 1) (.tuple l) := by
  obtain ⟨h1, h2⟩ := sh_all h
  exact ⟨by simp [PyData.canLay0, h1], by simp only [PyData.depth]; omega⟩
theorem sh_of_list {n : Nat} {l : List PyData} (h : Sh n (.list l)) : ∀ d ∈ l, Sh (n - 1) d := by
  obtain ⟨h1, h2⟩ := h
  simp only [PyData.canLay0] at h1
  simp only [PyData.depth] at h2
  revert h1 h2
  induction l with
  | nil => intro _ _ d hd; cases hd
  | cons a l ih =>
    intro h1 h2 d hd
    simp only [PyData.canLayAll0, Bool.and_eq_true] at h1
    simp only [PyData.depthAll] at h2
    rcases List.mem_cons.mp hd with rfl | hd
    · exact ⟨h1.1, by omega⟩
    · exact ih h1.2 (by omega) d hd
theorem sh_of_tuple {n : Nat} {l : List PyData} (h : Sh n (.tuple l)) : ∀ d ∈ l, Sh (n - 1) d := by
  refine sh_of_list (n := n) ⟨?_, ?_⟩
  · have := h.1
    simp only [PyData.canLay0] at this ⊢
    exact this
  · have := h.2
    simp only [PyData.depth] at this ⊢
    exact this
@[simp] theorem shp_int {i : Int} : SeqAt.shaped (.int i) = true := sh_int.ok (n := 0)
@[simp] theorem shp_bool {b : Bool} : SeqAt.shaped (.bool b) = true := sh_bool.ok (n := 0)
@[simp] theorem shp_none : SeqAt.shaped .none = true := sh_none.ok (n := 0)
@[simp] theorem shp_nilL : SeqAt.shaped (.list []) = true := (sh_list (n := 0) (l := []) fun _ h => nomatch h).ok
@[simp] theorem shp_nilT : SeqAt.shaped (.tuple []) = true := (sh_tuple (n := 0) (l := []) fun _ h => nomatch h).ok
/-! equality as Python sees it is equality, where no bool stands in one of the two -/
mutual
def noB : PyData → Bool
  | .bool _ => false
  | .dict _ => false
  | .list l => noBA l
  | .tuple l => noBA l
  | _ => true
def noBA : List PyData → Bool
  | [] => true
  | d :: l => noB d && noBA l
end
mutual
theorem eqv_iff : ∀ {d e : PyData}, noB d = true → noB e = true → (PyData.eqv d e = true ↔ d = e)
  | .none, e, _, h => by cases e <;> simp_all [noB, PyData.eqv]
  | .bool _, e, h, _ => by simp [noB] at h
  | .int i, e, _, h => by cases e <;> simp_all [noB, PyData.eqv]
  | .str s, e, _, h => by cases e <;> simp_all [noB, PyData.eqv]
  | .list l, e, h1, h2 => by
    cases e with
    | list m => rw [PyData.eqv, eqvA_iff (by simpa [noB] using h1) (by simpa [noB] using h2)]; simp
    | _ => simp_all [noB, PyData.eqv]
  | .tuple l, e, h1, h2 => by
    cases e with
    | tuple m => rw [PyData.eqv, eqvA_iff (by simpa [noB] using h1) (by simpa [noB] using h2)]; simp
    | _ => simp_all [noB, PyData.eqv]
  | .dict _, e, h, _ => by simp [noB] at h
theorem eqvA_iff : ∀ {l m : List PyData}, noBA l = true → noBA m = true → (PyData.eqvAll l m = true ↔ l = m)
  | [], [], _, _ => by simp [PyData.eqvAll]
  | [], _ :: _, _, _ => by simp [PyData.eqvAll]
  | _ :: _, [], _, _ => by simp [PyData.eqvAll]
  | d :: l, e :: m, h1, h2 => by
    simp only [noBA, Bool.and_eq_true] at h1 h2
    rw [PyData.eqvAll, Bool.and_eq_true, eqv_iff h1.1 h2.1, eqvA_iff h1.2 h2.2]
    simp
end
theorem noBA_map {α : Type} {f : α → PyData} (h : ∀ a, noB (f a) = true) : ∀ l : List α, noBA (l.map f) = true
  | [] => by simp [noBA]
  | a :: l => by
    rw [List.map_cons, noBA, h a, noBA_map h l]
    rfl
/-- decided by the values that are laid out as data -/
theorem eqv_dec {α : Type} [DecidableEq α] {f : α → PyData} (hn : ∀ a, noB (f a) = true) (hi : ∀ a b, f a = f b → a = b) (a b : α) : PyData.eqv (f a) (f b) = decide (a = b) := by
  have h := eqv_iff (hn a) (hn b)
  by_cases e : a = b
  · rw [decide_eq_true e]
    exact h.mpr (by rw [e])
  · rw [decide_eq_false e]
    cases q : PyData.eqv (f a) (f b) with
    | false => rfl
    | true => exact absurd (hi _ _ (h.mp q)) e
@[simp] theorem eqv_int {i j : Int} : PyData.eqv (.int i) (.int j) = decide (i = j) := by rw [PyData.eqv, Bool.beq_eq_decide_eq]
@[simp] theorem eqv_bool {i j : Bool} : PyData.eqv (.bool i) (.bool j) = decide (i = j) := by rw [PyData.eqv, Bool.beq_eq_decide_eq]
@[simp] theorem eqv_str {i j : Str} : PyData.eqv (.str i) (.str j) = decide (i = j) := by
  by_cases e : i = j
  · subst e; simp [PyData.eqv]
  · rw [decide_eq_false e, PyData.eqv]; exact beq_eq_false_iff_ne.mpr e
@[simp] theorem eqv_none : PyData.eqv .none .none = true := by simp [PyData.eqv]
@[simp] theorem eqv_int_none {i : Int} : PyData.eqv (.int i) .none = false := by simp [PyData.eqv]
@[simp] theorem eqv_none_int {i : Int} : PyData.eqv .none (.int i) = false := by simp [PyData.eqv]
@[simp] theorem eqv_nilL : PyData.eqv (.list []) (.list []) = true := by simp [PyData.eqv, PyData.eqvAll]
@[simp] theorem eqv_consL {d : PyData} {l : List PyData} : PyData.eqv (.list (d :: l)) (.list []) = false := by simp [PyData.eqv, PyData.eqvAll]
@[simp] theorem eqv_Lnil {l : List PyData} : PyData.eqv (.list l) (.list []) = decide (l = []) := by cases l <;> simp
@[simp] theorem eqv_Tnil {l : List PyData} : PyData.eqv (.tuple l) (.tuple []) = decide (l = []) := by cases l <;> simp [PyData.eqv, PyData.eqvAll]

end Pg
namespace Pg
open PySem PySem.Spec PyProof.Rows L2
/-! ## items, lists, expressions; what they take -/
abbrev End := Option Int
def encE : End → PyData
  | none => .none
  | some i => .int i
@[simp] theorem encE_none : encE none = .none := rfl
@[simp] theorem encE_some {i : Int} : encE (some i) = .int i := rfl
@[simp] theorem encE_inj {a b : End} : encE a = encE b ↔ a = b := by
  cases a <;> cases b <;> simp
structure Item where
  a : End
  b : End
  s : Int
deriving DecidableEq
def encI (t : Item) : PyData := .tuple [encE t.a, encE t.b, .int t.s]
@[simp] theorem encI_inj {t u : Item} : encI t = encI u ↔ t = u := by
  cases t; cases u
  simp [encI]
@[simp] theorem seqD_encI {t : Item} : seqD (encI t) = some [encE t.a, encE t.b, .int t.s] := rfl
theorem map_inj {α : Type} {f : α → PyData} (h : ∀ a b, f a = f b → a = b) : ∀ {l m : List α}, l.map f = m.map f → l = m
  | [], [], _ => rfl
  | [], _ :: _, e => by simp at e
  | _ :: _, [], e => by simp at e
  | a :: l, b :: m, e => by
    rw [List.map_cons, List.map_cons] at e
    injection e with e1 e2
    rw [h a b e1, map_inj h e2]
abbrev Part := List Item
def encL (p : Part) : PyData := .tuple (p.map encI)
@[simp] theorem encL_inj {p q : Part} : encL p = encL q ↔ p = q := by
  unfold encL
  refine ⟨fun e => ?_, fun e => by rw [e]⟩
  injection e with e
  exact map_inj (fun _ _ => encI_inj.mp) e
@[simp] theorem seqD_encL {p : Part} : seqD (encL p) = some (p.map encI) := rfl
abbrev Exp := List Part
def encX (x : Exp) : PyData := .tuple (x.map encL)
@[simp] theorem encX_inj {p q : Exp} : encX p = encX q ↔ p = q := by
  unfold encX
  refine ⟨fun e => ?_, fun e => by rw [e]⟩
  injection e with e
  exact map_inj (fun _ _ => encL_inj.mp) e
@[simp] theorem seqD_encX {p : Exp} : seqD (encX p) = some (p.map encL) := rfl
def lstI (l : List Int) : PyData := .list (l.map .int)
@[simp] theorem lstI_inj {p q : List Int} : lstI p = lstI q ↔ p = q := by
  unfold lstI
  refine ⟨fun e => ?_, fun e => by rw [e]⟩
  injection e with e
  exact map_inj (fun _ _ e => by injection e) e
@[simp] theorem seqD_lstI {p : List Int} : seqD (lstI p) = some (p.map PyData.int) := rfl
@[simp] theorem lenD_lstI {p : List Int} : lenD (lstI p) = some p.length := by simp [lstI]
@[simp] theorem list_lstI {p : List Int} : PyData.list (p.map PyData.int) = lstI p := rfl
@[simp] theorem lstI_list {l : List Int} {ds : List PyData} : lstI l = .list ds ↔ l.map .int = ds := by simp [lstI, -list_lstI]
@[simp] theorem encL_tup {l : Part} {ds : List PyData} : encL l = .tuple ds ↔ l.map encI = ds := by simp [encL]
@[simp] theorem encX_tup {l : Exp} {ds : List PyData} : encX l = .tuple ds ↔ l.map encL = ds := by simp [encX]
@[simp] theorem encI_tup {t : Item} {ds : List PyData} : encI t = .tuple ds ↔ [encE t.a, encE t.b, .int t.s] = ds := by simp [encI]
theorem noB_encE (e : End) : noB (encE e) = true := by cases e <;> simp [encE, noB]
theorem noB_encI (t : Item) : noB (encI t) = true := by simp [encI, noB, noBA, noB_encE]
theorem noB_encL (p : Part) : noB (encL p) = true := by simp only [encL, noB]; exact noBA_map noB_encI p
theorem noB_encX (x : Exp) : noB (encX x) = true := by simp only [encX, noB]; exact noBA_map noB_encL x
theorem noB_lstI (l : List Int) : noB (lstI l) = true := by simp only [lstI, noB]; exact noBA_map (fun _ => by simp [noB]) l
@[simp] theorem eqv_encE {a b : End} : PyData.eqv (encE a) (encE b) = decide (a = b) := eqv_dec noB_encE (fun _ _ => encE_inj.mp) a b
@[simp] theorem eqv_encI {a b : Item} : PyData.eqv (encI a) (encI b) = decide (a = b) := eqv_dec noB_encI (fun _ _ => encI_inj.mp) a b
@[simp] theorem eqv_encL {a b : Part} : PyData.eqv (encL a) (encL b) = decide (a = b) := eqv_dec noB_encL (fun _ _ => encL_inj.mp) a b
@[simp] theorem eqv_encX {a b : Exp} : PyData.eqv (encX a) (encX b) = decide (a = b) := eqv_dec noB_encX (fun _ _ => encX_inj.mp) a b
@[simp] theorem eqv_lstI {a b : List Int} : PyData.eqv (lstI a) (lstI b) = decide (a = b) := eqv_dec noB_lstI (fun _ _ => lstI_inj.mp) a b
theorem sh_encE {n : Nat} (e : End) : Sh n (encE e) := by cases e; exact sh_none; exact sh_int
theorem sh_encI {n : Nat} (t : Item) : Sh (n + 1) (encI t) := sh_tuple fun d hd => by
  simp at hd
  rcases hd with rfl | rfl | rfl
  · exact sh_encE _
  · exact sh_encE _
  · exact sh_int
theorem sh_encL {n : Nat} (p : Part) : Sh (n + 2) (encL p) := sh_tuple fun d hd => by
  obtain ⟨t, _, rfl⟩ := List.mem_map.mp hd
  exact sh_encI t
theorem sh_encX {n : Nat} (x : Exp) : Sh (n + 3) (encX x) := sh_tuple fun d hd => by
  obtain ⟨t, _, rfl⟩ := List.mem_map.mp hd
  exact sh_encL t
theorem sh_lstI {n : Nat} (l : List Int) : Sh (n + 1) (lstI l) := sh_list fun d hd => by
  obtain ⟨t, _, rfl⟩ := List.mem_map.mp hd
  exact sh_int
@[simp] theorem shp_encE (e : End) : SeqAt.shaped (encE e) = true := (sh_encE (n := 0) e).ok
@[simp] theorem shp_encI (e : Item) : SeqAt.shaped (encI e) = true := (sh_encI (n := 0) e).ok
@[simp] theorem shp_encL (e : Part) : SeqAt.shaped (encL e) = true := (sh_encL (n := 0) e).ok
@[simp] theorem shp_encX (e : Exp) : SeqAt.shaped (encX e) = true := (sh_encX (n := 0) e).ok
@[simp] theorem shp_lstI (e : List Int) : SeqAt.shaped (lstI e) = true := (sh_lstI (n := 0) e).ok
def EndOk (e : End) : Prop := ∀ i, e = some i → i ≠ 0 ∧ -6 ≤ i ∧ i ≤ 6
structure ItemOk (t : Item) : Prop where
  a : EndOk t.a
  b : EndOk t.b
  s1 : 1 ≤ t.s
  s3 : t.s ≤ 3
structure PartOk (p : Part) : Prop where
  lo : 1 ≤ p.length
  hi : p.length ≤ 3
  ok : ∀ t ∈ p, ItemOk t
structure ExpOk (x : Exp) : Prop where
  lo : 1 ≤ x.length
  hi : x.length ≤ 2
  ok : ∀ p ∈ x, PartOk p
def place (e : End) (c o : Int) : Int := match e with
  | none => o
  | some i => if 0 < i then i else c + 1 + i
/-- from a on by s up to b; from a on by s down to b -/
def up (a b s : Int) : List Int := (List.range (rcount a (b + 1) s)).map fun (k : Nat) => a + k * s
def dn (a b s : Int) : List Int := (List.range (rcount a (b - 1) (-s))).map fun (k : Nat) => a + k * -s
def prog (a b s : Int) : List Int := if a ≤ b then up a b s else dn a b s
def poss (t : Item) (c : Int) : List Int := (prog (place t.a c 1) (place t.b c c) t.s).filter fun x => decide (1 ≤ x) && decide (x ≤ c)
def taken (p : Part) (row : List Int) : List Int := p.flatMap fun t => (poss t row.length).map fun x => row.getD (x - 1).toNat 0
def pages (n : Int) : List Int := (List.range n.toNat).map fun (k : Nat) => 1 + (k : Int)
def printed (x : Exp) (n : Int) : List Int := x.foldl (fun row p => taken p row) (pages n)
theorem place_lo {e : End} {c o : Int} (h : EndOk e) (hc : 0 ≤ c) (ho : 0 ≤ o) : -5 ≤ place e c o := by
  unfold place
  cases e with
  | none => simp only; omega
  | some i =>
    obtain ⟨h1, h2, h3⟩ := h i rfl
    simp only
    split <;> omega
theorem place_hi {e : End} {c o : Int} (h : EndOk e) (hc : 0 ≤ c) (ho : o ≤ c + 6) : place e c o ≤ c + 6 := by
  unfold place
  cases e with
  | none => exact ho
  | some i =>
    obtain ⟨h1, h2, h3⟩ := h i rfl
    simp only
    split <;> omega
theorem rc_up {a b s : Int} (hs : 1 ≤ s) : rcount a (b + 1) s = if a ≤ b then ((b - a) / s + 1).toNat else 0 := by
  unfold rcount
  rw [if_pos (by omega)]
  by_cases h : a ≤ b
  · rw [if_pos (by omega), if_pos h]
    congr 3
    omega
  · rw [if_neg (by omega), if_neg h]
theorem rc_dn {a b s : Int} (hs : 1 ≤ s) : rcount a (b - 1) (-s) = if b ≤ a then ((a - b) / s + 1).toNat else 0 := by
  unfold rcount
  rw [if_neg (by omega)]
  by_cases h : b ≤ a
  · rw [if_pos (by omega), if_pos h, Int.neg_neg]
    congr 3
    omega
  · rw [if_neg (by omega), if_neg h]
theorem up_nil {a b s : Int} (hs : 1 ≤ s) (h : b < a) : up a b s = [] := by
  unfold up
  rw [rc_up hs, if_neg (by omega)]
  rfl
theorem dn_nil {a b s : Int} (hs : 1 ≤ s) (h : a < b) : dn a b s = [] := by
  unfold dn
  rw [rc_dn hs, if_neg (by omega)]
  rfl
theorem range_shift {α : Type} (f : Nat → α) (n : Nat) : (List.range (n + 1)).map f = f 0 :: (List.range n).map fun k => f (k + 1) := by
  rw [List.range_succ_eq_map, List.map_cons, List.map_map]
  rfl
theorem up_cons {a b s : Int} (hs : 1 ≤ s) (h : a ≤ b) : up a b s = a :: up (a + s) b s := by
  unfold up
  rw [rc_up hs, rc_up hs, if_pos h]
  have e : (b - a) / s = (b - (a + s)) / s + 1 := by
    have : b - a = (b - (a + s)) + s * 1 := by omega
    rw [this, Int.add_mul_ediv_left _ _ (by omega)]
  have h0 : 0 ≤ (b - a) / s := Int.ediv_nonneg (by omega) (by omega)
  have en : ((b - a) / s + 1).toNat = ((b - a) / s).toNat + 1 := by omega
  rw [en, range_shift]
  congr 1
  · show a + 0 * s = a
    omega
  · by_cases h2 : a + s ≤ b
    · rw [if_pos h2, e]
      refine List.map_congr_left fun k _ => ?_
      rw [Int.natCast_add, Int.add_mul]
      show a + (k * s + 1 * s) = a + s + k * s
      omega
    · rw [if_neg h2]
      have : (b - a) / s = 0 := Int.ediv_eq_zero_of_lt (by omega) (by omega)
      rw [this]
      rfl
theorem dn_cons {a b s : Int} (hs : 1 ≤ s) (h : b ≤ a) : dn a b s = a :: dn (a - s) b s := by
  unfold dn
  rw [rc_dn hs, rc_dn hs, if_pos h]
  have e : (a - b) / s = (a - s - b) / s + 1 := by
    have : a - b = (a - s - b) + s * 1 := by omega
    rw [this, Int.add_mul_ediv_left _ _ (by omega)]
  have h0 : 0 ≤ (a - b) / s := Int.ediv_nonneg (by omega) (by omega)
  have en : ((a - b) / s + 1).toNat = ((a - b) / s).toNat + 1 := by omega
  rw [en, range_shift]
  congr 1
  · show a + 0 * -s = a
    omega
  · by_cases h2 : b ≤ a - s
    · rw [if_pos h2, e]
      refine List.map_congr_left fun k _ => ?_
      rw [Int.natCast_add, Int.add_mul]
      show a + (k * -s + 1 * -s) = a - s + k * -s
      omega
    · rw [if_neg h2]
      have : (a - b) / s = 0 := Int.ediv_eq_zero_of_lt (by omega) (by omega)
      rw [this]
      rfl
theorem up_len {a b s : Int} (hs : 1 ≤ s) : (up a b s).length ≤ (b - a + 1).toNat := by
  unfold up
  rw [List.length_map, List.length_range, rc_up hs]
  split
  · have : (b - a) / s ≤ b - a := Int.ediv_le_self (a := b - a) s (by omega)
    omega
  · omega
theorem dn_len {a b s : Int} (hs : 1 ≤ s) : (dn a b s).length ≤ (a - b + 1).toNat := by
  unfold dn
  rw [List.length_map, List.length_range, rc_dn hs]
  split
  · have : (a - b) / s ≤ a - b := Int.ediv_le_self (a := a - b) s (by omega)
    omega
  · omega
theorem poss_len {t : Item} {c : Int} (ht : ItemOk t) (hc : 0 ≤ c) : (poss t c).length ≤ c.toNat + 12 := by
  unfold poss
  refine Nat.le_trans (List.length_filter_le _ _) ?_
  have h1 := place_lo (c := c) (o := 1) ht.a hc (by omega)
  have h2 := place_hi (c := c) (o := 1) ht.a hc (by omega)
  have h3 := place_lo (c := c) (o := c) ht.b hc (by omega)
  have h4 := place_hi (c := c) (o := c) ht.b hc (by omega)
  unfold prog
  split
  · have := up_len (a := place t.a c 1) (b := place t.b c c) ht.s1
    omega
  · have := dn_len (a := place t.a c 1) (b := place t.b c c) ht.s1
    omega
theorem mem_poss {t : Item} {c x : Int} (h : x ∈ poss t c) : 1 ≤ x ∧ x ≤ c := by
  unfold poss at h
  have := (List.mem_filter.mp h).2
  simpa using this
theorem flat_len {α β : Type} (f : α → List β) (B : Nat) : ∀ l : List α, (∀ a ∈ l, (f a).length ≤ B) → (l.flatMap f).length ≤ l.length * B
  | [], _ => by simp
  | a :: l, h => by
    rw [List.flatMap_cons, List.length_append, List.length_cons, Nat.succ_mul]
    have h1 := h a List.mem_cons_self
    have h2 := flat_len f B l fun a ha => h a (List.mem_cons_of_mem _ ha)
    omega
theorem taken_len {p : Part} {row : List Int} (hp : PartOk p) : (taken p row).length ≤ 3 * (row.length + 12) := by
  unfold taken
  have h1 := flat_len (fun t : Item => (poss t row.length).map fun x => row.getD (x - 1).toNat 0) (row.length + 12) p fun t ht => by
    rw [List.length_map]
    have := poss_len (c := row.length) (hp.ok t ht) (by omega)
    omega
  have h2 : p.length * (row.length + 12) ≤ 3 * (row.length + 12) := Nat.mul_le_mul_right _ hp.hi
  omega
theorem pages_len {n : Int} : (pages n).length = n.toNat := by
  unfold pages
  rw [List.length_map, List.length_range]

end Pg
namespace Pg
open PySem PySem.Spec PyProof.Rows L2
/-! ## what the defs of pageranges.items promise -/
def T_place : List PyData → (PyData → Prop) → Prop := fun ds Q => ∃ e c o, ds = [encE e, .int c, .int o] ∧ Q (.int (place e c o))
def T_positions : List PyData → (PyData → Prop) → Prop := fun ds Q => ∃ t c, ds = [encI t, .int c] ∧ ItemOk t ∧ 0 ≤ c ∧ c ≤ 20000 ∧ Q (lstI (poss t c))
def T_taken : List PyData → (PyData → Prop) → Prop := fun ds Q => ∃ p row, ds = [encL p, lstI row] ∧ PartOk p ∧ row.length ≤ 10000 ∧ Q (lstI (taken p row))
def T_printed : List PyData → (PyData → Prop) → Prop := fun ds Q => ∃ x n, ds = [encX x, .int n] ∧ ExpOk x ∧ 1 ≤ n ∧ n ≤ 1000 ∧ Q (lstI (printed x n))

end Pg
namespace Pg
open PySem PySem.Spec PyProof.Rows L2
theorem printed_app {x : Exp} {p : Part} {n : Int} : printed (x ++ [p]) n = taken p (printed x n) := by simp [printed, List.foldl_append]

end Pg
namespace Pg
open PySem PySem.Spec PyProof.Rows L2
section
variable {P : Program} {w : World} {K : PySem.W.Frag} {mg : Str → Option Value} {base : Heap}
/-! ## pageranges.items: place -/
theorem sc_place : FnScope ["end", "count", "default"] ["end", "count", "default"] (defScope s_place) := ⟨rfl, rfl, rfl, by decide +kernel, rfl, by decide +kernel, by decide +kernel⟩
theorem dn_place (t : Top K mg "place" s_place ["end", "count", "default"]) : Dn P w K mg base "place" 1 ["end", "count", "default"] (spD K T_place) := by
  refine dn_of t fun f fd F => okD F sc_place [] (fun ds Q ⟨e, c, o, h, _⟩ => by rw [h]; rfl) (by decide) fun cdv A outer s H E hr => ?_
  refine ⟨_, (dss_cons (ds_if (db_is (dv 0) de_non) (dss_one (ds_ret (dv 2))) dss_nil)
      (dss_one (ds_ret (de_if (db_gt (dv 0) de_int) (dv 0) (de_add (de_add (dv 1) de_int) (dv 0)))))), ?_⟩
  rintro ds Q ⟨e, c, o, rfl, h⟩
  cases e with
  | none => simpa [place] using h
  | some i =>
    by_cases hi : 0 < i
    · simpa [place, hi] using h
    · simpa [place, hi] using h

end
end Pg
namespace Pg
open PySem PySem.Spec PyProof.Rows L2
section
variable {P : Program} {w : World} {K : PySem.W.Frag} {mg : Str → Option Value} {base : Heap}
/-! ## pageranges.items: positions, taken, printed -/
theorem sc_positions : FnScope ["item", "count", "first", "last", "some", "one"] ["item", "count"] (defScope s_positions) := ⟨rfl, rfl, rfl, by decide +kernel, rfl, by decide +kernel, by decide +kernel⟩
theorem dn_positions (t : Top K mg "positions" s_positions ["item", "count"]) (d_place : Dn P w K mg base "place" 1 ["end", "count", "default"] (spD K T_place)) (z_list : mg "list" = none) (z_range : mg "range" = none) :
    Dn P w K mg base "positions" 2 ["item", "count"] (spD K T_positions) := by
  refine dn_of t fun f fd F => okD F sc_positions [] (fun ds Q ⟨t, c, h, _⟩ => by rw [h]; rfl) (by decide) fun cdv A outer s H E hr => ?_
  refine ⟨_, (dss_cons (ds_par 2 3 rfl sc_positions.nd (de_callN d_place hr (ga_cons (de_ixq (dv 0) de_int) (ga_cons (dv 1) (ga_cons de_int ga_nil)))) (de_callN d_place hr (ga_cons (de_ixq (dv 0) de_int) (ga_cons (dv 1) (ga_cons (dv 1) ga_nil)))))
      (dss_cons (ds_set 4 sc_positions.nd (de_if (db_le (dv 2) (dv 3)) (de_F (df_listR3 rfl z_list z_range (ga_cons (dv 2) (ga_cons (de_add (dv 3) de_int) (ga_cons (de_ixq (dv 0) de_int) ga_nil))))) (de_F (df_listR3 rfl z_list z_range (ga_cons (dv 2) (ga_cons (de_sub (dv 3) de_int) (ga_cons (de_neg (de_ixq (dv 0) de_int)) ga_nil)))))))
      (dss_one (ds_ret (de_F (df_comp rfl sc_positions.nd (di_list (dv 4)) (blkOk_by (own := [("one", 5)]) (N := ["item", "count", "first", "last", "some", "one"]) (sc := defScope s_positions) (by decide +kernel)) (fun _ _ _ _ _ => (pg_name (i := 5) sc_positions.nd rfl (Or.inl rfl))) (bd_name 5) (fun _ _ _ _ _ => dt_one (db_lele de_int (dv 5) (dv 1))) (fun _ _ _ _ _ => (dv 5)))))))), ?_⟩
  rintro ds Q ⟨t, c, rfl, ht, hc0, hc1, h⟩
  have h1 := place_lo (c := c) (o := 1) ht.a hc0 (by omega)
  have h2 := place_hi (c := c) (o := 1) ht.a hc0 (by omega)
  have h3 := place_lo (c := c) (o := c) ht.b hc0 (by omega)
  have h4 := place_hi (c := c) (o := c) ht.b hc0 (by omega)
  have hs1 := ht.s1
  have hs3 := ht.s3
  have r1 := rcount_le (i := place t.a c 1) (j := place t.b c c + 1) (c := t.s)
  have r2 := rcount_le (i := place t.a c 1) (j := place t.b c c - 1) (c := -t.s)
  have fin : ∀ (l : List Int), prog (place t.a c 1) (place t.b c c) t.s = l → ∀ ρ : En, ρ.length = 6 → ρ[1]? = some (some (.int c)) → compD (bN 5) (gT (gChain (oIB fun i j => decide (i ≤ j)) (oIB fun i j => decide (i ≤ j)) (gC (PyData.int 1)) (gV 5) (gV 1))) (gV 5) (l.map .int) ρ [] fun ds => Q (.list ds) := by
    intro l e ρ hl h1
    have h5 : ∀ a, (ρ.set 5 (some a))[5]? = some (some a) := fun a => List.getElem?_set_self (by omega)
    have h15 : ∀ a, (ρ.set 5 (some a))[1]? = some (some (.int c)) := fun a => by rw [List.getElem?_set_ne (by decide), h1]
    refine compD_filter _ (fun x => decide (1 ≤ x) && decide (x ≤ c)) .int _ _ _ (fun a _ R R' k1 k2 => ?_) ?_
    · simp [h5, h15]
      by_cases q1 : 1 ≤ a
      · by_cases q2 : a ≤ c
        · simpa [q1, q2] using k1
        · simpa [q1, q2] using k2
      · simpa [q1] using k2
    · unfold poss at h
      rw [e] at h
      simpa using h
  simp [encI, T_place]
  refine ⟨_, _, _, ⟨rfl, rfl, rfl⟩, _, _, _, ⟨rfl, rfl, rfl⟩, ?_⟩
  split
  · refine ⟨_, _, _, ⟨rfl, rfl, rfl⟩, ⟨by omega, by omega, by omega, by omega, by omega⟩, by omega, ?_⟩
    rw [rngC_eq]
    refine fin _ ?_ _ rfl rfl
    unfold prog up
    rw [if_pos (by assumption)]
  · refine ⟨_, _, _, ⟨rfl, rfl, rfl⟩, ⟨by omega, by omega, by omega, by omega, by omega⟩, by omega, ?_⟩
    rw [rngC_eq]
    refine fin _ ?_ _ rfl rfl
    unfold prog dn
    rw [if_neg (by assumption)]
theorem sc_taken : FnScope ["part", "row", "item", "one"] ["part", "row"] (defScope s_taken) := ⟨rfl, rfl, rfl, by decide +kernel, rfl, by decide +kernel, by decide +kernel⟩
theorem dn_taken (t : Top K mg "taken" s_taken ["part", "row"]) (d_positions : Dn P w K mg base "positions" 2 ["item", "count"] (spD K T_positions)) (z_len : mg "len" = none) :
    Dn P w K mg base "taken" 3 ["part", "row"] (spF K T_taken) := by
  refine dn_of t fun f fd F => okF F sc_taken [] (fun ds Q ⟨p, r, h, _⟩ => by rw [h]; rfl) (by decide) fun cdv A outer s H E hr => ?_
  refine ⟨_, (dss_one (ds_retF (df_comp2 rfl sc_taken.nd (di_tup (dv 0)) (blkOk_by (own := [("item", 2), ("one", 3)]) (N := ["part", "row", "item", "one"]) (sc := defScope s_taken) (by decide +kernel)) (fun _ _ _ _ _ => (pg_name (i := 2) sc_taken.nd rfl (Or.inl rfl))) (bd_name 2) (fun _ _ _ _ _ => dt_nil) (fun _ _ _ _ _ => (di_list (de_callN d_positions hr (ga_cons (dv 2) (ga_cons (de_len z_len (dv 1)) ga_nil))))) (fun _ _ _ _ _ => (pg_name (i := 3) sc_taken.nd rfl (Or.inl rfl))) (bd_name 3) (fun _ _ _ _ _ => dt_nil) (fun _ _ _ _ _ => (de_ixq (dv 1) (de_sub (dv 3) de_int)))))), ?_⟩
  rintro ds Q ⟨p, row, rfl, hp, hl, h⟩
  simp
  refine compD2_of encI (fun t => (poss t row.length).map fun x => .int (row.getD (x - 1).toNat 0)) (row.length + 12) p [] _ (fun t ht acc hacc R hR => ?_) (fun t ht => ?_) ?_ ?_
  · have hlen := poss_len (c := row.length) (hp.ok t ht) (by omega)
    simp [T_positions]
    refine ⟨_, _, ⟨rfl, rfl⟩, hp.ok t ht, by omega, by omega, by omega, ?_⟩
    refine compD_map _ (fun x => .int (row.getD (x - 1).toNat 0)) _ _ _ (fun x hx R' hR' => ?_) hR
    have hx1 := mem_poss hx
    have hat : atI (row.map PyData.int) (x - 1) = some (.int (row.getD (x - 1).toNat 0)) := by
      obtain ⟨n, hn⟩ : ∃ n : Nat, x - 1 = n := ⟨(x - 1).toNat, by omega⟩
      rw [hn]
      refine atI_nat ?_
      rw [List.getElem?_map, Int.toNat_natCast, List.getElem?_eq_getElem (by omega), List.getD_eq_getElem?_getD, List.getElem?_eq_getElem (by omega)]
      rfl
    simp
    exact ⟨_, hat, hR'⟩
  · rw [List.length_map]
    have := poss_len (c := row.length) (hp.ok t ht) (by omega)
    omega
  · have : p.length * (row.length + 12) ≤ 3 * (row.length + 12) := Nat.mul_le_mul_right _ hp.hi
    simp
    omega
  · have e : (p.flatMap fun t => (poss t row.length).map fun x => PyData.int (row.getD (x - 1).toNat 0)) = (taken p row).map PyData.int := by
      unfold taken
      rw [List.map_flatMap]
      congr 1
      funext t
      rw [List.map_map]
      rfl
    rw [List.nil_append, e]
    exact h
theorem sc_printed : FnScope ["expression", "number", "row", "part"] ["expression", "number"] (defScope s_printed) := ⟨rfl, rfl, rfl, by decide +kernel, rfl, by decide +kernel, by decide +kernel⟩
theorem dn_printed (t : Top K mg "printed" s_printed ["expression", "number"]) (d_taken : Dn P w K mg base "taken" 3 ["part", "row"] (spF K T_taken)) (z_list : mg "list" = none) (z_range : mg "range" = none) :
    Dn P w K mg base "printed" 4 ["expression", "number"] (spF K T_printed) := by
  refine dn_of t fun f fd F => okF F sc_printed [2] (fun ds Q ⟨p, r, h, _⟩ => by rw [h]; rfl) (by decide) fun cdv A outer s H E hr => ?_
  refine ⟨_, (dss_cons (ds_setO 2 sc_printed.nd (df_listR2 rfl z_list z_range de_int (de_add (dv 1) de_int)))
      (dss_cons (ds_for PassesOwn.never rfl (di_tup (dv 0)) (pg_name (i := 3) sc_printed.nd rfl (Or.inl rfl)) (bd_name 3) (dss_one (ds_setO 2 sc_printed.nd (df_lx (df_callN d_taken hr (ga_cons (dv 3) (ga_cons (dvo 2) ga_nil)))))))
      (dss_one (ds_retO 2)))), ?_⟩
  rintro ds Q ⟨x, n, rfl, hx, hn1, hn2, h⟩
  simp
  refine ⟨by omega, ?_⟩
  refine forD_of encL (fun pre ρ => ∃ z row, ρ = [some (encX x), some (.int n), some (lstI row), z] ∧ row = pre.foldl (fun row p => taken p row) (pages n) ∧ row.length ≤ if pre.length = 0 then 1000 else if pre.length = 1 then 3100 else 10000) x _ (fun pre a post e ρ hI nx hnx => ?_) (fun ρ hI => ?_) ?_
  · obtain ⟨z, row, rfl, hr, hl⟩ := hI
    have hpre : pre.length + 1 + post.length ≤ 2 := by
      have := hx.hi
      rw [e] at this
      simp at this
      omega
    have ha : PartOk a := hx.ok a (by rw [e]; simp)
    have hb := taken_len (row := row) ha
    simp [T_taken]
    refine ⟨_, _, ⟨rfl, rfl⟩, ha, ?_, _, rfl, hnx _ ⟨_, _, rfl, ?_, ?_⟩⟩
    · split at hl
      · omega
      · split at hl <;> omega
    · rw [List.foldl_append, ← hr]
      rfl
    · rw [List.length_append]
      split at hl
      · simp_all
        omega
      · split at hl
        · simp_all
          omega
        · omega
  · obtain ⟨z, row, rfl, hr, hl⟩ := hI
    have e : row = printed x n := hr
    subst e
    simpa using h
  · refine ⟨none, pages n, ?_, rfl, by rw [pages_len]; simp; omega⟩
    have e : (n + 1).toNat - 1 = n.toNat := by omega
    simp [rng_eq, pages, e, -List.map_map]

end
end Pg
namespace Pg
open PySem PySem.Spec PyProof.Rows L2
section
variable {P : Program} {w : World} {K : PySem.W.Frag} {mg : Str → Option Value} {base : Heap}
/-! ## the law's own: what is printed, number by number -/
theorem sc_law_meant : FnScope ["end", "count", "other"] ["end", "count", "other"] (defScope s_law_meant) := ⟨rfl, rfl, rfl, by decide +kernel, rfl, by decide +kernel, by decide +kernel⟩
theorem dn_law_meant (t : Top K mg "_law_meant" s_law_meant ["end", "count", "other"]) : Dn P w K mg base "_law_meant" 1 ["end", "count", "other"] (spD K T_place) := by
  refine dn_of t fun f fd F => okD F sc_law_meant [] (fun ds Q ⟨e, c, o, h, _⟩ => by rw [h]; rfl) (by decide) fun cdv A outer s H E hr => ?_
  refine ⟨_, (dss_cons (ds_if (db_is (dv 0) de_non) (dss_one (ds_ret (dv 2))) dss_nil)
      (dss_one (ds_ret (de_if (db_gt (dv 0) de_int) (dv 0) (de_add (de_add (dv 1) de_int) (dv 0)))))), ?_⟩
  rintro ds Q ⟨e, c, o, rfl, h⟩
  cases e with
  | none => simpa [place] using h
  | some i =>
    by_cases hi : 0 < i
    · simpa [place, hi] using h
    · simpa [place, hi] using h
theorem sc_law_took : FnScope ["part", "row", "found", "first", "last", "step", "at", "end", "down"] ["part", "row"] (defScope s_law_took) := ⟨rfl, rfl, rfl, by decide +kernel, rfl, by decide +kernel, by decide +kernel⟩
def tkD (row : List Int) (l : List Int) : List PyData := (l.filter fun x => decide (1 ≤ x) && decide (x ≤ (row.length : Int))).map fun x => .int (row.getD (x - 1).toNat 0)
theorem tkD_cons {row : List Int} {a : Int} {l : List Int} : tkD row (a :: l) = (if 1 ≤ a ∧ a ≤ (row.length : Int) then [.int (row.getD (a - 1).toNat 0)] else []) ++ tkD row l := by
  unfold tkD
  rw [List.filter_cons]
  by_cases h : 1 ≤ a ∧ a ≤ (row.length : Int)
  · rw [if_pos (by simpa using h), if_pos h]
    rfl
  · rw [if_neg (by simpa using h), if_neg h]
    rfl
theorem tkD_len {row : List Int} {t : Item} (ht : ItemOk t) : (tkD row (prog (place t.a row.length 1) (place t.b row.length row.length) t.s)).length ≤ row.length + 12 := by
  have := poss_len (t := t) (c := row.length) ht (by omega)
  unfold tkD
  rw [List.length_map]
  unfold poss at this
  omega
theorem atI_row {row : List Int} {x : Int} (h1 : 1 ≤ x) (h2 : x ≤ (row.length : Int)) : atI (row.map PyData.int) (x - 1) = some (.int (row.getD (x - 1).toNat 0)) := by
  obtain ⟨n, hn⟩ : ∃ n : Nat, x - 1 = n := ⟨(x - 1).toNat, by omega⟩
  rw [hn]
  refine atI_nat ?_
  rw [List.getElem?_map, Int.toNat_natCast, List.getElem?_eq_getElem (by omega), List.getD_eq_getElem?_getD, List.getElem?_eq_getElem (by omega)]
  rfl
theorem dn_law_took (t : Top K mg "_law_took" s_law_took ["part", "row"]) (d_law_meant : Dn P w K mg base "_law_meant" 1 ["end", "count", "other"] (spD K T_place)) (z_len : mg "len" = none) :
    Dn P w K mg base "_law_took" 2 ["part", "row"] (spF K T_taken) := by
  refine dn_of t fun f fd F => okF F sc_law_took [2] (fun ds Q ⟨p, r, h, _⟩ => by rw [h]; rfl) (by decide) fun cdv A outer s H E hr => ?_
  refine ⟨_, (dss_cons (ds_setO 2 sc_law_took.nd (df_lst ga_nil))
      (dss_cons (ds_for PassesOwn.never rfl (di_tup (dv 0)) (pg_tup rfl (pgs_cons (pg_name (i := 3) sc_law_took.nd rfl (Or.inl rfl)) (pgs_cons (pg_name (i := 4) sc_law_took.nd rfl (Or.inl rfl)) (pgs_cons (pg_name (i := 5) sc_law_took.nd rfl (Or.inl rfl)) pgs_nil)))) (bd_tup3 3 4 5) (dss_cons (ds_par 6 7 rfl sc_law_took.nd (de_callN d_law_meant hr (ga_cons (dv 3) (ga_cons (de_len z_len (dv 1)) (ga_cons de_int ga_nil)))) (de_callN d_law_meant hr (ga_cons (dv 4) (ga_cons (de_len z_len (dv 1)) (ga_cons (de_len z_len (dv 1)) ga_nil)))))
      (dss_cons (ds_set 8 sc_law_took.nd (de_gt (dv 6) (dv 7)))
      (dss_one (ds_while PassesOwn.never (db_ife (db_val (dv 8)) (db_ge (dv 6) (dv 7)) (db_le (dv 6) (dv 7))) (dss_cons (ds_if (db_lele de_int (dv 6) (de_len z_len (dv 1))) (dss_one (ds_app 2 (pe_bm PySem.F.plainAttrs_list PySem.F.slot_list_append PySem.F.type_list_append mt_append (pv 2) (ga_cons (de_ixq (dv 1) (de_sub (dv 6) de_int)) ga_nil)))) dss_nil)
      (dss_one (ds_set 6 sc_law_took.nd (de_if (db_val (dv 8)) (de_sub (dv 6) (dv 5)) (de_add (dv 6) (dv 5)))))))))))
      (dss_one (ds_retO 2)))), ?_⟩
  rintro ds Q ⟨p, row, rfl, hp, hl, h⟩
  simp
  refine forD_of encI (fun pre ρ => ∃ z1 z2 z3 z4 z5 z6, ρ = [some (encL p), some (lstI row), some (.list (pre.flatMap fun t => tkD row (prog (place t.a row.length 1) (place t.b row.length row.length) t.s))), z1, z2, z3, z4, z5, z6]) p _ (fun pre t post e ρ hI nx hnx => ?_) (fun ρ hI => ?_) ⟨_, _, _, _, _, _, rfl⟩
  · obtain ⟨z1, z2, z3, z4, z5, z6, rfl⟩ := hI
    have hpre : pre.length + 1 + post.length ≤ 3 := by
      have := hp.hi
      rw [e] at this
      simp at this
      omega
    have ht : ItemOk t := hp.ok t (by rw [e]; simp)
    have hs1 := ht.s1
    have hflat := flat_len (fun t : Item => tkD row (prog (place t.a row.length 1) (place t.b row.length row.length) t.s)) (row.length + 12) pre fun u hu => tkD_len (hp.ok u (by rw [e]; simp [hu]))
    have hmul : pre.length * (row.length + 12) ≤ 2 * (row.length + 12) := Nat.mul_le_mul_right _ (by omega)
    have htl := tkD_len (row := row) ht
    generalize hacc : (pre.flatMap fun t => tkD row (prog (place t.a row.length 1) (place t.b row.length row.length) t.s)) = acc at hflat ⊢
    have hnx' : ∀ b1 b2 b3 b4 b5 b6, nx [some (encL p), some (lstI row), some (.list (acc ++ tkD row (prog (place t.a row.length 1) (place t.b row.length row.length) t.s))), b1, b2, b3, b4, b5, b6] := fun b1 b2 b3 b4 b5 b6 =>
      hnx _ ⟨b1, b2, b3, b4, b5, b6, by rw [List.flatMap_append, ← hacc]; simp⟩
    simp [T_place]
    refine ⟨_, _, _, ⟨rfl, rfl, rfl⟩, _, _, _, ⟨rfl, rfl, rfl⟩, _, _, _, ⟨rfl, rfl, rfl⟩, ?_⟩
    generalize place t.a row.length 1 = a at htl hnx' ⊢
    generalize place t.b row.length row.length = b at htl hnx' ⊢
    unfold prog at htl hnx'
    by_cases hab : a ≤ b
    · rw [if_pos hab] at htl hnx'
      unfold sWhile
      refine ⟨fun m ρ => ∃ c acc', ρ = [some (encL p), some (lstI row), some (.list acc'), some (encE t.a), some (encE t.b), some (.int t.s), some (.int c), some (.int b), some (.bool false)] ∧ acc' ++ tkD row (up c b t.s) = acc ++ tkD row (up a b t.s) ∧ m = (up c b t.s).length, ⟨_, a, acc, by simp; omega, rfl, rfl⟩, ?_⟩
      rintro m ρ ⟨c, acc', rfl, ha, rfl⟩
      have hlen' : acc'.length ≤ acc.length + row.length + 12 := by
        have := congrArg List.length ha
        simp at this
        omega
      by_cases hc : c ≤ b
      · rw [up_cons hs1 hc, tkD_cons] at ha
        by_cases hin : 1 ≤ c ∧ c ≤ (row.length : Int)
        · rw [if_pos hin] at ha
          obtain ⟨hc1, hc2⟩ := hin
          simp [hc, hc1, hc2]
          refine ⟨by omega, _, atI_row hc1 hc2, _, ?_, _, _, ⟨rfl, rfl⟩, by rw [← ha]; simp, rfl⟩
          rw [up_cons hs1 hc]
          simp
        · rw [if_neg hin] at ha
          have hin' : ¬ (1 ≤ c) ∨ ¬ (c ≤ (row.length : Int)) := by omega
          by_cases hc1 : 1 ≤ c
          · have hc2 : ¬ (c ≤ (row.length : Int)) := by omega
            simp [hc, hc1, hc2]
            refine ⟨_, ?_, _, _, ⟨rfl, rfl⟩, by rw [← ha]; simp, rfl⟩
            rw [up_cons hs1 hc]
            simp
          · simp [hc, hc1]
            refine ⟨_, ?_, _, _, ⟨rfl, rfl⟩, by rw [← ha]; simp, rfl⟩
            rw [up_cons hs1 hc]
            simp
      · rw [up_nil hs1 (by omega)] at ha
        simp [hc]
        have e2 : acc' = acc ++ tkD row (up a b t.s) := by rw [← ha]; simp [tkD]
        rw [e2]
        exact hnx' _ _ _ _ _ _
    · rw [if_neg hab] at htl hnx'
      unfold sWhile
      refine ⟨fun m ρ => ∃ c acc', ρ = [some (encL p), some (lstI row), some (.list acc'), some (encE t.a), some (encE t.b), some (.int t.s), some (.int c), some (.int b), some (.bool true)] ∧ acc' ++ tkD row (dn c b t.s) = acc ++ tkD row (dn a b t.s) ∧ m = (dn c b t.s).length, ⟨_, a, acc, by simp; omega, rfl, rfl⟩, ?_⟩
      rintro m ρ ⟨c, acc', rfl, ha, rfl⟩
      have hlen' : acc'.length ≤ acc.length + row.length + 12 := by
        have := congrArg List.length ha
        simp at this
        omega
      by_cases hc : b ≤ c
      · rw [dn_cons hs1 hc, tkD_cons] at ha
        by_cases hin : 1 ≤ c ∧ c ≤ (row.length : Int)
        · rw [if_pos hin] at ha
          obtain ⟨hc1, hc2⟩ := hin
          simp [hc, hc1, hc2]
          refine ⟨by omega, _, atI_row hc1 hc2, _, ?_, _, _, ⟨rfl, rfl⟩, by rw [← ha]; simp, rfl⟩
          rw [dn_cons hs1 hc]
          simp
        · rw [if_neg hin] at ha
          by_cases hc1 : 1 ≤ c
          · have hc2 : ¬ (c ≤ (row.length : Int)) := by omega
            simp [hc, hc1, hc2]
            refine ⟨_, ?_, _, _, ⟨rfl, rfl⟩, by rw [← ha]; simp, rfl⟩
            rw [dn_cons hs1 hc]
            simp
          · simp [hc, hc1]
            refine ⟨_, ?_, _, _, ⟨rfl, rfl⟩, by rw [← ha]; simp, rfl⟩
            rw [dn_cons hs1 hc]
            simp
      · rw [dn_nil hs1 (by omega)] at ha
        simp [hc]
        have e2 : acc' = acc ++ tkD row (dn a b t.s) := by rw [← ha]; simp [tkD]
        rw [e2]
        exact hnx' _ _ _ _ _ _
  · obtain ⟨z1, z2, z3, z4, z5, z6, rfl⟩ := hI
    have e : (p.flatMap fun t => tkD row (prog (place t.a row.length 1) (place t.b row.length row.length) t.s)) = (taken p row).map PyData.int := by
      unfold taken
      rw [List.map_flatMap]
      congr 1
      funext t
      rw [List.map_map]
      rfl
    rw [e]
    simpa using h
theorem sc_law_shown : FnScope ["expression", "number", "row", "part"] ["expression", "number"] (defScope s_law_shown) := ⟨rfl, rfl, rfl, by decide +kernel, rfl, by decide +kernel, by decide +kernel⟩
theorem dn_law_shown (t : Top K mg "_law_shown" s_law_shown ["expression", "number"]) (d_law_took : Dn P w K mg base "_law_took" 2 ["part", "row"] (spF K T_taken)) (z_list : mg "list" = none) (z_range : mg "range" = none) :
    Dn P w K mg base "_law_shown" 3 ["expression", "number"] (spF K T_printed) := by
  refine dn_of t fun f fd F => okF F sc_law_shown [2] (fun ds Q ⟨p, r, h, _⟩ => by rw [h]; rfl) (by decide) fun cdv A outer s H E hr => ?_
  refine ⟨_, (dss_cons (ds_setO 2 sc_law_shown.nd (df_listR2 rfl z_list z_range de_int (de_add (dv 1) de_int)))
      (dss_cons (ds_for PassesOwn.never rfl (di_tup (dv 0)) (pg_name (i := 3) sc_law_shown.nd rfl (Or.inl rfl)) (bd_name 3) (dss_one (ds_setO 2 sc_law_shown.nd (df_lx (df_callN d_law_took hr (ga_cons (dv 3) (ga_cons (dvo 2) ga_nil)))))))
      (dss_one (ds_retO 2)))), ?_⟩
  rintro ds Q ⟨x, n, rfl, hx, hn1, hn2, h⟩
  simp
  refine ⟨by omega, ?_⟩
  refine forD_of encL (fun pre ρ => ∃ z row, ρ = [some (encX x), some (.int n), some (lstI row), z] ∧ row = pre.foldl (fun row p => taken p row) (pages n) ∧ row.length ≤ if pre.length = 0 then 1000 else if pre.length = 1 then 3100 else 10000) x _ (fun pre a post e ρ hI nx hnx => ?_) (fun ρ hI => ?_) ?_
  · obtain ⟨z, row, rfl, hr, hl⟩ := hI
    have hpre : pre.length + 1 + post.length ≤ 2 := by
      have := hx.hi
      rw [e] at this
      simp at this
      omega
    have ha : PartOk a := hx.ok a (by rw [e]; simp)
    have hb := taken_len (row := row) ha
    simp [T_taken]
    refine ⟨_, _, ⟨rfl, rfl⟩, ha, ?_, _, rfl, hnx _ ⟨_, _, rfl, ?_, ?_⟩⟩
    · split at hl
      · omega
      · split at hl <;> omega
    · rw [List.foldl_append, ← hr]
      rfl
    · rw [List.length_append]
      split at hl
      · simp_all
        omega
      · split at hl
        · simp_all
          omega
        · omega
  · obtain ⟨z, row, rfl, hr, hl⟩ := hI
    have e : row = printed x n := hr
    subst e
    simpa using h
  · refine ⟨none, pages n, ?_, rfl, by rw [pages_len]; simp; omega⟩
    have e : (n + 1).toNat - 1 = n.toNat := by omega
    simp [rng_eq, pages, e, -List.map_map]

end
end Pg
namespace Pg
open PySem PySem.Spec PyProof.Rows L2
section
variable {P : Program} {w : World} {K : PySem.W.Frag} {mg : Str → Option Value} {base : Heap}
/-! ## the law's tape -/
theorem sc_law_draw : FnScope ["tape", "many", "prime", "cell", "found"] ["tape", "many"] (defScope s_law_draw) := ⟨rfl, rfl, rfl, by decide +kernel, rfl, by decide +kernel, by decide +kernel⟩
def T_draw : List PyData → (PyData → Prop) → Prop := fun ds Q => ∃ many : Int, ds = [.int many] ∧ (0 < many ∧ many < 2 ^ 60) ∧ ∀ r : Int, 0 ≤ r → r < many → Q (.int r)
section
variable {σ : L2.St} {H : Hp} {ta tb : TE} {t l : Addr} {xs : List V}
theorem vl_ix {i : Int} {v : V} (h : Val ta σ H (.ref t)) (hb : Val tb σ H (.int i)) (hH : SqL K H t xs) (ha : atI xs i = some v) : Val (tOp (rIxL K) ta tb) σ H v := val_op h hb fun Q q => ⟨t, xs, i, v, rfl, rfl, hH, ha, q⟩
theorem vl_len (h : Val ta σ H (.ref t)) (hH : SqL K H t xs) : Val (tCB (fun xs H Q => ∃ p ys, xs = [V.ref p] ∧ (SqL K H p ys ∨ SqT K H p ys) ∧ Q (.int ys.length) H) (tCons ta tNil)) σ H (.int xs.length) := fun Q q => h _ ⟨t, xs, rfl, .inl hH, q⟩
theorem vl_int {i : Int} (h : Val ta σ H (.int i)) : Val (tCB (fun xs H Q => (∃ i, xs = [V.int i] ∧ Q (.int i) H) ∨ ∃ k, xs = [V.bl k] ∧ Q (.int (if k then 1 else 0)) H) (tCons ta tNil)) σ H (.int i) := fun Q q => h _ (.inl ⟨i, rfl, q⟩)
theorem vl_I0 {f : Int → Int → V} {i j : Int} (ha : Val ta σ H (.int i)) (hb : Val tb σ H (.int j)) : Val (tOp (rI0 f) ta tb) σ H (f i j) := val_op ha hb fun Q q => ⟨i, j, rfl, rfl, q⟩
theorem vl_I {C : Int → Int → Prop} {f : Int → Int → V} {i j : Int} (hc : C i j) (ha : Val ta σ H (.int i)) (hb : Val tb σ H (.int j)) : Val (tOp (rI C f) ta tb) σ H (f i j) := val_op ha hb fun Q q => ⟨i, j, rfl, rfl, hc, q⟩
theorem vl_mod {i j : Int} (hc : 0 < j) (ha : Val ta σ H (.int i)) (hb : Val tb σ H (.int j)) : Val (tOp (rI (fun _ j => 0 < j) fun i j => .int (i % j)) ta tb) σ H (.int (i % j)) := vl_I (C := fun _ j => 0 < j) (f := fun i j => .int (i % j)) hc ha hb
theorem an_I0 {f : Int → Int → Bool} {i j : Int} (ha : Val ta σ H (.int i)) (hb : Val tb σ H (.int j)) : Ans (tTest (tOp (rI0 fun i j => .bl (f i j)) ta tb)) σ H (f i j) := ans_cmp ha hb fun Q q => ⟨i, j, rfl, rfl, q⟩
theorem an_or {a b : TT} {x y : Bool} (h1 : Ans a σ H x) (h2 : Ans b σ H y) : Ans (tOr a b) σ H (x || y) := by
  cases x with
  | true => exact ans_or1 h1
  | false => exact ans_or h1 h2
theorem st_if2 {c : TT} {t1 t2 : TS} {b : Bool} {D : Ends} (h : Ans c σ H b) (h1 : b = true → t1 D σ H) (h2 : b = false → t2 D σ H) : tIfS c t1 t2 D σ H := by
  cases b with
  | true => exact st_yes h (h1 rfl)
  | false => exact st_no h (h2 rfl)
end
abbrev tdInt (te : TE) : TE := tCB (fun xs H Q => (∃ i, xs = [V.int i] ∧ Q (.int i) H) ∨ ∃ k, xs = [V.bl k] ∧ Q (.int (if k then 1 else 0)) H) (tCons te tNil)
abbrev tdLen (K : PySem.W.Frag) (te : TE) : TE := tCB (fun xs H Q => ∃ p ys, xs = [V.ref p] ∧ (SqL K H p ys ∨ SqT K H p ys) ∧ Q (.int ys.length) H) (tCons te tNil)
abbrev tdIx (K : PySem.W.Frag) (i : Int) : TE := tOp (rIxL K) (tVar 0) (tC (.int i))
abbrev tdMod (a b : TE) : TE := tOp (rI (fun _ j => 0 < j) fun i j => .int (i % j)) a b
abbrev tdMul (a b : TE) : TE := tOp (rI CMul fun i j => .int (i * j)) a b
abbrev tdAdd (a b : TE) : TE := tOp (rI0 fun i j => .int (i + j)) a b
def tdTail (K : PySem.W.Frag) : TS := tSeq (tAsg (tdMod (tdInt (tdIx K 2)) (tVar 1)) (L2.gName 4)) (tSeq (tAsg (tOp (rI CDivW fun i j => .int (i / j)) (tdIx K 2) (tVar 1)) (gSub (tVar 0) (tC (.int 2)) rSetL)) (tRet (tVar 4)))
def tdStore (K : PySem.W.Frag) : TS := tSeq (tAsg (tdAdd (tdIx K 1) (tC (.int 1))) (gSub (tVar 0) (tC (.int 1)) rSetL)) (tAsg (tVar 3) (gSub (tVar 0) (tC (.int 2)) rSetL))
def tdMix (K : PySem.W.Frag) : TS := tSeq (tAsg (tdMod (tdInt (tdAdd (tVar 3) (tdMul (tC (.int 1000003)) (tdIx K 1)))) (tVar 2)) (L2.gName 3))
  (tSeq (tAsg (tdMod (tdInt (tdAdd (tdAdd (tdMul (tVar 3) (tVar 3)) (tdMul (tC (.int 1181783497276652981)) (tVar 3))) (tC (.int 2049848353892358983)))) (tVar 2)) (L2.gName 3))
  (tAsg (tdMod (tdInt (tdAdd (tdMul (tVar 3) (tVar 3)) (tC (.int 1442695040888963407)))) (tVar 2)) (L2.gName 3)))
def tdOr (K : PySem.W.Frag) : TS := tIfS (tOr (tTest (tOp (rI0 fun i j => .bl (decide (j ≤ i))) (tdIx K 1) (tdLen K (tdIx K 0)))) (tTest (tOp (rI0 fun i j => .bl (decide (i < j))) (tVar 3) (tOp (rI CPow fun i j => .int (i ^ j.toNat)) (tC (.int 10)) (tC (.int 18)))))) (tdMix K) tNext
theorem dn_law_draw (tp : Top K mg "_law_draw" s_law_draw ["tape", "many"]) (z_len : mg "len" = none) (z_int : mg "int" = none) : Dn P w K mg base "_law_draw" 1 ["tape", "many"] (spT K T_draw) := by
  refine dn_of tp fun f fd F => ?_
  refine F.ok sc_law_draw (fun vs H Q E ⟨M, t, l, vs', ds, P, e, _, _, _, dvs, ⟨many, hm, _⟩, _⟩ => by rw [e, List.length_cons, dpa_len dvs, hm]; rfl) fun cdv A outer s H vs Q E hr ⟨M, t, l, vs', ds, Pp, ev, hM, ⟨ns, n, c, hT, hlt, hL, hlen, hn0, hc0⟩, lv, dvs, ⟨many, hm, ⟨hm0, hm1⟩, hP⟩, q⟩ => ?_
  subst hm
  obtain rfl : vs' = [.int many] := dpa_ints (ns := [many]) dvs
  subst ev
  refine ⟨_, pss_cons (ps_set (i := 2) sc_law_draw.nd rfl (.inl rfl) pe_int)
    (pss_cons (ps_if (pt_cmpR op_lt (pe_ix ix_list (pv 0) pe_int (fun _ _ => rfl)) (pv 1) (nomark _))
      (pss_cons (ps_set (i := 3) sc_law_draw.nd rfl (.inl rfl) pe_int)
      (pss_cons (ps_if (pt_cmpR op_gt (pe_callB call_len_seq (by rfl) z_len PySem.boot_len (pa_cons (pe_ix ix_list (pv 0) pe_int (fun _ _ => rfl)) pa_nil)) pe_int (nomark _))
        (pss_one (ps_set (i := 3) sc_law_draw.nd rfl (.inl rfl) (pe_ix ix_list (pe_ix ix_list (pv 0) pe_int (fun _ _ => rfl)) (pe_op op_mod (pe_callTy call_int1 (by rfl) z_int (by decide +kernel) (pa_cons (pe_ix ix_list (pv 0) pe_int (fun _ _ => rfl)) pa_nil)) (pe_callB call_len_seq (by rfl) z_len PySem.boot_len (pa_cons (pe_ix ix_list (pv 0) pe_int (fun _ _ => rfl)) pa_nil))) (fun _ _ => rfl)))) pss_nil)
      (pss_cons (ps_if (PW.pt (pw_or (pt_cmpR op_ge (pe_ix ix_list (pv 0) pe_int (fun _ _ => rfl)) (pe_callB call_len_seq (by rfl) z_len PySem.boot_len (pa_cons (pe_ix ix_list (pv 0) pe_int (fun _ _ => rfl)) pa_nil)) (nomark _)) (pw_or1 (pt_cmpR op_lt (pv 3) (pe_op op_pow pe_int pe_int) (nomark _)))))
        (pss_cons (ps_set (i := 3) sc_law_draw.nd rfl (.inl rfl) (pe_op op_mod (pe_callTy call_int1 (by rfl) z_int (by decide +kernel) (pa_cons (pe_op op_add (pv 3) (pe_op op_mul pe_int (pe_ix ix_list (pv 0) pe_int (fun _ _ => rfl)))) pa_nil)) (pv 2)))
        (pss_cons (ps_set (i := 3) sc_law_draw.nd rfl (.inl rfl) (pe_op op_mod (pe_callTy call_int1 (by rfl) z_int (by decide +kernel) (pa_cons (pe_op op_add (pe_op op_add (pe_op op_mul (pv 3) (pv 3)) (pe_op op_mul pe_int (pv 3))) pe_int) pa_nil)) (pv 2)))
        (pss_one (ps_set (i := 3) sc_law_draw.nd rfl (.inl rfl) (pe_op op_mod (pe_callTy call_int1 (by rfl) z_int (by decide +kernel) (pa_cons (pe_op op_add (pe_op op_mul (pv 3) (pv 3)) pe_int) pa_nil)) (pv 2)))))) pss_nil)
      (pss_cons (ps_asg (pe_op op_add (pe_ix ix_list (pv 0) pe_int (fun _ _ => rfl)) pe_int) (pg_sub (pv 0) pe_int set_list))
      (pss_one (ps_asg (pv 3) (pg_sub (pv 0) pe_int set_list))))))) pss_nil)
    (pss_cons (ps_set (i := 4) sc_law_draw.nd rfl (.inl rfl) (pe_op op_mod (pe_callTy call_int1 (by rfl) z_int (by decide +kernel) (pa_cons (pe_ix ix_list (pv 0) pe_int (fun _ _ => rfl)) pa_nil)) (pv 1)))
    (pss_cons (ps_asg (pe_op op_fdivW (pe_ix ix_list (pv 0) pe_int (fun _ _ => rfl)) (pv 1)) (pg_sub (pv 0) pe_int set_list))
    (pss_one (ps_ret (pv 4)))))), ?_⟩
  -- what is left behind the tape has a cell
  have tail : ∀ (n' c' : Int) (H' : Hp) (y3 y4 : Option V), 0 ≤ n' → 0 ≤ c' → H' t = some (.lst [.ref l, .int n', .int c']) → RA (some t) H H' →
      tdTail K { nx := fun _ H' => Q .non H', rt := Q } [some (.ref t), some (.int many), some (.int 2305843009213693951), y3, y4] H' := fun n' c' H' y3 y4 hn' hc' hT' r' => by
    have hS : SqL K H' t [.ref l, .int n', .int c'] := .of hT'
    refine st_seq (st_set (vl_mod hm0 (vl_int (vl_ix (val_var rfl) val_c hS atI_2)) (val_var rfl)) ?_)
    refine st_seq ?_
    refine vl_I (show CDivW c' many from wide_div (b := 60) hm0 (by omega) (by decide) (by decide)) (vl_ix (val_var rfl) val_c hS atI_2) (val_var rfl) _ ?_
    refine ⟨.ref t, rfl, t, [.ref l, .int n', .int c'], 2, 2, rfl, rfl, hT', rfl, ?_⟩
    refine ⟨.int (c' % many), rfl, ?_⟩
    refine q _ (hP (c' % many) (Int.emod_nonneg _ (by omega)) (Int.emod_lt_of_pos _ hm0)) _ _ (fun b o hb e => ?_) ⟨ns, n', c' / many, upd_same, hlt, ?_, hlen, hn', Int.ediv_nonneg hc' (by omega)⟩ (.int _)
    · rw [upd_ne (fun z => hb (by rw [z]))]
      exact r' b o hb e
    · rw [upd_ne hlt]
      exact r' l _ (fun z => hlt (by cases z; rfl)) hL
  have hS : SqL K H t [.ref l, .int n, .int c] := .of hT
  have hLS : SqL K H l (ns.map V.int) := .of hL
  refine st_seq (st_set val_c ?_)
  refine st_seq (st_if2 (an_I0 (f := fun i j => decide (i < j)) (vl_ix (val_var rfl) val_c hS atI_2) (val_var rfl)) (fun _ => ?_) fun _ => tail n c H _ _ hn0 hc0 hT .refl)
  refine st_seq (st_set val_c ?_)
  -- the rest of the branch, from any cell
  have rest : ∀ cell : Int, tSeq (tdOr K) (tdStore K) { nx := tdTail K { nx := fun _ H' => Q .non H', rt := Q }, rt := Q } [some (.ref t), some (.int many), some (.int 2305843009213693951), some (.int cell), none] H := fun cell => by
    have store : ∀ cell' : Int, 0 ≤ cell' → tdStore K { nx := tdTail K { nx := fun _ H' => Q .non H', rt := Q }, rt := Q } [some (.ref t), some (.int many), some (.int 2305843009213693951), some (.int cell'), none] H := fun cell' hc' => by
      refine st_seq ?_
      refine vl_I0 (f := fun i j => .int (i + j)) (vl_ix (val_var rfl) val_c hS atI_1) val_c _ ?_
      refine ⟨.ref t, rfl, t, [.ref l, .int n, .int c], 1, 1, rfl, rfl, hT, rfl, ?_⟩
      refine ⟨.int cell', rfl, .ref t, rfl, t, [.ref l, .int (n + 1), .int c], 2, 2, rfl, rfl, upd_same, rfl, ?_⟩
      refine tail (n + 1) cell' _ _ _ (by omega) hc' upd_same fun b o hb e => ?_
      rw [upd_ne (fun z => hb (by rw [z])), upd_ne (fun z => hb (by rw [z]))]
      exact e
    refine st_seq (st_if2 (an_or (an_I0 (f := fun i j => decide (j ≤ i)) (vl_ix (val_var rfl) val_c hS atI_1) (vl_len (vl_ix (val_var rfl) val_c hS atI_0) hLS)) (an_I0 (f := fun i j => decide (i < j)) (val_var rfl) (vl_I (f := fun i j => .int (i ^ j.toNat)) (show CPow 10 18 from ⟨by decide, by decide, by decide⟩) val_c val_c))) (fun _ => ?_) fun hb => ?_)
    · have hp : (0 : Int) < 2305843009213693951 := by decide
      have e1 := Int.emod_nonneg (cell + 1000003 * n) (show (2305843009213693951 : Int) ≠ 0 by decide)
      have e2 := Int.emod_lt_of_pos (cell + 1000003 * n) hp
      refine st_seq (st_set (vl_mod hp (vl_int (vl_I0 (f := fun i j => .int (i + j)) (val_var rfl) (vl_I (f := fun i j => .int (i * j)) (show CMul 1000003 n from .inl ⟨by decide, by decide⟩) val_c (vl_ix (val_var rfl) val_c hS atI_1)))) (val_var rfl)) ?_)
      generalize (cell + 1000003 * n) % 2305843009213693951 = c1 at e1 e2 ⊢
      have e3 := Int.emod_nonneg (c1 * c1 + 1181783497276652981 * c1 + 2049848353892358983) (show (2305843009213693951 : Int) ≠ 0 by decide)
      have e4 := Int.emod_lt_of_pos (c1 * c1 + 1181783497276652981 * c1 + 2049848353892358983) hp
      refine st_seq (st_set (vl_mod hp (vl_int (vl_I0 (f := fun i j => .int (i + j)) (vl_I0 (f := fun i j => .int (i + j)) (vl_I (f := fun i j => .int (i * j)) (show CMul c1 c1 from .inl ⟨by omega, by omega⟩) (val_var rfl) (val_var rfl)) (vl_I (f := fun i j => .int (i * j)) (show CMul 1181783497276652981 c1 from .inl ⟨by decide, by decide⟩) val_c (val_var rfl))) val_c)) (val_var rfl)) ?_)
      generalize (c1 * c1 + 1181783497276652981 * c1 + 2049848353892358983) % 2305843009213693951 = c2 at e3 e4 ⊢
      have e5 := Int.emod_nonneg (c2 * c2 + 1442695040888963407) (show (2305843009213693951 : Int) ≠ 0 by decide)
      refine st_set (vl_mod hp (vl_int (vl_I0 (f := fun i j => .int (i + j)) (vl_I (f := fun i j => .int (i * j)) (show CMul c2 c2 from .inl ⟨by omega, by omega⟩) (val_var rfl) (val_var rfl)) val_c)) (val_var rfl)) ?_
      exact store _ e5
    · refine store cell ?_
      rw [Bool.or_eq_false_iff] at hb
      have := of_decide_eq_false hb.2
      have h18 : ((10 : Int) ^ (18 : Int).toNat) = 1000000000000000000 := by decide
      rw [h18] at this
      omega
  refine st_seq (st_if2 (an_I0 (f := fun i j => decide (j < i)) (vl_len (vl_ix (val_var rfl) val_c hS atI_0) hLS) val_c) (fun hb => ?_) fun _ => rest 0)
  have hl0 : (0 : Int) < ((ns.map V.int).length : Int) := of_decide_eq_true hb
  have hl0' : 0 < ns.length := by rw [List.length_map] at hl0; omega
  have hix : ∃ k : Int, atI (ns.map V.int) (n % ((ns.map V.int).length : Int)) = some (.int k) := by
    have h1 := Int.emod_nonneg n (show ((ns.map V.int).length : Int) ≠ 0 by omega)
    have h2 := Int.emod_lt_of_pos n hl0
    generalize n % ((ns.map V.int).length : Int) = j at h1 h2
    obtain ⟨i, rfl⟩ : ∃ i : Nat, j = i := ⟨j.toNat, by omega⟩
    rw [List.length_map] at h2
    refine ⟨ns[i]'(by omega), atI_nat ?_⟩
    rw [List.getElem?_map, List.getElem?_eq_getElem (by omega)]
    rfl
  obtain ⟨k, hk⟩ := hix
  refine st_set (vl_ix (vl_ix (val_var rfl) val_c hS atI_0) (vl_mod hl0 (vl_int (vl_ix (val_var rfl) val_c hS atI_1)) (vl_len (vl_ix (val_var rfl) val_c hS atI_0) hLS)) hLS hk) ?_
  exact rest k

end
end Pg
namespace Pg
open PySem PySem.Spec PyProof.Rows L2
section
variable {P : Program} {w : World} {K : PySem.W.Frag} {mg : Str → Option Value} {base : Heap}
/-! ## what the law draws -/
theorem sc_law_end : FnScope ["tape"] ["tape"] (defScope s_law_end) := ⟨rfl, rfl, rfl, by decide +kernel, rfl, by decide +kernel, by decide +kernel⟩
def T_end : List PyData → (PyData → Prop) → Prop := fun ds Q => ds = [] ∧ ∀ e, EndOk e → Q (encE e)
theorem dn_law_end (t : Top K mg "_law_end" s_law_end ["tape"]) (d_law_draw : Dn P w K mg base "_law_draw" 1 ["tape", "many"] (spT K T_draw)) : Dn P w K mg base "_law_end" 2 ["tape"] (spT K T_end) := by
  refine dn_of t fun f fd F => okT F sc_law_end [] (fun ds Q h => by rw [h.1]; rfl) (by decide) fun cdv A outer s H E hr => ?_
  refine ⟨_, (dss_one (ds_ret (de_ixq (de_F (df_lst (ga_cons de_non (ga_cons de_int (ga_cons de_int (ga_cons de_int (ga_cons de_int (ga_cons de_int (ga_cons (de_neg de_int) (ga_cons (de_neg de_int) (ga_cons (de_neg de_int) (ga_cons (de_neg de_int) (ga_cons de_non (ga_cons de_int ga_nil)))))))))))))) (de_callNT 0 d_law_draw hr (ga_cons de_int ga_nil))))), ?_⟩
  rintro ds Q ⟨rfl, h⟩
  have ok : ∀ i : Int, i ≠ 0 → -6 ≤ i → i ≤ 6 → Q (.int i) := fun i h1 h2 h3 => h (some i) fun j e => by cases e; exact ⟨h1, h2, h3⟩
  have okn : Q .none := h none fun j e => nomatch e
  simp [T_draw]
  intro r h0 h1
  have : r = 0 ∨ r = 1 ∨ r = 2 ∨ r = 3 ∨ r = 4 ∨ r = 5 ∨ r = 6 ∨ r = 7 ∨ r = 8 ∨ r = 9 ∨ r = 10 ∨ r = 11 := by omega
  rcases this with rfl | rfl | rfl | rfl | rfl | rfl | rfl | rfl | rfl | rfl | rfl | rfl <;> simp <;> first | exact okn | exact ok _ (by decide) (by decide) (by decide)
theorem sc_law_item : FnScope ["tape"] ["tape"] (defScope s_law_item) := ⟨rfl, rfl, rfl, by decide +kernel, rfl, by decide +kernel, by decide +kernel⟩
def T_item : List PyData → (PyData → Prop) → Prop := fun ds Q => ds = [] ∧ ∀ t, ItemOk t → Q (encI t)
theorem dn_law_item (t : Top K mg "_law_item" s_law_item ["tape"]) (d_law_draw : Dn P w K mg base "_law_draw" 1 ["tape", "many"] (spT K T_draw)) (d_law_end : Dn P w K mg base "_law_end" 2 ["tape"] (spT K T_end)) : Dn P w K mg base "_law_item" 3 ["tape"] (spT K T_item) := by
  refine dn_of t fun f fd F => okT F sc_law_item [] (fun ds Q h => by rw [h.1]; rfl) (by decide) fun cdv A outer s H E hr => ?_
  refine ⟨_, (dss_one (ds_ret (de_tup (ga_cons (de_callNT 0 d_law_end hr ga_nil) (ga_cons (de_callNT 0 d_law_end hr ga_nil) (ga_cons (de_ixq (de_F (df_lst (ga_cons de_int (ga_cons de_int (ga_cons de_int (ga_cons de_int (ga_cons de_int ga_nil))))))) (de_callNT 0 d_law_draw hr (ga_cons de_int ga_nil))) ga_nil)))))), ?_⟩
  rintro ds Q ⟨rfl, h⟩
  simp [T_draw, T_end]
  intro a ha b hb r h0 h1
  have ok : ∀ s : Int, 1 ≤ s → s ≤ 3 → Q (.tuple [encE a, encE b, .int s]) := fun s h1 h2 => h ⟨a, b, s⟩ ⟨ha, hb, h1, h2⟩
  have : r = 0 ∨ r = 1 ∨ r = 2 ∨ r = 3 ∨ r = 4 := by omega
  rcases this with rfl | rfl | rfl | rfl | rfl <;> simp <;> exact ok _ (by decide) (by decide)
theorem sc_law_list : FnScope ["tape", "found", "turn"] ["tape"] (defScope s_law_list) := ⟨rfl, rfl, rfl, by decide +kernel, rfl, by decide +kernel, by decide +kernel⟩
def T_list : List PyData → (PyData → Prop) → Prop := fun ds Q => ds = [] ∧ ∀ p, PartOk p → Q (encL p)
theorem dn_law_list (t : Top K mg "_law_list" s_law_list ["tape"]) (d_law_draw : Dn P w K mg base "_law_draw" 1 ["tape", "many"] (spT K T_draw)) (d_law_item : Dn P w K mg base "_law_item" 3 ["tape"] (spT K T_item)) (z_range : mg "range" = none) : Dn P w K mg base "_law_list" 4 ["tape"] (spT K T_list) := by
  refine dn_of t fun f fd F => okT F sc_law_list [] (fun ds Q h => by rw [h.1]; rfl) (by decide) fun cdv A outer s H E hr => ?_
  refine ⟨_, (dss_cons (ds_set 1 sc_law_list.nd (de_tup ga_nil))
      (dss_cons (ds_for PassesOwn.never rfl (di_rng1 z_range (ga_cons (de_add de_int (de_callNT 0 d_law_draw hr (ga_cons de_int ga_nil))) ga_nil)) (pg_name (i := 2) sc_law_list.nd rfl (Or.inl rfl)) (bd_name 2) (dss_one (ds_set 1 sc_law_list.nd (de_catT (dv 1) (de_tup (ga_cons (de_callNT 0 d_law_item hr ga_nil) ga_nil))))))
      (dss_one (ds_ret (dv 1))))), ?_⟩
  rintro ds Q ⟨rfl, h⟩
  simp [T_draw, T_item]
  intro r h0 h1
  refine ⟨by omega, ?_⟩
  rw [rng_eq]
  refine forD_of _ (fun pre ρ => ∃ p z, ρ = [none, some (encL p), z] ∧ p.length = pre.length ∧ ∀ t ∈ p, ItemOk t) _ _ (fun pre a post e ρ hI nx hnx => ?_) (fun ρ hI => ?_) ⟨[], none, rfl, rfl, by simp⟩
  · obtain ⟨p, z, rfl, hl, hok⟩ := hI
    have hlen : pre.length ≤ 3 := by
      have := congrArg List.length e
      simp at this
      omega
    simp [T_item]
    intro t ht
    refine ⟨by omega, hnx _ ⟨p ++ [t], some (.int a), by simp [encL], by simp [hl], fun u hu => ?_⟩⟩
    rcases List.mem_append.mp hu with hu | hu
    · exact hok u hu
    · rw [List.mem_singleton.mp hu]
      exact ht
  · obtain ⟨p, z, rfl, hl, hok⟩ := hI
    simp at hl
    simp
    exact h p ⟨by omega, by omega, hok⟩

end
end Pg
namespace Pg
open PySem PySem.Spec PyProof.Rows L2
section
variable {P : Program} {w : World} {K : PySem.W.Frag} {mg : Str → Option Value} {base : Heap}
/-! ## an expression that the law draws -/
theorem sc_law_expression : FnScope ["tape"] ["tape"] (defScope s_law_expression) := ⟨rfl, rfl, rfl, by decide +kernel, rfl, by decide +kernel, by decide +kernel⟩
def T_expr : List PyData → (PyData → Prop) → Prop := fun ds Q => ds = [] ∧ ∀ x, ExpOk x → Q (encX x)
theorem dn_law_expression (t : Top K mg "_law_expression" s_law_expression ["tape"]) (d_law_draw : Dn P w K mg base "_law_draw" 1 ["tape", "many"] (spT K T_draw)) (d_law_list : Dn P w K mg base "_law_list" 4 ["tape"] (spT K T_list)) : Dn P w K mg base "_law_expression" 5 ["tape"] (spT K T_expr) := by
  refine dn_of t fun f fd F => okT F sc_law_expression [] (fun ds Q h => by rw [h.1]; rfl) (by decide) fun cdv A outer s H E hr => ?_
  refine ⟨_, (dss_one (ds_ret (de_if (db_eq hr (de_callNT 0 d_law_draw hr (ga_cons de_int ga_nil)) de_int) (de_tup (ga_cons (de_callNT 0 d_law_list hr ga_nil) ga_nil)) (de_tup (ga_cons (de_callNT 0 d_law_list hr ga_nil) (ga_cons (de_callNT 0 d_law_list hr ga_nil) ga_nil)))))), ?_⟩
  rintro ds Q ⟨rfl, h⟩
  simp [T_draw, T_list]
  intro r h0 h1
  split
  · exact fun p hp => h [p] ⟨by simp, by simp, fun q hq => by rw [List.mem_singleton.mp hq]; exact hp⟩
  · refine fun p hp q hq => h [p, q] ⟨by simp, by simp, fun u hu => ?_⟩
    simp at hu
    rcases hu with rfl | rfl
    · exact hp
    · exact hq

end
end Pg
namespace Pg
open PySem PySem.Spec PyProof.Rows L2
section
variable {P : Program} {w : World} {K : PySem.W.Frag} {mg : Str → Option Value} {base : Heap}
/-! ## _law_like: equal, with the same kinds at every depth -/
theorem kit_list_tuple : ∀ d, True → ∃ b c, kitB (tyD d) "list" = some b ∧ kitB (tyD d) "tuple" = some c ∧ (isList d || isTuple d) = (b || c) := fun d h => ⟨_, _, kit_list d h, kit_tuple d h, rfl⟩
/-- data of depth below n, its lists not too long -/
def Fit : Nat → PyData → Prop
  | 0, _ => False
  | n + 1, .list l => l.length ≤ 100000 ∧ ∀ d ∈ l, Fit n d
  | n + 1, .tuple l => l.length ≤ 100000 ∧ ∀ d ∈ l, Fit n d
  | _ + 1, .dict _ => False
  | _ + 1, .str s => PyData.strOk s = true
  | _ + 1, _ => True
theorem sc_law_like : FnScope ["one", "two", "k"] ["one", "two"] (defScope s_law_like) := ⟨rfl, rfl, rfl, by decide +kernel, rfl, by decide +kernel, by decide +kernel⟩
def T_like (n : Nat) : List PyData → (PyData → Prop) → Prop := fun ds Q => ∃ x y, ds = [x, y] ∧ Fit n x ∧ Sh 60 y ∧ (x = y → Q (.bool true)) ∧ (x ≠ y → Q (.bool false))
theorem dn_law_like (t : Top K mg "_law_like" s_law_like ["one", "two"]) (z_isinstance : mg "isinstance" = none) (z_list : mg "list" = none) (z_tuple : mg "tuple" = none) (z_bool : mg "bool" = none) (z_len : mg "len" = none) (z_range : mg "range" = none) :
    ∀ n : Nat, n ≤ 60 → Dn P w K mg base "_law_like" n ["one", "two"] (spD K (T_like n)) := by
  intro n
  induction n with
  | zero =>
    intro _
    obtain ⟨f, fd, F, g, b⟩ := t
    refine ⟨f, fd, ⟨fun vs H Q E ⟨M, ds, P, _, _, ⟨x, y, _, h, _⟩, _⟩ => h.elim, fun A outer s H args us vs Q E _ _ _ _ ⟨M, ds, P, _, _, ⟨x, y, _, h, _⟩, _⟩ => h.elim⟩, g, F.kp, b⟩
  | succ n ih =>
    intro hn
    have d_law_like := ih (by omega)
    refine dn_of t fun f fd F => okD F sc_law_like [] (fun ds Q ⟨e, c, h, _⟩ => by rw [h]; rfl) (by decide) fun cdv A outer s H E hr => ?_
    refine ⟨_, (dss_cons (ds_if (db_val (de_isi2 z_isinstance z_list z_tuple (by decide +kernel) (by decide +kernel) kit_list_tuple (dv 0))) (dss_cons (ds_if (db_w (dw_or (db_ne hr (de_isi z_isinstance z_list (by decide +kernel) kit_list (dv 0)) (de_isi z_isinstance z_list (by decide +kernel) kit_list (dv 1))) (dw_or1 (db_ne hr (de_isi z_isinstance z_tuple (by decide +kernel) kit_tuple (dv 0)) (de_isi z_isinstance z_tuple (by decide +kernel) kit_tuple (dv 1)))))) (dss_one (ds_ret de_bl)) dss_nil)
      (dss_cons (ds_if (db_ne hr (de_len z_len (dv 0)) (de_len z_len (dv 1))) (dss_one (ds_ret de_bl)) dss_nil)
      (dss_one (ds_ret (de_eq hr (de_F (df_comp rfl sc_law_like.nd (di_rng1 z_range (ga_cons (de_len z_len (dv 0)) ga_nil)) (blkOk_by (own := [("k", 2)]) (N := ["one", "two", "k"]) (sc := defScope s_law_like) (by decide +kernel)) (fun _ _ _ _ _ => (pg_name (i := 2) sc_law_like.nd rfl (Or.inl rfl))) (bd_name 2) (fun _ _ _ _ _ => dt_one (db_not (db_val (de_callN d_law_like hr (ga_cons (de_ixq (dv 0) (dv 2)) (ga_cons (de_ixq (dv 1) (dv 2)) ga_nil)) (Nat.le_refl _))))) (fun _ _ _ _ _ => (dv 2)))) (de_F (df_lst ga_nil))))))) dss_nil)
      (dss_cons (ds_if (db_val (de_isi2 z_isinstance z_list z_tuple (by decide +kernel) (by decide +kernel) kit_list_tuple (dv 1))) (dss_one (ds_ret de_bl)) dss_nil)
      (dss_one (ds_ret (de_and (de_eq hr (de_isi z_isinstance z_bool (by decide +kernel) kit_bool (dv 0)) (de_isi z_isinstance z_bool (by decide +kernel) kit_bool (dv 1))) (de_one (de_eq hr (dv 0) (dv 1)))))))), ?_⟩
    rintro ds Q ⟨x, y, rfl, hx, hy, h1, h2⟩
    -- two sequences of one kind, item by item
    have seq : ∀ (l m : List PyData) (g : List PyData → PyData), (∀ a, seqD (g a) = some a) → x = g l → y = g m → (∀ d ∈ l, Fit n d) → (∀ d ∈ m, Sh 60 d) → l.length = m.length →
        compD (bN 2) (gNot (gT (gB (T_like n) (gaCons (g2 oIx (gV 0) (gV 2)) (gaCons (g2 oIx (gV 1) (gV 2)) gaNil))))) (gV 2) (rng 0 l.length) [some x, some y, none] [] fun ds => SeqAt.shaped (.list ds) = true ∧ Q (.bool (decide (ds = []))) := by
      intro l m g hg ex ey hl hm hlm
      rw [rng_eq]
      have hgx : seqD x = some l := by rw [ex]; exact hg l
      have hgy : seqD y = some m := by rw [ey]; exact hg m
      refine compD_filter _ (fun k => !(@decide (l[k.toNat]? = m[k.toNat]?) (Classical.propDecidable _))) .int _ _ _ (fun a ha R R' k1 k2 => ?_) ?_
      · obtain ⟨i, hi, rfl⟩ := List.mem_map.mp ha
        have hi := List.mem_range.mp hi
        have e1 : l[i]? = some l[i] := List.getElem?_eq_getElem hi
        have e2 : m[i]? = some m[i] := List.getElem?_eq_getElem (by omega)
        have e0 : ((0 : Int) + (i : Int)).toNat = i := by omega
        rw [e0, e1, e2] at k1 k2
        simp only [Int.zero_add]
        simp [hgx, hgy]
        refine ⟨_, atI_nat e1, _, atI_nat e2, ?_⟩
        refine ⟨_, _, rfl, hl _ (List.getElem_mem _), hm _ (List.getElem_mem _), fun e => .inr ⟨rfl, ?_⟩, fun e => .inl ⟨rfl, ?_⟩⟩
        · exact k2 (by simp [e])
        · have := k1 (by simpa using e)
          simpa using this
      · have hf : ∀ r : List Int, SeqAt.shaped (.list (r.map PyData.int)) = true := fun r => shp_lstI r
        refine ⟨by simpa using hf _, ?_⟩
        by_cases e : x = y
        · have : l = m := by
            have e3 : seqD x = seqD y := by rw [e]
            rw [hgx, hgy] at e3
            exact Option.some.inj e3
          subst this
          simpa using h1 e
        · have hne : l ≠ m := fun z => e (by rw [ex, ey, z])
          have : ∃ i : Nat, i < l.length ∧ l[i]? ≠ m[i]? := Classical.byContradiction fun hno => hne (List.ext_getElem? fun i => by
            by_cases hi : i < l.length
            · exact Classical.byContradiction fun hq => hno ⟨i, hi, hq⟩
            · rw [List.getElem?_eq_none (by omega), List.getElem?_eq_none (by omega)])
          obtain ⟨i, hi, hq⟩ := this
          have hmem : (i : Int) ∈ (((List.range l.length).map fun (i : Nat) => (0 + (i : Int) : Int)).filter fun k => !(@decide (l[k.toNat]? = m[k.toNat]?) (Classical.propDecidable _))) := by
            refine List.mem_filter.mpr ⟨List.mem_map.mpr ⟨i, List.mem_range.mpr hi, by omega⟩, ?_⟩
            simpa using hq
          have hnn := List.ne_nil_of_mem hmem
          rw [List.nil_append, decide_eq_false (fun z => hnn (List.map_eq_nil_iff.mp z))]
          exact h2 e
    cases x with
    | list l =>
      cases y with
      | list m =>
        simp
        by_cases hlm : l.length = m.length
        · have hx1 : l.length ≤ 100000 := hx.1
          refine .inl ⟨by omega, by omega, by omega, ?_⟩
          · exact seq l m .list (fun _ => rfl) rfl rfl hx.2 (fun d hd => (sh_of_list hy d hd).mono (by omega)) hlm
        · exact .inr ⟨by omega, h2 fun e => hlm (by cases e; rfl)⟩
      | dict kvs => exact absurd hy.1 (by simp [PyData.canLay0])
      | _ => simp; exact h2 (by simp)
    | tuple l =>
      cases y with
      | tuple m =>
        simp
        by_cases hlm : l.length = m.length
        · have hx1 : l.length ≤ 100000 := hx.1
          refine .inl ⟨by omega, by omega, by omega, ?_⟩
          · exact seq l m .tuple (fun _ => rfl) rfl rfl hx.2 (fun d hd => (sh_of_tuple hy d hd).mono (by omega)) hlm
        · exact .inr ⟨by omega, h2 fun e => hlm (by cases e; rfl)⟩
      | dict kvs => exact absurd hy.1 (by simp [PyData.canLay0])
      | _ => simp; exact h2 (by simp)
    | dict kvs => exact hx.elim
    | none =>
      cases y with
      | none => simpa using h1
      | dict kvs => exact absurd hy.1 (by simp [PyData.canLay0])
      | list m => simpa using h2
      | tuple m => simpa using h2
      | bool b => simpa using h2
      | int b => simpa [PyData.eqv] using h2
      | str b => simpa [PyData.eqv, hy.ok] using h2
    | bool x =>
      cases y with
      | bool b => by_cases e : x = b <;> simp [e] at h1 h2 ⊢ <;> assumption
      | dict kvs => exact absurd hy.1 (by simp [PyData.canLay0])
      | _ => simpa using h2
    | int x =>
      cases y with
      | int b => by_cases e : x = b <;> simp [e] at h1 h2 ⊢ <;> assumption
      | dict kvs => exact absurd hy.1 (by simp [PyData.canLay0])
      | list m => simpa using h2
      | tuple m => simpa using h2
      | bool b => simpa using h2
      | none => simpa [PyData.eqv] using h2
      | str b => simpa [PyData.eqv, hy.ok] using h2
    | str x =>
      have hsx : SeqAt.shaped (.str x) = true := (sh_str (n := 0) hx).ok
      cases y with
      | str b => by_cases e : x = b <;> simp [e, hsx, hy.ok] at h1 h2 ⊢ <;> simp_all
      | dict kvs => exact absurd hy.1 (by simp [PyData.canLay0])
      | list m => simpa using h2
      | tuple m => simpa using h2
      | bool b => simpa using h2
      | none => simpa [PyData.eqv, hsx] using h2
      | int b => simpa [PyData.eqv, hsx] using h2

end
end Pg
namespace Pg
open PySem PySem.Spec PyProof.Rows L2
theorem printed_nil {n : Int} : printed [] n = pages n := rfl
theorem printed_len {x : Exp} {n : Int} (hx : ExpOk x) (hn : n ≤ 1000) : (printed x n).length ≤ 10000 := by
  have h0 : (pages n).length ≤ 1000 := by rw [pages_len]; omega
  have hhi := hx.hi
  match x, hx, hhi with
  | [], hx, _ => have := hx.lo; simp at this
  | [p], hx, _ =>
    have := taken_len (row := pages n) (hx.ok p (by simp))
    show (taken p (pages n)).length ≤ 10000
    omega
  | [p, q], hx, _ =>
    have h1 := taken_len (row := pages n) (hx.ok p (by simp))
    have h2 := taken_len (row := taken p (pages n)) (hx.ok q (by simp))
    show (taken q (taken p (pages n))).length ≤ 10000
    omega
  | _ :: _ :: _ :: _, _, h => simp at h
theorem fit_int {n : Nat} {i : Int} : Fit (n + 1) (.int i) := True.intro
theorem fit_lstI {n : Nat} {l : List Int} (h : l.length ≤ 100000) : Fit (n + 2) (lstI l) := ⟨by simpa using h, fun d hd => by
  obtain ⟨i, _, rfl⟩ := List.mem_map.mp hd
  exact True.intro⟩
theorem fit_bool {n : Nat} {i : Bool} : Fit (n + 1) (.bool i) := True.intro
theorem fit_none {n : Nat} : Fit (n + 1) .none := True.intro
theorem fit_encE {n : Nat} {e : End} : Fit (n + 1) (encE e) := by cases e <;> exact True.intro
theorem fit_encI {n : Nat} {t : Item} : Fit (n + 2) (encI t) := ⟨by simp, fun d hd => by
  simp at hd
  rcases hd with rfl | rfl | rfl
  · exact fit_encE
  · exact fit_encE
  · exact True.intro⟩
def endOkB (e : End) : Bool := match e with
  | none => true
  | some i => decide (i ≠ 0) && decide (-6 ≤ i) && decide (i ≤ 6)
def itemOkB (t : Item) : Bool := endOkB t.a && endOkB t.b && decide (1 ≤ t.s) && decide (t.s ≤ 3)
def partOkB (p : Part) : Bool := decide (1 ≤ p.length) && decide (p.length ≤ 3) && p.all itemOkB
def expOkB (x : Exp) : Bool := decide (1 ≤ x.length) && decide (x.length ≤ 2) && x.all partOkB
theorem endOk_of {e : End} (h : endOkB e = true) : EndOk e := fun i hi => by
  subst hi
  simp [endOkB] at h
  omega
theorem itemOk_of {e : Item} (h : itemOkB e = true) : ItemOk e := by
  simp [itemOkB] at h
  exact ⟨endOk_of h.1.1.1, endOk_of h.1.1.2, h.1.2, h.2⟩
theorem partOk_of {e : Part} (h : partOkB e = true) : PartOk e := by
  simp only [partOkB, Bool.and_eq_true, decide_eq_true_eq, List.all_eq_true] at h
  exact ⟨h.1.1, h.1.2, fun t ht => itemOk_of (h.2 t ht)⟩
theorem expOk_of {e : Exp} (h : expOkB e = true) : ExpOk e := by
  simp only [expOkB, Bool.and_eq_true, decide_eq_true_eq, List.all_eq_true] at h
  exact ⟨h.1.1, h.1.2, fun t ht => partOk_of (h.2 t ht)⟩
theorem pr {x : Exp} {n : Int} {Q : PyData → Prop} (hx : ExpOk x) (h1 : 1 ≤ n) (h2 : n ≤ 1000) (h : Q (lstI (printed x n))) : T_printed [encX x, .int n] Q := ⟨x, n, rfl, hx, h1, h2, h⟩
theorem prC {x : Exp} {n : Int} {d : PyData} {l : List Int} {Q : PyData → Prop} (hd : encX x = d) (hx : expOkB x = true) (h1 : 1 ≤ n) (h2 : n ≤ 1000) (hl : printed x n = l) (h : Q (lstI l)) : T_printed [d, .int n] Q := by
  subst hd hl
  exact pr (expOk_of hx) h1 h2 h
theorem likeP {x : Exp} {n : Int} (hx : ExpOk x) (hn : n ≤ 1000) {Q : PyData → Prop} (h : Q (.bool true)) : T_like 4 [lstI (printed x n), lstI (printed x n)] Q :=
  ⟨_, _, rfl, fit_lstI (by have := printed_len hx hn; omega), (sh_lstI (n := 0) _).mono (by decide), fun _ => h, fun z => absurd rfl z⟩

end Pg
namespace Pg
open PySem PySem.Spec PyProof.Rows L2
/-! ## alike: the numbers of pages from 1 on -/
theorem atI_map {α : Type} (f : α → PyData) (l : List α) {i : Int} (h0 : 0 ≤ i) (h1 : i < (l.length : Int)) : ∃ a, a ∈ l ∧ l[i.toNat]? = some a ∧ atI (l.map f) i = some (f a) := by
  obtain ⟨n, rfl⟩ : ∃ n : Nat, i = n := ⟨i.toNat, by omega⟩
  have hn : n < l.length := by omega
  refine ⟨l[n], List.getElem_mem _, by rw [Int.toNat_natCast]; exact List.getElem?_eq_getElem hn, atI_nat ?_⟩
  rw [List.getElem?_map, List.getElem?_eq_getElem hn]
  rfl
@[simp] theorem lenD_encX {x : Exp} : lenD (encX x) = some x.length := by simp [encX]
@[simp] theorem lenD_encL {x : Part} : lenD (encL x) = some x.length := by simp [encL]
def upTo (n : Nat) : List Int := (List.range n).map fun (i : Nat) => (1 + (i : Int))
theorem rng_upTo (n : Nat) : rng 1 n = (upTo n).map .int := rng_eq 1 n
theorem mem_upTo {n : Nat} {i : Int} : i ∈ upTo n ↔ 1 ≤ i ∧ i ≤ n := by
  unfold upTo
  rw [List.mem_map]
  constructor
  · rintro ⟨k, hk, rfl⟩
    have := List.mem_range.mp hk
    omega
  · rintro ⟨h1, h2⟩
    exact ⟨(i - 1).toNat, List.mem_range.mpr (by omega), by omega⟩
def partN (x y : Exp) : Option Int := (upTo 150).find? fun n => decide (printed x n ≠ printed y n)
theorem partN_none {x y : Exp} : partN x y = none ↔ ∀ n ∈ upTo 150, printed x n = printed y n := by
  unfold partN
  rw [List.find?_eq_none]
  simp
def rowsN (x : Exp) : List (List Int) := (upTo 150).map (printed x)
theorem rowsN_eq {x y : Exp} : rowsN x = rowsN y ↔ partN x y = none := by
  rw [partN_none]
  unfold rowsN
  rw [List.map_inj_left]
theorem partN_symm {x y : Exp} : partN x y = none ↔ partN y x = none := by
  rw [partN_none, partN_none]
  exact ⟨fun h n hn => (h n hn).symm, fun h n hn => (h n hn).symm⟩
theorem partN_refl {x : Exp} : partN x x = none := partN_none.mpr fun _ _ => rfl
def lstL (l : List (List Int)) : PyData := .list (l.map lstI)
@[simp] theorem lstL_inj {p q : List (List Int)} : lstL p = lstL q ↔ p = q := by
  unfold lstL
  refine ⟨fun e => ?_, fun e => by rw [e]⟩
  injection e with e
  exact map_inj (fun _ _ => lstI_inj.mp) e
theorem noB_lstL (l : List (List Int)) : noB (lstL l) = true := by simp only [lstL, noB]; exact noBA_map noB_lstI l
@[simp] theorem eqv_lstL {a b : List (List Int)} : PyData.eqv (lstL a) (lstL b) = decide (a = b) := eqv_dec noB_lstL (fun _ _ => lstL_inj.mp) a b
theorem sh_lstL {n : Nat} (l : List (List Int)) : Sh (n + 2) (lstL l) := sh_list fun d hd => by
  obtain ⟨t, _, rfl⟩ := List.mem_map.mp hd
  exact sh_lstI t
@[simp] theorem shp_lstL (e : List (List Int)) : SeqAt.shaped (lstL e) = true := (sh_lstL (n := 0) e).ok
theorem likeB {b : Bool} {Q : PyData → Prop} (h : Q (.bool true)) : T_like 4 [.bool b, .bool b] Q := ⟨_, _, rfl, fit_bool, sh_bool, fun _ => h, fun z => absurd rfl z⟩
theorem likeE {b : End} {Q : PyData → Prop} (h : Q (.bool true)) : T_like 4 [encE b, encE b] Q := ⟨_, _, rfl, fit_encE, sh_encE _, fun _ => h, fun z => absurd rfl z⟩
theorem likeI {b : Int} {Q : PyData → Prop} (h : Q (.bool true)) : T_like 4 [.int b, .int b] Q := ⟨_, _, rfl, fit_int, sh_int, fun _ => h, fun z => absurd rfl z⟩
theorem partOk_app {p q : Part} (h1 : 1 ≤ (p ++ q).length) (h2 : (p ++ q).length ≤ 3) (h3 : ∀ t ∈ p, ItemOk t) (h4 : ∀ t ∈ q, ItemOk t) : PartOk (p ++ q) := ⟨h1, h2, fun t ht => (List.mem_append.mp ht).elim (h3 t) (h4 t)⟩

end Pg
namespace Pg
open PySem PySem.Spec PyProof.Rows L2
section
variable {P : Program} {w : World} {K : PySem.W.Frag} {mg : Str → Option Value} {base : Heap}
/-! ## pageranges.items: is_integer, is_end, is_item, is_list, is_expression, of any value -/
def isIntV (v : PyData) (lo hi : Int) : Bool := match v with
  | .int i => decide (lo ≤ i) && decide (i ≤ hi)
  | _ => false
def endV (v : PyData) : Bool := isN v || (isIntV v (-6) 6 && !PyData.eqv v (.int 0))
def itemV (v : PyData) : Bool := match v with
  | .tuple [a, b, s] => endV a && endV b && isIntV s 1 3
  | _ => false
def listV (v : PyData) : Bool := match v with
  | .tuple l => decide (1 ≤ l.length) && decide (l.length ≤ 3) && l.all itemV
  | _ => false
def exprV (v : PyData) : Bool := match v with
  | .tuple l => decide (1 ≤ l.length) && decide (l.length ≤ 2) && l.all listV
  | _ => false
theorem sc_is_integer : FnScope ["value", "low", "high"] ["value", "low", "high"] (defScope s_is_integer) := ⟨rfl, rfl, rfl, by decide +kernel, rfl, by decide +kernel, by decide +kernel⟩
def T_isint : List PyData → (PyData → Prop) → Prop := fun ds Q => ∃ v lo hi, ds = [v, .int lo, .int hi] ∧ Q (.bool (isIntV v lo hi))
theorem dn_is_integer (t : Top K mg "is_integer" s_is_integer ["value", "low", "high"]) (z_isinstance : mg "isinstance" = none) (z_int : mg "int" = none) (z_bool : mg "bool" = none) :
    Dn P w K mg base "is_integer" 1 ["value", "low", "high"] (spD K T_isint) := by
  refine dn_of t fun f fd F => okD F sc_is_integer [] (fun ds Q ⟨v, a, b, h, _⟩ => by rw [h]; rfl) (by decide) fun cdv A outer s H E hr => ?_
  refine ⟨_, (dss_one (ds_ret (de_and (de_isi z_isinstance z_int (by decide +kernel) kit_int (dv 0)) (de_and (de_not (de_isi z_isinstance z_bool (by decide +kernel) kit_bool (dv 0))) (de_one (de_lele (dv 1) (dv 0) (dv 2))))))), ?_⟩
  rintro ds Q ⟨v, lo, hi, rfl, h⟩
  cases v with
  | int i => by_cases h1 : lo ≤ i <;> by_cases h2 : i ≤ hi <;> simpa [isIntV, h1, h2] using h
  | _ => simpa [isIntV, isIntB, isBool] using h
theorem sc_is_end : FnScope ["value"] ["value"] (defScope s_is_end) := ⟨rfl, rfl, rfl, by decide +kernel, rfl, by decide +kernel, by decide +kernel⟩
def T_isend : List PyData → (PyData → Prop) → Prop := fun ds Q => ∃ v, ds = [v] ∧ Q (.bool (endV v))
theorem dn_is_end {tk : Tok} (t : Top K mg "is_end" s_is_end ["value"]) (d_is_integer : Dn P w K mg base "is_integer" 1 ["value", "low", "high"] (spD K T_isint)) (c_MOST_END : mg "MOST_END" = some (.int 6 tk)) :
    Dn P w K mg base "is_end" 2 ["value"] (spD K T_isend) := by
  refine dn_of t fun f fd F => okD F sc_is_end [] (fun ds Q ⟨v, h, _⟩ => by rw [h]; rfl) (by decide) fun cdv A outer s H E hr => ?_
  refine ⟨_, (dss_one (ds_ret (de_or (de_is (dv 0) de_non) (de_one (de_and (de_callN d_is_integer hr (ga_cons (dv 0) (ga_cons (de_neg (de_glob (by rfl) c_MOST_END ⟨_, rfl⟩)) (ga_cons (de_glob (by rfl) c_MOST_END ⟨_, rfl⟩) ga_nil)))) (de_one (de_ne hr (dv 0) de_int))))))), ?_⟩
  rintro ds Q ⟨v, rfl, h⟩
  have hsh : isIntV v (-6) 6 = true → SeqAt.shaped v = true := fun h => by
    cases v with
    | int i => exact shp_int
    | _ => simp [isIntV] at h
  simp [T_isint]
  by_cases h1 : isN v = true
  · simpa [h1, endV] using h
  · simp [h1]
    refine ⟨_, _, _, ⟨rfl, rfl, rfl⟩, ?_⟩
    by_cases h2 : isIntV v (-6) 6 = true
    · rw [if_pos h2]
      exact ⟨hsh h2, by simpa [endV, h1, h2] using h⟩
    · rw [if_neg h2]
      simpa [endV, h1, h2] using h
theorem sc_is_item : FnScope ["value"] ["value"] (defScope s_is_item) := ⟨rfl, rfl, rfl, by decide +kernel, rfl, by decide +kernel, by decide +kernel⟩
def T_isitem : List PyData → (PyData → Prop) → Prop := fun ds Q => ∃ v, ds = [v] ∧ Q (.bool (itemV v))
theorem dn_is_item {tk : Tok} (t : Top K mg "is_item" s_is_item ["value"]) (d_is_end : Dn P w K mg base "is_end" 2 ["value"] (spD K T_isend)) (d_is_integer : Dn P w K mg base "is_integer" 1 ["value", "low", "high"] (spD K T_isint)) (c_MOST_STEP : mg "MOST_STEP" = some (.int 3 tk))
    (z_isinstance : mg "isinstance" = none) (z_tuple : mg "tuple" = none) (z_len : mg "len" = none) : Dn P w K mg base "is_item" 3 ["value"] (spD K T_isitem) := by
  refine dn_of t fun f fd F => okD F sc_is_item [] (fun ds Q ⟨v, h, _⟩ => by rw [h]; rfl) (by decide) fun cdv A outer s H E hr => ?_
  refine ⟨_, (dss_cons (ds_if (db_w (dw_or (db_not (db_val (de_isi z_isinstance z_tuple (by decide +kernel) kit_tuple (dv 0)))) (dw_or1 (db_ne hr (de_len z_len (dv 0)) de_int)))) (dss_one (ds_ret de_bl)) dss_nil)
      (dss_one (ds_ret (de_and (de_callN d_is_end hr (ga_cons (de_ixq (dv 0) de_int) ga_nil)) (de_and (de_callN d_is_end hr (ga_cons (de_ixq (dv 0) de_int) ga_nil)) (de_one (de_callN d_is_integer hr (ga_cons (de_ixq (dv 0) de_int) (ga_cons de_int (ga_cons (de_glob (by rfl) c_MOST_STEP ⟨_, rfl⟩) ga_nil)))))))))), ?_⟩
  rintro ds Q ⟨v, rfl, h⟩
  cases v with
  | tuple l =>
    match l, h with
    | [a, b, c], h =>
      have e0 : atI [a, b, c] 0 = some a := rfl
      have e1 : atI [a, b, c] 1 = some b := rfl
      have e2 : atI [a, b, c] 2 = some c := rfl
      simp [T_isend, T_isint, e0, e1, e2]
      by_cases h1 : endV a = true
      · by_cases h2 : endV b = true
        · simp [h1, h2]
          exact ⟨_, _, _, ⟨rfl, rfl, rfl⟩, by simpa [itemV, h1, h2] using h⟩
        · simpa [itemV, h1, h2] using h
      · simpa [itemV, h1] using h
    | [], h => simpa [itemV] using h
    | [a], h => simpa [itemV] using h
    | [a, b], h => simpa [itemV] using h
    | a :: b :: c :: d :: l, h =>
      have : ¬ ((l.length : Int) + 1 + 1 + 1 + 1 = 3) := by omega
      simpa [itemV, this] using h
  | dict kvs => simpa [itemV, isTuple] using h
  | _ => simpa [itemV] using h
theorem sc_is_list : FnScope ["value", "item"] ["value"] (defScope s_is_list) := ⟨rfl, rfl, rfl, by decide +kernel, rfl, by decide +kernel, by decide +kernel⟩
def T_islist : List PyData → (PyData → Prop) → Prop := fun ds Q => ∃ v, ds = [v] ∧ Q (.bool (listV v))
theorem dn_is_list {tk : Tok} (t : Top K mg "is_list" s_is_list ["value"]) (d_is_item : Dn P w K mg base "is_item" 3 ["value"] (spD K T_isitem)) (c_MOST_ITEMS : mg "MOST_ITEMS" = some (.int 3 tk))
    (z_isinstance : mg "isinstance" = none) (z_tuple : mg "tuple" = none) (z_len : mg "len" = none) (z_all : mg "all" = none) : Dn P w K mg base "is_list" 4 ["value"] (spD K T_islist) := by
  refine dn_of t fun f fd F => okD F sc_is_list [] (fun ds Q ⟨v, h, _⟩ => by rw [h]; rfl) (by decide) fun cdv A outer s H E hr => ?_
  refine ⟨_, (dss_one (ds_ret (de_and (de_isi z_isinstance z_tuple (by decide +kernel) kit_tuple (dv 0)) (de_and (de_lele de_int (de_len z_len (dv 0)) (de_glob (by rfl) c_MOST_ITEMS ⟨_, rfl⟩)) (de_one (de_all rfl z_all (de_F (df_comp rfl sc_is_list.nd (di_tup (dv 0)) (blkOk_by (own := [("item", 1)]) (N := ["value", "item"]) (sc := defScope s_is_list) (by decide +kernel)) (fun _ _ _ _ _ => (pg_name (i := 1) sc_is_list.nd rfl (Or.inl rfl))) (bd_name 1) (fun _ _ _ _ _ => dt_nil) (fun _ _ _ _ _ => (de_callN d_is_item hr (ga_cons (dv 1) ga_nil))))))))))), ?_⟩
  rintro ds Q ⟨v, rfl, h⟩
  cases v with
  | tuple l =>
    simp
    by_cases h1 : (1 : Int) ≤ (l.length : Int)
    · by_cases h2 : (l.length : Int) ≤ 3
      · have e : l = l.map id := by simp
        simp [h1, h2]
        refine ⟨by omega, ?_⟩
        rw [e]
        refine compD_map id (fun v => .bool (itemV v)) _ _ _ (fun v _ R hR => ?_) ?_
        · simp [T_isitem]
          exact hR
        · refine ⟨l.map itemV, by simp, ?_⟩
          have e2 : listV (.tuple l) = (l.map itemV).all id := by
            have a1 : 1 ≤ l.length := by omega
            have a2 : l.length ≤ 3 := by omega
            simp [listV, a1, a2]
          rw [e2] at h
          exact h
      · have : ¬ l.length ≤ 3 := by omega
        simpa [h1, h2, listV, this] using h
    · have : ¬ 1 ≤ l.length := by omega
      simpa [h1, listV, this] using h
  | dict kvs => simpa [listV, isTuple] using h
  | _ => simpa [listV] using h
theorem sc_is_expression : FnScope ["value", "part"] ["value"] (defScope s_is_expression) := ⟨rfl, rfl, rfl, by decide +kernel, rfl, by decide +kernel, by decide +kernel⟩
def T_isexpr : List PyData → (PyData → Prop) → Prop := fun ds Q => ∃ v, ds = [v] ∧ Q (.bool (exprV v))
theorem dn_is_expression {tk : Tok} (t : Top K mg "is_expression" s_is_expression ["value"]) (d_is_list : Dn P w K mg base "is_list" 4 ["value"] (spD K T_islist)) (c_MOST_LISTS : mg "MOST_LISTS" = some (.int 2 tk))
    (z_isinstance : mg "isinstance" = none) (z_tuple : mg "tuple" = none) (z_len : mg "len" = none) (z_all : mg "all" = none) : Dn P w K mg base "is_expression" 5 ["value"] (spD K T_isexpr) := by
  refine dn_of t fun f fd F => okD F sc_is_expression [] (fun ds Q ⟨v, h, _⟩ => by rw [h]; rfl) (by decide) fun cdv A outer s H E hr => ?_
  refine ⟨_, (dss_one (ds_ret (de_and (de_isi z_isinstance z_tuple (by decide +kernel) kit_tuple (dv 0)) (de_and (de_lele de_int (de_len z_len (dv 0)) (de_glob (by rfl) c_MOST_LISTS ⟨_, rfl⟩)) (de_one (de_all rfl z_all (de_F (df_comp rfl sc_is_expression.nd (di_tup (dv 0)) (blkOk_by (own := [("part", 1)]) (N := ["value", "part"]) (sc := defScope s_is_expression) (by decide +kernel)) (fun _ _ _ _ _ => (pg_name (i := 1) sc_is_expression.nd rfl (Or.inl rfl))) (bd_name 1) (fun _ _ _ _ _ => dt_nil) (fun _ _ _ _ _ => (de_callN d_is_list hr (ga_cons (dv 1) ga_nil))))))))))), ?_⟩
  rintro ds Q ⟨v, rfl, h⟩
  cases v with
  | tuple l =>
    simp
    by_cases h1 : (1 : Int) ≤ (l.length : Int)
    · by_cases h2 : (l.length : Int) ≤ 2
      · have e : l = l.map id := by simp
        simp [h1, h2]
        refine ⟨by omega, ?_⟩
        rw [e]
        refine compD_map id (fun v => .bool (listV v)) _ _ _ (fun v _ R hR => ?_) ?_
        · simp [T_islist]
          exact hR
        · refine ⟨l.map listV, by simp, ?_⟩
          have e2 : exprV (.tuple l) = (l.map listV).all id := by
            have a1 : 1 ≤ l.length := by omega
            have a2 : l.length ≤ 2 := by omega
            simp [exprV, a1, a2]
          rw [e2] at h
          exact h
      · have : ¬ l.length ≤ 2 := by omega
        simpa [h1, h2, exprV, this] using h
    · have : ¬ 1 ≤ l.length := by omega
      simpa [h1, exprV, this] using h
  | dict kvs => simpa [exprV, isTuple] using h
  | _ => simpa [exprV] using h

end
end Pg
namespace Pg
open PySem PySem.Spec PyProof.Rows L2
/-! ## all items -/
def allEnds : List End := [none, some 1, some 2, some 3, some 4, some 5, some 6, some (-1), some (-2), some (-3), some (-4), some (-5), some (-6)]
def allItems : List Item := allEnds.flatMap fun a => allEnds.flatMap fun b => [1, 2, 3].map fun s => ⟨a, b, s⟩
theorem allEnds_ok : ∀ e ∈ allEnds, EndOk e := fun e he => endOk_of ((by decide : ∀ e ∈ allEnds, endOkB e = true) e he)
theorem allItems_ok : ∀ t ∈ allItems, ItemOk t := fun t ht => by
  unfold allItems at ht
  obtain ⟨a, ha, ht⟩ := List.mem_flatMap.mp ht
  obtain ⟨b, hb, ht⟩ := List.mem_flatMap.mp ht
  obtain ⟨s, hs, rfl⟩ := List.mem_map.mp ht
  refine ⟨allEnds_ok a ha, allEnds_ok b hb, ?_, ?_⟩
  · exact (by decide : ∀ s ∈ ([1, 2, 3] : List Int), (1 : Int) ≤ s) s hs
  · exact (by decide : ∀ s ∈ ([1, 2, 3] : List Int), s ≤ 3) s hs
theorem allItems_len : allItems.length = 507 := by decide +kernel
def endsD : List PyData := allEnds.map encE
def stepsD (a b : PyData) : List PyData := [1, 2, 3].map fun s : Int => .tuple [a, b, .int s]
theorem allItemsD : (endsD.flatMap fun a => endsD.flatMap fun b => stepsD a b) = allItems.map encI := by
  unfold allItems endsD stepsD
  simp only [List.map_flatMap, List.flatMap_map, List.map_map]
  rfl
theorem rngC_back : rngC (-1) (-1) (rcount (-1) (-7) (-1)) = ([-1, -2, -3, -4, -5, -6] : List Int).map PyData.int := by rfl
theorem rng_six : rng 1 (7 - 1 : Int).toNat = ([1, 2, 3, 4, 5, 6] : List Int).map PyData.int := by rfl

end Pg
namespace Pg
open PySem PySem.Spec PyProof.Rows L2
/-! ## values that are items -/
theorem endV_enc {e : End} (h : EndOk e) : endV (encE e) = true := by
  cases e with
  | none => rfl
  | some i =>
    obtain ⟨h1, h2, h3⟩ := h i rfl
    simp [endV, isIntV, h1, h2, h3]
theorem itemV_enc {t : Item} (h : ItemOk t) : itemV (encI t) = true := by
  have h1 := h.s1
  have h3 := h.s3
  simp [itemV, encI, endV_enc h.a, endV_enc h.b, isIntV, h1, h3]

end Pg
namespace Pg
open PySem PySem.Spec PyProof.Rows L2
section
variable {P : Program} {w : World} {K : PySem.W.Frag} {mg : Str → Option Value} {base : Heap}
/-! ## arbitrary values -/
def leafV : PyData → Prop
  | .none => True
  | .bool _ => True
  | .int _ => True
  | .str s => PyData.strOk s = true ∧ s.cps.toList.length ≤ 100
  | _ => False
def An : Nat → PyData → Prop
  | 0, v => leafV v
  | n + 1, v => leafV v ∨ ∃ l, (v = .list l ∨ v = .tuple l) ∧ l.length ≤ 100 ∧ ∀ d ∈ l, An n d
theorem An.leaf {n : Nat} {v : PyData} (h : leafV v) : An n v := by cases n with
  | zero => exact h
  | succ n => exact .inl h
theorem An.up : ∀ {n : Nat} {v : PyData}, An n v → An (n + 1) v
  | 0, v, h => .inl h
  | n + 1, v, h => by
    rcases h with h | ⟨l, h1, h2, h3⟩
    · exact .inl h
    · exact .inr ⟨l, h1, h2, fun d hd => An.up (h3 d hd)⟩
theorem An.mono {n m : Nat} {v : PyData} (h : An n v) (hm : n ≤ m) : An m v := by
  induction hm with
  | refl => exact h
  | step _ ih => exact ih.up
theorem An.lst {n : Nat} {l : List PyData} (h : l.length ≤ 100) (h2 : ∀ d ∈ l, An n d) : An (n + 1) (.list l) := .inr ⟨l, .inl rfl, h, h2⟩
theorem An.tup {n : Nat} {l : List PyData} (h : l.length ≤ 100) (h2 : ∀ d ∈ l, An n d) : An (n + 1) (.tuple l) := .inr ⟨l, .inr rfl, h, h2⟩
theorem An.sh : ∀ {n : Nat} {v : PyData}, An n v → Sh n v
  | 0, v, h => by
    cases v with
    | none => exact sh_none
    | bool b => exact sh_bool
    | int i => exact sh_int
    | str s => exact sh_str h.1
    | _ => exact h.elim
  | n + 1, v, h => by
    rcases h with h | ⟨l, h1, h2, h3⟩
    · exact (An.sh (n := 0) h).mono (by omega)
    · rcases h1 with rfl | rfl
      · exact sh_list fun d hd => An.sh (h3 d hd)
      · exact sh_tuple fun d hd => An.sh (h3 d hd)
def Clean : Nat → PyData → Prop
  | 0, v => v = .none ∨ ∃ i, v = .int i
  | n + 1, v => (v = .none ∨ ∃ i, v = .int i) ∨ ∃ l, v = .tuple l ∧ l.length ≤ 5 ∧ ∀ d ∈ l, Clean n d
theorem Clean.an : ∀ {n : Nat} {v : PyData}, Clean n v → An n v
  | 0, v, h => by rcases h with rfl | ⟨i, rfl⟩ <;> exact True.intro
  | n + 1, v, h => by
    rcases h with h | ⟨l, rfl, h2, h3⟩
    · rcases h with rfl | ⟨i, rfl⟩ <;> exact .inl True.intro
    · exact An.tup (by omega) fun d hd => Clean.an (h3 d hd)
theorem compD_each {b : Bd} {ge : DE} {ρ : En} {α : Type} (enc : α → PyData) (p : PyData → Prop) : ∀ (l : List α) (acc : List PyData) (P : List PyData → Prop),
    (∀ a ∈ l, ∀ (R : PyData → Prop), (∀ d, p d → R d) → b (enc a) ρ fun ρ' => ge ρ' R) → (∀ ds, ds.length = l.length → (∀ d ∈ ds, p d) → P (acc ++ ds)) → compD b gYes ge (l.map enc) ρ acc P
  | [], acc, P, _, hP => by simpa using hP [] rfl (by simp)
  | a :: l, acc, P, h, hP => by
    rw [List.map_cons]
    have := h a List.mem_cons_self (fun y => compD b gYes ge (l.map enc) ρ (acc ++ [y]) P) fun d hd => compD_each enc p l (acc ++ [d]) P (fun a ha => h a (List.mem_cons_of_mem _ ha)) fun ds hl hds => by
      rw [List.append_assoc]
      exact hP (d :: ds) (by simp [hl]) fun x hx => by
        rcases List.mem_cons.mp hx with rfl | hx
        · exact hd
        · exact hds x hx
    simpa using this
theorem one12_an : An 1 (.tuple [.int 1, .int 2]) := An.tup (by decide) fun d hd => by
  simp at hd
  rcases hd with rfl | rfl <;> exact True.intro

end
end Pg
namespace Pg
open PySem PySem.Spec PyProof.Rows L2
open SX
/-! ## texts of expressions, by their signs -/
def partC (c : Nat) : List Nat → Option (List Nat × List Nat)
  | [] => none
  | x :: r => if x = c then some ([], r) else (partC c r).map fun pq => (x :: pq.1, pq.2)
theorem partC_some {c : Nat} : ∀ {l p q : List Nat}, partC c l = some (p, q) → l = p ++ c :: q ∧ c ∉ p
  | [], _, _, h => by simp [partC] at h
  | x :: r, p, q, h => by
    unfold partC at h
    by_cases e : x = c
    · rw [if_pos e] at h
      cases h
      exact ⟨by rw [e]; rfl, by simp⟩
    · rw [if_neg e] at h
      cases hr : partC c r with
      | none => rw [hr] at h; cases h
      | some pq =>
        obtain ⟨p', q'⟩ := pq
        rw [hr] at h
        cases h
        obtain ⟨h1, h2⟩ := partC_some hr
        refine ⟨by rw [h1]; rfl, fun hm => ?_⟩
        rcases List.mem_cons.mp hm with z | z
        · exact e z.symm
        · exact h2 z
theorem partC_none {c : Nat} : ∀ {l : List Nat}, partC c l = none → c ∉ l
  | [], _ => by simp
  | x :: r, h => by
    unfold partC at h
    by_cases e : x = c
    · rw [if_pos e] at h
      cases h
    · rw [if_neg e] at h
      cases hr : partC c r with
      | some pq => rw [hr] at h; cases h
      | none =>
        intro hm
        rcases List.mem_cons.mp hm with z | z
        · exact e z.symm
        · exact partC_none hr z
theorem part_txt (c : Nat) (l : List Nat) : Txt.partition (S l) (S [c]) = match partC c l with
    | some (p, q) => (S p, S [c], S q)
    | none => (S l, S [], S []) := by
  cases h : partC c l with
  | none => exact partition_none (by simp) (par_head_none (partC_none h))
  | some pq =>
    obtain ⟨p, q⟩ := pq
    obtain ⟨h1, h2⟩ := partC_some h
    refine partition_some (by simp) ?_
    have := par_head (c := c) (sep := []) q h2
    rw [h1]
    exact this
def readEndL : List Nat → Option Int
  | [] => none
  | [c] => if 49 ≤ c ∧ c ≤ 54 then some ((c : Int) - 48) else some 0
  | c :: d :: r => if c = 126 ∧ r = [] ∧ 49 ≤ d ∧ d ≤ 54 then some (-((d : Int) - 48)) else some 0
def endL : End → List Nat
  | none => []
  | some i => if 0 < i then [48 + i.toNat] else [126, 48 + (-i).toNat]
theorem readEnd_of : ∀ {l : List Nat}, readEndL l ≠ some 0 → EndOk (readEndL l) ∧ l = endL (readEndL l)
  | [], _ => ⟨fun i h => (by cases h), rfl⟩
  | [c], h => by
    have e0 : readEndL [c] = if 49 ≤ c ∧ c ≤ 54 then some ((c : Int) - 48) else some 0 := rfl
    rw [e0] at h ⊢
    by_cases e : 49 ≤ c ∧ c ≤ 54
    · rw [if_pos e]
      refine ⟨fun i hi => ?_, ?_⟩
      · cases hi
        omega
      · show [c] = if 0 < ((c : Int) - 48) then [48 + ((c : Int) - 48).toNat] else [126, 48 + (-((c : Int) - 48)).toNat]
        rw [if_pos (by omega)]
        congr 1
        omega
    · rw [if_neg e] at h
      exact absurd rfl h
  | c :: d :: r, h => by
    have e0 : readEndL (c :: d :: r) = if c = 126 ∧ r = [] ∧ 49 ≤ d ∧ d ≤ 54 then some (-((d : Int) - 48)) else some 0 := rfl
    rw [e0] at h ⊢
    by_cases e : c = 126 ∧ r = [] ∧ 49 ≤ d ∧ d ≤ 54
    · rw [if_pos e]
      obtain ⟨rfl, rfl, h1, h2⟩ := e
      refine ⟨fun i hi => ?_, ?_⟩
      · cases hi
        omega
      · show [126, d] = if 0 < (-((d : Int) - 48)) then [48 + (-((d : Int) - 48)).toNat] else [126, 48 + (-(-((d : Int) - 48))).toNat]
        rw [if_neg (by omega)]
        congr 2
        omega
    · rw [if_neg e] at h
      exact absurd rfl h
def bodyL (body : List Nat) (s : Int) : Option Item := match partC 45 body with
  | some (f, l) => if readEndL f = readEndL l ∧ readEndL f ≠ none then none else some ⟨readEndL f, readEndL l, s⟩
  | none => if body = [] then none else some ⟨readEndL body, readEndL body, s⟩
def readItemL (l : List Nat) : Option Item := match partC 58 l with
  | some (body, step) => if step = [50] then bodyL body 2 else if step = [51] then bodyL body 3 else none
  | none => bodyL l 1
def itemL (t : Item) : List Nat := (if t.a = t.b ∧ t.a ≠ none then endL t.a else endL t.a ++ [45] ++ endL t.b) ++ (if t.s = 1 then [] else [58, 48 + t.s.toNat])
def exprL (x : Exp) : List Nat := TL.joinL [124] (x.map fun p => TL.joinL [44] (p.map itemL))
theorem bodyL_of {body : List Nat} {s : Int} {t : Item} (h : bodyL body s = some t) (ha : EndOk t.a) (hb : EndOk t.b) : t.s = s ∧ body = (if t.a = t.b ∧ t.a ≠ none then endL t.a else endL t.a ++ [45] ++ endL t.b) := by
  have ne0 : ∀ {e : End}, EndOk e → e ≠ some 0 := fun {e} he z => (he 0 z).1 rfl
  unfold bodyL at h
  cases hp : partC 45 body with
  | some pq =>
    obtain ⟨f, l⟩ := pq
    rw [hp] at h
    simp only at h
    obtain ⟨h1, _⟩ := partC_some hp
    by_cases e : readEndL f = readEndL l ∧ readEndL f ≠ none
    · rw [if_pos e] at h; cases h
    · rw [if_neg e] at h
      cases h
      refine ⟨rfl, ?_⟩
      simp only
      rw [if_neg e, h1]
      have e1 : f = endL (readEndL f) := (readEnd_of (ne0 ha)).2
      have e2 : l = endL (readEndL l) := (readEnd_of (ne0 hb)).2
      rw [← e1, ← e2]
      simp
  | none =>
    rw [hp] at h
    simp only at h
    by_cases e : body = []
    · rw [if_pos e] at h; cases h
    · rw [if_neg e] at h
      cases h
      refine ⟨rfl, ?_⟩
      have e1 : body = endL (readEndL body) := (readEnd_of (ne0 ha)).2
      have hnn : readEndL body ≠ none := fun z => e (by rw [e1, z]; rfl)
      show body = if readEndL body = readEndL body ∧ readEndL body ≠ none then endL (readEndL body) else _
      rw [if_pos ⟨rfl, hnn⟩]
      exact e1
theorem readItem_of {l : List Nat} {t : Item} (h : readItemL l = some t) (ht : ItemOk t) : l = itemL t := by
  unfold readItemL at h
  cases hp : partC 58 l with
  | some pq =>
    obtain ⟨body, step⟩ := pq
    rw [hp] at h
    simp only at h
    obtain ⟨h1, _⟩ := partC_some hp
    by_cases e2 : step = [50]
    · rw [if_pos e2] at h
      obtain ⟨hs, hb⟩ := bodyL_of h ht.a ht.b
      unfold itemL
      rw [h1, ← hb, hs, e2]
      rfl
    · rw [if_neg e2] at h
      by_cases e3 : step = [51]
      · rw [if_pos e3] at h
        obtain ⟨hs, hb⟩ := bodyL_of h ht.a ht.b
        unfold itemL
        rw [h1, ← hb, hs, e3]
        rfl
      · rw [if_neg e3] at h
        cases h
  | none =>
    rw [hp] at h
    simp only at h
    obtain ⟨hs, hb⟩ := bodyL_of h ht.a ht.b
    unfold itemL
    rw [← hb, hs]
    simp
theorem readItem_all : ∀ t ∈ allItems, readItemL (itemL t) = some t := by decide +kernel
theorem allEnds_mem {e : End} (h : EndOk e) : e ∈ allEnds := by
  cases e with
  | none => decide
  | some i =>
    obtain ⟨h1, h2, h3⟩ := h i rfl
    have : i = 1 ∨ i = 2 ∨ i = 3 ∨ i = 4 ∨ i = 5 ∨ i = 6 ∨ i = -1 ∨ i = -2 ∨ i = -3 ∨ i = -4 ∨ i = -5 ∨ i = -6 := by omega
    rcases this with rfl | rfl | rfl | rfl | rfl | rfl | rfl | rfl | rfl | rfl | rfl | rfl <;> decide
theorem allItems_mem {t : Item} (h : ItemOk t) : t ∈ allItems := by
  unfold allItems
  refine List.mem_flatMap.mpr ⟨t.a, allEnds_mem h.a, List.mem_flatMap.mpr ⟨t.b, allEnds_mem h.b, List.mem_map.mpr ⟨t.s, ?_, rfl⟩⟩⟩
  have h1 := h.s1
  have h3 := h.s3
  have : t.s = 1 ∨ t.s = 2 ∨ t.s = 3 := by omega
  rcases this with e | e | e <;> rw [e] <;> decide
theorem readItem_text {t : Item} (h : ItemOk t) : readItemL (itemL t) = some t := readItem_all t (allItems_mem h)
def knownL (w : List Nat) : Option Item := allItems.find? fun t => decide (itemL t = w)
def itemD : Option Item → PyData
  | none => .tuple []
  | some t => encI t
def knownD : Option Item → PyData
  | none => .none
  | some t => encI t
theorem known_some {w : List Nat} {t : Item} (h : knownL w = some t) : ItemOk t ∧ readItemL w = some t := by
  have h1 := List.find?_some h
  have h2 := List.mem_of_find?_eq_some h
  have e : itemL t = w := of_decide_eq_true h1
  exact ⟨allItems_ok t h2, by rw [← e]; exact readItem_all t h2⟩
theorem known_of {w : List Nat} {t : Item} (h : readItemL w = some t) (ht : ItemOk t) : knownL w = some t := by
  cases hk : knownL w with
  | none =>
    have := List.find?_eq_none.mp hk t (allItems_mem ht)
    exact absurd (decide_eq_true (readItem_of h ht).symm) this
  | some t' =>
    have := (known_some hk).2
    rw [h] at this
    exact this.symm
theorem endV_ok {e : End} (h : endV (encE e) = true) : EndOk e := fun i hi => by
  subst hi
  simp [endV, isIntV] at h
  omega
theorem itemV_ok {t : Item} (h : itemV (encI t) = true) : ItemOk t := by
  simp only [itemV, encI, Bool.and_eq_true] at h
  obtain ⟨⟨h1, h2⟩, h3⟩ := h
  simp [isIntV] at h3
  exact ⟨endV_ok h1, endV_ok h2, h3.1, h3.2⟩
theorem word_same (w : List Nat) : itemV (itemD (readItemL w)) = itemV (knownD (knownL w)) ∧ (itemV (itemD (readItemL w)) = true → itemD (readItemL w) = knownD (knownL w)) := by
  cases hr : readItemL w with
  | none =>
    cases hk : knownL w with
    | none => exact ⟨rfl, fun h => by simp [itemD, itemV] at h⟩
    | some t =>
      have := (known_some hk).2
      rw [hr] at this
      cases this
  | some t =>
    by_cases ht : itemV (encI t) = true
    · have := known_of hr (itemV_ok ht)
      rw [this]
      exact ⟨rfl, fun _ => rfl⟩
    · cases hk : knownL w with
      | none => exact ⟨by simp only [itemD, knownD]; rw [Bool.eq_false_iff.mpr ht]; rfl, fun h => absurd h ht⟩
      | some t' =>
        obtain ⟨h1, h2⟩ := known_some hk
        rw [hr] at h2
        cases h2
        exact absurd (itemV_enc h1) ht
def partsD (f : List Nat → PyData) (W : List (List (List Nat))) : PyData := .tuple (W.map fun ws => .tuple (ws.map f))
theorem all_same {α : Type} {f g : α → Bool} {l : List α} (h : ∀ a ∈ l, f a = g a) : l.all f = l.all g := by
  induction l with
  | nil => rfl
  | cons a l ih => rw [List.all_cons, List.all_cons, h a List.mem_cons_self, ih fun b hb => h b (List.mem_cons_of_mem _ hb)]
theorem expr_same (W : List (List (List Nat))) : exprV (partsD (fun w => itemD (readItemL w)) W) = exprV (partsD (fun w => knownD (knownL w)) W) ∧
    (exprV (partsD (fun w => itemD (readItemL w)) W) = true → partsD (fun w => itemD (readItemL w)) W = partsD (fun w => knownD (knownL w)) W) := by
  have hl : ∀ ws : List (List Nat), listV (.tuple (ws.map fun w => itemD (readItemL w))) = listV (.tuple (ws.map fun w => knownD (knownL w))) ∧ (listV (.tuple (ws.map fun w => itemD (readItemL w))) = true → (ws.map fun w => itemD (readItemL w)) = ws.map fun w => knownD (knownL w)) := fun ws => by
    refine ⟨?_, fun h => ?_⟩
    · unfold listV
      simp only [List.length_map, List.all_map]
      congr 1
      exact all_same fun w _ => (word_same w).1
    · unfold listV at h
      simp only [List.length_map, List.all_map, Bool.and_eq_true, List.all_eq_true] at h
      exact List.map_congr_left fun w hw => (word_same w).2 (h.2 w hw)
  refine ⟨?_, fun h => ?_⟩
  · unfold exprV partsD
    simp only [List.length_map, List.all_map]
    congr 1
    exact all_same fun ws _ => (hl ws).1
  · unfold exprV partsD at h
    simp only [List.length_map, List.all_map, Bool.and_eq_true, List.all_eq_true] at h
    unfold partsD
    congr 1
    exact List.map_congr_left fun ws hw => by rw [(hl ws).2 (h.2 ws hw)]

end Pg
namespace Pg
open PySem PySem.Spec PyProof.Rows L2
section
variable {P : Program} {w : World} {K : PySem.W.Frag} {mg : Str → Option Value} {base : Heap}
open SX
/-! ## pageranges.texts -/
theorem oft_int {i : Int} (h : EndOk (some i)) (h0 : 0 < i) : (Str.ofString (toString i)) = S (endL (some i)) := by
  obtain ⟨h1, h2, h3⟩ := h i rfl
  have : i = 1 ∨ i = 2 ∨ i = 3 ∨ i = 4 ∨ i = 5 ∨ i = 6 := by omega
  rcases this with rfl | rfl | rfl | rfl | rfl | rfl <;> rfl
theorem of_nil : Str.ofString "" = S [] := rfl
theorem of_tilde : Str.ofString "~" = S [126] := rfl
theorem of_dash : Str.ofString "-" = S [45] := rfl
theorem of_colon : Str.ofString ":" = S [58] := rfl
theorem of_comma : Str.ofString "," = S [44] := rfl
theorem of_bar : Str.ofString "|" = S [124] := rfl
theorem of_empty : Str.empty = S [] := rfl
theorem szS {a : List Nat} (h : a.length ≤ 100000) : (S a).length ≤ sizeLine := by rw [S_len]; exact sz h
theorem endL_len (e : End) : (endL e).length ≤ 2 := by
  cases e with
  | none => simp [endL]
  | some i => unfold endL; dsimp only; split <;> simp
theorem itemL_len (t : Item) : (itemL t).length ≤ 7 := by
  have h1 := endL_len t.a
  have h2 := endL_len t.b
  unfold itemL
  rw [List.length_append]
  have h3 : (if t.a = t.b ∧ t.a ≠ none then endL t.a else endL t.a ++ [45] ++ endL t.b).length ≤ 5 := by
    split
    · omega
    · simp only [List.length_append, List.length_singleton]; omega
  have h4 : (if t.s = 1 then ([] : List Nat) else [58, 48 + t.s.toNat]).length ≤ 2 := by split <;> simp
  omega
theorem sc_end_text : FnScope ["end"] ["end"] (defScope s_end_text) := ⟨rfl, rfl, rfl, by decide +kernel, rfl, by decide +kernel, by decide +kernel⟩
def T_endt : List PyData → (PyData → Prop) → Prop := fun ds Q => ∃ e, ds = [encE e] ∧ EndOk e ∧ Q (.str (S (endL e)))
theorem dn_end_text (t : Top K mg "end_text" s_end_text ["end"]) (z_str : mg "str" = none) : Dn P w K mg base "end_text" 1 ["end"] (spD K T_endt) := by
  refine dn_of t fun f fd F => okD F sc_end_text [] (fun ds Q ⟨p, h, _⟩ => by rw [h]; rfl) (by decide) fun cdv A outer s H E hr => ?_
  refine ⟨_, (dss_cons (ds_if (db_is (dv 0) de_non) (dss_one (ds_ret de_str)) dss_nil)
      (dss_one (ds_ret (de_if (db_gt (dv 0) de_int) (de_strc z_str (dv 0)) (de_js (PDJ.cons de_str (PDJ.cons (de_fmt (de_neg (dv 0))) PDJ.nil))))))), ?_⟩
  rintro ds Q ⟨e, rfl, he, h⟩
  cases e with
  | none =>
    simp [of_nil]
    exact h
  | some i =>
    obtain ⟨h1, h2, h3⟩ := he i rfl
    have hi : i = 1 ∨ i = 2 ∨ i = 3 ∨ i = 4 ∨ i = 5 ∨ i = 6 ∨ i = -1 ∨ i = -2 ∨ i = -3 ∨ i = -4 ∨ i = -5 ∨ i = -6 := by omega
    simp
    rcases hi with rfl | rfl | rfl | rfl | rfl | rfl | rfl | rfl | rfl | rfl | rfl | rfl
    · exact ⟨by decide, h⟩
    · exact ⟨by decide, h⟩
    · exact ⟨by decide, h⟩
    · exact ⟨by decide, h⟩
    · exact ⟨by decide, h⟩
    · exact ⟨by decide, h⟩
    · exact ⟨by decide, by decide, by decide, h⟩
    · exact ⟨by decide, by decide, by decide, h⟩
    · exact ⟨by decide, by decide, by decide, h⟩
    · exact ⟨by decide, by decide, by decide, h⟩
    · exact ⟨by decide, by decide, by decide, h⟩
    · exact ⟨by decide, by decide, by decide, h⟩
theorem endtI {e : End} {Q : PyData → Prop} (he : EndOk e) (h : Q (.str (S (endL e)))) : T_endt [encE e] Q := ⟨e, rfl, he, h⟩
theorem sc_item_text : FnScope ["item", "first", "last", "step", "text"] ["item"] (defScope s_item_text) := ⟨rfl, rfl, rfl, by decide +kernel, rfl, by decide +kernel, by decide +kernel⟩
def T_itemt : List PyData → (PyData → Prop) → Prop := fun ds Q => ∃ t, ds = [encI t] ∧ ItemOk t ∧ Q (.str (S (itemL t)))
theorem dn_item_text (t : Top K mg "item_text" s_item_text ["item"]) (d_end_text : Dn P w K mg base "end_text" 1 ["end"] (spD K T_endt)) : Dn P w K mg base "item_text" 2 ["item"] (spD K T_itemt) := by
  refine dn_of t fun f fd F => okD F sc_item_text [] (fun ds Q ⟨p, h, _⟩ => by rw [h]; rfl) (by decide) fun cdv A outer s H E hr => ?_
  refine ⟨_, (dss_cons (ds_asg (dv 0) (pg_tup rfl (pgs_cons (pg_name (i := 1) sc_item_text.nd rfl (Or.inl rfl)) (pgs_cons (pg_name (i := 2) sc_item_text.nd rfl (Or.inl rfl)) (pgs_cons (pg_name (i := 3) sc_item_text.nd rfl (Or.inl rfl)) pgs_nil)))) (bd_tup3 1 2 3))
      (dss_cons (ds_if (db_w (dw_and (db_eq hr (dv 1) (dv 2)) (dw_and1 (db_isnot (dv 1) de_non)))) (dss_one (ds_set 4 sc_item_text.nd (de_callN d_end_text hr (ga_cons (dv 1) ga_nil)))) (dss_one (ds_set 4 sc_item_text.nd (de_js (PDJ.cons (de_fmt (de_callN d_end_text hr (ga_cons (dv 1) ga_nil))) (PDJ.cons de_str (PDJ.cons (de_fmt (de_callN d_end_text hr (ga_cons (dv 2) ga_nil))) PDJ.nil)))))))
      (dss_one (ds_ret (de_if (db_eq hr (dv 3) de_int) (dv 4) (de_js (PDJ.cons (de_fmt (dv 4)) (PDJ.cons de_str (PDJ.cons (de_fmt (dv 3)) PDJ.nil))))))))), ?_⟩
  rintro ds Q ⟨t, rfl, ht, h⟩
  have ha := endL_len t.a
  have hb := endL_len t.b
  show sSeq _ _ _ _
  refine seq_inv (fun ρ => ρ = [some (encI t), some (encE t.a), some (encE t.b), some (.int t.s), none]) (fun G hG => ?_) ?_
  · simp [-encI_tup]
    exact ⟨_, _, _, rfl, hG _ rfl⟩
  rintro _ rfl
  refine seq_inv (fun ρ => ρ = [some (encI t), some (encE t.a), some (encE t.b), some (.int t.s), some (.str (S (if t.a = t.b ∧ t.a ≠ none then endL t.a else endL t.a ++ [45] ++ endL t.b)))]) (fun G hG => ?_) ?_
  · have both : ∀ R : PyData → Prop, R (.str (S (endL t.a ++ [45] ++ endL t.b))) → ((∃ y : Str, PyData.str (S (endL t.a)) = .str y ∧ y.length ≤ sizeLine ∧ (Str.empty ++ y).length ≤ sizeLine ∧ (Str.empty ++ y ++ Str.ofString "-").length ≤ sizeLine ∧
        T_endt [encE t.b] fun d => (∃ y1 : Str, d = .str y1 ∧ y1.length ≤ sizeLine ∧ (Str.empty ++ y ++ Str.ofString "-" ++ y1).length ≤ sizeLine ∧ R (.str (Str.empty ++ y ++ Str.ofString "-" ++ y1))) ∨
          ∃ i : Int, d = .int i ∧ i.natAbs.log2 < 1920 ∧ (Str.empty ++ y ++ Str.ofString "-" ++ Str.ofString i.repr).length ≤ sizeLine ∧ R (.str (Str.empty ++ y ++ Str.ofString "-" ++ Str.ofString i.repr)))) := fun R hR => by
      refine ⟨_, rfl, szS (by omega), (by simp only [of_empty, of_dash, of_colon, S_cat]; exact szS (by simp; omega)), (by simp only [of_empty, of_dash, of_colon, S_cat]; exact szS (by simp; omega)), endtI ht.b (.inl ⟨_, rfl, szS (by omega), (by simp only [of_empty, of_dash, of_colon, S_cat]; exact szS (by simp; omega)), ?_⟩)⟩
      simp only [of_empty, of_dash, S_cat]
      exact hR
    simp
    by_cases hab : t.a = t.b
    · rw [if_pos hab]
      by_cases hn : t.a = none
      · refine .inl ⟨by rw [hn]; rfl, endtI ht.a (.inl (both (fun d => G [some (encI t), some (encE t.a), some (encE t.b), some (.int t.s), some d]) ?_))⟩
        exact hG _ (by rw [if_neg (fun z => z.2 hn)])
      · refine .inr ⟨by cases ha' : t.a with
          | none => exact absurd ha' hn
          | some i => rfl, endtI ht.a ?_⟩
        exact hG _ (by rw [if_pos ⟨hab, hn⟩])
    · rw [if_neg hab]
      refine endtI ht.a (.inl (both (fun d => G [some (encI t), some (encE t.a), some (encE t.b), some (.int t.s), some d]) ?_))
      exact hG _ (by rw [if_neg (fun z => hab z.1)])
  rintro _ rfl
  have hl : (if t.a = t.b ∧ t.a ≠ none then endL t.a else endL t.a ++ [45] ++ endL t.b).length ≤ 5 := by
    split
    · omega
    · simp only [List.length_append, List.length_singleton]; omega
  unfold itemL at h
  generalize (if t.a = t.b ∧ t.a ≠ none then endL t.a else endL t.a ++ [45] ++ endL t.b) = body at h hl
  have h1 := ht.s1
  have h3 := ht.s3
  simp
  by_cases e1 : t.s = 1
  · rw [if_pos e1]
    rw [if_pos e1, List.append_nil] at h
    exact h
  · rw [if_neg e1]
    rw [if_neg e1] at h
    have hs : Str.ofString t.s.repr = S [48 + t.s.toNat] ∧ t.s.natAbs.log2 < 1920 := by
      have : t.s = 2 ∨ t.s = 3 := by omega
      rcases this with e | e <;> rw [e] <;> exact ⟨rfl, by decide⟩
    rw [hs.1]
    refine ⟨szS (by omega), (by simp only [of_empty, of_dash, of_colon, S_cat]; exact szS (by simp; omega)), (by simp only [of_empty, of_dash, of_colon, S_cat]; exact szS (by simp; omega)), hs.2, (by simp only [of_empty, of_dash, of_colon, S_cat]; exact szS (by simp; omega)), ?_⟩
    simp only [of_empty, of_colon, S_cat]
    simpa using h
theorem itemtI {t : Item} {Q : PyData → Prop} (he : ItemOk t) (h : Q (.str (S (itemL t)))) : T_itemt [encI t] Q := ⟨t, rfl, he, h⟩
theorem sum_le (B : Nat) : ∀ l : List (List Nat), (∀ p ∈ l, p.length ≤ B) → (l.map (·.length)).sum ≤ l.length * B
  | [], _ => by simp
  | p :: l, h => by
    rw [List.map_cons, List.sum_cons, List.length_cons, Nat.succ_mul]
    have h1 := h p List.mem_cons_self
    have h2 := sum_le B l fun q hq => h q (List.mem_cons_of_mem _ hq)
    omega
theorem joinL_len (c : Nat) : ∀ l : List (List Nat), (TL.joinL [c] l).length ≤ (l.map (·.length)).sum + l.length
  | [] => by simp [TL.joinL]
  | [p] => by simp [TL.joinL]
  | p :: q :: r => by
    have h := joinL_len c (q :: r)
    have e : TL.joinL [c] (p :: q :: r) = p ++ ([c] ++ TL.joinL [c] (q :: r)) := rfl
    have e2 : (p :: q :: r).length = (q :: r).length + 1 := rfl
    rw [e, e2, List.length_append, List.length_append, List.map_cons, List.sum_cons]
    simp only [List.length_singleton]
    omega
theorem partL_len {p : Part} (h : p.length ≤ 3) : (TL.joinL [44] (p.map itemL)).length ≤ 24 := by
  have h1 := joinL_len 44 (p.map itemL)
  have h2 := sum_le 7 (p.map itemL) fun q hq => by
    obtain ⟨t, _, rfl⟩ := List.mem_map.mp hq
    exact itemL_len t
  rw [List.length_map] at h1 h2
  omega
theorem exprL_len {x : Exp} (h : ExpOk x) : (exprL x).length ≤ 50 := by
  have h1 := joinL_len 124 (x.map fun p => TL.joinL [44] (p.map itemL))
  have h2 := sum_le 24 (x.map fun p => TL.joinL [44] (p.map itemL)) fun q hq => by
    obtain ⟨p, hp, rfl⟩ := List.mem_map.mp hq
    exact partL_len (h.ok p hp).hi
  have h3 := h.hi
  rw [List.length_map] at h1 h2
  unfold exprL
  omega
theorem join_ok (B : Nat) (l : List (List Nat)) (h : ∀ p ∈ l, p.length ≤ B) (hB : l.length * B + l.length ≤ 1000) (c : Nat) : ((l.map S).map (·.length)).sum + (l.map S).length * (S [c]).length ≤ 16777216 := by
  rw [lens, S_len, List.length_map]
  have := sum_le B l h
  simp only [List.length_singleton]
  omega
theorem sc_expression_text : FnScope ["expression", "part", "item"] ["expression"] (defScope s_expression_text) := ⟨rfl, rfl, rfl, by decide +kernel, rfl, by decide +kernel, by decide +kernel⟩
def T_exprt : List PyData → (PyData → Prop) → Prop := fun ds Q => ∃ x, ds = [encX x] ∧ ExpOk x ∧ Q (.str (S (exprL x)))
theorem dn_expression_text (t : Top K mg "expression_text" s_expression_text ["expression"]) (d_item_text : Dn P w K mg base "item_text" 2 ["item"] (spD K T_itemt)) : Dn P w K mg base "expression_text" 3 ["expression"] (spD K T_exprt) := by
  refine dn_of t fun f fd F => okD F sc_expression_text [] (fun ds Q ⟨p, h, _⟩ => by rw [h]; rfl) (by decide) fun cdv A outer s H E hr => ?_
  refine ⟨_, (dss_one (ds_ret (de_join (pe_bm PySem.F.plainAttrs_str PySem.F.slot_str_join PySem.F.type_str_join mt_join de_str (ga_cons (de_F (df_comp rfl sc_expression_text.nd (di_tup (dv 0)) (blkOk_by (own := [("part", 1)]) (N := ["expression", "part", "item"]) (sc := defScope s_expression_text) (by decide +kernel)) (fun _ _ _ _ _ => (pg_name (i := 1) sc_expression_text.nd rfl (Or.inl rfl))) (bd_name 1) (fun _ _ _ _ _ => dt_nil) (fun _ _ _ _ _ => (de_join (pe_bm PySem.F.plainAttrs_str PySem.F.slot_str_join PySem.F.type_str_join mt_join de_str (ga_cons (de_F (df_comp rfl sc_expression_text.nd (di_tup (dv 1)) (blkOk_in (own := [("item", 2)]) (N := ["expression", "part", "item"]) (sc := defScope s_expression_text) rfl (by decide +kernel)) (fun _ _ _ _ _ => (pg_name (i := 2) sc_expression_text.nd rfl (Or.inl rfl))) (bd_name 2) (fun _ _ _ _ _ => dt_nil) (fun _ _ _ _ _ => (de_callN d_item_text hr (ga_cons (dv 2) ga_nil))))) ga_nil)))))) ga_nil))))), ?_⟩
  rintro ds Q ⟨x, rfl, hx, h⟩
  have hlo := hx.lo
  have hhi := hx.hi
  simp
  refine ⟨by omega, ?_⟩
  refine compD_map encL (fun p => .str (S (TL.joinL [44] (p.map itemL)))) _ _ _ (fun p hp R hR => ?_) ?_
  · have hpo := hx.ok p hp
    have hp3 := hpo.hi
    simp
    refine ⟨by omega, ?_⟩
    refine compD_map encI (fun t => .str (S (itemL t))) _ _ _ (fun t ht R' hR' => ?_) ?_
    · simp
      exact itemtI (hpo.ok t ht) hR'
    · refine ⟨(p.map itemL).map S, by simp [List.map_map], ?_, ?_⟩
      · rw [of_comma]
        exact join_ok 7 (p.map itemL) (fun q hq => by
          obtain ⟨t, _, rfl⟩ := List.mem_map.mp hq
          exact itemL_len t) (by rw [List.length_map]; omega) 44
      · rw [of_comma, join_S]
        exact hR
  · refine ⟨(x.map fun p => TL.joinL [44] (p.map itemL)).map S, by simp [List.map_map], ?_, ?_⟩
    · rw [of_bar]
      exact join_ok 24 _ (fun q hq => by
        obtain ⟨p, hp, rfl⟩ := List.mem_map.mp hq
        exact partL_len (hx.ok p hp).hi) (by rw [List.length_map]; omega) 124
    · rw [of_bar, join_S]
      exact h

end
end Pg
namespace Pg
open PySem PySem.Spec PyProof.Rows L2
section
variable {P : Program} {w : World} {K : PySem.W.Frag} {mg : Str → Option Value} {base : Heap}
/-! ## own errors, told by their kind -/
structure Errs (K : PySem.W.Frag) (mg : Str → Option Value) (R cI cE cN cX cM cU : Addr) : Prop where
  r : ErrC K mg "RangeError" R
  i : ErrC K mg "InvalidItem" cI
  e : ErrC K mg "InvalidExpression" cE
  n : ErrC K mg "InvalidNumber" cN
  x : ErrC K mg "InvalidIndex" cX
  m : ErrC K mg "TooMany" cM
  u : ErrC K mg "NothingToUndo" cU
  iI : PySem.W.subIn K (.ref cI) (.ref cI) = some true
  iE : PySem.W.subIn K (.ref cI) (.ref cE) = some false
  iN : PySem.W.subIn K (.ref cI) (.ref cN) = some false
  iX : PySem.W.subIn K (.ref cI) (.ref cX) = some false
  iM : PySem.W.subIn K (.ref cI) (.ref cM) = some false
  iU : PySem.W.subIn K (.ref cI) (.ref cU) = some false
  iR : PySem.W.subIn K (.ref cI) (.ref R) = some true
  eI : PySem.W.subIn K (.ref cE) (.ref cI) = some false
  eE : PySem.W.subIn K (.ref cE) (.ref cE) = some true
  eN : PySem.W.subIn K (.ref cE) (.ref cN) = some false
  eX : PySem.W.subIn K (.ref cE) (.ref cX) = some false
  eM : PySem.W.subIn K (.ref cE) (.ref cM) = some false
  eU : PySem.W.subIn K (.ref cE) (.ref cU) = some false
  eR : PySem.W.subIn K (.ref cE) (.ref R) = some true
  nI : PySem.W.subIn K (.ref cN) (.ref cI) = some false
  nE : PySem.W.subIn K (.ref cN) (.ref cE) = some false
  nN : PySem.W.subIn K (.ref cN) (.ref cN) = some true
  nX : PySem.W.subIn K (.ref cN) (.ref cX) = some false
  nM : PySem.W.subIn K (.ref cN) (.ref cM) = some false
  nU : PySem.W.subIn K (.ref cN) (.ref cU) = some false
  nR : PySem.W.subIn K (.ref cN) (.ref R) = some true
  xI : PySem.W.subIn K (.ref cX) (.ref cI) = some false
  xE : PySem.W.subIn K (.ref cX) (.ref cE) = some false
  xN : PySem.W.subIn K (.ref cX) (.ref cN) = some false
  xX : PySem.W.subIn K (.ref cX) (.ref cX) = some true
  xM : PySem.W.subIn K (.ref cX) (.ref cM) = some false
  xU : PySem.W.subIn K (.ref cX) (.ref cU) = some false
  xR : PySem.W.subIn K (.ref cX) (.ref R) = some true
  mI : PySem.W.subIn K (.ref cM) (.ref cI) = some false
  mE : PySem.W.subIn K (.ref cM) (.ref cE) = some false
  mN : PySem.W.subIn K (.ref cM) (.ref cN) = some false
  mX : PySem.W.subIn K (.ref cM) (.ref cX) = some false
  mM : PySem.W.subIn K (.ref cM) (.ref cM) = some true
  mU : PySem.W.subIn K (.ref cM) (.ref cU) = some false
  mR : PySem.W.subIn K (.ref cM) (.ref R) = some true
  uI : PySem.W.subIn K (.ref cU) (.ref cI) = some false
  uE : PySem.W.subIn K (.ref cU) (.ref cE) = some false
  uN : PySem.W.subIn K (.ref cU) (.ref cN) = some false
  uX : PySem.W.subIn K (.ref cU) (.ref cX) = some false
  uM : PySem.W.subIn K (.ref cU) (.ref cM) = some false
  uU : PySem.W.subIn K (.ref cU) (.ref cU) = some true
  uR : PySem.W.subIn K (.ref cU) (.ref R) = some true
theorem cls_some {x : Str} {C : Addr} (e : ErrC K mg x C) : ((PySem.W.clsIn K C).isSome && PySem.W.typeIn K (.ref C) == some (.type "type")) = true := by
  obtain ⟨cd, hc, _⟩ := PySem.W.any_some e.ec.hd
  rw [hc, e.ty]
  rfl
theorem kit_self {D : Addr} : PySem.W.kitOne K (.ref D) (.ref D) = some true := by
  unfold PySem.W.kitOne
  rw [if_pos (by simp)]
theorem kit_ne {x : Str} {C D : Addr} (hD : PySem.W.subIn K (.ref D) (.ref D) = some true) (h : PySem.W.subIn K (.ref D) (.ref C) = some false) (e : ErrC K mg x C) : PySem.W.kitOne K (.ref D) (.ref C) = some false := by
  have hne : D ≠ C := fun z => by
    rw [← z, hD] at h
    cases h
  unfold PySem.W.kitOne
  rw [if_neg (by simpa using hne)]
  unfold PySem.W.kitCls
  simp only [cls_some e, if_true]
  exact h
theorem exm_r {R D : Addr} (e : ErrC K mg "RangeError" R) (h : PySem.W.subIn K (.ref D) (.ref R) = some true) : PySem.W.exmOne K (.ref D) (.ref R) = some true :=
  PySem.W.exm_ref e.sb e.ec.hd e.ty h
def spErr (wd : Str) : Addr → List V → Hp → VK → Prop := fun a vs H Q => vs = [.ref a] ∧ ∀ H', Same H H' → Q (.str wd) H'
def kinds (b1 b2 b3 b4 b5 b6 : Bool) : List (Str × Bool) := [("item", b1), ("expression", b2), ("number", b3), ("index", b4), ("many", b5), ("nothing", b6)]
theorem sc_law_error : FnScope ["e", "some", "word", "good"] ["e"] (defScope s_law_error) := ⟨rfl, rfl, rfl, by decide +kernel, rfl, by decide +kernel, by decide +kernel⟩
theorem fe_error {R cI cE cN cX cM cU D f : Addr} {fd : FuncData} {b1 b2 b3 b4 b5 b6 : Bool} {wd : Str} (F : Fun K "_law_error" "_law_error" s_law_error f fd) (T : Errs K mg R cI cE cN cX cM cU) (hD : ExcC K D) (z_isinstance : mg "isinstance" = none)
    (k1 : PySem.W.kitOne K (.ref D) (.ref cI) = some b1) (k2 : PySem.W.kitOne K (.ref D) (.ref cE) = some b2) (k3 : PySem.W.kitOne K (.ref D) (.ref cN) = some b3) (k4 : PySem.W.kitOne K (.ref D) (.ref cX) = some b4) (k5 : PySem.W.kitOne K (.ref D) (.ref cM) = some b5) (k6 : PySem.W.kitOne K (.ref D) (.ref cU) = some b6)
    (hw : Txt.join "" (wordsOf (kinds b1 b2 b3 b4 b5 b6)) = wd) (hs : ((wordsOf (kinds b1 b2 b3 b4 b5 b6)).map (·.length)).sum ≤ 1000) : FnE P w K mg base 1 f fd ["e"] D (spErr wd) := by
  refine fnE_of F sc_law_error (fun a vs H Q h => by rw [h.1]; rfl) fun cdv A outer s H vs Q a oe hot hz hr ⟨ev, q⟩ => ?_
  subst ev
  have hf : ∃ fs, oe.data = .fields fs := by
    obtain ⟨_, fs, e, _⟩ := hot
    exact ⟨fs, e⟩
  have hp : (a, oe) ∈ (L2H.cxH L2.CX0 P w K mg base ["e", "some", "word", "good"] "_law_error" (defScope s_law_error) f cdv A outer s H L2.E0 (a, oe)).nox.pn := List.mem_singleton.mpr rfl
  have hc : L2H.HotC (L2H.cxH L2.CX0 P w K mg base ["e", "some", "word", "good"] "_law_error" (defScope s_law_error) f cdv A outer s H L2.E0 (a, oe)).nox := ⟨(a, oe), hot, hp⟩
  have isi := call_isP (X := (L2H.cxH L2.CX0 P w K mg base ["e", "some", "word", "good"] "_law_error" (defScope s_law_error) f cdv A outer s H L2.E0 (a, oe)).nox) hD hp hz hf
  refine ⟨_, pss_cons (ps_set (i := 1) sc_law_error.nd rfl (.inl rfl) (pe_wk (pe_lst (pa_cons (pe_tup (pa_cons pe_str (pa_cons (pe_callB isi (by rfl) z_isinstance (by decide +kernel) (pa_cons (pv 0) (pa_cons (pe_glob rfl T.i.g (v := .ref cI) rfl) pa_nil))) pa_nil)))
      (pa_cons (pe_tup (pa_cons pe_str (pa_cons (pe_callB isi (by rfl) z_isinstance (by decide +kernel) (pa_cons (pv 0) (pa_cons (pe_glob rfl T.e.g (v := .ref cE) rfl) pa_nil))) pa_nil))) pa_nil))) (rd_two k1 k2)))
    (pss_cons (ps_set (i := 1) sc_law_error.nd rfl (.inl rfl) (pe_op op_cat (pv 1) (pe_wk (pe_lst (pa_cons (pe_tup (pa_cons pe_str (pa_cons (pe_callB isi (by rfl) z_isinstance (by decide +kernel) (pa_cons (pv 0) (pa_cons (pe_glob rfl T.n.g (v := .ref cN) rfl) pa_nil))) pa_nil)))
      (pa_cons (pe_tup (pa_cons pe_str (pa_cons (pe_callB isi (by rfl) z_isinstance (by decide +kernel) (pa_cons (pv 0) (pa_cons (pe_glob rfl T.x.g (v := .ref cX) rfl) pa_nil))) pa_nil))) pa_nil))) (rd_two k3 k4))))
    (pss_cons (ps_set (i := 1) sc_law_error.nd rfl (.inl rfl) (pe_op op_cat (pv 1) (pe_wk (pe_lst (pa_cons (pe_tup (pa_cons pe_str (pa_cons (pe_callB isi (by rfl) z_isinstance (by decide +kernel) (pa_cons (pv 0) (pa_cons (pe_glob rfl T.m.g (v := .ref cM) rfl) pa_nil))) pa_nil)))
      (pa_cons (pe_tup (pa_cons pe_str (pa_cons (pe_callB isi (by rfl) z_isinstance (by decide +kernel) (pa_cons (pv 0) (pa_cons (pe_glob rfl T.u.g (v := .ref cU) rfl) pa_nil))) pa_nil))) pa_nil))) (rd_two k5 k6))))
    (pss_one (ps_ret (pe_join pe_str (pe_lcH (own := [("word", 2), ("good", 3)]) (vsB := []) (g := L2.gTup K 2 (L2.gCons (L2.gName 2) (L2.gCons (L2.gName 3) L2.gNil))) hc sc_law_error.nd (pi_listH (pv 1)) (blkOk_by (N := ["e", "some", "word", "good"]) (sc := defScope s_law_error) (by decide +kernel))
        (fun s' H' C' cl' fp' => by
          refine pg_tupH (n := 2) ?_ ?_
          · exact hc
          · exact pgs_cons (pg_name (i := 2) sc_law_error.nd rfl (Or.inl rfl)) (pgs_cons (pg_name (i := 3) sc_law_error.nd rfl (Or.inl rfl)) pgs_nil)) (fun _ _ _ _ _ => pts_one (pt_val (pv 3))) (fun _ _ _ _ _ _ => pbd_last rfl (pv 2)) (fun _ h => nomatch h) (fun _ _ => turns_one) (fun _ => rfl))))))), ?_⟩
  refine ⟨rfl, fun q1 H1 v1 n1 s1 l1 P1 => ?_⟩
  refine ⟨.ref q1, rfl, rfl, fun q2 H2 v2 n2 s2 l2 P2 => ?_⟩
  refine ⟨q1, q2, v1, v2, rfl, rfl, s2 _ _ l1, l2, ?_, fun q3 n3 => ?_⟩
  · rw [P1.len, P2.len]
    exact Nat.le_of_lt (szlt (by simp))
  have s3 : Same H2 (upd H2 q3 (.lst (v1 ++ v2))) := same_new n3
  have P3 := ((P1.mono s2).app P2).mono s3
  refine ⟨.ref q3, rfl, rfl, fun q4 H4 v4 n4 s4 l4 P4 => ?_⟩
  refine ⟨q3, q4, v1 ++ v2, v4, rfl, rfl, s4 _ _ upd_same, l4, ?_, fun q5 n5 => ?_⟩
  · rw [P3.len, P4.len]
    exact Nat.le_of_lt (szlt (by simp))
  have s5 : Same H4 (upd H4 q5 (.lst (v1 ++ v2 ++ v4))) := same_new n5
  have P5 := ((P3.mono s4).app P4).mono s5
  refine ⟨⟨_, rfl⟩, rd_words (a := q5) (l := kinds b1 b2 b3 b4 b5 b6) (by decide) (by show 2 < 4; decide) (by show 3 < 4; decide) (by show 6 ≤ 100; decide) upd_same P5 (fun R h => ⟨_, rfl, h⟩) fun D6 H6 n6 s6 l6 => ?_⟩
  refine ⟨"", D6, wordsOf (kinds b1 b2 b3 b4 b5 b6), rfl, rfl, .inl (SqL.of l6), ?_, ?_⟩
  · show _ + _ * 0 ≤ _
    omega
  · rw [hw]
    exact q H6 (((((s1.trans s2).trans s3).trans s4).trans s5).trans s6)
theorem fe_I {R cI cE cN cX cM cU f : Addr} {fd : FuncData} (F : Fun K "_law_error" "_law_error" s_law_error f fd) (T : Errs K mg R cI cE cN cX cM cU) (z_isinstance : mg "isinstance" = none) : FnE P w K mg base 1 f fd ["e"] cI (spErr "item") :=
  fe_error F T T.i.ec z_isinstance kit_self (kit_ne T.iI T.iE T.e) (kit_ne T.iI T.iN T.n) (kit_ne T.iI T.iX T.x) (kit_ne T.iI T.iM T.m) (kit_ne T.iI T.iU T.u) (by decide +kernel) (by decide +kernel)
theorem fe_E {R cI cE cN cX cM cU f : Addr} {fd : FuncData} (F : Fun K "_law_error" "_law_error" s_law_error f fd) (T : Errs K mg R cI cE cN cX cM cU) (z_isinstance : mg "isinstance" = none) : FnE P w K mg base 1 f fd ["e"] cE (spErr "expression") :=
  fe_error F T T.e.ec z_isinstance (kit_ne T.eE T.eI T.i) kit_self (kit_ne T.eE T.eN T.n) (kit_ne T.eE T.eX T.x) (kit_ne T.eE T.eM T.m) (kit_ne T.eE T.eU T.u) (by decide +kernel) (by decide +kernel)
theorem fe_N {R cI cE cN cX cM cU f : Addr} {fd : FuncData} (F : Fun K "_law_error" "_law_error" s_law_error f fd) (T : Errs K mg R cI cE cN cX cM cU) (z_isinstance : mg "isinstance" = none) : FnE P w K mg base 1 f fd ["e"] cN (spErr "number") :=
  fe_error F T T.n.ec z_isinstance (kit_ne T.nN T.nI T.i) (kit_ne T.nN T.nE T.e) kit_self (kit_ne T.nN T.nX T.x) (kit_ne T.nN T.nM T.m) (kit_ne T.nN T.nU T.u) (by decide +kernel) (by decide +kernel)
theorem fe_X {R cI cE cN cX cM cU f : Addr} {fd : FuncData} (F : Fun K "_law_error" "_law_error" s_law_error f fd) (T : Errs K mg R cI cE cN cX cM cU) (z_isinstance : mg "isinstance" = none) : FnE P w K mg base 1 f fd ["e"] cX (spErr "index") :=
  fe_error F T T.x.ec z_isinstance (kit_ne T.xX T.xI T.i) (kit_ne T.xX T.xE T.e) (kit_ne T.xX T.xN T.n) kit_self (kit_ne T.xX T.xM T.m) (kit_ne T.xX T.xU T.u) (by decide +kernel) (by decide +kernel)
theorem fe_M {R cI cE cN cX cM cU f : Addr} {fd : FuncData} (F : Fun K "_law_error" "_law_error" s_law_error f fd) (T : Errs K mg R cI cE cN cX cM cU) (z_isinstance : mg "isinstance" = none) : FnE P w K mg base 1 f fd ["e"] cM (spErr "many") :=
  fe_error F T T.m.ec z_isinstance (kit_ne T.mM T.mI T.i) (kit_ne T.mM T.mE T.e) (kit_ne T.mM T.mN T.n) (kit_ne T.mM T.mX T.x) kit_self (kit_ne T.mM T.mU T.u) (by decide +kernel) (by decide +kernel)
theorem fe_U {R cI cE cN cX cM cU f : Addr} {fd : FuncData} (F : Fun K "_law_error" "_law_error" s_law_error f fd) (T : Errs K mg R cI cE cN cX cM cU) (z_isinstance : mg "isinstance" = none) : FnE P w K mg base 1 f fd ["e"] cU (spErr "nothing") :=
  fe_error F T T.u.ec z_isinstance (kit_ne T.uU T.uI T.i) (kit_ne T.uU T.uE T.e) (kit_ne T.uU T.uN T.n) (kit_ne T.uU T.uX T.x) (kit_ne T.uU T.uM T.m) kit_self (by decide +kernel) (by decide +kernel)

end
end Pg
namespace Pg
open PySem PySem.Spec PyProof.Rows L2
section
variable {P : Program} {w : World} {K : PySem.W.Frag} {mg : Str → Option Value} {base : Heap}
/-! ## pageranges.jobs: a Job is made -/
theorem raw_of {CX : CXT} {k : Nat} {f : Addr} {fd : FuncData} {ps : List Str} {sp : Sp} (F : FnOk P w K mg base CX k f fd ps sp) (hb : Binds K fd ps []) : FnR P w K mg base CX k f sp :=
  (F.raw hb .nil).imp fun vs H Q E h => by
    rw [List.append_nil]
    exact h
/-- Job(..) -/
def jobF (v u : V) : List (Str × V) := putF "rows" u (putF "many" v [])
theorem jobF_many {v u : V} : (jobF v u).lookup ("many" : Str) = some v := by
  unfold jobF
  rw [lookup_putF, if_neg (by decide +kernel), lookup_putF, if_pos rfl]
theorem jobF_rows {v u : V} : (jobF v u).lookup ("rows" : Str) = some u := by
  unfold jobF
  rw [lookup_putF, if_pos rfl]
def spJobI (K : PySem.W.Frag) (C cN : Addr) : Sp := fun vs H Q E => ∃ (M : Ms) (x dx : Addr) (v : V) (d : PyData), vs = [.ref x, v] ∧ H x = some (.ins C dx []) ∧ M x = true ∧ Live M H ∧ Dp K (hid M H) v d ∧
  (isIntV d 1 1000 = false → ∀ H', Same H H' → E (.ref cN) none H') ∧
  (isIntV d 1 1000 = true → ∀ H' u, (∀ y o, y ≠ x → H y = some o → H' y = some o) → H' x = some (.ins C dx (jobF v u)) → Dp K (hid M H') u (.tuple []) → Q .non H')
theorem sc_Job_init : FnScope ["self", "number"] ["self", "number"] (defScope s_Job_init) := ⟨rfl, rfl, rfl, by decide +kernel, rfl, by decide +kernel, by decide +kernel⟩
theorem ok_job_init {C R cI cE cN cX cM cU f : Addr} {fd : FuncData} (F : Fun K "__init__" "Job.__init__" s_Job_init f fd) (T : Errs K mg R cI cE cN cX cM cU) (hcl : Cls K C) (n1 : NoAttr K C "many") (n2 : NoAttr K C "rows")
    (d_is_integer : Dn P w K mg base "is_integer" 1 ["value", "low", "high"] (spD K T_isint)) : FnOk P w K mg base (L2N.CX P w) 2 f fd ["self", "number"] (spJobI K C cN) := by
  refine okXN F sc_Job_init (fun vs H Q E ⟨M, x, dx, v, d, e, _⟩ => by rw [e]; rfl) fun cdv A outer s H vs Q E hr h => ?_
  obtain ⟨M, x, dx, v, d, rfl, hx, hMx, lv, uv, k0, k1⟩ := h
  refine ⟨_, pss_cons (ps_if ((show PT _ _ (tGB K Zp _) from (db_not (db_val (de_callN d_is_integer hr (ga_cons (dv 1) (ga_cons de_int (ga_cons de_int ga_nil)))))))) (pss_one (ps_rz T.n rfl (L2N.takes_of rfl rfl rfl rfl))) pss_nil)
    (pss_cons (ps_fld (pv 0) (pv 1) rfl) (pss_one (ps_fld (pv 0) ((show PE _ _ (tG K Zp _) from (de_tup ga_nil))) rfl))), ?_⟩
  refine rdB (P := fun c => c = !(isIntV d 1 1000)) lv (.non (.dat uv .nil)) ?_ fun c hc H1 s1 => ?_
  · simp [T_isint]
    exact ⟨_, _, _, ⟨rfl, rfl, rfl⟩, rfl⟩
  subst hc
  cases hd : isIntV d 1 1000 with
  | false => exact k0 hd H1 s1
  | true =>
  refine iteF ⟨v, rfl, .ref x, rfl, x, C, dx, [], rfl, s1 _ _ hx, hcl, n1, by decide, ?_⟩
  have lv2 : Live M (upd H1 x (.ins C dx (putF "many" v []))) := fun y m e => by
    by_cases hy : y = x
    · rw [hy, upd_same] at e; cases e
    · rw [upd_ne hy] at e
      exact (lv.same s1) y m e
  refine rdE (P := fun d => d = .tuple []) lv2 (.non (.non .nil)) (by simp) fun d2 hd2 u H2 s2 uv2 => ?_
  subst hd2
  refine ⟨.ref x, rfl, x, C, dx, _, rfl, s2 _ _ upd_same, hcl, n2, by show (1 : Nat) < 1000; decide, ?_⟩
  refine k1 hd _ u (fun y o hy e => ?_) upd_same ?_
  · rw [upd_ne hy]
    refine s2 _ _ ?_
    rw [upd_ne hy]
    exact s1 _ _ e
  · rw [hid_upd hMx]
    exact uv2
theorem sc_Job_number : FnScope ["self"] ["self"] (defScope s_Job_number) := ⟨rfl, rfl, rfl, by decide +kernel, rfl, by decide +kernel, by decide +kernel⟩
theorem ok_job_number {f C : Addr} {fd : FuncData} (F : Fun K "number" "Job.number" s_Job_number f fd) (c : Cls K C) (n : NoAttr K C "many") : FnOk P w K mg base CX0 1 f fd ["self"] (getSp C "many") := by
  obtain ⟨oc, od, kV, doc, pm, an, cdv, ct, osl, rfl, lk, hcd⟩ := F.ex
  exact fn_getter lk hcd sc_Job_number rfl rfl c n
structure JobC (P : Program) (w : World) (K : PySem.W.Frag) (mg : Str → Option Value) (base : Heap) (C cN : Addr) : Prop where
  g : mg "Job" = some (.ref C)
  cl : Cls K C
  made : ∃ f fd, Mk K C f ∧ FnOk P w K mg base (L2N.CX P w) 2 f fd ["self", "number"] (spJobI K C cN) ∧ Binds K fd ["self", "number"] []
  num : ∃ p g fd, PropOf K C "number" p g ∧ FnOk P w K mg base CX0 1 g fd ["self"] (getSp C "many") ∧ Binds K fd ["self"] []
/-- how a Job's making is used -/
theorem job_use {C cN : Addr} {M : Ms} {H : Hp} {d : PyData} {v : V} {Q : VK} {E : XK} (lv : Live M H) (uv : Dp K (hid M H) v d) (k0 : isIntV d 1 1000 = false → ∀ H', Same H H' → E (.ref cN) none H')
    (k1 : isIntV d 1 1000 = true → ∀ x dx H' u, H x = none → Same H H' → H' x = some (.ins C dx (jobF v u)) → Dp K (hid M H') u (.tuple []) → Q (.ref x) H') :
    ∀ x dx, H x = none → H dx = none → dx ≠ x → spJobI K C cN [.ref x, v] (upd (upd H dx (.own x)) x (.ins C dx [])) (fun v H3 => v = .non ∧ Q (.ref x) H3) E := by
  intro x dx hx hdx hne
  have sH : Same H (upd (upd H dx (.own x)) x (.ins C dx [])) := fun y o e => by
    have y2 : y ≠ x := fun z => by rw [z, hx] at e; cases e
    have y3 : y ≠ dx := fun z => by rw [z, hdx] at e; cases e
    rw [upd_ne y2, upd_ne y3]
    exact e
  have sM : Same (hid M H) (hid (M.with x) (upd (upd H dx (.own x)) x (.ins C dx []))) := fun y o e => by
    obtain ⟨m, e⟩ := hid_some.mp e
    have y2 : y ≠ x := fun z => by rw [z, hx] at e; cases e
    exact hid_some.mpr ⟨by rw [with_ne y2]; exact m, sH y o e⟩
  refine ⟨M.with x, x, dx, v, d, rfl, upd_same, with_self, fun y m e => ?_, dp_mono sM uv, fun h H' s' => k0 h H' (sH.trans s'), fun h H' u hk h2 hu => ⟨rfl, ?_⟩⟩
  · by_cases hy : y = x
    · rw [hy, upd_same] at e
      cases e
    · rw [with_ne hy] at m
      cases q : H y with
      | none => exact lv y m q
      | some o => rw [sH y o q] at e; cases e
  · refine k1 h x dx H' u hx (fun y o e => ?_) h2 (dp_mono (hid_sub fun y m => with_sub m) hu)
    exact hk y o (fun z => by rw [z, hx] at e; cases e) (sH y o e)

end
end Pg
namespace Pg
open PySem PySem.Spec PyProof.Rows L2
section
variable {P : Program} {w : World} {K : PySem.W.Frag} {mg : Str → Option Value} {base : Heap}
/-! ## pageranges.jobs: what a Job tells -/
def encR (l : List Exp) : PyData := .tuple (l.map encX)
@[simp] theorem seqD_encR {l : List Exp} : seqD (encR l) = some (l.map encX) := rfl
@[simp] theorem encR_tup {l : List Exp} {ds : List PyData} : encR l = .tuple ds ↔ l.map encX = ds := by simp [encR]
@[simp] theorem lenD_encR {x : List Exp} : lenD (encR x) = some x.length := by simp [encR, -encR_tup]
abbrev jobN : List Str := ["many", "rows"]
theorem jobF_zip {v u : V} : jobF v u = jobN.zip [v, u] := by
  unfold jobF
  rfl
theorem jobF_put {v u u2 : V} : putF "rows" u2 (jobN.zip [v, u]) = jobN.zip [v, u2] := by rfl
structure JOk (n : Int) (rs : List Exp) : Prop where
  lo : 1 ≤ n
  hi : n ≤ 1000
  few : rs.length ≤ 8
  ok : ∀ x ∈ rs, ExpOk x
def jpages (n : Int) (rs : List Exp) : List Int := rs.flatMap fun x => printed x n
theorem jpages_len {n : Int} {rs : List Exp} (h : JOk n rs) : (jpages n rs).length ≤ 80000 := by
  have : ∀ l : List Exp, (∀ x ∈ l, ExpOk x) → (jpages n l).length ≤ l.length * 10000 := by
    intro l
    induction l with
    | nil => intro _; simp [jpages]
    | cons a l ih =>
      intro hl
      have h1 := ih fun x hx => hl x (List.mem_cons_of_mem _ hx)
      have h2 := printed_len (hl a List.mem_cons_self) h.hi
      unfold jpages at h1 ⊢
      rw [List.flatMap_cons, List.length_append, List.length_cons]
      omega
  have h1 := this rs h.ok
  have h2 := h.few
  have h3 : rs.length * 10000 ≤ 8 * 10000 := Nat.mul_le_mul_right _ h2
  omega
def tupI (l : List Int) : PyData := .tuple (l.map .int)
@[simp] theorem seqD_tupI {l : List Int} : seqD (tupI l) = some (l.map PyData.int) := rfl
@[simp] theorem tuple_tupI {p : List Int} : PyData.tuple (p.map PyData.int) = tupI p := rfl
@[simp] theorem lenD_tupI {p : List Int} : lenD (tupI p) = some p.length := by unfold tupI; simp [-tuple_tupI]
abbrev TJ := List PyData → List PyData → (PyData → Prop) → Prop
def T_jpages : TJ := fun us ds Q => ds = [] ∧ ∃ n rs, us = [.int n, encR rs] ∧ JOk n rs ∧ Q (tupI (jpages n rs))
theorem sc_Job_pages : FnScope ["self", "expression", "page"] ["self"] (defScope s_Job_pages) := ⟨rfl, rfl, rfl, by decide +kernel, rfl, by decide +kernel, by decide +kernel⟩
theorem ok_job_pages {C f : Addr} {fd : FuncData} (F : Fun K "pages" "Job.pages" s_Job_pages f fd) (hc : Cls K C) (n1 : NoAttr K C "many") (n2 : NoAttr K C "rows") (d_printed : Dn P w K mg base "printed" 4 ["expression", "number"] (spF K T_printed)) (z_tuple : mg "tuple" = none) :
    FnOk P w K mg base CX0 5 f fd ["self"] (spO K C jobN T_jpages) := by
  refine okO F sc_Job_pages [] (fun us ds Q h => by rw [h.1]; rfl) (by decide) fun cdv A outer s H E dx us uds h1 h2 hr => ?_
  match us, uds, h1, h2 with
  | [v, u], [a, b], _, _ =>
  refine ⟨_, (dss_one (ds_ret (de_tuplec z_tuple (de_F (df_comp2 rfl sc_Job_pages.nd (di_tup (de_fld 0 rfl rfl hc n2 (v := u) (d := b) rfl (by simp))) (blkOk_by (own := [("expression", 1), ("page", 2)]) (N := ["self", "expression", "page"]) (sc := defScope s_Job_pages) (by decide +kernel)) (fun _ _ _ _ _ => (pg_name (i := 1) sc_Job_pages.nd rfl (Or.inl rfl))) (bd_name 1) (fun _ _ _ _ _ => dt_nil) (fun _ _ _ _ _ => (di_list (de_callN d_printed.D hr (ga_cons (dv 1) (ga_cons (de_fld 0 rfl rfl hc n1 (v := v) (d := a) rfl (by simp)) ga_nil))))) (fun _ _ _ _ _ => (pg_name (i := 2) sc_Job_pages.nd rfl (Or.inl rfl))) (bd_name 2) (fun _ _ _ _ _ => dt_nil) (fun _ _ _ _ _ => (dv 2))))))), ?_⟩
  rintro ds Q ⟨rfl, n, rs, e, hj, h⟩
  cases e
  simp
  refine compD2_of encX (fun x => (printed x n).map PyData.int) 10000 rs [] _ (fun x hx acc hacc R hR => ?_) (fun x hx => by rw [List.length_map]; exact printed_len (hj.ok x hx) hj.hi) (by have := hj.few; simp only [List.length_nil]; omega) ?_
  · have hl := printed_len (hj.ok x hx) hj.hi
    simp
    refine pr (hj.ok x hx) hj.lo hj.hi ?_
    simp
    refine ⟨by omega, ?_⟩
    refine compD_map PyData.int PyData.int (printed x n) _ _ (fun i hi R' hR' => ?_) hR
    simpa using hR'
  · have e : rs.flatMap (fun x => (printed x n).map PyData.int) = (jpages n rs).map PyData.int := by
      unfold jpages
      rw [List.map_flatMap]
    rw [List.nil_append, e]
    exact h
def T_jlen : TJ := fun us ds Q => ds = [] ∧ ∃ n rs, us = [.int n, encR rs] ∧ JOk n rs ∧ Q (.int ((jpages n rs).length : Int))
theorem sc_Job_len : FnScope ["self"] ["self"] (defScope s_Job_len) := ⟨rfl, rfl, rfl, by decide +kernel, rfl, by decide +kernel, by decide +kernel⟩
theorem ok_job_len {C f p g : Addr} {fd fdp : FuncData} (F : Fun K "__len__" "Job.__len__" s_Job_len f fd) (hc : Cls K C) (hp : PropOf K C "pages" p g) (Fp : FnOk P w K mg base CX0 5 g fdp ["self"] (spO K C jobN T_jpages)) (bp : Binds K fdp ["self"] []) (z_len : mg "len" = none) :
    FnOk P w K mg base CX0 7 f fd ["self"] (spO K C jobN T_jlen) := by
  refine okO F sc_Job_len [] (fun us ds Q h => by rw [h.1]; rfl) (by decide) fun cdv A outer s H E dx us uds h1 h2 hr => ?_
  match us, uds, h1, h2 with
  | [v, u], [a, b], _, _ =>
  refine ⟨_, (dss_one (ds_ret (de_len z_len (de_sprop rfl rfl rfl rfl hc hp Fp hr bp)))), ?_⟩
  rintro ds Q ⟨rfl, n, rs, e, hj, h⟩
  cases e
  simp [T_jpages]
  exact ⟨n, rs, ⟨rfl, rfl⟩, hj, h⟩
def T_jin : TJ := fun us ds Q => ∃ d, ds = [d] ∧ ∃ n rs, us = [.int n, encR rs] ∧ JOk n rs ∧ Q (.bool (match d with
  | .int i => decide (1 ≤ i) && decide (i ≤ n) && decide (i ∈ jpages n rs)
  | _ => false))
theorem sc_Job_contains : FnScope ["self", "page"] ["self", "page"] (defScope s_Job_contains) := ⟨rfl, rfl, rfl, by decide +kernel, rfl, by decide +kernel, by decide +kernel⟩
theorem ok_job_in {C f p g : Addr} {fd fdp : FuncData} (F : Fun K "__contains__" "Job.__contains__" s_Job_contains f fd) (hc : Cls K C) (n1 : NoAttr K C "many") (hp : PropOf K C "pages" p g) (Fp : FnOk P w K mg base CX0 5 g fdp ["self"] (spO K C jobN T_jpages)) (bp : Binds K fdp ["self"] [])
    (d_is_integer : Dn P w K mg base "is_integer" 1 ["value", "low", "high"] (spD K T_isint)) : FnOk P w K mg base CX0 7 f fd ["self", "page"] (spO K C jobN T_jin) := by
  refine okO F sc_Job_contains [] (fun us ds Q h => by obtain ⟨d, e, _⟩ := h; rw [e]; rfl) (by decide) fun cdv A outer s H E dx us uds h1 h2 hr => ?_
  match us, uds, h1, h2 with
  | [v, u], [a, b], _, _ =>
  refine ⟨_, (dss_one (ds_ret (de_and (de_callN d_is_integer hr (ga_cons (dv 1) (ga_cons de_int (ga_cons (de_fld 0 rfl rfl hc n1 (v := v) (d := a) rfl (by simp)) ga_nil)))) (de_one (de_inTI trivial (dv 1) (de_sprop rfl rfl rfl rfl hc hp Fp hr bp)))))), ?_⟩
  rintro ds Q ⟨d, rfl, n, rs, e, hj, h⟩
  cases e
  simp [T_jpages, T_isint]
  refine ⟨d, 1, n, ⟨rfl, rfl, rfl⟩, ?_⟩
  cases d with
  | int i =>
    by_cases hi : isIntV (.int i) 1 n = true
    · have e1 : (decide (1 ≤ i) && decide (i ≤ n)) = true := hi
      rw [if_pos hi]
      refine ⟨n, rs, ⟨rfl, rfl⟩, hj, i, rfl, jpages n rs, rfl, ?_⟩
      simpa [e1] using h
    · have e1 : (decide (1 ≤ i) && decide (i ≤ n)) = false := by simpa [isIntV] using hi
      rw [if_neg hi]
      simpa [e1] using h
  | _ => simpa [isIntV] using h

/-- job[index] -/
def spJget (K : PySem.W.Frag) (C cX : Addr) : Sp := fun vs H Q E => ∃ (M : Ms) (x dx : Addr) (v u vi : V) (n : Int) (rs : List Exp) (d : PyData), vs = [.ref x, vi] ∧ M x = true ∧ H x = some (.ins C dx (jobN.zip [v, u])) ∧ Live M H ∧ Dp K (hid M H) v (.int n) ∧ Dp K (hid M H) u (encR rs) ∧ Dp K (hid M H) vi d ∧ JOk n rs ∧
  (isIntV d 0 ((jpages n rs).length - 1) = false → ∀ H', Same H H' → E (.ref cX) none H') ∧
  (∀ (i : Nat) (p : Int), d = .int i → (jpages n rs)[i]? = some p → ∀ H', Same H H' → Q (.int p) H')
theorem sc_Job_getitem : FnScope ["self", "index", "pages"] ["self", "index"] (defScope s_Job_getitem) := ⟨rfl, rfl, rfl, by decide +kernel, rfl, by decide +kernel, by decide +kernel⟩
theorem ok_job_get {C R cI cE cN cX cM cU f p g : Addr} {fd fdp : FuncData} (F : Fun K "__getitem__" "Job.__getitem__" s_Job_getitem f fd) (T : Errs K mg R cI cE cN cX cM cU) (hc : Cls K C) (hp : PropOf K C "pages" p g) (Fp : FnOk P w K mg base CX0 5 g fdp ["self"] (spO K C jobN T_jpages)) (bp : Binds K fdp ["self"] [])
    (d_is_integer : Dn P w K mg base "is_integer" 1 ["value", "low", "high"] (spD K T_isint)) (z_len : mg "len" = none) : FnOk P w K mg base (L2N.CX P w) 7 f fd ["self", "index"] (spJget K C cX) := by
  refine okXN F sc_Job_getitem (fun vs H Q E ⟨M, x, dx, v, u, vi, n, rs, d, e, _⟩ => by rw [e]; rfl) fun cdv A outer s H vs Q E hr h => ?_
  obtain ⟨M, x, dx, v, u, vi, n, rs, d, rfl, hM, hx, lv, dvn, dvu, di, hj, k0, k1⟩ := h
  refine ⟨_, pss_cons (ps_set (i := 2) sc_Job_getitem.nd rfl (.inl rfl) ((show PE _ _ (tG K (Zs [] (.ins C dx (jobN.zip [v, u])) ([v, u].zip [.int n, encR rs])) _) from (de_sprop rfl rfl rfl rfl hc hp Fp hr bp))))
    (pss_cons (ps_if ((show PT _ _ (tGB K Zp _) from (db_not (db_val (de_callN d_is_integer hr (ga_cons (dv 1) (ga_cons de_int (ga_cons (de_sub (de_len z_len (dv 2)) de_int) ga_nil)))))))) (pss_one (ps_rz T.x rfl (L2N.takes_of rfl rfl rfl rfl))) pss_nil)
    (pss_one (ps_ret ((show PE _ _ (tG K Zp _) from (de_ixq (dv 2) (dv 1))))))), ?_⟩
  have hvd : ∀ vd ∈ [v, u].zip [PyData.int n, encR rs], Dp K (hid M H) vd.1 vd.2 := fun vd hm => by
    simp at hm
    rcases hm with rfl | rfl
    · exact dvn
    · exact dvu
  refine rdES (P := fun z => z = tupI (jpages n rs)) lv (.non (.dat di (.non .nil))) hM rfl hx hvd ?_ fun d2 hd2 v2 H1 s1 dv2 => ?_
  · simp [T_jpages]
    exact ⟨n, rs, ⟨rfl, rfl⟩, hj, rfl⟩
  subst hd2
  have hl := jpages_len hj
  refine rdB (P := fun z => z = !(isIntV d 0 ((jpages n rs).length - 1))) (lv.same s1) (.non (.dat (dp_mono (same_hid s1) di) (.dat dv2 .nil))) ?_ fun c hc2 H2 s2 => ?_
  · simp [T_isint]
    exact ⟨d, 0, _, ⟨rfl, rfl, rfl⟩, rfl⟩
  subst hc2
  cases hd : isIntV d 0 ((jpages n rs).length - 1) with
  | false => exact k0 hd H2 (s1.trans s2)
  | true =>
    cases d with
    | int i =>
      have hi : 0 ≤ i ∧ i ≤ (jpages n rs).length - 1 := by simpa [isIntV] using hd
      obtain ⟨k, rfl⟩ : ∃ k : Nat, i = k := ⟨i.toNat, by omega⟩
      have hk : k < (jpages n rs).length := by omega
      have e1 : (jpages n rs)[k]? = some (jpages n rs)[k] := List.getElem?_eq_getElem hk
      refine rdE (P := fun z => z = .int (jpages n rs)[k]) (lv.same (s1.trans s2)) (.non (.dat (dp_mono (same_hid (s1.trans s2)) di) (.dat (dp_mono (same_hid s2) dv2) .nil))) ?_ fun z hz v3 H3 s3 dv3 => ?_
      · simp
        refine atI_nat ?_
        rw [List.getElem?_map, e1]
        rfl
      subst hz
      rw [dp_int dv3]
      exact k1 k _ rfl e1 H3 ((s1.trans s2).trans s3)
    | _ => simp [isIntV] at hd
/-- job.add(..) -/
def spJadd (K : PySem.W.Frag) (C cE cM : Addr) : Sp := fun vs H Q E => ∃ (M : Ms) (x dx : Addr) (v u vi : V) (n : Int) (rs : List Exp) (d : PyData), vs = [.ref x, vi] ∧ M x = true ∧ H x = some (.ins C dx (jobN.zip [v, u])) ∧ Live M H ∧ Dp K (hid M H) v (.int n) ∧ Dp K (hid M H) u (encR rs) ∧ Dp K (hid M H) vi d ∧ JOk n rs ∧
  (exprV d = true → ∃ y, d = encX y ∧ ExpOk y) ∧
  (exprV d = false → ∀ H', Same H H' → E (.ref cE) none H') ∧
  (exprV d = true → rs.length = 8 → ∀ H', Same H H' → E (.ref cM) none H') ∧
  (∀ y, d = encX y → ExpOk y → rs.length < 8 → ∀ H' u2, (∀ z o, z ≠ x → H z = some o → H' z = some o) → H' x = some (.ins C dx (jobN.zip [v, u2])) → Dp K (hid M H') u2 (encR (rs ++ [y])) → Q (.int ((printed y n).length : Int)) H')
theorem sc_Job_add : FnScope ["self", "expression"] ["self", "expression"] (defScope s_Job_add) := ⟨rfl, rfl, rfl, by decide +kernel, rfl, by decide +kernel, by decide +kernel⟩
theorem ok_job_add {C R cI cE cN cX cM cU f : Addr} {fd : FuncData} {u8 : Value} (F : Fun K "add" "Job.add" s_Job_add f fd) (T : Errs K mg R cI cE cN cX cM cU) (hc : Cls K C) (n1 : NoAttr K C "many") (n2 : NoAttr K C "rows") (hk8 : Con K C "MOST" (.int 8) u8)
    (d_is_expression : Dn P w K mg base "is_expression" 5 ["value"] (spD K T_isexpr)) (d_printed : Dn P w K mg base "printed" 4 ["expression", "number"] (spF K T_printed)) (z_len : mg "len" = none) : FnOk P w K mg base (L2N.CX P w) 6 f fd ["self", "expression"] (spJadd K C cE cM) := by
  refine okXN F sc_Job_add (fun vs H Q E ⟨M, x, dx, v, u, vi, n, rs, d, e, _⟩ => by rw [e]; rfl) fun cdv A outer s H vs Q E hr h => ?_
  obtain ⟨M, x, dx, v, u, vi, n, rs, d, rfl, hM, hx, lv, dvn, dvu, di, hj, hd0, k0, k1, k2⟩ := h
  refine ⟨_, pss_cons (ps_if ((show PT _ _ (tGB K Zp _) from (db_not (db_val (de_callN d_is_expression hr (ga_cons (dv 1) ga_nil)))))) (pss_one (ps_rz T.e rfl (L2N.takes_of rfl rfl rfl rfl))) pss_nil)
    (pss_cons (ps_if ((show PT _ _ (tGB K (Zs [] (.ins C dx (jobN.zip [v, u])) ([v, u].zip [.int n, encR rs])) _) from (db_ge (de_len z_len (de_fld 0 rfl rfl hc n2 (v := u) (d := encR rs) rfl (by simp))) (de_scon rfl rfl hc hk8 rfl)))) (pss_one (ps_rz T.m rfl (L2N.takes_of rfl rfl rfl rfl))) pss_nil)
    (pss_cons (ps_fld (pv 0) ((show PE _ _ (tG K (Zs [] (.ins C dx (jobN.zip [v, u])) ([v, u].zip [.int n, encR rs])) _) from (de_tup (ga_star (de_fld 0 rfl rfl hc n2 (v := u) (d := encR rs) rfl (by simp)) (ga_cons (dv 1) ga_nil))))) rfl)
    (pss_one (ps_ret (pe_ex fun u2 => (show PE _ _ (tG K (Zs [] (.ins C dx (jobN.zip [v, u2])) ([v].zip [.int n])) _) from (de_len z_len (de_callN d_printed.D hr (ga_cons (dv 1) (ga_cons (de_fld 0 rfl rfl hc n1 (v := v) (d := .int n) rfl (by simp)) ga_nil)))))))))), ?_⟩
  have hvd : ∀ {H'}, Same H H' → ∀ vd ∈ [v, u].zip [PyData.int n, encR rs], Dp K (hid M H') vd.1 vd.2 := fun s' vd hm => by
    simp at hm
    rcases hm with rfl | rfl
    · exact dp_mono (same_hid s') dvn
    · exact dp_mono (same_hid s') dvu
  refine rdB (P := fun z => z = !(exprV d)) lv (.non (.dat di .nil)) ?_ fun c hc1 H1 s1 => ?_
  · simp [T_isexpr]
  subst hc1
  cases hd : exprV d with
  | false => exact k0 hd H1 s1
  | true =>
  obtain ⟨y, rfl, hy⟩ := hd0 hd
  refine rdBS (P := fun z => z = decide (8 ≤ rs.length)) (lv.same s1) (.non (.dat (dp_mono (same_hid s1) di) .nil)) hM rfl (s1 _ _ hx) (hvd s1) ?_ fun c hc1 H2 s2 => ?_
  · simp
    omega
  subst hc1
  by_cases h8 : 8 ≤ rs.length
  · rw [decide_eq_true h8]
    exact k1 hd (by have := hj.few; omega) H2 (s1.trans s2)
  rw [decide_eq_false h8]
  have s02 := s1.trans s2
  refine rdES (P := fun z => z = encR (rs ++ [y])) (lv.same s02) (.non (.dat (dp_mono (same_hid s02) di) .nil)) hM rfl (s02 _ _ hx) (hvd s02) ?_ fun z hz u2 H3 s3 du2 => ?_
  · simp
    refine ⟨by have := hj.few; omega, ?_⟩
    simp [encR, -encR_tup]
  subst hz
  have s03 := s02.trans s3
  refine ⟨.ref x, rfl, x, C, dx, _, rfl, s03 _ _ hx, hc, n2, by show (2 : Nat) < 1000; decide, ?_⟩
  rw [jobF_put]
  have lv3 : Live M (upd H3 x (.ins C dx (jobN.zip [v, u2]))) := fun y m e => by
    by_cases hy : y = x
    · rw [hy, upd_same] at e; cases e
    · rw [upd_ne hy] at e
      exact (lv.same s03) y m e
  have eh : hid M (upd H3 x (.ins C dx (jobN.zip [v, u2]))) = hid M H3 := hid_upd hM
  refine ⟨u2, ?_⟩
  refine rdES (P := fun z => z = .int ((printed y n).length : Int)) lv3 (.non (.dat (by rw [eh]; exact dp_mono (same_hid s03) di) .nil)) hM rfl upd_same (fun vd hm => ?_) ?_ fun z hz v4 H4 s4 dv4 => ?_
  · simp at hm
    subst hm
    rw [eh]
    exact dp_mono (same_hid s03) dvn
  · simp
    refine pr hy hj.lo hj.hi ?_
    simp
  subst hz
  rw [dp_int dv4]
  refine k2 y rfl hy (by omega) H4 u2 (fun z o hz e => s4 _ _ (by rw [upd_ne hz]; exact s03 _ _ e)) (s4 _ _ upd_same) (dp_mono (same_hid s4) ?_)
  rw [eh]
  exact du2

end
end Pg
namespace Pg
open PySem PySem.Spec PyProof.Rows L2
section
variable {P : Program} {w : World} {K : PySem.W.Frag} {mg : Str → Option Value} {base : Heap}
open SX
/-! ## the lines of a Job -/
def jline (n : Int) (x : Exp) : Str := Str.empty ++ intSpecTextOf ("4" : Str) ((printed x n).length : Int) ++ (" " : Str) ++ S (exprL x)
def jlines (n : Int) (rs : List Exp) : List Str := rs.map (jline n)
def spJlines (K : PySem.W.Frag) (C : Addr) : SpG := fun vs H cont E => ∃ (M : Ms) (x dx : Addr) (v u : V) (n : Int) (rs : List Exp), vs = [.ref x] ∧ M x = true ∧ H x = some (.ins C dx (jobN.zip [v, u])) ∧ Live M H ∧ Dp K (hid M H) v (.int n) ∧ Dp K (hid M H) u (encR rs) ∧ JOk n rs ∧
  ∀ H', Same H H' → cont ((jlines n rs).map V.str) H'
theorem four_len {k : Nat} (hk : k < 100000) : (intSpecTextOf ("4" : Str) (k : Int)).length ≤ 100006 := by
  cases hps : PySem.Builtin.Float.parseFormatSpec ("4" : Str).cps.toList "int" 62 with
  | error m =>
    unfold intSpecTextOf
    rw [hps]
    show Str.empty.length ≤ 100006
    decide
  | ok f =>
    have hok : intSpecOk ("4" : Str) = true := by decide +kernel
    unfold intSpecOk at hok
    rw [hps] at hok
    simp only [Bool.and_eq_true] at hok
    obtain ⟨_, hg⟩ := hok
    unfold intSpecGood at hg
    simp only [Bool.and_eq_true] at hg
    obtain ⟨⟨⟨_, hw⟩, hgr⟩, hsg⟩ := hg
    have hw2 : f.width.getD 0 ≤ 100000 := by simpa using hw
    have F := intSpecFacts (k : Int) (Option.isNone_iff_eq_none.mp hgr) (Option.isNone_iff_eq_none.mp hsg)
    have h1 := F.lenNonneg (by omega)
    have h2 := F.digits.le
    have e : intSpecTextOf ("4" : Str) (k : Int) = intSpecText f k := by unfold intSpecTextOf; rw [hps]
    rw [e, h1]
    have h3 : ((k : Int)).natAbs = k := Int.natAbs_natCast k
    rw [h3] at h2 ⊢
    omega
theorem log2_small {k : Nat} (hk : k < 100000) : k.log2 < 1920 := by
  by_cases h : k = 0
  · subst h; decide
  · exact Nat.lt_of_lt_of_le ((Nat.log2_lt h).mpr (show k < 2 ^ 17 by omega)) (by decide)
theorem szl {n : Nat} (h : n ≤ 500000) : n ≤ sizeLine := Nat.le_trans h (by decide)
theorem gsc_Job_lines : GScope ["self", "expression"] ["self"] (defScope s_Job_lines) := ⟨rfl, rfl, rfl, by decide +kernel, rfl, by decide +kernel, by decide +kernel⟩
theorem ok_job_lines {C f : Addr} {fd : FuncData} (F : Fun K "lines" "Job.lines" s_Job_lines f fd) (hc : Cls K C) (n1 : NoAttr K C "many") (n2 : NoAttr K C "rows") (d_printed : Dn P w K mg base "printed" 4 ["expression", "number"] (spF K T_printed)) (d_expression_text : Dn P w K mg base "expression_text" 3 ["expression"] (spD K T_exprt)) (z_len : mg "len" = none) :
    GFn P w K mg base 5 f fd ["self"] (spJlines K C) := by
  obtain ⟨oc, od, kV, doc, pm, an, cdv, ct, osl, rfl, lk, hcd⟩ := F.ex
  refine gfn_of lk hcd gsc_Job_lines (fun vs H Q E ⟨M, x, dx, v, u, n, rs, e, _⟩ => by rw [e]; rfl) fun A outer s H vs Q E pn hr h => ?_
  obtain ⟨M, x, dx, v, u, n, rs, rfl, hM, hx, lv, dvn, dvu, hj, hq⟩ := h
  refine ⟨_, gss_cons (gs_for owns_gcx rfl (pe_fld (pv 0) rfl) (pg_name (i := 1) gsc_Job_lines.nd rfl (.inl rfl))
    (gss_cons (gs_yield ((show PE _ _ (tG K (Zs [] (.ins C dx (jobN.zip [v, u])) ([v, u].zip [.int n, encR rs])) _) from (de_js (PDJ.cons (de_fmt4 (de_len z_len (de_callN d_printed.D hr (ga_cons (dv 1) (ga_cons (de_fld 0 rfl rfl hc n1 (v := v) (d := .int n) rfl (by simp)) ga_nil)))) (pe_joined1 pe_str)) (PDJ.cons de_str (PDJ.cons (de_fmt (de_callN d_expression_text hr (ga_cons (dv 1) ga_nil))) PDJ.nil))))))) gss_nil)) gss_nil, ?_⟩
  obtain ⟨a, xs, rfl, h1, h2⟩ := dp_tuple dvu
  have hvd : ∀ {H'}, Same H H' → ∀ vd ∈ [v, V.ref a].zip [PyData.int n, encR rs], Dp K (hid M H') vd.1 vd.2 := fun s' vd hm => by
    simp at hm
    rcases hm with rfl | rfl
    · exact dp_mono (same_hid s') dvn
    · exact dp_mono (same_hid s') dvu
  have hlen : xs.length = rs.length := by rw [dpa_len h2, List.length_map]
  refine ⟨.ref x, rfl, x, C, dx, _, .ref a, rfl, hx, hc, n2, rfl, a, xs, rfl, fun j ys σ H1 => Same H H1 ∧ (∃ z, σ = [some (.ref x), z]) ∧ ys = ((jlines n rs).take j).map V.str, ⟨.refl H, ⟨_, rfl⟩, rfl⟩, fun j ys σ H1 w => same_sqT (hid_le M H1) (same_sqT (same_hid w.1) h1), fun j z ys σ H1 hz w => ?_, fun ys σ H1 w => ?_⟩
  · obtain ⟨s1, ⟨z0, rfl⟩, rfl⟩ := w
    obtain ⟨d, hd, dz⟩ := dpa_at h2 hz
    rw [List.getElem?_map] at hd
    obtain ⟨y, hy, rfl⟩ := Option.map_eq_some_iff.mp hd
    have hyo : ExpOk y := hj.ok y (List.mem_of_getElem? hy)
    have hjl : j < (jlines n rs).length := by
      unfold jlines
      rw [List.length_map]
      exact (List.getElem?_eq_some_iff.mp hy).1
    refine ⟨by rw [List.length_map, List.length_take]; have := hj.few; unfold jlines; rw [List.length_map]; exact Nat.lt_of_le_of_lt (Nat.min_le_right _ _) (szlt (by omega)), ?_⟩
    refine rdES (P := fun z => z = .str (jline n y)) (lv.same s1) (.non (.dat (dp_mono (same_hid s1) dz) .nil)) hM rfl (s1 _ _ hx) (hvd s1) ?_ fun z hz v2 H2 s2 dv2 => ?_
    · simp [T_exprt]
      have hl := printed_len hyo hj.hi
      have h4 := four_len (k := (printed y n).length) (by omega)
      have h5 : (S (exprL y)).length ≤ 100 := by rw [S_len]; have := exprL_len hyo; omega
      have h6 : (" " : Str).length = 1 := by decide
      have h0 : Str.empty.length = 0 := by decide
      refine pr hyo hj.lo hj.hi ?_
      simp
      refine ⟨log2_small (by omega), szl (by omega), szl ?_, szl ?_, hyo, szl (by omega), szl ?_, rfl⟩
      · rw [Str.length_append]; omega
      · rw [Str.length_append, Str.length_append]; omega
      · rw [Str.length_append, Str.length_append, Str.length_append]; omega
    subst hz
    refine ⟨s1.trans s2, ⟨_, rfl⟩, ?_⟩
    have e : (jlines n rs)[j]? = some (jline n y) := by unfold jlines; rw [List.getElem?_map, hy]; rfl
    rw [dp_str dv2, List.take_succ, e, List.map_append]
    rfl
  · obtain ⟨s1, ⟨z0, rfl⟩, rfl⟩ := w
    have e : (jlines n rs).take xs.length = jlines n rs := List.take_of_length_le (by unfold jlines; rw [List.length_map]; omega)
    rw [e]
    exact hq _ s1

end
end Pg
namespace Pg
open PySem PySem.Spec PyProof.Rows L2
section
variable {P : Program} {w : World} {K : PySem.W.Frag} {mg : Str → Option Value} {base : Heap}
/-! ## Job: number, undo, == -/
def T_jnum : TJ := fun us ds Q => ds = [] ∧ ∃ n rs, us = [.int n, encR rs] ∧ Q (.int n)
theorem ok_job_num {C f : Addr} {fd : FuncData} (F : Fun K "number" "Job.number" s_Job_number f fd) (hc : Cls K C) (n1 : NoAttr K C "many") : FnOk P w K mg base CX0 1 f fd ["self"] (spO K C jobN T_jnum) := by
  refine okO F sc_Job_number [] (fun us ds Q h => by rw [h.1]; rfl) (by decide) fun cdv A outer s H E dx us uds h1 h2 hr => ?_
  match us, uds, h1, h2 with
  | [v, u], [a, b], _, _ =>
  refine ⟨_, (dss_one (ds_ret (de_fld 0 rfl rfl hc n1 (v := v) (d := a) rfl (by simp)))), ?_⟩
  rintro ds Q ⟨rfl, n, rs, e, h⟩
  cases e
  simpa using h
theorem cutD_last {l : List PyData} {d : PyData} : cutD (l ++ [d]) none (some (-1)) = l := by
  unfold cutD HT.sIx
  simp only [if_pos (show (-1 : Int) < 0 by decide), List.drop_zero, Nat.sub_zero, List.length_append, List.length_singleton]
  rw [show -1 + ((l.length + 1 : Nat) : Int) = l.length by omega]
  simp
theorem eqv_encR_nil {rs : List Exp} : PyData.eqv (encR rs) (.tuple []) = decide (rs = []) := by
  cases rs with
  | nil => rfl
  | cons a l => rfl
theorem encR_inj {p q : List Exp} : encR p = encR q ↔ p = q := by
  unfold encR
  refine ⟨fun e => ?_, fun e => by rw [e]⟩
  injection e with e
  exact map_inj (fun _ _ => encX_inj.mp) e
theorem noB_encR (l : List Exp) : noB (encR l) = true := by simp only [encR, noB]; exact noBA_map noB_encX l
theorem eqv_encR {a b : List Exp} : PyData.eqv (encR a) (encR b) = decide (a = b) := eqv_dec noB_encR (fun _ _ => encR_inj.mp) a b
/-- job.undo() -/
def spJundo (K : PySem.W.Frag) (C cU : Addr) : Sp := fun vs H Q E => ∃ (M : Ms) (x dx : Addr) (v u : V) (n : Int) (rs : List Exp), vs = [.ref x] ∧ M x = true ∧ H x = some (.ins C dx (jobN.zip [v, u])) ∧ Live M H ∧ Dp K (hid M H) v (.int n) ∧ Dp K (hid M H) u (encR rs) ∧ rs.length ≤ 8 ∧
  (rs = [] → ∀ H', Same H H' → E (.ref cU) none H') ∧
  (∀ r0 y, rs = r0 ++ [y] → ∀ H' u2 w, (∀ z o, z ≠ x → H z = some o → H' z = some o) → H' x = some (.ins C dx (jobN.zip [v, u2])) → Dp K (hid M H') u2 (encR r0) → Dp K (hid M H') w (encX y) → Q w H')
theorem sc_Job_undo : FnScope ["self", "old"] ["self"] (defScope s_Job_undo) := ⟨rfl, rfl, rfl, by decide +kernel, rfl, by decide +kernel, by decide +kernel⟩
theorem ok_job_undo {C R cI cE cN cX cM cU f : Addr} {fd : FuncData} (F : Fun K "undo" "Job.undo" s_Job_undo f fd) (T : Errs K mg R cI cE cN cX cM cU) (hc : Cls K C) (n2 : NoAttr K C "rows") : FnOk P w K mg base (L2N.CX P w) 3 f fd ["self"] (spJundo K C cU) := by
  refine okXN F sc_Job_undo (fun vs H Q E ⟨M, x, dx, v, u, n, rs, e, _⟩ => by rw [e]; rfl) fun cdv A outer s H vs Q E hr h => ?_
  obtain ⟨M, x, dx, v, u, n, rs, rfl, hM, hx, lv, dvn, dvu, hl8, k0, k1⟩ := h
  refine ⟨_, pss_cons (ps_if ((show PT _ _ (tGB K (Zs [] (.ins C dx (jobN.zip [v, u])) ([v, u].zip [.int n, encR rs])) _) from (db_eq hr (de_fld 0 rfl rfl hc n2 (v := u) (d := encR rs) rfl (by simp)) (de_tup ga_nil)))) (pss_one (ps_rz T.u rfl (L2N.takes_of rfl rfl rfl rfl))) pss_nil)
    (pss_cons (ps_set (i := 1) sc_Job_undo.nd rfl (.inl rfl) ((show PE _ _ (tG K (Zs [] (.ins C dx (jobN.zip [v, u])) ([v, u].zip [.int n, encR rs])) _) from (de_ixq (de_fld 0 rfl rfl hc n2 (v := u) (d := encR rs) rfl (by simp)) (de_neg de_int)))))
    (pss_cons (ps_fld (pv 0) ((show PE _ _ (tG K (Zs [] (.ins C dx (jobN.zip [v, u])) ([v, u].zip [.int n, encR rs])) _) from (de_slT (de_fld 0 rfl rfl hc n2 (v := u) (d := encR rs) rfl (by simp)) do_none (do_some (de_neg de_int))))) rfl)
    (pss_one (ps_ret (pv 1))))), ?_⟩
  have hvd : ∀ {H'}, Same H H' → ∀ vd ∈ [v, u].zip [PyData.int n, encR rs], Dp K (hid M H') vd.1 vd.2 := fun s' vd hm => by
    simp at hm
    rcases hm with rfl | rfl
    · exact dp_mono (same_hid s') dvn
    · exact dp_mono (same_hid s') dvu
  have hsh : SeqAt.shaped (encR rs) = true := (sh_tuple (n := 3) fun d hd => by
    obtain ⟨y, _, rfl⟩ := List.mem_map.mp hd
    exact sh_encX y).ok
  refine rdBS (P := fun z => z = decide (rs = [])) lv (.non (.non .nil)) hM rfl hx (hvd (.refl H)) ?_ fun c hc1 H1 s1 => ?_
  · simp
    exact ⟨hsh, eqv_encR_nil⟩
  subst hc1
  by_cases he : rs = []
  · rw [decide_eq_true he]
    exact k0 he H1 s1
  rw [decide_eq_false he]
  obtain ⟨r0, y, rfl⟩ : ∃ r0 y, rs = r0 ++ [y] := ⟨rs.dropLast, rs.getLast he, (List.dropLast_concat_getLast he).symm⟩
  have hl0 : (encR (r0 ++ [y])) = .tuple (r0.map encX ++ [encX y]) := by simp [encR, -encR_tup]
  refine rdES (P := fun z => z = encX y) (lv.same s1) (.non (.non .nil)) hM rfl (s1 _ _ hx) (hvd s1) ?_ fun z hz w H2 s2 dw => ?_
  · simp
    exact atI_last _ _
  subst hz
  have s02 := s1.trans s2
  refine rdES (P := fun z => z = encR r0) (lv.same s02) (.non (.dat dw .nil)) hM rfl (s02 _ _ hx) (hvd s02) ?_ fun z hz u2 H3 s3 du2 => ?_
  · simp
    rw [cutD_last]
    rfl
  subst hz
  have s03 := s02.trans s3
  refine ⟨.ref x, rfl, x, C, dx, _, rfl, s03 _ _ hx, hc, n2, by show (2 : Nat) < 1000; decide, ?_⟩
  rw [jobF_put]
  have eh : hid M (upd H3 x (.ins C dx (jobN.zip [v, u2]))) = hid M H3 := hid_upd hM
  refine ⟨w, rfl, ?_⟩
  refine k1 r0 y rfl _ u2 w (fun z o hz e => by rw [upd_ne hz]; exact s03 _ _ e) upd_same ?_ ?_
  · rw [eh]; exact du2
  · rw [eh]; exact dp_mono (same_hid s3) dw
/-- job == x, x a list; x another Job -/
def T_jeqd : TJ := fun us ds Q => ∃ l n rs, ds = [.list l] ∧ us = [.int n, encR rs] ∧ Q (.bool false)
def spJeq (K : PySem.W.Frag) (C : Addr) : Sp := fun vs H Q _ => ∃ (M : Ms) (x dx x' dx' : Addr) (v u v' u' : V) (n n' : Int) (rs rs' : List Exp), vs = [.ref x, .ref x'] ∧ H x = some (.ins C dx (jobN.zip [v, u])) ∧ H x' = some (.ins C dx' (jobN.zip [v', u'])) ∧ Live M H ∧
  Dp K (hid M H) v (.int n) ∧ Dp K (hid M H) u (encR rs) ∧ Dp K (hid M H) v' (.int n') ∧ Dp K (hid M H) u' (encR rs') ∧ ∀ H', Same H H' → Q (.bl (decide (n = n') && decide (rs = rs'))) H'
structure ClsI (K : PySem.W.Frag) (C : Addr) : Prop where
  ha : PySem.W.findIn K (.ref C) "__class__" = some (some (.builtin "object.__class__"))
  hn : PySem.W.specialIn K (.builtin "object.__class__") "__get__" = some (some (.builtin "getset_descriptor.__get__"))
  ht : PySem.W.takesIn K (.builtin "object.__class__") = some true
  hm : PySem.W.mroIn K C (.type "object") = some true
  one : PySem.W.kitOne K (.ref C) (.ref C) = some true
  lst : PySem.W.kitOne K (.type "list") (.ref C) = some false
theorem sc_Job_eq : FnScope ["self", "other"] ["self", "other"] (defScope s_Job_eq) := ⟨rfl, rfl, rfl, by decide +kernel, rfl, by decide +kernel, by decide +kernel⟩
theorem ok_job_eqd {C f : Addr} {fd : FuncData} (F : Fun K "__eq__" "Job.__eq__" s_Job_eq f fd) (hci : ClsI K C) (g : mg "Job" = some (.ref C)) (z_isinstance : mg "isinstance" = none) : FnOk P w K mg base CX0 2 f fd ["self", "other"] (spO K C jobN T_jeqd) := by
  refine F.ok sc_Job_eq (fun vs H Q E ⟨M, t, dx, us, uds, vs', ds, P, e, _, _, _, _, _, dvs, ⟨l, n, rs, e2, _⟩, _⟩ => by rw [e, List.length_cons, dpa_len dvs, e2]; rfl) fun cdv A outer s H vs Q E hr ⟨M, x, dx, us, uds, vs', ds, Pp, ev, hM, hx, hul, lv, dus, dvs, ⟨l, n, rs, e2, e3, hP⟩, q⟩ => ?_
  subst ev e2
  obtain ⟨vl, rfl, dl⟩ := dpa1 dvs
  refine ⟨_, pss_one (ps_ret (pe_and (pe_callB call_isi rfl z_isinstance boot_isinstance (pa_cons (pv 1) (pa_cons (pe_glob rfl g (v := .ref C) rfl) pa_nil))) (pe_and (pe_cmpR (op_eqD hr.units) (pe_fld (pv 0) rfl) (pe_fld (pv 1) rfl) (nomark _)) (pe_one (pe_cmpR (op_eqD hr.units) (pe_fld (pv 0) rfl) (pe_fld (pv 1) rfl) (nomark _)))))), ?_⟩
  exact ⟨vl, rfl, vl, .ref C, .type "list", .ref C, false, rfl, .own C, dp_ty (dp_mono (hid_le _ _) dl), hci.lst, false, rfl, iteF (q _ hP _ H (.refl H) (.bl false))⟩
theorem ok_job_eq {C f : Addr} {fd : FuncData} (F : Fun K "__eq__" "Job.__eq__" s_Job_eq f fd) (hc : Cls K C) (n1 : NoAttr K C "many") (n2 : NoAttr K C "rows") (hci : ClsI K C) (g : mg "Job" = some (.ref C)) (z_isinstance : mg "isinstance" = none) : FnOk P w K mg base CX0 2 f fd ["self", "other"] (spJeq K C) := by
  refine F.ok sc_Job_eq (fun vs H Q E ⟨M, x, dx, x', dx', v, u, v', u', n, n', rs, rs', e, _⟩ => by rw [e]; rfl) fun cdv A outer s H vs Q E hr ⟨M, x, dx, x', dx', v, u, v', u', n, n', rs, rs', e, hx, hx', lv, dv, du, dv', du', q⟩ => ?_
  subst e
  refine ⟨_, pss_one (ps_ret (pe_and (pe_callB call_isi rfl z_isinstance boot_isinstance (pa_cons (pv 1) (pa_cons (pe_glob rfl g (v := .ref C) rfl) pa_nil))) (pe_and (pe_cmpR (op_eqD hr.units) (pe_fld (pv 0) rfl) (pe_fld (pv 1) rfl) (nomark _)) (pe_one (pe_cmpR (op_eqD hr.units) (pe_fld (pv 0) rfl) (pe_fld (pv 1) rfl) (nomark _)))))), ?_⟩
  have hsh : ∀ rs : List Exp, SeqAt.shaped (encR rs) = true := fun rs => (sh_tuple (n := 3) fun d hd => by
    obtain ⟨y, _, rfl⟩ := List.mem_map.mp hd
    exact sh_encX y).ok
  refine ⟨.ref x', rfl, .ref x', .ref C, .ref C, .ref C, true, rfl, .own C, .base (.ins hx' hc hci.ha hci.hn hci.ht hci.hm), hci.one, true, rfl, iteT ?_⟩
  refine ⟨.ref x, rfl, x, C, dx, _, v, rfl, hx, hc, n1, rfl, .ref x', rfl, x', C, dx', _, v', rfl, hx', hc, n1, rfl, ?_⟩
  refine o2_Eq M H v v' _ _ (fun z => z = .bool (decide (n = n'))) _ lv dv dv' ⟨⟨rfl, rfl⟩, by simp⟩ fun z hz w H1 s1 dw => ?_
  subst hz
  refine ⟨_, dp_bl dw, ?_⟩
  by_cases hn : n = n'
  · rw [decide_eq_true hn]
    refine iteT ⟨.ref x, rfl, x, C, dx, _, u, rfl, s1 _ _ hx, hc, n2, rfl, .ref x', rfl, x', C, dx', _, u', rfl, s1 _ _ hx', hc, n2, rfl, ?_⟩
    refine o2_Eq M H1 u u' _ _ (fun z => z = .bool (decide (rs = rs'))) _ (lv.same s1) (dp_mono (same_hid s1) du) (dp_mono (same_hid s1) du') ⟨⟨hsh _, hsh _⟩, ?_⟩ fun z hz w2 H2 s2 dw2 => ?_
    · show PyData.bool _ = _
      rw [eqv_encR]
    subst hz
    rw [dp_bl dw2]
    have := q H2 (s1.trans s2)
    rw [decide_eq_true hn] at this
    exact this
  · rw [decide_eq_false hn]
    refine iteF ?_
    have := q H1 s1
    rw [decide_eq_false hn] at this
    exact this

end
end Pg
namespace Pg
open PySem PySem.Spec PyProof.Rows L2
section
variable {P : Program} {w : World} {K : PySem.W.Frag} {mg : Str → Option Value} {base : Heap}
/-! ## the classes as they stand at the top (law 19) -/
theorem meth_mk {x qual : Str} {st : Stmt} {f : Addr} {oc : Value} {od an : Option Addr} {osl : Array (Option Value)} {kV doc pm cdv ct : Value} (l : K.lookup f = some ⟨oc, od, .func (PySem.W.fnOf x qual (defArgs st) (defBody st) (defScope st) .none kV doc pm an cdv ct), osl⟩)
    (c : PySem.W.codeIn K cdv qual = true) (k : PySem.W.keepIn K (.ref f) = true) : ∃ fd, Fun K x qual st f fd := ⟨_, fun_mk l c k⟩
theorem errC_mk {h : Heap} {x : Str} {C : Addr} (X : K.In h) (G : h.Ns mainGlobals mg) (hn : PySem.W.specialIn K (.builtin "object.__class__") "__get__" = some (some (.builtin "getset_descriptor.__get__"))) (ht : PySem.W.takesIn K (.builtin "object.__class__") = some true)
    (a : PySem.W.nsIn K mainGlobals x = some (some (.ref C))) (ex : PySem.W.excIn K C bmVE "ValueError.__new__" = true) (kp : PySem.W.keepIn K (.ref C) = true) (sb : PySem.W.subIn K (.ref C) (.type "BaseException") = some true) (ty : PySem.W.typeIn K (.ref C) = some (.type "type"))
    (hg : PySem.W.findIn K (.ref C) "__getattribute__" = some (some (.builtin "BaseException.__getattribute__"))) (hk : PySem.W.findIn K (.ref C) "__getattr__" = some none) (hd : PySem.W.hasDictIn K C = true) (ha : PySem.W.findIn K (.ref C) "__class__" = some (some (.builtin "object.__class__"))) (hm : PySem.W.mroIn K C (.type "object") = some true) :
    ErrC K mg x C := ⟨PySem.W.mg_of X G a, ex, kp, sb, ty, ⟨hg, hk, sb, hd, ha, hn, ht, hm⟩⟩
structure JobR (K : PySem.W.Frag) (mg : Str → Option Value) (C : Addr) : Prop where
  g : mg "Job" = some (.ref C)
  cl : Cls K C
  n1 : NoAttr K C "many"
  n2 : NoAttr K C "rows"
  ci : ClsI K C
  m8 : ∃ u, Con K C "MOST" (.int 8) u
  ini : ∃ f fd, Mk K C f ∧ Fun K "__init__" "Job.__init__" s_Job_init f fd
  ad : ∃ f fd, Meth K C "add" f ∧ Fun K "add" "Job.add" s_Job_add f fd
  un : ∃ f fd, Meth K C "undo" f ∧ Fun K "undo" "Job.undo" s_Job_undo f fd
  nu : ∃ p g fd, PropOf K C "number" p g ∧ Fun K "number" "Job.number" s_Job_number g fd
  pg : ∃ p g fd, PropOf K C "pages" p g ∧ Fun K "pages" "Job.pages" s_Job_pages g fd
  li : ∃ f fd, Meth K C "lines" f ∧ Fun K "lines" "Job.lines" s_Job_lines f fd
  ge : ∃ g fd, SpM K C "__getitem__" g ∧ Fun K "__getitem__" "Job.__getitem__" s_Job_getitem g fd
  co : ∃ g fd, SpM K C "__contains__" g ∧ Fun K "__contains__" "Job.__contains__" s_Job_contains g fd
  le : ∃ g fd gE fdE, SpM K C "__len__" g ∧ Fun K "__len__" "Job.__len__" s_Job_len g fd ∧ CmpC K C gE g ∧ Fun K "__eq__" "Job.__eq__" s_Job_eq gE fdE
theorem jobR_mk {h : Heap} {C f f2 f3 f4 f5 f6 f7 f8 p g p2 g2 : Addr} {tk : Tok} {rest rest2 : List Value} (X : K.In h) (G : h.Ns mainGlobals mg) (a : PySem.W.nsIn K mainGlobals "Job" = some (some (.ref C)))
    (hn : PySem.W.specialIn K (.builtin "object.__class__") "__get__" = some (some (.builtin "getset_descriptor.__get__"))) (ht : PySem.W.takesIn K (.builtin "object.__class__") = some true) (ha : PySem.W.findIn K (.ref C) "__class__" = some (some (.builtin "object.__class__"))) (hm : PySem.W.mroIn K C (.type "object") = some true) (hl : PySem.W.kitOne K (.type "list") (.ref C) = some false)
    (pg : PySem.W.plainGet K C Str.empty = true) (hd : PySem.W.hasDictIn K C = true) (po : PySem.W.plainOver K C = true) (sa : PySem.W.findIn K (.ref C) "__setattr__" = some (some (.builtin "object.__setattr__"))) (n1 : PySem.W.findIn K (.ref C) "many" = some none) (n2 : PySem.W.findIn K (.ref C) "rows" = some none)
    (m8 : PySem.W.findIn K (.ref C) "MOST" = some (some (.int 8 tk))) (mg8 : PySem.W.specialIn K (.int 8 tk) "__get__" = some none)
    (mk : PySem.W.makesIn K C = true) (i : PySem.W.findIn K (.ref C) "__init__" = some (some (.ref f))) (ifn : PySem.W.isFn K (.ref f) = true) (kp : PySem.W.keepIn K (.ref C) = true) (F : ∃ fd, Fun K "__init__" "Job.__init__" s_Job_init f fd)
    (t1 : PySem.W.findIn K (.ref C) "add" = some (some (.ref f2))) (t2 : PySem.W.isFn K (.ref f2) = true) (F2 : ∃ fd, Fun K "add" "Job.add" s_Job_add f2 fd)
    (x1 : PySem.W.findIn K (.ref C) "undo" = some (some (.ref f7))) (x2 : PySem.W.isFn K (.ref f7) = true) (F7 : ∃ fd, Fun K "undo" "Job.undo" s_Job_undo f7 fd)
    (y1 : PySem.W.findIn K (.ref C) "number" = some (some (.ref p2))) (y2 : PySem.W.specialIn K (.ref p2) "__get__" = some (some (.builtin "property.__get__"))) (y3 : PySem.W.takesIn K (.ref p2) = some true) (y4 : PySem.W.recIn K p2 "property" = some (.ref g2 :: rest2)) (Fy : ∃ fd, Fun K "number" "Job.number" s_Job_number g2 fd)
    (e1 : PySem.W.findIn K (.ref C) "pages" = some (some (.ref p))) (e2 : PySem.W.specialIn K (.ref p) "__get__" = some (some (.builtin "property.__get__"))) (e3 : PySem.W.takesIn K (.ref p) = some true) (e4 : PySem.W.recIn K p "property" = some (.ref g :: rest)) (Fe : ∃ fd, Fun K "pages" "Job.pages" s_Job_pages g fd)
    (l1 : PySem.W.findIn K (.ref C) "lines" = some (some (.ref f3))) (l2 : PySem.W.isFn K (.ref f3) = true) (F3 : ∃ fd, Fun K "lines" "Job.lines" s_Job_lines f3 fd)
    (u1 : PySem.W.findIn K (.ref C) "__getitem__" = some (some (.ref f4))) (u2 : PySem.W.isFn K (.ref f4) = true) (u3 : PySem.W.fnIn K f4 = true) (F4 : ∃ fd, Fun K "__getitem__" "Job.__getitem__" s_Job_getitem f4 fd)
    (v1 : PySem.W.findIn K (.ref C) "__contains__" = some (some (.ref f5))) (v2 : PySem.W.isFn K (.ref f5) = true) (v3 : PySem.W.fnIn K f5 = true) (F5 : ∃ fd, Fun K "__contains__" "Job.__contains__" s_Job_contains f5 fd)
    (w1 : PySem.W.findIn K (.ref C) "__len__" = some (some (.ref f6))) (w2 : PySem.W.isFn K (.ref f6) = true) (w3 : PySem.W.fnIn K f6 = true) (F6 : ∃ fd, Fun K "__len__" "Job.__len__" s_Job_len f6 fd)
    (z1 : PySem.W.findIn K (.ref C) "__eq__" = some (some (.ref f8))) (z2 : PySem.W.isFn K (.ref f8) = true) (F8 : ∃ fd, Fun K "__eq__" "Job.__eq__" s_Job_eq f8 fd)
    (q1 : PySem.W.findIn K (.ref C) "__ne__" = some (some (.builtin "object.__ne__"))) (q2 : PySem.W.notFirst K C (.type "list") = true) (q3 : PySem.W.notFirst K C (.ref C) = true) (q4 : PySem.W.findIn K (.ref C) "__bool__" = some none) : JobR K mg C := by
  obtain ⟨fd, F⟩ := F
  obtain ⟨fd2, F2⟩ := F2
  obtain ⟨fd3, F3⟩ := F3
  obtain ⟨fd4, F4⟩ := F4
  obtain ⟨fd5, F5⟩ := F5
  obtain ⟨fd6, F6⟩ := F6
  obtain ⟨fd7, F7⟩ := F7
  obtain ⟨fd8, F8⟩ := F8
  obtain ⟨fe, Fe⟩ := Fe
  obtain ⟨fy, Fy⟩ := Fy
  exact ⟨PySem.W.mg_of X G a, ⟨pg, hd, po, sa⟩, n1, n2, ⟨ha, hn, ht, hm, by unfold PySem.W.kitOne; rw [if_pos (by simp)], hl⟩, ⟨_, ⟨m8, ⟨tk, rfl⟩, mg8, by decide +kernel⟩⟩, ⟨f, fd, ⟨mk, i, ifn, kp⟩, F⟩, ⟨f2, fd2, ⟨t1, t2, F2.kp⟩, F2⟩, ⟨f7, fd7, ⟨x1, x2, F7.kp⟩, F7⟩, ⟨p2, g2, fy, ⟨y1, y2, y3, ⟨_, y4⟩⟩, Fy⟩, ⟨p, g, fe, ⟨e1, e2, e3, ⟨_, e4⟩⟩, Fe⟩, ⟨f3, fd3, ⟨l1, l2, F3.kp⟩, F3⟩, ⟨f4, fd4, ⟨u1, u2, u3⟩, F4⟩, ⟨f5, fd5, ⟨v1, v2, v3⟩, F5⟩, ⟨f6, fd6, f8, fd8, ⟨w1, w2, w3⟩, F6, ⟨z1, z2, q1, q2, q3, hm, q4⟩, F8⟩⟩
/-- what a Job does, as promises -/
structure JobJ (P : Program) (w : World) (K : PySem.W.Frag) (mg : Str → Option Value) (base : Heap) (C cN cE cM cX cU : Addr) : Prop where
  g : mg "Job" = some (.ref C)
  cl : Cls K C
  made : ∃ f fd, Mk K C f ∧ FnOk P w K mg base (L2N.CX P w) 2 f fd ["self", "number"] (spJobI K C cN) ∧ Binds K fd ["self", "number"] []
  ad : ∃ f fd, Meth K C "add" f ∧ FnOk P w K mg base (L2N.CX P w) 6 f fd ["self", "expression"] (spJadd K C cE cM) ∧ Binds K fd ["self", "expression"] []
  un : ∃ f fd, Meth K C "undo" f ∧ FnOk P w K mg base (L2N.CX P w) 3 f fd ["self"] (spJundo K C cU) ∧ Binds K fd ["self"] []
  nu : ∃ p g fd, PropOf K C "number" p g ∧ FnOk P w K mg base CX0 1 g fd ["self"] (spO K C jobN T_jnum) ∧ Binds K fd ["self"] []
  pg : ∃ p g fd, PropOf K C "pages" p g ∧ FnOk P w K mg base CX0 5 g fd ["self"] (spO K C jobN T_jpages) ∧ Binds K fd ["self"] []
  li : ∃ f fd, Meth K C "lines" f ∧ GFn P w K mg base 5 f fd ["self"] (spJlines K C) ∧ Binds K fd ["self"] []
  ge : ∃ g, SpM K C "__getitem__" g ∧ FnR P w K mg base (L2N.CX P w) 7 g (spJget K C cX)
  co : ∃ g, SpM K C "__contains__" g ∧ FnR P w K mg base CX0 7 g (spO K C jobN T_jin)
  le : ∃ g gE, SpM K C "__len__" g ∧ CmpC K C gE g ∧ FnR P w K mg base CX0 7 g (spO K C jobN T_jlen) ∧ FnR P w K mg base CX0 2 gE (spO K C jobN T_jeqd) ∧ FnR P w K mg base CX0 2 gE (spJeq K C)
theorem jobJ_of {C R cI cE cN cX cM cU : Addr} (S : JobR K mg C) (T : Errs K mg R cI cE cN cX cM cU) (d_is_integer : Dn P w K mg base "is_integer" 1 ["value", "low", "high"] (spD K T_isint)) (d_is_expression : Dn P w K mg base "is_expression" 5 ["value"] (spD K T_isexpr))
    (d_printed : Dn P w K mg base "printed" 4 ["expression", "number"] (spF K T_printed)) (d_expression_text : Dn P w K mg base "expression_text" 3 ["expression"] (spD K T_exprt)) (z_tuple : mg "tuple" = none) (z_len : mg "len" = none) (z_isinstance : mg "isinstance" = none) :
    JobJ P w K mg base C cN cE cM cX cU := by
  obtain ⟨u8, h8⟩ := S.m8
  obtain ⟨f1, fd1, m1, F1⟩ := S.ini
  obtain ⟨f2, fd2, m2, F2⟩ := S.ad
  obtain ⟨f9, fd9, m9, F9⟩ := S.un
  obtain ⟨p8, g8, fd8, m8, F8⟩ := S.nu
  obtain ⟨p3, g3, fd3, m3, F3⟩ := S.pg
  obtain ⟨f4, fd4, m4, F4⟩ := S.li
  obtain ⟨g5, fd5, m5, F5⟩ := S.ge
  obtain ⟨g6, fd6, m6, F6⟩ := S.co
  obtain ⟨g7, fd7, gE, fdE, m7, F7, cm, FE⟩ := S.le
  have ok3 := ok_job_pages (P := P) (w := w) (base := base) F3 S.cl S.n1 S.n2 d_printed z_tuple
  have b3 : Binds K fd3 ["self"] [] := F3.binds (ps := ["self"]) fun _ _ _ _ _ _ us hl => match us, hl with | [_], _ => rfl
  have bE : Binds K fdE ["self", "other"] [] := FE.binds (ps := ["self", "other"]) fun _ _ _ _ _ _ us hl => match us, hl with | [_, _], _ => rfl
  exact ⟨S.g, S.cl, ⟨f1, fd1, m1, ok_job_init F1 T S.cl S.n1 S.n2 d_is_integer, F1.binds (ps := ["self", "number"]) fun _ _ _ _ _ _ us hl => match us, hl with | [_, _], _ => rfl⟩,
    ⟨f2, fd2, m2, ok_job_add F2 T S.cl S.n1 S.n2 h8 d_is_expression d_printed z_len, F2.binds (ps := ["self", "expression"]) fun _ _ _ _ _ _ us hl => match us, hl with | [_, _], _ => rfl⟩,
    ⟨f9, fd9, m9, ok_job_undo F9 T S.cl S.n2, F9.binds (ps := ["self"]) fun _ _ _ _ _ _ us hl => match us, hl with | [_], _ => rfl⟩,
    ⟨p8, g8, fd8, m8, ok_job_num F8 S.cl S.n1, F8.binds (ps := ["self"]) fun _ _ _ _ _ _ us hl => match us, hl with | [_], _ => rfl⟩,
    ⟨p3, g3, fd3, m3, ok3, b3⟩,
    ⟨f4, fd4, m4, ok_job_lines F4 S.cl S.n1 S.n2 d_printed d_expression_text z_len, F4.binds (ps := ["self"]) fun _ _ _ _ _ _ us hl => match us, hl with | [_], _ => rfl⟩,
    ⟨g5, m5, raw_of (ok_job_get F5 T S.cl m3 ok3 b3 d_is_integer z_len) (F5.binds (ps := ["self", "index"]) fun _ _ _ _ _ _ us hl => match us, hl with | [_, _], _ => rfl)⟩,
    ⟨g6, m6, raw_of (ok_job_in F6 S.cl S.n1 m3 ok3 b3 d_is_integer) (F6.binds (ps := ["self", "page"]) fun _ _ _ _ _ _ us hl => match us, hl with | [_, _], _ => rfl)⟩,
    ⟨g7, gE, m7, cm, raw_of (ok_job_len F7 S.cl m3 ok3 b3 z_len) (F7.binds (ps := ["self"]) fun _ _ _ _ _ _ us hl => match us, hl with | [_], _ => rfl), raw_of (ok_job_eqd FE S.ci S.g z_isinstance) bE, raw_of (ok_job_eq FE S.cl S.n1 S.n2 S.ci S.g z_isinstance) bE⟩⟩

end
end Pg
namespace Pg
open PySem PySem.Spec PyProof.Rows L2
section
variable {P : Program} {w : World} {K : PySem.W.Frag} {mg : Str → Option Value} {base : Heap}
/-! ## passing on -/
theorem takesF {X : Cx} : L2N.Takes X (fun _ _ _ _ => False) := fun u s' ⟨_, _, _, _, _, _, _, _, _, _, _, _, _, _, _, _, h⟩ => h.elim
theorem passW {X : Cx} {W : WX} (tk : L2N.Takes X W) (n : Nat) (hN : X.N.length = n := by rfl) : Passes (L2N.CX X.prog X.w) X (fun cls d H => ∀ σ : L2.St, σ.length = n → W cls d σ H) := fun pins σ H s e s' I c =>
  tk e s' (L2N.XE.of_call I (fun cls d H' h => h σ (I.len.trans hN)) c)
theorem roomE {k : Nat} {A : Around} {v : Option Value} (hr : Room k A) : L2H.RoomH k (A.mark v) := ⟨hr.dp, hr.un⟩
theorem hotE {A : Around} {a : Addr} {oe : Obj} {cls : Value} {d : Option Addr} (hz : L2N.Zn cls d oe) (hf : ∃ vs, oe.data = .fields vs) : L2H.Hot1 (A.mark (some (.ref a))) (a, oe) := by
  obtain ⟨vs, e⟩ := hf
  exact ⟨rfl, vs, e, hz.2.2 vs e⟩

end
end Pg
namespace Pg
open PySem PySem.Spec PyProof.Rows L2
section
variable {P : Program} {w : World} {K : PySem.W.Frag} {mg : Str → Option Value} {base : Heap}
/-! ## a hidden object is written -/
/-- a hidden object is written, all else stands -/
theorem hid_put {M : Ms} {H H' : Hp} {x : Addr} (hM : M x = true) (k : ∀ z o, z ≠ x → H z = some o → H' z = some o) : Same (hid M H) (hid M H') := fun b o e => by
  obtain ⟨m, e⟩ := hid_some.mp e
  exact hid_some.mpr ⟨m, k b o (fun z => by rw [z, hM] at m; cases m) e⟩
theorem live_put {M : Ms} {H H' : Hp} {x : Addr} (lv : Live M H) (k : ∀ z o, z ≠ x → H z = some o → H' z = some o) (hx : H' x ≠ none) : Live M H' := fun y m e => by
  by_cases hy : y = x
  · rw [hy] at e; exact hx e
  · cases q : H y with
    | none => exact lv y m q
    | some o => rw [k y o hy q] at e; cases e
theorem same_put {H H' H'' : Hp} {x : Addr} (s : Same H H') (h0 : H x = none) (k : ∀ z o, z ≠ x → H' z = some o → H'' z = some o) : Same H H'' := fun b o e => k b o (fun z => by rw [z, h0] at e; cases e) (s b o e)

end
end Pg
namespace Pg
open PySem PySem.Spec PyProof.Rows L2
section
variable {P : Program} {w : World} {K : PySem.W.Frag} {mg : Str → Option Value} {base : Heap}
/-! ## the law's own: an item, a call, what is due -/
def litem (n : Int) (rs : List Exp) (d : PyData) : PyData := match d with
  | .int i => if 0 ≤ i ∧ i ≤ (jpages n rs).length - 1 then .int ((jpages n rs).getD i.toNat 0) else .str "index"
  | _ => .str "index"
def T_litem : TJ := fun us ds Q => ∃ n rs d, us = [.int n, encR rs] ∧ ds = [d] ∧ JOk n rs ∧ Q (litem n rs d)
theorem sc_law_item_of : FnScope ["job", "index", "e"] ["job", "index"] (defScope s_law_item_of) := ⟨rfl, rfl, rfl, by decide +kernel, rfl, by decide +kernel, by decide +kernel⟩
theorem dn_law_item_of {C R cI cE cN cX cM cU : Addr} (t : Top K mg "_law_item_of" s_law_item_of ["job", "index"]) (t_law_error : Top K mg "_law_error" s_law_error ["e"]) (T : Errs K mg R cI cE cN cX cM cU) (J : JobJ P w K mg base C cN cE cM cX cU) (z_isinstance : mg "isinstance" = none) :
    Dn P w K mg base "_law_item_of" 9 ["job", "index"] (spO K C jobN T_litem) := by
  obtain ⟨fe, fde, Fe, ge, be⟩ := t_law_error
  obtain ⟨gG, cG, FG⟩ := J.ge
  refine dn_of t fun f fd F => F.ok sc_law_item_of (fun vs H Q E ⟨M, x, dx, us, uds, vs', ds, P, e, _, _, _, _, _, dvs, ⟨n, rs, d, _, e2, _⟩, _⟩ => by rw [e, List.length_cons, dpa_len dvs, e2]; rfl) fun cdv A outer s H vs Q E hr ⟨M, x, dx, us, uds, vs', ds, Pp, ev, hM, hx, hul, lv, dus, dvs, ⟨n, rs, d, e1, e2, hj, hP⟩, q⟩ => ?_
  subst ev e1 e2
  obtain ⟨vi, rfl, di⟩ := dpa1 dvs
  obtain ⟨v, u, rfl, dv, du⟩ : ∃ v u, us = [v, u] ∧ Dp K (hid M H) v (.int n) ∧ Dp K (hid M H) u (encR rs) := by
    cases dus with
    | cons a b =>
      cases b with
      | cons b c =>
        cases c
        exact ⟨_, _, rfl, a, b⟩
  refine ⟨_, pss_one (L2N.ps_try_as (i := 2) rfl rfl sc_law_item_of.nd rfl rfl ⟨rfl, by decide, .inl T.r.g⟩ takesF (fun W pn xe tk _ => by exact (
      pss_one (ps_ret (pe_ixO cG FG (hr.mono (by decide)) (passW tk 3) (pv 0) (pv 1)))))
    (fun a oe cls d pn hz hf => by exact (pss_one (ps_ret (show PE _ _ (fun σ H Q => ∃ (D : Addr) (sp : Addr → List V → Hp → VK → Prop), cls = .ref D ∧ d = none ∧ FnE P w K mg base 1 fe fde ["e"] D sp ∧ tCons (tVar 2) tNil σ H fun vs H1 => sp a vs H1 Q) from pe_callE (k := 1) (roomE (hr.mono (by decide))) (hotE hz hf) hz.zc List.mem_cons_self ge Fe.kp be (pa_cons (pv 2) pa_nil)))))), ?_⟩
  refine ⟨.ref x, rfl, vi, rfl, x, dx, _, rfl, hx, M, x, dx, v, u, vi, n, rs, d, rfl, hM, hx, lv, dv, du, di, hj, fun h H' s' σ' hσ => ?_, fun i p hi hp H' s' => ?_⟩
  · have e : litem n rs d = .str "index" := by
      cases d with
      | int i =>
        show (if _ then _ else _) = _
        rw [if_neg]
        intro hc
        simp [isIntV, hc.1, hc.2] at h
      | _ => rfl
    rw [e] at hP
    exact ⟨true, exm_r T.r T.xR, fun _ a ha => ⟨cX, spErr "index", rfl, rfl, fe_X Fe T z_isinstance, .ref a, List.getElem?_set_self (by omega), rfl, fun H2 s2 => q _ hP _ H2 (s'.trans s2) (.str _)⟩, fun z => nomatch z⟩
  · subst hi
    have hlt := (List.getElem?_eq_some_iff.mp hp).1
    have e : litem n rs (.int (i : Nat)) = .int p := by
      show (if _ then _ else _) = _
      rw [if_pos (by omega), Int.toNat_natCast, List.getD_eq_getElem?_getD, hp]
      rfl
    rw [e] at hP
    exact q _ hP _ H' s' (.int _)
/-- what a call gives -/
def spLcall (K : PySem.W.Frag) (C : Addr) : Sp := fun vs H Q _ => ∃ (M : Ms) (x dx : Addr) (v u vw vt : V) (n : Int) (rs : List Exp) (wy : Str) (d : PyData), vs = [.ref x, vw, vt] ∧ M x = true ∧ H x = some (.ins C dx (jobN.zip [v, u])) ∧ Live M H ∧ Dp K (hid M H) v (.int n) ∧ Dp K (hid M H) u (encR rs) ∧ Dp K (hid M H) vw (.str wy) ∧ Dp K (hid M H) vt d ∧ JOk n rs ∧ PyData.strOk wy = true ∧
  (exprV d = true → ∃ y, d = encX y ∧ ExpOk y) ∧
  (wy = "undo" → rs = [] → ∀ H', Same H H' → Q (.str "nothing") H') ∧
  (wy = "undo" → ∀ r0 y, rs = r0 ++ [y] → ∀ H' u2 w, (∀ z o, z ≠ x → H z = some o → H' z = some o) → H' x = some (.ins C dx (jobN.zip [v, u2])) → Dp K (hid M H') u2 (encR r0) → Dp K (hid M H') w (encX y) → Q w H') ∧
  (wy ≠ "undo" → exprV d = false → ∀ H', Same H H' → Q (.str "expression") H') ∧
  (wy ≠ "undo" → exprV d = true → rs.length = 8 → ∀ H', Same H H' → Q (.str "many") H') ∧
  (wy ≠ "undo" → ∀ y, d = encX y → ExpOk y → rs.length < 8 → ∀ H' u2, (∀ z o, z ≠ x → H z = some o → H' z = some o) → H' x = some (.ins C dx (jobN.zip [v, u2])) → Dp K (hid M H') u2 (encR (rs ++ [y])) → Q (.int ((printed y n).length : Int)) H')
theorem sc_law_call : FnScope ["job", "way", "thing", "e"] ["job", "way", "thing"] (defScope s_law_call) := ⟨rfl, rfl, rfl, by decide +kernel, rfl, by decide +kernel, by decide +kernel⟩
theorem dn_law_call {C R cI cE cN cX cM cU : Addr} (t : Top K mg "_law_call" s_law_call ["job", "way", "thing"]) (t_law_error : Top K mg "_law_error" s_law_error ["e"]) (T : Errs K mg R cI cE cN cX cM cU) (J : JobJ P w K mg base C cN cE cM cX cU) (z_isinstance : mg "isinstance" = none) :
    Dn P w K mg base "_law_call" 8 ["job", "way", "thing"] (spLcall K C) := by
  obtain ⟨fe, fde, Fe, ge, be⟩ := t_law_error
  obtain ⟨fA, fdA, mA, FA, bA⟩ := J.ad
  obtain ⟨fU, fdU, mU, FU, bU⟩ := J.un
  refine dn_of t fun f fd F => F.ok sc_law_call (fun vs H Q E ⟨M, x, dx, v, u, vw, vt, n, rs, wy, d, e, _⟩ => by rw [e]; rfl) fun cdv A outer s H vs Q E hr ⟨M, x, dx, v, u, vw, vt, n, rs, wy, d, e, hM, hx, lv, dvn, dvu, dw, dt, hj, hok, hd0, k0, k1, k2, k3, k4⟩ => ?_
  subst e
  refine ⟨_, pss_one (L2N.ps_try_as (i := 3) rfl rfl sc_law_call.nd rfl rfl ⟨rfl, by decide, .inl T.r.g⟩ takesF (fun W pn xe tk _ => by exact (
      pss_one (ps_ret (pe_ifExp ((show PT _ _ (tGB K Zp _) from (db_eq hr (dv 1) de_str))) (pe_meth0 (pv 0) J.cl mU FU (hr.mono (by decide)) bU .nil (passW tk 4)) (pe_meth (pv 0) J.cl mA FA (hr.mono (by decide)) bA .nil (passW tk 4) (pa_cons (pv 2) pa_nil))))))
    (fun a oe cls d pn hz hf => by exact (pss_one (ps_ret (show PE _ _ (fun σ H Q => ∃ (D : Addr) (sp : Addr → List V → Hp → VK → Prop), cls = .ref D ∧ d = none ∧ FnE P w K mg base 1 fe fde ["e"] D sp ∧ tCons (tVar 3) tNil σ H fun vs H1 => sp a vs H1 Q) from pe_callE (k := 1) (roomE (hr.mono (by decide))) (hotE hz hf) hz.zc List.mem_cons_self ge Fe.kp be (pa_cons (pv 3) pa_nil)))))), ?_⟩
  refine rdB (ρ := [none, some (.str wy), some d, none]) (P := fun z => z = decide (wy = "undo")) lv (.non (.dat dw (.dat dt (.non .nil)))) ?_ fun c hc H1 s1 => ?_
  · simp
    exact ⟨(sh_str (n := 0) hok).ok, (sh_str (n := 0) (by decide +kernel)).ok⟩
  subst hc
  by_cases hw : wy = "undo"
  · rw [decide_eq_true hw]
    refine iteT ⟨.ref x, rfl, x, dx, _, rfl, s1 _ _ hx, rfl, ?_⟩
    refine ⟨M, x, dx, v, u, n, rs, rfl, hM, s1 _ _ hx, lv.same s1, dp_mono (same_hid s1) dvn, dp_mono (same_hid s1) dvu, hj.few, fun h H' s' σ' hσ => ?_, fun r0 y h H' u2 w hk hx' du2 dw2 => ?_⟩
    · exact ⟨true, exm_r T.r T.uR, fun _ a ha => ⟨cU, spErr "nothing", rfl, rfl, fe_U Fe T z_isinstance, .ref a, List.getElem?_set_self (by omega), rfl, fun H2 s2 => k0 hw h _ ((s1.trans s').trans s2)⟩, fun z => nomatch z⟩
    · exact k1 hw r0 y h H' u2 w (fun z o hz e => hk z o hz (s1 _ _ e)) hx' du2 dw2
  · rw [decide_eq_false hw]
    refine iteF ⟨.ref x, rfl, x, dx, _, rfl, s1 _ _ hx, rfl, vt, rfl, ?_⟩
    refine ⟨M, x, dx, v, u, vt, n, rs, d, rfl, hM, s1 _ _ hx, lv.same s1, dp_mono (same_hid s1) dvn, dp_mono (same_hid s1) dvu, dp_mono (same_hid s1) dt, hj, hd0, fun h H' s' σ' hσ => ?_, fun h h8 H' s' σ' hσ => ?_, fun y h hy hlt H' u2 hk hx' du2 => ?_⟩
    · exact ⟨true, exm_r T.r T.eR, fun _ a ha => ⟨cE, spErr "expression", rfl, rfl, fe_E Fe T z_isinstance, .ref a, List.getElem?_set_self (by omega), rfl, fun H2 s2 => k2 hw h _ ((s1.trans s').trans s2)⟩, fun z => nomatch z⟩
    · exact ⟨true, exm_r T.r T.mR, fun _ a ha => ⟨cM, spErr "many", rfl, rfl, fe_M Fe T z_isinstance, .ref a, List.getElem?_set_self (by omega), rfl, fun H2 s2 => k3 hw h h8 _ ((s1.trans s').trans s2)⟩, fun z => nomatch z⟩
    · exact k4 hw y h hy hlt H' u2 (fun z o hz e => hk z o hz (s1 _ _ e)) hx' du2
/-- what is due -/
def spLnext (K : PySem.W.Frag) : Sp := fun vs H Q _ => ∃ (M : Ms) (r : Addr) (xs : List V) (vw vt : V) (n : Int) (rs : List Exp) (wy : Str) (d : PyData), vs = [.ref r, .int n, vw, vt] ∧ M r = true ∧ H r = some (.lst xs) ∧ Live M H ∧ DpAll K (hid M H) xs (rs.map encX) ∧ Dp K (hid M H) vw (.str wy) ∧ Dp K (hid M H) vt d ∧ JOk n rs ∧ PyData.strOk wy = true ∧
  (exprV d = true → ∃ y, d = encX y ∧ ExpOk y) ∧
  (wy = "undo" → rs = [] → ∀ H', Same H H' → Q (.str "nothing") H') ∧
  (wy = "undo" → ∀ r0 y, rs = r0 ++ [y] → ∀ H' ys w, (∀ z o, z ≠ r → H z = some o → H' z = some o) → H' r = some (.lst ys) → DpAll K (hid M H') ys (r0.map encX) → Dp K (hid M H') w (encX y) → Q w H') ∧
  (wy ≠ "undo" → exprV d = false → ∀ H', Same H H' → Q (.str "expression") H') ∧
  (wy ≠ "undo" → exprV d = true → rs.length = 8 → ∀ H', Same H H' → Q (.str "many") H') ∧
  (wy ≠ "undo" → ∀ y, d = encX y → ExpOk y → rs.length < 8 → ∀ H' ys, (∀ z o, z ≠ r → H z = some o → H' z = some o) → H' r = some (.lst ys) → DpAll K (hid M H') ys ((rs ++ [y]).map encX) → Q (.int ((printed y n).length : Int)) H')
theorem dpa_dropLast {K : PySem.W.Frag} {H : Hp} : ∀ {xs : List V} {ds : List PyData} {d : PyData}, DpAll K H xs (ds ++ [d]) → ∃ ys y, xs = ys ++ [y] ∧ DpAll K H ys ds ∧ Dp K H y d
  | _, [], _, .cons h t => by
    cases t
    exact ⟨[], _, rfl, .nil, h⟩
  | _, _ :: _, _, .cons h t => by
    obtain ⟨ys, y, rfl, h1, h2⟩ := dpa_dropLast t
    exact ⟨_ :: ys, y, rfl, .cons h h1, h2⟩
theorem sc_law_next : FnScope ["rows", "number", "way", "thing"] ["rows", "number", "way", "thing"] (defScope s_law_next) := ⟨rfl, rfl, rfl, by decide +kernel, rfl, by decide +kernel, by decide +kernel⟩
theorem dn_law_next (t : Top K mg "_law_next" s_law_next ["rows", "number", "way", "thing"]) (d_is_expression : Dn P w K mg base "is_expression" 5 ["value"] (spD K T_isexpr)) (d_law_shown : Dn P w K mg base "_law_shown" 3 ["expression", "number"] (spF K T_printed)) (z_len : mg "len" = none) :
    Dn P w K mg base "_law_next" 6 ["rows", "number", "way", "thing"] (spLnext K) := by
  refine dn_of t fun f fd F => F.ok sc_law_next (fun vs H Q E ⟨M, r, xs, vw, vt, n, rs, wy, d, e, _⟩ => by rw [e]; rfl) fun cdv A outer s H vs Q E hr ⟨M, r, xs, vw, vt, n, rs, wy, d, e, hM, hx, lv, dxs, dw, dt, hj, hok, hd0, k0, k1, k2, k3, k4⟩ => ?_
  subst e
  refine ⟨_, pss_cons (ps_if ((show PT _ _ (tGB K Zp _) from (db_eq hr (dv 2) de_str))) (pss_one (ps_ret (pe_ifExp (pt_cmpR (op_neD hr.units) (pv 0) ((show PE _ _ (tG K Zp _) from (de_F (df_lst ga_nil)))) (nomark _)) (pe_bm0 PySem.F.plainAttrs_list PySem.F.slot_list_pop PySem.F.type_list_pop mt_pop (pv 0)) pe_str))) pss_nil)
    (pss_cons (ps_if ((show PT _ _ (tGB K Zp _) from (db_not (db_val (de_callN d_is_expression hr (ga_cons (dv 3) ga_nil)))))) (pss_one (ps_ret pe_str)) pss_nil)
    (pss_cons (ps_if (pt_cmpR (op_eqD hr.units) (pe_callB call_len rfl z_len PySem.boot_len (pa_cons (pv 0) pa_nil)) pe_int (nomark _)) (pss_one (ps_ret pe_str)) pss_nil)
    (pss_cons (ps_expr (pe_bm PySem.F.plainAttrs_list PySem.F.slot_list_append PySem.F.type_list_append mt_append (pv 0) (pa_cons (pv 3) pa_nil)) rfl)
    (pss_one (ps_ret ((show PE _ _ (tG K Zp _) from (de_len z_len (de_callN d_law_shown.D hr (ga_cons (dv 3) (ga_cons (dv 1) ga_nil))))))))))), ?_⟩
  have den : ∀ {H'}, Same H H' → DEn K (hid M H') [some (.ref r), some (.int n), some vw, some vt] [none, some (.int n), some (.str wy), some d] := fun s' => .non (.dat (.int n) (.dat (dp_mono (same_hid s') dw) (.dat (dp_mono (same_hid s') dt) .nil)))
  have hlen : xs.length = rs.length := by rw [dpa_len dxs, List.length_map]
  refine rdB (P := fun z => z = decide (wy = "undo")) lv (den (.refl H)) ?_ fun c hc H1 s1 => ?_
  · simp
    exact ⟨(sh_str (n := 0) hok).ok, (sh_str (n := 0) (by decide +kernel)).ok⟩
  subst hc
  have hx1 : H1 r = some (.lst xs) := s1 _ _ hx
  by_cases hw : wy = "undo"
  · rw [decide_eq_true hw]
    refine iteT ?_
    have N0 : ∀ {H' : Hp}, Live (fun _ => false) H' := fun b h => by cases h
    have up : ∀ {H' : Hp}, Same (hid M H') (hid (fun _ => false) H') := hid_sub fun _ h => by cases h
    have dr : ∀ {H'}, Same H H' → Dp K (hid (fun _ => false) H') (.ref r) (.list (rs.map encX)) := fun s' => .lst (.inl (.inl (hid_some.mpr ⟨rfl, s' _ _ hx⟩))) (dpa_mono ((same_hid s').trans up) dxs)
    refine ⟨.ref r, rfl, ?_⟩
    refine rdE (P := fun z => z = .list []) (lv.same s1) (den s1) (by simp) fun z hz ve H2 s2 dve => ?_
    subst hz
    have s12 := s1.trans s2
    refine o2_Ne (fun _ => false) H2 _ _ _ _ (fun z => z = .bool (decide (rs ≠ []))) _ N0 (dr s12) (dp_mono up dve) ⟨⟨?_, by decide⟩, ?_⟩ fun z hz vb H3 s3 dvb => ?_
    · exact (sh_list (n := 3) fun d hd => by
        obtain ⟨y, _, rfl⟩ := List.mem_map.mp hd
        exact sh_encX y).ok
    · show PyData.bool _ = PyData.bool _
      cases rs with
      | nil => rfl
      | cons a l => rfl
    subst hz
    have s13 := s12.trans s3
    refine ⟨_, dp_bl dvb, ?_⟩
    by_cases he : rs = []
    · rw [decide_eq_false (by simp [he])]
      exact iteF (k0 hw he H3 s13)
    · rw [decide_eq_true he]
      obtain ⟨r0, y, rfl⟩ : ∃ r0 y, rs = r0 ++ [y] := ⟨rs.dropLast, rs.getLast he, (List.dropLast_concat_getLast he).symm⟩
      rw [List.map_append] at dxs
      obtain ⟨ys, v, rfl, g1, g2⟩ := dpa_dropLast dxs
      have hp : ∀ z o, z ≠ r → H z = some o → (upd H3 r (.lst (ys ++ [v]).dropLast)) z = some o := fun z o hz e => by rw [upd_ne hz]; exact s13 _ _ e
      refine iteT ⟨.ref r, rfl, ?_, r, ys ++ [v], v, rfl, rfl, s13 _ _ hx, by simp, ?_⟩
      · exact .inl ⟨rfl, _, SqL.of (s13 _ _ hx)⟩
      · have eh : hid M (upd H3 r (.lst (ys ++ [v]).dropLast)) = hid M H3 := hid_upd hM
        refine k1 hw r0 y rfl _ ys v hp (by rw [upd_same, List.dropLast_concat]) ?_ ?_
        · rw [eh]; exact dpa_mono (same_hid s13) g1
        · rw [eh]; exact dp_mono (same_hid s13) g2
  rw [decide_eq_false hw]
  refine iteF ?_
  refine rdB (P := fun z => z = !(exprV d)) (lv.same s1) (den s1) ?_ fun c hc H2 s2 => ?_
  · simp [T_isexpr]
  subst hc
  have s12 := s1.trans s2
  cases hd : exprV d with
  | false => exact k2 hw hd H2 s12
  | true =>
  obtain ⟨y, rfl, hy⟩ := hd0 hd
  refine iteF ?_
  refine ⟨.ref r, rfl, .ref r, xs.length, rfl, .inl ⟨xs, SqL.of (s12 _ _ hx), rfl⟩, ?_⟩
  dsimp only [tC]
  refine o2_Eq M H2 _ _ _ _ (fun z => z = .bool (decide (rs.length = 8))) _ (lv.same s12) (.int _) (.int 8) ⟨⟨rfl, rfl⟩, ?_⟩ fun z hz vb H3 s3 dvb => ?_
  · show PyData.bool _ = PyData.bool _
    rw [hlen]
    simp
    omega
  subst hz
  have s13 := s12.trans s3
  refine ⟨_, dp_bl dvb, ?_⟩
  by_cases h8 : rs.length = 8
  · rw [decide_eq_true h8]
    exact iteT (k3 hw hd h8 H3 s13)
  rw [decide_eq_false h8]
  refine iteF ?_
  refine ⟨.ref r, rfl, ?_, vt, rfl, r, xs, vt, rfl, rfl, s13 _ _ hx, szlt (by have := hj.few; omega), ?_⟩
  · exact .inl ⟨rfl, _, SqL.of (s13 _ _ hx)⟩
  have eh : hid M (upd H3 r (.lst (xs ++ [vt]))) = hid M H3 := hid_upd hM
  have lv4 : Live M (upd H3 r (.lst (xs ++ [vt]))) := live_put (lv.same s13) (fun z o hz e => by rw [upd_ne hz]; exact e) (by rw [upd_same]; exact fun z => nomatch z)
  refine rdE (ρ := [none, some (.int n), none, some (encX y)]) (P := fun z => z = .int ((printed y n).length : Int)) lv4 (.non (.dat (.int n) (.non (.dat (by rw [eh]; exact dp_mono (same_hid s13) dt) .nil)))) ?_ fun z hz v5 H5 s5 dv5 => ?_
  · simp
    refine pr hy hj.lo hj.hi ?_
    simp
  subst hz
  rw [dp_int dv5]
  refine k4 hw y rfl hy (by have := hj.few; omega) H5 (xs ++ [vt]) (fun z o hz e => s5 _ _ (by rw [upd_ne hz]; exact s13 _ _ e)) (s5 _ _ upd_same) (dpa_mono (same_hid s5) ?_)
  rw [eh, List.map_append]
  exact dpa_app (dpa_mono (same_hid s13) dxs) (.cons (dp_mono (same_hid s13) dt) .nil)

end
end Pg
namespace Pg
open PySem PySem.Spec PyProof.Rows L2
section
variable {P : Program} {w : World} {K : PySem.W.Frag} {mg : Str → Option Value} {base : Heap}
open SX
/-! ## texts of signs that are laid -/
def OkL (l : List Nat) : Prop := l.length ≤ 1000 ∧ ∀ c ∈ l, c < 1114112
theorem shp_S {l : List Nat} (h : OkL l) : SeqAt.shaped (.str (S l)) = true := (sh_str (n := 0) (by
  show l.toArray.all (· < 0x110000) = true
  rw [List.all_toArray, List.all_eq_true]
  intro c hc
  exact decide_eq_true (h.2 c hc))).ok
open SX
/-! ## sizes of texts and values -/
theorem endL_ok {e : End} (h : EndOk e) : ∀ c ∈ endL e, c = 126 ∨ (48 ≤ c ∧ c ≤ 57) := by
  cases e with
  | none => intro c hc; cases hc
  | some i =>
    obtain ⟨h1, h2, h3⟩ := h i rfl
    unfold endL
    intro c hc
    dsimp only at hc
    split at hc
    · rw [List.mem_singleton.mp hc]; omega
    · simp at hc
      omega
theorem itemL_ok {t : Item} (h : ItemOk t) : ∀ c ∈ itemL t, c = 126 ∨ c = 45 ∨ c = 58 ∨ (48 ≤ c ∧ c ≤ 57) := by
  intro c hc
  unfold itemL at hc
  rcases List.mem_append.mp hc with hc | hc
  · split at hc
    · have := endL_ok h.a c hc; omega
    · rcases List.mem_append.mp hc with hc | hc
      · rcases List.mem_append.mp hc with hc | hc
        · have := endL_ok h.a c hc; omega
        · rw [List.mem_singleton.mp hc]; decide
      · have := endL_ok h.b c hc; omega
  · have h3 := h.s3
    have h1 := h.s1
    split at hc
    · cases hc
    · simp at hc
      omega
theorem joinL_mem (c : Nat) : ∀ (l : List (List Nat)) (x : Nat), x ∈ TL.joinL [c] l → x = c ∨ ∃ p ∈ l, x ∈ p
  | [], x, h => by cases h
  | [p], x, h => .inr ⟨p, by simp, h⟩
  | p :: q :: r, x, h => by
    have e : TL.joinL [c] (p :: q :: r) = p ++ ([c] ++ TL.joinL [c] (q :: r)) := rfl
    rw [e] at h
    rcases List.mem_append.mp h with h | h
    · exact .inr ⟨p, by simp, h⟩
    · rcases List.mem_append.mp h with h | h
      · exact .inl (List.mem_singleton.mp h)
      · rcases joinL_mem c (q :: r) x h with h | ⟨p', h1, h2⟩
        · exact .inl h
        · exact .inr ⟨p', List.mem_cons_of_mem _ h1, h2⟩
theorem exprL_ok {x : Exp} (h : ExpOk x) : OkL (exprL x) := ⟨Nat.le_trans (exprL_len h) (by decide), fun c hc => by
  unfold exprL at hc
  rcases joinL_mem _ _ _ hc with rfl | ⟨p, hp, hc⟩
  · decide
  · obtain ⟨q, hq, rfl⟩ := List.mem_map.mp hp
    rcases joinL_mem _ _ _ hc with rfl | ⟨p', hp', hc⟩
    · decide
    · obtain ⟨t, ht, rfl⟩ := List.mem_map.mp hp'
      have := itemL_ok ((h.ok q hq).ok t ht) c hc
      omega⟩

end
end Pg
namespace Pg
open PySem PySem.Spec PyProof.Rows L2
section
variable {P : Program} {w : World} {K : PySem.W.Frag} {mg : Str → Option Value} {base : Heap}
open SX
/-! ## all that can be read of a job -/
section
variable {X : Cx} {Z : Sg} {C dx g : Addr} {nms : List Str} {us : List V} {uds : List PyData} {x fn : Str} {q p pos ap : Pos} {k j : Nat} {T : List PyData → List PyData → (PyData → Prop) → Prop} {e : Expr} {ge : DE}
theorem dpa_strsW {K : PySem.W.Frag} {H : Hp} : ∀ l : List Str, DpAll K H (l.map V.str) (l.map PyData.str)
  | [] => .nil
  | s :: l => .cons (.str s) (dpa_strsW l)
theorem db_sin (hso : Z.so = some (.ins C dx (nms.zip us), us.zip uds)) (htp : Z.tp = some 0) (h1 : us.length = nms.length) (h2 : uds.length = us.length) (S : SpM X.K C "__contains__" g) (F : FnR X.prog X.w X.K X.mg X.base CX0 k g (spO X.K C nms T)) (hr : Room j X.A) (ha : PD X Z e ge)
    (hk : k ≤ j := by first | decide | omega) (hN : X.N[0]? = some x := by rfl) (hv : Vis X.env.scope x := by first | exact Or.inl rfl | exact Or.inr (Or.inl rfl) | exact Or.inr (Or.inr rfl)) (hd : (x == ("__debug__" : Str)) = false := by decide) (hcd : (x == ("__classdict__" : Str)) = false := by decide)
    (hm : behindInMarks .In (.Name x q) = false := by rfl) : PDB X Z (.Compare e [.In] [.Name x q] pos) (gT fun ρ P => ge ρ fun d => T uds [d] fun r => ∃ b, r = .bool b ∧ P (.bool b)) :=
  pt_wk (pt_cmpR (in_ownO S F (hr.mono hk) pass0) ha (pe_var hN hv hd hcd) hm) fun σ H Q => tTest_of _ fun Q ⟨Ct, M, ρ, P, E, hg, kk⟩ => ⟨Ct, M, ρ, _, E, hg, fun d hd v H1 r1 E1 dv => by
    obtain ⟨t1, t2, t3⟩ := E1.tap 0 htp
    rw [hso] at t2
    exact ⟨.ref Ct.t, t3, Ct.t, dx, _, rfl, t2.2, spO_at E1 hso htp h1 h2 (.cons dv .nil) hd fun r ⟨b, er, hp⟩ w H' s' dw => ⟨b, by subst er; exact dp_bl dw, kk _ hp _ H' (r1.trans (.of s')) (E1.same s') (.bl b)⟩⟩⟩
theorem df_slines {p2 : Pos} {f : Addr} {fd : FuncData} {v u : V} {a b : PyData} (hso : Z.so = some (.ins C dx (jobN.zip [v, u]), [v, u].zip [a, b])) (htp : Z.tp = some 0) (hc : Cls X.K C) (mL : Meth X.K C "lines" f) (FL : GFn X.prog X.w X.K X.mg X.base 5 f fd ["self"] (spJlines X.K C)) (bL : L2.Binds X.K fd ["self"] []) (hr : Room j X.A) (hm : X.mg "list" = none)
    (hk : 8 ≤ j := by first | decide | omega) (hg : Gl X "list" := by rfl) (hN : X.N[0]? = some x := by rfl) (hv : Vis X.env.scope x := by first | exact Or.inl rfl | exact Or.inr (Or.inl rfl) | exact Or.inr (Or.inr rfl)) (hd : (x == ("__debug__" : Str)) = false := by decide) (hcd : (x == ("__classdict__" : Str)) = false := by decide)
    {pl : Sem Bool} (ht : eval (.Call (.Attribute (.Name x q) "lines" ap) [] [] p) X.env = (do
      let ov ← eval (.Name x q) X.env
      standAt ap.atName
      let (f, first) ← holding [ov] (getMethod ov "lines" pl)
      callWith p f first (backTo p (starEach [] X.env)) (backToKw p (keywordEach [] X.env))) := by rfl)
    (he : starEach [.Call (.Attribute (.Name x q) "lines" ap) [] [] p] X.env = (false, eval (.Call (.Attribute (.Name x q) "lines" ap) [] [] p) X.env) :: starEach [] X.env := by rfl) :
    PDF X Z (.Call (.Name "list" p2) [.Call (.Attribute (.Name x q) "lines" ap) [] [] p] [] pos) (fun _ P => ∃ n rs, a = .int n ∧ b = encR rs ∧ JOk n rs ∧ P ((jlines n rs).map PyData.str)) :=
  pe_wk (pe_listG (pgen_meth0 (pe_var hN hv hd hcd) hc mL FL (hr.mono (by omega)) bL .nil ht) passG (fun _ _ _ h => h.elim) (hr.mono (by omega)) hg hm boot_list (by decide) (by decide) he) fun σ H Q ⟨Ct, M, ρ, P, E, ⟨n, rs, ea, eb, hj, hP⟩, kk⟩ => by
    obtain ⟨t1, t2, t3⟩ := E.tap 0 htp
    rw [hso] at t2
    subst ea eb
    have hvd : ∀ vd ∈ [v, u].zip [PyData.int n, encR rs], Dp X.K (hid (vw Z.lx Ct M) H) vd.1 vd.2 := fun vd hm => dp_mono (hid_sub (E.sv _)) (E.sd _ vd hso hm)
    exact ⟨.ref Ct.t, t3, Ct.t, dx, _, rfl, t2.2, rfl, vw Z.lx Ct M, Ct.t, dx, v, u, n, rs, rfl, E.v0 _ _ t1, t2.2, E.lv _, hvd (v, .int n) (by simp), hvd (u, encR rs) (by simp), hj, fun H' s' p hp => tGF_new E kk hP (.of s') (E.same s') (dpa_strsW _) hp⟩
end
theorem printed_lenW {x : Exp} {n : Int} (hx : ExpOk x) (hn : 0 ≤ n) : ((printed x n).length : Int) ≤ 9 * n + 144 := by
  have h0 : ((pages n).length : Int) = n := by rw [pages_len]; omega
  match x, hx with
  | [], hx => have := hx.lo; simp at this
  | [p], hx =>
    have := taken_len (row := pages n) (hx.ok p (by simp))
    show ((taken p (pages n)).length : Int) ≤ _
    omega
  | [p, q], hx =>
    have h1 := taken_len (row := pages n) (hx.ok p (by simp))
    have h2 := taken_len (row := taken p (pages n)) (hx.ok q (by simp))
    show ((taken q (taken p (pages n))).length : Int) ≤ _
    omega
  | _ :: _ :: _ :: _, hx => have := hx.hi; simp at this
theorem taken_sub {p : Part} {row : List Int} {y : Int} (h : y ∈ taken p row) : y ∈ row := by
  unfold taken at h
  obtain ⟨t, _, h⟩ := List.mem_flatMap.mp h
  obtain ⟨x, hx, rfl⟩ := List.mem_map.mp h
  obtain ⟨h1, h2⟩ := mem_poss hx
  have hl : (x - 1).toNat < row.length := by omega
  rw [List.getD_eq_getElem?_getD, List.getElem?_eq_getElem hl]
  exact List.getElem_mem hl
theorem printed_sub {x : Exp} {n y : Int} (h : y ∈ printed x n) : 1 ≤ y ∧ y ≤ n := by
  have core : ∀ (x : Exp) (row : List Int), y ∈ x.foldl (fun row p => taken p row) row → y ∈ row := by
    intro x
    induction x with
    | nil => intro row h; exact h
    | cons p x ih => intro row h; exact taken_sub (ih _ h)
  have := core x _ h
  unfold pages at this
  obtain ⟨k, hk, rfl⟩ := List.mem_map.mp this
  have := List.mem_range.mp hk
  omega
theorem jpages_sub {n y : Int} {rs : List Exp} (h : y ∈ jpages n rs) : 1 ≤ y ∧ y ≤ n := by
  unfold jpages at h
  obtain ⟨x, _, h⟩ := List.mem_flatMap.mp h
  exact printed_sub h
theorem fmt4_rj : ∀ k < 415, intSpecTextOf ("4" : Str) ((k : Nat) : Int) = Txt.rjust (Str.ofString ((k : Nat) : Int).repr) 4 := by decide +kernel
theorem fmt4_ok : ∀ k < 415, PyData.strOk (intSpecTextOf ("4" : Str) ((k : Nat) : Int)) = true := by decide +kernel
theorem strOk_app {a b : Str} (h1 : PyData.strOk a = true) (h2 : PyData.strOk b = true) : PyData.strOk (a ++ b) = true := by
  unfold PyData.strOk at *
  rw [← Array.all_toList] at *
  have e : (a ++ b).cps.toList = a.cps.toList ++ b.cps.toList := by
    rw [Str.cps_append]
    simp
  rw [e, List.all_append, h1, h2]
  rfl
theorem strOk_S {l : List Nat} (h : OkL l) : PyData.strOk (S l) = true := by
  show l.toArray.all (· < 0x110000) = true
  rw [List.all_toArray, List.all_eq_true]
  intro c hc
  exact decide_eq_true (h.2 c hc)
theorem jline_ok {n : Int} {x : Exp} (hx : ExpOk x) (h0 : 0 ≤ n) (h : n ≤ 30) : PyData.strOk (jline n x) = true := by
  have hl := printed_lenW hx h0
  exact strOk_app (strOk_app (strOk_app (by decide +kernel) (fmt4_ok _ (by omega))) (by decide +kernel)) (strOk_S (exprL_ok hx))
theorem noB_strs (l : List Str) : noB (.list (l.map PyData.str)) = true := by simp only [noB]; exact noBA_map (fun _ => by simp [noB]) l
theorem eqv_self {d : PyData} (h : noB d = true) : PyData.eqv d d = true := (eqv_iff h h).mpr rfl
theorem noB_tupI (l : List Int) : noB (tupI l) = true := by simp only [tupI, noB]; exact noBA_map (fun _ => by simp [noB]) l
theorem shp_tupI (l : List Int) : SeqAt.shaped (tupI l) = true := (sh_tuple (n := 0) fun d hd => by
  obtain ⟨t, _, rfl⟩ := List.mem_map.mp hd
  exact sh_int).ok
theorem jlines_shp {n : Int} {rs : List Exp} (hj : JOk n rs) (h30 : n ≤ 30) : SeqAt.shaped (.list ((jlines n rs).map PyData.str)) = true := (sh_list (n := 0) fun d hd => by
  obtain ⟨s, hs, rfl⟩ := List.mem_map.mp hd
  unfold jlines at hs
  obtain ⟨x, hx, rfl⟩ := List.mem_map.mp hs
  exact sh_str (jline_ok (hj.ok x hx) (by have := hj.lo; omega) h30)).ok
def T_seen : TJ := fun us ds Q => ∃ n rs, us = [.int n, encR rs] ∧ ds = [.int n, .list (rs.map encX)] ∧ JOk n rs ∧ n ≤ 30 ∧ Q (.bool true)
theorem sc_law_seen : FnScope ["job", "number", "rows", "pages", "lines", "expression", "row", "index", "due", "page"] ["job", "number", "rows"] (defScope s_law_seen) := ⟨rfl, rfl, rfl, by decide +kernel, rfl, by decide +kernel, by decide +kernel⟩
theorem dn_law_seen {C cN cE cM cX cU : Addr} (t : Top K mg "_law_seen" s_law_seen ["job", "number", "rows"]) (J : JobJ P w K mg base C cN cE cM cX cU) (d_law_item_of : Dn P w K mg base "_law_item_of" 9 ["job", "index"] (spO K C jobN T_litem)) (d_law_shown : Dn P w K mg base "_law_shown" 3 ["expression", "number"] (spF K T_printed))
    (d_expression_text : Dn P w K mg base "expression_text" 3 ["expression"] (spD K T_exprt)) (d_law_like : Dn P w K mg base "_law_like" 4 ["one", "two"] (spD K (T_like 4))) (z_list : mg "list" = none) (z_len : mg "len" = none) (z_bool : mg "bool" = none) (z_str : mg "str" = none) (z_tuple : mg "tuple" = none) :
    Dn P w K mg base "_law_seen" 12 ["job", "number", "rows"] (spO K C jobN T_seen) := by
  obtain ⟨pN, gN, fdN, mN, FN, bN⟩ := J.nu
  obtain ⟨pP, gP, fdP, mP, FP, bP⟩ := J.pg
  obtain ⟨fL, fdL, mL, FL, bL⟩ := J.li
  obtain ⟨gI, mI, FI⟩ := J.co
  obtain ⟨g7, gE, m7, cm, F7, FE, FE2⟩ := J.le
  refine dn_of t fun f fd F => okO F sc_law_seen [4] (fun us ds Q ⟨n, rs, _, h, _⟩ => by rw [h]; rfl) (by decide) fun cdv A outer s H E dx us uds h1 h2 hr => ?_
  match us, uds, h1, h2 with
  | [v, u], [a, b], _, _ =>
  refine ⟨_, (dss_cons (ds_parVO 3 4 rfl sc_law_seen.nd (de_F (df_lst ga_nil)) (df_lst ga_nil))
      (dss_cons (ds_for PassesOwn.never rfl (di_list (dv 2)) (pg_name (i := 5) sc_law_seen.nd rfl (Or.inl rfl)) (bd_name 5) (dss_cons (ds_set 6 sc_law_seen.nd (de_callN d_law_shown.D hr (ga_cons (dv 5) (ga_cons (dv 1) ga_nil))))
      (dss_cons (ds_set 3 sc_law_seen.nd (de_F (df_catL (dv 3) (dv 6))))
      (dss_one (ds_app 4 (pe_bm PySem.F.plainAttrs_list PySem.F.slot_list_append PySem.F.type_list_append mt_append (pv 4) (ga_cons (de_adds (de_adds (de_rj (pe_bm PySem.F.plainAttrs_str PySem.F.slot_str_rjust PySem.F.type_str_rjust mt_rjust (de_strc z_str (de_len z_len (dv 6))) (ga_cons de_int ga_nil))) de_str) (de_callN d_expression_text hr (ga_cons (dv 5) ga_nil))) ga_nil)))))))
      (dss_cons (ds_if (db_w (dw_or (db_ne hr (de_sprop rfl rfl rfl rfl J.cl mN FN hr bN) (dv 1)) (dw_or (db_ne hr (de_sprop rfl rfl rfl rfl J.cl mP FP hr bP) (de_tuplec z_tuple (dv 3))) (dw_or1 (db_lx (db_ne hr (de_F (df_slines rfl rfl J.cl mL FL bL hr z_list)) (dvo 4 (hO := by show 4 ∈ [4]; decide)))))))) (dss_one (ds_ret de_bl)) dss_nil)
      (dss_cons (ds_if (db_w (dw_or (db_ne hr (de_slen rfl rfl rfl rfl m7 F7 hr z_len) (de_len z_len (dv 3))) (dw_or1 (db_ne hr (de_sbool rfl rfl rfl rfl m7 cm F7 hr z_bool) (de_ne hr (dv 3) (de_F (df_lst ga_nil))))))) (dss_one (ds_ret de_bl)) dss_nil)
      (dss_cons (ds_for PassesOwn.never rfl (di_tup (de_tup (ga_cons (de_neg de_int) (ga_cons de_int (ga_cons (de_sub (de_len z_len (dv 3)) de_int) (ga_cons (de_len z_len (dv 3)) ga_nil)))))) (pg_name (i := 7) sc_law_seen.nd rfl (Or.inl rfl)) (bd_name 7) (dss_cons (ds_set 8 sc_law_seen.nd (de_if (db_lelt de_int (dv 7) (de_len z_len (dv 3))) (de_ixq (dv 3) (dv 7)) de_str))
      (dss_one (ds_if (db_not (db_val (de_callN d_law_like hr (ga_cons (de_callNS rfl rfl rfl rfl d_law_item_of hr (ga_cons (dv 7) ga_nil)) (ga_cons (dv 8) ga_nil))))) (dss_one (ds_ret de_bl)) dss_nil))))
      (dss_cons (ds_if (db_w (dw_or (db_ne hr (de_callNS rfl rfl rfl rfl d_law_item_of hr (ga_cons de_bl ga_nil)) de_str) (dw_or (db_sin rfl rfl rfl rfl mI FI hr de_non) (dw_or1 (db_sin rfl rfl rfl rfl mI FI hr de_bl))))) (dss_one (ds_ret de_bl)) dss_nil)
      (dss_cons (ds_for PassesOwn.never rfl (di_tup (de_tup (ga_cons de_int (ga_cons de_int (ga_cons de_int (ga_cons (dv 1) (ga_cons (de_add (dv 1) de_int) ga_nil))))))) (pg_name (i := 9) sc_law_seen.nd rfl (Or.inl rfl)) (bd_name 9) (dss_one (ds_if (db_ne hr (de_sin rfl rfl rfl rfl mI FI hr (dv 9)) (de_in hr (dv 9) (dv 3))) (dss_one (ds_ret de_bl)) dss_nil)))
      (dss_one (ds_ret (de_sne rfl rfl rfl rfl cm FE hr (dv 3))))))))))), ?_⟩
  rintro ds Q ⟨n, rs, e, rfl, hj, h30, h⟩
  cases e
  have go : ∀ (st : DS) (rest : DS) (E : DEnds) (ρ : En), (∀ G, (G ρ) → st { E with nx := G } ρ) → rest E ρ → sSeq st rest E ρ := fun st rest E ρ h1 h2 => h1 _ h2
  refine seq_inv (fun ρ => ρ = [none, some (.int n), some (.list (rs.map encX)), some (.list []), some (.list []), none, none, none, none, none]) (fun G hG => ?_) ?_
  · simp
    exact hG _ rfl
  rintro _ rfl
  refine seq_inv (fun ρ => ∃ z5 z6, ρ = [none, some (.int n), some (.list (rs.map encX)), some (lstI (jpages n rs)), some (.list ((jlines n rs).map PyData.str)), z5, z6, none, none, none]) (fun G hG => ?_) ?_
  · simp [-forD]
    refine forD_of encX (fun pre ρ => ∃ z5 z6, ρ = [none, some (.int n), some (.list (rs.map encX)), some (lstI (jpages n pre)), some (.list ((jlines n pre).map PyData.str)), z5, z6, none, none, none]) _ _ (fun pre x post e ρ hI nx hnx => ?_) (fun ρ hI => ?_) ⟨_, _, rfl⟩
    · obtain ⟨z5, z6, rfl⟩ := hI
      have hx : ExpOk x := hj.ok x (by rw [e]; simp)
      have hpre : JOk n pre := ⟨hj.lo, hj.hi, by have := hj.few; rw [e] at this; simp at this; omega, fun y hy => hj.ok y (by rw [e]; simp [hy])⟩
      have hlp := jpages_len hpre
      have hl := printed_len hx hj.hi
      have hl2 := printed_lenW hx (n := n) (by have := hj.lo; omega)
      have hnx' := hnx [none, some (.int n), some (.list (rs.map encX)), some (lstI (jpages n (pre ++ [x]))), some (.list ((jlines n (pre ++ [x])).map PyData.str)), some (encX x), some (lstI (printed x n)), none, none, none] ⟨_, _, rfl⟩
      simp
      refine pr hx hj.lo hj.hi ?_
      simp
      have e4 := fmt4_rj (printed x n).length (by omega)
      have f4 := four_len (k := (printed x n).length) (by omega)
      rw [← e4]
      have h5 : (S (exprL x)).length ≤ 100 := by rw [S_len]; have := exprL_len hx; omega
      have h6 : (" " : Str).length = 1 := by decide
      refine ⟨by omega, by have := hpre.few; unfold jlines; rw [List.length_map]; omega, log2_small (by omega), by decide, szl (by omega), x, rfl, hx, _, rfl, szl (by rw [Str.length_append]; omega), ?_⟩
      have e7 : jline n x = intSpecTextOf ("4" : Str) ((printed x n).length : Int) ++ (" " : Str) ++ S (exprL x) := by
        unfold jline
        rw [Str.empty_append]
      have e8 : jlines n (pre ++ [x]) = jlines n pre ++ [jline n x] := by simp [jlines]
      have e9 : jpages n (pre ++ [x]) = jpages n pre ++ printed x n := by simp [jpages]
      rw [e8, e9, e7, List.map_append, lstI, List.map_append] at hnx'
      exact hnx'
    · obtain ⟨z5, z6, rfl⟩ := hI
      exact hG _ ⟨_, _, rfl⟩
  rintro _ ⟨z5, z6, rfl⟩
  refine go _ _ _ _ (fun G hG => ?_) ?_
  · simp
    exact ⟨rfl, n, rs, rfl, rfl, .inl ⟨by simp, rfl, n, rs, rfl, hj, ⟨shp_tupI _, shp_tupI _⟩, .inl ⟨eqv_self (noB_tupI _), rs, rfl, hj, ⟨jlines_shp hj h30, jlines_shp hj h30⟩, .inl ⟨eqv_self (noB_strs _), hG⟩⟩⟩⟩
  have hlp := jpages_len hj
  have hn0 := hj.lo
  refine go _ _ _ _ (fun G hG => ?_) ?_
  · simp
    refine ⟨rfl, n, rs, rfl, hj, _, rfl, by omega, by omega, .inl ⟨rfl, rfl, n, rs, rfl, hj, _, rfl, by omega, by omega, .inl ⟨?_, hG⟩⟩⟩
    have : ∀ l : List Int, ((l.length : Int) != 0) = !(lstI l).eqv (.list []) := fun l => by
      cases l with
      | nil => rfl
      | cons a l =>
        show _ = true
        simp
        omega
    exact this _
  refine seq_inv (fun ρ => ∃ z5 z6 z7 z8, ρ = [none, some (.int n), some (.list (rs.map encX)), some (lstI (jpages n rs)), some (.list ((jlines n rs).map PyData.str)), z5, z6, z7, z8, none]) (fun G hG => ?_) ?_
  · simp [-forD]
    have e : [PyData.int (-1), PyData.int 0, PyData.int ((jpages n rs).length - 1), PyData.int (jpages n rs).length] = ([-1, 0, ((jpages n rs).length : Int) - 1, ((jpages n rs).length : Int)] : List Int).map PyData.int := rfl
    rw [e]
    refine forD_of PyData.int (fun pre ρ => ∃ z7 z8, ρ = [none, some (.int n), some (.list (rs.map encX)), some (lstI (jpages n rs)), some (.list ((jlines n rs).map PyData.str)), z5, z6, z7, z8, none]) _ _ (fun pre i post e2 ρ hI nx hnx => ?_) (fun ρ hI => ?_) ⟨_, _, rfl⟩
    · obtain ⟨z7, z8, rfl⟩ := hI
      simp
      have nx' : ∀ d, nx [none, some (.int n), some (.list (rs.map encX)), some (lstI (jpages n rs)), some (.list ((jlines n rs).map PyData.str)), z5, z6, some (.int i), some d, none] := fun d => hnx _ ⟨_, _, rfl⟩
      by_cases h0 : 0 ≤ i
      · rw [if_pos h0]
        by_cases h1 : i < ((jpages n rs).length : Int)
        · rw [if_pos h1]
          obtain ⟨k, rfl⟩ : ∃ k : Nat, i = k := ⟨i.toNat, by omega⟩
          have hk : k < (jpages n rs).length := by omega
          have e1 : (jpages n rs)[k]? = some (jpages n rs)[k] := List.getElem?_eq_getElem hk
          refine ⟨.int (jpages n rs)[k], atI_nat (by rw [List.getElem?_map, e1]; rfl), n, rs, _, rfl, rfl, hj, ?_⟩
          have e3 : litem n rs (.int (k : Nat)) = .int (jpages n rs)[k] := by
            show (if _ then _ else _) = _
            rw [if_pos (by omega), Int.toNat_natCast, List.getD_eq_getElem?_getD, e1]
            rfl
          rw [e3]
          exact ⟨_, _, rfl, True.intro, sh_int, fun _ => .inr ⟨rfl, nx' _⟩, fun z => absurd rfl z⟩
        · rw [if_neg h1]
          refine ⟨n, rs, _, rfl, rfl, hj, ?_⟩
          have e3 : litem n rs (.int i) = .str "index" := by
            show (if _ then _ else _) = _
            rw [if_neg (by omega)]
          rw [e3]
          exact ⟨_, _, rfl, (by decide +kernel : PyData.strOk "index" = true), sh_str (by decide +kernel), fun _ => .inr ⟨rfl, nx' _⟩, fun z => absurd rfl z⟩
      · rw [if_neg h0]
        refine ⟨n, rs, _, rfl, rfl, hj, ?_⟩
        have e3 : litem n rs (.int i) = .str "index" := by
          show (if _ then _ else _) = _
          rw [if_neg (by omega)]
        rw [e3]
        exact ⟨_, _, rfl, (by decide +kernel : PyData.strOk "index" = true), sh_str (by decide +kernel), fun _ => .inr ⟨rfl, nx' _⟩, fun z => absurd rfl z⟩
    · obtain ⟨z7, z8, rfl⟩ := hI
      exact hG _ ⟨_, _, _, _, rfl⟩
  rintro _ ⟨z5, z6, z7, z8, rfl⟩
  refine go _ _ _ _ (fun G hG => ?_) ?_
  · simp
    have si : SeqAt.shaped (.str "index") = true := (sh_str (n := 0) (by decide +kernel)).ok
    exact ⟨n, rs, _, rfl, rfl, hj, ⟨si, si⟩, .inl ⟨eqv_self rfl, _, rfl, n, rs, rfl, hj, .inl ⟨rfl, _, rfl, n, rs, rfl, hj, .inl ⟨rfl, hG⟩⟩⟩⟩
  refine seq_inv (fun ρ => ∃ z5 z6 z7 z8 z9, ρ = [none, some (.int n), some (.list (rs.map encX)), some (lstI (jpages n rs)), some (.list ((jlines n rs).map PyData.str)), z5, z6, z7, z8, z9]) (fun G hG => ?_) ?_
  · simp [-forD]
    have e : [PyData.int 0, PyData.int 1, PyData.int 2, PyData.int n, PyData.int (n + 1)] = ([0, 1, 2, n, n + 1] : List Int).map PyData.int := rfl
    rw [e]
    refine forD_of PyData.int (fun pre ρ => ∃ z9, ρ = [none, some (.int n), some (.list (rs.map encX)), some (lstI (jpages n rs)), some (.list ((jlines n rs).map PyData.str)), z5, z6, z7, z8, z9]) _ _ (fun pre i post e2 ρ hI nx hnx => ?_) (fun ρ hI => ?_) ⟨_, rfl⟩
    · obtain ⟨z9, rfl⟩ := hI
      simp
      have nx' : nx [none, some (.int n), some (.list (rs.map encX)), some (lstI (jpages n rs)), some (.list ((jlines n rs).map PyData.str)), z5, z6, z7, z8, some (.int i)] := hnx _ ⟨_, rfl⟩
      refine ⟨_, rfl, n, rs, rfl, hj, ?_⟩
      by_cases hm : i ∈ jpages n rs
      · obtain ⟨m1, m2⟩ := jpages_sub hm
        refine .inr ⟨by simp [m1, m2, hm], .inl ⟨⟨_, ⟨i, hm, rfl⟩, by simp⟩, nx'⟩⟩
      · exact .inl ⟨by simp [hm], .inl ⟨fun a ha e => hm (e ▸ ha), nx'⟩⟩
    · obtain ⟨z9, rfl⟩ := hI
      exact hG _ ⟨_, _, _, _, _, rfl⟩
  rintro _ ⟨z5, z6, z7, z8, z9, rfl⟩
  simp
  exact ⟨_, n, rs, rfl, rfl, .inl ⟨rfl, h⟩⟩

end
end Pg
namespace Pg
open PySem PySem.Spec PyProof.Rows L2
section
variable {P : Program} {w : World} {K : PySem.W.Frag} {mg : Str → Option Value} {base : Heap}
/-! ## how a Job is made -/
/-- how a Job's making is used -/
theorem job_useM {C cN : Addr} {M : Ms} {H : Hp} {d : PyData} {v : V} {Q : VK} {E : XK} (lv : Live M H) (uv : Dp K (hid M H) v d) (k0 : isIntV d 1 1000 = false → ∀ H', Same H H' → E (.ref cN) none H')
    (k1 : isIntV d 1 1000 = true → ∀ x dx H' u, H x = none → Same H H' → H' x = some (.ins C dx (jobF v u)) → Dp K (hid (M.with x) H') u (.tuple []) → Q (.ref x) H') :
    ∀ x dx, H x = none → H dx = none → dx ≠ x → spJobI K C cN [.ref x, v] (upd (upd H dx (.own x)) x (.ins C dx [])) (fun v H3 => v = .non ∧ Q (.ref x) H3) E := by
  intro x dx hx hdx hne
  have sH : Same H (upd (upd H dx (.own x)) x (.ins C dx [])) := fun y o e => by
    have y2 : y ≠ x := fun z => by rw [z, hx] at e; cases e
    have y3 : y ≠ dx := fun z => by rw [z, hdx] at e; cases e
    rw [upd_ne y2, upd_ne y3]
    exact e
  have sM : Same (hid M H) (hid (M.with x) (upd (upd H dx (.own x)) x (.ins C dx []))) := fun y o e => by
    obtain ⟨m, e⟩ := hid_some.mp e
    have y2 : y ≠ x := fun z => by rw [z, hx] at e; cases e
    exact hid_some.mpr ⟨by rw [with_ne y2]; exact m, sH y o e⟩
  refine ⟨M.with x, x, dx, v, d, rfl, upd_same, with_self, fun y m e => ?_, dp_mono sM uv, fun h H' s' => k0 h H' (sH.trans s'), fun h H' u hk h2 hu => ⟨rfl, ?_⟩⟩
  · by_cases hy : y = x
    · rw [hy, upd_same] at e
      cases e
    · rw [with_ne hy] at m
      cases q : H y with
      | none => exact lv y m q
      | some o => rw [sH y o q] at e; cases e
  · refine k1 h x dx H' u hx (fun y o e => ?_) h2 hu
    exact hk y o (fun z => by rw [z, hx] at e; cases e) (sH y o e)
theorem same_with {M : Ms} {H H' : Hp} {x : Addr} (s : Same H H') (hx : H x = none) : Same (hid M H) (hid (M.with x) H') := fun b o e => by
  obtain ⟨m, e⟩ := hid_some.mp e
  have hb : b ≠ x := fun z => by rw [z, hx] at e; cases e
  exact hid_some.mpr ⟨by rw [with_ne hb]; exact m, s b o e⟩
theorem live_with {M : Ms} {H : Hp} {x : Addr} (lv : Live M H) (hx : H x ≠ none) : Live (M.with x) H := fun y m => by
  by_cases hy : y = x
  · rw [hy]; exact hx
  · rw [with_ne hy] at m
    exact lv y m
theorem free_back {H H' : Hp} {x : Addr} (s : Same H H') (h : H' x = none) : H x = none := by
  cases e : H x with
  | none => rfl
  | some o => rw [s x o e] at h; cases h

end
end Pg
namespace Pg
open PySem PySem.Spec PyProof.Rows L2
section
variable {P : Program} {w : World} {K : PySem.W.Frag} {mg : Str → Option Value} {base : Heap}
/-! ## law 19: what comes of a call -/
theorem listV_ok {p : Part} (h : PartOk p) : listV (encL p) = true := by
  unfold listV encL
  have : (p.map encI).all itemV = true := by
    rw [List.all_eq_true]
    intro d hd
    obtain ⟨t, ht, rfl⟩ := List.mem_map.mp hd
    exact itemV_enc (h.ok t ht)
  simp only [this, List.length_map, Bool.and_true, h.lo, h.hi, decide_true]
theorem exprV_ok {x : Exp} (h : ExpOk x) : exprV (encX x) = true := by
  unfold exprV encX
  have : (x.map encL).all listV = true := by
    rw [List.all_eq_true]
    intro d hd
    obtain ⟨t, ht, rfl⟩ := List.mem_map.mp hd
    exact listV_ok (h.ok t ht)
  simp only [this, List.length_map, Bool.and_true, h.lo, h.hi, decide_true]
inductive Out (n : Int) (wy : Str) (d : PyData) (rs : List Exp) : PyData → List Exp → Prop
  | none (h : wy = "undo") (e : rs = []) : Out n wy d rs (.str "nothing") []
  | back (h : wy = "undo") (r0 : List Exp) (y : Exp) (e : rs = r0 ++ [y]) : Out n wy d rs (encX y) r0
  | bad (h : wy ≠ "undo") (e : exprV d = false) : Out n wy d rs (.str "expression") rs
  | many (h : wy ≠ "undo") (e : exprV d = true) (e8 : rs.length = 8) : Out n wy d rs (.str "many") rs
  | put (h : wy ≠ "undo") (y : Exp) (e : d = encX y) (hy : ExpOk y) (e8 : rs.length < 8) : Out n wy d rs (.int ((printed y n).length : Int)) (rs ++ [y])
theorem Out.jok {n : Int} {wy : Str} {d dd : PyData} {rs rs' : List Exp} (o : Out n wy d rs dd rs') (h : JOk n rs) : JOk n rs' := by
  cases o with
  | none h1 e => exact ⟨h.lo, h.hi, by simp, by simp⟩
  | back h1 r0 y e =>
    subst e
    have := h.few
    simp at this
    exact ⟨h.lo, h.hi, by omega, fun x hx => h.ok x (by simp [hx])⟩
  | bad h1 e => exact h
  | many h1 e e8 => exact h
  | put h1 y e hy e8 =>
    refine ⟨h.lo, h.hi, by simp; omega, fun x hx => ?_⟩
    rcases List.mem_append.mp hx with hx | hx
    · exact h.ok x hx
    · rw [List.mem_singleton.mp hx]; exact hy
theorem fit_encX4 {x : Exp} (h : ExpOk x) : Fit 4 (encX x) := ⟨by have := h.hi; rw [List.length_map]; omega, fun d hd => by
  obtain ⟨p, hp, rfl⟩ := List.mem_map.mp hd
  exact ⟨by have := (h.ok p hp).hi; rw [List.length_map]; omega, fun d hd => by
    obtain ⟨t, _, rfl⟩ := List.mem_map.mp hd
    exact fit_encI⟩⟩
theorem Out.fit {n : Int} {wy : Str} {d dd : PyData} {rs rs' : List Exp} (o : Out n wy d rs dd rs') (h : JOk n rs) : Fit 4 dd ∧ Sh 60 dd := by
  cases o with
  | none h1 e => exact ⟨(by decide +kernel : PyData.strOk "nothing" = true), sh_str (by decide +kernel)⟩
  | back h1 r0 y e => exact ⟨fit_encX4 (h.ok y (by rw [e]; simp)), (sh_encX (n := 57) y)⟩
  | bad h1 e => exact ⟨(by decide +kernel : PyData.strOk "expression" = true), sh_str (by decide +kernel)⟩
  | many h1 e e8 => exact ⟨(by decide +kernel : PyData.strOk "many" = true), sh_str (by decide +kernel)⟩
  | put h1 y e hy e8 => exact ⟨True.intro, sh_int⟩
theorem lnext_of {M : Ms} {r : Addr} {xs : List V} {vw vt : V} {n : Int} {rs : List Exp} {wy : Str} {d : PyData} {H : Hp} {Q : VK} {E : XK} (hM : M r = true) (hx : H r = some (.lst xs)) (lv : Live M H) (dxs : DpAll K (hid M H) xs (rs.map encX)) (dw : Dp K (hid M H) vw (.str wy)) (dt : Dp K (hid M H) vt d) (hj : JOk n rs) (hok : PyData.strOk wy = true)
    (hd : exprV d = true → ∃ y, d = encX y ∧ ExpOk y) (k : ∀ dd rs', Out n wy d rs dd rs' → ∀ H' ys w, (∀ z o, z ≠ r → H z = some o → H' z = some o) → H' r = some (.lst ys) → DpAll K (hid M H') ys (rs'.map encX) → Dp K (hid M H') w dd → Q w H') : spLnext K [.ref r, .int n, vw, vt] H Q E := by
  refine ⟨M, r, xs, vw, vt, n, rs, wy, d, rfl, hM, hx, lv, dxs, dw, dt, hj, hok, hd, fun h e H' s' => ?_, fun h r0 y e H' ys w hk h1 h2 h3 => ?_, fun h e H' s' => ?_, fun h e e8 H' s' => ?_, fun h y e hy e8 H' ys hk h1 h2 => ?_⟩
  · subst e
    exact k _ _ (.none h rfl) H' xs _ (fun z o _ e => s' _ _ e) (s' _ _ hx) (dpa_mono (same_hid s') dxs) (.str _)
  · exact k _ _ (.back h r0 y e) H' ys w hk h1 h2 h3
  · exact k _ _ (.bad h e) H' xs _ (fun z o _ e => s' _ _ e) (s' _ _ hx) (dpa_mono (same_hid s') dxs) (.str _)
  · exact k _ _ (.many h e e8) H' xs _ (fun z o _ e => s' _ _ e) (s' _ _ hx) (dpa_mono (same_hid s') dxs) (.str _)
  · exact k _ _ (.put h y e hy e8) H' ys _ hk h1 h2 (.int _)
theorem lcall_of {C : Addr} {M : Ms} {x dx : Addr} {v u vw vt : V} {n : Int} {rs rs' : List Exp} {wy : Str} {d dd : PyData} {H : Hp} {Q : VK} {E : XK} (hM : M x = true) (hx : H x = some (.ins C dx (jobN.zip [v, u]))) (lv : Live M H) (dvn : Dp K (hid M H) v (.int n)) (dvu : Dp K (hid M H) u (encR rs)) (dw : Dp K (hid M H) vw (.str wy)) (dt : Dp K (hid M H) vt d) (hj : JOk n rs) (hok : PyData.strOk wy = true)
    (hd : exprV d = true → ∃ y, d = encX y ∧ ExpOk y) (o : Out n wy d rs dd rs') (k : ∀ H' u2 w, (∀ z o, z ≠ x → H z = some o → H' z = some o) → H' x = some (.ins C dx (jobN.zip [v, u2])) → Dp K (hid M H') u2 (encR rs') → Dp K (hid M H') w dd → Q w H') : spLcall K C [.ref x, vw, vt] H Q E := by
  refine ⟨M, x, dx, v, u, vw, vt, n, rs, wy, d, rfl, hM, hx, lv, dvn, dvu, dw, dt, hj, hok, hd, fun h e H' s' => ?_, fun h r0 y e H' u2 w hk h1 h2 h3 => ?_, fun h e H' s' => ?_, fun h e e8 H' s' => ?_, fun h y e hy e8 H' u2 hk h1 h2 => ?_⟩
  · cases o with
    | none g1 g2 => subst g2; exact k H' u _ (fun z o _ e => s' _ _ e) (s' _ _ hx) (dp_mono (same_hid s') dvu) (.str _)
    | back g1 r0 y g2 => subst e; simp at g2
    | bad g1 _ => exact absurd h g1
    | many g1 _ _ => exact absurd h g1
    | put g1 _ _ _ _ => exact absurd h g1
  · cases o with
    | none g1 g2 => subst g2; simp at e
    | back g1 r1 y1 g2 =>
      subst g2
      have e1 := List.append_inj_left' e rfl
      have e2 := List.append_inj_right' e rfl
      cases e2
      subst e1
      exact k H' u2 w hk h1 h2 h3
    | bad g1 _ => exact absurd h g1
    | many g1 _ _ => exact absurd h g1
    | put g1 _ _ _ _ => exact absurd h g1
  · cases o with
    | none g1 _ => exact absurd g1 h
    | back g1 _ _ _ => exact absurd g1 h
    | bad _ _ => exact k H' u _ (fun z o _ e => s' _ _ e) (s' _ _ hx) (dp_mono (same_hid s') dvu) (.str _)
    | many _ g2 _ => rw [g2] at e; cases e
    | put _ y g2 gy _ => subst g2; rw [exprV_ok gy] at e; cases e
  · cases o with
    | none g1 _ => exact absurd g1 h
    | back g1 _ _ _ => exact absurd g1 h
    | bad _ g2 => rw [g2] at e; cases e
    | many _ _ _ => exact k H' u _ (fun z o _ e => s' _ _ e) (s' _ _ hx) (dp_mono (same_hid s') dvu) (.str _)
    | put _ y g2 gy g8 => omega
  · cases o with
    | none g1 _ => exact absurd g1 h
    | back g1 _ _ _ => exact absurd g1 h
    | bad _ g2 => subst e; rw [exprV_ok hy] at g2; cases g2
    | many _ _ g8 => omega
    | put _ y1 g2 gy _ =>
      subst e
      cases encX_inj.mp g2
      exact k H' u2 _ hk h1 h2 (.int _)
/-! ### readings with the tape, at the kit's level -/
abbrev Zt : Sg := ⟨[], some 1, false, false, none⟩
section
variable {M : Ms} {H H' : Hp} {σ : L2.St} {ρ : En} {t l : Addr}
theorem ed_tape (lv : Live M H) (hM : M t = true) (tp : Tape t l H) (h1 : σ[1]? = some (some (.ref t))) (hl : σ.length = ρ.length) (h : ∀ (i : Nat) (d : PyData), ρ[i]? = some (some d) → ∃ v, σ[i]? = some (some v) ∧ Dp K (hid M H) v d) : ED K Zt ⟨M, H, t, l⟩ M σ ρ H :=
  ⟨.refl, fun i z => by cases z; exact ⟨hM, tp, h1⟩, fun i z => tp.liveL, fun _ m => m, lv, lv, hl, fun i d _ e => h i d e, fun i d z _ => (nomatch z), fun i p z _ => (nomatch z), fun i j p d e z _ _ _ _ _ => (nomatch z), fun q vd z => (nomatch z)⟩
theorem rdT (lv : Live M H) (hM : M t = true) (tp : Tape t l H) (h1 : σ[1]? = some (some (.ref t))) (hl : σ.length = ρ.length) (h : ∀ (i : Nat) (d : PyData), ρ[i]? = some (some d) → ∃ v, σ[i]? = some (some v) ∧ Dp K (hid M H) v d) {g : DE} {P : PyData → Prop} {Q : VK} (hg : g ρ P)
    (k : ∀ d, P d → ∀ v H', RA (some t) H H' → Tape t l H' → Dp K (hid M H') v d → Q v H') : tG K Zt g σ H Q :=
  ⟨_, _, ρ, P, ed_tape lv hM tp h1 hl h, hg, fun d hd v H' r E dv => k d hd v H' r (E.tap 1 rfl).2.1 dv⟩
theorem rdTB (lv : Live M H) (hM : M t = true) (tp : Tape t l H) (h1 : σ[1]? = some (some (.ref t))) (hl : σ.length = ρ.length) (h : ∀ (i : Nat) (d : PyData), ρ[i]? = some (some d) → ∃ v, σ[i]? = some (some v) ∧ Dp K (hid M H) v d) {g : DB} {P : Bool → Prop} {Q : Bool → Hp → Prop} (hg : g ρ P)
    (k : ∀ b, P b → ∀ H', RA (some t) H H' → Tape t l H' → Q b H') : tGB K Zt g σ H Q :=
  ⟨_, _, ρ, P, ed_tape lv hM tp h1 hl h, hg, fun b hb H' r E => k b hb H' r (E.tap 1 rfl).2.1⟩
theorem ra_live (lv : Live M H) (r : RA (some t) H H') (tp : Tape t l H') : Live M H' := fun b m z => by
  by_cases e : b = t
  · rw [e] at z; exact tp.live z
  · cases q : H b with
    | none => exact lv b m q
    | some o => rw [r b o (fun w => e (Option.some.inj w).symm) q] at z; cases z
theorem ra_hid (hM : M t = true) (r : RA (some t) H H') : Same (hid M H) (hid M H') := r.hid fun a e => by cases e; exact hM
end
/-- a Job made of a number -/
theorem mk_jobT {E : XK} {ta : TA} {M : Ms} {σ : L2.St} {H : Hp} {Q : VK} {C cN : Addr} {n : Int} (lv : Live M H) (h1 : 1 ≤ n) (h2 : n ≤ 1000) (ht : ∀ R : List V → Hp → Prop, (∀ H1, Same H H1 → R [.int n] H1) → ta σ H R)
    (k : ∀ x dx H' u, H x = none → Same H H' → H' x = some (.ins C dx (jobN.zip [.int n, u])) → Dp K (hid (M.with x) H') u (encR []) → Q (.ref x) H') : tMake C (spJobI K C cN) [] E ta σ H Q := by
  refine ht _ fun H1 s1 => ?_
  exact job_useM (C := C) (cN := cN) (Q := Q) (lv.same s1) (.int n) (fun h => by simp [isIntV, h1, h2] at h) fun _ x dx H' u hx s' hH' du => k x dx H' u (free_back s1 hx) (s1.trans s') (by rw [hH', jobF_zip]) du

end
end Pg
namespace Pg
open PySem PySem.Spec PyProof.Rows L2
section
variable {P : Program} {w : World} {K : PySem.W.Frag} {mg : Str → Option Value} {base : Heap}
open SX
theorem sc_law : FnScope ["script", "tape", "number", "rows", "job", "turn", "way", "thing", "due"] ["script"] (defScope s_law) := ⟨rfl, rfl, rfl, by decide +kernel, rfl, by decide +kernel, by decide +kernel⟩
def gTail : DS := fun E ρ => ρ.length = 9 ∧ E.rt (.bool true)
theorem none9 {K : PySem.W.Frag} {H : Hp} {σ : L2.St} : ∀ (i : Nat) (d : PyData), (List.replicate 9 (none : Option PyData))[i]? = some (some d) → ∃ v, σ[i]? = some (some v) ∧ Dp K H v d := fun i d e => by
  rw [List.getElem?_replicate] at e
  split at e <;> cases e
/-- what stands in the slots all through the loop -/
structure S4 (t r x : Addr) (n : Int) (σ : L2.St) : Prop where
  len : σ.length = 9
  s1 : σ[1]? = some (some (.ref t))
  s2 : σ[2]? = some (some (.int n))
  s3 : σ[3]? = some (some (.ref r))
  s4 : σ[4]? = some (some (.ref x))
theorem S4.set {t r x : Addr} {n : Int} {σ : L2.St} {i : Nat} {v : Option V} (h : S4 t r x n σ) (hi : 5 ≤ i) : S4 t r x n (σ.set i v) :=
  ⟨by rw [List.length_set]; exact h.len, by rw [List.getElem?_set_ne (by omega)]; exact h.s1, by rw [List.getElem?_set_ne (by omega)]; exact h.s2, by rw [List.getElem?_set_ne (by omega)]; exact h.s3, by rw [List.getElem?_set_ne (by omega)]; exact h.s4⟩
def TH (d : PyData) : Prop := exprV d = true → ∃ y, d = encX y ∧ ExpOk y
theorem ra_put {t x : Addr} {A B B' : Hp} (h : RA (some t) A B) (h0 : A x = none) (k : ∀ z o, z ≠ x → B z = some o → B' z = some o) : RA (some t) A B' := fun b o hb e => k b o (fun z => by rw [z, h0] at e; cases e) (h b o hb e)
theorem tape_put {t l x : Addr} {H H' : Hp} (h : Tape t l H) (ht : t ≠ x) (hl : l ≠ x) (k : ∀ z o, z ≠ x → H z = some o → H' z = some o) : Tape t l H' := by
  obtain ⟨ns, m, c, h1, h2, h3, h4⟩ := h
  exact ⟨ns, m, c, k _ _ ht h1, h2, k _ _ hl h3, h4⟩
theorem turn_if {g1 : DB} {g2 : DE} {D : Ends} {M : Ms} {H : Hp} {σ : L2.St} {t l : Addr} {vt : V} {d : PyData} (lv : Live M H) (hM : M t = true) (tp : Tape t l H) (h1 : σ[1]? = some (some (.ref t))) (hl : σ.length = 9) (hg1 : g1 (List.replicate 9 none) fun _ => True) (hg2 : g2 (List.replicate 9 none) TH)
    (h7 : σ[7]? = some (some vt)) (dvt : Dp K (hid M H) vt d) (hd : TH d)
    (k : ∀ σ' H' vt' d', (σ' = σ ∨ σ' = σ.set 7 (some vt')) → σ'[7]? = some (some vt') → RA (some t) H H' → Tape t l H' → Dp K (hid M H') vt' d' → TH d' → D.nx σ' H') :
    tIfS (tGB K Zt g1) (tAsg (tG K Zt g2) (L2.gName 7)) tNext D σ H := by
  refine rdTB (ρ := List.replicate 9 none) lv hM tp h1 (by rw [hl]; rfl) none9 hg1 fun b _ H1 r1 tp1 => ?_
  cases b with
  | true =>
    refine iteT ?_
    refine rdT (ρ := List.replicate 9 none) (ra_live lv r1 tp1) hM tp1 h1 (by rw [hl]; rfl) none9 hg2 fun d2 hd2 v2 H2 r2 tp2 dv2 => ?_
    exact k _ H2 v2 d2 (.inr rfl) (List.getElem?_set_self (by omega)) (r1.trans r2) tp2 dv2 hd2
  | false => exact iteF (k σ H1 vt d (.inl rfl) h7 r1 tp1 (dp_mono (ra_hid hM r1) dvt) hd)
/-- what holds ahead of each turn -/
structure LI (K : PySem.W.Frag) (N : Ms) (t l : Addr) (H0 : Hp) (cJob r x dx : Addr) (n : Int) (σ : L2.St) (H : Hp) : Prop where
  ex : ∃ rs u xs, H x = some (.ins cJob dx (jobN.zip [.int n, u])) ∧ Dp K (hid N H) u (encR rs) ∧ H r = some (.lst xs) ∧ DpAll K (hid N H) xs (rs.map encX) ∧ JOk n rs
  lv : Live N H
  tp : Tape t l H
  s4 : S4 t r x n σ
  ra : RA (some t) H0 H
theorem law_tail {f cJob cE cN cX cM cU : Addr} {cdv : Value} {A : Around} {outer : List Env} {s : Shared} {H0 : Hp} {E0' : XK} (hr : Room 13 (A.deeper (envOfC "law" (defScope s_law) s.heap.objs.size f cdv))) (J : JobJ P w K mg base cJob cN cE cM cX cU)
    (d_law_draw : Dn P w K mg base "_law_draw" 1 ["tape", "many"] (spT K T_draw)) (d_law_expression : Dn P w K mg base "_law_expression" 5 ["tape"] (spT K T_expr)) (d_law_like : Dn P w K mg base "_law_like" 4 ["one", "two"] (spD K (T_like 4)))
    (d_law_next : Dn P w K mg base "_law_next" 6 ["rows", "number", "way", "thing"] (spLnext K)) (d_law_call : Dn P w K mg base "_law_call" 8 ["job", "way", "thing"] (spLcall K cJob)) (d_law_seen : Dn P w K mg base "_law_seen" 12 ["job", "number", "rows"] (spO K cJob jobN T_seen)) (z_range : mg "range" = none) :
    PDSs (cxOf CX0 P w K mg base ["script", "tape", "number", "rows", "job", "turn", "way", "thing", "due"] "law" (defScope s_law) f cdv A outer s H0 E0').nox ⟨[], some 1, false, false, none⟩ ((defBody s_law).drop 1) gTail := by
  obtain ⟨fJ, fdJ, mkJ, FJ, bJ⟩ := J.made
  obtain ⟨g7, gE, m7, cm, F7, FE, FE2⟩ := J.le
  obtain ⟨fN, fdN, FN, gN, kN, bN⟩ := d_law_next
  obtain ⟨fC, fdC, FC, gC, kC, bC⟩ := d_law_call
  obtain ⟨fS, fdS, FS, gS, kS, bS⟩ := d_law_seen
  obtain ⟨fL, fdL, FL, gL, kL, bL⟩ := id d_law_like
  refine pss_wk (pss_cons (ps_par (i := 2) (j := 3) rfl sc_law.nd rfl rfl (by decide) rfl rfl (pa_cons ((show PE _ _ (tG K Zt _) from (de_ixq (de_F (df_lst (ga_cons de_int (ga_cons de_int (ga_cons de_int (ga_cons de_int (ga_cons de_int ga_nil))))))) (de_callNT 1 d_law_draw hr (ga_cons de_int ga_nil))))) (pa_cons (pe_lst pa_nil) pa_nil)) rfl)
    (pss_cons (ps_set (i := 4) sc_law.nd rfl (.inl rfl) (pe_make mkJ FJ (hr.mono (by decide)) rfl J.g bJ .nil passF (pa_cons (pv 2) pa_nil)))
    (pss_cons (ps_for PassesOwn.never rfl (pi_range1 rfl z_range (pa_cons pe_int pa_nil)) (pg_name (i := 5) sc_law.nd rfl (.inl rfl))
      (pss_cons (ps_set (i := 6) sc_law.nd rfl (.inl rfl) ((show PE _ _ (tG K Zt _) from (de_ixq (de_F (df_lst (ga_cons de_str (ga_cons de_str (ga_cons de_str (ga_cons de_str ga_nil)))))) (de_callNT 1 d_law_draw hr (ga_cons de_int ga_nil))))))
      (pss_cons (ps_set (i := 7) sc_law.nd rfl (.inl rfl) ((show PE _ _ (tG K Zt _) from (de_callNT 1 d_law_expression hr ga_nil))))
      (pss_cons (ps_if ((show PT _ _ (tGB K Zt _) from (db_eq hr (de_callNT 1 d_law_draw hr (ga_cons de_int ga_nil)) de_int))) (pss_one (ps_set (i := 7) sc_law.nd rfl (.inl rfl) ((show PE _ _ (tG K Zt _) from (de_ixq (de_F (df_lst (ga_cons de_non (ga_cons (de_tup ga_nil) (ga_cons de_str (ga_cons (de_tup (ga_cons (de_tup ga_nil) ga_nil)) (ga_cons de_int ga_nil))))))) (de_callNT 1 d_law_draw hr (ga_cons de_int ga_nil))))))) pss_nil)
      (pss_cons (ps_set (i := 8) sc_law.nd rfl (.inl rfl) (pe_call FN (hr.mono (by decide)) rfl gN kN bN .nil pass0 (pa_cons (pv 3) (pa_cons (pv 2) (pa_cons (pv 6) (pa_cons (pv 7) pa_nil))))))
      (pss_one (ps_if (PW.pt (pw_or (pt_not (pt_val (pe_call FL (hr.mono (by decide)) rfl gL kL bL .nil pass0 (pa_cons (pe_call FC (hr.mono (by decide)) rfl gC kC bC .nil pass0 (pa_cons (pv 4) (pa_cons (pv 6) (pa_cons (pv 7) pa_nil)))) (pa_cons (pv 8) pa_nil)))))
        (pw_or1 (pt_not (pt_val (pe_call FS (hr.mono (by decide)) rfl gS kS bS .nil pass0 (pa_cons (pv 4) (pa_cons (pv 2) (pa_cons (pv 3) pa_nil))))))))) (pss_one (ps_ret pe_bl)) pss_nil)))))))
    (pss_one (ps_ret (pe_and (pe_cmpR (op_eqD hr.units) (pe_cmpR (op_eqI cm FE2 (hr.mono (by decide)) pass0) (pv 4) (pe_make mkJ FJ (hr.mono (by decide)) rfl J.g bJ .nil passF (pa_cons (pv 2) pa_nil)) (nomark _)) (pe_cmpR (op_eqD hr.units) (pv 3) (pe_lst pa_nil) (nomark _)) (nomark _))
      (pe_one (pe_not (pe_cmpR (op_eqI cm FE2 (hr.mono (by decide)) pass0) (pv 4) (pe_make mkJ FJ (hr.mono (by decide)) rfl J.g bJ .nil passF (pa_cons ((show PE _ _ (tG K Zp _) from (de_add (dv 2) de_int))) pa_nil)) (nomark _)))))))))) fun D σ H h => ?_
  obtain ⟨C, M, ρ, E, I, ⟨hlen, hrt⟩, T⟩ := h
  have hsl : σ.length = 9 := I.len.trans hlen
  have lv : Live M H := I.liv
  obtain ⟨hMt, tp, ht1⟩ := I.tap 1 rfl
  have tp : Tape C.t C.l H := tp
  have hMt : M C.t = true := I.sub _ hMt
  dsimp only [tSeq, tPar, tCons, tNil]
  refine rdT (ρ := List.replicate 9 none) (P := fun z => ∃ n : Int, z = .int n ∧ 1 ≤ n ∧ n ≤ 30) lv hMt tp ht1 (by rw [hsl]; rfl) none9 ?_ fun z hz v H1 r1 tp1 dv => ?_
  · simp [T_draw]
    intro r h0 h1
    have : r = 0 ∨ r = 1 ∨ r = 2 ∨ r = 3 ∨ r = 4 := by omega
    rcases this with rfl | rfl | rfl | rfl | rfl <;> exact ⟨_, rfl, _, rfl, by decide, by decide⟩
  obtain ⟨n, rfl, hn1, hn30⟩ := hz
  cases dp_int dv
  refine ⟨Nat.zero_le _, fun r hr0 => ⟨_, _, rfl, ?_⟩⟩
  have rel1 : RA (some C.t) C.H0 H1 := I.rel.trans r1
  have lv1 := ra_live lv r1 tp1
  have h0r : C.H0 r = none := by
    cases e : C.H0 r with
    | none => rfl
    | some o =>
      by_cases q : r = C.t
      · rw [q] at hr0; exact absurd hr0 tp1.live
      · rw [rel1 r o (fun z => q (Option.some.inj z).symm) e] at hr0; cases hr0
  have htr : C.t ≠ r := fun z => tp1.live (by rw [z]; exact hr0)
  have hlr : C.l ≠ r := fun z => tp1.liveL (by rw [z]; exact hr0)
  have s2 : Same H1 (upd H1 r (.lst [])) := same_new hr0
  have hr2 : (upd H1 r (.lst [])) r = some (.lst []) := upd_same
  have tp2 := tp1.same s2
  have rel2 := rel1.trans (RA.of s2)
  have lv2 : Live (M.with r) (upd H1 r (.lst [])) := live_with (lv1.same s2) (by rw [hr2]; exact fun z => nomatch z)
  have eσ1 : ((σ.set 2 (some (V.int n))).set 3 (some (V.ref r)))[1]? = some (some (.ref C.t)) := by rw [List.getElem?_set_ne (by decide), List.getElem?_set_ne (by decide)]; exact ht1
  have eσ2 : ((σ.set 2 (some (V.int n))).set 3 (some (V.ref r)))[2]? = some (some (.int n)) := by rw [List.getElem?_set_ne (by decide)]; exact List.getElem?_set_self (by omega)
  have eσ3 : ((σ.set 2 (some (V.int n))).set 3 (some (V.ref r)))[3]? = some (some (.ref r)) := List.getElem?_set_self (by rw [List.length_set]; omega)
  have hl2 : ((σ.set 2 (some (V.int n))).set 3 (some (V.ref r))).length = 9 := by rw [List.length_set, List.length_set, hsl]
  generalize (σ.set 2 (some (V.int n))).set 3 (some (V.ref r)) = τ at eσ1 eσ2 eσ3 hl2
  generalize upd H1 r (.lst []) = H2 at s2 hr2 tp2 rel2 lv2
  -- job = Job(number)
  dsimp only [tAsg, L2.gName]
  refine mk_jobT (n := n) lv2 hn1 (by omega) (fun R h => ⟨_, eσ2, h _ (.refl _)⟩) fun x dx H3 u0 hx0 s3 hH3 du0 => ?_
  have hxr : x ≠ r := fun z => by rw [z, hr2] at hx0; cases hx0
  have htx : C.t ≠ x := fun z => tp2.live (by rw [z]; exact hx0)
  have hlx : C.l ≠ x := fun z => tp2.liveL (by rw [z]; exact hx0)
  have h0x : C.H0 x = none := by
    cases e : C.H0 x with
    | none => rfl
    | some o =>
      rw [rel2 x o (fun z => htx (Option.some.inj z)) e] at hx0
      cases hx0
  have hNt : (M.with r).with x C.t = true := with_sub (with_sub hMt)
  have hNr : (M.with r).with x r = true := with_sub with_self
  have hNx : (M.with r).with x x = true := with_self
  have lv3 : Live ((M.with r).with x) H3 := live_with (lv2.same s3) (by rw [hH3]; exact fun z => nomatch z)
  generalize (M.with r).with x = N at hNt hNr hNx lv3 du0
  have hI : LI K N C.t C.l C.H0 cJob r x dx n (τ.set 4 (some (.ref x))) H3 :=
    ⟨⟨[], u0, [], hH3, du0, s3 _ _ hr2, .nil, ⟨hn1, by omega, by simp, by simp⟩⟩, lv3, tp2.same s3,
      ⟨by rw [List.length_set]; exact hl2, by rw [List.getElem?_set_ne (by decide)]; exact eσ1, by rw [List.getElem?_set_ne (by decide)]; exact eσ2, by rw [List.getElem?_set_ne (by decide)]; exact eσ3, List.getElem?_set_self (by omega)⟩, rel2.trans (.of s3)⟩
  dsimp only [tSeq, tFor, iRng1, tCons, tC, tNil, L2.gName]
  refine ⟨30, rfl, by decide, by decide, fun i m σ H => m = 30 - i ∧ LI K N C.t C.l C.H0 cJob r x dx n σ H, ⟨_, rfl, hI⟩, fun i m σ H hW => ?_⟩
  obtain ⟨hm, I3⟩ := hW
  by_cases hi : i < 30
  · refine .inr ⟨hi, LI K N C.t C.l C.H0 cJob r x dx n, fun σ' H' h => ⟨30 - (i + 1), by omega, rfl, h⟩, fun y H' hy => ?_⟩
    obtain ⟨rfl, rfl⟩ := hy
    have s5 := I3.s4.set (i := 5) (v := some (V.int (0 + (i : Int)))) (by decide)
    generalize List.set σ 5 (some (V.int (0 + (i : Int)))) = σ5 at s5
    refine rdT (ρ := List.replicate 9 none) (P := fun z => ∃ wy : Str, z = .str wy ∧ PyData.strOk wy = true) I3.lv hNt I3.tp s5.s1 (by rw [s5.len]; rfl) none9 ?_ fun z hz v1 H1 r1 tp1 dv1 => ?_
    · simp [T_draw]
      intro r h0 h1
      have : r = 0 ∨ r = 1 ∨ r = 2 ∨ r = 3 := by omega
      rcases this with rfl | rfl | rfl | rfl <;> exact ⟨_, rfl, _, rfl, by decide +kernel⟩
    obtain ⟨wy, rfl, hok⟩ := hz
    cases dp_str dv1
    dsimp only [L2.gName]
    have s6 := s5.set (i := 6) (v := some (V.str wy)) (by decide)
    have e6 : (σ5.set 6 (some (V.str wy)))[6]? = some (some (.str wy)) := List.getElem?_set_self (by rw [s5.len]; decide)
    generalize List.set σ5 6 (some (V.str wy)) = σ6 at s6 e6
    have lv1 := ra_live I3.lv r1 tp1
    refine rdT (ρ := List.replicate 9 none) (P := fun z => ∃ y, z = encX y ∧ ExpOk y) lv1 hNt tp1 s6.s1 (by rw [s6.len]; rfl) none9 ?_ fun z hz v2 H2 r2 tp2 dv2 => ?_
    · simp [T_expr]
    have hT2 : TH z := fun _ => hz
    clear hz
    dsimp only [L2.gName]
    have s7 := s6.set (i := 7) (v := some v2) (by decide)
    have e67 : (σ6.set 7 (some v2))[6]? = some (some (.str wy)) := by rw [List.getElem?_set_ne (by decide)]; exact e6
    have e7 : (σ6.set 7 (some v2))[7]? = some (some v2) := List.getElem?_set_self (by rw [s6.len]; decide)
    generalize List.set σ6 7 (some v2) = σ7 at s7 e67 e7
    have lv2 := ra_live lv1 r2 tp2
    refine turn_if lv2 hNt tp2 s7.s1 s7.len ?_ ?_ e7 dv2 hT2 fun σ8 H3 vt d hor e8 r3 tp3 dvt hT => ?_
    · simp [T_draw]
    · simp [T_draw]
      intro r h0 h1
      have : r = 0 ∨ r = 1 ∨ r = 2 ∨ r = 3 ∨ r = 4 := by omega
      rcases this with rfl | rfl | rfl | rfl | rfl <;> exact ⟨_, rfl, fun h => absurd h (by decide +kernel)⟩
    have e68 : σ8[6]? = some (some (.str wy)) := by
      rcases hor with rfl | rfl
      · exact e67
      · rw [List.getElem?_set_ne (by decide)]; exact e67
    have s8 : S4 C.t r x n σ8 := by
      rcases hor with rfl | rfl
      · exact s7
      · exact s7.set (by decide)
    clear hor e7 e67 s7 s6 s5 e6 hT2 dv2
    have lv3 := ra_live lv2 r3 tp3
    have rr := r1.trans (r2.trans r3)
    have sh := ra_hid hNt rr
    obtain ⟨rs, u, xs, hx, du, hr, dxs, hj⟩ := I3.ex
    have hx3 : H3 x = _ := rr x _ (fun z => htx (Option.some.inj z)) hx
    have hr3 : H3 r = _ := rr r _ (fun z => htr (Option.some.inj z)) hr
    have du3 := dp_mono sh du
    have dxs3 := dpa_mono sh dxs
    have ra3 := I3.ra.trans rr
    clear hx hr du dxs rr r1 r2 r3
    dsimp only [tSeq, tAsg, tCall, tCons, tNil, L2.gName]
    -- due = _law_next(rows, number, way, thing)
    refine ⟨.ref r, s8.s3, .int n, s8.s2, .str wy, e68, vt, e8, ?_⟩
    refine lnext_of hNr hr3 lv3 dxs3 (.str wy) dvt hj hok hT fun dd rs' o H4 ys w k4 hr4 dys dw => ?_
    have sh4 := hid_put hNr k4
    have hx4 := k4 x _ hxr hx3
    have lv4 := live_put lv3 k4 (by rw [hr4]; exact fun z => nomatch z)
    have tp4 := tape_put tp3 htr hlr k4
    have ra4 := ra_put ra3 h0r k4
    have s9 := s8.set (i := 8) (v := some w) (by decide)
    have e96 : (σ8.set 8 (some w))[6]? = some (some (.str wy)) := by rw [List.getElem?_set_ne (by decide)]; exact e68
    have e97 : (σ8.set 8 (some w))[7]? = some (some vt) := by rw [List.getElem?_set_ne (by decide)]; exact e8
    have e98 : (σ8.set 8 (some w))[8]? = some (some w) := List.getElem?_set_self (by rw [s8.len]; decide)
    generalize List.set σ8 8 (some w) = σ9 at s9 e96 e97 e98
    -- _law_call(job, way, thing)
    dsimp only [tIfS, tOr, tNot, tB, tCall, tCons, tNil, tVar]
    refine ⟨.ref x, s9.s4, .str wy, e96, vt, e97, ?_⟩
    refine lcall_of hNx hx4 lv4 (.int n) (dp_mono sh4 du3) (.str wy) (dp_mono sh4 dvt) hj hok hT o fun H5 u5 w5 k5 hx5 du5 dw5 => ?_
    have sh5 := hid_put hNx k5
    have hr5 := k5 r _ (fun z => hxr z.symm) hr4
    have lv5 := live_put lv4 k5 (by rw [hx5]; exact fun z => nomatch z)
    have tp5 := tape_put tp4 htx hlx k5
    have ra5 := ra_put ra4 h0x k5
    obtain ⟨hf, hs⟩ := o.fit hj
    have hj' := o.jok hj
    -- _law_like(.., due)
    refine ⟨w, e98, N, [dd, dd], fun z => z = .bool true, lv5, .cons dw5 (.cons (dp_mono sh5 dw) .nil), ⟨dd, dd, rfl, hf, hs, fun _ => rfl, fun h => absurd rfl h⟩, fun z hz v6 H6 s56 dv6 => ?_⟩
    subst hz
    refine ⟨true, dp_bl dv6, iteF ?_⟩
    -- _law_seen(job, number, rows)
    have lv6 := lv5.same s56
    have du6 := dp_mono (same_hid s56) du5
    have dys6 := dpa_mono ((same_hid s56)) (dpa_mono sh5 dys)
    have hx6 := s56 _ _ hx5
    have hr6 := s56 _ _ hr5
    have hsub : ∀ {H}, Same (hid N H) (hid (N.less r) H) := hid_sub fun b hb => less_sub hb
    refine ⟨.ref x, s9.s4, .int n, s9.s2, .ref r, s9.s3, ?_⟩
    refine ⟨N.less r, x, dx, [.int n, u5], [.int n, encR rs'], [.int n, .ref r], [.int n, .list (rs'.map encX)], fun z => z = .bool true, rfl, by rw [less_ne hxr]; exact hNx, hx6, rfl, fun b m => lv6 b (less_sub m), .cons (.int n) (.cons (dp_mono hsub du6) .nil), .cons (.int n) (.cons (.lst (.inl (.inl (hid_some.mpr ⟨less_self, hr6⟩))) (dpa_mono hsub dys6)) .nil), ⟨n, rs', rfl, rfl, hj', hn30, rfl⟩, fun z hz v7 H7 s67 dv7 => ?_⟩
    subst hz
    refine ⟨true, dp_bl dv7, iteF ?_⟩
    exact ⟨⟨rs', u5, ys, s67 _ _ hx6, dp_mono (same_hid s67) du6, s67 _ _ hr6, dpa_mono (same_hid s67) dys6, hj'⟩, lv6.same s67, (tp5.same s56).same s67, s9, ra5.trans (.of (s56.trans s67))⟩
  refine .inl ⟨by show 30 ≤ i; omega, ?_⟩
  clear hI
  obtain ⟨⟨rs, u, xs, hx, du, hr, dxs, hj⟩, lvA, tpA, s4, raA⟩ := I3
  dsimp only [tRet, tAndV, tNotV, tOp, tCons, tNil, tLst, tVar]
  -- job == Job(number)
  refine ⟨.ref x, s4.s4, ?_⟩
  refine mk_jobT (n := n) lvA hn1 (by omega) (fun R h => ⟨_, s4.s2, h _ (.refl _)⟩) fun x1 dx1 HB u1 hx1 sB hHB du1 => ?_
  have lvB : Live (N.with x1) HB := live_with (lvA.same sB) (by rw [hHB]; exact fun z => nomatch z)
  have shB := same_with (M := N) sB hx1
  have hxB := sB _ _ hx
  refine ⟨x, dx, _, x1, dx1, _, rfl, rfl, hxB, hHB, N.with x1, x, dx, x1, dx1, .int n, u, .int n, u1, n, n, rs, [], rfl, hxB, hHB, lvB, .int n, dp_mono shB du, .int n, du1, fun HC sC => ?_⟩
  refine ⟨.ref r, s4.s3, by decide, fun a ha => ?_⟩
  have N0 : ∀ {H' : Hp}, Live (fun _ => false) H' := fun b h => by cases h
  have up : ∀ {H' : Hp}, Same (hid N H') (hid (fun _ => false) H') := hid_sub fun _ h => by cases h
  have sD : Same HC (upd HC a (.lst [])) := same_new ha
  have haD : (upd HC a (.lst [])) a = some (.lst []) := upd_same
  generalize upd HC a (.lst []) = HD at sD haD
  have sAD := sB.trans (sC.trans sD)
  have lvD := lvA.same sAD
  have dr : Dp K (hid (fun _ => false) HD) (.ref r) (.list (rs.map encX)) := .lst (.inl (.inl (hid_some.mpr ⟨rfl, sAD _ _ hr⟩))) (dpa_mono ((same_hid sAD).trans up) dxs)
  have de : Dp K (hid (fun _ => false) HD) (.ref a) (.list []) := .lst (.inl (.inl (hid_some.mpr ⟨rfl, haD⟩))) .nil
  refine o2_Eq (fun _ => false) HD _ _ _ _ (fun z => z = .bool (decide (rs = []))) _ N0 dr de ⟨⟨?_, by decide⟩, ?_⟩ fun z hz vb HE sE dvb => ?_
  · exact (sh_list (n := 3) fun d hd => by
      obtain ⟨y, _, rfl⟩ := List.mem_map.mp hd
      exact sh_encX y).ok
  · cases rs with
    | nil => rfl
    | cons a l => rfl
  subst hz
  cases dp_bl dvb
  refine o2_Eq (fun _ => false) HE _ _ _ _ (fun z => z = .bool true) _ N0 (.bl (decide (n = n) && decide (rs = []))) (.bl (decide (rs = []))) ⟨⟨rfl, rfl⟩, ?_⟩ fun z hz vb HF sF dvb => ?_
  · by_cases e : rs = []
    · rw [decide_eq_true e, decide_eq_true rfl]; rfl
    · rw [decide_eq_false e, Bool.and_false]; rfl
  subst hz
  refine ⟨true, dp_bl dvb, iteT ?_⟩
  have sAF := sAD.trans (sE.trans sF)
  have lvF := lvA.same sAF
  -- job == Job(number + 1)
  refine ⟨.ref x, s4.s4, ?_⟩
  refine mk_jobT (n := n + 1) lvF (by omega) (by omega) (fun R h => ?_) fun x2 dx2 HG u2 hx2 sG hHG du2 => ?_
  · refine rdG (ρ := [none, none, some (.int n), none, none, none, none, none, none]) (P := fun z => z = .int (n + 1)) lvF (by rw [s4.len]; rfl) (fun i d e => ?_) (by simp) fun z hz v H' s' dv => ?_
    · rcases i with _ | _ | _ | _ | _ | _ | _ | _ | _ | i
      iterate 2 cases e
      · cases e
        exact ⟨_, s4.s2, .int n⟩
      all_goals cases e
    · subst hz
      cases dp_int dv
      exact h _ s'
  have lvG : Live (N.with x2) HG := live_with (lvF.same sG) (by rw [hHG]; exact fun z => nomatch z)
  have shG := (same_hid sAF).trans (same_with (M := N) sG hx2)
  have sAG := sAF.trans sG
  have hxG := sAG _ _ hx
  refine ⟨x, dx, _, x2, dx2, _, rfl, rfl, hxG, hHG, N.with x2, x, dx, x2, dx2, .int n, u, .int (n + 1), u2, n, n + 1, rs, [], rfl, hxG, hHG, lvG, .int n, dp_mono shG du, .int (n + 1), du2, fun HZ sZ => ?_⟩
  refine ⟨_, rfl, ?_⟩
  rw [decide_eq_false (show ¬ n = n + 1 by omega)]
  have sAZ := sAG.trans sZ
  exact T.rt _ hrt _ _ (raA.trans (.of sAZ)) (fun i hi => tpA.same sAZ) (.bl true) (fun z => nomatch z)
theorem ok_law {f : Addr} {fd : FuncData} (F : Fun K "law" "law" s_law f fd)
  (t_is_integer : Top K mg "is_integer" s_is_integer ["value", "low", "high"])
  (t_is_end : Top K mg "is_end" s_is_end ["value"])
  (t_is_item : Top K mg "is_item" s_is_item ["value"])
  (t_is_list : Top K mg "is_list" s_is_list ["value"])
  (t_is_expression : Top K mg "is_expression" s_is_expression ["value"])
  (t_place : Top K mg "place" s_place ["end", "count", "default"])
  (t_positions : Top K mg "positions" s_positions ["item", "count"])
  (t_taken : Top K mg "taken" s_taken ["part", "row"])
  (t_printed : Top K mg "printed" s_printed ["expression", "number"])
  (t_end_text : Top K mg "end_text" s_end_text ["end"])
  (t_item_text : Top K mg "item_text" s_item_text ["item"])
  (t_expression_text : Top K mg "expression_text" s_expression_text ["expression"])
  (t_law_draw : Top K mg "_law_draw" s_law_draw ["tape", "many"])
  (t_law_like : Top K mg "_law_like" s_law_like ["one", "two"])
  (t_law_end : Top K mg "_law_end" s_law_end ["tape"])
  (t_law_item : Top K mg "_law_item" s_law_item ["tape"])
  (t_law_list : Top K mg "_law_list" s_law_list ["tape"])
  (t_law_expression : Top K mg "_law_expression" s_law_expression ["tape"])
  (t_law_meant : Top K mg "_law_meant" s_law_meant ["end", "count", "other"])
  (t_law_took : Top K mg "_law_took" s_law_took ["part", "row"])
  (t_law_shown : Top K mg "_law_shown" s_law_shown ["expression", "number"])
  (t_law_error : Top K mg "_law_error" s_law_error ["e"])
  (t_law_call : Top K mg "_law_call" s_law_call ["job", "way", "thing"])
  (t_law_next : Top K mg "_law_next" s_law_next ["rows", "number", "way", "thing"])
  (t_law_item_of : Top K mg "_law_item_of" s_law_item_of ["job", "index"])
  (t_law_seen : Top K mg "_law_seen" s_law_seen ["job", "number", "rows"])
  (z_len : mg "len" = none) (z_range : mg "range" = none) (z_list : mg "list" = none) (z_isinstance : mg "isinstance" = none) (z_tuple : mg "tuple" = none) (z_bool : mg "bool" = none) (z_int : mg "int" = none) (z_str : mg "str" = none) (z_all : mg "all" = none)
  {tk_MOST_END : Tok} (c_MOST_END : mg "MOST_END" = some (.int 6 tk_MOST_END)) {tk_MOST_STEP : Tok} (c_MOST_STEP : mg "MOST_STEP" = some (.int 3 tk_MOST_STEP)) {tk_MOST_ITEMS : Tok} (c_MOST_ITEMS : mg "MOST_ITEMS" = some (.int 3 tk_MOST_ITEMS)) {tk_MOST_LISTS : Tok} (c_MOST_LISTS : mg "MOST_LISTS" = some (.int 2 tk_MOST_LISTS))
  {cJob R cI cE cN cX cM cU : Addr} (T : Errs K mg R cI cE cN cX cM cU) (JR : JobR K mg cJob)
  : FnOk P w K mg base CX0 14 f fd ["script"] (spLaw K) := by
  have d_is_integer := dn_is_integer (P := P) (w := w) (base := base) t_is_integer z_isinstance z_int z_bool
  have d_is_end := dn_is_end t_is_end d_is_integer c_MOST_END
  have d_is_item := dn_is_item t_is_item d_is_end d_is_integer c_MOST_STEP z_isinstance z_tuple z_len
  have d_is_list := dn_is_list t_is_list d_is_item c_MOST_ITEMS z_isinstance z_tuple z_len z_all
  have d_is_expression := dn_is_expression t_is_expression d_is_list c_MOST_LISTS z_isinstance z_tuple z_len z_all
  have d_place := dn_place (P := P) (w := w) (base := base) t_place
  have d_positions := dn_positions t_positions d_place z_list z_range
  have d_taken := dn_taken t_taken d_positions z_len
  have d_printed := dn_printed t_printed d_taken z_list z_range
  have d_end_text := dn_end_text (P := P) (w := w) (base := base) t_end_text z_str
  have d_item_text := dn_item_text t_item_text d_end_text
  have d_expression_text := dn_expression_text t_expression_text d_item_text
  have d_law_draw := dn_law_draw (P := P) (w := w) (base := base) t_law_draw z_len z_int
  have d_law_like := dn_law_like (P := P) (w := w) (base := base) t_law_like z_isinstance z_list z_tuple z_bool z_len z_range 4 (by decide)
  have d_law_end := dn_law_end t_law_end d_law_draw
  have d_law_item := dn_law_item t_law_item d_law_draw d_law_end
  have d_law_list := dn_law_list t_law_list d_law_draw d_law_item z_range
  have d_law_expression := dn_law_expression t_law_expression d_law_draw d_law_list
  have d_law_meant := dn_law_meant (P := P) (w := w) (base := base) t_law_meant
  have d_law_took := dn_law_took t_law_took d_law_meant z_len
  have d_law_shown := dn_law_shown t_law_shown d_law_took z_list z_range
  have hJ := jobJ_of (P := P) (w := w) (base := base) JR T d_is_integer d_is_expression d_printed d_expression_text z_tuple z_len z_isinstance
  have d_law_call := dn_law_call t_law_call t_law_error T hJ z_isinstance
  have d_law_next := dn_law_next t_law_next d_is_expression d_law_shown z_len
  have d_law_item_of := dn_law_item_of t_law_item_of t_law_error T hJ z_isinstance
  have d_law_seen := dn_law_seen t_law_seen hJ d_law_item_of d_law_shown d_expression_text d_law_like z_list z_len z_bool z_str z_tuple
  refine okLaw F sc_law [] (by decide) (by decide) rfl fun cdv A outer s H E hr => ⟨ps_asg (pe_lst (pa_cons (pe_callTy call_list_of (by rfl) z_list boot_list (pa_cons (pv 0) pa_nil)) (pa_cons pe_int (pa_cons pe_int pa_nil)))) (pg_name (i := 1) sc_law.nd rfl (.inl rfl)), _, (law_tail hr hJ d_law_draw d_law_expression d_law_like d_law_next d_law_call d_law_seen z_range), ?_⟩
  exact ⟨rfl, rfl⟩

end
end Pg
namespace Pg
open PySem PySem.Spec PyProof.Rows L2
theorem bo_is_integer : BindsOk "is_integer" "is_integer" s_is_integer ["value", "low", "high"] := fun _ _ _ _ _ _ us hl => match us, hl with | [_, _, _], _ => rfl
theorem bo_is_end : BindsOk "is_end" "is_end" s_is_end ["value"] := fun _ _ _ _ _ _ us hl => match us, hl with | [_], _ => rfl
theorem bo_is_item : BindsOk "is_item" "is_item" s_is_item ["value"] := fun _ _ _ _ _ _ us hl => match us, hl with | [_], _ => rfl
theorem bo_is_list : BindsOk "is_list" "is_list" s_is_list ["value"] := fun _ _ _ _ _ _ us hl => match us, hl with | [_], _ => rfl
theorem bo_is_expression : BindsOk "is_expression" "is_expression" s_is_expression ["value"] := fun _ _ _ _ _ _ us hl => match us, hl with | [_], _ => rfl
theorem bo_place : BindsOk "place" "place" s_place ["end", "count", "default"] := fun _ _ _ _ _ _ us hl => match us, hl with | [_, _, _], _ => rfl
theorem bo_positions : BindsOk "positions" "positions" s_positions ["item", "count"] := fun _ _ _ _ _ _ us hl => match us, hl with | [_, _], _ => rfl
theorem bo_taken : BindsOk "taken" "taken" s_taken ["part", "row"] := fun _ _ _ _ _ _ us hl => match us, hl with | [_, _], _ => rfl
theorem bo_printed : BindsOk "printed" "printed" s_printed ["expression", "number"] := fun _ _ _ _ _ _ us hl => match us, hl with | [_, _], _ => rfl
theorem bo_end_text : BindsOk "end_text" "end_text" s_end_text ["end"] := fun _ _ _ _ _ _ us hl => match us, hl with | [_], _ => rfl
theorem bo_item_text : BindsOk "item_text" "item_text" s_item_text ["item"] := fun _ _ _ _ _ _ us hl => match us, hl with | [_], _ => rfl
theorem bo_expression_text : BindsOk "expression_text" "expression_text" s_expression_text ["expression"] := fun _ _ _ _ _ _ us hl => match us, hl with | [_], _ => rfl
theorem bo_law_draw : BindsOk "_law_draw" "_law_draw" s_law_draw ["tape", "many"] := fun _ _ _ _ _ _ us hl => match us, hl with | [_, _], _ => rfl
theorem bo_law_like : BindsOk "_law_like" "_law_like" s_law_like ["one", "two"] := fun _ _ _ _ _ _ us hl => match us, hl with | [_, _], _ => rfl
theorem bo_law_end : BindsOk "_law_end" "_law_end" s_law_end ["tape"] := fun _ _ _ _ _ _ us hl => match us, hl with | [_], _ => rfl
theorem bo_law_item : BindsOk "_law_item" "_law_item" s_law_item ["tape"] := fun _ _ _ _ _ _ us hl => match us, hl with | [_], _ => rfl
theorem bo_law_list : BindsOk "_law_list" "_law_list" s_law_list ["tape"] := fun _ _ _ _ _ _ us hl => match us, hl with | [_], _ => rfl
theorem bo_law_expression : BindsOk "_law_expression" "_law_expression" s_law_expression ["tape"] := fun _ _ _ _ _ _ us hl => match us, hl with | [_], _ => rfl
theorem bo_law_meant : BindsOk "_law_meant" "_law_meant" s_law_meant ["end", "count", "other"] := fun _ _ _ _ _ _ us hl => match us, hl with | [_, _, _], _ => rfl
theorem bo_law_took : BindsOk "_law_took" "_law_took" s_law_took ["part", "row"] := fun _ _ _ _ _ _ us hl => match us, hl with | [_, _], _ => rfl
theorem bo_law_shown : BindsOk "_law_shown" "_law_shown" s_law_shown ["expression", "number"] := fun _ _ _ _ _ _ us hl => match us, hl with | [_, _], _ => rfl
theorem bo_law_error : BindsOk "_law_error" "_law_error" s_law_error ["e"] := fun _ _ _ _ _ _ us hl => match us, hl with | [_], _ => rfl
theorem bo_law_call : BindsOk "_law_call" "_law_call" s_law_call ["job", "way", "thing"] := fun _ _ _ _ _ _ us hl => match us, hl with | [_, _, _], _ => rfl
theorem bo_law_next : BindsOk "_law_next" "_law_next" s_law_next ["rows", "number", "way", "thing"] := fun _ _ _ _ _ _ us hl => match us, hl with | [_, _, _, _], _ => rfl
theorem bo_law_item_of : BindsOk "_law_item_of" "_law_item_of" s_law_item_of ["job", "index"] := fun _ _ _ _ _ _ us hl => match us, hl with | [_, _], _ => rfl
theorem bo_law_seen : BindsOk "_law_seen" "_law_seen" s_law_seen ["job", "number", "rows"] := fun _ _ _ _ _ _ us hl => match us, hl with | [_, _, _], _ => rfl
theorem all_mk {l : PySem.W.OpenLaw} {w : World} {K : PySem.W.Frag} {h : Heap} {mg : Str → Option Value} {fa fL : Addr} (X : K.In h) (G : h.Ns mainGlobals mg) (hfa : mg "law" = some (.ref fa)) {odL anL : Option Addr} {slL : Array (Option Value)} {ocL kVL dcL pmL cdL ctL : Value}
    (t_is_integer : Top K mg "is_integer" s_is_integer ["value", "low", "high"])
    (t_is_end : Top K mg "is_end" s_is_end ["value"])
    (t_is_item : Top K mg "is_item" s_is_item ["value"])
    (t_is_list : Top K mg "is_list" s_is_list ["value"])
    (t_is_expression : Top K mg "is_expression" s_is_expression ["value"])
    (t_place : Top K mg "place" s_place ["end", "count", "default"])
    (t_positions : Top K mg "positions" s_positions ["item", "count"])
    (t_taken : Top K mg "taken" s_taken ["part", "row"])
    (t_printed : Top K mg "printed" s_printed ["expression", "number"])
    (t_end_text : Top K mg "end_text" s_end_text ["end"])
    (t_item_text : Top K mg "item_text" s_item_text ["item"])
    (t_expression_text : Top K mg "expression_text" s_expression_text ["expression"])
    (t_law_draw : Top K mg "_law_draw" s_law_draw ["tape", "many"])
    (t_law_like : Top K mg "_law_like" s_law_like ["one", "two"])
    (t_law_end : Top K mg "_law_end" s_law_end ["tape"])
    (t_law_item : Top K mg "_law_item" s_law_item ["tape"])
    (t_law_list : Top K mg "_law_list" s_law_list ["tape"])
    (t_law_expression : Top K mg "_law_expression" s_law_expression ["tape"])
    (t_law_meant : Top K mg "_law_meant" s_law_meant ["end", "count", "other"])
    (t_law_took : Top K mg "_law_took" s_law_took ["part", "row"])
    (t_law_shown : Top K mg "_law_shown" s_law_shown ["expression", "number"])
    (t_law_error : Top K mg "_law_error" s_law_error ["e"])
    (t_law_call : Top K mg "_law_call" s_law_call ["job", "way", "thing"])
    (t_law_next : Top K mg "_law_next" s_law_next ["rows", "number", "way", "thing"])
    (t_law_item_of : Top K mg "_law_item_of" s_law_item_of ["job", "index"])
    (t_law_seen : Top K mg "_law_seen" s_law_seen ["job", "number", "rows"])
    (aL : PySem.W.nsIn K mainGlobals "law" = some (some (.ref fL))) (lL : K.lookup fL = some ⟨ocL, odL, .func (PySem.W.fnOf "law" "law" (defArgs s_law) (defBody s_law) (defScope s_law) .none kVL dcL pmL anL cdL ctL), slL⟩) (cL : PySem.W.codeIn K cdL "law" = true) (kL : PySem.W.keepIn K (.ref fL) = true)
    (z_len : PySem.W.nsIn K mainGlobals "len" = some none)
    (z_range : PySem.W.nsIn K mainGlobals "range" = some none)
    (z_list : PySem.W.nsIn K mainGlobals "list" = some none)
    (z_isinstance : PySem.W.nsIn K mainGlobals "isinstance" = some none)
    (z_tuple : PySem.W.nsIn K mainGlobals "tuple" = some none)
    (z_bool : PySem.W.nsIn K mainGlobals "bool" = some none)
    (z_int : PySem.W.nsIn K mainGlobals "int" = some none)
    (z_str : PySem.W.nsIn K mainGlobals "str" = some none)
    (z_all : PySem.W.nsIn K mainGlobals "all" = some none)
    {tk_MOST_END : Tok} (c_MOST_END : PySem.W.nsIn K mainGlobals "MOST_END" = some (some (.int 6 tk_MOST_END)))
    {tk_MOST_STEP : Tok} (c_MOST_STEP : PySem.W.nsIn K mainGlobals "MOST_STEP" = some (some (.int 3 tk_MOST_STEP)))
    {tk_MOST_ITEMS : Tok} (c_MOST_ITEMS : PySem.W.nsIn K mainGlobals "MOST_ITEMS" = some (some (.int 3 tk_MOST_ITEMS)))
    {tk_MOST_LISTS : Tok} (c_MOST_LISTS : PySem.W.nsIn K mainGlobals "MOST_LISTS" = some (some (.int 2 tk_MOST_LISTS)))
    {cJob R cI cE cN cX cM cU : Addr} (T : Errs K mg R cI cE cN cX cM cU) (JR : JobR K mg cJob) :
    ∃ fd : FuncData, (∀ (s : Shared) (v : Value), BindsTo s fd ⟨[v], []⟩ [("script", v)]) ∧ ∀ base : Heap, K.In base → base.Ns mainGlobals mg → FnOk l.prog w K mg base CX0 14 fa fd ["script"] (spLaw K) := by
  have e := hfa.symm.trans (PySem.W.mg_of X G aL)
  cases e
  exact ⟨_, fun s v => .of_eq rfl, fun base _ _ => ok_law (fun_mk (st := s_law) lL cL kL) t_is_integer t_is_end t_is_item t_is_list t_is_expression t_place t_positions t_taken t_printed t_end_text t_item_text t_expression_text t_law_draw t_law_like t_law_end t_law_item t_law_list t_law_expression t_law_meant t_law_took t_law_shown t_law_error t_law_call t_law_next t_law_item_of t_law_seen (PySem.W.mg_none_of X G z_len) (PySem.W.mg_none_of X G z_range) (PySem.W.mg_none_of X G z_list) (PySem.W.mg_none_of X G z_isinstance) (PySem.W.mg_none_of X G z_tuple) (PySem.W.mg_none_of X G z_bool) (PySem.W.mg_none_of X G z_int) (PySem.W.mg_none_of X G z_str) (PySem.W.mg_none_of X G z_all) (PySem.W.mg_of X G c_MOST_END) (PySem.W.mg_of X G c_MOST_STEP) (PySem.W.mg_of X G c_MOST_ITEMS) (PySem.W.mg_of X G c_MOST_LISTS) T JR⟩
end Pg
open PySem PySem.W PyProof.Rows
set_option maxHeartbeats 0 in
theorem PySem.Challenge.cw_pageranges_k19_whole_jobs_step_by_step_holds : PySem.Challenge.rw_pageranges_k19_whole_jobs_step_by_step.Holds := by
  w_on; o_law; k_head; (case hw => w_witness2)
  k_fill
  refine L2.walk_of (l := PySem.Challenge.rw_pageranges_k19_whole_jobs_step_by_step) (n := 63) (k := 14) (x := "script") (CX := fun _ => L2.CX0) (sp := fun w => Pg.spLaw _) rfl (by decide) rfl ⟨rfl, by decide, by decide⟩ (fun w h Y => PySem.W.kIn_of Y) ?F (fun _ _ a ns hl _ hS => ⟨a, ns, rfl, hS, hl, fun _ => rfl⟩) (fun _ _ _ _ _ h => h)
  case F =>
    intro w mg fa h KX G hmg
    refine' Pg.all_mk KX G hmg (Pg.top_mk KX G Pg.bo_is_integer ?a0 ?l0 ?c0 ?k0) (Pg.top_mk KX G Pg.bo_is_end ?a1 ?l1 ?c1 ?k1) (Pg.top_mk KX G Pg.bo_is_item ?a2 ?l2 ?c2 ?k2) (Pg.top_mk KX G Pg.bo_is_list ?a3 ?l3 ?c3 ?k3) (Pg.top_mk KX G Pg.bo_is_expression ?a4 ?l4 ?c4 ?k4) (Pg.top_mk KX G Pg.bo_place ?a5 ?l5 ?c5 ?k5) (Pg.top_mk KX G Pg.bo_positions ?a6 ?l6 ?c6 ?k6) (Pg.top_mk KX G Pg.bo_taken ?a7 ?l7 ?c7 ?k7) (Pg.top_mk KX G Pg.bo_printed ?a8 ?l8 ?c8 ?k8) (Pg.top_mk KX G Pg.bo_end_text ?a9 ?l9 ?c9 ?k9) (Pg.top_mk KX G Pg.bo_item_text ?a10 ?l10 ?c10 ?k10) (Pg.top_mk KX G Pg.bo_expression_text ?a11 ?l11 ?c11 ?k11) (Pg.top_mk KX G Pg.bo_law_draw ?a12 ?l12 ?c12 ?k12) (Pg.top_mk KX G Pg.bo_law_like ?a13 ?l13 ?c13 ?k13) (Pg.top_mk KX G Pg.bo_law_end ?a14 ?l14 ?c14 ?k14) (Pg.top_mk KX G Pg.bo_law_item ?a15 ?l15 ?c15 ?k15) (Pg.top_mk KX G Pg.bo_law_list ?a16 ?l16 ?c16 ?k16) (Pg.top_mk KX G Pg.bo_law_expression ?a17 ?l17 ?c17 ?k17) (Pg.top_mk KX G Pg.bo_law_meant ?a18 ?l18 ?c18 ?k18) (Pg.top_mk KX G Pg.bo_law_took ?a19 ?l19 ?c19 ?k19) (Pg.top_mk KX G Pg.bo_law_shown ?a20 ?l20 ?c20 ?k20) (Pg.top_mk KX G Pg.bo_law_error ?a21 ?l21 ?c21 ?k21) (Pg.top_mk KX G Pg.bo_law_call ?a22 ?l22 ?c22 ?k22) (Pg.top_mk KX G Pg.bo_law_next ?a23 ?l23 ?c23 ?k23) (Pg.top_mk KX G Pg.bo_law_item_of ?a24 ?l24 ?c24 ?k24) (Pg.top_mk KX G Pg.bo_law_seen ?a25 ?l25 ?c25 ?k25) ?aL ?lL ?cL ?kL ?z0 ?z1 ?z2 ?z3 ?z4 ?z5 ?z6 ?z7 ?z8 ?v0 ?v1 ?v2 ?v3 ⟨(Pg.errC_mk KX G ?hn ?ht ?aR ?xR ?kpR ?sbR ?tyR ?hgR ?hkR ?hdR ?haR ?hmR), (Pg.errC_mk KX G ?hn ?ht ?aI ?xI ?kpI ?sbI ?tyI ?hgI ?hkI ?hdI ?haI ?hmI), (Pg.errC_mk KX G ?hn ?ht ?aE ?xE ?kpE ?sbE ?tyE ?hgE ?hkE ?hdE ?haE ?hmE), (Pg.errC_mk KX G ?hn ?ht ?aN ?xN ?kpN ?sbN ?tyN ?hgN ?hkN ?hdN ?haN ?hmN), (Pg.errC_mk KX G ?hn ?ht ?aX ?xX ?kpX ?sbX ?tyX ?hgX ?hkX ?hdX ?haX ?hmX), (Pg.errC_mk KX G ?hn ?ht ?aM ?xM ?kpM ?sbM ?tyM ?hgM ?hkM ?hdM ?haM ?hmM), (Pg.errC_mk KX G ?hn ?ht ?aU ?xU ?kpU ?sbU ?tyU ?hgU ?hkU ?hdU ?haU ?hmU), ?sII, ?sIE, ?sIN, ?sIX, ?sIM, ?sIU, ?sIR, ?sEI, ?sEE, ?sEN, ?sEX, ?sEM, ?sEU, ?sER, ?sNI, ?sNE, ?sNN, ?sNX, ?sNM, ?sNU, ?sNR, ?sXI, ?sXE, ?sXN, ?sXX, ?sXM, ?sXU, ?sXR, ?sMI, ?sME, ?sMN, ?sMX, ?sMM, ?sMU, ?sMR, ?sUI, ?sUE, ?sUN, ?sUX, ?sUM, ?sUU, ?sUR⟩ (Pg.jobR_mk KX G ?Ja ?Jhn ?Jht ?Jha ?Jhm ?Jhl ?Jpg ?Jhd ?Jpo ?Jsa ?Jn1 ?Jn2 ?Jm8 ?Jmg ?Jmk ?Ji ?Jifn ?Jkp (Pg.meth_mk (x := "__init__") (qual := "Job.__init__") (st := Pg.s_Job_init) ?Jaal ?Jaac ?Jaak) ?Jt1 ?Jt2 (Pg.meth_mk (x := "add") (qual := "Job.add") (st := Pg.s_Job_add) ?Jabl ?Jabc ?Jabk) ?Jx1 ?Jx2 (Pg.meth_mk (x := "undo") (qual := "Job.undo") (st := Pg.s_Job_undo) ?Jacl ?Jacc ?Jack) ?Jy1 ?Jy2 ?Jy3 ?Jy4 (Pg.meth_mk (x := "number") (qual := "Job.number") (st := Pg.s_Job_number) ?Jadl ?Jadc ?Jadk) ?Je1 ?Je2 ?Je3 ?Je4 (Pg.meth_mk (x := "pages") (qual := "Job.pages") (st := Pg.s_Job_pages) ?Jael ?Jaec ?Jaek) ?Jl1 ?Jl2 (Pg.meth_mk (x := "lines") (qual := "Job.lines") (st := Pg.s_Job_lines) ?Jafl ?Jafc ?Jafk) ?Ju1 ?Ju2 ?Ju3 (Pg.meth_mk (x := "__getitem__") (qual := "Job.__getitem__") (st := Pg.s_Job_getitem) ?Jagl ?Jagc ?Jagk) ?Jv1 ?Jv2 ?Jv3 (Pg.meth_mk (x := "__contains__") (qual := "Job.__contains__") (st := Pg.s_Job_contains) ?Jahl ?Jahc ?Jahk) ?Jw1 ?Jw2 ?Jw3 (Pg.meth_mk (x := "__len__") (qual := "Job.__len__") (st := Pg.s_Job_len) ?Jail ?Jaic ?Jaik) ?Jz1 ?Jz2 (Pg.meth_mk (x := "__eq__") (qual := "Job.__eq__") (st := Pg.s_Job_eq) ?Jajl ?Jajc ?Jajk) ?Jq1 ?Jq2 ?Jq3 ?Jq4)
    (case a0 => k_is)
    (case l0 => k_is)
    (case c0 => k_is)
    (case k0 => k_is)
    (case a1 => k_is)
    (case l1 => k_is)
    (case c1 => k_is)
    (case k1 => k_is)
    (case a2 => k_is)
    (case l2 => k_is)
    (case c2 => k_is)
    (case k2 => k_is)
    (case a3 => k_is)
    (case l3 => k_is)
    (case c3 => k_is)
    (case k3 => k_is)
    (case a4 => k_is)
    (case l4 => k_is)
    (case c4 => k_is)
    (case k4 => k_is)
    (case a5 => k_is)
    (case l5 => k_is)
    (case c5 => k_is)
    (case k5 => k_is)
    (case a6 => k_is)
    (case l6 => k_is)
    (case c6 => k_is)
    (case k6 => k_is)
    (case a7 => k_is)
    (case l7 => k_is)
    (case c7 => k_is)
    (case k7 => k_is)
    (case a8 => k_is)
    (case l8 => k_is)
    (case c8 => k_is)
    (case k8 => k_is)
    (case a9 => k_is)
    (case l9 => k_is)
    (case c9 => k_is)
    (case k9 => k_is)
    (case a10 => k_is)
    (case l10 => k_is)
    (case c10 => k_is)
    (case k10 => k_is)
    (case a11 => k_is)
    (case l11 => k_is)
    (case c11 => k_is)
    (case k11 => k_is)
    (case a12 => k_is)
    (case l12 => k_is)
    (case c12 => k_is)
    (case k12 => k_is)
    (case a13 => k_is)
    (case l13 => k_is)
    (case c13 => k_is)
    (case k13 => k_is)
    (case a14 => k_is)
    (case l14 => k_is)
    (case c14 => k_is)
    (case k14 => k_is)
    (case a15 => k_is)
    (case l15 => k_is)
    (case c15 => k_is)
    (case k15 => k_is)
    (case a16 => k_is)
    (case l16 => k_is)
    (case c16 => k_is)
    (case k16 => k_is)
    (case a17 => k_is)
    (case l17 => k_is)
    (case c17 => k_is)
    (case k17 => k_is)
    (case a18 => k_is)
    (case l18 => k_is)
    (case c18 => k_is)
    (case k18 => k_is)
    (case a19 => k_is)
    (case l19 => k_is)
    (case c19 => k_is)
    (case k19 => k_is)
    (case a20 => k_is)
    (case l20 => k_is)
    (case c20 => k_is)
    (case k20 => k_is)
    (case a21 => k_is)
    (case l21 => k_is)
    (case c21 => k_is)
    (case k21 => k_is)
    (case a22 => k_is)
    (case l22 => k_is)
    (case c22 => k_is)
    (case k22 => k_is)
    (case a23 => k_is)
    (case l23 => k_is)
    (case c23 => k_is)
    (case k23 => k_is)
    (case a24 => k_is)
    (case l24 => k_is)
    (case c24 => k_is)
    (case k24 => k_is)
    (case a25 => k_is)
    (case l25 => k_is)
    (case c25 => k_is)
    (case k25 => k_is)
    (case aL => k_is)
    (case lL => k_is)
    (case cL => k_is)
    (case kL => k_is)
    (case z0 => k_is)
    (case z1 => k_is)
    (case z2 => k_is)
    (case z3 => k_is)
    (case z4 => k_is)
    (case z5 => k_is)
    (case z6 => k_is)
    (case z7 => k_is)
    (case z8 => k_is)
    (case v0 => k_is)
    (case v1 => k_is)
    (case v2 => k_is)
    (case v3 => k_is)
    (case aR => k_is)
    (case aI => k_is)
    (case aE => k_is)
    (case aN => k_is)
    (case aX => k_is)
    (case aM => k_is)
    (case aU => k_is)
    (case hn => k_is)
    (case ht => k_is)
    (case xR => k_exc)
    (case kpR => k_is)
    (case sbR => k_is)
    (case tyR => k_is)
    (case hgR => k_is)
    (case hkR => k_is)
    (case hdR => k_is)
    (case haR => k_is)
    (case hmR => k_is)
    (case xI => k_exc)
    (case kpI => k_is)
    (case sbI => k_is)
    (case tyI => k_is)
    (case hgI => k_is)
    (case hkI => k_is)
    (case hdI => k_is)
    (case haI => k_is)
    (case hmI => k_is)
    (case xE => k_exc)
    (case kpE => k_is)
    (case sbE => k_is)
    (case tyE => k_is)
    (case hgE => k_is)
    (case hkE => k_is)
    (case hdE => k_is)
    (case haE => k_is)
    (case hmE => k_is)
    (case xN => k_exc)
    (case kpN => k_is)
    (case sbN => k_is)
    (case tyN => k_is)
    (case hgN => k_is)
    (case hkN => k_is)
    (case hdN => k_is)
    (case haN => k_is)
    (case hmN => k_is)
    (case xX => k_exc)
    (case kpX => k_is)
    (case sbX => k_is)
    (case tyX => k_is)
    (case hgX => k_is)
    (case hkX => k_is)
    (case hdX => k_is)
    (case haX => k_is)
    (case hmX => k_is)
    (case xM => k_exc)
    (case kpM => k_is)
    (case sbM => k_is)
    (case tyM => k_is)
    (case hgM => k_is)
    (case hkM => k_is)
    (case hdM => k_is)
    (case haM => k_is)
    (case hmM => k_is)
    (case xU => k_exc)
    (case kpU => k_is)
    (case sbU => k_is)
    (case tyU => k_is)
    (case hgU => k_is)
    (case hkU => k_is)
    (case hdU => k_is)
    (case haU => k_is)
    (case hmU => k_is)
    (case sII => k_is)
    (case sIE => k_is)
    (case sIN => k_is)
    (case sIX => k_is)
    (case sIM => k_is)
    (case sIU => k_is)
    (case sIR => k_is)
    (case sEI => k_is)
    (case sEE => k_is)
    (case sEN => k_is)
    (case sEX => k_is)
    (case sEM => k_is)
    (case sEU => k_is)
    (case sER => k_is)
    (case sNI => k_is)
    (case sNE => k_is)
    (case sNN => k_is)
    (case sNX => k_is)
    (case sNM => k_is)
    (case sNU => k_is)
    (case sNR => k_is)
    (case sXI => k_is)
    (case sXE => k_is)
    (case sXN => k_is)
    (case sXX => k_is)
    (case sXM => k_is)
    (case sXU => k_is)
    (case sXR => k_is)
    (case sMI => k_is)
    (case sME => k_is)
    (case sMN => k_is)
    (case sMX => k_is)
    (case sMM => k_is)
    (case sMU => k_is)
    (case sMR => k_is)
    (case sUI => k_is)
    (case sUE => k_is)
    (case sUN => k_is)
    (case sUX => k_is)
    (case sUM => k_is)
    (case sUU => k_is)
    (case sUR => k_is)
    (case Ja => k_is)
    (case Jhn => k_is)
    (case Jht => k_is)
    (case Jha => k_is)
    (case Jhm => k_is)
    (case Jhl => kit_is)
    (case Jpg => k_is)
    (case Jhd => k_is)
    (case Jpo => k_is)
    (case Jsa => k_is)
    (case Jn1 => k_is)
    (case Jn2 => k_is)
    (case Jm8 => k_is)
    (case Jmg => k_is)
    (case Jmk => k_is)
    (case Ji => k_is)
    (case Jifn => k_is)
    (case Jkp => k_is)
    (case Jaal => k_is)
    (case Jaac => k_is)
    (case Jaak => k_is)
    (case Jt1 => k_is)
    (case Jt2 => k_is)
    (case Jabl => k_is)
    (case Jabc => k_is)
    (case Jabk => k_is)
    (case Jx1 => k_is)
    (case Jx2 => k_is)
    (case Jacl => k_is)
    (case Jacc => k_is)
    (case Jack => k_is)
    (case Jy1 => k_is)
    (case Jy2 => k_is)
    (case Jy3 => k_is)
    (case Jy4 => k_is)
    (case Jadl => k_is)
    (case Jadc => k_is)
    (case Jadk => k_is)
    (case Je1 => k_is)
    (case Je2 => k_is)
    (case Je3 => k_is)
    (case Je4 => k_is)
    (case Jael => k_is)
    (case Jaec => k_is)
    (case Jaek => k_is)
    (case Jl1 => k_is)
    (case Jl2 => k_is)
    (case Jafl => k_is)
    (case Jafc => k_is)
    (case Jafk => k_is)
    (case Ju1 => k_is)
    (case Ju2 => k_is)
    (case Ju3 => k_is)
    (case Jagl => k_is)
    (case Jagc => k_is)
    (case Jagk => k_is)
    (case Jv1 => k_is)
    (case Jv2 => k_is)
    (case Jv3 => k_is)
    (case Jahl => k_is)
    (case Jahc => k_is)
    (case Jahk => k_is)
    (case Jw1 => k_is)
    (case Jw2 => k_is)
    (case Jw3 => k_is)
    (case Jail => k_is)
    (case Jaic => k_is)
    (case Jaik => k_is)
    (case Jz1 => k_is)
    (case Jz2 => k_is)
    (case Jajl => k_is)
    (case Jajc => k_is)
    (case Jajk => k_is)
    (case Jq1 => k_is)
    (case Jq2 => k_is)
    (case Jq3 => k_is)
    (case Jq4 => k_is)
