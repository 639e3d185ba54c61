import PyProof.Rows.All
import HandS.ForMost
import HandS.Flow
import HandS.Style
import HandS.IsInst
import HandS.SortInts
import HandS.TupAny
import HandS.TupLe
import HandS.TupMul
import HandS.Deep
import HandS.Conv
import HandS.Codes
import HandS.Walk
import HandS.Evl
import HandS.Zip
import HandS.SetFor
import PyProof.RulesMatch
import PyProof.RulesMatchSeq
import PyProof.ReprRoads
import PyProof.TupleOfSeq
import HandS.Zip0
import PyProof.EnumMake
import PyProof.Draws
import HandS.Ends
import HandS.RaiseMore
import HandS.Text
import PySem.Challenge.RW_chordsteps_k04_rounds_by_hand
set_option Elab.async false
set_option linter.all false
set_option maxRecDepth 100000
set_option maxHeartbeats 1000000
/-! A layer of data over the hand layer: a def as a transformer of plain data, no heap in sight. -/
namespace DL
open PySem L2
abbrev D := PyData
abbrev Fg := PySem.W.Frag
abbrev Ex := Evl.Ex

/-! ### data and the heap -/
def keyD : Key → D
  | .inl i => .int i
  | .inr x => .str x
mutual
inductive Dp (K : Fg) (F : Hp) : V → D → Prop
  | non : Dp K F .non .none
  | bl (b : Bool) : Dp K F (.bl b) (.bool b)
  | int (i : Int) : Dp K F (.int i) (.int i)
  | str (x : Str) : Dp K F (.str x) (.str x)
  | lst {a : Addr} {xs : List V} {ds : List D} : F a = some (.lst xs) → DpAll K F xs ds → Dp K F (.ref a) (.list ds)
  | tup {a : Addr} {xs : List V} {ds : List D} : SqT K F a xs → DpAll K F xs ds → Dp K F (.ref a) (.tuple ds)
  | dct {a : Addr} {kvs : List (Key × V)} {ds : List (D × D)} : F a = some (.dK kvs) → DpKv K F kvs ds → Dp K F (.ref a) (.dict ds)
inductive DpAll (K : Fg) (F : Hp) : List V → List D → Prop
  | nil : DpAll K F [] []
  | cons {v : V} {vs : List V} {d : D} {ds : List D} : Dp K F v d → DpAll K F vs ds → DpAll K F (v :: vs) (d :: ds)
inductive DpKv (K : Fg) (F : Hp) : List (Key × V) → List (D × D) → Prop
  | nil : DpKv K F [] []
  | cons {k : Key} {v : V} {kvs : List (Key × V)} {d : D} {ds : List (D × D)} : Dp K F v d → DpKv K F kvs ds → DpKv K F ((k, v) :: kvs) ((keyD k, d) :: ds)
end
mutual
theorem dp_ex {K : Fg} {F F' : Hp} (e : Ex F F') : ∀ (d : D) (v : V), Dp K F v d → Dp K F' v d
  | .none, _, .non => .non
  | .bool _, _, .bl b => .bl b
  | .int _, _, .int i => .int i
  | .str _, _, .str x => .str x
  | .list ds, _, .lst h a => .lst (e _ _ h) (dpa_ex e ds _ a)
  | .tuple ds, _, .tup h a => .tup (Evl.ex_t e h) (dpa_ex e ds _ a)
  | .dict ds, _, .dct h a => .dct (e _ _ h) (dpk_ex e ds _ a)
theorem dpa_ex {K : Fg} {F F' : Hp} (e : Ex F F') : ∀ (ds : List D) (vs : List V), DpAll K F vs ds → DpAll K F' vs ds
  | [], _, .nil => .nil
  | d :: ds, _, .cons h t => .cons (dp_ex e d _ h) (dpa_ex e ds _ t)
theorem dpk_ex {K : Fg} {F F' : Hp} (e : Ex F F') : ∀ (ds : List (D × D)) (vs : List (Key × V)), DpKv K F vs ds → DpKv K F' vs ds
  | [], _, .nil => .nil
  | (_, d) :: ds, _, .cons h t => .cons (dp_ex e d _ h) (dpk_ex e ds _ t)
end
mutual
/-- data without dicts is the hand layer's -/
theorem dp_l2 {K : Fg} {F H : Hp} (e : Ex F H) : ∀ (d : D) (v : V), d.canLay0 = true → Dp K F v d → L2.Dp K H v d
  | .none, _, _, .non => .non
  | .bool _, _, _, .bl b => .bl b
  | .int _, _, _, .int i => .int i
  | .str _, _, _, .str x => .str x
  | .list ds, _, c, .lst h a => .lst (SqL.of (e _ _ h)) (dpa_l2 e ds _ (by simpa [PyData.canLay0] using c) a)
  | .tuple ds, _, c, .tup h a => .tup (Evl.ex_t e h) (dpa_l2 e ds _ (by simpa [PyData.canLay0] using c) a)
  | .dict ds, _, c, _ => by simp [PyData.canLay0] at c
theorem dpa_l2 {K : Fg} {F H : Hp} (e : Ex F H) : ∀ (ds : List D) (vs : List V), PyData.canLayAll0 ds = true → DpAll K F vs ds → L2.DpAll K H vs ds
  | [], _, _, .nil => .nil
  | d :: ds, _, c, .cons h t => by
    have c' : d.canLay0 = true ∧ PyData.canLayAll0 ds = true := by simpa [PyData.canLayAll0] using c
    exact .cons (dp_l2 e d _ c'.1 h) (dpa_l2 e ds _ c'.2 t)
end
theorem dpa_len {K : Fg} {F : Hp} : ∀ {ds : List D} {vs : List V}, DpAll K F vs ds → vs.length = ds.length
  | _, _, .nil => rfl
  | _, _, .cons _ t => by simp [dpa_len t]
theorem dpa_get {K : Fg} {F : Hp} : ∀ {ds : List D} {vs : List V} {i : Nat} {v : V}, DpAll K F vs ds → vs[i]? = some v → ∃ d, ds[i]? = some d ∧ Dp K F v d
  | _, _, _, _, .nil, h => by simp at h
  | _, _, 0, _, .cons h _, e => by simp at e; subst e; exact ⟨_, rfl, h⟩
  | _, _, i + 1, _, .cons _ t, e => by
    obtain ⟨d, a, b⟩ := dpa_get (i := i) t (by simpa using e)
    exact ⟨d, by simpa using a, b⟩
theorem dpa_get' {K : Fg} {F : Hp} : ∀ {ds : List D} {vs : List V} {i : Nat} {d : D}, DpAll K F vs ds → ds[i]? = some d → ∃ v, vs[i]? = some v ∧ Dp K F v d
  | _, _, _, _, .nil, h => by simp at h
  | _, _, 0, _, .cons h _, e => by simp at e; subst e; exact ⟨_, rfl, h⟩
  | _, _, i + 1, _, .cons _ t, e => by
    obtain ⟨d, a, b⟩ := dpa_get' (i := i) t (by simpa using e)
    exact ⟨d, by simpa using a, b⟩
theorem dpa_app {K : Fg} {F : Hp} : ∀ {ds es : List D} {vs us : List V}, DpAll K F vs ds → DpAll K F us es → DpAll K F (vs ++ us) (ds ++ es)
  | _, _, _, _, .nil, h => h
  | _, _, _, _, .cons h t, k => .cons h (dpa_app t k)
theorem dpa_take {K : Fg} {F : Hp} : ∀ {ds : List D} {vs : List V} (n : Nat), DpAll K F vs ds → DpAll K F (vs.take n) (ds.take n)
  | _, _, 0, _ => by simpa using DpAll.nil
  | _, _, _ + 1, .nil => .nil
  | _, _, n + 1, .cons h t => .cons h (dpa_take n t)
theorem dpa_drop {K : Fg} {F : Hp} : ∀ {ds : List D} {vs : List V} (n : Nat), DpAll K F vs ds → DpAll K F (vs.drop n) (ds.drop n)
  | _, _, 0, r => r
  | _, _, _ + 1, .nil => .nil
  | _, _, n + 1, .cons _ t => dpa_drop n t
theorem dpa_rev {K : Fg} {F : Hp} : ∀ {ds : List D} {vs : List V}, DpAll K F vs ds → DpAll K F vs.reverse ds.reverse
  | _, _, .nil => .nil
  | _, _, .cons h t => by
    rw [List.reverse_cons, List.reverse_cons]
    exact dpa_app (dpa_rev t) (.cons h .nil)
theorem dpa_erase {K : Fg} {F : Hp} : ∀ {ds : List D} {vs : List V} (n : Nat), DpAll K F vs ds → DpAll K F (vs.eraseIdx n) (ds.eraseIdx n)
  | _, _, _, .nil => by simpa using DpAll.nil
  | _, _, 0, .cons _ t => t
  | _, _, n + 1, .cons h t => .cons h (dpa_erase n t)
/-- ints -/
theorem dpa_ints {K : Fg} {F : Hp} : ∀ (ns : List Int), DpAll K F (ns.map V.int) (ns.map PyData.int)
  | [] => .nil
  | n :: ns => .cons (.int n) (dpa_ints ns)
theorem ints_dpa {K : Fg} {F : Hp} : ∀ {ns : List Int} {vs : List V}, DpAll K F vs (ns.map PyData.int) → vs = ns.map V.int
  | [], _, .nil => rfl
  | n :: ns, _, .cons h t => by
    cases h
    rw [ints_dpa t]
    rfl
theorem bls_dpa {K : Fg} {F : Hp} : ∀ {ns : List Bool} {vs : List V}, DpAll K F vs (ns.map PyData.bool) → vs = ns.map V.bl
  | [], _, .nil => rfl
  | n :: ns, _, .cons h t => by
    cases h
    rw [bls_dpa t]
    rfl
theorem strs_dpa {K : Fg} {F : Hp} : ∀ {ns : List Str} {vs : List V}, DpAll K F vs (ns.map PyData.str) → vs = ns.map V.str
  | [], _, .nil => rfl
  | n :: ns, _, .cons h t => by
    cases h
    rw [strs_dpa t]
    rfl

/-! ### the machine of the draws: a dict that alone may change -/
def kG : Key := .inr "great"
def kS : Key := .inr "seed"
def kT : Key := .inr "turns"
structure MachAt (K : Fg) (F H : Hp) (a : Addr) (t : Nat) : Prop where
  fr : F a = none
  at_ : ∃ (g : Addr) (ns : List Int) (s u : Int), H a = some (.dK [(kG, .ref g), (kS, .int s), (kT, .int u)]) ∧ Dp K F (.ref g) (.list (ns.map .int)) ∧ (∀ n ∈ ns, 0 ≤ n) ∧ ns.length ≤ 64 ∧ 0 ≤ s ∧ s < 2147483647 ∧ 0 ≤ u ∧ u ≤ t
def MachOk (K : Fg) (F H : Hp) (m : Option Addr) (t : Nat) : Prop := ∀ a, m = some a → MachAt K F H a t

/-- how heaps go on: what is frozen, what is there -/
structure Grow (m : Option Addr) (F H F' H' : Hp) : Prop where
  f : Ex F F'
  fh : Ex F' H'
  h : ∀ a o, some a ≠ m → H a = some o → H' a = some o
  dm : ∀ a, H' a = none → H a = none
  fr : ∀ a o, F' a = some o → F a = some o ∨ H a = none
theorem dm_of {H H' : Hp} (h : Ex H H') : ∀ a, H' a = none → H a = none := fun a e => by
  cases q : H a with
  | none => rfl
  | some o => rw [h a o q] at e; cases e
theorem Grow.refl {m : Option Addr} {F H : Hp} (e : Ex F H) : Grow m F H F H := ⟨Evl.Ex.refl F, e, fun _ _ _ h => h, fun _ h => h, fun _ _ h => .inl h⟩
theorem Grow.trans {m : Option Addr} {F H F1 H1 F2 H2 : Hp} (a : Grow m F H F1 H1) (b : Grow m F1 H1 F2 H2) : Grow m F H F2 H2 :=
  ⟨a.f.trans b.f, b.fh, fun c o n h => b.h c o n (a.h c o n h), fun c h => a.dm c (b.dm c h), fun c o h => by
    rcases b.fr c o h with h1 | h1
    · exact a.fr c o h1
    · exact .inr (a.dm c h1)⟩
theorem Grow.hx {F H F' H' : Hp} (g : Grow none F H F' H') : Ex H H' := fun a o h => g.h a o (fun z => by cases z) h
theorem Grow.any {m : Option Addr} {F H F' H' : Hp} (g : Grow none F H F' H') : Grow m F H F' H' := ⟨g.f, g.fh, fun a o _ h => g.hx a o h, g.dm, g.fr⟩
/-- a new object, frozen at once -/
theorem Grow.new {m : Option Addr} {F H : Hp} {p : Addr} {o : HO} (e : Ex F H) (hp : H p = none) : Grow m F H (upd F p o) (upd H p o) := by
  have fp : F p = none := Evl.fresh_back e hp
  refine ⟨Evl.Ex.new fp, fun a u h => ?_, fun a u _ h => Evl.Ex.new hp a u h, dm_of (Evl.Ex.new hp), fun a u h => ?_⟩
  · by_cases c : a = p
    · subst c; rw [upd_same] at h ⊢; exact h
    · rw [upd_ne c] at h ⊢; exact e a u h
  · by_cases c : a = p
    · subst c; exact .inr hp
    · rw [upd_ne c] at h; exact .inl h
/-- a new object, not frozen -/
theorem Grow.raw {m : Option Addr} {F H : Hp} {p : Addr} {o : HO} (e : Ex F H) (hp : H p = none) : Grow m F H F (upd H p o) :=
  ⟨Evl.Ex.refl F, e.trans (Evl.Ex.new hp), fun a u _ h => Evl.Ex.new hp a u h, dm_of (Evl.Ex.new hp), fun _ _ h => .inl h⟩

/-! ### slots, states -/
inductive S where
  | d (d : D) | o (ds : List D) | m | r (v : V) | s (n : Nat)
abbrev Sl := List (Option S)
abbrev XD := Value → D → Nat → Prop
structure G where
  B : Hp
  F0 : Hp
  m : Option Addr
  xp : XD
def SlotOk (K : Fg) (g : G) (F H : Hp) (v : V) : S → Prop
  | .d d => Dp K F v d
  | .o ds => ∃ l xs, v = .ref l ∧ g.B l = none ∧ F l = none ∧ H l = some (.lst xs) ∧ DpAll K F xs ds
  | .m => ∃ a, g.m = some a ∧ v = .ref a
  | .r u => v = u
  | .s n => ∃ a xs, v = .ref a ∧ SqL K g.B a xs ∧ xs.length = n ∧ (Rd g.B a (.lst xs) → some a ≠ g.m)
structure SR (K : Fg) (g : G) (F H : Hp) (σ : L2.St) (ρ : Sl) (t : Nat) : Prop where
  gr : Grow g.m g.F0 g.B F H
  mc : MachOk K F H g.m t
  sl : ∀ (i : Nat) (s : S), ρ[i]? = some (some s) → ∃ v, σ[i]? = some (some v) ∧ SlotOk K g F H v s
  inj : ∀ (i j : Nat) (l : Addr) (ds es : List D), ρ[i]? = some (some (.o ds)) → ρ[j]? = some (some (.o es)) → σ[i]? = some (some (.ref l)) → σ[j]? = some (some (.ref l)) → i = j
  len : ρ.length = σ.length
section
variable {K : Fg} {g : G} {F H F' H' : Hp} {σ : L2.St} {ρ : Sl} {t t' : Nat}
theorem MachOk.grow (h : MachOk K F H g.m t) (gr : Grow none F H F' H') : MachOk K F' H' g.m t := fun a e => by
  obtain ⟨fr, q, ns, s, u, h1, h2, h3⟩ := h a e
  refine ⟨?_, q, ns, s, u, gr.hx _ _ h1, dp_ex gr.f _ _ h2, h3⟩
  cases z : F' a with
  | none => rfl
  | some o =>
    rcases gr.fr a o z with y | y
    · rw [fr] at y; cases y
    · rw [h1] at y; cases y
theorem SR.ex (h : SR K g F H σ ρ t) : Ex F H := h.gr.fh
/-- the heaps have gone on (a machine's turns too) -/
theorem SR.growM (h : SR K g F H σ ρ t) (gr : Grow g.m F H F' H') (mc : MachOk K F' H' g.m t') : SR K g F' H' σ ρ t' := by
  refine ⟨h.gr.trans gr, mc, fun i s e => ?_, h.inj, h.len⟩
  obtain ⟨v, hv, ok⟩ := h.sl i s e
  refine ⟨v, hv, ?_⟩
  cases s with
  | d d => exact dp_ex gr.f _ _ ok
  | m => exact ok
  | r u => exact ok
  | s k => exact ok
  | o ds =>
    obtain ⟨l, xs, rfl, b, f, hl, da⟩ := ok
    have nm : some l ≠ g.m := fun z => by
      obtain ⟨_, _, _, _, _, q, _⟩ := h.mc l z.symm
      rw [q] at hl; cases hl
    refine ⟨l, xs, rfl, b, ?_, gr.h l _ nm hl, dpa_ex gr.f _ _ da⟩
    cases z : F' l with
    | none => rfl
    | some o =>
      rcases gr.fr l o z with y | y
      · rw [f] at y; cases y
      · rw [hl] at y; cases y
theorem SR.grow (h : SR K g F H σ ρ t) (gr : Grow none F H F' H') : SR K g F' H' σ ρ t := h.growM gr.any (h.mc.grow gr)
theorem SR.slot (h : SR K g F H σ ρ t) {i : Nat} {s : S} (e : ρ[i]? = some (some s)) : ∃ v, σ[i]? = some (some v) ∧ SlotOk K g F H v s := h.sl i s e
/-- a slot is given a value -/
theorem SR.set (h : SR K g F H σ ρ t) {i : Nat} {v : V} {s : S} (ok : SlotOk K g F H v s) (ns : ∀ ds l, s = .o ds → v = .ref l → ∀ (j : Nat) (es : List D), j ≠ i → ρ[j]? = some (some (.o es)) → σ[j]? ≠ some (some (.ref l))) :
    SR K g F H (σ.set i (some v)) (ρ.set i (some s)) t := by
  refine ⟨h.gr, h.mc, fun j s' e => ?_, fun j k l ds es e1 e2 f1 f2 => ?_, by rw [List.length_set, List.length_set, h.len]⟩
  · by_cases c : j = i
    · subst c
      by_cases hl : j < ρ.length
      · rw [List.getElem?_set_self hl] at e
        cases e
        exact ⟨v, List.getElem?_set_self (h.len ▸ hl), ok⟩
      · rw [List.getElem?_eq_none (by rw [List.length_set]; omega)] at e; cases e
    · rw [List.getElem?_set_ne (Ne.symm c)] at e
      rw [List.getElem?_set_ne (Ne.symm c)]
      exact h.sl j s' e
  · by_cases cj : j = i <;> by_cases ck : k = i
    · rw [cj, ck]
    · subst cj
      rw [List.getElem?_set_ne (Ne.symm ck)] at e2 f2
      have hl : j < ρ.length := by
        by_cases hl : j < ρ.length
        · exact hl
        · rw [List.getElem?_eq_none (by rw [List.length_set]; omega)] at e1; cases e1
      rw [List.getElem?_set_self hl] at e1
      rw [List.getElem?_set_self (h.len ▸ hl)] at f1
      cases e1; cases f1
      exact absurd f2 (ns ds l rfl rfl k es ck e2)
    · subst ck
      rw [List.getElem?_set_ne (Ne.symm cj)] at e1 f1
      have hl : k < ρ.length := by
        by_cases hl : k < ρ.length
        · exact hl
        · rw [List.getElem?_eq_none (by rw [List.length_set]; omega)] at e2; cases e2
      rw [List.getElem?_set_self hl] at e2
      rw [List.getElem?_set_self (h.len ▸ hl)] at f2
      cases e2; cases f2
      exact absurd f1 (ns es l rfl rfl j ds cj e1)
    · rw [List.getElem?_set_ne (Ne.symm cj)] at e1 f1
      rw [List.getElem?_set_ne (Ne.symm ck)] at e2 f2
      exact h.inj j k l ds es e1 e2 f1 f2
theorem SR.setD (h : SR K g F H σ ρ t) {i : Nat} {v : V} {d : D} (ok : Dp K F v d) : SR K g F H (σ.set i (some v)) (ρ.set i (some (.d d))) t :=
  h.set (s := .d d) ok fun _ _ z => by cases z
/-- a slot is forgotten -/
theorem SR.forget (h : SR K g F H σ ρ t) {i : Nat} {v : Option V} : SR K g F H (σ.set i v) (ρ.set i none) t := by
  have key : ∀ (j : Nat) (s : S), (ρ.set i none)[j]? = some (some s) → j ≠ i ∧ ρ[j]? = some (some s) := fun j s e => by
    by_cases c : j = i
    · subst c
      by_cases hl : j < ρ.length
      · rw [List.getElem?_set_self hl] at e; cases e
      · rw [List.getElem?_eq_none (by rw [List.length_set]; omega)] at e; cases e
    · rw [List.getElem?_set_ne (Ne.symm c)] at e; exact ⟨c, e⟩
  refine ⟨h.gr, h.mc, fun j s' e => ?_, fun j k l ds es e1 e2 f1 f2 => ?_, by rw [List.length_set, List.length_set, h.len]⟩
  · obtain ⟨c, e'⟩ := key j s' e
    rw [List.getElem?_set_ne (Ne.symm c)]
    exact h.sl j s' e'
  · obtain ⟨c1, e1'⟩ := key j _ e1
    obtain ⟨c2, e2'⟩ := key k _ e2
    rw [List.getElem?_set_ne (Ne.symm c1)] at f1
    rw [List.getElem?_set_ne (Ne.symm c2)] at f2
    exact h.inj j k l ds es e1' e2' f1 f2
/-- a list that none knows of is changed -/
theorem SR.updFree (h : SR K g F H σ ρ t) {p : Addr} {xs : List V} {o : HO} (hp : H p = some (.lst xs)) (fp : F p = none) (bp : g.B p = none) (no : ∀ (i : Nat) (ds : List D), ρ[i]? = some (some (.o ds)) → σ[i]? ≠ some (some (.ref p))) : SR K g F (upd H p o) σ ρ t := by
  refine ⟨⟨h.gr.f, fun a u e => ?_, fun a u n e => ?_, fun a e => ?_, h.gr.fr⟩, fun a e => ?_, fun i s e => ?_, h.inj, h.len⟩
  · rw [upd_ne (fun z => by rw [z, fp] at e; cases e)]; exact h.gr.fh a u e
  · rw [upd_ne (fun z => by rw [z, bp] at e; cases e)]; exact h.gr.h a u n e
  · by_cases c : a = p
    · subst c; rw [upd_same] at e; cases e
    · rw [upd_ne c] at e; exact h.gr.dm a e
  · obtain ⟨fr, q, ns, s, u, h1, h2⟩ := h.mc a e
    refine ⟨fr, q, ns, s, u, ?_, h2⟩
    rw [upd_ne (ne_of h1 hp (by intro z; cases z))]; exact h1
  · obtain ⟨v, hv, ok⟩ := h.sl i s e
    refine ⟨v, hv, ?_⟩
    cases s with
    | d d => exact ok
    | m => exact ok
    | r u => exact ok
    | s k => exact ok
    | o ds =>
      obtain ⟨l, ys, rfl, b, f, hl, da⟩ := ok
      refine ⟨l, ys, rfl, b, f, ?_, da⟩
      rw [upd_ne (fun z => no i ds e (by rw [← z]; exact hv))]; exact hl
end
end DL

namespace DL
open PySem L2

/-! ### transformers over data, and what they are sound for -/
abbrev DT := Sl → Nat → (D → Nat → Prop) → Prop
abbrev DB := Sl → Nat → (Bool → Nat → Prop) → Prop
abbrev DL_ := Sl → Nat → (List D → Nat → Prop) → Prop
abbrev DA := Sl → Nat → (List S → Nat → Prop) → Prop
structure DEnds where
  nx : Sl → Nat → Prop
  rt : D → Nat → Prop
  bk : Sl → Nat → Prop := fun _ _ => False
  ct : Sl → Nat → Prop := fun _ _ => False
abbrev DS := DEnds → Sl → Nat → Prop
abbrev DGt := D → Sl → Nat → (Sl → Nat → Prop) → Prop

def SE (K : Fg) (g : G) (te : TE) (t : DT) : Prop := ∀ σ F H ρ n (P : D → Nat → Prop) (Q : VK), SR K g F H σ ρ n → t ρ n P →
  (∀ d n' v F' H', P d n' → Grow g.m F H F' H' → SR K g F' H' σ ρ n' → Dp K F' v d → Q v H') → te σ H Q
def SB (K : Fg) (g : G) (tt : TT) (t : DB) : Prop := ∀ σ F H ρ n (P : Bool → Nat → Prop) (Q : Bool → Hp → Prop), SR K g F H σ ρ n → t ρ n P →
  (∀ b n' F' H', P b n' → Grow g.m F H F' H' → SR K g F' H' σ ρ n' → Q b H') → tt σ H Q
/-- none knows of the object at p but who made it -/
structure Free (g : G) (F : Hp) (σ : L2.St) (ρ : Sl) (p : Addr) : Prop where
  f : F p = none
  b : g.B p = none
  no : ∀ (i : Nat) (ds : List D), ρ[i]? = some (some (.o ds)) → σ[i]? ≠ some (some (.ref p))
theorem Free.of {K : Fg} {g : G} {F H : Hp} {σ : L2.St} {ρ : Sl} {n : Nat} {p : Addr} (sr : SR K g F H σ ρ n) (hp : H p = none) : Free g F σ ρ p :=
  ⟨Evl.fresh_back sr.ex hp, sr.gr.dm p hp, fun i ds e z => by
    obtain ⟨v, hv, l, xs, rfl, _, _, hl, _⟩ := sr.sl i _ e
    rw [hv] at z
    cases z
    rw [hp] at hl
    cases hl⟩
/-- a new list, not yet frozen -/
def SL (K : Fg) (g : G) (te : TE) (t : DL_) : Prop := ∀ σ F H ρ n (P : List D → Nat → Prop) (Q : VK), SR K g F H σ ρ n → t ρ n P →
  (∀ ds n' p xs F' H', P ds n' → Grow g.m F H F' H' → SR K g F' H' σ ρ n' → Free g F' σ ρ p → H p = none → H' p = some (.lst xs) → DpAll K F' xs ds → Q (.ref p) H') → te σ H Q
/-- arguments -/
def argS : S → Bool
  | .o _ => false
  | .s _ => false
  | _ => true
def ArgsOk (K : Fg) (g : G) (F : Hp) : List V → List S → Prop
  | [], [] => True
  | v :: vs, s :: ss => SlotOk K g F F v s ∧ argS s = true ∧ ArgsOk K g F vs ss
  | _, _ => False
def SA (K : Fg) (g : G) (ta : TA) (t : DA) : Prop := ∀ σ F H ρ n (P : List S → Nat → Prop) (Q : List V → Hp → Prop), SR K g F H σ ρ n → t ρ n P →
  (∀ ss n' vs F' H', P ss n' → Grow g.m F H F' H' → SR K g F' H' σ ρ n' → ArgsOk K g F' vs ss → Q vs H') → ta σ H Q
def SS (K : Fg) (g : G) (ts : TS) (t : DS) : Prop := ∀ σ F H ρ n (P : DEnds) (E : Ends), SR K g F H σ ρ n → t P ρ n →
  (∀ ρ' n' σ' F' H', P.nx ρ' n' → Ex F F' → SR K g F' H' σ' ρ' n' → E.nx σ' H') →
  (∀ d n' σ' ρ' v F' H', P.rt d n' → SR K g F' H' σ' ρ' n' → Dp K F' v d → E.rt v H') →
  (∀ ρ' n' σ' F' H', P.bk ρ' n' → Ex F F' → SR K g F' H' σ' ρ' n' → E.bk σ' H') →
  (∀ ρ' n' σ' F' H', P.ct ρ' n' → Ex F F' → SR K g F' H' σ' ρ' n' → E.ct σ' H') → ts E σ H
/-- only the slots of is are changed -/
structure But (is : List Nat) (σ σ' : L2.St) (ρ ρ' : Sl) : Prop where
  len : σ'.length = σ.length
  get : ∀ j : Nat, j ∉ is → σ'[j]? = σ[j]?
  own : ∀ (j : Nat) (ds : List D), ρ'[j]? = some (some (.o ds)) → ρ[j]? = some (some (.o ds)) ∧ σ'[j]? = σ[j]?
theorem But.refl {is : List Nat} {σ : L2.St} {ρ : Sl} : But is σ σ ρ ρ := ⟨rfl, fun _ _ => rfl, fun _ _ h => ⟨h, rfl⟩⟩
theorem But.trans {is js : List Nat} {σ σ1 σ2 : L2.St} {ρ ρ1 ρ2 : Sl} (a : But is σ σ1 ρ ρ1) (b : But js σ1 σ2 ρ1 ρ2) : But (is ++ js) σ σ2 ρ ρ2 :=
  ⟨b.len.trans a.len, fun j h => (b.get j fun z => h (List.mem_append_right _ z)).trans (a.get j fun z => h (List.mem_append_left _ z)), fun j ds h => by
    obtain ⟨h1, h2⟩ := b.own j ds h
    obtain ⟨h3, h4⟩ := a.own j ds h1
    exact ⟨h3, h2.trans h4⟩⟩
theorem But.set {i : Nat} {σ : L2.St} {ρ : Sl} {v : Option V} {d : D} : But [i] σ (σ.set i v) ρ (ρ.set i (some (.d d))) :=
  ⟨List.length_set .., fun j h => List.getElem?_set_ne (fun z => h (by simp [z])), fun j ds h => by
    by_cases c : i = j
    · subst c
      rw [List.getElem?_set_self'] at h
      cases q : ρ[i]? with
      | none => rw [q] at h; cases h
      | some o => rw [q] at h; cases h
    · rw [List.getElem?_set_ne c] at h ⊢
      exact ⟨h, rfl⟩⟩
def SG (K : Fg) (g : G) (is : List Nat) (tg : TG) (t : DGt) : Prop := ∀ v σ F H d ρ n (P : Sl → Nat → Prop) (Q : L2.St → Hp → Prop), SR K g F H σ ρ n → Dp K F v d → t d ρ n P →
  (∀ ρ' σ', P ρ' n → SR K g F H σ' ρ' n → But is σ σ' ρ ρ' → Q σ' H) → tg v σ H Q

structure E (X : Cx) (g : G) (e : Expr) (t : DT) : Prop where
  ok : ∃ te, PE X e te ∧ SE X.K g te t
structure B (X : Cx) (g : G) (e : Expr) (t : DB) : Prop where
  ok : ∃ te, PT X e te ∧ SB X.K g te t
structure W (X : Cx) (g : G) (e : Expr) (t : DB) : Prop where
  ok : ∃ te, PW X e te ∧ SB X.K g te t
structure Ls (X : Cx) (g : G) (e : Expr) (t : DL_) : Prop where
  ok : ∃ te, PE X e te ∧ SL X.K g te t
structure A (X : Cx) (g : G) (es : List Expr) (t : DA) : Prop where
  ok : ∃ te, PA X es te ∧ SA X.K g te t
structure St (X : Cx) (g : G) (s : Stmt) (t : DS) : Prop where
  ok : ∃ te, PS X s te ∧ SS X.K g te t
structure Sts (X : Cx) (g : G) (s : List Stmt) (t : DS) : Prop where
  ok : ∃ te, PSs X s te ∧ SS X.K g te t
structure Gt (X : Cx) (g : G) (e : Expr) (is : List Nat) (t : DGt) : Prop where
  ok : ∃ te, PG X e te ∧ SG X.K g is te t

section
variable {X : Cx} {g : G} {a b c e : Expr} {es : List Expr} {ta tb tc t : DT} {pos : Pos}

/-! ### names, constants -/
def dVar (i : Nat) : DT := fun ρ n P => ∃ d, ρ[i]? = some (some (.d d)) ∧ P d n
def dC (d : D) : DT := fun _ n P => P d n
theorem e_var (i : Nat) {x : Str} (hN : X.N[i]? = some x := by rfl) (hv : Vis X.env.scope x := by first | exact Or.inl rfl | exact Or.inr (Or.inl rfl) | exact Or.inr (Or.inr rfl)) (hd : (x == ("__debug__" : Str)) = false := by decide)
    (hcd : (x == ("__classdict__" : Str)) = false := by decide) : E X g (.Name x pos) (dVar i) :=
  ⟨_, pe_var hN hv hd hcd, fun σ F H ρ n P Q sr ⟨d, e, p⟩ k => by
    obtain ⟨v, hv, ok⟩ := sr.sl i _ e
    exact ⟨v, hv, k d n v F H p (Grow.refl sr.ex) sr ok⟩⟩
theorem e_int {i : Int} {j} : E X g (.Constant (.int i) j pos) (dC (.int i)) := ⟨_, pe_int, fun σ F H ρ n P Q sr p k => k _ n _ F H p (Grow.refl sr.ex) sr (.int i)⟩
theorem e_bl {i : Bool} {j} : E X g (.Constant (.bool i) j pos) (dC (.bool i)) := ⟨_, pe_bl, fun σ F H ρ n P Q sr p k => k _ n _ F H p (Grow.refl sr.ex) sr (.bl i)⟩
theorem e_non {j} : E X g (.Constant .none j pos) (dC .none) := ⟨_, pe_non, fun σ F H ρ n P Q sr p k => k _ n _ F H p (Grow.refl sr.ex) sr .non⟩
theorem e_str {i : Str} {j} : E X g (.Constant (.str i) j pos) (dC (.str i)) := ⟨_, pe_str, fun σ F H ρ n P Q sr p k => k _ n _ F H p (Grow.refl sr.ex) sr (.str i)⟩
/-- a module's constant -/
theorem e_glob {x : Str} {v : V} {u : Value} {d : D} (hg : Gl X x) (hm : X.mg x = some u) (r : RelV v u) (hd : ∀ F, Dp X.K F v d) (hdb : (x == ("__debug__" : Str)) = false := by decide) : E X g (.Name x pos) (dC d) :=
  ⟨_, pe_glob hg hm r hdb, fun σ F H ρ n P Q sr p k => k _ n _ F H p (Grow.refl sr.ex) sr (hd F)⟩

/-! ### operators by data -/
def OpD (K : Fg) (r : R2) (f : D → D → Option D) : Prop := ∀ F H vx vy x y d (Q : VK), Ex F H → Dp K F vx x → Dp K F vy y → f x y = some d →
  (∀ v F' H', Grow none F H F' H' → Dp K F' v d → Q v H') → r vx vy H Q
def UnD (K : Fg) (r : V → Hp → VK → Prop) (f : D → Option D) : Prop := ∀ F H vx x d (Q : VK), Ex F H → Dp K F vx x → f x = some d →
  (∀ v F' H', Grow none F H F' H' → Dp K F' v d → Q v H') → r vx H Q
def CallD (K : Fg) (r : List V → Hp → VK → Prop) (f : List D → Option D) : Prop := ∀ F H vs ds d (Q : VK), Ex F H → DpAll K F vs ds → f ds = some d →
  (∀ v F' H', Grow none F H F' H' → Dp K F' v d → Q v H') → r vs H Q
theorem OpD.or {K : Fg} {r r' : R2} {f f' : D → D → Option D} (h : OpD K r f) (h' : OpD K r' f') : OpD K (fun x y H Q => r x y H Q ∨ r' x y H Q) (fun x y => (f x y).or (f' x y)) := by
  intro F H vx vy x y d Q ex dx dy e k
  replace e : (f x y).or (f' x y) = some d := e
  cases q : f x y with
  | some z =>
    rw [q] at e
    cases e
    exact .inl (h F H vx vy x y _ Q ex dx dy q k)
  | none =>
    rw [q] at e
    exact .inr (h' F H vx vy x y d Q ex dx dy e k)
theorem CallD.or {K : Fg} {r r' : List V → Hp → VK → Prop} {f f' : List D → Option D} (h : CallD K r f) (h' : CallD K r' f') : CallD K (fun x H Q => r x H Q ∨ r' x H Q) (fun x => (f x).or (f' x)) := by
  intro F H vs ds d Q ex da e k
  replace e : (f ds).or (f' ds) = some d := e
  cases q : f ds with
  | some z =>
    rw [q] at e
    cases e
    exact .inl (h F H vs ds _ Q ex da q k)
  | none =>
    rw [q] at e
    exact .inr (h' F H vs ds d Q ex da e k)
def dBin (f : D → D → Option D) (ta tb : DT) : DT := fun ρ n P => ta ρ n fun x n1 => tb ρ n1 fun y n2 => ∃ d, f x y = some d ∧ P d n2
def dUn (f : D → Option D) (ta : DT) : DT := fun ρ n P => ta ρ n fun x n1 => ∃ d, f x = some d ∧ P d n1
theorem se_op {K : Fg} {te te' : TE} {r : R2} {f : D → D → Option D} (h : OpD K r f) (ha : SE K g te ta) (hb : SE K g te' tb) : SE K g (tOp r te te') (dBin f ta tb) :=
  fun σ F H ρ n P Q sr p k => ha σ F H ρ n _ _ sr p fun x n1 vx F1 H1 p1 e1 sr1 dx => hb σ F1 H1 ρ n1 _ _ sr1 p1 fun y n2 vy F2 H2 ⟨d, e, p2⟩ e2 sr2 dy =>
    h F2 H2 vx vy x y d Q sr2.ex (dp_ex e2.f _ _ dx) dy e fun v F3 H3 gr dv => k d n2 v F3 H3 p2 ((e1.trans e2).trans gr.any) (sr2.grow gr) dv
theorem e_op {op : Operator} {r : R2} {f : D → D → Option D} (ho : OpR X (binaryOp op) r) (h : OpD X.K r f) (ha : E X g a ta) (hb : E X g b tb) : E X g (.BinOp a op b pos) (dBin f ta tb) := by
  obtain ⟨te, p1, s1⟩ := ha
  obtain ⟨te', p2, s2⟩ := hb
  exact ⟨_, pe_op ho p1 p2, se_op h s1 s2⟩
theorem e_cmpR {op : CmpOp} {r : R2} {f : D → D → Option D} (ho : OpR X (compareOp op) r) (h : OpD X.K r f) (ha : E X g a ta) (hb : E X g b tb) (hm : behindInMarks op b = false) : E X g (.Compare a [op] [b] pos) (dBin f ta tb) := by
  obtain ⟨te, p1, s1⟩ := ha
  obtain ⟨te', p2, s2⟩ := hb
  exact ⟨_, pe_cmpR ho p1 p2 hm, se_op h s1 s2⟩
theorem e_un {op : UnaryOp} {r : V → Hp → VK → Prop} {f : D → Option D} (ho : UnR X (unaryOp op) r) (h : UnD X.K r f) (ha : E X g a ta) : E X g (.UnaryOp op a pos) (dUn f ta) := by
  obtain ⟨te, p1, s1⟩ := ha
  refine ⟨_, pe_un ho p1, fun σ F H ρ n P Q sr p k => s1 σ F H ρ n _ _ sr p fun x n1 vx F1 H1 ⟨d, e, p1⟩ e1 sr1 dx => ?_⟩
  exact h F1 H1 vx x d Q sr1.ex dx e fun v F3 H3 gr dv => k d n1 v F3 H3 p1 (e1.trans gr.any) (sr1.grow gr) dv
/-- a < b < c -/
def dChain (f f' : D → D → Option D) (ta tb tc : DT) : DT := fun ρ n P => ta ρ n fun x n1 => tb ρ n1 fun y n2 => ∃ z, f x y = some (.bool z) ∧ if z = true then tc ρ n2 fun w n3 => ∃ d, f' y w = some d ∧ P d n3 else P (.bool false) n2
theorem se_chain {K : Fg} {te te' te2 : TE} {r r' : R2} {f f' : D → D → Option D} (h : OpD K r f) (h' : OpD K r' f') (s1 : SE K g te ta) (s2 : SE K g te' tb) (s3 : SE K g te2 tc) : SE K g (tChain r r' te te' te2) (dChain f f' ta tb tc) := by
  refine fun σ F H ρ n P Q sr p k => s1 σ F H ρ n _ _ sr p fun x n1 vx F1 H1 p1 e1 sr1 dx => s2 σ F1 H1 ρ n1 _ _ sr1 p1 fun y n2 vy F2 H2 ⟨z, e, p2⟩ e2 sr2 dy => ?_
  refine h F2 H2 vx vy x y _ _ sr2.ex (dp_ex e2.f _ _ dx) dy e fun v F3 H3 gr dv => ?_
  cases dv
  refine ⟨z, rfl, ?_⟩
  cases z with
  | false =>
    rw [if_neg Bool.false_ne_true] at p2 ⊢
    exact k _ n2 _ F3 H3 p2 ((e1.trans e2).trans gr.any) (sr2.grow gr) (.bl false)
  | true =>
    rw [if_pos rfl] at p2 ⊢
    refine s3 σ F3 H3 ρ n2 _ _ (sr2.grow gr) p2 fun w n3 vw F4 H4 ⟨d, e4, p4⟩ ex4 sr4 dw => ?_
    exact h' F4 H4 vy vw y w d Q sr4.ex (dp_ex (gr.f.trans ex4.f) _ _ dy) dw e4 fun v F5 H5 gr5 dv => k d n3 v F5 H5 p4 ((((e1.trans e2).trans gr.any).trans ex4).trans gr5.any) (sr4.grow gr5) dv
theorem e_chain {op op' : CmpOp} {r r' : R2} {f f' : D → D → Option D} (ho : OpR X (compareOp op) r) (h : OpD X.K r f) (ho' : OpR X (compareOp op') r') (h' : OpD X.K r' f') (ha : E X g a ta) (hb : E X g b tb) (hc : E X g c tc)
    (hm : lastMarks [op, op'] [b, c] = false := by rfl) : E X g (.Compare a [op, op'] [b, c] pos) (dChain f f' ta tb tc) := by
  obtain ⟨te, p1, s1⟩ := ha
  obtain ⟨te', p2, s2⟩ := hb
  obtain ⟨te2, p3, s3⟩ := hc
  exact ⟨_, pe_chain ho ho' p1 p2 p3 hm, se_chain h h' s1 s2 s3⟩

/-! ### tests -/
def bVal (t : DT) : DB := fun ρ n P => t ρ n fun d n' => ∃ b, d = .bool b ∧ P b n'
theorem b_val (h : E X g e t) (hs : ∀ whole, isTrue e X.env whole = (do let v ← whole; standAt e.pos; holding [v] (truthy v)) := by intro _; rfl) : B X g e (bVal t) := by
  obtain ⟨te, p1, s1⟩ := h
  refine ⟨_, pt_val p1 hs, fun σ F H ρ n P Q sr p k => s1 σ F H ρ n _ _ sr p fun d n1 v F1 H1 ⟨b, e, p1⟩ e1 sr1 dx => ?_⟩
  subst e
  cases dx
  exact ⟨b, rfl, k b n1 F1 H1 p1 e1 sr1⟩
theorem b_cmpR {op : CmpOp} {r : R2} {f : D → D → Option D} (ho : OpR X (compareOp op) r) (h : OpD X.K r f) (ha : E X g a ta) (hb : E X g b tb) (hm : behindInMarks op b = false) : B X g (.Compare a [op] [b] pos) (bVal (dBin f ta tb)) := by
  obtain ⟨te, p1, s1⟩ := ha
  obtain ⟨te', p2, s2⟩ := hb
  refine ⟨_, pt_cmpR ho p1 p2 hm, fun σ F H ρ n P Q sr p k => se_op h s1 s2 σ F H ρ n _ _ sr p fun d n1 v F1 H1 ⟨b, e, p1⟩ e1 sr1 dx => ?_⟩
  subst e
  cases dx
  exact ⟨b, rfl, k b n1 F1 H1 p1 e1 sr1⟩
theorem b_chain {op op' : CmpOp} {r r' : R2} {f f' : D → D → Option D} (ho : OpR X (compareOp op) r) (h : OpD X.K r f) (ho' : OpR X (compareOp op') r') (h' : OpD X.K r' f') (ha : E X g a ta) (hb : E X g b tb) (hc : E X g c tc)
    (hm : lastMarks [op, op'] [b, c] = false := by rfl) : B X g (.Compare a [op, op'] [b, c] pos) (bVal (dChain f f' ta tb tc)) := by
  obtain ⟨te, p1, s1⟩ := ha
  obtain ⟨te', p2, s2⟩ := hb
  obtain ⟨te2, p3, s3⟩ := hc
  refine ⟨_, pt_chain ho ho' p1 p2 p3 hm, fun σ F H ρ n P Q sr p k => se_chain h h' s1 s2 s3 σ F H ρ n _ _ sr p fun d n1 v F1 H1 ⟨b, e, p1⟩ e1 sr1 dx => ?_⟩
  subst e
  cases dx
  exact ⟨b, rfl, k b n1 F1 H1 p1 e1 sr1⟩
def bNot (t : DB) : DB := fun ρ n P => t ρ n fun b n' => P (!b) n'
def bAnd (t u : DB) : DB := fun ρ n P => t ρ n fun b n' => if b = true then u ρ n' P else P false n'
def bOr (t u : DB) : DB := fun ρ n P => t ρ n fun b n' => if b = true then P true n' else u ρ n' P
variable {u v : DB} {rest : List Expr}
theorem b_not (h : B X g a u) : B X g (.UnaryOp .Not a pos) (bNot u) := by
  obtain ⟨te, p1, s1⟩ := h
  exact ⟨_, pt_not p1, fun σ F H ρ n P Q sr p k => s1 σ F H ρ n _ _ sr p fun b n1 F1 H1 p1 e1 sr1 => k _ n1 F1 H1 p1 e1 sr1⟩
theorem sb_and {K : Fg} {t1 t2 : TT} (h1 : SB K g t1 u) (h2 : SB K g t2 v) : SB K g (tAnd t1 t2) (bAnd u v) :=
  fun σ F H ρ n P Q sr p k => h1 σ F H ρ n _ _ sr p fun b n1 F1 H1 p1 e1 sr1 => by
    cases b with
    | true =>
      rw [if_pos rfl] at p1 ⊢
      exact h2 σ F1 H1 ρ n1 _ _ sr1 p1 fun b' n2 F2 H2 p2 e2 sr2 => k b' n2 F2 H2 p2 (e1.trans e2) sr2
    | false =>
      rw [if_neg Bool.false_ne_true] at p1 ⊢
      exact k _ n1 F1 H1 p1 e1 sr1
theorem sb_or {K : Fg} {t1 t2 : TT} (h1 : SB K g t1 u) (h2 : SB K g t2 v) : SB K g (tOr t1 t2) (bOr u v) :=
  fun σ F H ρ n P Q sr p k => h1 σ F H ρ n _ _ sr p fun b n1 F1 H1 p1 e1 sr1 => by
    cases b with
    | false =>
      rw [if_neg Bool.false_ne_true] at p1 ⊢
      exact h2 σ F1 H1 ρ n1 _ _ sr1 p1 fun b' n2 F2 H2 p2 e2 sr2 => k b' n2 F2 H2 p2 (e1.trans e2) sr2
    | true =>
      rw [if_pos rfl] at p1 ⊢
      exact k _ n1 F1 H1 p1 e1 sr1
theorem w_and (h : B X g a u) (h2 : W X g (.BoolOp .And (b :: rest) pos) v) : W X g (.BoolOp .And (a :: b :: rest) pos) (bAnd u v) := by
  obtain ⟨te, p1, s1⟩ := h
  obtain ⟨te', p2, s2⟩ := h2
  exact ⟨_, pw_and p1 p2, sb_and s1 s2⟩
theorem w_and1 (h : B X g a u) : W X g (.BoolOp .And [a] pos) u := by
  obtain ⟨te, p1, s1⟩ := h
  exact ⟨_, pw_and1 p1, s1⟩
theorem w_or (h : B X g a u) (h2 : W X g (.BoolOp .Or (b :: rest) pos) v) : W X g (.BoolOp .Or (a :: b :: rest) pos) (bOr u v) := by
  obtain ⟨te, p1, s1⟩ := h
  obtain ⟨te', p2, s2⟩ := h2
  exact ⟨_, pw_or p1 p2, sb_or s1 s2⟩
theorem w_or1 (h : B X g a u) : W X g (.BoolOp .Or [a] pos) u := by
  obtain ⟨te, p1, s1⟩ := h
  exact ⟨_, pw_or1 p1, s1⟩
theorem b_w (h : W X g e u) : B X g e u := by
  obtain ⟨te, p1, s1⟩ := h
  exact ⟨_, p1.pt, s1⟩
/-! ### and, or, not as values; a if t else b -/
def dAnd (ta tb : DT) : DT := fun ρ n P => ta ρ n fun x n1 => ∃ c, x = .bool c ∧ if c = true then tb ρ n1 P else P (.bool false) n1
def dOr (ta tb : DT) : DT := fun ρ n P => ta ρ n fun x n1 => ∃ c, x = .bool c ∧ if c = true then P (.bool true) n1 else tb ρ n1 P
def dNot (ta : DT) : DT := fun ρ n P => ta ρ n fun x n1 => ∃ c, x = .bool c ∧ P (.bool (!c)) n1
theorem e_one {op : BoolOp} (h : E X g a t) : E X g (.BoolOp op [a] pos) t := by
  obtain ⟨te, p1, s1⟩ := h
  exact ⟨_, pe_one p1, s1⟩
theorem e_and (h : E X g a ta) (h2 : E X g (.BoolOp .And (b :: rest) pos) tb) : E X g (.BoolOp .And (a :: b :: rest) pos) (dAnd ta tb) := by
  obtain ⟨te, p1, s1⟩ := h
  obtain ⟨te', p2, s2⟩ := h2
  refine ⟨_, pe_and p1 p2, fun σ F H ρ n P Q sr p k => s1 σ F H ρ n _ _ sr p fun x n1 vx F1 H1 ⟨c, e, p1⟩ e1 sr1 dx => ?_⟩
  subst e
  cases dx
  refine ⟨c, rfl, ?_⟩
  cases c with
  | true =>
    rw [if_pos rfl] at p1 ⊢
    exact s2 σ F1 H1 ρ n1 _ _ sr1 p1 fun d n2 v F2 H2 p2 e2 sr2 dv => k d n2 v F2 H2 p2 (e1.trans e2) sr2 dv
  | false =>
    rw [if_neg Bool.false_ne_true] at p1 ⊢
    exact k _ n1 _ F1 H1 p1 e1 sr1 (.bl false)
theorem e_or (h : E X g a ta) (h2 : E X g (.BoolOp .Or (b :: rest) pos) tb) : E X g (.BoolOp .Or (a :: b :: rest) pos) (dOr ta tb) := by
  obtain ⟨te, p1, s1⟩ := h
  obtain ⟨te', p2, s2⟩ := h2
  refine ⟨_, pe_or p1 p2, fun σ F H ρ n P Q sr p k => s1 σ F H ρ n _ _ sr p fun x n1 vx F1 H1 ⟨c, e, p1⟩ e1 sr1 dx => ?_⟩
  subst e
  cases dx
  refine ⟨c, rfl, ?_⟩
  cases c with
  | false =>
    rw [if_neg Bool.false_ne_true] at p1 ⊢
    exact s2 σ F1 H1 ρ n1 _ _ sr1 p1 fun d n2 v F2 H2 p2 e2 sr2 dv => k d n2 v F2 H2 p2 (e1.trans e2) sr2 dv
  | true =>
    rw [if_pos rfl] at p1 ⊢
    exact k _ n1 _ F1 H1 p1 e1 sr1 (.bl true)
theorem e_not (h : E X g a ta) : E X g (.UnaryOp .Not a pos) (dNot ta) := by
  obtain ⟨te, p1, s1⟩ := h
  refine ⟨_, pe_not p1, fun σ F H ρ n P Q sr p k => s1 σ F H ρ n _ _ sr p fun x n1 vx F1 H1 ⟨c, e, p1⟩ e1 sr1 dx => ?_⟩
  subst e
  cases dx
  exact ⟨c, rfl, k _ n1 _ F1 H1 p1 e1 sr1 (.bl _)⟩
def dIf (u : DB) (ta tb : DT) : DT := fun ρ n P => u ρ n fun c n1 => if c = true then ta ρ n1 P else tb ρ n1 P
theorem e_if (hc : B X g c u) (ha : E X g a ta) (hb : E X g b tb) : E X g (.IfExp c a b pos) (dIf u ta tb) := by
  obtain ⟨te, p1, s1⟩ := hc
  obtain ⟨te1, p2, s2⟩ := ha
  obtain ⟨te2, p3, s3⟩ := hb
  refine ⟨_, pe_ifExp p1 p2 p3, fun σ F H ρ n P Q sr p k => s1 σ F H ρ n _ _ sr p fun c n1 F1 H1 p1 e1 sr1 => ?_⟩
  cases c with
  | true =>
    rw [if_pos rfl] at p1 ⊢
    exact s2 σ F1 H1 ρ n1 _ _ sr1 p1 fun d n2 v F2 H2 p2 e2 sr2 dv => k d n2 v F2 H2 p2 (e1.trans e2) sr2 dv
  | false =>
    rw [if_neg Bool.false_ne_true] at p1 ⊢
    exact s3 σ F1 H1 ρ n1 _ _ sr1 p1 fun d n2 v F2 H2 p2 e2 sr2 dv => k d n2 v F2 H2 p2 (e1.trans e2) sr2 dv
end
end DL

namespace DL
open PySem L2
section
variable {X : Cx} {g : G} {a b c e : Expr} {es : List Expr} {ta tb tc t : DT} {pos : Pos}
/-! ### arguments, tuples, lists -/
theorem slot_ex {K : Fg} {F F' : Hp} {v : V} {s : S} (e : Ex F F') (no : argS s = true) (h : SlotOk K g F F v s) : SlotOk K g F' F' v s := by
  cases s with
  | d d => exact dp_ex e _ _ h
  | m => exact h
  | r u => exact h
  | o ds => cases no
  | s k => cases no
theorem args_ex {K : Fg} {F F' : Hp} (e : Ex F F') : ∀ {vs : List V} {ss : List S}, ArgsOk K g F vs ss → ArgsOk K g F' vs ss
  | [], [], _ => trivial
  | _ :: _, _ :: _, ⟨h, no, r⟩ => ⟨slot_ex e no h, no, args_ex e r⟩
theorem args_len {K : Fg} {F : Hp} : ∀ {vs : List V} {ss : List S}, ArgsOk K g F vs ss → vs.length = ss.length
  | [], [], _ => rfl
  | _ :: _, _ :: _, ⟨_, _, r⟩ => by simp [args_len r]
theorem args_data {K : Fg} {F : Hp} : ∀ {vs : List V} {ds : List D}, ArgsOk K g F vs (ds.map .d) → DpAll K F vs ds
  | [], [], _ => .nil
  | _ :: _, _ :: _, ⟨h, _, r⟩ => .cons h (args_data r)
def aNil : DA := fun _ n P => P [] n
def aCons (t : DT) (u : DA) : DA := fun ρ n P => t ρ n fun d n1 => u ρ n1 fun ss n2 => P (.d d :: ss) n2
/-- the machine as an argument -/
def aM (i : Nat) (u : DA) : DA := fun ρ n P => ρ[i]? = some (some .m) ∧ u ρ n fun ss n2 => P (.m :: ss) n2
/-- a raw value as an argument -/
def aR (v : V) (u : DA) : DA := fun ρ n P => u ρ n fun ss n2 => P (.r v :: ss) n2
variable {u : DA}
theorem a_nil : A X g [] aNil := ⟨_, pa_nil, fun σ F H ρ n P Q sr p k => k [] n [] F H p (Grow.refl sr.ex) sr trivial⟩
theorem a_cons (h : E X g e t) (h2 : A X g es u) (hst : starEach (e :: es) X.env = (false, eval e X.env) :: starEach es X.env := by rfl) : A X g (e :: es) (aCons t u) := by
  obtain ⟨te, p1, s1⟩ := h
  obtain ⟨te', p2, s2⟩ := h2
  refine ⟨_, pa_cons p1 p2 hst, fun σ F H ρ n P Q sr p k => s1 σ F H ρ n _ _ sr p fun d n1 v F1 H1 p1 e1 sr1 dv => ?_⟩
  exact s2 σ F1 H1 ρ n1 _ _ sr1 p1 fun ss n2 vs F2 H2 p2 e2 sr2 dvs => k _ n2 (v :: vs) F2 H2 p2 (e1.trans e2) sr2 ⟨dp_ex e2.f _ _ dv, rfl, dvs⟩
theorem a_m (i : Nat) {x : Str} (h2 : A X g es u) (hN : X.N[i]? = some x := by rfl) (hv : Vis X.env.scope x := by first | exact Or.inl rfl | exact Or.inr (Or.inl rfl) | exact Or.inr (Or.inr rfl)) (hd : (x == ("__debug__" : Str)) = false := by decide)
    (hcd : (x == ("__classdict__" : Str)) = false := by decide) (hst : starEach (.Name x pos :: es) X.env = (false, eval (.Name x pos) X.env) :: starEach es X.env := by rfl) : A X g (.Name x pos :: es) (aM i u) := by
  obtain ⟨te', p2, s2⟩ := h2
  refine ⟨_, pa_cons (pe_var hN hv hd hcd) p2 hst, fun σ F H ρ n P Q sr ⟨hm, p⟩ k => ?_⟩
  obtain ⟨v, hv, ok⟩ := sr.sl i _ hm
  refine ⟨v, hv, ?_⟩
  exact s2 σ F H ρ n _ _ sr p fun ss n2 vs F2 H2 p2 e2 sr2 dvs => k _ n2 (v :: vs) F2 H2 p2 e2 sr2 ⟨ok, rfl, dvs⟩
def unD : List S → Option (List D)
  | [] => some []
  | .d d :: r => (unD r).map (d :: ·)
  | _ => none
theorem unD_eq : ∀ {ss : List S} {ds : List D}, unD ss = some ds → ss = ds.map .d
  | [], ds, h => by cases h; rfl
  | .d d :: r, ds, h => by
    unfold unD at h
    cases q : unD r with
    | none => rw [q] at h; cases h
    | some cs =>
      rw [q] at h
      cases h
      rw [unD_eq q]
      rfl
  | .o _ :: _, _, h => by simp [unD] at h
  | .m :: _, _, h => by simp [unD] at h
  | .r _ :: _, _, h => by simp [unD] at h
  | .s _ :: _, _, h => by simp [unD] at h
def dTup (u : DA) : DT := fun ρ n P => u ρ n fun ss n1 => ∃ ds : List D, unD ss = some ds ∧ ds.length ≤ 100000 ∧ P (.tuple ds) n1
def dLst (u : DA) : DL_ := fun ρ n P => u ρ n fun ss n1 => ∃ ds : List D, unD ss = some ds ∧ ds.length ≤ 100000 ∧ P ds n1
theorem e_tup {x1} (h : A X g es u) : E X g (.Tuple es x1 pos) (dTup u) := by
  obtain ⟨te, p1, s1⟩ := h
  refine ⟨_, pe_tup p1, fun σ F H ρ n P Q sr p k => s1 σ F H ρ n _ _ sr p fun ss n1 vs F1 H1 ⟨ds, e, hl, p1⟩ e1 sr1 da => ?_⟩
  have e := unD_eq e
  subst e
  have da := args_data da
  refine ⟨by rw [dpa_len da]; exact Evl.sz_of hl, fun q hq => ?_⟩
  have gr := Grow.new (m := none) (o := .tup vs) sr1.ex hq
  exact k _ n1 _ _ _ p1 (e1.trans gr.any) (sr1.grow gr) (.tup (SqT.of upd_same) (dpa_ex gr.f _ _ da))
theorem l_lst (h : A X g es u) : Ls X g (.List es pos) (dLst u) := by
  obtain ⟨te, p1, s1⟩ := h
  refine ⟨_, pe_lst p1, fun σ F H ρ n P Q sr p k => s1 σ F H ρ n _ _ sr p fun ss n1 vs F1 H1 ⟨ds, e, hl, p1⟩ e1 sr1 da => ?_⟩
  have e := unD_eq e
  subst e
  have da := args_data da
  refine ⟨by rw [dpa_len da]; exact Evl.sz_of hl, fun q hq => ?_⟩
  have gr := Grow.raw (m := none) (o := .lst vs) sr1.ex hq
  exact k _ n1 _ _ _ _ p1 (e1.trans gr.any) (sr1.grow gr) (Free.of sr1 hq) (e1.dm _ hq) upd_same da
/-- a new list, frozen -/
theorem SR.freeze {K : Fg} {F H : Hp} {σ : L2.St} {ρ : Sl} {n : Nat} {p : Addr} {xs : List V} (sr : SR K g F H σ ρ n) (fr : Free g F σ ρ p) (hp : H p = some (.lst xs)) : SR K g (upd F p (.lst xs)) H σ ρ n := by
  have ef : Ex F (upd F p (.lst xs)) := Evl.Ex.new fr.f
  refine ⟨⟨sr.gr.f.trans ef, fun c o h => ?_, sr.gr.h, sr.gr.dm, fun c o h => ?_⟩, fun c e => ?_, fun i s e => ?_, sr.inj, sr.len⟩
  · by_cases q : c = p
    · subst q; rw [upd_same] at h; rw [hp]; exact h
    · rw [upd_ne q] at h; exact sr.ex c o h
  · by_cases q : c = p
    · subst q; exact .inr fr.b
    · rw [upd_ne q] at h; exact sr.gr.fr c o h
  · obtain ⟨f1, q, ns, s, u, h1, h2, h3⟩ := sr.mc c e
    refine ⟨?_, q, ns, s, u, h1, dp_ex ef _ _ h2, h3⟩
    rw [upd_ne (ne_of h1 hp (by intro z; cases z))]; exact f1
  · obtain ⟨v, hv, ok⟩ := sr.sl i s e
    refine ⟨v, hv, ?_⟩
    cases s with
    | d d => exact dp_ex ef _ _ ok
    | m => exact ok
    | r u => exact ok
    | s k => exact ok
    | o ds =>
      obtain ⟨l, ys, rfl, b1, f1, hl, da⟩ := ok
      refine ⟨l, ys, rfl, b1, ?_, hl, dpa_ex ef _ _ da⟩
      rw [upd_ne (fun z => fr.no i ds e (by rw [← z]; exact hv))]; exact f1
def dFrz (u : DL_) : DT := fun ρ n P => u ρ n fun ds n1 => P (.list ds) n1
theorem e_l {u : DL_} (h : Ls X g e u) : E X g e (dFrz u) := by
  obtain ⟨te, p1, s1⟩ := h
  refine ⟨_, p1, fun σ F H ρ n P Q sr p k => s1 σ F H ρ n _ _ sr p fun ds n1 q xs F1 H1 p1 e1 sr1 fr hn hq da => ?_⟩
  have ef : Ex F1 (upd F1 q (.lst xs)) := Evl.Ex.new fr.f
  exact k _ n1 _ _ H1 p1 ⟨e1.f.trans ef, (sr1.freeze fr hq).ex, e1.h, e1.dm, fun c o h => by
    by_cases z : c = q
    · subst z; exact .inr hn
    · rw [upd_ne z] at h; exact e1.fr c o h⟩ (sr1.freeze fr hq) (.lst upd_same (dpa_ex ef _ _ da))

/-! ### built-ins by data -/
def dCall (f : List D → Option D) (u : DA) : DT := fun ρ n P => u ρ n fun ss n1 => ∃ ds d, unD ss = some ds ∧ f ds = some d ∧ P d n1
theorem se_cb {K : Fg} {ta : TA} {r : List V → Hp → VK → Prop} {f : List D → Option D} (h : CallD K r f) (ha : SA K g ta u) : SE K g (tCB r ta) (dCall f u) :=
  fun σ F H ρ n P Q sr p k => ha σ F H ρ n _ _ sr p fun ss n1 vs F1 H1 ⟨ds, d, e, ef, p1⟩ e1 sr1 da => by
    have e := unD_eq e
    subst e
    exact h F1 H1 vs ds d Q sr1.ex (args_data da) ef fun v F3 H3 gr dv => k d n1 v F3 H3 p1 (e1.trans gr.any) (sr1.grow gr) dv
theorem e_callB {x : Str} {id : String} {p : Pos} {r : List V → Hp → VK → Prop} {f : List D → Option D} (hc : CallR X (.builtin id) r) (h : CallD X.K r f) (hg : Gl X x) (hm : X.mg x = none) (hv : bootBuiltins x = some (.builtin id)) (ha : A X g (e :: es) u)
    (hn : x ≠ "__name__" := by decide) (hd : (x == ("__debug__" : Str)) = false := by decide) (hst : starEach (e :: es) X.env = (false, eval e X.env) :: starEach es X.env := by rfl) (hpl : (backTo pos (starEach es X.env)).any (·.1) = false := by rfl) :
    E X g (.Call (.Name x p) (e :: es) [] pos) (dCall f u) := by
  obtain ⟨te, p1, s1⟩ := ha
  exact ⟨_, pe_callB hc hg hm hv p1 hn hd hst hpl, se_cb h s1⟩
theorem e_callTy {x : Str} {T : String} {p : Pos} {r : List V → Hp → VK → Prop} {f : List D → Option D} (hc : CallR X (.type T) r) (h : CallD X.K r f) (hg : Gl X x) (hm : X.mg x = none) (hv : bootBuiltins x = some (.type T)) (ha : A X g (e :: es) u)
    (hn : x ≠ "__name__" := by decide) (hd : (x == ("__debug__" : Str)) = false := by decide) (hst : starEach (e :: es) X.env = (false, eval e X.env) :: starEach es X.env := by rfl) (hpl : (backTo pos (starEach es X.env)).any (·.1) = false := by rfl) :
    E X g (.Call (.Name x p) (e :: es) [] pos) (dCall f u) := by
  obtain ⟨te, p1, s1⟩ := ha
  exact ⟨_, pe_callTy hc hg hm hv p1 hn hd hst hpl, se_cb h s1⟩
/-- .. that make a new list -/
def CallL (K : Fg) (r : List V → Hp → VK → Prop) (f : List D → Option (List D)) : Prop := ∀ F H vs ds d (Q : VK), Ex F H → DpAll K F vs ds → f ds = some d →
  (∀ p xs, H p = none → DpAll K F xs d → Q (.ref p) (upd H p (.lst xs))) → r vs H Q
def dCallL (f : List D → Option (List D)) (u : DA) : DL_ := fun ρ n P => u ρ n fun ss n1 => ∃ ds d, unD ss = some ds ∧ f ds = some d ∧ P d n1
theorem sl_cb {K : Fg} {ta : TA} {r : List V → Hp → VK → Prop} {f : List D → Option (List D)} (h : CallL K r f) (ha : SA K g ta u) : SL K g (tCB r ta) (dCallL f u) :=
  fun σ F H ρ n P Q sr p k => ha σ F H ρ n _ _ sr p fun ss n1 vs F1 H1 ⟨ds, d, e, ef, p1⟩ e1 sr1 da => by
    have e := unD_eq e
    subst e
    exact h F1 H1 vs ds d Q sr1.ex (args_data da) ef fun q xs hq dx => k d n1 q xs F1 _ p1 (e1.trans (Grow.raw sr1.ex hq)) (sr1.grow (Grow.raw (m := none) sr1.ex hq)) (Free.of sr1 hq) (e1.dm q hq) upd_same dx
theorem l_callB {x : Str} {id : String} {p : Pos} {r : List V → Hp → VK → Prop} {f : List D → Option (List D)} (hc : CallR X (.builtin id) r) (h : CallL X.K r f) (hg : Gl X x) (hm : X.mg x = none) (hv : bootBuiltins x = some (.builtin id)) (ha : A X g (e :: es) u)
    (hn : x ≠ "__name__" := by decide) (hd : (x == ("__debug__" : Str)) = false := by decide) (hst : starEach (e :: es) X.env = (false, eval e X.env) :: starEach es X.env := by rfl) (hpl : (backTo pos (starEach es X.env)).any (·.1) = false := by rfl) :
    Ls X g (.Call (.Name x p) (e :: es) [] pos) (dCallL f u) := by
  obtain ⟨te, p1, s1⟩ := ha
  exact ⟨_, pe_callB hc hg hm hv p1 hn hd hst hpl, sl_cb h s1⟩
theorem l_callTy {x : Str} {T : String} {p : Pos} {r : List V → Hp → VK → Prop} {f : List D → Option (List D)} (hc : CallR X (.type T) r) (h : CallL X.K r f) (hg : Gl X x) (hm : X.mg x = none) (hv : bootBuiltins x = some (.type T)) (ha : A X g (e :: es) u)
    (hn : x ≠ "__name__" := by decide) (hd : (x == ("__debug__" : Str)) = false := by decide) (hst : starEach (e :: es) X.env = (false, eval e X.env) :: starEach es X.env := by rfl) (hpl : (backTo pos (starEach es X.env)).any (·.1) = false := by rfl) :
    Ls X g (.Call (.Name x p) (e :: es) [] pos) (dCallL f u) := by
  obtain ⟨te, p1, s1⟩ := ha
  exact ⟨_, pe_callTy hc hg hm hv p1 hn hd hst hpl, sl_cb h s1⟩

/-! ### subscripts, slices -/
theorem e_ix {r : R2} {f : D → D → Option D} (hr : IxR X r) (h : OpD X.K r f) (ha : E X g a ta) (hb : E X g b tb) (hs : PlainIx b := by exact fun _ _ => rfl) : E X g (.Subscript a b pos) (dBin f ta tb) := by
  obtain ⟨te, p1, s1⟩ := ha
  obtain ⟨te', p2, s2⟩ := hb
  exact ⟨_, pe_ix hr p1 p2 hs, se_op h s1 s2⟩
end


/-! ### a def's promise by data -/
structure Ct where
  α : Type
  pre : α → List S → Nat → Prop
  post : α → Nat → D → Nat → Prop
  exc : α → Nat → Value → D → Nat → Prop := fun _ _ _ _ _ => False
def Ct.wp (c : Ct) (ss : List S) (n : Nat) (P : D → Nat → Prop) (xp : XD) : Prop := ∃ x : c.α, c.pre x ss n ∧ (∀ d n', c.post x n d n' → P d n') ∧ (∀ cls d n', c.exc x n cls d n' → xp cls d n')
theorem Ct.wp.mono {c : Ct} {ss : List S} {n : Nat} {P P' : D → Nat → Prop} {xp xp' : XD} (h : c.wp ss n P xp) (hp : ∀ d n', P d n' → P' d n') (hx : ∀ cls d n', xp cls d n' → xp' cls d n') : c.wp ss n P' xp' := by
  obtain ⟨x, a, b, c⟩ := h
  exact ⟨x, a, fun d n' q => hp _ _ (b d n' q), fun k d n' q => hx _ _ _ (c k d n' q)⟩
/-- a plain function of data -/
def Ct.pure (α : Type) (args : α → List S) (ok : α → Prop) (res : α → D) : Ct := ⟨α, fun x ss _ => ss = args x ∧ ok x, fun x n d n' => d = res x ∧ n' = n, fun _ _ _ _ _ => False⟩
def XOk (K : Fg) (m : Option Addr) (F H : Hp) (xp : XD) : XK := fun cls od H' => ∃ dx f v d n F', od = some dx ∧ H' dx = some (.xd [(f, v)]) ∧ Grow m F H F' H' ∧ MachOk K F' H' m n ∧ Dp K F' v d ∧ xp cls d n
def spD (K : Fg) (c : Ct) : Sp := fun vs H Q E => ∃ (g : G) (F : Hp) (n : Nat) (ss : List S), g.B = H ∧ g.F0 = F ∧ Ex F H ∧ MachOk K F H g.m n ∧ ArgsOk K g F vs ss ∧
  c.wp ss n (fun d n' => ∀ v F' H', Grow g.m F H F' H' → MachOk K F' H' g.m n' → Dp K F' v d → Q v H') g.xp ∧ (∀ cls od H', XOk K g.m F H g.xp cls od H' → E cls od H')
def dFn (c : Ct) (xp : XD) (u : DA) : DT := fun ρ n P => u ρ n fun ss n1 => c.wp ss n1 P xp
def noX : XD := fun _ _ _ => False
theorem args_g {K : Fg} {g g' : G} {F : Hp} (hm : g.m = g'.m) : ∀ {vs : List V} {ss : List S}, ArgsOk K g F vs ss → ArgsOk K g' F vs ss
  | [], [], _ => trivial
  | v :: _, s :: _, ⟨h, no, r⟩ => by
    refine ⟨?_, no, args_g hm r⟩
    cases s with
    | d d => exact h
    | m => obtain ⟨a, e, e'⟩ := h; exact ⟨a, hm ▸ e, e'⟩
    | r u => exact h
    | o ds => cases no
    | s k => cases no
section
variable {X : Cx} {g : G} {a b c e : Expr} {es : List Expr} {ta tb tc t : DT} {pos : Pos} {u : DA}
theorem se_fn {K : Fg} {ct : Ct} {ta : TA} (ha : SA K g ta u) : SE K g (tCall (spD K ct) [] E0 ta) (dFn ct noX u) :=
  fun σ F H ρ n P Q sr p k => ha σ F H ρ n _ _ sr p fun ss n1 vs F1 H1 p1 e1 sr1 da => by
    rw [List.append_nil]
    refine ⟨⟨H1, F1, g.m, noX⟩, F1, n1, ss, rfl, rfl, sr1.ex, sr1.mc, args_g (g := g) (g' := ⟨H1, F1, g.m, noX⟩) rfl da, p1.mono (fun d n' q v F' H' gr mc dv => ?_) fun _ _ _ z => z, fun cls od H' q => ?_⟩
    · exact k d n' v F' H' q (e1.trans gr) (sr1.growM gr mc) dv
    · obtain ⟨_, _, _, _, _, _, _, _, _, _, _, z⟩ := q
      exact z
theorem e_fn {ct : Ct} {k : Nat} {f : Addr} {fd : FuncData} {ps : List Str} {x : Str} {p : Pos} (Fo : FnOk X.prog X.w X.K X.mg X.base CX0 k f fd ps (spD X.K ct)) (hr : Room k X.A) (hg : Gl X x) (hm : X.mg x = some (.ref f)) (hk : PySem.W.keepIn X.K (.ref f) = true) (hb : Binds X.K fd ps [])
    (ha : A X g (e :: es) u) (hdb : (x == ("__debug__" : Str)) = false := by decide) (he : starEach (e :: es) X.env = (false, eval e X.env) :: starEach es X.env := by rfl) (hpl : (backTo pos (starEach es X.env)).any (·.1) = false := by rfl) :
    E X g (.Call (.Name x p) (e :: es) [] pos) (dFn ct noX u) := by
  obtain ⟨te, p1, s1⟩ := ha
  exact ⟨_, pe_call Fo hr hg hm hk hb .nil pass0 p1 hdb he hpl, se_fn s1⟩

/-! ### statements -/
def dSeq (t u : DS) : DS := fun P ρ n => t { P with nx := u P } ρ n
def dNext : DS := fun P ρ n => P.nx ρ n
variable {st : Stmt} {sts : List Stmt} {s1 s2 : DS}
theorem ss_seq {K : Fg} {t1 t2 : TS} (h1 : SS K g t1 s1) (h2 : SS K g t2 s2) : SS K g (tSeq t1 t2) (dSeq s1 s2) :=
  fun σ F H ρ n P E sr p k1 k2 k3 k4 => h1 σ F H ρ n _ _ sr p (fun ρ' n' σ' F' H' p' x sr' => h2 σ' F' H' ρ' n' P E sr' p' (fun _ _ _ _ _ q y => k1 _ _ _ _ _ q (x.trans y)) k2 (fun _ _ _ _ _ q y => k3 _ _ _ _ _ q (x.trans y)) (fun _ _ _ _ _ q y => k4 _ _ _ _ _ q (x.trans y))) k2 k3 k4
theorem s_cons (h1 : St X g st s1) (h2 : Sts X g sts s2) : Sts X g (st :: sts) (dSeq s1 s2) := by
  obtain ⟨te, p1, q1⟩ := h1
  obtain ⟨te', p2, q2⟩ := h2
  exact ⟨_, pss_cons p1 p2, ss_seq q1 q2⟩
theorem s_one (h1 : St X g st s1) : Sts X g [st] s1 := by
  obtain ⟨te, p1, q1⟩ := h1
  exact ⟨_, pss_one p1, q1⟩
theorem s_nil : Sts X g [] dNext := ⟨_, pss_nil, fun σ F H ρ n P E sr p k1 k2 k3 k4 => k1 ρ n σ F H p (Evl.Ex.refl F) sr⟩
def dNever : DS := fun _ _ _ => False
theorem st_never : St X g st dNever := ⟨_, ps_never, fun σ F H ρ n P E sr p _ _ _ _ => p.elim⟩
def dRet (t : DT) : DS := fun P ρ n => t ρ n P.rt
theorem st_ret (h : E X g e t) : St X g (.Return (some e) pos) (dRet t) := by
  obtain ⟨te, p1, q1⟩ := h
  exact ⟨_, ps_ret p1, fun σ F H ρ n P E sr p k1 k2 k3 k4 => q1 σ F H ρ n _ _ sr p fun d n' v F' H' p' _ sr' dv => k2 d n' σ ρ v F' H' p' sr' dv⟩
def dIfS (c : DB) (t u : DS) : DS := fun P ρ n => c ρ n fun b n1 => if b = true then t P ρ n1 else u P ρ n1
theorem st_if {cb : DB} {a b : List Stmt} (hc : B X g c cb) (h1 : Sts X g a s1) (h2 : Sts X g b s2) : St X g (.If c a b pos) (dIfS cb s1 s2) := by
  obtain ⟨te, p1, q1⟩ := hc
  obtain ⟨te1, p2, q2⟩ := h1
  obtain ⟨te2, p3, q3⟩ := h2
  refine ⟨_, ps_if p1 p2 p3, fun σ F H ρ n P E sr p k1 k2 k3 k4 => q1 σ F H ρ n _ _ sr p fun b n' F' H' p' xx sr' => ?_⟩
  have x := xx.f
  cases b with
  | true =>
    rw [if_pos rfl] at p' ⊢
    exact q2 σ F' H' ρ n' P E sr' p' (fun _ _ _ _ _ q y => k1 _ _ _ _ _ q (x.trans y)) k2 (fun _ _ _ _ _ q y => k3 _ _ _ _ _ q (x.trans y)) (fun _ _ _ _ _ q y => k4 _ _ _ _ _ q (x.trans y))
  | false =>
    rw [if_neg Bool.false_ne_true] at p' ⊢
    exact q3 σ F' H' ρ n' P E sr' p' (fun _ _ _ _ _ q y => k1 _ _ _ _ _ q (x.trans y)) k2 (fun _ _ _ _ _ q y => k3 _ _ _ _ _ q (x.trans y)) (fun _ _ _ _ _ q y => k4 _ _ _ _ _ q (x.trans y))
def dDrop (t : DT) : DS := fun P ρ n => t ρ n fun _ n' => P.nx ρ n'
theorem st_expr (h : E X g e t) (hs : swapsWith e none pos.line X.env = pure false := by rfl) : St X g (.Expr e pos) (dDrop t) := by
  obtain ⟨te, p1, q1⟩ := h
  exact ⟨_, ps_expr p1 hs, fun σ F H ρ n P E sr p k1 k2 k3 k4 => q1 σ F H ρ n _ _ sr p fun d n' v F' H' p' x sr' dv => k1 ρ n' σ F' H' p' x.f sr'⟩
theorem st_pass : St X g (.Pass pos) dNext := ⟨_, ps_pass, fun σ F H ρ n P E sr p k1 k2 k3 k4 => k1 ρ n σ F H p (Evl.Ex.refl F) sr⟩
def dBrk : DS := fun P ρ n => P.bk ρ n
def dCnt : DS := fun P ρ n => P.ct ρ n
theorem st_brk : St X g (.Break pos) dBrk := ⟨_, ps_break, fun σ F H ρ n P E sr p k1 k2 k3 k4 => k3 ρ n σ F H p (Evl.Ex.refl F) sr⟩
theorem st_cnt : St X g (.Continue pos) dCnt := ⟨_, ps_continue, fun σ F H ρ n P E sr p k1 k2 k3 k4 => k4 ρ n σ F H p (Evl.Ex.refl F) sr⟩

/-! ### targets, assignment -/
def gtName (i : Nat) : DGt := fun d ρ n P => P (ρ.set i (some (.d d))) n
theorem g_name (i : Nat) {x : Str} (hN : X.N.Nodup) (hi : X.N[i]? = some x := by rfl) (hx : Loc X.env.scope x := by first | exact Or.inl rfl | exact Or.inr rfl) (hf : X.fn x = true ∨ X.env.scope.names.lookup x = some .local := by first | exact .inl rfl | exact .inr rfl) : Gt X g (.Name x pos) [i] (gtName i) :=
  ⟨_, pg_name hN hi hx hf, fun v σ F H d ρ n P Q sr dv p k => k _ _ p (sr.setD dv) But.set⟩
abbrev DGts := List D → Sl → Nat → (Sl → Nat → Prop) → Prop
def SGs (K : Fg) (g : G) (is : List Nat) (tg : TGs) (t : DGts) : Prop := ∀ vs σ F H ds ρ n (P : Sl → Nat → Prop) (Q : L2.St → Hp → Prop), SR K g F H σ ρ n → DpAll K F vs ds → t ds ρ n P →
  (∀ ρ' σ', P ρ' n → SR K g F H σ' ρ' n → But is σ σ' ρ ρ' → Q σ' H) → tg vs σ H Q
structure Gts (X : Cx) (g : G) (es : List Expr) (is : List Nat) (t : DGts) : Prop where
  ok : ∃ te, PGs X es te ∧ SGs X.K g is te t
def gtNil : DGts := fun ds ρ n P => ds = [] ∧ P ρ n
def gtCons (t : DGt) (u : DGts) : DGts := fun ds ρ n P => ∃ d r, ds = d :: r ∧ t d ρ n fun ρ' n' => u r ρ' n' P
variable {gt : DGt} {gts : DGts} {is js : List Nat}
theorem gs_nil : Gts X g [] [] gtNil := ⟨_, pgs_nil, fun vs σ F H ds ρ n P Q sr dv ⟨e, p⟩ k => by subst e; cases dv; exact ⟨rfl, k _ _ p sr But.refl⟩⟩
theorem gs_name {x : Str} (i : Nat) (h2 : Gts X g es is gts) (hN : X.N.Nodup) (hi : X.N[i]? = some x := by rfl) (hx : Loc X.env.scope x := by first | exact Or.inl rfl | exact Or.inr rfl) (hf : X.fn x = true ∨ X.env.scope.names.lookup x = some .local := by first | exact .inl rfl | exact .inr rfl) :
    Gts X g (.Name x pos :: es) (i :: is) (gtCons (gtName i) gts) := by
  obtain ⟨te, p2, q2⟩ := h2
  refine ⟨_, pgs_cons (pg_name hN hi hx hf) p2, fun vs σ F H ds ρ n P Q sr dv p k => ?_⟩
  obtain ⟨d, r, e, p⟩ := p
  subst e
  cases dv with
  | cons h1 h2 => exact ⟨_, _, rfl, q2 _ _ F H r _ n P Q (sr.setD h1) h2 p fun ρ' σ' p' sr' b => k ρ' σ' p' sr' (But.set.trans b)⟩
def gtTup (m : Nat) (u : DGts) : DGt := fun d ρ n P => ∃ ds, d = .tuple ds ∧ ds.length = m ∧ u ds ρ n P
theorem gs_cons (h1 : Gt X g e is gt) (h2 : Gts X g es js gts) (hs : (assignEach (e :: es) X.env).map (·.2) = assign e X.env :: (assignEach es X.env).map (·.2) := by rfl) : Gts X g (e :: es) (is ++ js) (gtCons gt gts) := by
  obtain ⟨te, p1, q1⟩ := h1
  obtain ⟨te, p2, q2⟩ := h2
  refine ⟨_, pgs_cons p1 p2 hs, fun vs σ F H ds ρ n P Q sr dv p k => ?_⟩
  obtain ⟨d, r, e, p⟩ := p
  subst e
  cases dv with
  | cons h1 h2 => exact ⟨_, _, rfl, q1 _ _ F H d _ n _ _ sr h1 p fun ρ' σ' p' sr' b => q2 _ _ F H r _ n P Q sr' h2 p' fun ρ2 σ2 p2 sr2 b2 => k ρ2 σ2 p2 sr2 (b.trans b2)⟩
theorem g_tup {kk m : Nat} (hc : X.calm = true) (h : Gts X g es is gts) (hl : (assignEach es X.env).length = m := by rfl) (hf : (assignEach es X.env).findIdx? (·.1) = none := by rfl) : Gt X g (.Tuple es kk pos) is (gtTup m gts) := by
  obtain ⟨te, p2, q2⟩ := h
  refine ⟨_, pg_tup hc p2 hl hf, fun v σ F H d ρ n P Q sr dv p k => ?_⟩
  obtain ⟨ds, e, hl, p⟩ := p
  subst e
  cases dv with
  | tup h1 h2 => exact ⟨_, _, rfl, Evl.ex_t sr.ex h1, by rw [dpa_len h2, hl], q2 _ _ F H ds _ n P Q sr h2 p k⟩
def dAsg (t : DT) (u : DGt) : DS := fun P ρ n => t ρ n fun d n' => u d ρ n' P.nx
theorem ss_asg {K : Fg} {te : TE} {tg : TG} (h : SE K g te t) (h2 : SG K g is tg gt) : SS K g (tAsg te tg) (dAsg t gt) :=
  fun σ F H ρ n P E sr p k1 k2 k3 k4 => h σ F H ρ n _ _ sr p fun d n' v F' H' p' x sr' dv => h2 v σ F' H' d ρ n' _ _ sr' dv p' fun ρ' σ' p'' sr'' _ => k1 ρ' n' σ' F' H' p'' x.f sr''
theorem st_asg (h : E X g e t) (h2 : Gt X g a is gt) (h1 : swapsWithSole [a] e pos.line X.env = pure false := by rfl) (h3 : swappedStores [a] e X.env = pure none := by rfl) (h4 : (assignEach [a] X.env).map (·.2) = [assign a X.env] := by rfl) : St X g (.Assign [a] e pos) (dAsg t gt) := by
  obtain ⟨te, p1, q1⟩ := h
  obtain ⟨te2, p2, q2⟩ := h2
  exact ⟨_, ps_asg p1 p2 h1 h3 h4, ss_asg q1 q2⟩
/-- a new list of the def's own, to be changed in place -/
def dOwn (i : Nat) (u : DL_) : DS := fun P ρ n => u ρ n fun ds n' => P.nx (ρ.set i (some (.o ds))) n'
theorem SR.setO {K : Fg} {F H : Hp} {σ : L2.St} {ρ : Sl} {n i : Nat} {p : Addr} {xs : List V} {ds : List D} (sr : SR K g F H σ ρ n) (fr : Free g F σ ρ p) (hp : H p = some (.lst xs)) (da : DpAll K F xs ds) : SR K g F H (σ.set i (some (.ref p))) (ρ.set i (some (.o ds))) n :=
  sr.set (s := .o ds) ⟨p, xs, rfl, fr.b, fr.f, hp, da⟩ fun ds' l e1 e2 j es _ e3 => by cases e2; exact fr.no j es e3
theorem ss_own {K : Fg} {te : TE} {i : Nat} {u : DL_} (h : SL K g te u) : SS K g (tAsg te (gName i)) (dOwn i u) :=
  fun σ F H ρ n P E sr p k1 k2 k3 k4 => h σ F H ρ n _ _ sr p fun ds n' q xs F' H' p' x sr' fr _ hq da => k1 _ n' _ F' H' p' x.f (sr'.setO fr hq da)
theorem st_own (i : Nat) {x : Str} {px : Pos} {u : DL_} (h : Ls X g e u) (hN : X.N.Nodup) (hi : X.N[i]? = some x := by rfl) (hx : Loc X.env.scope x := by first | exact Or.inl rfl | exact Or.inr rfl) (hf : X.fn x = true ∨ X.env.scope.names.lookup x = some .local := by first | exact .inl rfl | exact .inr rfl)
    (h1 : swapsWithSole [.Name x px] e pos.line X.env = pure false := by rfl) (h3 : swappedStores [.Name x px] e X.env = pure none := by rfl) (h4 : (assignEach [.Name x px] X.env).map (·.2) = [assign (.Name x px) X.env] := by rfl) : St X g (.Assign [.Name x px] e pos) (dOwn i u) := by
  obtain ⟨te, p1, q1⟩ := h
  exact ⟨_, ps_asg p1 (pg_name hN hi hx hf) h1 h3 h4, ss_own q1⟩
end
end DL

namespace DL
open PySem L2
/-! ### what is walked -/
structure Walks (K : Fg) (J : It) (Fw : Hp) (items : List D) : Prop where
  go : ∀ i F H, Ex Fw F → Ex F H → i < items.length → J.go i H
  yld : ∀ i F H x H', Ex Fw F → Ex F H → i < items.length → J.yld i H x H' → ∃ d F', items[i]? = some d ∧ Grow none F H F' H' ∧ Dp K F' x d
  stop : ∀ F H, Ex Fw F → Ex F H → J.stop items.length H
abbrev DI := Sl → Nat → (List D → Nat → Prop) → Prop
def SI (K : Fg) (g : G) (wi : TI) (t : DI) : Prop := ∀ σ F H ρ n (P : List D → Nat → Prop) (R : It → Hp → Prop), SR K g F H σ ρ n → t ρ n P →
  (∀ items n' J F' H', P items n' → Grow g.m F H F' H' → SR K g F' H' σ ρ n' → Walks K J F' items → R J H') → wi σ H R
structure I (X : Cx) (g : G) (tg iter : Expr) (t : DI) : Prop where
  ok : ∃ wi, PI X tg iter wi ∧ SI X.K g wi t
def dLoop (gt : DGt) (tb : DS) : List D → DEnds → Sl → Nat → Prop
  | [], P, ρ, n => P.nx ρ n
  | d :: r, P, ρ, n => gt d ρ n fun ρ1 n1 => tb { nx := dLoop gt tb r P, rt := P.rt, bk := P.nx, ct := dLoop gt tb r P } ρ1 n1
def dFor (ti : DI) (gt : DGt) (tb : DS) : DS := fun P ρ n => ti ρ n fun items n' => dLoop gt tb items P ρ n'
section
variable {X : Cx} {g : G} {tg iter e : Expr} {body : List Stmt} {ti : DI} {gt : DGt} {tb : DS} {pos : Pos} {t : DT} {is : List Nat}
theorem drop_at {items : List D} {i : Nat} {d : D} (h : items[i]? = some d) : items.drop i = d :: items.drop (i + 1) := by
  obtain ⟨hl, rfl⟩ := List.getElem?_eq_some_iff.mp h
  exact List.drop_eq_getElem_cons hl
theorem ss_for {K : Fg} {wi : TI} {tgt : TG} {tbt : TS} (h1 : SI K g wi ti) (h2 : SG K g is tgt gt) (h3 : SS K g tbt tb) : SS K g (tFor wi tgt tbt) (dFor ti gt tb) := by
  intro σ F H ρ n P E sr p k1 k2 k3 k4
  refine h1 σ F H ρ n _ _ sr p fun items n' J Fw Hw p' x0 sr' wk => ?_
  refine ⟨fun i m σ H => i + m = items.length ∧ ∃ F ρ n, Ex Fw F ∧ SR K g F H σ ρ n ∧ dLoop gt tb (items.drop i) P ρ n, ⟨items.length, by omega, Fw, ρ, n', Evl.Ex.refl _, sr', by simpa using p'⟩, fun i m σ H ⟨em, F, ρ, n, ew, sr, p⟩ => ?_⟩
  by_cases hi : i < items.length
  · refine .inr ⟨wk.go i F H ew sr.ex hi, fun σ' H' => ∃ F ρ n, Ex Fw F ∧ SR K g F H' σ' ρ n ∧ dLoop gt tb (items.drop (i + 1)) P ρ n, fun σ' H' hN => ⟨m - 1, by omega, by omega, hN⟩, fun x H' hy => ?_⟩
    obtain ⟨d, F', hd, gr, dx⟩ := wk.yld i F H x H' ew sr.ex hi hy
    rw [drop_at hd] at p
    refine h2 x σ F' H' d ρ n _ _ (sr.grow gr) dx p fun ρ1 σ1 p1 sr1 _ => ?_
    refine h3 σ1 F' H' ρ1 n _ _ sr1 p1 (fun ρ2 n2 σ2 F2 H2 p2 x2 sr2 => ⟨F2, ρ2, n2, (ew.trans gr.f).trans x2, sr2, p2⟩) k2 (fun ρ2 n2 σ2 F2 H2 p2 x2 sr2 => ?_) (fun ρ2 n2 σ2 F2 H2 p2 x2 sr2 => ⟨F2, ρ2, n2, (ew.trans gr.f).trans x2, sr2, p2⟩)
    exact k1 ρ2 n2 σ2 F2 H2 p2 ((x0.f.trans (ew.trans gr.f)).trans x2) sr2
  · have ei : i = items.length := by omega
    subst ei
    refine .inl ⟨wk.stop F H ew sr.ex, ?_⟩
    rw [List.drop_length] at p
    exact k1 ρ n σ F H p (x0.f.trans ew) sr

theorem st_for (hc : X.calm = true) (h1 : I X g tg iter ti) (h2 : Gt X g tg is gt) (h3 : Sts X g body tb) (hf : ∀ x, foldedSetIterable iter X.env x = pure x := by intro _; rfl) (hp : PassesOwn (model X.prog X.w) X.A X.env X.xe := by exact PassesOwn.never) : St X g (.For tg iter body [] pos) (dFor ti gt tb) := by
  obtain ⟨w, p1, q1⟩ := h1
  obtain ⟨t2, p2, q2⟩ := h2
  obtain ⟨t3, p3, q3⟩ := h3
  exact ⟨_, ps_for hp hc p1 p2 p3 hf, ss_for q1 q2 q3⟩
/-! ### iterables -/
def iSeq (t : DT) : DI := fun ρ n P => t ρ n fun d n' => ∃ ds, (d = .list ds ∨ d = .tuple ds) ∧ P ds n'
def iLs (t : DT) : DI := fun ρ n P => t ρ n fun d n' => ∃ ds, d = .list ds ∧ P ds n'
def iTp (t : DT) : DI := fun ρ n P => t ρ n fun d n' => ∃ ds, d = .tuple ds ∧ P ds n'
theorem i_list (h : E X g e t) : I X g tg e (iLs t) := by
  obtain ⟨te, p1, q1⟩ := h
  refine ⟨_, pi_list p1, fun σ F H ρ n P R sr p k => q1 σ F H ρ n _ _ sr p fun d n' v F' H' ⟨ds, e, p'⟩ gr sr' dv => ?_⟩
  subst e
  cases dv with
  | lst h1 h2 =>
    rename_i a xs
    refine ⟨a, rfl, ⟨xs, SqL.of (sr'.ex _ _ h1)⟩, k ds n' _ F' H' p' gr sr' ⟨fun i F1 H1 e1 e2 hi => ?_, fun i F1 H1 x H2 e1 e2 hi hy => ?_, fun F1 H1 e1 e2 => ?_⟩⟩
    · have hl := dpa_len h2
      exact ⟨xs, _, SqL.of (e2 _ _ (e1 _ _ h1)), List.getElem?_eq_getElem (by omega)⟩
    · obtain ⟨rfl, hx⟩ := hy
      obtain ⟨d, hd, dx⟩ := dpa_get h2 (hx xs (SqL.of (e2 _ _ (e1 _ _ h1))))
      exact ⟨d, F1, hd, Grow.refl e2, dp_ex e1 _ _ dx⟩
    · exact ⟨xs, SqL.of (e2 _ _ (e1 _ _ h1)), by rw [dpa_len h2]; exact Nat.le_refl _⟩
theorem i_tup (h : E X g e t) : I X g tg e (iTp t) := by
  obtain ⟨te, p1, q1⟩ := h
  refine ⟨_, pi_tup p1, fun σ F H ρ n P R sr p k => q1 σ F H ρ n _ _ sr p fun d n' v F' H' ⟨ds, e, p'⟩ gr sr' dv => ?_⟩
  subst e
  cases dv with
  | tup h1 h2 =>
    rename_i a xs
    refine ⟨a, rfl, ⟨xs, Evl.ex_t sr'.ex h1⟩, k ds n' _ F' H' p' gr sr' ⟨fun i F1 H1 e1 e2 hi => ?_, fun i F1 H1 x H2 e1 e2 hi hy => ?_, fun F1 H1 e1 e2 => ?_⟩⟩
    · have hl := dpa_len h2
      exact ⟨xs, _, Evl.ex_t (e1.trans e2) h1, List.getElem?_eq_getElem (by omega)⟩
    · obtain ⟨rfl, hx⟩ := hy
      obtain ⟨d, hd, dx⟩ := dpa_get h2 (hx xs (Evl.ex_t (e1.trans e2) h1))
      exact ⟨d, F1, hd, Grow.refl e2, dp_ex e1 _ _ dx⟩
    · exact ⟨xs, Evl.ex_t (e1.trans e2) h1, by rw [dpa_len h2]; exact Nat.le_refl _⟩
def rangeD (lo : Int) (n : Nat) : List D := (List.range n).map fun i => .int (lo + (i : Nat))
theorem walks_range {K : Fg} {lo : Int} {n : Nat} {Fw : Hp} : Walks K (Itr lo n) Fw (rangeD lo n) := by
  have hl : (rangeD lo n).length = n := by unfold rangeD; rw [List.length_map, List.length_range]
  refine ⟨fun i F H _ _ hi => ?_, fun i F H x H' _ e2 hi hy => ?_, fun F H _ _ => ?_⟩
  · show i < n
    rw [hl] at hi; exact hi
  · obtain ⟨rfl, rfl⟩ := hy
    rw [hl] at hi
    refine ⟨_, F, ?_, Grow.refl e2, .int (lo + (i : Nat))⟩
    unfold rangeD
    rw [List.getElem?_map, List.getElem?_range hi]
    rfl
  · show n ≤ (rangeD lo n).length
    rw [hl]; exact Nat.le_refl _
def iR1 (u : DA) : DI := fun ρ n P => u ρ n fun ss n' => ∃ j : Int, ss = [.d (.int j)] ∧ -(2 ^ 62) ≤ j ∧ j < 2 ^ 62 ∧ P (rangeD 0 j.toNat) n'
def iR2 (u : DA) : DI := fun ρ n P => u ρ n fun ss n' => ∃ i j : Int, ss = [.d (.int i), .d (.int j)] ∧ (-(2 ^ 62) ≤ i ∧ i < 2 ^ 62 ∧ -(2 ^ 62) ≤ j ∧ j < 2 ^ 62) ∧ P (rangeD i (j - i).toNat) n'
theorem i_range1 {u : DA} {a : Expr} {p : Pos} (hg : Gl X "range") (hm : X.mg "range" = none) (h : A X g [a] u) (hs : starEach [a] X.env = [(false, eval a X.env)] := by rfl) : I X g tg (.Call (.Name "range" p) [a] [] pos) (iR1 u) := by
  obtain ⟨te, p1, q1⟩ := h
  refine ⟨_, pi_range1 hg hm p1 hs, fun σ F H ρ n P R sr p k => q1 σ F H ρ n _ _ sr p fun ss n' vs F' H' ⟨j, e, b1, b2, p'⟩ gr sr' da => ?_⟩
  subst e
  have da := args_data (ds := [.int j]) da
  cases da with
  | cons h1 h2 =>
    cases h1; cases h2
    exact ⟨j, rfl, b1, b2, k _ n' _ F' H' p' gr sr' walks_range⟩
theorem i_range2 {u : DA} {a b : Expr} {p : Pos} (hg : Gl X "range") (hm : X.mg "range" = none) (h : A X g [a, b] u) (hs : starEach [a, b] X.env = [(false, eval a X.env), (false, eval b X.env)] := by rfl) (hs2 : starEach [b] X.env = [(false, eval b X.env)] := by rfl) : I X g tg (.Call (.Name "range" p) [a, b] [] pos) (iR2 u) := by
  obtain ⟨te, p1, q1⟩ := h
  refine ⟨_, pi_range2 hg hm p1 hs hs2, fun σ F H ρ n P R sr p k => q1 σ F H ρ n _ _ sr p fun ss n' vs F' H' ⟨i, j, e, b1, p'⟩ gr sr' da => ?_⟩
  subst e
  have da := args_data (ds := [.int i, .int j]) da
  cases da with
  | cons h1 h2 =>
    cases h1
    cases h2 with
    | cons h3 h4 =>
      cases h3; cases h4
      exact ⟨i, j, rfl, b1, k _ n' _ F' H' p' gr sr' walks_range⟩
/-- the signs of a text -/
def signsD (x : Str) : List D := x.cps.toList.map fun c => .str ⟨#[c]⟩
def iSt (t : DT) : DI := fun ρ n P => t ρ n fun d n' => ∃ x, d = .str x ∧ P (signsD x) n'
theorem i_str (h : E X g e t) : I X g tg e (iSt t) := by
  obtain ⟨te, p1, q1⟩ := h
  refine ⟨_, pi_str p1, fun σ F H ρ n P R sr p k => q1 σ F H ρ n _ _ sr p fun d n' v F' H' ⟨x, e, p'⟩ gr sr' dv => ?_⟩
  subst e
  cases dv
  have hl : (signsD x).length = x.cps.size := by unfold signsD; simp
  refine ⟨x, rfl, k _ n' _ F' H' p' gr sr' ⟨fun i F1 H1 _ _ hi => ?_, fun i F1 H1 y H2 _ e2 hi hy => ?_, fun F1 H1 _ _ => ?_⟩⟩
  · show i < x.cps.size
    rw [hl] at hi; exact hi
  · obtain ⟨rfl, c, hc, rfl⟩ := hy
    refine ⟨_, F1, ?_, Grow.refl e2, .str ⟨#[c]⟩⟩
    unfold signsD
    rw [List.getElem?_map, Array.getElem?_toList, hc]
    rfl
  · show x.cps.size ≤ _
    rw [hl]; exact Nat.le_refl _
/-- enumerate of a list -/
def enumD (ds : List D) : List D := ds.mapIdx fun i d => .tuple [.int (i : Nat), d]
/-! ### while -/
def dWhile (c : DB) (tb : DS) : DS := fun P ρ n => ∃ Wv : Nat → Sl → Nat → Prop, (∃ m, Wv m ρ n) ∧ ∀ m ρ n, Wv m ρ n → c ρ n fun b n1 =>
  if b = true then tb { nx := fun ρ' n' => ∃ m', m' < m ∧ Wv m' ρ' n', rt := P.rt, bk := P.nx, ct := fun ρ' n' => ∃ m', m' < m ∧ Wv m' ρ' n' } ρ n1 else P.nx ρ n1
theorem st_while {c : Expr} {cb : DB} (h1 : B X g c cb) (h2 : Sts X g body tb) (hp : PassesOwn (model X.prog X.w) X.A X.env X.xe := by exact PassesOwn.never) : St X g (.While c body [] pos) (dWhile cb tb) := by
  obtain ⟨t1, p1, q1⟩ := h1
  obtain ⟨t2, p2, q2⟩ := h2
  refine ⟨_, ps_while hp p1 p2, fun σ F0 H ρ n P E sr ⟨Wv, w0, p⟩ k1 k2 k3 k4 => ?_⟩
  obtain ⟨m0, w0⟩ := w0
  refine ⟨fun m σ H => ∃ F ρ n, Ex F0 F ∧ SR X.K g F H σ ρ n ∧ Wv m ρ n, ⟨m0, F0, ρ, n, Evl.Ex.refl _, sr, w0⟩, fun m σ H ⟨F, ρ, n, ex, sr, w⟩ => ?_⟩
  refine q1 σ F H ρ n _ _ sr (p m ρ n w) fun b n1 F1 H1 p1 e1 sr1 => ?_
  cases b with
  | true =>
    rw [if_pos rfl] at p1 ⊢
    refine ⟨fun σ' H' => ∃ m', m' < m ∧ ∃ F ρ n, Ex F0 F ∧ SR X.K g F H' σ' ρ n ∧ Wv m' ρ n, fun σ' H' h => h, ?_⟩
    refine q2 σ F1 H1 ρ n1 _ _ sr1 p1 (fun ρ2 n2 σ2 F2 H2 ⟨m', hm, w'⟩ x2 sr2 => ⟨m', hm, F2, ρ2, n2, (ex.trans e1.f).trans x2, sr2, w'⟩) k2 (fun ρ2 n2 σ2 F2 H2 p2 x2 sr2 => k1 ρ2 n2 σ2 F2 H2 p2 ((ex.trans e1.f).trans x2) sr2)
      (fun ρ2 n2 σ2 F2 H2 ⟨m', hm, w'⟩ x2 sr2 => ⟨m', hm, F2, ρ2, n2, (ex.trans e1.f).trans x2, sr2, w'⟩)
  | false =>
    rw [if_neg Bool.false_ne_true] at p1 ⊢
    exact k1 ρ n1 σ F1 H1 p1 (ex.trans e1.f) sr1

/-! ### comprehensions -/
def wipeD (ρ : Sl) : List Nat → Sl
  | [] => ρ
  | v :: vs => (wipeD ρ vs).set v none
theorem SR.wipe {K : Fg} {F H : Hp} {σ : L2.St} {ρ : Sl} {n : Nat} (sr : SR K g F H σ ρ n) : ∀ vs : List Nat, SR K g F H (L2.wipe σ vs) (wipeD ρ vs) n
  | [] => sr
  | v :: vs => (sr.wipe vs).forget
theorem wipe_get {σ : L2.St} : ∀ {vs : List Nat} {j : Nat}, j ∉ vs → (L2.wipe σ vs)[j]? = σ[j]?
  | [], _, _ => rfl
  | v :: vs, j, h => by
    show ((L2.wipe σ vs).set v none)[j]? = _
    rw [List.getElem?_set_ne (fun z => h (by simp [z]))]
    exact wipe_get fun z => h (List.mem_cons_of_mem _ z)
theorem wipe_in {σ : L2.St} : ∀ {vs : List Nat} {j : Nat}, j ∈ vs → (L2.wipe σ vs)[j]? = if j < σ.length then some none else none
  | v :: vs, j, h => by
    show ((L2.wipe σ vs).set v none)[j]? = _
    by_cases e : v = j
    · subst e
      rw [List.getElem?_set_self']
      by_cases hl : v < σ.length
      · have hl2 : v < (L2.wipe σ vs).length := by rw [wipe_length]; exact hl
        rw [if_pos hl, List.getElem?_eq_getElem hl2]; rfl
      · have hl2 : ¬ v < (L2.wipe σ vs).length := by rw [wipe_length]; exact hl
        rw [if_neg hl, List.getElem?_eq_none (by omega)]; rfl
    · rw [List.getElem?_set_ne e]
      exact wipe_in (by
        rcases List.mem_cons.mp h with z | z
        · exact absurd z.symm e
        · exact z)
theorem wipe_but {σ σ' : L2.St} {ρ ρ' : Sl} {is vs : List Nat} (h : But is (L2.wipe σ vs) σ' ρ ρ') (hs : ∀ i ∈ is, i ∈ vs) : L2.wipe σ' vs = L2.wipe σ vs := by
  apply List.ext_getElem?
  intro j
  have hl : σ'.length = σ.length := by rw [h.len, wipe_length]
  by_cases hj : j ∈ vs
  · rw [wipe_in hj, wipe_in hj, hl]
  · rw [wipe_get hj, h.get j fun z => hj (hs j z)]
theorem wipeD_own {σ : L2.St} {ρ : Sl} : ∀ {vs : List Nat} {j : Nat} {ds : List D}, (wipeD ρ vs)[j]? = some (some (.o ds)) → ρ[j]? = some (some (.o ds)) ∧ (L2.wipe σ vs)[j]? = σ[j]?
  | [], _, _, h => ⟨h, rfl⟩
  | v :: vs, j, ds, h => by
    have h' : ((wipeD ρ vs).set v none)[j]? = some (some (.o ds)) := h
    by_cases c : v = j
    · subst c
      rw [List.getElem?_set_self'] at h'
      cases q : (wipeD ρ vs)[v]? with
      | none => rw [q] at h'; cases h'
      | some o => rw [q] at h'; cases h'
    · rw [List.getElem?_set_ne c] at h'
      obtain ⟨h1, h2⟩ := wipeD_own (σ := σ) h'
      refine ⟨h1, ?_⟩
      show ((L2.wipe σ vs).set v none)[j]? = _
      rw [List.getElem?_set_ne c]
      exact h2
/-- one reading for all blocks -/
theorem fam_e {ι : Type} {Xf : ι → Cx} {K : Fg} (hK : ∀ i, (Xf i).K = K) (h : ∀ i, E (Xf i) g e t) : ∃ te, (∀ i, PE (Xf i) e te) ∧ SE K g te t := by
  have h' : ∀ i, ∃ te, PE (Xf i) e te ∧ SE K g te t := fun i => by
    obtain ⟨te, a, b⟩ := h i
    exact ⟨te, a, hK i ▸ b⟩
  refine ⟨fun σ H Q => ∀ i, Classical.choose (h' i) σ H Q, fun i => ?_, fun σ F H ρ n P Q sr p k i => ?_⟩
  · exact ⟨fun pins s σ H Q I hq => (Classical.choose_spec (h' i)).1.run pins s σ H Q I (hq i)⟩
  · exact (Classical.choose_spec (h' i)).2 σ F H ρ n P Q sr p k
theorem fam_b {ι : Type} {Xf : ι → Cx} {K : Fg} {u : DB} (hK : ∀ i, (Xf i).K = K) (h : ∀ i, B (Xf i) g e u) : ∃ te, (∀ i, PT (Xf i) e te) ∧ SB K g te u := by
  have h' : ∀ i, ∃ te, PT (Xf i) e te ∧ SB K g te u := fun i => by
    obtain ⟨te, a, b⟩ := h i
    exact ⟨te, a, hK i ▸ b⟩
  refine ⟨fun σ H Q => ∀ i, Classical.choose (h' i) σ H Q, fun i => ?_, fun σ F H ρ n P Q sr p k i => ?_⟩
  · exact ⟨fun pins s σ H Q I hq => (Classical.choose_spec (h' i)).1.run pins s σ H Q I (hq i)⟩
  · exact (Classical.choose_spec (h' i)).2 σ F H ρ n P Q sr p k
theorem fam_g {ι : Type} {Xf : ι → Cx} {K : Fg} (hK : ∀ i, (Xf i).K = K) (h : ∀ i, Gt (Xf i) g e is gt) : ∃ te, (∀ i, PG (Xf i) e te) ∧ SG K g is te gt := by
  have h' : ∀ i, ∃ te, PG (Xf i) e te ∧ SG K g is te gt := fun i => by
    obtain ⟨te, a, b⟩ := h i
    exact ⟨te, a, hK i ▸ b⟩
  refine ⟨fun v σ H Q => ∀ i, Classical.choose (h' i) v σ H Q, fun i => ?_, fun v σ F H d ρ n P Q sr dv p k i => ?_⟩
  · exact ⟨fun pins s σ H v u Q I r hq => (Classical.choose_spec (h' i)).1.run pins s σ H v u Q I r (hq i)⟩
  · exact (Classical.choose_spec (h' i)).2 v σ F H d ρ n P Q sr dv p k
theorem fam_i {ι : Type} {Xf : ι → Cx} {K : Fg} (hK : ∀ i, (Xf i).K = K) (h : ∀ i, I (Xf i) g tg e ti) : ∃ te, (∀ i, PI (Xf i) tg e te) ∧ SI K g te ti := by
  have h' : ∀ i, ∃ te, PI (Xf i) tg e te ∧ SI K g te ti := fun i => by
    obtain ⟨te, a, b⟩ := h i
    exact ⟨te, a, hK i ▸ b⟩
  refine ⟨fun σ H Q => ∀ i, Classical.choose (h' i) σ H Q, fun i => ?_, fun σ F H ρ n P Q sr p k i => ?_⟩
  · exact ⟨fun pins s σ H Q I hq => (Classical.choose_spec (h' i)).1.run pins s σ H Q I (hq i)⟩
  · exact (Classical.choose_spec (h' i)).2 σ F H ρ n P Q sr p k
abbrev BlkI := Shared × Hp × Addr × List (Str × Addr) × List Addr
abbrev blkX (X : Cx) (scope : Scope) (i : BlkI) : Cx := X.blk i.1 i.2.1 scope (compEnvC scope i.2.2.2.1 i.2.2.1 X.env) i.2.2.2.2
def bYes : DB := fun _ n P => P true n
def dCompL (vs : List Nat) (gt : DGt) (tt : DB) (te : DT) (ρ : Sl) : List D → List D → Nat → (List D → Nat → Prop) → Prop
  | [], acc, n, P => P acc n
  | d :: r, acc, n, P => gt d (wipeD ρ vs) n fun ρ1 n1 => tt ρ1 n1 fun b n2 => if b = true then te ρ1 n2 fun y n3 => acc.length < 100000 ∧ dCompL vs gt tt te ρ r (acc ++ [y]) n3 P else dCompL vs gt tt te ρ r acc n2 P
def dComp (ti : DI) (gt : DGt) (tt : DB) (te : DT) (vs : List Nat) : DL_ := fun ρ n P => ti ρ n fun items n' => dCompL vs gt tt te ρ items [] n' P
theorem sl_comp {K : Fg} {wi : TI} {tgt : TG} {tt : TT} {te : TE} {u : DB} {vs : List Nat} (h1 : SI K g wi ti) (h2 : SG K g is tgt gt) (h3 : SB K g tt u) (h4 : SE K g te t) (hs : ∀ i ∈ is, i ∈ vs) : SL K g (tLc wi tgt tt te vs) (dComp ti gt u t vs) := by
  intro σ F H ρ n P Q sr p k
  refine h1 σ F H ρ n _ _ sr p fun items n' J Fw Hw p' gr0 sr' wk => ?_
  intro D hD
  have fD : Free g Fw σ ρ D := Free.of sr' hD
  have hD0 : H D = none := gr0.dm D hD
  refine ⟨fun i m H2 => i + m = items.length ∧ ∃ F2 n2 xs acc, Ex Fw F2 ∧ Grow g.m F H F2 H2 ∧ SR K g F2 H2 σ ρ n2 ∧ Free g F2 σ ρ D ∧ H2 D = some (.lst xs) ∧ DpAll K F2 xs acc ∧ xs.length ≤ 100000 ∧ dCompL vs gt u t ρ (items.drop i) acc n2 P, ⟨items.length, by omega, Fw, n', [], [], Evl.Ex.refl _, gr0.trans (Grow.raw sr'.ex hD), sr'.grow (Grow.raw sr'.ex hD), fD, upd_same, .nil, by simp, by simpa using p'⟩, fun i m H2 ⟨em, F2, n2, xs, acc, ew, grF, sr2, f2, hDx, da, hl, p2⟩ => ?_⟩
  by_cases hi : i < items.length
  · refine .inr ⟨wk.go i F2 H2 ew sr2.ex hi, fun H' => ∃ F2 n2 xs acc, Ex Fw F2 ∧ Grow g.m F H F2 H' ∧ SR K g F2 H' σ ρ n2 ∧ Free g F2 σ ρ D ∧ H' D = some (.lst xs) ∧ DpAll K F2 xs acc ∧ xs.length ≤ 100000 ∧ dCompL vs gt u t ρ (items.drop (i + 1)) acc n2 P, fun H' hN => ⟨m - 1, by omega, by omega, hN⟩, fun x H3 hy => ?_⟩
    obtain ⟨d, F3, hd, gr3, dx⟩ := wk.yld i F2 H2 x H3 ew sr2.ex hi hy
    rw [drop_at hd] at p2
    have sr3 := sr2.grow gr3
    refine h2 x (L2.wipe σ vs) F3 H3 d (wipeD ρ vs) n2 _ _ (sr3.wipe vs) dx p2 fun ρ1 σ1 p3 sr4 bt => ?_
    refine ⟨wipe_but bt hs, ?_⟩
    refine h3 σ1 F3 H3 ρ1 n2 _ _ sr4 p3 fun b n3 F5 H5 p5 gr5 sr5 => ?_
    have hD3 : H3 D = some (.lst xs) := gr3.hx _ _ hDx
    have nm : some D ≠ g.m := fun z => by
      obtain ⟨_, _, _, _, _, q, _⟩ := sr2.mc D z.symm
      rw [q] at hDx; cases hDx
    have free : ∀ {F6 H6 : Hp}, Grow g.m F3 H3 F6 H6 → Free g F6 σ ρ D := fun {F6 H6} gr6 => by
      refine ⟨?_, f2.b, f2.no⟩
      cases z : F6 D with
      | none => rfl
      | some o =>
        rcases gr6.fr D o z with y | y
        · rcases gr3.fr D o y with w | w
          · rw [f2.f] at w; cases w
          · rw [hDx] at w; cases w
        · rw [hD3] at y; cases y
    have hD5 : H5 D = some (.lst xs) := gr5.h D _ nm hD3
    cases b with
    | true =>
      rw [if_pos rfl] at p5 ⊢
      refine h4 σ1 F5 H5 ρ1 n3 _ _ sr5 p5 fun y n4 v F6 H6 ⟨hacc, p6⟩ gr6 sr6 dv => ?_
      have hD6 : H6 D = some (.lst xs) := gr6.h D _ nm hD5
      have g6 := gr5.trans gr6
      have srA : SR K g F6 H6 σ ρ n4 := sr3.growM g6 sr6.mc
      have fA := free g6
      have la := dpa_len da
      refine ⟨xs, hD6, Evl.sz_lt (by omega), F6, n4, xs ++ [v], acc ++ [y], (ew.trans gr3.f).trans g6.f, ?_, srA.updFree hD6 fA.f fA.b fA.no, fA, upd_same, dpa_app (dpa_ex (gr3.f.trans g6.f) _ _ da) (.cons dv .nil), by rw [List.length_append, List.length_singleton]; omega, p6⟩
      have g7 : Grow g.m F H F6 H6 := (grF.trans gr3.any).trans g6
      refine ⟨g7.f, fun a o h => ?_, fun a o ne h => ?_, fun a h => ?_, g7.fr⟩
      · rw [upd_ne (fun z => by rw [z, fA.f] at h; cases h)]; exact srA.ex a o h
      · rw [upd_ne (fun z => by rw [z, hD0] at h; cases h)]; exact g7.h a o ne h
      · by_cases c : a = D
        · subst c; rw [upd_same] at h; cases h
        · rw [upd_ne c] at h; exact g7.dm a h
    | false =>
      rw [if_neg Bool.false_ne_true] at p5 ⊢
      exact ⟨F5, n3, xs, acc, (ew.trans gr3.f).trans gr5.f, (grF.trans gr3.any).trans gr5, sr3.growM gr5 sr5.mc, free gr5, hD5, dpa_ex (gr3.f.trans gr5.f) _ _ da, hl, p5⟩
  · have ei : i = items.length := by omega
    subst ei
    refine .inl ⟨wk.stop F2 H2 ew sr2.ex, ?_⟩
    rw [List.drop_length] at p2
    exact k acc n2 D xs F2 H2 p2 grF sr2 f2 hD0 hDx da

theorem l_comp {elt : Expr} {scope : Scope} (own : List (Str × Nat)) (hc : X.calm = true) (hN : X.N.Nodup) (h1 : I X g tg iter ti) (ok : blkC X.N X.env.scope scope own = true) (h2 : ∀ i : BlkI, Gt (blkX X scope i) g tg is gt) (h4 : ∀ i : BlkI, E (blkX X scope i) g elt t)
    (hs : is.all (fun i => (own.map (·.2)).contains i) = true := by rfl) (hf : ∀ x, foldedSetIterable iter X.env x = pure x := by intro _; rfl) : Ls X g (.ListComp elt [⟨tg, iter, [], 0⟩] scope pos) (dComp ti gt bYes t (own.map (·.2))) := by
  obtain ⟨w, p1, q1⟩ := h1
  obtain ⟨t2, p2, q2⟩ := fam_g (Xf := blkX X scope) (K := X.K) (fun _ => rfl) h2
  obtain ⟨t4, p4, q4⟩ := fam_e (Xf := blkX X scope) (K := X.K) (fun _ => rfl) h4
  refine ⟨_, pe_lc hc hN p1 (blkOk_by ok) (fun s H C cl fp => p2 (s, H, C, cl, fp)) (fun _ _ _ _ _ => pts_nil) (fun s H C cl fp => p4 (s, H, C, cl, fp)) hf, sl_comp q1 q2 (fun σ F H ρ n P Q sr p k => k true n F H p (Grow.refl sr.ex) sr) q4 fun i hi => ?_⟩
  have := List.all_eq_true.mp hs i hi
  simpa using this
theorem l_compIf {elt cnd : Expr} {u : DB} {scope : Scope} (own : List (Str × Nat)) (hc : X.calm = true) (hN : X.N.Nodup) (h1 : I X g tg iter ti) (ok : blkC X.N X.env.scope scope own = true) (h2 : ∀ i : BlkI, Gt (blkX X scope i) g tg is gt) (h3 : ∀ i : BlkI, B (blkX X scope i) g cnd u) (h4 : ∀ i : BlkI, E (blkX X scope i) g elt t)
    (hs : is.all (fun i => (own.map (·.2)).contains i) = true := by rfl) (hf : ∀ x, foldedSetIterable iter X.env x = pure x := by intro _; rfl) : Ls X g (.ListComp elt [⟨tg, iter, [cnd], 0⟩] scope pos) (dComp ti gt u t (own.map (·.2))) := by
  obtain ⟨w, p1, q1⟩ := h1
  obtain ⟨t2, p2, q2⟩ := fam_g (Xf := blkX X scope) (K := X.K) (fun _ => rfl) h2
  obtain ⟨t3, p3, q3⟩ := fam_b (Xf := blkX X scope) (K := X.K) (fun _ => rfl) h3
  obtain ⟨t4, p4, q4⟩ := fam_e (Xf := blkX X scope) (K := X.K) (fun _ => rfl) h4
  refine ⟨_, pe_lc hc hN p1 (blkOk_by ok) (fun s H C cl fp => p2 (s, H, C, cl, fp)) (fun s H C cl fp => pts_one (p3 (s, H, C, cl, fp))) (fun s H C cl fp => p4 (s, H, C, cl, fp)) hf, sl_comp q1 q2 q3 q4 fun i hi => ?_⟩
  have := List.all_eq_true.mp hs i hi
  simpa using this
/-- y = [..] -/
def dSetL (i : Nat) (u : DL_) : DS := fun P ρ n => dFrz u ρ n fun d n' => P.nx (ρ.set i (some (.d d))) n'
theorem SL.frz {K : Fg} {te : TE} {u : DL_} (h : SL K g te u) : SE K g te (dFrz u) := fun σ F H ρ n P Q sr p k => h σ F H ρ n _ _ sr p fun ds n1 q xs F1 H1 p1 e1 sr1 fr hn hq da => by
  have ef : Ex F1 (upd F1 q (.lst xs)) := Evl.Ex.new fr.f
  exact k _ n1 _ _ H1 p1 ⟨e1.f.trans ef, (sr1.freeze fr hq).ex, e1.h, e1.dm, fun c o h => by
    by_cases z : c = q
    · subst z; exact .inr hn
    · rw [upd_ne z] at h; exact e1.fr c o h⟩ (sr1.freeze fr hq) (.lst upd_same (dpa_ex ef _ _ da))
theorem ss_setL {K : Fg} {te : TE} {i : Nat} {u : DL_} (h : SL K g te u) : SS K g (tAsg te (gName i)) (dSetL i u) :=
  fun σ F H ρ n P E sr p k1 k2 k3 k4 => h.frz σ F H ρ n _ _ sr p fun d n' v F' H' p' x sr' dv => k1 _ n' _ F' H' p' x.f (sr'.setD dv)
theorem st_setComp (i : Nat) {y : Str} {py : Pos} {spos : Pos} {elt : Expr} {scope : Scope} (own : List (Str × Nat)) (hc : X.calm = true) (hN : X.N.Nodup) (sw : swapsWith (.ListComp elt [⟨tg, iter, [], 0⟩] scope pos) (some (.Name y py)) spos.line X.env = pure true) (h1 : I X g tg iter ti) (ok : blkC X.N X.env.scope scope own = true) (h2 : ∀ i : BlkI, Gt (blkX X scope i) g tg is gt) (h4 : ∀ i : BlkI, E (blkX X scope i) g elt t)
    (hi : X.N[i]? = some y := by rfl) (hy : X.env.scope.names.lookup y = some .local := by rfl) (hs : is.all (fun i => (own.map (·.2)).contains i) = true := by rfl) (hf : ∀ x, foldedSetIterable iter X.env x = pure x := by intro _; rfl) :
    St X g (.Assign [.Name y py] (.ListComp elt [⟨tg, iter, [], 0⟩] scope pos) spos) (dSetL i (dComp ti gt bYes t (own.map (·.2)))) := by
  obtain ⟨w, p1, q1⟩ := h1
  obtain ⟨t2, p2, q2⟩ := fam_g (Xf := blkX X scope) (K := X.K) (fun _ => rfl) h2
  obtain ⟨t4, p4, q4⟩ := fam_e (Xf := blkX X scope) (K := X.K) (fun _ => rfl) h4
  refine ⟨_, ps_setLc hc hN hi hy sw p1 (blkOk_by ok) (fun s H C cl fp => p2 (s, H, C, cl, fp)) (fun _ _ _ _ _ => pts_nil) (fun s H C cl fp => p4 (s, H, C, cl, fp)) hf, ss_setL (sl_comp q1 q2 (fun σ F H ρ n P Q sr p k => k true n F H p (Grow.refl sr.ex) sr) q4 fun i hi => ?_)⟩
  have := List.all_eq_true.mp hs i hi
  simpa using this
theorem st_setCompIf (i : Nat) {y : Str} {py : Pos} {spos : Pos} {elt cnd : Expr} {u : DB} {scope : Scope} (own : List (Str × Nat)) (hc : X.calm = true) (hN : X.N.Nodup) (sw : swapsWith (.ListComp elt [⟨tg, iter, [cnd], 0⟩] scope pos) (some (.Name y py)) spos.line X.env = pure true) (h1 : I X g tg iter ti) (ok : blkC X.N X.env.scope scope own = true) (h2 : ∀ i : BlkI, Gt (blkX X scope i) g tg is gt) (h3 : ∀ i : BlkI, B (blkX X scope i) g cnd u) (h4 : ∀ i : BlkI, E (blkX X scope i) g elt t)
    (hi : X.N[i]? = some y := by rfl) (hy : X.env.scope.names.lookup y = some .local := by rfl) (hs : is.all (fun i => (own.map (·.2)).contains i) = true := by rfl) (hf : ∀ x, foldedSetIterable iter X.env x = pure x := by intro _; rfl) :
    St X g (.Assign [.Name y py] (.ListComp elt [⟨tg, iter, [cnd], 0⟩] scope pos) spos) (dSetL i (dComp ti gt u t (own.map (·.2)))) := by
  obtain ⟨w, p1, q1⟩ := h1
  obtain ⟨t2, p2, q2⟩ := fam_g (Xf := blkX X scope) (K := X.K) (fun _ => rfl) h2
  obtain ⟨t3, p3, q3⟩ := fam_b (Xf := blkX X scope) (K := X.K) (fun _ => rfl) h3
  obtain ⟨t4, p4, q4⟩ := fam_e (Xf := blkX X scope) (K := X.K) (fun _ => rfl) h4
  refine ⟨_, ps_setLc hc hN hi hy sw p1 (blkOk_by ok) (fun s H C cl fp => p2 (s, H, C, cl, fp)) (fun s H C cl fp => pts_one (p3 (s, H, C, cl, fp))) (fun s H C cl fp => p4 (s, H, C, cl, fp)) hf, ss_setL (sl_comp q1 q2 q3 q4 fun i hi => ?_)⟩
  have := List.all_eq_true.mp hs i hi
  simpa using this
end
/-! ### a def keeps its promise -/
def startD (N : List Str) (ss : List S) : Sl := ss.map some ++ List.replicate (N.length - ss.length) none
section
variable {P : Program} {w : World} {K : Fg} {mg : Str → Option Value} {base : Heap}
theorem args_get {g : G} {F : Hp} : ∀ {vs : List V} {ss : List S} {i : Nat} {s : S}, ArgsOk K g F vs ss → ss[i]? = some s → ∃ v, vs[i]? = some v ∧ SlotOk K g F F v s ∧ argS s = true
  | [], [], _, _, _, e => by simp at e
  | v :: vs, s :: ss, 0, _, ⟨a, b, c⟩, e => by simp at e; subst e; exact ⟨v, rfl, a, b⟩
  | v :: vs, s :: ss, i + 1, _, ⟨a, b, c⟩, e => by
    obtain ⟨v', h1, h2⟩ := args_get (i := i) c (by simpa using e)
    exact ⟨v', by simpa using h1, h2⟩
theorem fn_ok {x qual : Str} {st : Stmt} {f : Addr} {fd : FuncData} {N ps : List Str} {k : Nat} {c : Ct} {t : DS} (Fn : Fun K x qual st f fd) (S : FnScope N ps (defScope st)) (hlen : ∀ x ss n, c.pre x ss n → ss.length = ps.length)
    (hbody : ∀ (cdv : Value) (A : Around) (outer : List Env) (s : Shared) (H : Hp) (E : XK) (g : G), Room k (A.deeper (PyProof.Rows.envOfC qual (defScope st) s.heap.objs.size f cdv)) →
      Sts (cxOf CX0 P w K mg base N qual (defScope st) f cdv A outer s H E).nox g (defBody st) t)
    (ht : ∀ x ss n, c.pre x ss n → t { nx := fun _ n' => c.post x n .none n', rt := fun d n' => c.post x n d n' } (startD N ss) n) : FnOk P w K mg base CX0 (k + 1) f fd ps (spD K c) := by
  refine Fn.ok S (fun vs H Q E h => ?_) (fun cdv A outer s H vs Q E hr h => ?_)
  · obtain ⟨g, F, n, ss, _, _, _, _, ao, ⟨y, hp, _⟩, _⟩ := h
    rw [args_len ao]
    exact hlen y ss n hp
  · obtain ⟨g, F, n, ss, rfl, rfl, ex, mc, ao, ⟨y, hp, hq, _⟩, _⟩ := h
    obtain ⟨te, p1, q1⟩ := hbody cdv A outer s g.B E g hr
    refine ⟨te, p1, ?_⟩
    have hl : vs.length = ss.length := args_len ao
    have sr : SR K g g.F0 g.B (start N vs) (startD N ss) n := by
      have key : ∀ (i : Nat) (z : DL.S), (startD N ss)[i]? = some (some z) → ss[i]? = some z := fun i z e => by
        unfold startD at e
        by_cases h : i < ss.length
        · rw [List.getElem?_append_left (by simpa using h), List.getElem?_map] at e
          cases q : ss[i]? with
          | none => rw [q] at e; cases e
          | some y => rw [q] at e; cases e; rfl
        · rw [List.getElem?_append_right (by simpa using h), List.getElem?_replicate] at e
          split at e <;> cases e
      refine ⟨Grow.refl ex, mc, fun i z e => ?_, fun i j l ds es e1 _ _ _ => ?_, ?_⟩
      · obtain ⟨v, h1, h2, no⟩ := args_get ao (key i z e)
        refine ⟨v, ?_, ?_⟩
        · unfold L2.start
          have hi : i < vs.length := (List.getElem?_eq_some_iff.mp h1).1
          rw [List.getElem?_append_left (by simpa using hi), List.getElem?_map, h1]
          rfl
        · cases z with
          | d d => exact h2
          | m => exact h2
          | r u => exact h2
          | o ds => cases no
          | s k => cases no
      · obtain ⟨_, _, _, no⟩ := args_get ao (key i _ e1)
        cases no
      · unfold startD L2.start
        simp [hl]
    refine q1 _ g.F0 g.B _ n _ _ sr (ht y ss n hp) (fun ρ' n' σ' F' H' p' x' sr' => ?_) (fun d n' σ' ρ' v F' H' p' sr' dv => ?_) (fun _ _ _ _ _ z => z.elim) (fun _ _ _ _ _ z => z.elim)
    · exact hq _ _ p' _ F' H' sr'.gr sr'.mc .non
    · exact hq _ _ p' _ F' H' sr'.gr sr'.mc dv
theorem fn_ok' {x qual : Str} {st : Stmt} {f : Addr} {fd : FuncData} {N ps : List Str} {k : Nat} {c : Ct} (Fn : Fun K x qual st f fd) (S : FnScope N ps (defScope st)) (hlen : ∀ x ss n, c.pre x ss n → ss.length = ps.length)
    (h : ∃ t, (∀ (cdv : Value) (A : Around) (outer : List Env) (s : Shared) (H : Hp) (E : XK) (g : G), Room k (A.deeper (PyProof.Rows.envOfC qual (defScope st) s.heap.objs.size f cdv)) →
      Sts (cxOf CX0 P w K mg base N qual (defScope st) f cdv A outer s H E).nox g (defBody st) t) ∧
      ∀ x ss n, c.pre x ss n → t { nx := fun _ n' => c.post x n .none n', rt := fun d n' => c.post x n d n' } (startD N ss) n) : FnOk P w K mg base CX0 (k + 1) f fd ps (spD K c) := by
  obtain ⟨t, h1, h2⟩ := h
  exact fn_ok Fn S hlen h1 h2
end
end DL

namespace DL
open PySem L2
section
variable {X : Cx} {g : G} {a b c e : Expr} {es : List Expr} {ta tb tc t : DT} {pos : Pos} {u : DA} {K : Fg}
/-! ### numbers -/
theorem opd_I0 {f : Int → Int → Int} : OpD K (rI0 fun i j => .int (f i j)) (fun x y => match x, y with | .int i, .int j => some (.int (f i j)) | _, _ => none) := by
  intro F H vx vy x y d Q ex dx dy e k
  cases dx <;> cases dy <;> cases e
  rename_i i j
  exact ⟨i, j, rfl, rfl, k _ F H (Grow.refl ex) (.int _)⟩
theorem opd_IB {f : Int → Int → Bool} : OpD K (rI0 fun i j => .bl (f i j)) (fun x y => match x, y with | .int i, .int j => some (.bool (f i j)) | _, _ => none) := by
  intro F H vx vy x y d Q ex dx dy e k
  cases dx <;> cases dy <;> cases e
  rename_i i j
  exact ⟨i, j, rfl, rfl, k _ F H (Grow.refl ex) (.bl _)⟩
theorem opd_I {C : Int → Int → Prop} {p : Int → Int → Bool} {f : Int → Int → Int} (hp : ∀ i j, p i j = true → C i j) : OpD K (rI C fun i j => .int (f i j)) (fun x y => match x, y with | .int i, .int j => if p i j then some (.int (f i j)) else none | _, _ => none) := by
  intro F H vx vy x y d Q ex dx dy e k
  cases dx <;> cases dy <;> try (cases e; done)
  rename_i i j
  dsimp only at e
  split at e
  · rename_i hc
    cases e
    exact ⟨i, j, rfl, rfl, hp i j hc, k _ F H (Grow.refl ex) (.int _)⟩
  · cases e
def subD : D → D → Option D := fun x y => match x, y with | .int i, .int j => some (.int (i - j)) | _, _ => none
def mulOk (i j : Int) : Bool := (decide (-(2 ^ 64) < i) && decide (i < 2 ^ 64)) || (decide (-(2 ^ 64) < j) && decide (j < 2 ^ 64))
def mulD : D → D → Option D := fun x y => match x, y with | .int i, .int j => if mulOk i j then some (.int (i * j)) else none | _, _ => none
def modD : D → D → Option D := fun x y => match x, y with | .int i, .int j => if decide (0 < j) then some (.int (i % j)) else none | _, _ => none
def fdivOk (i j : Int) : Bool := decide (0 < j) && decide (j < 1073741824)
def fdivD : D → D → Option D := fun x y => match x, y with | .int i, .int j => if fdivOk i j then some (.int (i / j)) else none | _, _ => none
def powOk (i j : Int) : Bool := decide (0 ≤ j) && decide (j ≤ 1000000) && decide (i.natAbs < 2 ^ 64)
def powD : D → D → Option D := fun x y => match x, y with | .int i, .int j => if powOk i j then some (.int (i ^ j.toNat)) else none | _, _ => none
def ltD : D → D → Option D := fun x y => match x, y with | .int i, .int j => some (.bool (decide (i < j))) | _, _ => none
def leD : D → D → Option D := fun x y => match x, y with | .int i, .int j => some (.bool (decide (i ≤ j))) | _, _ => none
def gtD : D → D → Option D := fun x y => match x, y with | .int i, .int j => some (.bool (decide (j < i))) | _, _ => none
def geD : D → D → Option D := fun x y => match x, y with | .int i, .int j => some (.bool (decide (j ≤ i))) | _, _ => none
theorem e_sub (ha : E X g a ta) (hb : E X g b tb) : E X g (.BinOp a .Sub b pos) (dBin subD ta tb) := e_op op_sub opd_I0 ha hb
theorem e_mul (ha : E X g a ta) (hb : E X g b tb) : E X g (.BinOp a .Mult b pos) (dBin mulD ta tb) :=
  e_op op_mul (opd_I (p := mulOk) fun i j h => by
    unfold mulOk at h
    unfold CMul
    simpa using h) ha hb
theorem e_mod (ha : E X g a ta) (hb : E X g b tb) : E X g (.BinOp a .Mod b pos) (dBin modD ta tb) := e_op op_mod (opd_I (p := fun _ j => decide (0 < j)) fun i j h => by simpa using h) ha hb
theorem e_fdiv (ha : E X g a ta) (hb : E X g b tb) : E X g (.BinOp a .FloorDiv b pos) (dBin fdivD ta tb) := e_op op_fdiv (opd_I (p := fdivOk) fun i j h => by
    unfold fdivOk at h
    unfold CDiv
    simpa using h) ha hb
theorem e_pow (ha : E X g a ta) (hb : E X g b tb) : E X g (.BinOp a .Pow b pos) (dBin powD ta tb) := e_op op_pow (opd_I (p := powOk) fun i j h => by
    unfold powOk at h
    unfold CPow
    simpa [and_assoc] using h) ha hb
theorem und_neg : UnD K (rU fun i => .int (-i)) (fun x => match x with | .int i => some (.int (-i)) | _ => none) := by
  intro F H vx x d Q ex dx e k
  cases dx <;> cases e
  rename_i i
  exact ⟨i, rfl, k _ F H (Grow.refl ex) (.int _)⟩
def negD : D → Option D := fun x => match x with | .int i => some (.int (-i)) | _ => none
theorem e_neg (ha : E X g a ta) : E X g (.UnaryOp .USub a pos) (dUn negD ta) := e_un un_neg und_neg ha
/-! ### + : numbers, texts, tuples -/
def addI : D → D → Option D := fun x y => match x, y with | .int i, .int j => some (.int (i + j)) | _, _ => none
def addS : D → D → Option D := fun x y => match x, y with | .str i, .str j => if decide (i.length + j.length ≤ 100000) then some (.str (i ++ j)) else none | _, _ => none
def addT : D → D → Option D := fun x y => match x, y with | .tuple xs, .tuple ys => if decide (xs.length + ys.length ≤ 100000) then some (.tuple (xs ++ ys)) else none | _, _ => none
theorem opd_addS : OpD K (fun x y H Q => ∃ i j, x = .str i ∧ y = .str j ∧ i.length + j.length ≤ sizeLine ∧ Q (.str (i ++ j)) H) addS := by
  intro F H vx vy x y d Q ex dx dy e k
  unfold addS at e
  cases dx <;> cases dy <;> try (cases e; done)
  rename_i i j
  dsimp only at e
  split at e
  · rename_i hc
    cases e
    exact ⟨i, j, rfl, rfl, Evl.sz_of (of_decide_eq_true hc), k _ F H (Grow.refl ex) (.str _)⟩
  · cases e
theorem opd_addI : OpD K (rI0 fun i j => .int (i + j)) addI := opd_I0
theorem opd_addT : OpD K (rCatA K) addT := by
  intro F H vx vy x y d Q ex dx dy e k
  unfold addT at e
  cases dx <;> cases dy <;> try (cases e; done)
  rename_i a xs ds h1 h2 b ys es h3 h4
  dsimp only at e
  split at e
  · rename_i hc
    cases e
    have l1 := dpa_len h2
    have l2 := dpa_len h4
    refine ⟨a, b, xs, ys, rfl, rfl, Evl.ex_t ex h1, Evl.ex_t ex h3, Evl.sz_of (by rw [l1, l2]; exact of_decide_eq_true hc), fun z => ?_, fun z z2 => ?_, fun z z2 p hp => ?_⟩
    · subst z
      cases h2
      exact k _ F H (Grow.refl ex) (.tup h3 h4)
    · subst z2
      cases h4
      rw [List.append_nil] at k
      exact k _ F H (Grow.refl ex) (.tup h1 h2)
    · have gr := Grow.new (m := none) (o := .tup (xs ++ ys)) ex hp
      exact k _ _ _ gr (.tup (SqT.of upd_same) (dpa_ex gr.f _ _ (dpa_app h2 h4)))
  · cases e
def addL : D → D → Option D := fun x y => match x, y with | .list xs, .list ys => if decide (xs.length + ys.length ≤ 100000) then some (.list (xs ++ ys)) else none | _, _ => none
theorem opd_addL : OpD K rCat addL := by
  intro F H vx vy x y d Q ex dx dy e k
  unfold addL at e
  cases dx <;> cases dy <;> try (cases e; done)
  rename_i a xs ds h1 h2 b ys es h3 h4
  dsimp only at e
  split at e
  · rename_i hc
    cases e
    have l1 := dpa_len h2
    have l2 := dpa_len h4
    refine ⟨a, b, xs, ys, rfl, rfl, ex _ _ h1, ex _ _ h3, Evl.sz_of (by rw [l1, l2]; exact of_decide_eq_true hc), fun p hp => ?_⟩
    have gr := Grow.new (m := none) (o := .lst (xs ++ ys)) ex hp
    exact k _ _ _ gr (.lst upd_same (dpa_ex gr.f _ _ (dpa_app h2 h4)))
  · cases e
def addD : D → D → Option D := fun x y => (addI x y).or ((addS x y).or ((addT x y).or (addL x y)))
theorem e_add (ha : E X g a ta) (hb : E X g b tb) : E X g (.BinOp a .Add b pos) (dBin addD ta tb) := e_op (op_add.or (op_add_str.or (op_catA.or op_cat))) (opd_addI.or (opd_addS.or (opd_addT.or opd_addL))) ha hb
/-! ### comparisons -/
def shp (x : D) : Bool := SeqAt.shaped x
theorem shp_lay {x : D} (h : shp x = true) : x.canLay0 = true := by
  unfold shp SeqAt.shaped at h
  rw [Bool.and_eq_true] at h
  exact h.1
def eqD : D → D → Option D := fun x y => if shp x && shp y then some (.bool (PyData.eqv x y)) else none
def neD : D → D → Option D := fun x y => if shp x && shp y then some (.bool (!PyData.eqv x y)) else none
theorem opd_eq : OpD K (rEqD K) eqD := by
  intro F H vx vy x y d Q ex dx dy e k
  unfold eqD at e
  split at e
  · rename_i hc
    rw [Bool.and_eq_true] at hc
    cases e
    exact ⟨x, y, dp_l2 ex _ _ (shp_lay hc.1) dx, dp_l2 ex _ _ (shp_lay hc.2) dy, hc.1, hc.2, k _ F H (Grow.refl ex) (.bl _)⟩
  · cases e
theorem opd_ne : OpD K (rNeD K) neD := by
  intro F H vx vy x y d Q ex dx dy e k
  unfold neD at e
  split at e
  · rename_i hc
    rw [Bool.and_eq_true] at hc
    cases e
    exact ⟨x, y, dp_l2 ex _ _ (shp_lay hc.1) dx, dp_l2 ex _ _ (shp_lay hc.2) dy, hc.1, hc.2, k _ F H (Grow.refl ex) (.bl _)⟩
  · cases e
theorem e_eq (hu : X.A.units + 64 < cLine) (ha : E X g a ta) (hb : E X g b tb) : E X g (.Compare a [.Eq] [b] pos) (dBin eqD ta tb) := e_cmpR (op_eqD hu) opd_eq ha hb (nomark _)
theorem e_ne (hu : X.A.units + 64 < cLine) (ha : E X g a ta) (hb : E X g b tb) : E X g (.Compare a [.NotEq] [b] pos) (dBin neD ta tb) := e_cmpR (op_neD hu) opd_ne ha hb (nomark _)
theorem b_eq (hu : X.A.units + 64 < cLine) (ha : E X g a ta) (hb : E X g b tb) : B X g (.Compare a [.Eq] [b] pos) (bVal (dBin eqD ta tb)) := b_cmpR (op_eqD hu) opd_eq ha hb (nomark _)
theorem b_ne (hu : X.A.units + 64 < cLine) (ha : E X g a ta) (hb : E X g b tb) : B X g (.Compare a [.NotEq] [b] pos) (bVal (dBin neD ta tb)) := b_cmpR (op_neD hu) opd_ne ha hb (nomark _)
theorem e_lt (ha : E X g a ta) (hb : E X g b tb) : E X g (.Compare a [.Lt] [b] pos) (dBin ltD ta tb) := e_cmpR op_lt opd_IB ha hb (nomark _)
theorem e_le (ha : E X g a ta) (hb : E X g b tb) : E X g (.Compare a [.LtE] [b] pos) (dBin leD ta tb) := e_cmpR op_le opd_IB ha hb (nomark _)
theorem e_gt (ha : E X g a ta) (hb : E X g b tb) : E X g (.Compare a [.Gt] [b] pos) (dBin gtD ta tb) := e_cmpR op_gt opd_IB ha hb (nomark _)
theorem e_ge (ha : E X g a ta) (hb : E X g b tb) : E X g (.Compare a [.GtE] [b] pos) (dBin geD ta tb) := e_cmpR op_ge opd_IB ha hb (nomark _)
theorem b_lt (ha : E X g a ta) (hb : E X g b tb) : B X g (.Compare a [.Lt] [b] pos) (bVal (dBin ltD ta tb)) := b_cmpR op_lt opd_IB ha hb (nomark _)
theorem b_le (ha : E X g a ta) (hb : E X g b tb) : B X g (.Compare a [.LtE] [b] pos) (bVal (dBin leD ta tb)) := b_cmpR op_le opd_IB ha hb (nomark _)
theorem b_gt (ha : E X g a ta) (hb : E X g b tb) : B X g (.Compare a [.Gt] [b] pos) (bVal (dBin gtD ta tb)) := b_cmpR op_gt opd_IB ha hb (nomark _)
theorem b_ge (ha : E X g a ta) (hb : E X g b tb) : B X g (.Compare a [.GtE] [b] pos) (bVal (dBin geD ta tb)) := b_cmpR op_ge opd_IB ha hb (nomark _)
theorem e_lele (ha : E X g a ta) (hb : E X g b tb) (hc : E X g c tc) (hm : lastMarks [.LtE, .LtE] [b, c] = false := by rfl) : E X g (.Compare a [.LtE, .LtE] [b, c] pos) (dChain leD leD ta tb tc) := e_chain op_le opd_IB op_le opd_IB ha hb hc hm
def isND : D → D → Option D := fun x y => match y with | .none => some (.bool (match x with | .none => true | _ => false)) | _ => none
def notND : D → D → Option D := fun x y => match y with | .none => some (.bool (match x with | .none => false | _ => true)) | _ => none
theorem opd_isN : OpD K (fun x y H Q => y = .non ∧ Q (.bl (decide (x = .non))) H) isND := by
  intro F H vx vy x y d Q ex dx dy e k
  unfold isND at e
  cases dy <;> try (cases e; done)
  cases e
  refine ⟨rfl, k _ F H (Grow.refl ex) ?_⟩
  cases dx <;> exact .bl _
theorem opd_notN : OpD K (fun x y H Q => y = .non ∧ Q (.bl (!decide (x = .non))) H) notND := by
  intro F H vx vy x y d Q ex dx dy e k
  unfold notND at e
  cases dy <;> try (cases e; done)
  cases e
  refine ⟨rfl, k _ F H (Grow.refl ex) ?_⟩
  cases dx <;> exact .bl _
theorem e_is (ha : E X g a ta) (hb : E X g b tb) : E X g (.Compare a [.Is] [b] pos) (dBin isND ta tb) := e_cmpR op_isN opd_isN ha hb (nomark _)
theorem e_isnot (ha : E X g a ta) (hb : E X g b tb) : E X g (.Compare a [.IsNot] [b] pos) (dBin notND ta tb) := e_cmpR op_notN opd_notN ha hb (nomark _)
theorem b_is (ha : E X g a ta) (hb : E X g b tb) : B X g (.Compare a [.Is] [b] pos) (bVal (dBin isND ta tb)) := b_cmpR op_isN opd_isN ha hb (nomark _)
theorem b_isnot (ha : E X g a ta) (hb : E X g b tb) : B X g (.Compare a [.IsNot] [b] pos) (bVal (dBin notND ta tb)) := b_cmpR op_notN opd_notN ha hb (nomark _)
/-! ### in -/
def flatD : D → Bool
  | .none | .bool _ | .int _ | .str _ => true
  | _ => false
theorem flat_of {F : Hp} {v : V} {d : D} (h : Dp K F v d) (hf : flatD d = true) : flatV v = true := by
  cases h <;> first | rfl | cases hf
theorem eqV_of {F : Hp} {v w : V} {d e : D} (h : Dp K F v d) (h' : Dp K F w e) (hf : flatD d = true) (hf' : flatD e = true) : eqV v w = PyData.eqv d e := by
  cases h <;> cases h' <;> first | rfl | (cases hf; done) | (cases hf'; done) | (simp only [eqV, PyData.eqv])
theorem flats_of {F : Hp} : ∀ {vs : List V} {ds : List D}, DpAll K F vs ds → ds.all flatD = true → vs.all flatV = true
  | _, _, .nil, _ => rfl
  | _, _, .cons h t, hf => by
    rw [List.all_cons, Bool.and_eq_true] at hf ⊢
    exact ⟨flat_of h hf.1, flats_of t hf.2⟩
theorem inV_of {F : Hp} {v : V} {d : D} (h : Dp K F v d) (hd : flatD d = true) : ∀ {vs : List V} {ds : List D}, DpAll K F vs ds → ds.all flatD = true → inV v vs = ds.any fun y => PyData.eqv y d
  | _, _, .nil, _ => rfl
  | _, _, .cons h' t, hf => by
    rw [List.all_cons, Bool.and_eq_true] at hf
    have ih := inV_of h hd t hf.2
    unfold inV at ih ⊢
    rw [List.any_cons, List.any_cons, ih, eqV_of h' h hf.1 hd]
def itemsOf : D → Option (List D)
  | .list ds | .tuple ds => some ds
  | _ => none
def inSeq (neg : Bool) : D → D → Option D := fun x y => match itemsOf y with | some ds => if flatD x && ds.all flatD then some (.bool (if neg then !(ds.any fun y => PyData.eqv y x) else ds.any fun y => PyData.eqv y x)) else none | none => none
theorem seq_of {F H : Hp} {v : V} {d : D} {ds : List D} (ex : Ex F H) (h : Dp K F v d) (hi : itemsOf d = some ds) : ∃ p xs, v = .ref p ∧ (SqL K H p xs ∨ SqT K H p xs) ∧ DpAll K F xs ds := by
  cases h <;> cases hi
  · rename_i a xs h1 h2
    exact ⟨a, xs, rfl, .inl (SqL.of (ex _ _ h1)), h2⟩
  · rename_i a xs h1 h2
    exact ⟨a, xs, rfl, .inr (Evl.ex_t ex h1), h2⟩
theorem opd_inSeq {neg : Bool} : OpD K (rIn K neg) (inSeq neg) := by
  intro F H vx vy x y d Q ex dx dy e k
  unfold inSeq at e
  split at e
  · rename_i ds hi
    split at e
    · rename_i hc
      rw [Bool.and_eq_true] at hc
      cases e
      obtain ⟨p, xs, rfl, hs, da⟩ := seq_of ex dy hi
      refine ⟨p, xs, rfl, hs, flat_of dx hc.1, flats_of da hc.2, ?_⟩
      rw [inV_of dx hc.1 da hc.2]
      exact k _ F H (Grow.refl ex) (.bl _)
    · cases e
  · cases e
def inStr (neg : Bool) : D → D → Option D := fun x y => match x, y with | .str c, .str z => (match c.cps.toList with | [n] => some (.bool (if neg then !decide (n ∈ z.cps.toList) else decide (n ∈ z.cps.toList))) | _ => none) | _, _ => none
theorem opd_inStr : OpD K (fun x y H Q => ∃ (c : Nat) (z : Str), x = .str ⟨#[c]⟩ ∧ y = .str z ∧ Q (.bl (decide (c ∈ z.cps.toList))) H) (inStr false) := by
  intro F H vx vy x y d Q ex dx dy e k
  unfold inStr at e
  cases dx <;> cases dy <;> try (cases e; done)
  rename_i c z
  dsimp only at e
  split at e
  · rename_i n hn
    cases e
    refine ⟨n, z, ?_, rfl, k _ F H (Grow.refl ex) (.bl _)⟩
    obtain ⟨cs⟩ := c
    have : cs = #[n] := by
      apply Array.ext'
      exact hn
    rw [this]
  · cases e
theorem opd_notinStr : OpD K (fun x y H Q => ∃ (c : Nat) (z : Str), x = .str ⟨#[c]⟩ ∧ y = .str z ∧ Q (.bl (!decide (c ∈ z.cps.toList))) H) (inStr true) := by
  intro F H vx vy x y d Q ex dx dy e k
  unfold inStr at e
  cases dx <;> cases dy <;> try (cases e; done)
  rename_i c z
  dsimp only at e
  split at e
  · rename_i n hn
    cases e
    refine ⟨n, z, ?_, rfl, k _ F H (Grow.refl ex) (.bl _)⟩
    obtain ⟨cs⟩ := c
    have : cs = #[n] := by
      apply Array.ext'
      exact hn
    rw [this]
  · cases e
def inD : D → D → Option D := fun x y => (inSeq false x y).or (inStr false x y)
def notinD : D → D → Option D := fun x y => (inSeq true x y).or (inStr true x y)
theorem e_in (ha : E X g a ta) (hb : E X g b tb) (hm : behindInMarks .In b = false := by rfl) : E X g (.Compare a [.In] [b] pos) (dBin inD ta tb) := e_cmpR (op_in_seq.or op_in_sign) (opd_inSeq.or opd_inStr) ha hb hm
theorem b_in (ha : E X g a ta) (hb : E X g b tb) (hm : behindInMarks .In b = false := by rfl) : B X g (.Compare a [.In] [b] pos) (bVal (dBin inD ta tb)) := b_cmpR (op_in_seq.or op_in_sign) (opd_inSeq.or opd_inStr) ha hb hm
theorem e_notin (ha : E X g a ta) (hb : E X g b tb) (hm : behindInMarks .NotIn b = false := by rfl) : E X g (.Compare a [.NotIn] [b] pos) (dBin notinD ta tb) := e_cmpR (op_notIn_seq.or op_notIn_sign) (opd_inSeq.or opd_notinStr) ha hb hm
theorem b_notin (ha : E X g a ta) (hb : E X g b tb) (hm : behindInMarks .NotIn b = false := by rfl) : B X g (.Compare a [.NotIn] [b] pos) (bVal (dBin notinD ta tb)) := b_cmpR (op_notIn_seq.or op_notIn_sign) (opd_inSeq.or opd_notinStr) ha hb hm
end
end DL

namespace DL
open PySem L2
section
variable {X : Cx} {g : G} {a b c e : Expr} {es : List Expr} {ta tb tc t : DT} {pos : Pos} {u : DA} {K : Fg}
theorem dp_list {F : Hp} {v : V} {ds : List D} (h : Dp K F v (.list ds)) : ∃ p xs, v = .ref p ∧ F p = some (.lst xs) ∧ DpAll K F xs ds := by
  cases h with | lst h1 h2 => exact ⟨_, _, rfl, h1, h2⟩
theorem dp_tuple {F : Hp} {v : V} {ds : List D} (h : Dp K F v (.tuple ds)) : ∃ p xs, v = .ref p ∧ SqT K F p xs ∧ DpAll K F xs ds := by
  cases h with | tup h1 h2 => exact ⟨_, _, rfl, h1, h2⟩
theorem dp_int {F : Hp} {v : V} {i : Int} (h : Dp K F v (.int i)) : v = .int i := by cases h; rfl
theorem dp_str {F : Hp} {v : V} {i : Str} (h : Dp K F v (.str i)) : v = .str i := by cases h; rfl
theorem dp_bool {F : Hp} {v : V} {i : Bool} (h : Dp K F v (.bool i)) : v = .bl i := by cases h; rfl
/-! ### subscripts -/
def ixSq : D → D → Option D := fun x y => match itemsOf x, y with | some ds, .int i => atI ds i | _, _ => none
def ixSt : D → D → Option D := fun x y => match x, y with | .str z, .int i => if decide (z.length ≤ 100000) then (atI z.cps.toList i).map fun c => .str ⟨#[c]⟩ else none | _, _ => none
def ixD : D → D → Option D := fun x y => (ixSq x y).or (ixSt x y)
theorem atI_of {F : Hp} {vs : List V} {ds : List D} {i : Int} {d : D} (h : DpAll K F vs ds) (e : atI ds i = some d) : ∃ v, atI vs i = some v ∧ Dp K F v d := by
  unfold atI at e ⊢
  rw [dpa_len h]
  cases q : ixN ds.length i with
  | none => rw [q] at e; cases e
  | some j =>
    rw [q] at e
    exact dpa_get' h e
theorem opd_ixSq : OpD K (fun x y H Q => rIxL K x y H Q ∨ rIxT K x y H Q) ixSq := by
  intro F H vx vy x y d Q ex dx dy e k
  unfold ixSq at e
  split at e
  · rename_i ds i hi
    obtain ⟨p, xs, rfl, hs, da⟩ := seq_of ex dx hi
    cases dy
    obtain ⟨v, hv, dv⟩ := atI_of da e
    rcases hs with hs | hs
    · exact .inl ⟨p, xs, _, v, rfl, rfl, hs, hv, k _ F H (Grow.refl ex) dv⟩
    · exact .inr ⟨p, xs, _, v, rfl, rfl, hs, hv, k _ F H (Grow.refl ex) dv⟩
  · cases e
theorem opd_ixSt : OpD K rIxS ixSt := by
  intro F H vx vy x y d Q ex dx dy e k
  unfold ixSt at e
  cases dx <;> cases dy <;> try (cases e; done)
  rename_i z i
  dsimp only at e
  split at e
  · rename_i hc
    cases q : atI z.cps.toList i with
    | none => rw [q] at e; cases e
    | some c =>
      rw [q] at e
      cases e
      exact ⟨z, i, c, rfl, rfl, Evl.sz_of (of_decide_eq_true hc), q, k _ F H (Grow.refl ex) (.str _)⟩
  · cases e
theorem e_sub1 (ha : E X g a ta) (hb : E X g b tb) (hs : PlainIx b := by exact fun _ _ => rfl) : E X g (.Subscript a b pos) (dBin ixD ta tb) := e_ix ((ix_list.or ix_tup).or ix_str) (opd_ixSq.or opd_ixSt) ha hb hs
/-! ### slices -/
abbrev DO := Sl → Nat → (Option Int → Nat → Prop) → Prop
def SO (K : Fg) (g : G) (to : TO) (t : DO) : Prop := ∀ σ F H ρ n (P : Option Int → Nat → Prop) (Q : Option Int → Hp → Prop), SR K g F H σ ρ n → t ρ n P →
  (∀ o n' F' H', P o n' → Grow g.m F H F' H' → SR K g F' H' σ ρ n' → Q o H') → to σ H Q
structure Op (X : Cx) (g : G) (e : Option Expr) (t : DO) : Prop where
  ok : ∃ te, PO X e te ∧ SO X.K g te t
def oNone : DO := fun _ n P => P none n
def oSome (t : DT) : DO := fun ρ n P => t ρ n fun d n' => ∃ i, d = .int i ∧ P (some i) n'
theorem o_none : Op X g none oNone := ⟨_, po_none, fun σ F H ρ n P Q sr p k => k none n F H p (Grow.refl sr.ex) sr⟩
theorem o_some (h : E X g e t) : Op X g (some e) (oSome t) := by
  obtain ⟨te, p1, q1⟩ := h
  refine ⟨_, po_some p1, fun σ F H ρ n P Q sr p k => q1 σ F H ρ n _ _ sr p fun d n' v F' H' ⟨i, e, p'⟩ gr sr' dv => ?_⟩
  subst e
  cases dv
  exact ⟨i, rfl, k _ n' F' H' p' gr sr'⟩
def cutD (ds : List D) (lo hi : Option Int) : List D := (ds.drop (HT.sIx ds.length 0 lo)).take (HT.sIx ds.length ds.length hi - HT.sIx ds.length 0 lo)
theorem cut_of {F : Hp} {vs : List V} {ds : List D} {lo hi : Option Int} (h : DpAll K F vs ds) : DpAll K F (cutV vs lo hi) (cutD ds lo hi) := by
  unfold cutV cutD
  rw [dpa_len h]
  exact dpa_take _ (dpa_drop _ h)
def SlD (K : Fg) (r : V → Option Int → Option Int → Hp → VK → Prop) (f : D → Option Int → Option Int → Option D) : Prop := ∀ F H vx x lo hi d (Q : VK), Ex F H → Dp K F vx x → f x lo hi = some d →
  (∀ v F' H', Grow none F H F' H' → Dp K F' v d → Q v H') → r vx lo hi H Q
def slL : D → Option Int → Option Int → Option D := fun x lo hi => match x with | .list ds => some (.list (cutD ds lo hi)) | _ => none
def slT : D → Option Int → Option Int → Option D := fun x lo hi => match x with | .tuple ds => some (.tuple (cutD ds lo hi)) | _ => none
def slS : D → Option Int → Option Int → Option D := fun x lo hi => match x with | .str z => if decide (z.length ≤ 100000) then some (.str (cutS z lo hi)) else none | _ => none
theorem cut_whole {ds : List D} {lo hi : Option Int} (h : HT.sIx ds.length 0 lo = 0 ∧ HT.sIx ds.length ds.length hi = ds.length) : cutD ds lo hi = ds := by
  unfold cutD
  rw [h.1, h.2]
  simp
theorem sld_L : SlD K (rSlL K) slL := by
  intro F H vx x lo hi d Q ex dx e k
  unfold slL at e
  cases dx <;> try (cases e; done)
  rename_i a xs ds h1 h2
  cases e
  refine ⟨a, xs, rfl, SqL.of (ex _ _ h1), fun p hp => ?_⟩
  have gr := Grow.new (m := none) (o := .lst (cutV xs lo hi)) ex hp
  exact k _ _ _ gr (.lst upd_same (dpa_ex gr.f _ _ (cut_of h2)))
theorem sld_T : SlD K (rSlA K) slT := by
  intro F H vx x lo hi d Q ex dx e k
  unfold slT at e
  cases dx <;> try (cases e; done)
  rename_i a xs ds h1 h2
  cases e
  have hl := dpa_len h2
  refine ⟨a, xs, rfl, Evl.ex_t ex h1, fun z => ?_, fun z p hp => ?_⟩
  · rw [hl] at z
    rw [cut_whole z] at k
    exact k _ F H (Grow.refl ex) (.tup h1 h2)
  · have gr := Grow.new (m := none) (o := .tup (cutV xs lo hi)) ex hp
    exact k _ _ _ gr (.tup (SqT.of upd_same) (dpa_ex gr.f _ _ (cut_of h2)))
theorem sld_S : SlD K rSlS slS := by
  intro F H vx x lo hi d Q ex dx e k
  unfold slS at e
  cases dx <;> try (cases e; done)
  rename_i z
  dsimp only at e
  split at e
  · rename_i hc
    cases e
    exact ⟨z, rfl, Evl.sz_of (of_decide_eq_true hc), k _ F H (Grow.refl ex) (.str _)⟩
  · cases e
theorem SlR.or {r r' : V → Option Int → Option Int → Hp → VK → Prop} (h : SlR X r) (h' : SlR X r') : SlR X (fun x lo hi H Q => r x lo hi H Q ∨ r' x lo hi H Q) := by
  intro pins s σ H x v vl vu lo hi sl Q I rx hs pl pu q
  rcases q with q | q
  · exact h pins s σ H x v vl vu lo hi sl Q I rx hs pl pu q
  · exact h' pins s σ H x v vl vu lo hi sl Q I rx hs pl pu q
theorem SlD.or {r r' : V → Option Int → Option Int → Hp → VK → Prop} {f f' : D → Option Int → Option Int → Option D} (h : SlD K r f) (h' : SlD K r' f') : SlD K (fun x lo hi H Q => r x lo hi H Q ∨ r' x lo hi H Q) (fun x lo hi => (f x lo hi).or (f' x lo hi)) := by
  intro F H vx x lo hi d Q ex dx e k
  replace e : (f x lo hi).or (f' x lo hi) = some d := e
  cases q : f x lo hi with
  | some z =>
    rw [q] at e
    cases e
    exact .inl (h F H vx x lo hi _ Q ex dx q k)
  | none =>
    rw [q] at e
    exact .inr (h' F H vx x lo hi d Q ex dx e k)
def slD : D → Option Int → Option Int → Option D := fun x lo hi => (slL x lo hi).or ((slT x lo hi).or (slS x lo hi))
def dSl (ta : DT) (tl th : DO) : DT := fun ρ n P => ta ρ n fun x n1 => tl ρ n1 fun lo n2 => th ρ n2 fun hi n3 => ∃ d, slD x lo hi = some d ∧ P d n3
theorem e_slice {lo hi : Option Expr} {tl th : DO} {p2 : Pos} (ha : E X g a ta) (hl : Op X g lo tl) (hh : Op X g hi th) : E X g (.Subscript a (.Slice lo hi none p2) pos) (dSl ta tl th) := by
  obtain ⟨te, p1, q1⟩ := ha
  obtain ⟨to1, p2, q2⟩ := hl
  obtain ⟨to2, p3, q3⟩ := hh
  refine ⟨_, pe_slice (SlR.or sl_list (SlR.or sl_tupA sl_str)) p1 p2 p3, fun σ F H ρ n P Q sr p k => q1 σ F H ρ n _ _ sr p fun x n1 vx F1 H1 p1 g1 sr1 dx => q2 σ F1 H1 ρ n1 _ _ sr1 p1 fun l n2 F2 H2 p2 g2 sr2 => q3 σ F2 H2 ρ n2 _ _ sr2 p2 fun h n3 F3 H3 ⟨d, e, p3⟩ g3 sr3 => ?_⟩
  exact SlD.or sld_L (SlD.or sld_T sld_S) F3 H3 vx x l h d Q sr3.ex (dp_ex (g2.f.trans g3.f) _ _ dx) e fun v F4 H4 gr dv => k d n3 v F4 H4 p3 (((g1.trans g2).trans g3).trans gr.any) (sr3.grow gr) dv
/-- xs[::-1] of a list -/
def revL : D → Option D := fun x => match x with | .list ds => some (.list ds.reverse) | _ => none
theorem e_revL {k : Nat} {p1 p2 p3 : Pos} (ha : E X g a ta) : E X g (.Subscript a (.Slice none none (some (.UnaryOp .USub (.Constant (.int 1) k p1) p2)) p3) pos) (dUn revL ta) := by
  obtain ⟨te, p1, q1⟩ := ha
  refine ⟨_, pe_revL p1, fun σ F H ρ n P Q sr p k => q1 σ F H ρ n _ _ sr p fun x n1 vx F1 H1 ⟨d, e, p1⟩ g1 sr1 dx => ?_⟩
  unfold revL at e
  split at e
  · cases e
    obtain ⟨q, xs, rfl, h1, h2⟩ := dp_list dx
    refine ⟨q, xs, rfl, SqL.of (sr1.ex _ _ h1), fun p hp => ?_⟩
    have gr := Grow.new (m := none) (o := .lst xs.reverse) sr1.ex hp
    exact k _ n1 _ _ _ p1 (g1.trans gr.any) (sr1.grow gr) (.lst upd_same (dpa_ex gr.f _ _ (dpa_rev h2)))
  · cases e
/-! ### built-ins -/
def lenD : List D → Option D := fun ds => match ds with | [.list xs] | [.tuple xs] => some (.int (xs.length : Nat)) | [.str z] => if decide (z.length ≤ 100000) then some (.int (z.length : Nat)) else none | _ => none
theorem cd_len : CallD K (fun xs H Q => ∃ x n, xs = [x] ∧ LenV K x H n ∧ Q (.int n) H) lenD := by
  intro F H vs ds d Q ex da e k
  unfold lenD at e
  split at e
  · cases e
    cases da with | cons h1 h2 => cases h2; cases h1; rename_i xs a ys h3 h4; exact ⟨_, _, rfl, .inl ⟨ys, SqL.of (ex _ _ h3), dpa_len h4 ▸ rfl⟩, k _ F H (Grow.refl ex) (.int _)⟩
  · cases e
    cases da with | cons h1 h2 => cases h2; cases h1; rename_i xs a ys h3 h4; exact ⟨_, _, rfl, .inr ⟨ys, Evl.ex_t ex h3, dpa_len h4 ▸ rfl⟩, k _ F H (Grow.refl ex) (.int _)⟩
  · split at e
    · rename_i hc
      cases e
      cases da with | cons h1 h2 => cases h2; cases h1; exact ⟨_, _, rfl, ⟨Evl.sz_of (of_decide_eq_true hc), rfl⟩, k _ F H (Grow.refl ex) (.int _)⟩
    · cases e
  · cases e
theorem e_len {p : Pos} (hg : Gl X "len") (hm : X.mg "len" = none) (ha : A X g (e :: es) u) (hst : starEach (e :: es) X.env = (false, eval e X.env) :: starEach es X.env := by rfl) (hpl : (backTo pos (starEach es X.env)).any (·.1) = false := by rfl) : E X g (.Call (.Name "len" p) (e :: es) [] pos) (dCall lenD u) :=
  e_callB call_len cd_len hg hm PySem.boot_len ha (by decide) (by decide) hst hpl

def int1D : List D → Option D := fun ds => match ds with | [.int i] => some (.int i) | [.bool k] => some (.int (if k then 1 else 0)) | _ => none
theorem cd_int : CallD K (fun xs H Q => (∃ i, xs = [.int i] ∧ Q (.int i) H) ∨ ∃ k, xs = [.bl k] ∧ Q (.int (if k then 1 else 0)) H) int1D := by
  intro F H vs ds d Q ex da e k
  unfold int1D at e
  split at e
  · cases e
    cases da with | cons h1 h2 => cases h2; cases h1; exact .inl ⟨_, rfl, k _ F H (Grow.refl ex) (.int _)⟩
  · cases e
    cases da with | cons h1 h2 => cases h2; cases h1; exact .inr ⟨_, rfl, k _ F H (Grow.refl ex) (.int _)⟩
  · cases e
theorem e_intc {p : Pos} (hg : Gl X "int") (hm : X.mg "int" = none) (ha : A X g (e :: es) u) (hst : starEach (e :: es) X.env = (false, eval e X.env) :: starEach es X.env := by rfl) (hpl : (backTo pos (starEach es X.env)).any (·.1) = false := by rfl) : E X g (.Call (.Name "int" p) (e :: es) [] pos) (dCall int1D u) :=
  e_callTy call_int1 cd_int hg hm (by decide +kernel) ha (by decide) (by decide) hst hpl
def max2D : List D → Option D := fun ds => match ds with | [.int i, .int j] => some (.int (if j > i then j else i)) | _ => none
def min2D : List D → Option D := fun ds => match ds with | [.int i, .int j] => some (.int (if j < i then j else i)) | _ => none
theorem cd_max2 : CallD K (fun xs H Q => ∃ i j, xs = [.int i, .int j] ∧ Q (.int (if j > i then j else i)) H) max2D := by
  intro F H vs ds d Q ex da e k
  unfold max2D at e
  split at e
  · cases e
    cases da with | cons h1 h2 => cases h2 with | cons h3 h4 => cases h4; cases h1; cases h3; exact ⟨_, _, rfl, k _ F H (Grow.refl ex) (.int _)⟩
  · cases e
theorem cd_min2 : CallD K (fun xs H Q => ∃ i j, xs = [.int i, .int j] ∧ Q (.int (if j < i then j else i)) H) min2D := by
  intro F H vs ds d Q ex da e k
  unfold min2D at e
  split at e
  · cases e
    cases da with | cons h1 h2 => cases h2 with | cons h3 h4 => cases h4; cases h1; cases h3; exact ⟨_, _, rfl, k _ F H (Grow.refl ex) (.int _)⟩
  · cases e
theorem e_max2 {p : Pos} (hc : X.calm = true) (hg : Gl X "max") (hm : X.mg "max" = none) (ha : A X g (e :: es) u) (hst : starEach (e :: es) X.env = (false, eval e X.env) :: starEach es X.env := by rfl) (hpl : (backTo pos (starEach es X.env)).any (·.1) = false := by rfl) : E X g (.Call (.Name "max" p) (e :: es) [] pos) (dCall max2D u) :=
  e_callB (call_max2 hc) cd_max2 hg hm (by decide +kernel) ha (by decide) (by decide) hst hpl
theorem e_min2 {p : Pos} (hc : X.calm = true) (hg : Gl X "min") (hm : X.mg "min" = none) (ha : A X g (e :: es) u) (hst : starEach (e :: es) X.env = (false, eval e X.env) :: starEach es X.env := by rfl) (hpl : (backTo pos (starEach es X.env)).any (·.1) = false := by rfl) : E X g (.Call (.Name "min" p) (e :: es) [] pos) (dCall min2D u) :=
  e_callB (call_min2 hc) cd_min2 hg hm (by decide +kernel) ha (by decide) (by decide) hst hpl
def boolsOf : List D → Option (List Bool)
  | [] => some []
  | .bool b :: r => (boolsOf r).map (b :: ·)
  | _ => none
theorem boolsOf_eq : ∀ {ds : List D} {bs : List Bool}, boolsOf ds = some bs → ds = bs.map .bool
  | [], bs, h => by cases h; rfl
  | .bool b :: r, bs, h => by
    unfold boolsOf at h
    cases q : boolsOf r with
    | none => rw [q] at h; cases h
    | some cs =>
      rw [q] at h
      cases h
      rw [boolsOf_eq q]
      rfl
  | .none :: _, _, h => by simp [boolsOf] at h
  | .int _ :: _, _, h => by simp [boolsOf] at h
  | .str _ :: _, _, h => by simp [boolsOf] at h
  | .list _ :: _, _, h => by simp [boolsOf] at h
  | .tuple _ :: _, _, h => by simp [boolsOf] at h
  | .dict _ :: _, _, h => by simp [boolsOf] at h
theorem boolsOf_map (bs : List Bool) : boolsOf (bs.map .bool) = some bs := by
  induction bs with
  | nil => rfl
  | cons b r ih => rw [List.map_cons, boolsOf, ih]; rfl
def allD : List D → Option D := fun ds => match ds with | [.list xs] => (boolsOf xs).map fun bs => .bool (bs.all id) | _ => none
def anyD : List D → Option D := fun ds => match ds with | [.list xs] => (boolsOf xs).map fun bs => .bool (bs.any id) | _ => none
theorem cd_all : CallD K (rAll K) allD := by
  intro F H vs ds d Q ex da e k
  unfold allD at e
  split at e
  · rename_i xs
    cases q : boolsOf xs with
    | none => rw [q] at e; cases e
    | some bs =>
      rw [q] at e
      cases e
      have := boolsOf_eq q
      subst this
      cases da with
      | cons h1 h2 =>
        cases h2
        obtain ⟨p, ys, rfl, h3, h4⟩ := dp_list h1
        have := bls_dpa h4
        subst this
        exact ⟨p, bs, rfl, SqL.of (ex _ _ h3), k _ F H (Grow.refl ex) (.bl _)⟩
  · cases e
theorem cd_any : CallD K (rAny K) anyD := by
  intro F H vs ds d Q ex da e k
  unfold anyD at e
  split at e
  · rename_i xs
    cases q : boolsOf xs with
    | none => rw [q] at e; cases e
    | some bs =>
      rw [q] at e
      cases e
      have := boolsOf_eq q
      subst this
      cases da with
      | cons h1 h2 =>
        cases h2
        obtain ⟨p, ys, rfl, h3, h4⟩ := dp_list h1
        have := bls_dpa h4
        subst this
        exact ⟨p, bs, rfl, SqL.of (ex _ _ h3), k _ F H (Grow.refl ex) (.bl _)⟩
  · cases e
theorem e_all {p : Pos} (hc : X.calm = true) (hg : Gl X "all") (hm : X.mg "all" = none) (ha : A X g (e :: es) u) (hst : starEach (e :: es) X.env = (false, eval e X.env) :: starEach es X.env := by rfl) (hpl : (backTo pos (starEach es X.env)).any (·.1) = false := by rfl) : E X g (.Call (.Name "all" p) (e :: es) [] pos) (dCall allD u) :=
  e_callB (cr_all hc) cd_all hg hm (by decide +kernel) ha (by decide) (by decide) hst hpl
theorem e_any {p : Pos} (hc : X.calm = true) (hg : Gl X "any") (hm : X.mg "any" = none) (ha : A X g (e :: es) u) (hst : starEach (e :: es) X.env = (false, eval e X.env) :: starEach es X.env := by rfl) (hpl : (backTo pos (starEach es X.env)).any (·.1) = false := by rfl) : E X g (.Call (.Name "any" p) (e :: es) [] pos) (dCall anyD u) :=
  e_callB (cr_any hc) cd_any hg hm (by decide +kernel) ha (by decide) (by decide) hst hpl
/-- tuple(xs), list(xs) -/
def tupleD : List D → Option D := fun ds => match ds with | [.list xs] | [.tuple xs] => some (.tuple xs) | _ => none
theorem cd_tuple : CallD K (fun xs H Q => ∃ p ys, xs = [.ref p] ∧ ((SqL K H p ys ∧ ∀ l, H l = none → Q (.ref l) (upd H l (.tup ys))) ∨ (SqT K H p ys ∧ Q (.ref p) H))) tupleD := by
  intro F H vs ds d Q ex da e k
  unfold tupleD at e
  split at e
  · cases e
    cases da with
    | cons h1 h2 =>
      cases h2
      obtain ⟨p, ys, rfl, h3, h4⟩ := dp_list h1
      refine ⟨p, ys, rfl, .inl ⟨SqL.of (ex _ _ h3), fun l hl => ?_⟩⟩
      have gr := Grow.new (m := none) (o := .tup ys) ex hl
      exact k _ _ _ gr (.tup (SqT.of upd_same) (dpa_ex gr.f _ _ h4))
  · cases e
    cases da with
    | cons h1 h2 =>
      cases h2
      obtain ⟨p, ys, rfl, h3, h4⟩ := dp_tuple h1
      exact ⟨p, ys, rfl, .inr ⟨Evl.ex_t ex h3, k _ F H (Grow.refl ex) (.tup h3 h4)⟩⟩
  · cases e
theorem e_tuple {p : Pos} (hg : Gl X "tuple") (hm : X.mg "tuple" = none) (ha : A X g (e :: es) u) (hst : starEach (e :: es) X.env = (false, eval e X.env) :: starEach es X.env := by rfl) (hpl : (backTo pos (starEach es X.env)).any (·.1) = false := by rfl) : E X g (.Call (.Name "tuple" p) (e :: es) [] pos) (dCall tupleD u) :=
  e_callTy call_tuple_of cd_tuple hg hm (by decide +kernel) ha (by decide) (by decide) hst hpl
def listD : List D → Option (List D) := fun ds => match ds with | [.list xs] | [.tuple xs] => some xs | _ => none
theorem cl_list : CallL K (fun xs H Q => ∃ p ys, xs = [.ref p] ∧ (SqL K H p ys ∨ SqT K H p ys) ∧ ∀ l, H l = none → Q (.ref l) (upd H l (.lst ys))) listD := by
  intro F H vs ds d Q ex da e k
  unfold listD at e
  split at e
  · cases e
    cases da with
    | cons h1 h2 =>
      cases h2
      obtain ⟨p, ys, rfl, h3, h4⟩ := dp_list h1
      exact ⟨p, ys, rfl, .inl (SqL.of (ex _ _ h3)), fun l hl => k l ys hl h4⟩
  · cases e
    cases da with
    | cons h1 h2 =>
      cases h2
      obtain ⟨p, ys, rfl, h3, h4⟩ := dp_tuple h1
      exact ⟨p, ys, rfl, .inr (Evl.ex_t ex h3), fun l hl => k l ys hl h4⟩
  · cases e
theorem l_list {p : Pos} (hg : Gl X "list") (hm : X.mg "list" = none) (ha : A X g (e :: es) u) (hst : starEach (e :: es) X.env = (false, eval e X.env) :: starEach es X.env := by rfl) (hpl : (backTo pos (starEach es X.env)).any (·.1) = false := by rfl) : Ls X g (.Call (.Name "list" p) (e :: es) [] pos) (dCallL listD u) :=
  l_callTy call_list_of cl_list hg hm (by decide +kernel) ha (by decide) (by decide) hst hpl
/-! ### isinstance -/
def tyD : D → String
  | .none => "NoneType"
  | .bool _ => "bool"
  | .int _ => "int"
  | .str _ => "str"
  | .list _ => "list"
  | .tuple _ => "tuple"
  | .dict _ => "dict"
def isiD (T : String) : D → Option D := fun d => (kitB (tyD d) T).map .bool
theorem ty_of {F H : Hp} {v : V} {d : D} (ex : Ex F H) (h : Dp K F v d) : TyX K H v (.type (tyD d)) := by
  cases h with
  | non => exact .base .non
  | bl b => exact .base (.bl b)
  | int i => exact .base (.int i)
  | str x => exact .base (.str x)
  | lst h1 h2 => exact .base (.lst (ex _ _ h1))
  | dct h1 h2 => exact .base (.dK (ex _ _ h1))
  | tup h1 h2 =>
    rcases h1 with (h1 | ⟨o, h1⟩) | ⟨o, its, n, h1, h3, h4, _⟩
    · exact .base (.tup (ex _ _ h1))
    · exact .fTuple (ex _ _ h1)
    · exact .kTuple h1 h3
theorem e_isi (T : String) {x : Str} {p px : Pos} (hg : Gl X "isinstance") (hm : X.mg "isinstance" = none) (hg2 : Gl X x) (hm2 : X.mg x = none) (hv : bootBuiltins x = some (.type T)) (ha : E X g a ta) (hn : x ≠ "__name__" := by decide) (hd : (x == ("__debug__" : Str)) = false := by decide)
    (hst : starEach [a, .Name x px] X.env = (false, eval a X.env) :: starEach [.Name x px] X.env := by rfl) (hst2 : starEach [.Name x px] X.env = (false, eval (.Name x px) X.env) :: starEach [] X.env := by rfl) (hpl : (backTo pos (starEach [.Name x px] X.env)).any (·.1) = false := by rfl) :
    E X g (.Call (.Name "isinstance" p) [a, .Name x px] [] pos) (dUn (isiD T) ta) := by
  obtain ⟨te, p1, q1⟩ := ha
  refine ⟨_, pe_callB call_isi hg hm (by decide +kernel) (pa_cons p1 (pa_cons (pe_bltn (v := .ty T) hg2 hm2 hv rfl hn hd) pa_nil hst2) hst) (by decide) (by decide) hst hpl, fun σ F H ρ n P Q sr p k => q1 σ F H ρ n _ _ sr p fun x n1 vx F1 H1 ⟨d, e, p1⟩ g1 sr1 dx => ?_⟩
  unfold isiD at e
  cases q : kitB (tyD x) T with
  | none => rw [q] at e; cases e
  | some r =>
    rw [q] at e
    cases e
    exact ⟨vx, .ty T, .type (tyD x), .type T, r, rfl, .ty T, ty_of sr1.ex dx, kit_ty q, k _ n1 _ F1 H1 p1 g1 sr1 (.bl r)⟩

def isIntD : D → Option D := fun d => some (.bool (match d with | .int _ => true | .bool _ => true | _ => false))
def isBoolD : D → Option D := fun d => some (.bool (match d with | .bool _ => true | _ => false))
def isStrD : D → Option D := fun d => some (.bool (match d with | .str _ => true | _ => false))
def isTupD : D → Option D := fun d => some (.bool (match d with | .tuple _ => true | _ => false))
def isLstD : D → Option D := fun d => some (.bool (match d with | .list _ => true | _ => false))
theorem isi_int : isiD "int" = isIntD := by funext d; cases d <;> (unfold isiD isIntD tyD; kernel_rfl)
theorem isi_bool : isiD "bool" = isBoolD := by funext d; cases d <;> (unfold isiD isBoolD tyD; kernel_rfl)
theorem isi_str : isiD "str" = isStrD := by funext d; cases d <;> (unfold isiD isStrD tyD; kernel_rfl)
theorem isi_tup : isiD "tuple" = isTupD := by funext d; cases d <;> (unfold isiD isTupD tyD; kernel_rfl)
theorem isi_lst : isiD "list" = isLstD := by funext d; cases d <;> (unfold isiD isLstD tyD; kernel_rfl)
section
variable {p px : Pos} (hg : Gl X "isinstance") (hm : X.mg "isinstance" = none) (ha : E X g a ta)
include hg hm ha
theorem e_isInt (hg2 : Gl X "int") (hm2 : X.mg "int" = none) (hst : starEach [a, .Name "int" px] X.env = (false, eval a X.env) :: starEach [.Name "int" px] X.env := by rfl) : E X g (.Call (.Name "isinstance" p) [a, .Name "int" px] [] pos) (dUn isIntD ta) := isi_int ▸ e_isi "int" hg hm hg2 hm2 (by decide +kernel) ha (by decide) (by decide) hst
theorem e_isBool (hg2 : Gl X "bool") (hm2 : X.mg "bool" = none) (hst : starEach [a, .Name "bool" px] X.env = (false, eval a X.env) :: starEach [.Name "bool" px] X.env := by rfl) : E X g (.Call (.Name "isinstance" p) [a, .Name "bool" px] [] pos) (dUn isBoolD ta) := isi_bool ▸ e_isi "bool" hg hm hg2 hm2 (by decide +kernel) ha (by decide) (by decide) hst
theorem e_isStr (hg2 : Gl X "str") (hm2 : X.mg "str" = none) (hst : starEach [a, .Name "str" px] X.env = (false, eval a X.env) :: starEach [.Name "str" px] X.env := by rfl) : E X g (.Call (.Name "isinstance" p) [a, .Name "str" px] [] pos) (dUn isStrD ta) := isi_str ▸ e_isi "str" hg hm hg2 hm2 (by decide +kernel) ha (by decide) (by decide) hst
theorem e_isTup (hg2 : Gl X "tuple") (hm2 : X.mg "tuple" = none) (hst : starEach [a, .Name "tuple" px] X.env = (false, eval a X.env) :: starEach [.Name "tuple" px] X.env := by rfl) : E X g (.Call (.Name "isinstance" p) [a, .Name "tuple" px] [] pos) (dUn isTupD ta) := isi_tup ▸ e_isi "tuple" hg hm hg2 hm2 (by decide +kernel) ha (by decide) (by decide) hst
end
end
end DL

namespace DL
open PySem L2
/-! ### constants of the module, defs by name -/
def Cst (K : Fg) (mg : Str → Option Value) (x : Str) (d : D) : Prop := ∃ v u, mg x = some u ∧ RelV v u ∧ ∀ F, Dp K F v d
structure FnIs (P : Program) (w : World) (K : Fg) (mg : Str → Option Value) (base : Heap) (k : Nat) (x : Str) (ps : List Str) (c : Ct) : Prop where
  ok : ∃ f fd, FnOk P w K mg base CX0 k f fd ps (spD K c) ∧ mg x = some (.ref f) ∧ PySem.W.keepIn K (.ref f) = true ∧ Binds K fd ps []
structure FunAt (K : Fg) (mg : Str → Option Value) (x : Str) (st : Stmt) (ps : List Str) : Prop where
  ok : ∃ f fd, Fun K x x st f fd ∧ mg x = some (.ref f) ∧ Binds K fd ps []
section
variable {X : Cx} {g : G} {a b c e : Expr} {es : List Expr} {ta tb tc t : DT} {pos : Pos} {u : DA} {K : Fg}
theorem e_const {x : Str} {d : D} (h : Cst X.K X.mg x d) (hg : Gl X x) (hdb : (x == ("__debug__" : Str)) = false := by decide) : E X g (.Name x pos) (dC d) := by
  obtain ⟨v, u, hm, r, hd⟩ := h
  exact e_glob hg hm r hd hdb
theorem e_call {ct : Ct} {k : Nat} {ps : List Str} {x : Str} {p : Pos} (h : FnIs X.prog X.w X.K X.mg X.base k x ps ct) (hr : Room k X.A) (hg : Gl X x)
    (ha : A X g (e :: es) u) (hdb : (x == ("__debug__" : Str)) = false := by decide) (he : starEach (e :: es) X.env = (false, eval e X.env) :: starEach es X.env := by rfl) (hpl : (backTo pos (starEach es X.env)).any (·.1) = false := by rfl) :
    E X g (.Call (.Name x p) (e :: es) [] pos) (dFn ct noX u) := by
  obtain ⟨f, fd, h1, h2, h3, h4⟩ := h
  exact e_fn h1 hr hg h2 h3 h4 ha hdb he hpl
theorem fn_is {P : Program} {w : World} {K : Fg} {mg : Str → Option Value} {base : Heap} {x : Str} {st : Stmt} {N ps : List Str} {k : Nat} {c : Ct} {t : DS} (Fn : FunAt K mg x st ps) (S : FnScope N ps (defScope st)) (hlen : ∀ x ss n, c.pre x ss n → ss.length = ps.length)
    (hbody : ∀ (f : Addr) (cdv : Value) (A : Around) (outer : List Env) (s : Shared) (H : Hp) (E : XK) (g : G), Room k (A.deeper (PyProof.Rows.envOfC x (defScope st) s.heap.objs.size f cdv)) →
      Sts (cxOf CX0 P w K mg base N x (defScope st) f cdv A outer s H E).nox g (defBody st) t)
    (ht : ∀ x ss n, c.pre x ss n → t { nx := fun _ n' => c.post x n .none n', rt := fun d n' => c.post x n d n' } (startD N ss) n) : FnIs P w K mg base (k + 1) x ps c := by
  obtain ⟨f, fd, h1, h2, h3⟩ := Fn
  exact ⟨f, fd, fn_ok h1 S hlen (fun cdv A outer s H E g => hbody f cdv A outer s H E g) ht, h2, h1.kp, h3⟩
theorem b_lele (ha : E X g a ta) (hb : E X g b tb) (hc : E X g c tc) (hm : lastMarks [.LtE, .LtE] [b, c] = false := by rfl) : B X g (.Compare a [.LtE, .LtE] [b, c] pos) (bVal (dChain leD leD ta tb tc)) := b_chain op_le opd_IB op_le opd_IB ha hb hc hm

/-! ### own lists seen as data for a while -/
mutual
def noL : D → Bool
  | .none | .bool _ | .int _ | .str _ => true
  | .tuple xs => noLs xs
  | .list _ | .dict _ => false
def noLs : List D → Bool
  | [] => true
  | x :: xs => noL x && noLs xs
end
def viewS : S → Option S
  | .o ds => some (.d (.list ds))
  | .m => none
  | .s _ => none
  | s => some s
def view (ρ : Sl) : Sl := ρ.map fun o => o.bind viewS
def Owned (σ : L2.St) (ρ : Sl) (l : Addr) : Prop := ∃ (i : Nat) (ds : List D), ρ[i]? = some (some (.o ds)) ∧ σ[i]? = some (some (.ref l))
open Classical in
noncomputable def Fup (F H : Hp) (σ : L2.St) (ρ : Sl) : Hp := fun l => if Owned σ ρ l then H l else F l
open Classical in
noncomputable def Fdn (F : Hp) (σ : L2.St) (ρ : Sl) : Hp := fun l => if Owned σ ρ l then none else F l
section
variable {F H : Hp} {σ : L2.St} {ρ : Sl} {n : Nat}
theorem fup_own {l : Addr} (h : Owned σ ρ l) : Fup F H σ ρ l = H l := if_pos h
theorem fup_not {l : Addr} (h : ¬ Owned σ ρ l) : Fup F H σ ρ l = F l := if_neg h
theorem fdn_own {l : Addr} (h : Owned σ ρ l) : Fdn F σ ρ l = none := if_pos h
theorem fdn_not {l : Addr} (h : ¬ Owned σ ρ l) : Fdn F σ ρ l = F l := if_neg h
theorem SR.owned (sr : SR K g F H σ ρ n) {l : Addr} (h : Owned σ ρ l) : ∃ xs, H l = some (.lst xs) ∧ F l = none ∧ g.B l = none := by
  obtain ⟨i, ds, e1, e2⟩ := h
  obtain ⟨v, hv, l', xs, rfl, b, f, hl, _⟩ := sr.sl i _ e1
  rw [e2] at hv
  cases hv
  exact ⟨xs, hl, f, b⟩
theorem SR.exUp (sr : SR K g F H σ ρ n) : Ex F (Fup F H σ ρ) := fun a o h => by
  have : ¬ Owned σ ρ a := fun z => by
    obtain ⟨_, _, f, _⟩ := sr.owned z
    rw [f] at h; cases h
  rw [fup_not this]; exact h
theorem view_get {i : Nat} {s : S} (h : (view ρ)[i]? = some (some s)) : ∃ s0, ρ[i]? = some (some s0) ∧ viewS s0 = some s := by
  unfold view at h
  rw [List.getElem?_map] at h
  cases q : ρ[i]? with
  | none => rw [q] at h; cases h
  | some o =>
    rw [q] at h
    cases o with
    | none => cases h
    | some s0 => exact ⟨s0, rfl, Option.some.inj h⟩
theorem SR.up (sr : SR K g F H σ ρ n) : SR K ⟨H, Fup F H σ ρ, none, g.xp⟩ (Fup F H σ ρ) H σ (view ρ) n := by
  have ex : Ex (Fup F H σ ρ) H := fun a o h => by
    by_cases z : Owned σ ρ a
    · rw [fup_own z] at h; exact h
    · rw [fup_not z] at h; exact sr.ex a o h
  refine ⟨Grow.refl ex, fun a e => (by cases e), fun i s e => ?_, fun i j l ds es e1 _ _ _ => ?_, ?_⟩
  · obtain ⟨s0, e0, ev⟩ := view_get e
    obtain ⟨v, hv, ok⟩ := sr.sl i s0 e0
    refine ⟨v, hv, ?_⟩
    cases s0 with
    | d d => cases ev; exact dp_ex sr.exUp _ _ ok
    | m => cases ev
    | r u => cases ev; exact ok
    | s k => cases ev
    | o ds =>
      cases ev
      obtain ⟨l, xs, rfl, b, f, hl, da⟩ := ok
      exact .lst (by rw [fup_own ⟨i, ds, e0, hv⟩]; exact hl) (dpa_ex sr.exUp _ _ da)
  · obtain ⟨s0, e0, e2⟩ := view_get e1
    cases s0 <;> cases e2
  · unfold view; rw [List.length_map, sr.len]
/-- back again -/
theorem SR.down {F' H' : Hp} (sr : SR K g F H σ ρ n) (gr : Grow none (Fup F H σ ρ) H F' H') : Grow none F H (Fdn F' σ ρ) H' := by
  refine ⟨fun a o h => ?_, fun a o h => ?_, gr.h, gr.dm, fun a o h => ?_⟩
  · have nz : ¬ Owned σ ρ a := fun z => by
      obtain ⟨_, _, f, _⟩ := sr.owned z
      rw [f] at h; cases h
    rw [fdn_not nz]
    exact gr.f a o (sr.exUp a o h)
  · by_cases z : Owned σ ρ a
    · rw [fdn_own z] at h; cases h
    · rw [fdn_not z] at h; exact gr.fh a o h
  · by_cases z : Owned σ ρ a
    · rw [fdn_own z] at h; cases h
    · rw [fdn_not z] at h
      rcases gr.fr a o h with y | y
      · rw [fup_not z] at y; exact .inl y
      · exact .inr y
mutual
theorem dp_noL {F : Hp} {O : Addr → Prop} {F' : Hp} (h : ∀ a, ¬ O a → F' a = F a) (hl : ∀ a, O a → ∃ xs, F a = some (.lst xs)) : ∀ (d : D) (v : V), noL d = true → Dp K F v d → Dp K F' v d
  | .none, _, _, .non => .non
  | .bool _, _, _, .bl b => .bl b
  | .int _, _, _, .int i => .int i
  | .str _, _, _, .str x => .str x
  | .tuple ds, _, c, .tup (a := a) (xs := xs) h1 h2 => by
    refine .tup (xs := xs) ?_ (dpa_noL h hl ds _ (by simpa [noL] using c) h2)
    rcases h1 with h1 | h1
    · have no : ¬ O a := fun z => by
        obtain ⟨ys, hy⟩ := hl a z
        rcases h1 with h1 | ⟨o, h1⟩ <;> (rw [hy] at h1; cases h1)
      rcases h1 with h1 | ⟨o, h1⟩
      · exact .inl (.inl (by rw [h a no]; exact h1))
      · exact .inl (.inr ⟨o, by rw [h a no]; exact h1⟩)
    · exact .inr h1
  | .list ds, _, c, _ => by simp [noL] at c
  | .dict ds, _, c, _ => by simp [noL] at c
theorem dpa_noL {F : Hp} {O : Addr → Prop} {F' : Hp} (h : ∀ a, ¬ O a → F' a = F a) (hl : ∀ a, O a → ∃ xs, F a = some (.lst xs)) : ∀ (ds : List D) (vs : List V), noLs ds = true → DpAll K F vs ds → DpAll K F' vs ds
  | [], _, _, .nil => .nil
  | d :: ds, _, c, .cons h1 h2 => by
    have c' : noL d = true ∧ noLs ds = true := by simpa [noLs] using c
    exact .cons (dp_noL h hl d _ c'.1 h1) (dpa_noL h hl ds _ c'.2 h2)
end
theorem SR.dnl {F' H' : Hp} (sr : SR K g F H σ ρ n) (gr : Grow none (Fup F H σ ρ) H F' H') : ∀ a, Owned σ ρ a → ∃ xs, F' a = some (.lst xs) := fun a z => by
  obtain ⟨xs, h1, _, _⟩ := sr.owned z
  exact ⟨xs, gr.f a _ (by rw [fup_own z]; exact h1)⟩
end
def dView (t : DT) : DT := fun ρ n P => t (view ρ) n fun d n' => noL d = true ∧ n' = n ∧ P d n
def bView (t : DB) : DB := fun ρ n P => t (view ρ) n fun b n' => n' = n ∧ P b n
def lView (t : DL_) : DL_ := fun ρ n P => t (view ρ) n fun ds n' => noLs ds = true ∧ n' = n ∧ P ds n
theorem e_view (h : ∀ g', E X g' e t) : E X g e (dView t) := by
  refine ⟨fun σ H Q => ∃ g', Classical.choose (h g').ok σ H Q, ⟨fun pins s σ H Q I ⟨g', hq⟩ => (Classical.choose_spec (h g').ok).1.run pins s σ H Q I hq⟩, fun σ F H ρ n P Q sr p k => ?_⟩
  refine ⟨⟨H, Fup F H σ ρ, none, g.xp⟩, (Classical.choose_spec (h ⟨H, Fup F H σ ρ, none, g.xp⟩).ok).2 σ _ H (view ρ) n _ Q sr.up p fun d n' v F' H' ⟨hd, en, p'⟩ gr sr' dv => ?_⟩
  have gd := sr.down gr
  exact k d n v _ H' p' gd.any (sr.grow gd) (dp_noL (O := Owned σ ρ) (fun a z => fdn_not z) (sr.dnl gr) d v hd dv)
theorem b_view {u : DB} (h : ∀ g', B X g' e u) : B X g e (bView u) := by
  refine ⟨fun σ H Q => ∃ g', Classical.choose (h g').ok σ H Q, ⟨fun pins s σ H Q I ⟨g', hq⟩ => (Classical.choose_spec (h g').ok).1.run pins s σ H Q I hq⟩, fun σ F H ρ n P Q sr p k => ?_⟩
  refine ⟨⟨H, Fup F H σ ρ, none, g.xp⟩, (Classical.choose_spec (h ⟨H, Fup F H σ ρ, none, g.xp⟩).ok).2 σ _ H (view ρ) n _ Q sr.up p fun b n' F' H' ⟨en, p'⟩ gr sr' => ?_⟩
  have gd := sr.down gr
  exact k b n _ H' p' gd.any (sr.grow gd)
theorem l_view {u : DL_} (h : ∀ g', Ls X g' e u) : Ls X g e (lView u) := by
  refine ⟨fun σ H Q => ∃ g', Classical.choose (h g').ok σ H Q, ⟨fun pins s σ H Q I ⟨g', hq⟩ => (Classical.choose_spec (h g').ok).1.run pins s σ H Q I hq⟩, fun σ F H ρ n P Q sr p k => ?_⟩
  refine ⟨⟨H, Fup F H σ ρ, none, g.xp⟩, (Classical.choose_spec (h ⟨H, Fup F H σ ρ, none, g.xp⟩).ok).2 σ _ H (view ρ) n _ Q sr.up p fun ds n' q xs F' H' ⟨hd, en, p'⟩ gr sr' fr hn hq da => ?_⟩
  have gd := sr.down gr
  have no : ¬ Owned σ ρ q := fun z => by
    obtain ⟨ys, hy, _, _⟩ := sr.owned z
    rw [hn] at hy; cases hy
  refine k ds n q xs _ H' p' gd.any (sr.grow gd) ⟨by rw [fdn_not no]; exact fr.f, sr.gr.dm q hn, fun i ds e z => no ⟨i, ds, e, z⟩⟩ hn hq (dpa_noL (O := Owned σ ρ) (fun a z => fdn_not z) (sr.dnl gr) ds xs hd da)
/-! ### own lists changed -/
theorem SR.setOwn {F H : Hp} {σ : L2.St} {ρ : Sl} {n i : Nat} {ds es : List D} {l : Addr} {xs ys : List V} (sr : SR K g F H σ ρ n) (hi : ρ[i]? = some (some (.o ds))) (hs : σ[i]? = some (some (.ref l))) (hl : H l = some (.lst xs)) (da : DpAll K F ys es) : SR K g F (upd H l (.lst ys)) σ (ρ.set i (some (.o es))) n := by
  obtain ⟨v, hv, l', xs', rfl, b, f, hl', da'⟩ := sr.sl i _ hi
  rw [hs] at hv
  cases hv
  have hir : i < ρ.length := (List.getElem?_eq_some_iff.mp hi).1
  -- forget slot i, change the list, set it again
  have s1 : SR K g F H σ (ρ.set i none) n := by
    have := sr.forget (i := i) (v := some (.ref l))
    have e : σ.set i (some (.ref l)) = σ := by
      apply List.ext_getElem?
      intro j
      by_cases c : j = i
      · subst c; rw [List.getElem?_set_self (by rw [← sr.len]; exact hir), hs]
      · rw [List.getElem?_set_ne (Ne.symm c)]
    rw [e] at this
    exact this
  have no : ∀ (j : Nat) (es : List D), (ρ.set i none)[j]? = some (some (.o es)) → σ[j]? ≠ some (some (.ref l)) := fun j es e z => by
    by_cases c : j = i
    · subst c; rw [List.getElem?_set_self hir] at e; cases e
    · rw [List.getElem?_set_ne (Ne.symm c)] at e
      exact c (sr.inj j i l es ds e hi z hs)
  have s2 := s1.updFree (o := .lst ys) hl f b no
  have s3 := s2.set (i := i) (v := .ref l) (s := .o es) ⟨l, ys, rfl, b, f, upd_same, da⟩ fun ds' l2 _ e2 j es' _ e3 => by cases e2; exact no j es' e3
  have e : σ.set i (some (.ref l)) = σ := by
    apply List.ext_getElem?
    intro j
    by_cases c : j = i
    · subst c; rw [List.getElem?_set_self (by rw [← sr.len]; exact hir), hs]
    · rw [List.getElem?_set_ne (Ne.symm c)]
  rw [e, List.set_set] at s3
  exact s3
def dAppend (i : Nat) (t : DT) : DS := fun P ρ n => ∃ ds, ρ[i]? = some (some (.o ds)) ∧ ds.length < 100000 ∧ t ρ n fun d n' => P.nx (ρ.set i (some (.o (ds ++ [d])))) n'

theorem SR.own {F H : Hp} {σ : L2.St} {ρ : Sl} {n i : Nat} {ds : List D} (sr : SR K g F H σ ρ n) (hi : ρ[i]? = some (some (.o ds))) : ∃ l xs, σ[i]? = some (some (.ref l)) ∧ H l = some (.lst xs) ∧ DpAll K F xs ds := by
  obtain ⟨v, hv, l, xs, rfl, _, _, hl, da⟩ := sr.sl i _ hi
  exact ⟨l, xs, hv, hl, da⟩
/-- x.append(e): first x, then e, then the change -/
theorem st_append (i : Nat) {x : Str} {px ap cp : Pos} (h : E X g e t) (hN : X.N[i]? = some x := by rfl) (hv : Vis X.env.scope x := by first | exact Or.inl rfl | exact Or.inr (Or.inl rfl) | exact Or.inr (Or.inr rfl)) (hd : (x == ("__debug__" : Str)) = false := by decide)
    (hcd : (x == ("__classdict__" : Str)) = false := by decide) (h1 : attributeBase (.Name x px) "append" X.env (eval (.Name x px) X.env) = eval (.Name x px) X.env := by rfl)
    (h2 : ((((backTo cp (starEach [e] X.env)).all fun x => !x.fst) && (backToKw cp (keywordEach [] X.env)).all fun x => x.fst.isSome) && decide (([e].length + ([] : List Keyword).length + if ([] : List Keyword).isEmpty = true then 0 else 1) < 30)) = true := by rfl)
    (h3 : (ap.endLine == cp.line) = true := by rfl) (h4 : starEach [e] X.env = (false, eval e X.env) :: starEach [] X.env := by rfl) (h5 : ((backTo cp (starEach [] X.env)).any fun x => x.fst) = false := by rfl)
    (hs : swapsWith (.Call (.Attribute (.Name x px) "append" ap) [e] [] cp) none pos.line X.env = pure false := by rfl) : St X g (.Expr (.Call (.Attribute (.Name x px) "append" ap) [e] [] cp) pos) (dAppend i t) := by
  obtain ⟨te, p1, q1⟩ := h
  refine ⟨_, ps_expr (pe_bm PySem.F.plainAttrs_list PySem.F.slot_list_append PySem.F.type_list_append mt_append (pe_var hN hv hd hcd) (pa_cons p1 pa_nil h4) h1 h2 h3 h4 h5) hs, fun σ F H ρ n P E sr p k1 k2 k3 k4 => ?_⟩
  obtain ⟨ds, hi, hl, p⟩ := p
  obtain ⟨l, xs, hσ, hx, da⟩ := sr.own hi
  refine ⟨_, hσ, .inl ⟨rfl, xs, SqL.of hx⟩, q1 σ F H ρ n _ _ sr p fun d n' v F' H' p' gr sr' dv => ?_⟩
  obtain ⟨l', xs', hσ', hx', da'⟩ := sr'.own hi
  rw [hσ] at hσ'
  cases hσ'
  refine ⟨l, xs', v, rfl, rfl, hx', by rw [dpa_len da']; exact Evl.sz_lt hl, ?_⟩
  exact k1 _ n' σ F' _ p' gr.f (sr'.setOwn hi hσ hx' (dpa_app da' (.cons dv .nil)))
/-- y.pop(e) as a value -/
def PopAt (ds : List D) (i : Int) (d : D) (es : List D) : Prop := ∃ k, -(2 ^ 63) ≤ i ∧ i < 2 ^ 63 ∧ seqIndex? i ds.length = some k ∧ ds[k]? = some d ∧ es = ds.eraseIdx k
/-- x.append(y.pop(e)) -/
def dAppPop (i j : Nat) (t : DT) : DS := fun P ρ n => ∃ ds es, ρ[i]? = some (some (.o ds)) ∧ ds.length < 100000 ∧ i ≠ j ∧ ρ[j]? = some (some (.o es)) ∧ t ρ n fun d n' => ∃ z y es', d = .int z ∧ PopAt es z y es' ∧ P.nx ((ρ.set j (some (.o es'))).set i (some (.o (ds ++ [y])))) n'
theorem st_appPop (i j : Nat) {x y : Str} {px ap cp py ap2 cp2 : Pos} (h : E X g e t) (hN : X.N[i]? = some x := by rfl) (hv : Vis X.env.scope x := by first | exact Or.inl rfl | exact Or.inr (Or.inl rfl) | exact Or.inr (Or.inr rfl)) (hd : (x == ("__debug__" : Str)) = false := by decide)
    (hcd : (x == ("__classdict__" : Str)) = false := by decide) (hN2 : X.N[j]? = some y := by rfl) (hv2 : Vis X.env.scope y := by first | exact Or.inl rfl | exact Or.inr (Or.inl rfl) | exact Or.inr (Or.inr rfl)) (hd2 : (y == ("__debug__" : Str)) = false := by decide) (hcd2 : (y == ("__classdict__" : Str)) = false := by decide)
    (h1 : attributeBase (.Name x px) "append" X.env (eval (.Name x px) X.env) = eval (.Name x px) X.env := by rfl)
    (h2 : ((((backTo cp (starEach [.Call (.Attribute (.Name y py) "pop" ap2) [e] [] cp2] X.env)).all fun x => !x.fst) && (backToKw cp (keywordEach [] X.env)).all fun x => x.fst.isSome) && decide (([Expr.Call (.Attribute (.Name y py) "pop" ap2) [e] [] cp2].length + ([] : List Keyword).length + if ([] : List Keyword).isEmpty = true then 0 else 1) < 30)) = true := by rfl)
    (h3 : (ap.endLine == cp.line) = true := by rfl) (h4 : starEach [.Call (.Attribute (.Name y py) "pop" ap2) [e] [] cp2] X.env = (false, eval (.Call (.Attribute (.Name y py) "pop" ap2) [e] [] cp2) X.env) :: starEach [] X.env := by rfl) (h5 : ((backTo cp (starEach [] X.env)).any fun x => x.fst) = false := by rfl)
    (h21 : attributeBase (.Name y py) "pop" X.env (eval (.Name y py) X.env) = eval (.Name y py) X.env := by rfl)
    (h22 : ((((backTo cp2 (starEach [e] X.env)).all fun x => !x.fst) && (backToKw cp2 (keywordEach [] X.env)).all fun x => x.fst.isSome) && decide (([e].length + ([] : List Keyword).length + if ([] : List Keyword).isEmpty = true then 0 else 1) < 30)) = true := by rfl)
    (h23 : (ap2.endLine == cp2.line) = true := by rfl) (h24 : starEach [e] X.env = (false, eval e X.env) :: starEach [] X.env := by rfl) (h25 : ((backTo cp2 (starEach [] X.env)).any fun x => x.fst) = false := by rfl)
    (hs : swapsWith (.Call (.Attribute (.Name x px) "append" ap) [.Call (.Attribute (.Name y py) "pop" ap2) [e] [] cp2] [] cp) none pos.line X.env = pure false := by rfl) : St X g (.Expr (.Call (.Attribute (.Name x px) "append" ap) [.Call (.Attribute (.Name y py) "pop" ap2) [e] [] cp2] [] cp) pos) (dAppPop i j t) := by
  obtain ⟨te, p1, q1⟩ := h
  refine ⟨_, ps_expr (pe_bm PySem.F.plainAttrs_list PySem.F.slot_list_append PySem.F.type_list_append mt_append (pe_var hN hv hd hcd) (pa_cons (pe_bm PySem.F.plainAttrs_list PySem.F.slot_list_pop PySem.F.type_list_pop mt_popAt (pe_var hN2 hv2 hd2 hcd2) (pa_cons p1 pa_nil h24) h21 h22 h23 h24 h25) pa_nil h4) h1 h2 h3 h4 h5) hs, fun σ F H ρ n P E sr p k1 k2 k3 k4 => ?_⟩
  obtain ⟨ds, es, hi, hl, ij, hj, p⟩ := p
  obtain ⟨l, xs, hσ, hx, da⟩ := sr.own hi
  obtain ⟨l2, xs2, hσ2, hx2, da2⟩ := sr.own hj
  refine ⟨_, hσ, .inl ⟨rfl, xs, SqL.of hx⟩, _, hσ2, .inl ⟨rfl, xs2, SqL.of hx2⟩, q1 σ F H ρ n _ _ sr p fun d n' v F' H' ⟨z, yd, es', ed, ⟨kk, b1, b2, b3, b4, b5⟩, p'⟩ gr sr' dv => ?_⟩
  subst ed
  cases dv
  obtain ⟨l', xs', hσ', hx', da'⟩ := sr'.own hi
  rw [hσ] at hσ'
  cases hσ'
  obtain ⟨l2', xs2', hσ2', hx2', da2'⟩ := sr'.own hj
  rw [hσ2] at hσ2'
  cases hσ2'
  obtain ⟨yv, hyv, dy⟩ := dpa_get' da2' b4
  have ne : l ≠ l2 := fun q => ij (sr'.inj i j l ds es hi hj hσ (by rw [q]; exact hσ2))
  refine ⟨l2, xs2', z, kk, yv, rfl, rfl, hx2', b1, b2, by rw [dpa_len da2']; exact b3, hyv, ?_⟩
  have s2 := sr'.setOwn hj hσ2 hx2' (dpa_erase kk da2')
  rw [← b5] at s2
  have hx3 : (upd H' l2 (.lst (xs2'.eraseIdx kk))) l = some (.lst xs') := by rw [upd_ne ne]; exact hx'
  refine ⟨l, xs', yv, rfl, rfl, hx3, by rw [dpa_len da']; exact Evl.sz_lt hl, ?_⟩
  have hi2 : (ρ.set j (some (.o es')))[i]? = some (some (.o ds)) := by rw [List.getElem?_set_ne (Ne.symm ij)]; exact hi
  exact k1 _ n' σ F' _ p' gr.f (s2.setOwn hi2 hσ hx3 (dpa_app da' (.cons dy .nil)))
/-- x.reverse() -/
def dRev (i : Nat) : DS := fun P ρ n => ∃ ds, ρ[i]? = some (some (.o ds)) ∧ P.nx (ρ.set i (some (.o ds.reverse))) n
theorem st_rev (i : Nat) {x : Str} {px ap cp : Pos} (hN : X.N[i]? = some x := by rfl) (hv : Vis X.env.scope x := by first | exact Or.inl rfl | exact Or.inr (Or.inl rfl) | exact Or.inr (Or.inr rfl)) (hd : (x == ("__debug__" : Str)) = false := by decide)
    (hcd : (x == ("__classdict__" : Str)) = false := by decide) (hpe : ∀ {r : V → List V → Hp → VK → Prop}, MtR X "list.reverse" r → PE X (.Name x px) (tVar i) → PE X (.Call (.Attribute (.Name x px) "reverse" ap) [] [] cp) (tBM0 X.K "list" r (tVar i)) := by exact fun hm ho => pe_bm0 PySem.F.plainAttrs_list PySem.F.slot_list_reverse PySem.F.type_list_reverse hm ho)
    (hs : swapsWith (.Call (.Attribute (.Name x px) "reverse" ap) [] [] cp) none pos.line X.env = pure false := by rfl) : St X g (.Expr (.Call (.Attribute (.Name x px) "reverse" ap) [] [] cp) pos) (dRev i) := by
  refine ⟨_, ps_expr (hpe mt_reverse (pe_var hN hv hd hcd)) hs, fun σ F H ρ n P E sr p k1 k2 k3 k4 => ?_⟩
  obtain ⟨ds, hi, p⟩ := p
  obtain ⟨l, xs, hσ, hx, da⟩ := sr.own hi
  exact ⟨_, hσ, .inl ⟨rfl, xs, SqL.of hx⟩, l, xs, rfl, rfl, hx, k1 _ n σ F _ p (Evl.Ex.refl F) (sr.setOwn hi hσ hx (dpa_rev da))⟩
/-- x += e, a list of the def's own -/
def dExt (i : Nat) (t : DT) : DS := fun P ρ n => ∃ ds, ρ[i]? = some (some (.o ds)) ∧ t ρ n fun d n' => ∃ es, d = .list es ∧ ds.length + es.length ≤ 100000 ∧ P.nx (ρ.set i (some (.o (ds ++ es)))) n'
theorem st_ext (i : Nat) {x : Str} {px : Pos} (h : E X g e t) (hN : X.N.Nodup) (hi : X.N[i]? = some x := by rfl) (hx : Loc X.env.scope x := by first | exact Or.inl rfl | exact Or.inr rfl) (hf : X.fn x = true ∨ X.env.scope.names.lookup x = some .local := by first | exact .inl rfl | exact .inr rfl) :
    St X g (.AugAssign (.Name x px) .Add e pos) (dExt i t) := by
  obtain ⟨te, p1, q1⟩ := h
  refine ⟨_, ps_aug hN hi hx p1 iop_ext hf, fun σ F H ρ n P E sr p k1 k2 k3 k4 => ?_⟩
  obtain ⟨ds, hi, p⟩ := p
  obtain ⟨l, xs, hσ, hx, da⟩ := sr.own hi
  refine ⟨_, hσ, q1 σ F H ρ n _ _ sr p fun d n' v F' H' ⟨es, ed, hl, p'⟩ gr sr' dv => ?_⟩
  subst ed
  obtain ⟨q, ys, rfl, h3, h4⟩ := dp_list dv
  obtain ⟨l', xs', hσ', hx', da'⟩ := sr'.own hi
  rw [hσ] at hσ'
  cases hσ'
  refine ⟨l, q, xs', ys, rfl, rfl, hx', sr'.ex _ _ h3, by rw [dpa_len da', dpa_len h4]; exact Evl.sz_of hl, ?_⟩
  have e : σ.set i (some (.ref l)) = σ := by
    apply List.ext_getElem?
    intro j
    by_cases c : j = i
    · subst c; rw [List.getElem?_set_self ((List.getElem?_eq_some_iff.mp hσ).1), hσ]
    · rw [List.getElem?_set_ne (Ne.symm c)]
  show E.nx (σ.set i (some (.ref l))) _
  rw [e]
  exact k1 _ n' σ F' _ p' gr.f (sr'.setOwn hi hσ hx' (dpa_app da' h4))
/-- x[i] = e, a list of the def's own -/
def dPut (i : Nat) (ti te : DT) : DS := fun P ρ n => te ρ n fun d n1 => ∃ ds, ρ[i]? = some (some (.o ds)) ∧ ti ρ n1 fun z n2 => ∃ k j, z = .int k ∧ ixN ds.length k = some j ∧ P.nx (ρ.set i (some (.o (ds.set j d)))) n2
theorem dpa_set {F : Hp} {v : V} {d : D} (hv : Dp K F v d) : ∀ {vs : List V} {ds : List D} (j : Nat), DpAll K F vs ds → DpAll K F (vs.set j v) (ds.set j d)
  | _, _, _, .nil => by simpa using DpAll.nil
  | _, _, 0, .cons _ t => .cons hv t
  | _, _, j + 1, .cons h t => .cons h (dpa_set hv j t)
/-- own list number i is frozen for good -/
def dFreeze (i : Nat) (t : DS) : DS := fun P ρ n => ∃ ds, ρ[i]? = some (some (.o ds)) ∧ t P (ρ.set i (some (.d (.list ds)))) n
theorem ss_freeze {i : Nat} {ts : TS} {t : DS} (h : SS K g ts t) : SS K g ts (dFreeze i t) := fun σ F H ρ n P E sr ⟨ds, hi, p⟩ k1 k2 k3 k4 => by
  obtain ⟨v, hv, l, xs, rfl, b, f, hl, da⟩ := sr.sl i _ hi
  have hir : i < ρ.length := (List.getElem?_eq_some_iff.mp hi).1
  have e : σ.set i (some (.ref l)) = σ := by
    apply List.ext_getElem?
    intro j
    by_cases c : j = i
    · subst c; rw [List.getElem?_set_self (by rw [← sr.len]; exact hir), hv]
    · rw [List.getElem?_set_ne (Ne.symm c)]
  have s1 : SR K g F H σ (ρ.set i none) n := by
    have := sr.forget (i := i) (v := some (.ref l))
    rw [e] at this
    exact this
  have fr : Free g F σ (ρ.set i none) l := ⟨f, b, fun j es e1 z => by
    by_cases c : j = i
    · subst c; rw [List.getElem?_set_self hir] at e1; cases e1
    · rw [List.getElem?_set_ne (Ne.symm c)] at e1
      exact c (sr.inj j i l es ds e1 hi z hv)⟩
  have ef : Ex F (upd F l (.lst xs)) := Evl.Ex.new f
  have s2 := (s1.freeze fr hl).setD (i := i) (v := .ref l) (d := .list ds) (.lst upd_same (dpa_ex ef _ _ da))
  rw [e, List.set_set] at s2
  exact h σ _ H _ n P E s2 p (fun _ _ _ _ _ q y => k1 _ _ _ _ _ q (ef.trans y)) k2 (fun _ _ _ _ _ q y => k3 _ _ _ _ _ q (ef.trans y)) (fun _ _ _ _ _ q y => k4 _ _ _ _ _ q (ef.trans y))
theorem st_frz {st : Stmt} {t : DS} (i : Nat) (h : St X g st t) : St X g st (dFreeze i t) := by
  obtain ⟨te, p1, q1⟩ := h
  exact ⟨_, p1, ss_freeze q1⟩
theorem s_frz {st : List Stmt} {t : DS} (i : Nat) (h : Sts X g st t) : Sts X g st (dFreeze i t) := by
  obtain ⟨te, p1, q1⟩ := h
  exact ⟨_, p1, ss_freeze q1⟩
end
end DL

namespace DL
open PySem L2
section
variable {X : Cx} {g : G} {a b c e : Expr} {es : List Expr} {ta tb tc t : DT} {pos : Pos} {u : DA} {K : Fg}
/-! ### match on a text -/
abbrev DM := Str → DEnds → Sl → Nat → Prop
structure Ms (X : Cx) (g : G) (cs : List MatchCase) (t : DM) : Prop where
  ok : ∀ (first : Bool) (pins : List (Addr × Obj)) (s : Shared) (σ : L2.St) (F0 F H : Hp) (ρ : Sl) (n : Nat) (z : Str) (tk : Tok) (P : DEnds) (E : Ends), Ex F0 F → Inv X pins σ H s → SR X.K g F H σ ρ n → t z P ρ n →
    (∀ ρ' n' σ' F' H', P.nx ρ' n' → Ex F0 F' → SR X.K g F' H' σ' ρ' n' → E.nx σ' H') →
    (∀ d n' σ' ρ' v F' H', P.rt d n' → SR X.K g F' H' σ' ρ' n' → Dp X.K F' v d → E.rt v H') →
    (∀ ρ' n' σ' F' H', P.bk ρ' n' → Ex F0 F' → SR X.K g F' H' σ' ρ' n' → E.bk σ' H') →
    (∀ ρ' n' σ' F' H', P.ct ρ' n' → Ex F0 F' → SR X.K g F' H' σ' ρ' n' → E.ct σ' H') →
    wpAny (model X.prog X.w) X.A (matchCases cs X.env (.str z tk) first) (SP X pins E) X.xe s
def mNil : DM := fun _ P ρ n => P.nx ρ n
def mStr (k : Str) (b : DS) (r : DM) : DM := fun z P ρ n => if z = k then b P ρ n else r z P ρ n
def mAny (b : DS) : DM := fun _ P ρ n => b P ρ n
variable {body : List Stmt} {tb' : DS} {rest : List MatchCase} {tr : DM}
theorem m_nil : Ms X g [] mNil := ⟨fun _ pins s σ F0 F H ρ n z tk P E x I sr p k1 _ _ _ => wpAny_matchCases_nil ⟨σ, H, I, k1 ρ n σ F H p x sr⟩⟩
theorem m_str {k : Str} {j : Nat} {p1 p2 : Pos} (hb : Sts X g body tb') (hr : Ms X g rest tr) : Ms X g (⟨.MatchValue (.Constant (.str k) j p1) p2, none, body⟩ :: rest) (mStr k tb' tr) := by
  refine ⟨fun first pins s σ F0 F H ρ n z tk P E x I sr p k1 k2 k3 k4 => wpAny_matchCases_cons (wpAny_matchPattern_Value ?_)⟩
  refine Calls.Constant_str ?_
  refine PyProof.Rows.eq_str ?_
  refine wpAny_truthy_bool ?_
  obtain ⟨te, p1, q1⟩ := hb
  have I' := I.tok (s.toks + 1)
  by_cases hz : z = k
  · unfold mStr at p
    rw [if_pos hz] at p
    subst hz
    rw [if_pos (by simp)]
    refine wpAny_assignInOrder_none ?_
    exact p1.run pins _ σ H E I' (q1 σ F H ρ n P E sr p (fun _ _ _ _ _ q y => k1 _ _ _ _ _ q (x.trans y)) k2 (fun _ _ _ _ _ q y => k3 _ _ _ _ _ q (x.trans y)) (fun _ _ _ _ _ q y => k4 _ _ _ _ _ q (x.trans y)))
  · unfold mStr at p
    rw [if_neg hz] at p
    rw [if_neg (by simpa using hz)]
    exact hr.ok false pins _ σ F0 F H ρ n z tk P E x I' sr p k1 k2 k3 k4
theorem m_any {p2 : Pos} (hb : Sts X g body tb') : Ms X g (⟨.MatchAs none none p2, none, body⟩ :: rest) (mAny tb') := by
  refine ⟨fun first pins s σ F0 F H ρ n z tk P E x I sr p k1 k2 k3 k4 => wpAny_matchCases_cons (wpAny_matchPattern_Capture ?_)⟩
  obtain ⟨te, p1, q1⟩ := hb
  refine wpAny_assignInOrder_none ?_
  exact p1.run pins _ σ H E I (q1 σ F H ρ n P E sr p (fun _ _ _ _ _ q y => k1 _ _ _ _ _ q (x.trans y)) k2 (fun _ _ _ _ _ q y => k3 _ _ _ _ _ q (x.trans y)) (fun _ _ _ _ _ q y => k4 _ _ _ _ _ q (x.trans y)))
def dMatch (t : DT) (m : DM) : DS := fun P ρ n => t ρ n fun d n1 => ∃ z, d = .str z ∧ m z P ρ n1
theorem st_match {cs : List MatchCase} {m : DM} (h : E X g e t) (hm : Ms X g cs m) : St X g (.Match e cs pos) (dMatch t m) := by
  obtain ⟨te, p1, q1⟩ := h
  refine ⟨fun D σ H => ∃ (F0 F : Hp) (ρ : Sl) (n : Nat) (P : DEnds), F0 = F ∧ SR X.K g F H σ ρ n ∧ dMatch t m P ρ n ∧
    (∀ ρ' n' σ' F' H', P.nx ρ' n' → Ex F0 F' → SR X.K g F' H' σ' ρ' n' → D.nx σ' H') ∧ (∀ d n' σ' ρ' v F' H', P.rt d n' → SR X.K g F' H' σ' ρ' n' → Dp X.K F' v d → D.rt v H') ∧
    (∀ ρ' n' σ' F' H', P.bk ρ' n' → Ex F0 F' → SR X.K g F' H' σ' ρ' n' → D.bk σ' H') ∧ (∀ ρ' n' σ' F' H', P.ct ρ' n' → Ex F0 F' → SR X.K g F' H' σ' ρ' n' → D.ct σ' H'), ⟨fun pins s σ H D I h => ?_⟩, fun σ F H ρ n P E sr p k1 k2 k3 k4 => ⟨F, F, ρ, n, P, rfl, sr, p, k1, k2, k3, k4⟩⟩
  obtain ⟨F0, F, ρ, n, P, rfl, sr, p, k1, k2, k3, k4⟩ := h
  refine wpAny_Match (thn (p1.run pins s σ H (fun v H' => ∃ z n' F', v = .str z ∧ Ex F0 F' ∧ SR X.K g F' H' σ ρ n' ∧ m z P ρ n') I (q1 σ F0 H ρ n _ _ sr p fun d n' v F' H' ⟨z, ez, pz⟩ gr sr' dv => ?_)) fun v s1 hv => ?_)
  · subst ez
    cases dv
    exact ⟨z, n', F', rfl, gr.f, sr', pz⟩
  · obtain ⟨x, H1, I1, rx, z, n', F', rfl, ex, sr', pz⟩ := hv
    obtain ⟨tk, rfl⟩ := rx
    exact hm.ok true pins s1 σ F0 F' H1 ρ n' z tk P D ex I1 sr' pz k1 k2 k3 k4
end
end DL

namespace DL
open PySem L2
section
variable {X : Cx} {g : G} {a b c e : Expr} {es : List Expr} {ta tb tc t : DT} {pos : Pos} {u : DA} {K : Fg}
/-! ### a, b = e1, e2 -/
theorem set2 {K : Fg} {F H : Hp} {σ : L2.St} {ρ : Sl} {n i j : Nat} {v w : V} {d e : D} (sr : SR K g F H σ ρ n) (dv : Dp K F v d) (dw : Dp K F w e) : SR K g F H ((σ.set i (some v)).set j (some w)) ((ρ.set i (some (.d d))).set j (some (.d e))) n := (sr.setD dv).setD dw
section
variable {i j : Nat} {x y : Str} {px py pt pt2 : Pos} {kt k2 : Nat}
def dParDD (i j : Nat) (ta tb : DT) : DS := fun P ρ n => ta ρ n fun d n1 => tb ρ n1 fun e n2 => P.nx ((ρ.set i (some (.d d))).set j (some (.d e))) n2
def dParLL (i j : Nat) (ta tb : DL_) : DS := fun P ρ n => ta ρ n fun d n1 => tb ρ n1 fun e n2 => P.nx ((ρ.set i (some (.o d))).set j (some (.o e))) n2
def dParLD (i j : Nat) (ta : DL_) (tb : DT) : DS := fun P ρ n => ta ρ n fun d n1 => tb ρ n1 fun e n2 => P.nx ((ρ.set i (some (.o d))).set j (some (.d e))) n2
def dParDL (i j : Nat) (ta : DT) (tb : DL_) : DS := fun P ρ n => ta ρ n fun d n1 => tb ρ n1 fun e n2 => P.nx ((ρ.set i (some (.d d))).set j (some (.o e))) n2
theorem st_parDD (i j : Nat) (ha : E X g a ta) (hb : E X g b tb) (hN : X.N.Nodup) (hc : X.calm = true := by rfl) (hi : X.N[i]? = some x := by rfl) (hj : X.N[j]? = some y := by rfl) (hij : i ≠ j := by decide) (hx : X.env.scope.names.lookup x = some .local := by rfl) (hy : X.env.scope.names.lookup y = some .local := by rfl)
    (hs : swappedStores [.Tuple [.Name x px, .Name y py] kt pt] (.Tuple [a, b] k2 pt2) X.env = pure (some [x, y]) := by rfl) (hs2 : swapsWithSole [.Tuple [.Name x px, .Name y py] kt pt] (.Tuple [a, b] k2 pt2) pos.line X.env = pure false := by rfl)
    (h1 : starEach [a, b] X.env = (false, eval a X.env) :: starEach [b] X.env := by rfl) (h2 : starEach [b] X.env = (false, eval b X.env) :: starEach [] X.env := by rfl) :
    St X g (.Assign [.Tuple [.Name x px, .Name y py] kt pt] (.Tuple [a, b] k2 pt2) pos) (dParDD i j ta tb) := by
  obtain ⟨te, p1, q1⟩ := ha
  obtain ⟨te', p2, q2⟩ := hb
  refine ⟨_, ps_par hc hN hi hj hij hx hy (pa_cons p1 (pa_cons p2 pa_nil h2) h1) hs hs2, fun σ F H ρ n P E sr p k1 k2 k3 k4 => ?_⟩
  refine q1 σ F H ρ n _ _ sr p fun d n1 v F1 H1 p1 g1 sr1 dv => q2 σ F1 H1 ρ n1 _ _ sr1 p1 fun e n2 w F2 H2 p2 g2 sr2 dw => ⟨v, w, rfl, ?_⟩
  exact k1 _ n2 _ F2 H2 p2 (g1.trans g2).f ((sr2.setD (dp_ex g2.f _ _ dv)).setD dw)
theorem own_kept {K : Fg} {F1 H1 F2 H2 : Hp} {σ : L2.St} {ρ : Sl} {n : Nat} {p : Addr} {xs : List V} (sr : SR K g F1 H1 σ ρ n) (fr : Free g F1 σ ρ p) (hp : H1 p = some (.lst xs)) (gr : Grow g.m F1 H1 F2 H2) : Free g F2 σ ρ p ∧ H2 p = some (.lst xs) := by
  have nm : some p ≠ g.m := fun z => by
    obtain ⟨_, _, _, _, _, q, _⟩ := sr.mc p z.symm
    rw [q] at hp; cases hp
  refine ⟨⟨?_, fr.b, fr.no⟩, gr.h p _ nm hp⟩
  cases z : F2 p with
  | none => rfl
  | some o =>
    rcases gr.fr p o z with w | w
    · rw [fr.f] at w; cases w
    · rw [hp] at w; cases w
theorem Free.set {K : Fg} {F H : Hp} {σ : L2.St} {ρ : Sl} {n i : Nat} {p q : Addr} {xs : List V} {v : V} {s : S} (sr : SR K g F H σ ρ n) (fr : Free g F σ ρ q) (ne : ∀ ds, s = .o ds → v ≠ .ref q) : Free g F (σ.set i (some v)) (ρ.set i (some s)) q := by
  refine ⟨fr.f, fr.b, fun j ds e z => ?_⟩
  by_cases c : j = i
  · subst c
    have hl : j < ρ.length := by
      by_cases hl : j < ρ.length
      · exact hl
      · rw [List.getElem?_eq_none (by rw [List.length_set]; omega)] at e; cases e
    rw [List.getElem?_set_self hl] at e
    rw [List.getElem?_set_self (sr.len ▸ hl)] at z
    cases e
    exact ne ds rfl (Option.some.inj (Option.some.inj z))
  · rw [List.getElem?_set_ne (Ne.symm c)] at e z
    exact fr.no j ds e z
theorem st_parLL (i j : Nat) {ta tb : DL_} (ha : Ls X g a ta) (hb : Ls X g b tb) (hN : X.N.Nodup) (hc : X.calm = true := by rfl) (hi : X.N[i]? = some x := by rfl) (hj : X.N[j]? = some y := by rfl) (hij : i ≠ j := by decide) (hx : X.env.scope.names.lookup x = some .local := by rfl) (hy : X.env.scope.names.lookup y = some .local := by rfl)
    (hs : swappedStores [.Tuple [.Name x px, .Name y py] kt pt] (.Tuple [a, b] k2 pt2) X.env = pure (some [x, y]) := by rfl) (hs2 : swapsWithSole [.Tuple [.Name x px, .Name y py] kt pt] (.Tuple [a, b] k2 pt2) pos.line X.env = pure false := by rfl)
    (h1 : starEach [a, b] X.env = (false, eval a X.env) :: starEach [b] X.env := by rfl) (h2 : starEach [b] X.env = (false, eval b X.env) :: starEach [] X.env := by rfl) :
    St X g (.Assign [.Tuple [.Name x px, .Name y py] kt pt] (.Tuple [a, b] k2 pt2) pos) (dParLL i j ta tb) := by
  obtain ⟨te, p1, q1⟩ := ha
  obtain ⟨te', p2, q2⟩ := hb
  refine ⟨_, ps_par hc hN hi hj hij hx hy (pa_cons p1 (pa_cons p2 pa_nil h2) h1) hs hs2, fun σ F H ρ n P E sr p k1 k2 k3 k4 => ?_⟩
  refine q1 σ F H ρ n _ _ sr p fun d n1 l xs F1 H1 p1 g1 sr1 fr1 hn1 hl1 da1 => q2 σ F1 H1 ρ n1 _ _ sr1 p1 fun e n2 l2 ys F2 H2 p2 g2 sr2 fr2 hn2 hl2 da2 => ⟨.ref l, .ref l2, rfl, ?_⟩
  obtain ⟨fr1', hl1'⟩ := own_kept sr1 fr1 hl1 g2
  have ne : l ≠ l2 := fun z => by rw [z, hn2] at hl1; cases hl1
  have s3 := sr2.setO (i := i) fr1' hl1' (dpa_ex g2.f _ _ da1)
  have fr2' : Free g F2 (σ.set i (some (.ref l))) (ρ.set i (some (.o d))) l2 := Free.set (p := l) (xs := xs) sr2 fr2 fun _ _ z => ne (V.ref.inj z)
  exact k1 _ n2 _ F2 H2 p2 (g1.trans g2).f (s3.setO (i := j) fr2' hl2 da2)
theorem st_parLD (i j : Nat) {ta : DL_} (ha : Ls X g a ta) (hb : E X g b tb) (hN : X.N.Nodup) (hc : X.calm = true := by rfl) (hi : X.N[i]? = some x := by rfl) (hj : X.N[j]? = some y := by rfl) (hij : i ≠ j := by decide) (hx : X.env.scope.names.lookup x = some .local := by rfl) (hy : X.env.scope.names.lookup y = some .local := by rfl)
    (hs : swappedStores [.Tuple [.Name x px, .Name y py] kt pt] (.Tuple [a, b] k2 pt2) X.env = pure (some [x, y]) := by rfl) (hs2 : swapsWithSole [.Tuple [.Name x px, .Name y py] kt pt] (.Tuple [a, b] k2 pt2) pos.line X.env = pure false := by rfl)
    (h1 : starEach [a, b] X.env = (false, eval a X.env) :: starEach [b] X.env := by rfl) (h2 : starEach [b] X.env = (false, eval b X.env) :: starEach [] X.env := by rfl) :
    St X g (.Assign [.Tuple [.Name x px, .Name y py] kt pt] (.Tuple [a, b] k2 pt2) pos) (dParLD i j ta tb) := by
  obtain ⟨te, p1, q1⟩ := ha
  obtain ⟨te', p2, q2⟩ := hb
  refine ⟨_, ps_par hc hN hi hj hij hx hy (pa_cons p1 (pa_cons p2 pa_nil h2) h1) hs hs2, fun σ F H ρ n P E sr p k1 k2 k3 k4 => ?_⟩
  refine q1 σ F H ρ n _ _ sr p fun d n1 l xs F1 H1 p1 g1 sr1 fr1 hn1 hl1 da1 => q2 σ F1 H1 ρ n1 _ _ sr1 p1 fun e n2 w F2 H2 p2 g2 sr2 dw => ⟨.ref l, w, rfl, ?_⟩
  obtain ⟨fr1', hl1'⟩ := own_kept sr1 fr1 hl1 g2
  exact k1 _ n2 _ F2 H2 p2 (g1.trans g2).f ((sr2.setO (i := i) fr1' hl1' (dpa_ex g2.f _ _ da1)).setD dw)
end
/-! ### two fors in one comprehension -/
def dComp2L (vs vs1 : List Nat) (gt1 : DGt) (te : DT) (ρ1 : Sl) : List D → List D → Nat → (List D → Nat → Prop) → Prop
  | [], acc, n, P => P acc n
  | d :: r, acc, n, P => gt1 d (wipeD ρ1 vs1) n fun ρ2 n2 => te ρ2 n2 fun y n3 => acc.length < 100000 ∧ dComp2L vs vs1 gt1 te ρ1 r (acc ++ [y]) n3 P
def dComp1L (vs vs1 : List Nat) (gt : DGt) (ti1 : DI) (gt1 : DGt) (te : DT) (ρ : Sl) : List D → List D → Nat → (List D → Nat → Prop) → Prop
  | [], acc, n, P => P acc n
  | d :: r, acc, n, P => gt d (wipeD ρ vs) n fun ρ1 n1 => ti1 ρ1 n1 fun items1 n2 => dComp2L vs vs1 gt1 te ρ1 items1 acc n2 fun acc' n3 => dComp1L vs vs1 gt ti1 gt1 te ρ r acc' n3 P
def dComp2 (ti : DI) (gt : DGt) (ti1 : DI) (gt1 : DGt) (te : DT) (vs vs1 : List Nat) : DL_ := fun ρ n P => ti ρ n fun items n' => dComp1L vs vs1 gt ti1 gt1 te ρ items [] n' P

/-- the list at D is being made -/
structure Mk (K : Fg) (g : G) (F H : Hp) (D : Addr) (σ : L2.St) (ρ : Sl) (F2 H2 : Hp) (n : Nat) (acc : List DL.D) : Prop where
  gr : Grow g.m F H F2 H2
  sr : SR K g F2 H2 σ ρ n
  fr : Free g F2 σ ρ D
  d0 : H D = none
  at_ : ∃ xs, H2 D = some (.lst xs) ∧ DpAll K F2 xs acc ∧ xs.length ≤ 100000
theorem Mk.grow {K : Fg} {F H F2 H2 F3 H3 : Hp} {D : Addr} {σ : L2.St} {ρ : Sl} {n n' : Nat} {acc : List DL.D} (m : Mk K g F H D σ ρ F2 H2 n acc) (gr : Grow g.m F2 H2 F3 H3) (mc : MachOk K F3 H3 g.m n') : Mk K g F H D σ ρ F3 H3 n' acc := by
  obtain ⟨xs, h1, h2, h3⟩ := m.at_
  obtain ⟨f, h4⟩ := own_kept m.sr m.fr h1 gr
  exact ⟨m.gr.trans gr, m.sr.growM gr mc, f, m.d0, xs, h4, dpa_ex gr.f _ _ h2, h3⟩
theorem Mk.push {K : Fg} {F H F2 H2 : Hp} {D : Addr} {σ : L2.St} {ρ : Sl} {n : Nat} {acc : List DL.D} {v : V} {y : DL.D} (m : Mk K g F H D σ ρ F2 H2 n acc) (dv : Dp K F2 v y) (hl : acc.length < 100000) :
    ∃ xs, H2 D = some (.lst xs) ∧ xs.length < sizeLine ∧ Mk K g F H D σ ρ F2 (upd H2 D (.lst (xs ++ [v]))) n (acc ++ [y]) := by
  obtain ⟨xs, h1, h2, h3⟩ := m.at_
  have la := dpa_len h2
  refine ⟨xs, h1, Evl.sz_lt (by omega), ⟨m.gr.f, fun a o h => ?_, fun a o ne h => ?_, fun a h => ?_, m.gr.fr⟩, m.sr.updFree h1 m.fr.f m.fr.b m.fr.no, m.fr, m.d0, xs ++ [v], upd_same, dpa_app h2 (.cons dv .nil), by rw [List.length_append, List.length_singleton]; omega⟩
  · rw [upd_ne (fun z => by rw [z, m.fr.f] at h; cases h)]; exact m.sr.ex a o h
  · rw [upd_ne (fun z => by rw [z, m.d0] at h; cases h)]; exact m.gr.h a o ne h
  · by_cases c : a = D
    · subst c; rw [upd_same] at h; cases h
    · rw [upd_ne c] at h; exact m.gr.dm a h
/-- seen from other slots that own no more -/
theorem Mk.other {K : Fg} {F H F2 H2 : Hp} {D : Addr} {σ σ1 : L2.St} {ρ ρ1 : Sl} {n n1 : Nat} {acc : List DL.D} (m : Mk K g F H D σ ρ F2 H2 n acc) (sr : SR K g F2 H2 σ1 ρ1 n1) (h : ∀ (j : Nat) (ds : List DL.D), ρ1[j]? = some (some (.o ds)) → ρ[j]? = some (some (.o ds)) ∧ σ1[j]? = σ[j]?) : Mk K g F H D σ1 ρ1 F2 H2 n1 acc :=
  ⟨m.gr, sr, ⟨m.fr.f, m.fr.b, fun j ds e z => by
    obtain ⟨h1, h2⟩ := h j ds e
    exact m.fr.no j ds h1 (h2 ▸ z)⟩, m.d0, m.at_⟩
theorem sl_comp2 {K : Fg} {ti ti1 : DI} {gt gt1 : DGt} {wi wi1 : TI} {tgt tgt1 : TG} {te : TE} {is is1 vs vs1 : List Nat} (h1 : SI K g wi ti) (h2 : SG K g is tgt gt) (h3 : SI K g wi1 ti1) (h4 : SG K g is1 tgt1 gt1) (h5 : SE K g te t) (hs : ∀ i ∈ is, i ∈ vs) (hs1 : ∀ i ∈ is1, i ∈ vs1) :
    SL K g (tLc2 wi tgt tYes wi1 tgt1 tYes te vs vs1) (dComp2 ti gt ti1 gt1 t vs vs1) := by
  intro σ F H ρ n P Q sr p k
  refine h1 σ F H ρ n _ _ sr p fun items n' J Fw Hw p' gr0 sr' wk => ?_
  intro D hD
  have hD0 : H D = none := gr0.dm D hD
  have m0 : Mk K g F H D σ ρ Fw (upd Hw D (.lst [])) n' [] := ⟨gr0.trans (Grow.raw sr'.ex hD), sr'.grow (Grow.raw sr'.ex hD), Free.of sr' hD, hD0, [], upd_same, .nil, by simp⟩
  refine ⟨fun i m H2 => i + m = items.length ∧ ∃ F2 n2 acc, Ex Fw F2 ∧ Mk K g F H D σ ρ F2 H2 n2 acc ∧ dComp1L vs vs1 gt ti1 gt1 t ρ (items.drop i) acc n2 P, ⟨items.length, by omega, Fw, n', [], Evl.Ex.refl _, m0, by simpa using p'⟩, fun i m H2 ⟨em, F2, n2, acc, ew, mk, p2⟩ => ?_⟩
  by_cases hi : i < items.length
  · refine .inr ⟨wk.go i F2 H2 ew mk.sr.ex hi, fun H' => ∃ F2 n2 acc, Ex Fw F2 ∧ Mk K g F H D σ ρ F2 H' n2 acc ∧ dComp1L vs vs1 gt ti1 gt1 t ρ (items.drop (i + 1)) acc n2 P, fun H' hN => ⟨m - 1, by omega, by omega, hN⟩, fun x H3 hy => ?_⟩
    obtain ⟨d, F3, hd, gr3, dx⟩ := wk.yld i F2 H2 x H3 ew mk.sr.ex hi hy
    rw [drop_at hd] at p2
    have mk3 := mk.grow gr3.any (mk.sr.mc.grow gr3)
    refine h2 x (L2.wipe σ vs) F3 H3 d (wipeD ρ vs) n2 _ _ (mk3.sr.wipe vs) dx p2 fun ρ1 σ1 p3 sr4 bt => ?_
    refine ⟨wipe_but bt hs, ?_⟩
    simp only [tYes, ↓reduceIte]
    refine h3 σ1 F3 H3 ρ1 n2 _ _ sr4 p3 fun items1 n5 J1 F5 H5 p5 gr5 sr5 wk1 => ?_
    have mk5 := mk3.grow gr5 sr5.mc
    refine ⟨fun j kk H6 => j + kk = items1.length ∧ ∃ F6 n6 acc6, Ex F5 F6 ∧ Mk K g F H D σ ρ F6 H6 n6 acc6 ∧ SR K g F6 H6 σ1 ρ1 n6 ∧ dComp2L vs vs1 gt1 t ρ1 (items1.drop j) acc6 n6 fun acc' n3 => dComp1L vs vs1 gt ti1 gt1 t ρ (items.drop (i + 1)) acc' n3 P, ⟨items1.length, by omega, F5, n5, acc, Evl.Ex.refl _, mk5, sr5, by simpa using p5⟩, fun j kk H6 ⟨ek, F6, n6, acc6, ew6, mk6, sr6, p6⟩ => ?_⟩
    have lk : ∀ (j : Nat) (ds : List DL.D), ρ1[j]? = some (some (.o ds)) → ρ[j]? = some (some (.o ds)) ∧ σ1[j]? = σ[j]? := fun j ds h => by
      obtain ⟨h1, h2⟩ := bt.own j ds h
      obtain ⟨h3, h4⟩ := wipeD_own (σ := σ) h1
      exact ⟨h3, h2.trans h4⟩
    by_cases hj : j < items1.length
    · refine .inr ⟨wk1.go j F6 H6 ew6 mk6.sr.ex hj, fun H' => ∃ F6 n6 acc6, Ex F5 F6 ∧ Mk K g F H D σ ρ F6 H' n6 acc6 ∧ SR K g F6 H' σ1 ρ1 n6 ∧ dComp2L vs vs1 gt1 t ρ1 (items1.drop (j + 1)) acc6 n6 fun acc' n3 => dComp1L vs vs1 gt ti1 gt1 t ρ (items.drop (i + 1)) acc' n3 P, fun H' hN => ⟨kk - 1, by omega, by omega, hN⟩, fun x7 H7 hy7 => ?_⟩
      obtain ⟨d7, F7, hd7, gr7, dx7⟩ := wk1.yld j F6 H6 x7 H7 ew6 mk6.sr.ex hj hy7
      rw [drop_at hd7] at p6
      have sr7 := sr6.grow gr7
      have mk7 := mk6.grow gr7.any (mk6.sr.mc.grow gr7)
      refine h4 x7 (L2.wipe σ1 vs1) F7 H7 d7 (wipeD ρ1 vs1) n6 _ _ (sr7.wipe vs1) dx7 p6 fun ρ2 σ2 p8 sr8 bt8 => ?_
      refine ⟨wipe_but bt8 hs1, ?_⟩
      simp only [tYes, ↓reduceIte]
      refine h5 σ2 F7 H7 ρ2 n6 _ _ sr8 p8 fun y n9 v F9 H9 ⟨hacc, p9⟩ gr9 sr9 dv => ?_
      have mk9 := mk7.grow gr9 sr9.mc
      have sr10 := sr7.growM gr9 sr9.mc
      obtain ⟨xs, hx, hl, mkP⟩ := mk9.push dv hacc
      obtain ⟨xs', hx', _, mkQ⟩ := (mk9.other sr10 lk).push dv hacc
      have : xs' = xs := by rw [hx] at hx'; cases hx'; rfl
      subst this
      exact ⟨xs', hx, hl, F9, n9, acc6 ++ [y], (ew6.trans gr7.f).trans gr9.f, mkP, mkQ.sr, p9⟩
    · have ej : j = items1.length := by omega
      subst ej
      refine .inl ⟨wk1.stop F6 H6 ew6 mk6.sr.ex, F6, n6, acc6, ((ew.trans gr3.f).trans gr5.f).trans ew6, mk6, ?_⟩
      rw [List.drop_length] at p6
      exact p6
  · have ei : i = items.length := by omega
    subst ei
    refine .inl ⟨wk.stop F2 H2 ew mk.sr.ex, ?_⟩
    rw [List.drop_length] at p2
    obtain ⟨xs, hx, da, hl⟩ := mk.at_
    exact k acc n2 D xs F2 H2 p2 mk.gr mk.sr mk.fr hD0 hx da
theorem l_comp2 {elt tg iter tg1 iter1 : Expr} {ti ti1 : DI} {gt gt1 : DGt} {is is1 : List Nat} {scope : Scope} (own : List (Str × Nat)) (vs1 : List Nat) (hc : X.calm = true) (hN : X.N.Nodup) (h1 : I X g tg iter ti) (ok : blkC X.N X.env.scope scope own = true) (h2 : ∀ i : BlkI, Gt (blkX X scope i) g tg is gt) (h3 : ∀ i : BlkI, I (blkX X scope i) g tg1 iter1 ti1) (h4 : ∀ i : BlkI, Gt (blkX X scope i) g tg1 is1 gt1) (h5 : ∀ i : BlkI, E (blkX X scope i) g elt t)
    (hs : is.all (fun i => (own.map (·.2)).contains i) = true := by rfl) (hs1 : is1.all (fun i => vs1.contains i) = true := by rfl) (hv : vs1.all (fun i => (own.map (·.2)).contains i) = true := by rfl) (hf : ∀ x, foldedSetIterable iter X.env x = pure x := by intro _; rfl) (hf1 : ∀ env x, foldedSetIterable iter1 env x = pure x := by intro _ _; rfl) :
    Ls X g (.ListComp elt [⟨tg, iter, [], 0⟩, ⟨tg1, iter1, [], 0⟩] scope pos) (dComp2 ti gt ti1 gt1 t (own.map (·.2)) vs1) := by
  obtain ⟨w, p1, q1⟩ := h1
  obtain ⟨t2, p2, q2⟩ := fam_g (Xf := blkX X scope) (K := X.K) (fun _ => rfl) h2
  obtain ⟨t3, p3, q3⟩ := fam_i (Xf := blkX X scope) (K := X.K) (fun _ => rfl) h3
  obtain ⟨t4, p4, q4⟩ := fam_g (Xf := blkX X scope) (K := X.K) (fun _ => rfl) h4
  obtain ⟨t5, p5, q5⟩ := fam_e (Xf := blkX X scope) (K := X.K) (fun _ => rfl) h5
  refine ⟨_, pe_lc2 hc hN p1 (blkOk_by ok) (fun i hi => by simpa using List.all_eq_true.mp hv i hi) (fun s H C cl fp => p2 (s, H, C, cl, fp)) (fun _ _ _ _ _ => pts_nil) (fun s H C cl fp => p3 (s, H, C, cl, fp)) (fun s H C cl fp => p4 (s, H, C, cl, fp)) (fun _ _ _ _ _ => pts_nil) (fun s H C cl fp => p5 (s, H, C, cl, fp)) hf hf1,
    sl_comp2 q1 q2 q3 q4 q5 (fun i hi => by simpa using List.all_eq_true.mp hs i hi) (fun i hi => by simpa using List.all_eq_true.mp hs1 i hi)⟩
end
end DL

namespace DL
open PySem L2
section
variable {X : Cx} {g : G} {a b c e : Expr} {es : List Expr} {ta tb tc t : DT} {pos : Pos} {u : DA} {K : Fg}
/-! ### sorted of ints, in a list or a tuple -/
def isort : List Int → List Int
  | [] => []
  | x :: xs => ins x (isort xs)
where ins (x : Int) : List Int → List Int
  | [] => [x]
  | y :: ys => if x ≤ y then x :: y :: ys else y :: ins x ys
theorem ins_perm (x : Int) : ∀ ys : List Int, (isort.ins x ys).Perm (x :: ys)
  | [] => List.Perm.refl _
  | y :: ys => by
    unfold isort.ins
    split
    · exact List.Perm.refl _
    · exact ((ins_perm x ys).cons y).trans (List.Perm.swap x y ys)
theorem isort_perm : ∀ xs : List Int, (isort xs).Perm xs
  | [] => List.Perm.refl _
  | x :: xs => (ins_perm x _).trans ((isort_perm xs).cons x)
theorem ins_pw (x : Int) : ∀ ys : List Int, ys.Pairwise (· ≤ ·) → (isort.ins x ys).Pairwise (· ≤ ·)
  | [], _ => by simp [isort.ins]
  | y :: ys, h => by
    rw [List.pairwise_cons] at h
    unfold isort.ins
    split
    · rename_i hc
      refine List.pairwise_cons.mpr ⟨fun z hz => ?_, List.pairwise_cons.mpr h⟩
      rcases List.mem_cons.mp hz with rfl | hz
      · exact hc
      · exact Int.le_trans hc (h.1 z hz)
    · rename_i hc
      refine List.pairwise_cons.mpr ⟨fun z hz => ?_, ins_pw x ys h.2⟩
      rcases List.mem_cons.mp ((ins_perm x ys).mem_iff.mp hz) with rfl | hz
      · omega
      · exact h.1 z hz
theorem isort_pw : ∀ xs : List Int, (isort xs).Pairwise (· ≤ ·)
  | [] => List.Pairwise.nil
  | x :: xs => ins_pw x _ (isort_pw xs)
theorem sorted_same : ∀ {xs ys : List Int}, xs.Perm ys → xs.Pairwise (· ≤ ·) → ys.Pairwise (· ≤ ·) → xs = ys
  | [], ys, p, _, _ => (List.Perm.nil_eq p)
  | x :: xs, [], p, _, _ => absurd p.symm (by simp)
  | x :: xs, y :: ys, p, h1, h2 => by
    rw [List.pairwise_cons] at h1 h2
    have exy : x = y := by
      have a1 : y ∈ x :: xs := p.mem_iff.mpr (by simp)
      have a2 : x ∈ y :: ys := p.mem_iff.mp (by simp)
      rcases List.mem_cons.mp a1 with q | q
      · exact q.symm
      · rcases List.mem_cons.mp a2 with r | r
        · exact r
        · exact Int.le_antisymm (h1.1 y q) (h2.1 x r)
    subst exy
    rw [sorted_same (List.Perm.cons_inv p) h1.2 h2.2]
theorem isort_eq {xs ys : List Int} (p : ys.Perm xs) (h : ys.Pairwise (· ≤ ·)) : ys = isort xs := sorted_same (p.trans (isort_perm xs).symm) h (isort_pw xs)
theorem cr_sortedTup : CallR X (.builtin "sorted") (fun vs H Q => ∃ (a : Addr) (ns : List Int), vs = [V.ref a] ∧ SqT X.K H a (ns.map V.int) ∧ ∀ (p : Addr), H p = none → Q (.ref p) (upd H p (.lst ((isort ns).map V.int)))) := by
  intro pins s σ H vs us Q I r h
  obtain ⟨a, ns, rfl, hs, q⟩ := h
  obtain ⟨its, rv, ⟨o, ho, hc, n, hd⟩, hz⟩ := I.tuple hs
  rw [Vals.ref1 r]
  have hi := rv.ints
  have hlen : its.length ≤ sizeLine := by rw [← rv.length]; exact hz
  refine Calls.call_function_entry PyProof.Rows.kind_sorted PyProof.Rows.plain_sorted PyProof.Rows.entry_sorted (PyProof.Rows.args_sorted1 _) ?_
  unfold Builtin.«sorted»
  refine wpAny_bind (m := checkCount "sorted" 1 1 _) (wpAny_pure ?_)
  refine wpAny_bind (wpAny_collect_seq a (.inr rfl) ho hc hd (fun h1 hk => ?_) (by simpa using hlen))
  refine wpAny_bind (wpAny_newList ?_ (by simpa using hlen))
  have hN : (h1.push (PyProof.Rows.seqObj "list" its.toArray 0)).get? h1.objs.size = some (PyProof.Rows.seqObj "list" its.toArray 0) := Heap.get?_push_size _ rfl
  have hk2 : ∀ b ob, s.heap.get? b = some ob → (h1.push (PyProof.Rows.seqObj "list" its.toArray 0)).get? b = some ob := fun b ob z => Heap.get?_push_of_some _ (hk b ob z)
  refine wpAny_bind (wpAny_holding (wpAny_call_entry (s := { s with heap := h1.push (PyProof.Rows.seqObj "list" its.toArray 0) }) PyProof.Rows.slot_list_sort ⟨_, hN, rfl⟩ PyProof.Rows.entry_list_sort
    (SrtO.list_sort_ord (s := { s with heap := h1.push (PyProof.Rows.seqObj "list" its.toArray 0) }) SrtO.swo_int hN hlen (fun h2 => SrtO.ints_sortable hi h2) fun out o1 o2 => ⟨_, rfl, ?_⟩) (PyProof.Rows.args_list_sort _)))
  obtain ⟨k1, k2, k3⟩ := SrtO.ints_out hi o1 o2
  obtain ⟨ep, he'⟩ := PyProof.Rows.sortedHeap_at (vs := its) (out := out.toArray) hN
  have e : out.map SrtO.iv = isort ns := isort_eq k2 k3
  have I1 : Inv X pins σ H { s with heap := h1 } := I.kept (t' := s.toks) hk
  have hl2 : ((isort ns).map V.int).length ≤ sizeLine := by
    rw [List.length_map, (isort_perm ns).length_eq]
    rw [List.length_map] at hz
    exact hz
  have hold : ∀ b ob, h1.get? b = some ob → (PyProof.Rows.sortedHeap (h1.push (PyProof.Rows.seqObj "list" its.toArray 0)) h1.objs.size its out.toArray).get? b = some ob := fun b ob z => by
    have hb : b < h1.objs.size := Heap.lt_size z
    rw [PyProof.Rows.sortedHeap_old (Nat.ne_of_lt hb) (by rw [PyProof.Rows.size_push']; exact Nat.lt_succ_of_lt hb)]
    exact Heap.get?_push_of_some _ z
  have kv : Vals ((isort ns).map V.int) out := by
    rw [← e]
    exact vals_of_ints k1
  refine wpAny_pure ⟨_, rfl, .ref h1.objs.size, upd H h1.objs.size (.lst ((isort ns).map V.int)), I1.laid (t' := s.toks) hold (Nat.le_refl _) ⟨hl2, out, ep, kv, he'⟩, rfl, q _ (I1.hok.fresh (Nat.le_refl _))⟩
def intsOf : List D → Option (List Int)
  | [] => some []
  | .int b :: r => (intsOf r).map (b :: ·)
  | _ => none
theorem intsOf_eq : ∀ {ds : List D} {bs : List Int}, intsOf ds = some bs → ds = bs.map .int
  | [], bs, h => by cases h; rfl
  | .int b :: r, bs, h => by
    unfold intsOf at h
    cases q : intsOf r with
    | none => rw [q] at h; cases h
    | some cs =>
      rw [q] at h
      cases h
      rw [intsOf_eq q]
      rfl
  | .none :: _, _, h => by simp [intsOf] at h
  | .bool _ :: _, _, h => by simp [intsOf] at h
  | .str _ :: _, _, h => by simp [intsOf] at h
  | .list _ :: _, _, h => by simp [intsOf] at h
  | .tuple _ :: _, _, h => by simp [intsOf] at h
  | .dict _ :: _, _, h => by simp [intsOf] at h
theorem intsOf_map (bs : List Int) : intsOf (bs.map .int) = some bs := by
  induction bs with
  | nil => rfl
  | cons b r ih => rw [List.map_cons, intsOf, ih]; rfl
def sortedD : List D → Option (List D) := fun ds => match ds with | [x] => (itemsOf x).bind fun xs => (intsOf xs).map fun ns => (isort ns).map .int | _ => none
theorem cl_sorted : CallL K (fun vs H Q => rSortedI K vs H Q ∨ ∃ (a : Addr) (ns : List Int), vs = [V.ref a] ∧ SqT K H a (ns.map V.int) ∧ ∀ (p : Addr), H p = none → Q (.ref p) (upd H p (.lst ((isort ns).map V.int)))) sortedD := by
  intro F H vs ds d Q ex da e k
  unfold sortedD at e
  split at e
  · rename_i x
    cases q1 : itemsOf x with
    | none => rw [q1] at e; cases e
    | some xs =>
      rw [q1] at e
      cases q2 : intsOf xs with
      | none => simp [q2] at e
      | some ns =>
        simp only [Option.bind_some, q2, Option.map_some, Option.some.injEq] at e
        subst e
        have := intsOf_eq q2
        subst this
        cases da with
        | cons h1 h2 =>
          cases h2
          obtain ⟨p, ys, rfl, hs, da2⟩ := seq_of ex h1 q1
          have := ints_dpa da2
          subst this
          rcases hs with hs | hs
          · refine .inl ⟨p, ns, rfl, hs, fun ns' p' hp hw hn => ?_⟩
            rw [isort_eq hp hw]
            exact k p' _ hn (dpa_ints _)
          · exact .inr ⟨p, ns, rfl, hs, fun p' hn => k p' _ hn (dpa_ints _)⟩
  · cases e
theorem CallR.or {f : Value} {r r' : List V → Hp → VK → Prop} (h : CallR X f r) (h' : CallR X f r') : CallR X f (fun x H Q => r x H Q ∨ r' x H Q) := by
  intro pins s σ H xs us Q I rx q
  rcases q with q | q
  · exact h pins s σ H xs us Q I rx q
  · exact h' pins s σ H xs us Q I rx q
theorem l_sorted {p : Pos} (hg : Gl X "sorted") (hm : X.mg "sorted" = none) (ha : A X g (e :: es) u) (hst : starEach (e :: es) X.env = (false, eval e X.env) :: starEach es X.env := by rfl) (hpl : (backTo pos (starEach es X.env)).any (·.1) = false := by rfl) : Ls X g (.Call (.Name "sorted" p) (e :: es) [] pos) (dCallL sortedD u) :=
  l_callB (CallR.or cr_sortedI cr_sortedTup) cl_sorted hg hm PyProof.Rows.boot_sorted ha (by decide) (by decide) hst hpl
end
end DL

namespace DL
open PySem L2
/-! ### enumerate of a tuple -/
abbrev itO (l : Addr) : Obj := { cls := .type "tuple_iterator", data := .fields #[.ref l, .int 0 0] }
abbrev enO (it : Addr) : Obj := { cls := .type "enumerate", data := .fields #[.none, .bool false, .ref it, rawInt 0, .none, .none] }
theorem enumT_meets (l : Addr) (items : Array Value) (n : Nat) (dct : Option Addr) (sl : Array (Option Value)) :
    Meets (Builtin.«enumerate.__new__» ⟨[.type "enumerate", .ref l], []⟩) (fun _ R s => s.heap.get? l = some { cls := .type "tuple", dict := dct, data := .seq items n, slots := sl } ∧
      R (.ok (.ret (.ref (s.heap.push (itO l)).objs.size))) { s with heap := (s.heap.push (itO l)).push (enO s.heap.objs.size) }) :=
  Meets.of_wp fun prog w A R s h => by
    obtain ⟨hp, gs, dr, tk, os⟩ := s
    obtain ⟨hl, h⟩ := h
    have isub := sub_enumerate
    have hT : Heap.IsTuple (Shared.heap ⟨hp, gs, dr, tk, os⟩) l items := ⟨_, hl, rfl, n, rfl⟩
    wp_walk using AutoSeq1.wpAny_loadPart' hl
    refine wpAny_stack_any fun st => wpAny_pure ?_
    split
    · rename_i c _ _ _ _ _
      cases (c == Value.type "enumerate") <;> (wp_walk using AutoSeq1.wpAny_loadPart' hl, wpAny_pyIter_tuple hT; exact ⟨_, rfl, h⟩)
    · wp_walk using AutoSeq1.wpAny_loadPart' hl, wpAny_pyIter_tuple hT
      exact ⟨_, rfl, h⟩
section
variable {prog : Program} {w : World} {A : Around} {E : Value → Shared → Prop} {s : Shared}
theorem enumT_call {l : Addr} {items : Array Value} {Q : Value → Shared → Prop} (hT : s.heap.IsTuple l items)
    (h : ∀ h', IsEnum h' (s.heap.objs.size + 1) s.heap.objs.size 0 .none → h'.IsTupleIter s.heap.objs.size l 0 → h'.objs.size = s.heap.objs.size + 2 → (∀ b o, s.heap.get? b = some o → h'.get? b = some o) → Q (.ref (s.heap.objs.size + 1)) { s with heap := h' }) :
    wpAny (model prog w) A (call (.type "enumerate") [.ref l]) Q E s := by
  obtain ⟨⟨c, dct, dt, sl⟩, hl, hc, n, hd⟩ := hT
  have e1 : c = .type "tuple" := hc
  have e2 : dt = .seq items n := hd
  subst e1
  subst e2
  refine callType_new F.called_enumerate (by decide) (F.typeCall_enumerate_1 _) (F.newCall_enumerate_1 _) (fun ob => F.args_object_init_2 ob _) F.entry_enumerate_new (enumT_meets l items n dct sl) ⟨hl, ?_⟩
  have hz : (s.heap.push (itO l)).objs.size = s.heap.objs.size + 1 := Heap.size_push ..
  show _ ∧ _
  rw [hz]
  have he : IsEnum ((s.heap.push (itO l)).push (enO s.heap.objs.size)) (s.heap.objs.size + 1) s.heap.objs.size 0 .none := by
    have q := Heap.get?_push_size (s.heap.push (itO l)) (o := enO s.heap.objs.size) rfl
    rw [hz] at q
    exact q
  exact ⟨⟨_, he, rfl⟩, h _ he ⟨_, Heap.get?_push_of_some _ (Heap.get?_push_size _ rfl), rfl, rfl⟩ (by rw [Heap.size_push, hz]) fun b o x => Heap.get?_push_of_some _ (Heap.get?_push_of_some _ x)⟩
theorem drawsT (hh : A.handled = none) (it l : Addr) (hne : l ≠ it) (items : Array Value) : Draws prog w A it [it, l] items.size (fun i x => items[i]? = some x) (fun i h => h.IsTupleIter it l i ∧ h.IsTuple l items) where
  live := fun i h st => by obtain ⟨⟨o, q, _⟩, _⟩ := st; exact ⟨o, q⟩
  frame := fun i h h' st k => by
    obtain ⟨⟨o, q, r⟩, ⟨o2, q2, r2⟩⟩ := st
    exact ⟨⟨o, k it (by simp) o q, r⟩, ⟨o2, k l (by simp) o2 q2, r2⟩⟩
  item := fun i s Q E hi st hQ => by
    obtain ⟨h1, h2⟩ := st
    refine RZ.nextOf_tuple_item h1 h2 (x := items[i]) (by simp [hi]) fun h' i1 sb => ?_
    obtain ⟨o2, q2, r2⟩ := h2
    exact hQ _ h' s.toks (by simp [hi]) ⟨i1, ⟨o2, (sb.2 l hne).trans q2, r2⟩⟩ sb
  done := fun s Q E st hE => by
    obtain ⟨h1, h2⟩ := st
    exact RZ.nextOf_tuple_end hh h1 h2 (by simp) hE
end
def ItEn (K : Fg) (a : Addr) : It :=
  ⟨fun i H => ∃ (xs : List V) (x : V), SqT K H a xs ∧ xs[i]? = some x, fun i H v H' => ∃ T x, v = .ref T ∧ H T = none ∧ H' = upd H T (.tup [.int (i : Nat), x]) ∧ ∀ xs, SqT K H a xs → xs[i]? = some x, fun i H => ∃ xs : List V, SqT K H a xs ∧ xs.length = i⟩
theorem turn_enT {P : Program} {w : World} {K : Fg} {elts : List Expr} {kk : Nat} {tpos : Pos} (a e it : Addr) (hai : a ≠ it) (hae : a ≠ e) :
    Turn P w K (.Tuple elts kk tpos) (ItEn K a) [e, it] e (fun i h => (∃ old, IsEnum h e it ((i : Nat) : Int) old) ∧ h.IsTupleIter it a i ∧ e ≠ it) where
  mem := by simp
  obj := fun i h st b hb => by
    obtain ⟨⟨old, he⟩, ⟨o, ho, hc, hd⟩, _⟩ := st
    rcases (by simpa using hb : b = e ∨ b = it) with z | z
    · exact ⟨_, z ▸ he, fun v q => by cases q⟩
    · exact ⟨o, z ▸ ho, fun v q => by rw [hd] at q; cases q⟩
  keep := fun i h h' st k => by
    obtain ⟨⟨old, he⟩, ⟨o, ho, r⟩, hne⟩ := st
    exact ⟨⟨old, k e (by simp) _ he⟩, ⟨o, k it (by simp) o ho, r⟩, hne⟩
  item := by
    intro X hP hw hK hc i pins s σ H E I hf st hg
    subst hP hw hK
    obtain ⟨⟨old, he⟩, hit, hne⟩ := st
    obtain ⟨xs, x, hq, hx⟩ := hg
    obtain ⟨its, rv, pT, hz⟩ := I.tuple hq
    obtain ⟨v, hv, ru⟩ := rv.get hx
    have hel : e < s.heap.objs.size := Heap.lt_size he
    have hil : it < s.heap.objs.size := by obtain ⟨_, q, _⟩ := hit; exact Heap.lt_size q
    have hin : i < its.length := (List.getElem?_eq_some_iff.mp hv).1
    refine wpAny_pyNext_enum_itemD (drawsT (A := X.A.in1) (I.ok.hd hc) it a hai its.toArray) he ⟨hit, pT⟩ (by simpa using hin) hne (by simp [hne, Ne.symm hae]) fun y h' tk hy ho hit' hT hsz hk => ?_
    have ey : y = v := by
      have q : its.toArray[i]? = some y := hy
      rw [List.getElem?_toArray, hv] at q
      exact (Option.some.inj q).symm
    subst ey
    refine ⟨_, rfl, wpAny_letOwnedTupleGo_enum (s := { s with heap := h', toks := tk + 1 }) ho fun h2 he' sb => ?_⟩
    have hT2 : h2.get? s.heap.objs.size = some { cls := .type "tuple", data := .seq #[.int i tk, y] } := (sb.2 _ (Nat.ne_of_gt hel)).trans hT
    have new : ObjOk X.prog X.w (upd H s.heap.objs.size (.tup [.int (i : Nat), x])) h2 s.heap.objs.size (.tup [.int (i : Nat), x]) :=
      ⟨Evl.sz_of (by show 2 ≤ 100000; decide), [.int i tk, y], .cons ⟨_, rfl⟩ (.cons ru .nil), ⟨_, hT2, rfl, _, rfl⟩⟩
    have I1 : Inv X pins σ (upd H s.heap.objs.size (.tup [.int (i : Nat), x])) { s with heap := h2, toks := tk + 1 } :=
      I.turnedNew (ch := [e, it]) (fun b ob hb q => (sb.2 b (fun z => hb (by simp [z]))).trans (hk b ob (fun z => hb (by simp [z])) (fun z => hb (by simp [z])) q)) hf (Nat.le_refl _) new
    refine ⟨.ref s.heap.objs.size, _, I1, rfl, ⟨_, x, rfl, I.hok.fresh (Nat.le_refl _), rfl, fun ys hy => by rw [I.tuple_inj hy hq]; exact hx⟩, ⟨⟨y, ?_⟩, ?_, hne⟩, fun b hb => ?_⟩
    · have e1 : ((i + 1 : Nat) : Int) = (i : Int) + 1 := by omega
      rw [e1]
      exact he'
    · obtain ⟨⟨o, q, r⟩, _⟩ := hit'
      exact ⟨o, (sb.2 it (Ne.symm hne)).trans q, r⟩
    · have hb' : b < s.heap.objs.size := by
        rcases (by simpa using hb : b = e ∨ b = it) with z | z
        · exact z ▸ hel
        · exact z ▸ hil
      rw [upd_ne (Nat.ne_of_lt hb')]
      exact (hf b hb).1
  done := by
    intro X hP hw hK hc i pins s σ H E I hf st hg
    subst hP hw hK
    obtain ⟨⟨old, he⟩, hit, hne⟩ := st
    obtain ⟨xs, hq, hx⟩ := hg
    obtain ⟨its, rv, pT, hz⟩ := I.tuple hq
    obtain ⟨f0, f1, f2, f3, f4, f5⟩ := hf it (by simp)
    have hl := rv.length
    have ei : i = its.toArray.size := by rw [List.size_toArray]; omega
    refine wpAny_pyNext_enum_endD (drawsT (A := X.A.in1) (I.ok.hd hc) it a hai its.toArray) he (ei ▸ ⟨hit, pT⟩) fun h' eb => ⟨rfl, I.turned (t' := s.toks) (fun b o hb q => eb b o hb q) f0 f1 f3 f4 f5⟩
  self := fun A i s Q E st h => by
    obtain ⟨⟨_, he⟩, _⟩ := st
    exact wpAny_pyIter_enum he h
section
variable {X : Cx} {g : G} {tg iter a b e : Expr} {es : List Expr} {t ta tb : DT} {u : DA} {pos : Pos} {K : Fg}
def iEnumTv (K : Fg) (ta : TA) : TI := fun σ H R => ta σ H fun vs H1 => ∃ a xs, vs = [.ref a] ∧ SqT K H1 a xs ∧ R (ItEn K a) H1
theorem pi_enumT {ta : TA} {p tpos : Pos} {elts : List Expr} {kk : Nat} (hg : Gl X "enumerate") (hm : X.mg "enumerate" = none) (ha : PA X [e] ta) (hs : starEach [e] X.env = [(false, eval e X.env)] := by rfl) :
    PI X (.Tuple elts kk tpos) (.Call (.Name "enumerate" p) [e] [] pos) (iEnumTv X.K ta) := by
  refine ⟨fun pins s σ H R I h => PyProof.Rows.Call_ (ld_blt (u := .type "enumerate") I hg hm (by decide +kernel) (PyProof.Rows.callWith_type1 (thn (ha.run pos pins s σ H _ I h) fun us s1 ⟨vs, H1, I1, r1, q1⟩ => ?_) hs rfl))⟩
  obtain ⟨a, xs, ex, hq, q⟩ := q1
  subst ex
  rw [Vals.ref1 r1]
  obtain ⟨its, rv, pT, hz⟩ := I1.tuple hq
  have hal : a < s1.heap.objs.size := pT.lt
  refine enumT_call pT fun h' he hit hsz hk => wpAny_pyIter_enum he ?_
  have I2 : Inv X pins σ H1 { s1 with heap := h' } := I1.kept (t' := s1.toks) hk
  refine ⟨s1.heap.objs.size + 1, [s1.heap.objs.size + 1, s1.heap.objs.size], _, _, H1, rfl, I2, turn_enT a (s1.heap.objs.size + 1) s1.heap.objs.size (Nat.ne_of_lt hal) (Nat.ne_of_lt (Nat.lt_succ_of_lt hal)), ⟨⟨.none, he⟩, hit, Nat.succ_ne_self _⟩, fun b hb => ?_, q⟩
  have hle : s1.heap.objs.size ≤ b := by
    rcases (by simpa using hb : b = s1.heap.objs.size + 1 ∨ b = s1.heap.objs.size) with z | z
    · exact z ▸ Nat.le_add_right _ _
    · exact z ▸ Nat.le_refl _
  exact I1.fpOk hle (I1.hok.fresh hle)
theorem enumD_get {ds : List D} {i : Nat} {d : D} (h : ds[i]? = some d) : (enumD ds)[i]? = some (.tuple [.int (i : Nat), d]) := by
  unfold enumD
  rw [List.getElem?_mapIdx, h]
  rfl
def iEnT (u : DA) : DI := fun ρ n P => u ρ n fun ss n' => ∃ ds, ss = [.d (.tuple ds)] ∧ P (enumD ds) n'
def iEnL (u : DA) : DI := fun ρ n P => u ρ n fun ss n' => ∃ ds, ss = [.d (.list ds)] ∧ P (enumD ds) n'
theorem i_enumT {p tpos : Pos} {elts : List Expr} {kk : Nat} (hg : Gl X "enumerate") (hm : X.mg "enumerate" = none) (h : A X g [e] u) (hs : starEach [e] X.env = [(false, eval e X.env)] := by rfl) : I X g (.Tuple elts kk tpos) (.Call (.Name "enumerate" p) [e] [] pos) (iEnT u) := by
  obtain ⟨te, p1, q1⟩ := h
  refine ⟨_, pi_enumT hg hm p1 hs, fun σ F H ρ n P R sr p k => q1 σ F H ρ n _ _ sr p fun ss n' vs F' H' ⟨ds, e, p'⟩ gr sr' da => ?_⟩
  subst e
  have da := args_data (ds := [.tuple ds]) da
  cases da with
  | cons h1 h2 =>
    cases h2
    obtain ⟨a, xs, rfl, h3, h4⟩ := dp_tuple h1
    have hl := dpa_len h4
    have hle : (enumD ds).length = ds.length := by unfold enumD; rw [List.length_mapIdx]
    refine ⟨a, xs, rfl, Evl.ex_t sr'.ex h3, k _ n' _ F' H' p' gr sr' ⟨fun i F1 H1 e1 e2 hi => ?_, fun i F1 H1 x H2 e1 e2 hi hy => ?_, fun F1 H1 e1 e2 => ?_⟩⟩
    · exact ⟨xs, _, Evl.ex_t (e1.trans e2) h3, List.getElem?_eq_getElem (by omega)⟩
    · obtain ⟨T, y, rfl, hT, rfl, hx⟩ := hy
      obtain ⟨d, hd, dx⟩ := dpa_get h4 (hx xs (Evl.ex_t (e1.trans e2) h3))
      have g2 := Grow.new (m := none) (o := .tup [.int (i : Nat), y]) e2 hT
      exact ⟨_, _, enumD_get hd, g2, .tup (SqT.of upd_same) (.cons (.int _) (.cons (dp_ex (e1.trans g2.f) _ _ dx) .nil))⟩
    · exact ⟨xs, Evl.ex_t (e1.trans e2) h3, by omega⟩
theorem i_enumL {p tpos : Pos} {elts : List Expr} {kk : Nat} (hg : Gl X "enumerate") (hm : X.mg "enumerate" = none) (h : A X g [e] u) (hs : starEach [e] X.env = [(false, eval e X.env)] := by rfl) : I X g (.Tuple elts kk tpos) (.Call (.Name "enumerate" p) [e] [] pos) (iEnL u) := by
  obtain ⟨te, p1, q1⟩ := h
  refine ⟨_, pi_enum hg hm p1 hs, fun σ F H ρ n P R sr p k => q1 σ F H ρ n _ _ sr p fun ss n' vs F' H' ⟨ds, e, p'⟩ gr sr' da => ?_⟩
  subst e
  have da := args_data (ds := [.list ds]) da
  cases da with
  | cons h1 h2 =>
    cases h2
    obtain ⟨a, xs, rfl, h3, h4⟩ := dp_list h1
    have hl := dpa_len h4
    have hle : (enumD ds).length = ds.length := by unfold enumD; rw [List.length_mapIdx]
    refine ⟨a, xs, rfl, SqL.of (sr'.ex _ _ h3), k _ n' _ F' H' p' gr sr' ⟨fun i F1 H1 e1 e2 hi => ?_, fun i F1 H1 x H2 e1 e2 hi hy => ?_, fun F1 H1 e1 e2 => ?_⟩⟩
    · exact ⟨xs, _, SqL.of (e2 _ _ (e1 _ _ h3)), List.getElem?_eq_getElem (by omega)⟩
    · obtain ⟨T, y, rfl, hT, rfl, hx⟩ := hy
      obtain ⟨d, hd, dx⟩ := dpa_get h4 (hx xs (SqL.of (e2 _ _ (e1 _ _ h3))))
      have g2 := Grow.new (m := none) (o := .tup [.int (i : Nat), y]) e2 hT
      exact ⟨_, _, enumD_get hd, g2, .tup (SqT.of upd_same) (.cons (.int _) (.cons (dp_ex (e1.trans g2.f) _ _ dx) .nil))⟩
    · exact ⟨xs, SqL.of (e2 _ _ (e1 _ _ h3)), by omega⟩
end
end DL

namespace DL
open PySem L2
/-! ### slices of tuples by a step -/
def stepV {α : Type} (xs : List α) (lo hi : Option Int) (c : Int) : List α :=
  (List.range (Builtin.Slice.slicePlaces (Builtin.Slice.sliceAdjust lo hi c (xs.length : Nat)).1 (Builtin.Slice.sliceAdjust lo hi c (xs.length : Nat)).2 c)).filterMap fun k => xs[((Builtin.Slice.sliceAdjust lo hi c (xs.length : Nat)).1 + (k : Nat) * c).toNat]?
section
variable {prog : Program} {w : World} {A : Around} {E : Value → Shared → Prop} {s : Shared}
theorem sliceApplied_step {sl : Addr} {vl vu vc : Value} {lo hi : Option Int} {c : Int} {n : Nat} {Q : Int × Int × Nat → Shared → Prop} (hs : s.heap.IsSliceOf sl vl vu vc) (pl : IsPart vl lo) (pu : IsPart vu hi) (pc : IsPart vc (some c)) (h0 : c ≠ 0)
    (h : Q ((Builtin.Slice.sliceAdjust lo hi c (n : Int)).1, c, Builtin.Slice.slicePlaces (Builtin.Slice.sliceAdjust lo hi c (n : Int)).1 (Builtin.Slice.sliceAdjust lo hi c (n : Int)).2 c) s) : wpAny (model prog w) A (Builtin.Slice.sliceApplied (.ref sl) (pure (n : Int))) Q E s := by
  obtain ⟨os, hos, hcs, hds⟩ := id hs
  unfold Builtin.Slice.sliceApplied Builtin.Slice.sliceFields
  refine wpAny_bind (wpAny_bind (wpAny_field hos hds (x := vl) rfl (wpAny_bind (wpAny_field hos hds (x := vu) rfl (wpAny_bind (wpAny_field hos hds (x := vc) rfl (wpAny_pure ?_)))))))
  refine wpAny_bind (HT.slicePart_ pc ?_)
  show wpAny _ _ (if (c == 0) = true then _ else _) _ _ s
  rw [if_neg (by simpa using h0)]
  refine wpAny_bind (HT.slicePart_ pl (wpAny_bind (HT.slicePart_ pu (wpAny_bind (wpAny_pure ?_)))))
  exact wpAny_pure h
theorem getItem_tuple_step {t sl : Addr} {items : List Value} {vl vu vc : Value} {lo hi : Option Int} {c : Int} {Q : Value → Shared → Prop} (ht : PyProof.Rows.IsTup s.heap t items.toArray) (hs : s.heap.IsSliceOf sl vl vu vc) (pl : IsPart vl lo) (pu : IsPart vu hi) (pc : IsPart vc (some c)) (h0 : c ≠ 0) (h1 : c ≠ 1)
    (hsz : (stepV items lo hi c).length ≤ sizeLine) (h : Q (.ref s.heap.objs.size) { s with heap := s.heap.push { cls := .type "tuple", data := .seq (stepV items lo hi c).toArray } }) : wpAny (model prog w) A (getItem (.ref t) (.ref sl)) Q E s := by
  obtain ⟨os, hos, hcs, hds⟩ := id hs
  have hTs : s.TypeIs (.ref sl) "slice" := ⟨os, hos, hcs⟩
  unfold getItem
  try with_reducible refine wpAny_holding ?_
  first | refine wpAny_bind (wpAny_pure ?_) | skip
  refine wpAny_bind (wpAny_sequenceKey ht.typeIs (by decide) ?_)
  refine wpAny_bind (wpAny_callSpecial?_slot (name := Str.ofString "__getitem__") ht.typeIs PyProof.Rows.slot_tuple_getitem (wpAny_call_entry PyProof.Rows.slot_tuple_getitem ht.typeIs PyProof.Rows.entry_tuple_getitem ?_ (PyProof.Rows.args_tuple_getitem _ _)))
  show wpAny _ _ (Builtin.Tuple.tupleItemsOf (.ref t) >>= _) _ _ s
  refine wpAny_bind (PyProof.Rows.tupleItemsOf_ ht (wpAny_bind (wpAny_typeOf hTs ?_)))
  rw [if_pos (by decide)]
  refine wpAny_bind (sliceApplied_step hs pl pu pc h0 ?_)
  have no : ¬ (((Builtin.Slice.sliceAdjust lo hi c (items.toArray.size : Int)).1 == 0 && c == 1 && Builtin.Slice.slicePlaces (Builtin.Slice.sliceAdjust lo hi c (items.toArray.size : Int)).1 (Builtin.Slice.sliceAdjust lo hi c (items.toArray.size : Int)).2 c == items.toArray.size) = true) := fun q => by
    rw [Bool.and_eq_true, Bool.and_eq_true] at q
    exact h1 (eq_of_beq q.1.2)
  show wpAny _ _ (if (((Builtin.Slice.sliceAdjust lo hi c (items.toArray.size : Int)).1 == 0 && c == 1 && Builtin.Slice.slicePlaces (Builtin.Slice.sliceAdjust lo hi c (items.toArray.size : Int)).1 (Builtin.Slice.sliceAdjust lo hi c (items.toArray.size : Int)).2 c == items.toArray.size) = true) then _ else _) _ _ s
  rw [if_neg no]
  have eq : ((List.range (Builtin.Slice.slicePlaces (Builtin.Slice.sliceAdjust lo hi c (items.toArray.size : Int)).1 (Builtin.Slice.sliceAdjust lo hi c (items.toArray.size : Int)).2 c)).filterMap fun (k : Nat) => items.toArray[((Builtin.Slice.sliceAdjust lo hi c (items.toArray.size : Int)).1 + (k : Int) * c).toNat]?) = stepV items lo hi c := by
    unfold stepV
    simp only [List.size_toArray, List.getElem?_toArray]
  rw [eq]
  have sz : sizeOk (.seq (stepV items lo hi c).toArray) := by
    show (stepV items lo hi c).toArray.size ≤ sizeLine
    rw [List.size_toArray]
    exact hsz
  first
    | exact wpAny_bind (m := Builtin.Tuple.tupleExact _) (wpAny_newObj_type (wpAny_pure ⟨_, rfl, wpAny_pure h⟩) sz)
    | exact wpAny_bind (m := Builtin.Tuple.tupleExact _) (wpAny_newObj_type (wpAny_bind (wpAny_pure (wpAny_pure ⟨_, rfl, wpAny_pure h⟩))) sz)
    | exact wpAny_bind (wpAny_bind (m := Builtin.Tuple.tupleExact _) (wpAny_newObj_type (wpAny_pure (wpAny_pure ⟨_, rfl, wpAny_pure h⟩)) sz))
    | exact wpAny_bind (wpAny_bind (m := Builtin.Tuple.tupleExact _) (wpAny_newObj_type (wpAny_pure ⟨_, rfl, wpAny_pure h⟩) sz))
end
theorem stepV_vals {xs : List V} {us : List Value} (r : Vals xs us) (lo hi : Option Int) (c : Int) : Vals (stepV xs lo hi c) (stepV us lo hi c) := by
  unfold stepV
  rw [r.length]
  generalize (List.range _) = ks
  induction ks with
  | nil => exact .nil
  | cons k ks ih =>
    rw [List.filterMap_cons, List.filterMap_cons]
    cases q : xs[((Builtin.Slice.sliceAdjust lo hi c (us.length : Nat)).1 + (k : Nat) * c).toNat]? with
    | none =>
      rw [Vals.none_of r q]
      exact ih
    | some v =>
      obtain ⟨w, hw, rw'⟩ := r.get q
      rw [hw]
      exact .cons rw' ih
theorem stepV_dpa {K : Fg} {F : Hp} {xs : List V} {ds : List D} (r : DpAll K F xs ds) (lo hi : Option Int) (c : Int) : DpAll K F (stepV xs lo hi c) (stepV ds lo hi c) := by
  unfold stepV
  rw [dpa_len r]
  generalize (List.range _) = ks
  induction ks with
  | nil => exact .nil
  | cons k ks ih =>
    rw [List.filterMap_cons, List.filterMap_cons]
    cases q : xs[((Builtin.Slice.sliceAdjust lo hi c (ds.length : Nat)).1 + (k : Nat) * c).toNat]? with
    | none =>
      have q2 : ds[((Builtin.Slice.sliceAdjust lo hi c (ds.length : Nat)).1 + (k : Nat) * c).toNat]? = none := by
        rw [List.getElem?_eq_none_iff] at q ⊢
        have := dpa_len r
        omega
      rw [q2]
      exact ih
    | some v =>
      obtain ⟨w, hw, rw'⟩ := dpa_get r q
      rw [hw]
      exact .cons rw' ih
section
variable {X : Cx} {g : G} {a b e : Expr} {ta tb : DT} {pos : Pos} {K : Fg}
def tStep (K : Fg) (c : Int) (te : TE) (tl th : TO) : TE := fun σ H Q => te σ H fun x H1 => tl σ H1 fun lo H2 => th σ H2 fun hi H3 => ∃ p xs, x = .ref p ∧ SqT K H3 p xs ∧ (stepV xs lo hi c).length ≤ sizeLine ∧ ∀ q, H3 q = none → Q (.ref q) (upd H3 q (.tup (stepV xs lo hi c)))
theorem pe_step {te : TE} {tl th : TO} {lo hi : Option Expr} {st : Expr} {c : Int} {p3 : Pos} (he : PE X e te) (hl : PO X lo tl) (hh : PO X hi th) (hs : PO X (some st) (fun _ H Q => Q (some c) H)) (h0 : c ≠ 0) (h1 : c ≠ 1) : PE X (.Subscript e (.Slice lo hi (some st) p3) pos) (tStep X.K c te tl th) := by
  refine ⟨fun pins s σ H Q I h => PyProof.Rows.Subscript_ (thn (he.run pins s σ H _ I h) fun v s1 ⟨x, H1, I1, r1, q1⟩ => ?_)⟩
  refine wpAny_Slice (thn (hl.run pins s1 σ H1 _ I1 q1) fun vl s2 ⟨l, H2, I2, pl, q2⟩ => ?_)
  refine thn (hh.run pins s2 σ H2 _ I2 q2) fun vu s3 ⟨h, H3, I3, pu, q3⟩ => ?_
  refine thn (hs.run pins s3 σ H3 (fun o H4 => o = some c ∧ H4 = H3) I3 ⟨rfl, rfl⟩) fun vc s4 ⟨o, H4, I4, pc, eo, e4⟩ => ?_
  subst eo
  subst e4
  obtain ⟨p, xs, rfl, hT, hz, q⟩ := q3
  cases r1
  have I5 : Inv X pins σ H4 { s4 with heap := s4.heap.push { cls := .type "slice", data := .fields #[vl, vu, vc] } } := I4.kept (t' := s4.toks) fun b ob z => Heap.get?_push_of_some _ z
  obtain ⟨its, r, ht, hz2⟩ := I5.tuple hT
  have rv := stepV_vals r l h c
  show wpAny (model X.prog X.w) X.A (PyProof.Rows.subscriptTail e (.Slice lo hi (some st) p3) (.ref p) (.ref s4.heap.objs.size)) (EP X pins σ Q) X.xe { s4 with heap := s4.heap.push { cls := .type "slice", data := .fields #[vl, vu, vc] } }
  refine PyProof.Rows.tail_any (ops := [.ref p, .ref s4.heap.objs.size]) ht.typeIs (PyProof.Rows.slot_tuple_getitem.lookup) ?_ (by with_unfolding_all rfl)
  refine getItem_tuple_step ht (Heap.IsSliceOf.new _ vl vu vc) pl pu pc h0 h1 (by rw [← rv.length]; exact hz) ?_
  refine ⟨.ref _, _, I5.laid (t' := s4.toks) (o := .tup (stepV xs l h c)) (fun b ob z => Heap.get?_push_of_some _ z) (Nat.le_refl _) ?_, rfl, q _ (I5.hok.fresh (Nat.le_refl _))⟩
  exact ⟨hz, _, rv, ⟨_, Heap.get?_push_size _ rfl, rfl, _, rfl⟩⟩
def stepD (c : Int) : D → Option Int → Option Int → Option D := fun x lo hi => match x with | .tuple ds => if decide ((stepV ds lo hi c).length ≤ 100000) then some (.tuple (stepV ds lo hi c)) else none | _ => none
def dStep (c : Int) (ta : DT) (tl th : DO) : DT := fun ρ n P => ta ρ n fun x n1 => tl ρ n1 fun lo n2 => th ρ n2 fun hi n3 => ∃ d, stepD c x lo hi = some d ∧ P d n3
theorem se_step {te : TE} {to1 to2 : TO} {tl th : DO} {c : Int} (q1 : SE K g te ta) (q2 : SO K g to1 tl) (q3 : SO K g to2 th) : SE K g (tStep K c te to1 to2) (dStep c ta tl th) := fun σ F H ρ n P Q sr p k => q1 σ F H ρ n _ _ sr p fun x n1 vx F1 H1 p1 g1 sr1 dx => q2 σ F1 H1 ρ n1 _ _ sr1 p1 fun l n2 F2 H2 p2 g2 sr2 => q3 σ F2 H2 ρ n2 _ _ sr2 p2 fun h n3 F3 H3 ⟨d, e, p3⟩ g3 sr3 => by
  unfold stepD at e
  split at e
  · rename_i ds
    split at e
    · rename_i hc
      cases e
      obtain ⟨q, xs, rfl, h1, h2⟩ := dp_tuple (dp_ex (g2.f.trans g3.f) _ _ dx)
      have da := stepV_dpa h2 l h c
      refine ⟨q, xs, rfl, Evl.ex_t sr3.ex h1, by rw [dpa_len da]; exact Evl.sz_of (of_decide_eq_true hc), fun q' hq' => ?_⟩
      have gr := Grow.new (m := none) (o := .tup (stepV xs l h c)) sr3.ex hq'
      exact k _ n3 _ _ _ p3 (((g1.trans g2).trans g3).trans gr.any) (sr3.grow gr) (.tup (SqT.of upd_same) (dpa_ex gr.f _ _ da))
    · cases e
  · cases e
theorem po_m1 {k : Nat} {p1 p2 : Pos} : PO X (some (.UnaryOp .USub (.Constant (.int 1) k p1) p2)) (fun _ H Q => Q (some (-1)) H) := by
  have h : PO X (some (.UnaryOp .USub (.Constant (.int 1) k p1) p2)) (tPart (tUn (rU fun i => .int (-i)) (tC (.int 1)))) := po_some (pe_un un_neg pe_int)
  exact ⟨fun pins s σ H Q I q => h.run pins s σ H Q I ⟨1, rfl, -1, rfl, q⟩⟩
theorem po_c {k : Nat} {c : Int} {p1 : Pos} : PO X (some (.Constant (.int c) k p1)) (fun _ H Q => Q (some c) H) := by
  have h : PO X (some (.Constant (.int c) k p1)) (tPart (tC (.int c))) := po_some pe_int
  exact ⟨fun pins s σ H Q I q => h.run pins s σ H Q I ⟨c, rfl, q⟩⟩
theorem e_revT {lo hi : Option Expr} {tl th : DO} {k : Nat} {p1 p2 p3 : Pos} (ha : E X g a ta) (hl : Op X g lo tl) (hh : Op X g hi th) : E X g (.Subscript a (.Slice lo hi (some (.UnaryOp .USub (.Constant (.int 1) k p1) p2)) p3) pos) (dStep (-1) ta tl th) := by
  obtain ⟨te, p1, q1⟩ := ha
  obtain ⟨to1, p2, q2⟩ := hl
  obtain ⟨to2, p3, q3⟩ := hh
  exact ⟨_, pe_step p1 p2 p3 po_m1 (by decide) (by decide), se_step q1 q2 q3⟩
theorem e_stepT {lo hi : Option Expr} {tl th : DO} {k : Nat} {c : Int} {p1 p3 : Pos} (ha : E X g a ta) (hl : Op X g lo tl) (hh : Op X g hi th) (h0 : c ≠ 0 := by decide) (h1 : c ≠ 1 := by decide) : E X g (.Subscript a (.Slice lo hi (some (.Constant (.int c) k p1)) p3) pos) (dStep c ta tl th) := by
  obtain ⟨te, p1, q1⟩ := ha
  obtain ⟨to1, p2, q2⟩ := hl
  obtain ⟨to2, p3, q3⟩ := hh
  exact ⟨_, pe_step p1 p2 p3 po_c h0 h1, se_step q1 q2 q3⟩
end
end DL

namespace DL
open PySem L2
/-! ### the machine of the draws -/
def mK (q : Addr) (s u : Int) : List (Key × V) := [(kG, .ref q), (kS, .int s), (kT, .int u)]
theorem mK_g {q : Addr} {s u : Int} : valV (mK q s u) (Sum.inr "great" : Key) = some (.ref q) := by unfold mK kG kS kT; kernel_rfl
theorem mK_s {q : Addr} {s u : Int} : valV (mK q s u) (Sum.inr "seed" : Key) = some (.int s) := by unfold mK kG kS kT; kernel_rfl
theorem mK_t {q : Addr} {s u : Int} : valV (mK q s u) (Sum.inr "turns" : Key) = some (.int u) := by unfold mK kG kS kT; kernel_rfl
theorem mK_pg {q r : Addr} {s u : Int} : putK (mK q s u) (Sum.inr "great" : Key) (.ref r) = mK r s u := by unfold mK kG kS kT; kernel_rfl
theorem mK_pt {q : Addr} {s u v : Int} : putK (mK q s u) (Sum.inr "turns" : Key) (.int v) = mK q s v := by unfold mK kG kS kT; kernel_rfl
/-- while a draw is under way -/
structure DrawSt (m : Addr) (F0 H0 : Hp) (s u : Int) (H : Hp) (ns : List Int) : Prop where
  ok : ∃ F q, Grow (some m) F0 H0 F H ∧ F m = none ∧ H m = some (.dK (mK q s u)) ∧ F q = some (.lst (ns.map V.int))
section
variable {m : Addr} {F0 H0 H : Hp} {s u : Int} {ns : List Int} {K : Fg}
theorem DrawSt.new (d : DrawSt m F0 H0 s u H ns) {p : Addr} {o : HO} (hp : H p = none) : DrawSt m F0 H0 s u (upd H p o) ns := by
  obtain ⟨F, q, g, fm, hm, fq⟩ := d
  refine ⟨F, q, g.trans (Grow.raw g.fh hp), fm, ?_, fq⟩
  rw [upd_ne (ne_of_none hm hp)]
  exact hm
theorem DrawSt.at_ (d : DrawSt m F0 H0 s u H ns) : ∃ q, H m = some (.dK (mK q s u)) ∧ H q = some (.lst (ns.map V.int)) := by
  obtain ⟨F, q, g, fm, hm, fq⟩ := d
  exact ⟨q, hm, g.fh _ _ fq⟩
/-- a list that was laid since is the machine's -/
theorem DrawSt.put (d : DrawSt m F0 H0 s u H ns) {p : Addr} {ks : List Int} (hp : H p = none) : DrawSt m F0 H0 s u (upd (upd H p (.lst (ks.map V.int))) m (.dK (mK p s u))) ks := by
  obtain ⟨F, q, g, fm, hm, fq⟩ := d
  have pm : p ≠ m := (ne_of_none hm hp).symm
  have fp : F p = none := Evl.fresh_back g.fh hp
  refine ⟨upd F p (.lst (ks.map V.int)), p, ⟨g.f.trans (Evl.Ex.new fp), fun a o h => ?_, fun a o ne h => ?_, fun a h => ?_, fun a o h => ?_⟩, by rw [upd_ne pm.symm]; exact fm, upd_same, upd_same⟩
  · by_cases c : a = p
    · subst c; rw [upd_same] at h; rw [upd_ne pm, upd_same]; exact h
    · rw [upd_ne c] at h
      rw [upd_ne (fun z => by rw [z, fm] at h; cases h), upd_ne c]
      exact g.fh a o h
  · have am : a ≠ m := fun z => ne (by rw [z])
    have := g.h a o ne h
    rw [upd_ne am, upd_ne (ne_of_none this hp)]
    exact this
  · by_cases c : a = m
    · subst c; rw [upd_same] at h; cases h
    · rw [upd_ne c] at h
      by_cases c2 : a = p
      · subst c2; rw [upd_same] at h; cases h
      · rw [upd_ne c2] at h; exact g.dm a h
  · by_cases c : a = p
    · subst c; exact .inr (g.dm a hp)
    · rw [upd_ne c] at h; exact g.fr a o h
theorem DrawSt.turn (d : DrawSt m F0 H0 s u H ns) {v : Int} {q : Addr} (hq : H m = some (.dK (mK q s u))) : DrawSt m F0 H0 s v (upd H m (.dK (mK q s v))) ns := by
  obtain ⟨F, q', g, fm, hm, fq⟩ := d
  rw [hq] at hm
  have e : q = q' := by
    have := (Option.some.inj hm)
    simp only [mK, HO.dK.injEq, List.cons.injEq, Prod.mk.injEq, V.ref.injEq] at this
    exact this.1.2
  subst e
  refine ⟨F, q, ⟨g.f, fun a o h => ?_, fun a o ne h => ?_, fun a h => ?_, g.fr⟩, fm, upd_same, fq⟩
  · rw [upd_ne (fun z => by rw [z, fm] at h; cases h)]; exact g.fh a o h
  · rw [upd_ne (fun z => ne (by rw [z]))]; exact g.h a o ne h
  · by_cases c : a = m
    · subst c; rw [upd_same] at h; cases h
    · rw [upd_ne c] at h; exact g.dm a h
theorem DrawSt.fin (d : DrawSt m F0 H0 s u H ns) {t : Nat} (h0 : ∀ n ∈ ns, 0 ≤ n) (hl : ns.length ≤ 64) (s0 : 0 ≤ s) (s1 : s < 2147483647) (u0 : 0 ≤ u) (u1 : u ≤ t) : ∃ F, Grow (some m) F0 H0 F H ∧ MachOk K F H (some m) t := by
  obtain ⟨F, q, g, fm, hm, fq⟩ := d
  refine ⟨F, g, fun a e => ?_⟩
  cases e
  exact ⟨fm, q, ns, s, u, hm, .lst fq (dpa_ints ns), h0, hl, s0, s1, u0, u1⟩
end
def c__law_draw : Ct := ⟨Int, fun L ss n => ss = [.m, .d (.int L)] ∧ 0 < L ∧ L < 1073741824 ∧ n < 1000000000, fun L n d n' => ∃ r, d = .int r ∧ 0 ≤ r ∧ r < L ∧ n' = n + 1, fun _ _ _ _ _ => False⟩
theorem depthAll_ints : ∀ ns : List Int, PyData.depthAll (ns.map .int) ≤ 1
  | [] => by decide
  | n :: ns => by
    have := depthAll_ints ns
    simp only [List.map_cons, PyData.depthAll, PyData.depth]
    omega
theorem lay_ints : ∀ ns : List Int, PyData.canLayAll0 (ns.map .int) = true
  | [] => rfl
  | n :: ns => by simp only [List.map_cons, PyData.canLayAll0, PyData.canLay0, lay_ints ns, Bool.and_self]
theorem shp_ints (ns : List Int) : SeqAt.shaped (.list (ns.map .int)) = true := by
  have := depthAll_ints ns
  unfold SeqAt.shaped
  rw [Bool.and_eq_true]
  refine ⟨by simp only [PyData.canLay0, lay_ints], decide_eq_true ?_⟩
  simp only [PyData.depth]
  omega
theorem shpT_ints (ns : List Int) : SeqAt.shaped (.tuple (ns.map .int)) = true := by
  have := depthAll_ints ns
  unfold SeqAt.shaped
  rw [Bool.and_eq_true]
  refine ⟨by simp only [PyData.canLay0, lay_ints], decide_eq_true ?_⟩
  simp only [PyData.depth]
  omega
theorem l2_ints {K : Fg} {H : Hp} : ∀ ns : List Int, L2.DpAll K H (ns.map V.int) (ns.map PyData.int)
  | [] => .nil
  | n :: ns => .cons (.int n) (l2_ints ns)
theorem cutV_1 {n : Int} {ns : List Int} : cutV ((n :: ns).map V.int) (some 1) none = ns.map V.int := by
  unfold cutV
  rw [show HT.sIx ((n :: ns).map V.int).length 0 (some 1) = 1 from by
    rw [show (some (1 : Int)) = some ((1 : Nat) : Int) from rfl, HT.sIx_nat]
    simp, HT.sIx_none]
  simp only [List.map_cons, List.length_cons, List.length_map, List.drop_succ_cons, List.drop_zero, Nat.add_sub_cancel]
  rw [show ns.length = (ns.map V.int).length from (List.length_map ..).symm, List.take_length]
theorem if_t {c : Bool} {A B : Prop} (e : c = true) (h : A) : if c = true then A else B := by rw [if_pos e]; exact h
theorem if_f {c : Bool} {A B : Prop} (e : c = false) (h : B) : if c = true then A else B := by rw [if_neg (by rw [e]; decide)]; exact h
end DL

namespace DL
open PySem L2
section
variable {X : Cx} {g : G} {a b e : Expr} {es : List Expr} {ta tb t : DT} {u : DA} {pos : Pos} {K : Fg}
/-! ### the script's length -/
def dLenS (i : Nat) : DT := fun ρ n P => ∃ k, ρ[i]? = some (some (.s k)) ∧ P (.int (k : Nat)) n
theorem SR.script {F H : Hp} {σ : L2.St} {ρ : Sl} {n i k : Nat} (sr : SR K g F H σ ρ n) (h : ρ[i]? = some (some (.s k))) : ∃ q xs, σ[i]? = some (some (.ref q)) ∧ SqL K H q xs ∧ xs.length = k := by
  obtain ⟨v, hv, q, xs, rfl, h1, h2, h3⟩ := sr.sl i _ h
  refine ⟨q, xs, hv, ?_, h2⟩
  rcases h1 with h1 | h1
  · have hm := h3 h1
    rcases h1 with h1 | ⟨o, h1⟩
    · exact .inl (.inl (sr.gr.h q _ hm h1))
    · exact .inl (.inr ⟨o, sr.gr.h q _ hm h1⟩)
  · exact .inr h1
theorem e_lenS (i : Nat) {x : Str} {p px : Pos} (hg : Gl X "len") (hm : X.mg "len" = none) (hN : X.N[i]? = some x := by rfl) (hv : Vis X.env.scope x := by first | exact Or.inl rfl | exact Or.inr (Or.inl rfl) | exact Or.inr (Or.inr rfl)) (hd : (x == ("__debug__" : Str)) = false := by decide)
    (hcd : (x == ("__classdict__" : Str)) = false := by decide) (hst : starEach [.Name x px] X.env = (false, eval (.Name x px) X.env) :: starEach [] X.env := by rfl) (hpl : (backTo pos (starEach [] X.env)).any (·.1) = false := by rfl) : E X g (.Call (.Name "len" p) [.Name x px] [] pos) (dLenS i) :=
  ⟨_, pe_callB call_len_seq hg hm PySem.boot_len (pa_cons (pe_var hN hv hd hcd) pa_nil hst) (by decide) (by decide) hst hpl, fun σ F H ρ n P Q sr ⟨k, hk, p⟩ kk => by
    obtain ⟨q, xs, hv, hq, hl⟩ := sr.script hk
    subst hl
    exact ⟨_, hv, q, xs, rfl, .inl hq, kk _ n _ F H p (Grow.refl sr.ex) sr (.int _)⟩⟩
/-! ### one reading for all ghosts -/
theorem sts_any {sts : List Stmt} {t : DS} (h : ∀ g, Sts X g sts t) : ∃ te, PSs X sts te ∧ ∀ g, SS X.K g te t := by
  refine ⟨fun D σ H => ∃ g', Classical.choose (h g').ok D σ H, ⟨fun pins s σ H D I ⟨g', hq⟩ => (Classical.choose_spec (h g').ok).1.run pins s σ H D I hq⟩, fun g σ F H ρ n P E sr p k1 k2 k3 k4 => ⟨g, ?_⟩⟩
  exact (Classical.choose_spec (h g).ok).2 σ F H ρ n P E sr p k1 k2 k3 k4
end
/-! ### the law's own beginning -/
def spBegun (K : Fg) : Sp := fun vs H Q _ => ∃ (a : Addr) (ns : List Int), vs = [.ref a] ∧ SqL K H a (ns.map V.int) ∧ ns.length ≤ 63 ∧
  ∀ (m q : Addr) (ks : List Int) (s : Int) (H' : Hp), H m = none → Ex H H' → H' m = some (.dK (mK q s 0)) → H' q = some (.lst (ks.map V.int)) → (∀ k ∈ ks, 0 ≤ k) → ks.length ≤ 63 → 0 ≤ s → s < 2147483647 → Q (.ref m) H'
def spLaw (K : Fg) : Sp := fun vs H Q _ => ∃ (a : Addr) (ns : List Int), vs = [.ref a] ∧ SqL K H a (ns.map V.int) ∧ ns.length ≤ 63 ∧ ∀ H', Q (.bl true) H'
theorem law_start {K : Fg} {H H' : Hp} {a m q : Addr} {ns ks : List Int} {s : Int} {x0 x1 : Str} {N : List Str} (hS : SqL K H a (ns.map V.int)) (h1 : Ex H H') (h2 : H' m = some (.dK (mK q s 0))) (h3 : H' q = some (.lst (ks.map V.int))) (h4 : ∀ k ∈ ks, 0 ≤ k) (h5 : ks.length ≤ 63) (h6 : 0 ≤ s) (h7 : s < 2147483647) :
    SR K ⟨H', upd (fun _ => none) q (.lst (ks.map V.int)), some m, noX⟩ (upd (fun _ => none) q (.lst (ks.map V.int))) H' ((L2.start (x0 :: x1 :: N) [.ref a]).set 1 (some (.ref m))) (startD (x0 :: x1 :: N) [.s ns.length, .m]) 0 := by
  have mq : m ≠ q := ne_of h2 h3 (by intro z; cases z)
  have ex : Ex (upd (fun _ => none) q (.lst (ks.map V.int))) H' := fun b o e => by
    by_cases c : b = q
    · subst c; rw [upd_same] at e; rw [h3]; exact e
    · rw [upd_ne c] at e; cases e
  refine ⟨Grow.refl ex, fun b e => ?_, fun i z e => ?_, fun i j l ds es e1 _ _ _ => ?_, ?_⟩
  · cases e
    exact ⟨by rw [upd_ne mq], q, ks, s, 0, h2, .lst upd_same (dpa_ints ks), h4, by omega, h6, h7, Int.le_refl _, by omega⟩
  · match i, e with
    | 0, e =>
      have : z = .s ns.length := by simpa [startD] using e.symm
      subst this
      refine ⟨.ref a, rfl, a, ns.map V.int, rfl, Evl.ex_l h1 hS, by rw [List.length_map], fun r z => ?_⟩
      cases z
      rcases r with r | ⟨o, r⟩
      · have r' : H' a = _ := r
        rw [h2] at r'; cases r'
      · have r' : H' a = _ := r
        rw [h2] at r'; cases r'
    | 1, e =>
      have : z = .m := by simpa [startD] using e.symm
      subst this
      exact ⟨.ref m, rfl, m, rfl, rfl⟩
    | i + 2, e =>
      exfalso
      have e' : (List.replicate N.length (none : Option S))[i]? = some (some z) := by simpa [startD] using e
      rw [List.getElem?_replicate] at e'
      split at e' <;> cases e'
  · match i, e1 with
    | 0, e => simp [startD] at e
    | 1, e => simp [startD] at e
    | i + 2, e =>
      exfalso
      have e' : (List.replicate N.length (none : Option S))[i]? = some (some (.o ds)) := by simpa [startD] using e
      rw [List.getElem?_replicate] at e'
      split at e' <;> cases e'
  · simp [startD, L2.start]
theorem merge_m {D : Addr} {z : Int} : mergeK [] [((Sum.inr "great" : Key), V.ref D), (Sum.inr "seed", .int z), (Sum.inr "turns", .int 0)] = mK D z 0 := by unfold mK kG kS kT; kernel_rfl
end DL

namespace DL
open PySem L2
section
variable {X : Cx} {g : G} {a b e : Expr} {es : List Expr} {ta tb t : DT} {u : DA} {pos : Pos} {K : Fg}
def rangeL (j : Nat) : List Int := (List.range j).map fun i => ((i : Nat) : Int)
def dListRange (t : DT) : DL_ := fun ρ n P => t ρ n fun d n' => ∃ j : Nat, d = .int ((j : Nat) : Int) ∧ j ≤ 10000 ∧ P ((rangeL j).map .int) n'
theorem rgV_nat (j : Nat) : rgV 0 ((j : Nat) : Int) = (rangeL j).map V.int := by
  unfold rgV rangeL
  rw [Int.sub_zero, Int.toNat_natCast, List.map_map]
  congr 1
  funext i
  simp
theorem l_listRange {p p2 pos2 : Pos} (hc : X.calm = true) (hg : Gl X "list") (hm : X.mg "list" = none) (hg2 : Gl X "range") (hm2 : X.mg "range" = none) (ha : E X g a t) (na : starEach [a] X.env = (false, eval a X.env) :: starEach [] X.env := by rfl)
    (nb : starEach [.Call (.Name "range" p2) [a] [] pos2] X.env = (false, eval (.Call (.Name "range" p2) [a] [] pos2) X.env) :: starEach [] X.env := by rfl) : Ls X g (.Call (.Name "list" p) [.Call (.Name "range" p2) [a] [] pos2] [] pos) (dListRange t) := by
  obtain ⟨te, p1, s1⟩ := ha
  refine ⟨_, pe_listRg hc hg hm (prg_1 hg2 hm2 p1 na) nb, fun σ F H ρ n P Q sr p k => s1 σ F H ρ n _ _ sr p fun d n1 v F1 H1 ⟨j, e, hj, p1⟩ e1 sr1 da => ?_⟩
  subst e
  cases da
  refine ⟨_, rfl, RgOk.of_le (by omega) (by omega) (by omega) (by omega), fun q hq => ?_⟩
  rw [rgV_nat]
  have gr := Grow.raw (m := none) (o := .lst ((rangeL j).map V.int)) sr1.ex hq
  exact k _ n1 _ _ _ _ p1 (e1.trans gr.any) (sr1.grow gr) (Free.of sr1 hq) (e1.dm _ hq) upd_same (dpa_ints _)
end
end DL

namespace DL
open PySem L2
section
variable {K : Fg} {h : Heap} {mg : Str → Option Value}
/-! ### what the module's top has written -/
theorem cst_int (X : K.In h) (Gm : h.Ns mainGlobals mg) {x : Str} {i : Int} {t : Tok} (e : PySem.W.nsIn K mainGlobals x = some (some (.int i t))) : Cst K mg x (.int i) := ⟨.int i, _, PySem.W.mg_of X Gm e, ⟨t, rfl⟩, fun F => .int i⟩
theorem vals_strs : ∀ (us : List Value) (ws : List Str), us.map absV = ws.map (fun w => some (V.str w)) → Vals (ws.map V.str) us
  | [], [], _ => .nil
  | [], _ :: _, h => by simp at h
  | _ :: _, [], h => by simp at h
  | u :: us, w :: ws, h => by
    rw [List.map_cons, List.map_cons, List.cons.injEq] at h
    refine .cons ?_ (vals_strs us ws h.2)
    have h1 := h.1
    cases u <;> simp [absV] at h1
    subst h1
    exact ⟨_, rfl⟩
theorem dpa_strs {F : Hp} : ∀ (ns : List Str), DpAll K F (ns.map V.str) (ns.map PyData.str)
  | [] => .nil
  | n :: ns => .cons (.str n) (dpa_strs ns)
theorem cst_strs (ws : List Str) (X : K.In h) (Gm : h.Ns mainGlobals mg) {x : Str} {a : Addr} {o : Obj} {its : Array Value} {n : Nat} (e : PySem.W.nsIn K mainGlobals x = some (some (.ref a))) (l : K.lookup a = some o) (h1 : o.cls = .type "tuple") (h2 : o.data = .seq its n)
    (h3 : its.size ≤ 1000) (h4 : its.toList.map absV = ws.map fun w => some (V.str w)) : Cst K mg x (.tuple (ws.map .str)) := by
  refine ⟨.ref a, _, PySem.W.mg_of X Gm e, rfl, fun F => .tup (xs := ws.map V.str) (.inr ⟨o, its, n, l, h1, h2, Evl.sz_of (by omega), vals_strs _ _ h4⟩) (dpa_strs ws)⟩
structure FnFact (K : Fg) (x : Str) (st : Stmt) : Prop where
  ok : ∃ (f : Addr) (oc : Value) (od an : Option Addr) (osl : Array (Option Value)) (kV doc pm cdv ct : Value), PySem.W.nsIn K mainGlobals x = some (some (.ref f)) ∧ K.lookup f = some ⟨oc, od, .func (PySem.W.fnOf x x (defArgs st) (defBody st) (defScope st) .none kV doc pm an cdv ct), osl⟩ ∧ PySem.W.codeIn K cdv x = true ∧ PySem.W.keepIn K (.ref f) = true
theorem fact_mk {x : Str} {st : Stmt} {f : Addr} {oc : Value} {od an : Option Addr} {osl : Array (Option Value)} {kV doc pm cdv ct : Value} (a : PySem.W.nsIn K mainGlobals x = some (some (.ref f))) (l : K.lookup f = some ⟨oc, od, .func (PySem.W.fnOf x x (defArgs st) (defBody st) (defScope st) .none kV doc pm an cdv ct), osl⟩)
    (c : PySem.W.codeIn K cdv x = true) (k : PySem.W.keepIn K (.ref f) = true) : FnFact K x st := ⟨⟨f, oc, od, an, osl, kV, doc, pm, cdv, ct, a, l, c, k⟩⟩
theorem FnFact.at_ {x : Str} {st : Stmt} (F : FnFact K x st) (X : K.In h) (Gm : h.Ns mainGlobals mg) (ps : List Str)
    (hb : ∀ (kV doc pm : Value) (an : Option Addr) (cdv ct : Value) (us : List Value), us.length = ps.length → bindArgs (PySem.W.fnOf x x (defArgs st) (defBody st) (defScope st) .none kV doc pm an cdv ct) ⟨us, []⟩ = pure (ps.zip us)) : FunAt K mg x st ps := by
  obtain ⟨f, oc, od, an, osl, kV, doc, pm, cdv, ct, a, l, c, k⟩ := F.ok
  have Fn := fun_mk (x := x) (qual := x) (st := st) l c k
  exact ⟨f, _, Fn, PySem.W.mg_of X Gm a, Fn.binds hb⟩
/-- the draws' machine is begun -/
structure BegunIs (P : Program) (w : World) (K : Fg) (mg : Str → Option Value) (base : Heap) : Prop where
  ok : ∃ f fd, FnOk P w K mg base CX0 1 f fd ["_law_script"] (spBegun K) ∧ mg "_law_begun" = some (.ref f) ∧ PySem.W.keepIn K (.ref f) = true ∧ Binds K fd ["_law_script"] []
theorem law_done {te : TS} {t : DS} {H H' : Hp} {a m q : Addr} {ns ks : List Int} {s : Int} {x0 x1 : Str} {N : List Str} {Q : VK} (q2 : ∀ g, SS K g te t) (hS : SqL K H a (ns.map V.int)) (h1 : Ex H H') (h2 : H' m = some (.dK (mK q s 0))) (h3 : H' q = some (.lst (ks.map V.int))) (h4 : ∀ k ∈ ks, 0 ≤ k) (h5 : ks.length ≤ 63) (h6 : 0 ≤ s) (h7 : s < 2147483647)
    (ht : t { nx := fun _ _ => False, rt := fun d _ => d = .bool true } (startD (x0 :: x1 :: N) [.s ns.length, .m]) 0) (hq : ∀ H', Q (.bl true) H') : te { nx := fun _ H' => Q .non H', rt := Q } ((L2.start (x0 :: x1 :: N) [.ref a]).set 1 (some (.ref m))) H' := by
  refine q2 _ _ _ _ _ _ _ _ (law_start hS h1 h2 h3 h4 h5 h6 h7) ht (fun _ _ _ _ _ z => z.elim) (fun d n' σ' ρ' v F' H' e sr dv => ?_) (fun _ _ _ _ _ z => z.elim) (fun _ _ _ _ _ z => z.elim)
  subst e
  cases dv
  exact hq H'
theorem law_walk {l : PySem.W.OpenLaw} {q : Program} {loose : List Str} {XP : (Str → Option Value) → Heap → Prop} {YP : World → Heap → Prop} {d : DefRec} {K : Params → PySem.W.Frag} (k : Nat) (hk : Room k callerA) (hn : l.most = some 63) (hdf : d.params.defaults = [])
    (hY : ∀ (w : World) (h : Heap), YP w h → (K w.params).In h)
    (F : ∀ (w : World) (mg : Str → Option Value) (fa : Addr) (h : Heap), (K w.params).In h → h.Ns mainGlobals mg → mg d.name = some (.ref fa) →
      ∃ fd : FuncData, (∀ (s : Shared) (u : Value), BindsTo s fd ⟨[u], []⟩ [("_law_script", u)]) ∧ ∀ base : Heap, (K w.params).In base → base.Ns mainGlobals mg → FnOk l.prog w (K w.params) mg base CX0 k fa fd ["_law_script"] (spLaw (K w.params))) :
    PySem.W.WalkO q loose XP YP l.row.toRowW d [] (fun f vs => PySem.call f vs) :=
  L2.walk_of (n := 63) (k := k) (x := "_law_script") (CX := fun _ => CX0) (sp := fun w => spLaw (K w.params)) hn (by decide) hdf hk hY F (fun _ _ a ns hl _ hS => ⟨a, ns, rfl, hS, hl, fun _ => rfl⟩) fun _ _ _ _ _ z => z
end
end DL

namespace DL
open PySem PySem.Spec PyProof.Rows L2
/-! ### room, and no text of a container under way -/
structure Rm (k : Nat) (A : Around) : Prop where
  rm : Room k A
  gd : A.guards = some []
theorem Rm.mono {j k : Nat} {A : Around} (r : Rm k A) (h : j ≤ k) : Rm j A := ⟨r.rm.mono h, r.gd⟩
theorem Rm.units {k : Nat} {A : Around} (r : Rm k A) : A.units + 64 < cLine := r.rm.units
theorem Rm.deeper {k : Nat} {A : Around} (r : Rm (k + 1) A) (env : Env) : Rm k (A.deeper env) := ⟨r.rm.deeper env, r.gd⟩
/-- a def's promise where that holds -/
structure FnG (P : Program) (w : World) (K : Fg) (mg : Str → Option Value) (base : Heap) (k : Nat) (f : Addr) (fd : FuncData) (ps : List Str) (sp : Sp) : Prop where
  len : ∀ vs H Q E, sp vs H Q E → vs.length = ps.length
  run : ∀ (A : Around) (outer : List Env) (s : Shared) (H : Hp) (args : Args) (us : List Value) (vs : List V) (Q : VK) (E : XK), Rm k A → Env0 P w K mg base A outer s H → BindsTo s fd args (ps.zip us) → Vals vs us → sp vs H Q E → codeAny (model P w) A (.call (.ref f) args) (CR CX0 outer P w H s Q E) s
theorem FnG.of {P : Program} {w : World} {K : Fg} {mg : Str → Option Value} {base : Heap} {k : Nat} {f : Addr} {fd : FuncData} {ps : List Str} {sp : Sp} (F : FnOk P w K mg base CX0 k f fd ps sp) : FnG P w K mg base k f fd ps sp :=
  ⟨F.len, fun A outer s H args us vs Q E hr => F.run A outer s H args us vs Q E hr.rm⟩
section
variable {X : Cx} {k : Nat} {f : Addr} {fd : FuncData} {ps : List Str} {sp : Sp} {x : Str} {p pos : Pos} {e : Expr} {es : List Expr} {t : TA}
theorem pe_callG (F : FnG X.prog X.w X.K X.mg X.base k f fd ps sp) (hr : Rm k X.A) (hg : Gl X x) (hm : X.mg x = some (.ref f)) (hk : PySem.W.keepIn X.K (.ref f) = true) (hb : Binds X.K fd ps []) (ha : PA X (e :: es) t) (hdb : (x == ("__debug__" : Str)) = false)
    (he : starEach (e :: es) X.env = (false, eval e X.env) :: starEach es X.env) (hpl : (backTo pos (starEach es X.env)).any (·.1) = false) {E : XK} : PE X (.Call (.Name x p) (e :: es) [] pos) (tCall sp [] E t) := by
  refine ⟨fun pins s σ H Q I h => wpAny_Call_Name_kw (ld_glob I hg hm (PySem.W.callWith_K (h₀ := X.base) I.ok.mod.kin hk (thn (ha.run pos pins s σ H _ I h) fun us s1 ⟨vs, H1, I1, r, q⟩ => ⟨I1.kIn, ?_⟩) he hpl) hdb)⟩
  have r2 : Vals (vs ++ []) (us ++ []) := r.append .nil
  have len := F.len _ _ _ _ q
  have go := F.run X.A X.stack s1 H1 ⟨us, []⟩ (us ++ []) (vs ++ []) Q E hr I1.env0 (hb s1 us I1.kIn (by rw [← r2.length]; exact len)) r2 q
  refine wpAny_call (codeAny_mono go fun r s' hq => ?_)
  match r, hq with
  | .ok (.ret u), hq => exact I1.after hq
  | .error _, hq => exact hq.elim
end
section
variable {P : Program} {w : World} {K : Fg} {mg : Str → Option Value} {base : Heap}
theorem ok_G {x qual : Str} {st : Stmt} {f : Addr} {fd : FuncData} {N ps : List Str} {k : Nat} {sp : Sp} (F : Fun K x qual st f fd) (S : FnScope N ps (defScope st)) (len : ∀ vs H Q E, sp vs H Q E → vs.length = ps.length)
    (hbody : ∀ (cdv : Value) (A : Around) (outer : List Env) (s : Shared) (H : Hp) (vs : List V) (Q : VK) (E : XK), Rm k (A.deeper (envOfC qual (defScope st) s.heap.objs.size f cdv)) → sp vs H Q E →
      ∃ t, PSs (cxOf CX0 P w K mg base N qual (defScope st) f cdv A outer s H E).nox (defBody st) t ∧ t { nx := fun _ H' => Q .non H', rt := Q } (start N vs) H) : FnG P w K mg base (k + 1) f fd ps sp := by
  obtain ⟨oc, od, kV, doc, pm, an, cdv, ct, osl, rfl, lk, hcd⟩ := F.ex
  refine ⟨len, fun A outer s H args us vs Q E hr e0 hb rv hsp => ?_⟩
  have up : ∀ b o, base.get? b = some o → s.heap.get? b = some o := fun b o h => (e0.bs b o h).1
  have KX : K.In s.heap := e0.mod.kin.keeps up
  have kinds : ∀ y ∈ ps.zip us, (defScope st).names.lookup y.1 = some .local ∨ ((defScope st).names.lookup y.1 = some .cell ∧ ((cellsFrom (s.heap.objs.size + 1) (defScope st).names []).lookup y.1).isSome = true) := by
    rintro ⟨n, v⟩ hy
    exact (S.par n (List.of_mem_zip hy).1).imp id fun q => ⟨q, PySem.W.cellsFrom_some _ _ _ (.inl q)⟩
  refine codeAny_call_function hr.rm.depth (KX _ _ lk) rfl S.co S.gen rfl (PySem.W.codeRec_of KX hcd) (hb _ _ _ _ (wpAny_newFunctionEnv_cells S.kind kinds fun env he s1 inC => ?_))
  subst he
  obtain ⟨t, ht, hq⟩ := hbody cdv A outer s H vs Q E (hr.deeper _) hsp
  have I := inv_start (CX := CX0) (E := E) S hr.rm.hd e0 (len _ _ _ _ hsp) rv inC
  refine ⟨(e0.mod.nolimit.keeps up).keeps inC.toInCall.keep, codeAny_func (wpAny_mono (ht.nox.run [] s1 (start N vs) H _ I hq) (fun fl s' hs => ?_) fun e s' hs => hs)⟩
  match fl, hs with
  | .ret u, ⟨v, _, H', J, r, q⟩ => exact ⟨v, H', J.os, J.bare, J.base, J.hok, r, q⟩
  | .next, ⟨_, H', J, q⟩ => exact ⟨V.non, H', J.os, J.bare, J.base, J.hok, rfl, q⟩
  | .brk, ⟨_, _, _, q⟩ => exact q.elim
  | .cont, ⟨_, _, _, q⟩ => exact q.elim
end
/-! ### the end: the law is called behind the top -/
section
variable {P : Program} {w : World} {K : Fg} {mg mb : Str → Option Value} {fa a : Addr} {fd : FuncData} {k : Nat} {s₁ : Shared} {vs : List Value} {ns : List Int}
/-- the script alone is tracked, as it stands -/
structure ScrOnly (K : Fg) (a : Addr) (vs : List Value) (ns : List Int) (H : Hp) : Prop where
  only : ∀ b, H b ≠ none → b = a ∧ H b = some (.frz { cls := .type "list", data := .seq vs.toArray } (.lst (ns.map V.int)))
  sq : SqL K H a (ns.map V.int)
  k : H a ≠ none → K.lookup a = none
theorem scr_only (ha : s₁.heap.get? a = some { cls := .type "list", data := .seq vs.toArray }) (hi : IntsAre vs ns) (hl : ns.length ≤ 63) (KX : K.In s₁.heap) : ∃ H, ScrOnly K a vs ns H ∧ HOk P w H s₁.heap := by
  have hl' : ns.length ≤ sizeLine := Evl.sz_of (by omega)
  cases hk : K.lookup a with
  | some o =>
    have e := (KX a o hk).symm.trans ha
    cases e
    refine ⟨fun _ => none, ⟨fun b z => absurd rfl z, .inr ⟨_, vs.toArray, _, hk, rfl, rfl, rfl, ?_, by simpa using vals_ints hi⟩, fun z => absurd rfl z⟩, fun b u z => by cases (show (none : Option HO) = some u from z)⟩
    rw [List.size_toArray, hi.length]
    exact hl'
  | none =>
    refine ⟨upd (fun _ => none) a (.frz { cls := .type "list", data := .seq vs.toArray } (.lst (ns.map V.int))), ⟨fun b z => ?_, .inl (.inr ⟨_, upd_same⟩), fun _ => hk⟩, fun b u z => ?_⟩
    · by_cases c : b = a
      · subst c; exact ⟨rfl, upd_same⟩
      · rw [upd_ne c] at z; exact absurd rfl z
    · by_cases c : b = a
      · subst c
        rw [upd_same] at z
        cases z
        exact ⟨ha, by rw [List.length_map]; exact hl', vs, _, vals_ints hi, ha⟩
      · rw [upd_ne c] at z; cases z
theorem law_callG (KX : K.In s₁.heap) (hns : s₁.heap.Ns mainGlobals mg) (hb : s₁.heap.Ns builtinsNs mb) (hbb : ∀ x : Str, x ≠ "__name__" → mb x = bootBuiltins x) (hlim : s₁.heap.NoLimit) (hg : s₁.gens = #[])
    (ha : s₁.heap.get? a = some { cls := .type "list", data := .seq vs.toArray }) (hi : IntsAre vs ns) (hl : ns.length ≤ 63) (hr : Rm k callerA) (F : ∀ base : Heap, K.In base → base.Ns mainGlobals mg → FnG P w K mg base k fa fd ["_law_script"] (spLaw K)) (hbind : ∀ (s : Shared) (u : Value), BindsTo s fd ⟨[u], []⟩ [("_law_script", u)]) :
    codeAny (model P w) callerA (.call (.ref fa) ⟨[.ref a], []⟩) (fun r s' => r = .ok (.ret (.bool true)) ∧ OldK s₁.heap s'.heap ∧ s'.os = s₁.os ∧ AllBare s'.gens) s₁ := by
  obtain ⟨H, sc, hok⟩ := scr_only (P := P) (w := w) (K := K) ha hi hl KX
  have keepD : ∀ {b : Addr} {o : Obj} {es : Array DictEntry} {ep : Nat}, s₁.heap.get? b = some o → o.data = .dict es ep → H b = none := fun {b o es ep} e d => by
    cases q : H b with
    | none => rfl
    | some u =>
      have z := (sc.only b (by rw [q]; simp)).1
      subst z
      cases ha.symm.trans e
      cases d
  have ns' : ∀ {b : Addr} {m : Str → Option Value}, s₁.heap.Ns b m → (hidT s₁.heap H).Ns b m := fun {b m} ⟨o, es, ep, e, d, r⟩ => ⟨o, es, ep, hidT_get e (keepD e d), d, r⟩
  have hK : K.In (hidT s₁.heap H) := fun b o e => hidT_get (KX b o e) (by
    cases q : H b with
    | none => rfl
    | some u =>
      have z := (sc.only b (by rw [q]; simp)).1
      subst z
      rw [sc.k (by rw [q]; simp)] at e
      cases e)
  have limit : (hidT s₁.heap H).NoLimit := by
    obtain ⟨mc, h1, h2⟩ := hlim
    exact ⟨mc, ns' h1, h2⟩
  have e0 : Env0 P w K mg (hidT s₁.heap H) callerA [] s₁ H :=
    { frames := rfl, mod := ⟨hK, ns' hns, ⟨mb, ns' hb, hbb⟩, limit⟩, bs := fun b o e => of_hidT e, bsz := Nat.le_of_eq (hidT_size _ _), funs := trivial, frf := fun b z => (by cases (show b ∈ ([] : List Addr) from z)), hok := hok, bare := .of_eq hg }
  have go := (F _ hK (ns' hns)).run callerA [] s₁ H ⟨[.ref a], []⟩ [.ref a] [.ref a] (fun v _ => v = .bl true) (fun _ _ _ => False) hr e0 (hbind s₁ (.ref a)) (.cons rfl .nil) ⟨a, ns, rfl, sc.sq, hl, fun _ => rfl⟩
  refine codeAny_mono go fun r s' h => ?_
  match r, h with
  | .error _, h => exact h.elim
  | .ok (.ret u), ⟨v, H', os, bare, un, hok', r', (q : v = .bl true)⟩ =>
    subst q
    obtain rfl : u = Value.bool true := r'
    refine ⟨rfl, OldK.of_keep fun b o e => ?_, os, bare⟩
    cases q : H b with
    | none => exact un.keep b o e q (fun z => by cases (show b ∈ ([] : List Addr) from z)) (by simp)
    | some u =>
      obtain ⟨_, z⟩ := sc.only b (by rw [q]; simp)
      have e1 := (hok b _ z).1
      have e2 := (hok' b _ (un.frzs b _ _ z)).1
      cases e.symm.trans e1
      exact e2
theorem law_walkG {l : PySem.W.OpenLaw} {q : Program} {loose : List Str} {XP : (Str → Option Value) → Heap → Prop} {YP : World → Heap → Prop} {d : DefRec} {K : Params → PySem.W.Frag} (k : Nat) (hk : Room k callerA) (hn : l.most = some 63) (hdf : d.params.defaults = [])
    (hY : ∀ (w : World) (h : Heap), YP w h → (K w.params).In h)
    (F : ∀ (w : World) (mg : Str → Option Value) (fa : Addr) (h : Heap), (K w.params).In h → h.Ns mainGlobals mg → mg d.name = some (.ref fa) →
      ∃ fd : FuncData, (∀ (s : Shared) (u : Value), BindsTo s fd ⟨[u], []⟩ [("_law_script", u)]) ∧ ∀ base : Heap, (K w.params).In base → base.Ns mainGlobals mg → FnG l.prog w (K w.params) mg base k fa fd ["_law_script"] (spLaw (K w.params))) :
    PySem.W.WalkO q loose XP YP l.row.toRowW d [] (fun f vs => PySem.call f vs) := by
  refine Att.attach_call hn hdf fun w s₀ s₁ mg mb fa o pm cd doc a vs ns Gr Y ho hd hcd hmg hobj hints hlen hg => ?_
  obtain ⟨fd, hb, hF⟩ := F w mg fa _ (hY w _ Y) Gr.T.g hmg
  exact law_callG (hY w _ Y) Gr.T.g Gr.T.b Gr.T.builtins Gr.T.nolimit hg hobj hints hlen ⟨hk, rfl⟩ hF hb
end
/-! ### the data layer over it -/
structure FnJ (P : Program) (w : World) (K : Fg) (mg : Str → Option Value) (base : Heap) (k : Nat) (x : Str) (ps : List Str) (c : Ct) : Prop where
  ok : ∃ f fd, FnG P w K mg base k f fd ps (spD K c) ∧ mg x = some (.ref f) ∧ PySem.W.keepIn K (.ref f) = true ∧ Binds K fd ps []
theorem FnJ.of {P : Program} {w : World} {K : Fg} {mg : Str → Option Value} {base : Heap} {k : Nat} {x : Str} {ps : List Str} {c : Ct} (h : FnIs P w K mg base k x ps c) : FnJ P w K mg base k x ps c := by
  obtain ⟨f, fd, h1, h2⟩ := h
  exact ⟨f, fd, .of h1, h2⟩
section
variable {X : Cx} {g : G} {e : Expr} {es : List Expr} {u : DA} {pos : Pos}
theorem e_callG {ct : Ct} {k : Nat} {ps : List Str} {x : Str} {p : Pos} (h : FnJ X.prog X.w X.K X.mg X.base k x ps ct) (hr : Rm k X.A) (hg : Gl X x)
    (ha : A X g (e :: es) u) (hdb : (x == ("__debug__" : Str)) = false := by decide) (he : starEach (e :: es) X.env = (false, eval e X.env) :: starEach es X.env := by rfl) (hpl : (backTo pos (starEach es X.env)).any (·.1) = false := by rfl) :
    E X g (.Call (.Name x p) (e :: es) [] pos) (dFn ct noX u) := by
  obtain ⟨f, fd, h1, h2, h3, h4⟩ := h
  obtain ⟨te, p1, s1⟩ := ha
  exact ⟨_, pe_callG h1 hr hg h2 h3 h4 p1 hdb he hpl, se_fn s1⟩
end
section
variable {P : Program} {w : World} {K : Fg} {mg : Str → Option Value} {base : Heap}
theorem fn_okG {x qual : Str} {st : Stmt} {f : Addr} {fd : FuncData} {N ps : List Str} {k : Nat} {c : Ct} {t : DS} (Fn : Fun K x qual st f fd) (S : FnScope N ps (defScope st)) (hlen : ∀ x ss n, c.pre x ss n → ss.length = ps.length)
    (hbody : ∀ (cdv : Value) (A : Around) (outer : List Env) (s : Shared) (H : Hp) (E : XK) (g : G), Rm k (A.deeper (PyProof.Rows.envOfC qual (defScope st) s.heap.objs.size f cdv)) →
      Sts (cxOf CX0 P w K mg base N qual (defScope st) f cdv A outer s H E).nox g (defBody st) t)
    (ht : ∀ x ss n, c.pre x ss n → t { nx := fun _ n' => c.post x n .none n', rt := fun d n' => c.post x n d n' } (startD N ss) n) : FnG P w K mg base (k + 1) f fd ps (spD K c) := by
  refine ok_G Fn S (fun vs H Q E h => ?_) (fun cdv A outer s H vs Q E hr h => ?_)
  · obtain ⟨g, F, n, ss, _, _, _, _, ao, ⟨y, hp, _⟩, _⟩ := h
    rw [args_len ao]
    exact hlen y ss n hp
  · obtain ⟨g, F, n, ss, rfl, rfl, ex, mc, ao, ⟨y, hp, hq, _⟩, _⟩ := h
    obtain ⟨te, p1, q1⟩ := hbody cdv A outer s g.B E g hr
    refine ⟨te, p1, ?_⟩
    have hl : vs.length = ss.length := args_len ao
    have sr : SR K g g.F0 g.B (start N vs) (startD N ss) n := by
      have key : ∀ (i : Nat) (z : DL.S), (startD N ss)[i]? = some (some z) → ss[i]? = some z := fun i z e => by
        unfold startD at e
        by_cases h : i < ss.length
        · rw [List.getElem?_append_left (by simpa using h), List.getElem?_map] at e
          cases q : ss[i]? with
          | none => rw [q] at e; cases e
          | some y => rw [q] at e; cases e; rfl
        · rw [List.getElem?_append_right (by simpa using h), List.getElem?_replicate] at e
          split at e <;> cases e
      refine ⟨Grow.refl ex, mc, fun i z e => ?_, fun i j l ds es e1 _ _ _ => ?_, ?_⟩
      · obtain ⟨v, h1, h2, no⟩ := args_get ao (key i z e)
        refine ⟨v, ?_, ?_⟩
        · unfold L2.start
          have hi : i < vs.length := (List.getElem?_eq_some_iff.mp h1).1
          rw [List.getElem?_append_left (by simpa using hi), List.getElem?_map, h1]
          rfl
        · cases z with
          | d d => exact h2
          | m => exact h2
          | r u => exact h2
          | o ds => cases no
          | s k => cases no
      · obtain ⟨_, _, _, no⟩ := args_get ao (key i _ e1)
        cases no
      · unfold startD L2.start
        simp [hl]
    refine q1 _ g.F0 g.B _ n _ _ sr (ht y ss n hp) (fun ρ' n' σ' F' H' p' x' sr' => ?_) (fun d n' σ' ρ' v F' H' p' sr' dv => ?_) (fun _ _ _ _ _ z => z.elim) (fun _ _ _ _ _ z => z.elim)
    · exact hq _ _ p' _ F' H' sr'.gr sr'.mc .non
    · exact hq _ _ p' _ F' H' sr'.gr sr'.mc dv
theorem fn_isG {x : Str} {st : Stmt} {N ps : List Str} {k : Nat} {c : Ct} {t : DS} (Fn : FunAt K mg x st ps) (S : FnScope N ps (defScope st)) (hlen : ∀ x ss n, c.pre x ss n → ss.length = ps.length)
    (hbody : ∀ (f : Addr) (cdv : Value) (A : Around) (outer : List Env) (s : Shared) (H : Hp) (E : XK) (g : G), Rm k (A.deeper (PyProof.Rows.envOfC x (defScope st) s.heap.objs.size f cdv)) →
      Sts (cxOf CX0 P w K mg base N x (defScope st) f cdv A outer s H E).nox g (defBody st) t)
    (ht : ∀ x ss n, c.pre x ss n → t { nx := fun _ n' => c.post x n .none n', rt := fun d n' => c.post x n d n' } (startD N ss) n) : FnJ P w K mg base (k + 1) x ps c := by
  obtain ⟨f, fd, h1, h2, h3⟩ := Fn
  exact ⟨f, fd, fn_okG h1 S hlen (fun cdv A outer s H E g => hbody f cdv A outer s H E g) ht, h2, h1.kp, h3⟩
end
end DL

namespace DL
open PySem PySem.Spec PyProof.Rows L2
/-! ### repr of data -/
def shows (d : D) : Bool := d.showable && !d.hasDict && decide (d.depth ≤ 60) && d.canLay0 && decide (d.shown.length ≤ 100000)
theorem call_repr_data {X : Cx} (hg : X.A.guards = some []) (hu : X.A.units + 64 < cLine) : CallR X (.builtin "repr") (fun xs H Q => ∃ v d, xs = [v] ∧ L2.Dp X.K H v d ∧ shows d = true ∧ Q (.str d.shown) H) := by
  intro pins s σ H xs us Q I r h
  obtain ⟨v, d, rfl, hd, hs, q⟩ := h
  obtain ⟨u, rfl, r1⟩ := vals1 r
  unfold shows at hs
  simp only [Bool.and_eq_true, decide_eq_true_eq, Bool.not_eq_true'] at hs
  obtain ⟨⟨⟨⟨h1, h2⟩, h3⟩, h4⟩, h5⟩ := hs
  obtain ⟨as, rd⟩ := Dp.reads I d v u hd r1
  have big : ∀ a, u = .ref a → wpAny (model X.prog X.w) X.A (call (.builtin "repr") [u]) (EP X pins σ Q) X.xe s := by
    rintro a rfl
    exact repr_of_reads' rd h1 (fun z => by rw [h2] at z; cases z) hg (by omega) (fun b o e => e) (fun h' u tk hk => ⟨.str d.shown, H, I.kept hk, ⟨u, rfl⟩, q⟩) (Evl.sz_of h5)
  cases hd with
  | non =>
    cases r1
    exact PySem.P.repr_of_none ⟨.str _, H, I.tok _, ⟨_, rfl⟩, q⟩
  | bl b =>
    cases r1
    refine PySem.P.repr_of_bool ⟨.str _, H, I.tok _, ⟨_, rfl⟩, ?_⟩
    cases b <;> exact q
  | int i =>
    obtain ⟨t, rfl⟩ := r1
    exact PySem.P.repr_of_int (of_decide_eq_true h1) ⟨.str _, H, I.tok _, ⟨_, rfl⟩, q⟩
  | str x =>
    obtain ⟨t, rfl⟩ := r1
    exact PySem.P.repr_of_str ⟨.str _, H, I.tok _, ⟨_, rfl⟩, q⟩ (Evl.sz_of h5)
  | lst _ _ => exact big _ r1
  | tup _ _ => exact big _ r1
def reprD : List D → Option D := fun ds => match ds with | [x] => if shows x then some (.str x.shown) else none | _ => none
theorem cd_repr {K : Fg} : CallD K (fun xs H Q => ∃ v d, xs = [v] ∧ L2.Dp K H v d ∧ shows d = true ∧ Q (.str d.shown) H) reprD := by
  intro F H vs ds d Q ex da e k
  unfold reprD at e
  split at e
  · split at e
    · rename_i x hs
      cases e
      cases da with
      | cons h1 h2 =>
        cases h2
        have hl : x.canLay0 = true := by
          unfold shows at hs
          simp only [Bool.and_eq_true] at hs
          exact hs.1.2
        exact ⟨_, x, rfl, dp_l2 ex x _ hl h1, hs, k _ F H (Grow.refl ex) (.str _)⟩
    · cases e
  · cases e
section
variable {X : Cx} {g : G} {e : Expr} {es : List Expr} {u : DA} {pos : Pos}
theorem e_repr {k : Nat} {p : Pos} (hr : Rm k X.A) (hg : Gl X "repr") (hm : X.mg "repr" = none) (ha : A X g (e :: es) u) (hst : starEach (e :: es) X.env = (false, eval e X.env) :: starEach es X.env := by rfl) (hpl : (backTo pos (starEach es X.env)).any (·.1) = false := by rfl) : E X g (.Call (.Name "repr" p) (e :: es) [] pos) (dCall reprD u) :=
  e_callB (call_repr_data hr.gd hr.units) cd_repr hg hm (by decide +kernel) ha (by decide) (by decide) hst hpl
end
end DL

namespace DL
open PySem L2
section
variable {X : Cx} {g : G} {tg iter e a b : Expr} {es : List Expr} {ti : DI} {gt : DGt} {t ta tb : DT} {u : DA} {pos : Pos} {K : Fg} {is : List Nat}
/-! ### y = [.. for ..], y the def's own; y[i] = e -/
theorem st_ownComp (i : Nat) {y : Str} {py : Pos} {spos : Pos} {elt : Expr} {scope : Scope} (own : List (Str × Nat)) (hc : X.calm = true) (hN : X.N.Nodup) (sw : swapsWith (.ListComp elt [⟨tg, iter, [], 0⟩] scope pos) (some (.Name y py)) spos.line X.env = pure true) (h1 : I X g tg iter ti) (ok : blkC X.N X.env.scope scope own = true) (h2 : ∀ i : BlkI, Gt (blkX X scope i) g tg is gt) (h4 : ∀ i : BlkI, E (blkX X scope i) g elt t)
    (hi : X.N[i]? = some y := by rfl) (hy : X.env.scope.names.lookup y = some .local := by rfl) (hs : is.all (fun i => (own.map (·.2)).contains i) = true := by rfl) (hf : ∀ x, foldedSetIterable iter X.env x = pure x := by intro _; rfl) :
    St X g (.Assign [.Name y py] (.ListComp elt [⟨tg, iter, [], 0⟩] scope pos) spos) (dOwn i (dComp ti gt bYes t (own.map (·.2)))) := by
  obtain ⟨w, p1, q1⟩ := h1
  obtain ⟨t2, p2, q2⟩ := fam_g (Xf := blkX X scope) (K := X.K) (fun _ => rfl) h2
  obtain ⟨t4, p4, q4⟩ := fam_e (Xf := blkX X scope) (K := X.K) (fun _ => rfl) h4
  refine ⟨_, ps_setLc hc hN hi hy sw p1 (blkOk_by ok) (fun s H C cl fp => p2 (s, H, C, cl, fp)) (fun _ _ _ _ _ => pts_nil) (fun s H C cl fp => p4 (s, H, C, cl, fp)) hf, ss_own (sl_comp q1 q2 (fun σ F H ρ n P Q sr p k => k true n F H p (Grow.refl sr.ex) sr) q4 fun i hi => ?_)⟩
  have := List.all_eq_true.mp hs i hi
  simpa using this
theorem st_put (i : Nat) {x : Str} {px tp : Pos} (ha : E X g a ta) (hb : E X g b tb) (hN : X.N[i]? = some x := by rfl) (hv : Vis X.env.scope x := by first | exact Or.inl rfl | exact Or.inr (Or.inl rfl) | exact Or.inr (Or.inr rfl)) (hd : (x == ("__debug__" : Str)) = false := by decide) (hcd : (x == ("__classdict__" : Str)) = false := by decide)
    (hs : swapsWithSole [.Subscript (.Name x px) a tp] b pos.line X.env = pure false := by rfl) (hw : swappedStores [.Subscript (.Name x px) a tp] b X.env = pure none := by rfl) (h1 : (assignEach [.Subscript (.Name x px) a tp] X.env).map (·.2) = [assign (.Subscript (.Name x px) a tp) X.env] := by rfl)
    (h2 : ∀ v, assign (.Subscript (.Name x px) a tp) X.env v = (do let ov ← holding [v] (eval (.Name x px) X.env); let iv ← holding [v, ov] (eval a X.env); standAt tp; holding [v, ov, iv] (setItem ov iv v); release [v, ov, iv] []) := by intro _; rfl) : St X g (.Assign [.Subscript (.Name x px) a tp] b pos) (dPut i ta tb) := by
  obtain ⟨te, p1, q1⟩ := ha
  obtain ⟨te', p2, q2⟩ := hb
  refine ⟨_, ps_asg p2 (pg_sub (pe_var hN hv hd hcd) p1 set_list h2) hs hw h1, fun σ F H ρ n P E sr p k1 k2 k3 k4 => q2 σ F H ρ n _ _ sr p fun d n1 v F1 H1 ⟨ds, hi, p'⟩ gr sr1 dv => ?_⟩
  obtain ⟨l, xs, hσ, hx, da⟩ := sr1.own hi
  refine ⟨_, hσ, q1 σ F1 H1 ρ n1 _ _ sr1 p' fun z n2 vz F2 H2 ⟨k, j, e, hj, p2⟩ gr2 sr2 dz => ?_⟩
  subst e
  cases dz
  obtain ⟨l', xs', hσ', hx', da'⟩ := sr2.own hi
  rw [hσ] at hσ'
  cases hσ'
  exact ⟨l, xs', k, j, rfl, rfl, hx', by rw [dpa_len da']; exact hj, k1 _ n2 σ F2 _ p2 (gr.f.trans gr2.f) (sr2.setOwn hi hσ hx' (dpa_set (dp_ex gr2.f _ _ dv) j da'))⟩
/-! ### sep.join(texts) -/
def strsOf : List D → Option (List Str)
  | [] => some []
  | .str b :: r => (strsOf r).map (b :: ·)
  | _ => none
theorem strsOf_map : ∀ ws : List Str, strsOf (ws.map .str) = some ws
  | [] => rfl
  | w :: ws => by rw [List.map_cons, strsOf, strsOf_map ws]; rfl
theorem strsOf_eq : ∀ {ds : List D} {bs : List Str}, strsOf ds = some bs → ds = bs.map .str
  | [], bs, h => by cases h; rfl
  | d :: r, bs, h => by
    cases d <;> try (cases h; done)
    rename_i b
    unfold strsOf at h
    cases q : strsOf r with
    | none => rw [q] at h; cases h
    | some cs =>
      rw [q] at h
      cases h
      rw [strsOf_eq q]
      rfl
def joinOk (a : Str) (ws : List Str) : Bool := decide ((ws.map (·.length)).sum + ws.length * a.length ≤ 16777216)
def joinD (a : Str) (y : D) : Option D := match itemsOf y with | some ds => (match strsOf ds with | some ws => if joinOk a ws then some (.str (Txt.join a ws)) else none | none => none) | none => none
def dJoin (ta tb : DT) : DT := fun ρ n P => ta ρ n fun x n1 => ∃ z, x = .str z ∧ tb ρ n1 fun y n2 => ∃ d, joinD z y = some d ∧ P d n2
theorem e_join {apos : Pos} (ha : E X g a ta) (hb : E X g b tb) (hs : starEach [b] X.env = [(false, eval b X.env)] := by rfl) (hbase : attributeBase a "join" X.env (eval a X.env) = eval a X.env := by rfl) (hline : (apos.endLine == pos.line) = true := by rfl) : E X g (.Call (.Attribute a "join" apos) [b] [] pos) (dJoin ta tb) := by
  obtain ⟨te, p1, q1⟩ := ha
  obtain ⟨te', p2, q2⟩ := hb
  refine ⟨_, pe_join p1 p2 hs hbase hline, fun σ F H ρ n P Q sr p k => q1 σ F H ρ n _ _ sr p fun x n1 vx F1 H1 ⟨z, ez, p1⟩ g1 sr1 dx => ?_⟩
  subst ez
  cases dx
  refine ⟨⟨z, rfl⟩, q2 σ F1 H1 ρ n1 _ _ sr1 p1 fun y n2 vy F2 H2 ⟨d, e, p2⟩ g2 sr2 dy => ?_⟩
  unfold joinD at e
  cases hi : itemsOf y with
  | none => rw [hi] at e; cases e
  | some ds =>
    rw [hi] at e
    cases hq : strsOf ds with
    | none => simp only [hq] at e; cases e
    | some ws =>
      simp only [hq] at e
      obtain ⟨q, xs, rfl, hq', da⟩ := seq_of sr2.ex dy hi
      rw [strsOf_eq hq] at da
      by_cases hc : joinOk z ws = true
      · rw [if_pos hc] at e
        cases e
        rw [strs_dpa da] at hq'
        exact ⟨z, q, ws, rfl, rfl, hq', of_decide_eq_true hc, k _ n2 _ F2 H2 p2 (g1.trans g2) sr2 (.str _)⟩
      · rw [if_neg hc] at e
        cases e
end
end DL

namespace DL
open PySem L2
/-! ### how long a text of data is -/
theorem int_len : ∀ k : Fin 1100, (PyData.shown (.int (((k : Nat) : Int) - 100))).length ≤ 5 := by decide +kernel
theorem int_small {i : Int} (h0 : -100 ≤ i) (h1 : i < 1000) : (PyData.shown (.int i)).length ≤ 5 ∧ PyData.showable (.int i) = true := by
  refine ⟨?_, ?_⟩
  · have := int_len ⟨(i + 100).toNat, by omega⟩
    have e : ((((i + 100).toNat : Nat) : Int) - 100) = i := by omega
    rw [e] at this
    exact this
  · show decide (i.natAbs.log2 < 1920) = true
    refine decide_eq_true (Nat.lt_of_le_of_lt ?_ (by decide : 1000 < 1920))
    exact Nat.le_trans (Nat.log2_le_self _) (by omega)
mutual
def wt : D → Nat
  | .none => 4
  | .bool _ => 5
  | .int i => if -100 ≤ i ∧ i < 1000 then 5 else 1000000
  | .str x => (reprText x).length
  | .list xs => 4 + wts xs
  | .tuple xs => 4 + wts xs
  | .dict _ => 1000000
def wts : List D → Nat
  | [] => 0
  | x :: xs => wt x + 2 + wts xs
end
theorem textFrom_le : ∀ (ts : List Str) (k : Nat) (acc : Str), (textFrom k acc ts).length ≤ acc.length + piled ts
  | [], _, acc => by show acc.length ≤ acc.length + 0; omega
  | t :: ts, k, acc => by
    show (textFrom (k + 1) (acc ++ (if k > 0 then ", " else "" : String) ++ t) ts).length ≤ _
    refine Nat.le_trans (textFrom_le ts (k + 1) _) ?_
    rw [Str.length_append, Str.length_append, piled_cons]
    have : (Str.ofString (if k > 0 then ", " else "")).length ≤ 2 := by split <;> decide +kernel
    omega
mutual
theorem shown_wt : ∀ d : D, wt d ≤ 100000 → d.shown.length ≤ wt d ∧ d.showable = true ∧ d.hasDict = false
  | .none, _ => ⟨by decide +kernel, rfl, rfl⟩
  | .bool b, _ => ⟨by cases b <;> decide +kernel, rfl, rfl⟩
  | .int i, h => by
    unfold wt at h ⊢
    by_cases c : -100 ≤ i ∧ i < 1000
    · rw [if_pos c]
      exact ⟨(int_small c.1 c.2).1, (int_small c.1 c.2).2, rfl⟩
    · rw [if_neg c] at h; omega
  | .str x, _ => ⟨Nat.le_refl _, rfl, rfl⟩
  | .list xs, h => by
    unfold wt at h ⊢
    obtain ⟨h1, h2, h3⟩ := shown_wts xs (by omega)
    refine ⟨?_, by simpa [PyData.showable] using h2, by simpa [PyData.hasDict] using h3⟩
    show (textFrom 0 "[" (PyData.shownAll xs) ++ "]" : Str).length ≤ _
    rw [Str.length_append]
    have := textFrom_le (PyData.shownAll xs) 0 "["
    have e1 : ("[" : Str).length = 1 := by decide +kernel
    have e2 : ("]" : Str).length = 1 := by decide +kernel
    omega
  | .tuple xs, h => by
    unfold wt at h ⊢
    obtain ⟨h1, h2, h3⟩ := shown_wts xs (by omega)
    refine ⟨?_, by simpa [PyData.showable] using h2, by simpa [PyData.hasDict] using h3⟩
    show (("(" : Str) ++ Str.join ", " (PyData.shownAll xs) ++ (if (PyData.shownAll xs).length == 1 then ",)" else ")" : String) : Str).length ≤ _
    rw [Str.length_append, Str.length_append]
    have e1 : ("(" : Str).length = 1 := by decide +kernel
    have e2 : (Str.ofString (if (PyData.shownAll xs).length == 1 then ",)" else ")")).length ≤ 2 := by split <;> decide +kernel
    have e3 : (Str.join ", " (PyData.shownAll xs)).length ≤ piled (PyData.shownAll xs) := by
      cases hx : PyData.shownAll xs with
      | nil => decide +kernel
      | cons t ts =>
        have := join_length_add (t :: ts) (by simp)
        omega
    omega
  | .dict _, h => by unfold wt at h; omega
theorem shown_wts : ∀ xs : List D, wts xs ≤ 100000 → piled (PyData.shownAll xs) ≤ wts xs ∧ PyData.showableAll xs = true ∧ PyData.hasDictAll xs = false
  | [], _ => ⟨Nat.le_refl _, rfl, rfl⟩
  | x :: xs, h => by
    unfold wts at h ⊢
    obtain ⟨h1, h2, h3⟩ := shown_wts xs (by omega)
    obtain ⟨g1, g2, g3⟩ := shown_wt x (by omega)
    refine ⟨?_, by simp [PyData.showableAll, g2, h2], by simp [PyData.hasDictAll, g3, h3]⟩
    rw [PyData.shownAll, piled_cons]
    omega
end
theorem shows_of {d : D} (h1 : wt d ≤ 100000) (h2 : shp d = true) (h3 : d.depth ≤ 60) : shows d = true := by
  obtain ⟨a, b, c⟩ := shown_wt d h1
  unfold shows
  rw [b, c, shp_lay h2, decide_eq_true h3, decide_eq_true (by omega)]
  rfl
theorem wts_ints : ∀ {ns : List Int}, (∀ i ∈ ns, -100 ≤ i ∧ i < 1000) → wts (ns.map .int) = 7 * ns.length
  | [], _ => rfl
  | i :: ns, h => by
    rw [List.map_cons, wts, wts_ints fun j hj => h j (List.mem_cons_of_mem _ hj), wt, if_pos (h i List.mem_cons_self), List.length_cons]
    omega
theorem repr_same {x y : D} (e : x = y) (h : shows x = true) : reprD [x] = some (.str x.shown) ∧ reprD [y] = some (.str x.shown) := by
  subst e
  unfold reprD
  simp [h]
end DL

namespace DL
open PySem L2
/-! ### operators at data of a known kind -/
theorem le_ii {i j : Int} : leD (.int i) (.int j) = some (.bool (decide (i ≤ j))) := rfl
theorem lt_ii {i j : Int} : ltD (.int i) (.int j) = some (.bool (decide (i < j))) := rfl
theorem gt_ii {i j : Int} : gtD (.int i) (.int j) = some (.bool (decide (j < i))) := rfl
theorem ge_ii {i j : Int} : geD (.int i) (.int j) = some (.bool (decide (j ≤ i))) := rfl
theorem sub_ii {i j : Int} : subD (.int i) (.int j) = some (.int (i - j)) := rfl
theorem add_ii {i j : Int} : addD (.int i) (.int j) = some (.int (i + j)) := rfl
theorem neg_i {i : Int} : negD (.int i) = some (.int (-i)) := rfl
theorem mod_ii {i j : Int} (h : 0 < j) : modD (.int i) (.int j) = some (.int (i % j)) := by
  show (if decide (0 < j) then some (PyData.int (i % j)) else none) = _
  rw [if_pos (decide_eq_true h)]
theorem fdiv_ii {i j : Int} (h : 0 < j) (h' : j < 1073741824) : fdivD (.int i) (.int j) = some (.int (i / j)) := by
  show (if fdivOk i j then some (PyData.int (i / j)) else none) = _
  rw [if_pos]
  unfold fdivOk
  rw [decide_eq_true h, decide_eq_true h']; rfl
theorem mul_ii {i j : Int} (h : -1000000 ≤ i) (h' : i ≤ 1000000) : mulD (.int i) (.int j) = some (.int (i * j)) := by
  show (if mulOk i j then some (PyData.int (i * j)) else none) = _
  rw [if_pos]
  unfold mulOk
  rw [decide_eq_true (by omega), decide_eq_true (by omega)]; rfl
theorem eq_ii {i j : Int} : eqD (.int i) (.int j) = some (.bool (i == j)) := rfl
theorem ne_ii {i j : Int} : neD (.int i) (.int j) = some (.bool (!(i == j))) := rfl
theorem len_l {xs : List D} : lenD [.list xs] = some (.int (xs.length : Nat)) := rfl
theorem len_t {xs : List D} : lenD [.tuple xs] = some (.int (xs.length : Nat)) := rfl
theorem len_s {z : Str} (h : z.length ≤ 100000) : lenD [.str z] = some (.int (z.length : Nat)) := by
  show (if decide (z.length ≤ 100000) then some (PyData.int (z.length : Nat)) else none) = _
  rw [if_pos (decide_eq_true h)]
theorem int1_i {i : Int} : int1D [.int i] = some (.int i) := rfl
theorem max2_ii {i j : Int} : max2D [.int i, .int j] = some (.int (if j > i then j else i)) := rfl
theorem min2_ii {i j : Int} : min2D [.int i, .int j] = some (.int (if j < i then j else i)) := rfl
theorem tuple_l {xs : List D} : tupleD [.list xs] = some (.tuple xs) := rfl
theorem tuple_t {xs : List D} : tupleD [.tuple xs] = some (.tuple xs) := rfl
theorem list_l {xs : List D} : listD [.list xs] = some xs := rfl
theorem list_t {xs : List D} : listD [.tuple xs] = some xs := rfl
theorem revL_l {xs : List D} : revL (.list xs) = some (.list xs.reverse) := rfl
theorem isN_n : isND .none .none = some (.bool true) := rfl
theorem isN_t {xs : List D} : isND (.tuple xs) .none = some (.bool false) := rfl
theorem isN_i {i : Int} : isND (.int i) .none = some (.bool false) := rfl
theorem notN_n : notND .none .none = some (.bool false) := rfl
theorem notN_t {xs : List D} : notND (.tuple xs) .none = some (.bool true) := rfl
theorem notN_i {i : Int} : notND (.int i) .none = some (.bool true) := rfl
theorem isInt_i {i : Int} : isIntD (.int i) = some (.bool true) := rfl
theorem isInt_b {i : Bool} : isIntD (.bool i) = some (.bool true) := rfl
theorem isInt_s {i : Str} : isIntD (.str i) = some (.bool false) := rfl
theorem isInt_n : isIntD .none = some (.bool false) := rfl
theorem isInt_l {i : List D} : isIntD (.list i) = some (.bool false) := rfl
theorem isInt_t {i : List D} : isIntD (.tuple i) = some (.bool false) := rfl
theorem isInt_d {i : List (D × D)} : isIntD (.dict i) = some (.bool false) := rfl
theorem isBool_i {i : Int} : isBoolD (.int i) = some (.bool false) := rfl
theorem isBool_b {i : Bool} : isBoolD (.bool i) = some (.bool true) := rfl
theorem isBool_s {i : Str} : isBoolD (.str i) = some (.bool false) := rfl
theorem isBool_n : isBoolD .none = some (.bool false) := rfl
theorem isBool_l {i : List D} : isBoolD (.list i) = some (.bool false) := rfl
theorem isBool_t {i : List D} : isBoolD (.tuple i) = some (.bool false) := rfl
theorem isBool_d {i : List (D × D)} : isBoolD (.dict i) = some (.bool false) := rfl
theorem isStr_i {i : Int} : isStrD (.int i) = some (.bool false) := rfl
theorem isStr_b {i : Bool} : isStrD (.bool i) = some (.bool false) := rfl
theorem isStr_s {i : Str} : isStrD (.str i) = some (.bool true) := rfl
theorem isStr_n : isStrD .none = some (.bool false) := rfl
theorem isStr_l {i : List D} : isStrD (.list i) = some (.bool false) := rfl
theorem isStr_t {i : List D} : isStrD (.tuple i) = some (.bool false) := rfl
theorem isStr_d {i : List (D × D)} : isStrD (.dict i) = some (.bool false) := rfl
theorem isTup_i {i : Int} : isTupD (.int i) = some (.bool false) := rfl
theorem isTup_b {i : Bool} : isTupD (.bool i) = some (.bool false) := rfl
theorem isTup_s {i : Str} : isTupD (.str i) = some (.bool false) := rfl
theorem isTup_n : isTupD .none = some (.bool false) := rfl
theorem isTup_l {i : List D} : isTupD (.list i) = some (.bool false) := rfl
theorem isTup_t {i : List D} : isTupD (.tuple i) = some (.bool true) := rfl
theorem isTup_d {i : List (D × D)} : isTupD (.dict i) = some (.bool false) := rfl
theorem ixD_at {x : D} {ds : List D} {j : Nat} {d : D} {i : Int} (hx : itemsOf x = some ds) (h : ds[j]? = some d) (hi : i = (j : Nat)) : ixD x (.int i) = some d := by
  subst hi
  unfold ixD ixSq
  rw [hx]
  show (atI ds ((j : Nat) : Int)).or _ = _
  rw [atI_nat h]
  rfl
variable {a b c d e : D} {r : List D}
theorem ix_t0 : ixD (.tuple (a :: r)) (.int 0) = some a := ixD_at (j := 0) rfl rfl rfl
theorem ix_t1 : ixD (.tuple (a :: b :: r)) (.int 1) = some b := ixD_at (j := 1) rfl rfl rfl
theorem ix_t2 : ixD (.tuple (a :: b :: c :: r)) (.int 2) = some c := ixD_at (j := 2) rfl rfl rfl
theorem ix_t3 : ixD (.tuple (a :: b :: c :: d :: r)) (.int 3) = some d := ixD_at (j := 3) rfl rfl rfl
theorem ix_t4 : ixD (.tuple (a :: b :: c :: d :: e :: r)) (.int 4) = some e := ixD_at (j := 4) rfl rfl rfl
theorem ix_l0 : ixD (.list (a :: r)) (.int 0) = some a := ixD_at (j := 0) rfl rfl rfl
theorem ix_l1 : ixD (.list (a :: b :: r)) (.int 1) = some b := ixD_at (j := 1) rfl rfl rfl
theorem ix_l2 : ixD (.list (a :: b :: c :: r)) (.int 2) = some c := ixD_at (j := 2) rfl rfl rfl
theorem add_ll {xs ys : List D} (h : xs.length + ys.length ≤ 100000) : addD (.list xs) (.list ys) = some (.list (xs ++ ys)) := by
  show (Option.or none (Option.or none (Option.or none (if decide (xs.length + ys.length ≤ 100000) then some (PyData.list (xs ++ ys)) else none)))) = _
  rw [if_pos (decide_eq_true h)]; rfl
theorem add_tt {xs ys : List D} (h : xs.length + ys.length ≤ 100000) : addD (.tuple xs) (.tuple ys) = some (.tuple (xs ++ ys)) := by
  show (Option.or none (Option.or none (Option.or (if decide (xs.length + ys.length ≤ 100000) then some (PyData.tuple (xs ++ ys)) else none) _))) = _
  rw [if_pos (decide_eq_true h)]; rfl
theorem shp_str {x : Str} (h : PyData.strOk x = true) : shp (.str x) = true := by
  unfold shp SeqAt.shaped
  rw [Bool.and_eq_true]
  exact ⟨h, rfl⟩
theorem eq_ss {x y : Str} (hx : PyData.strOk x = true) (hy : PyData.strOk y = true) : eqD (.str x) (.str y) = some (.bool (decide (x = y))) := by
  unfold eqD
  rw [shp_str hx, shp_str hy]
  rfl
theorem ne_ss {x y : Str} (hx : PyData.strOk x = true) (hy : PyData.strOk y = true) : neD (.str x) (.str y) = some (.bool (!decide (x = y))) := by
  unfold neD
  rw [shp_str hx, shp_str hy]
  rfl
end DL

namespace DL
open PySem L2
theorem le5 {a b : Nat} (h : Nat.ble a b = true) : a ≤ b := Nat.le_of_ble_eq_true h
def isWhole (d : D) (a b : Int) : Bool := match d with | .int i => decide (a ≤ i) && decide (i ≤ b) | _ => false
def isWord (d : D) (ws : List Str) : Bool := match d with | .str s => ws.any fun w => w == s | _ => false
theorem flats_strs : ∀ ws : List Str, (ws.map PyData.str).all flatD = true
  | [] => rfl
  | _ :: r => by rw [List.map_cons, List.all_cons, flats_strs r]; rfl
theorem any_strs (s : Str) : ∀ ws : List Str, ((ws.map PyData.str).any fun y => PyData.eqv y (.str s)) = ws.any fun w => w == s
  | [] => rfl
  | _ :: r => by rw [List.map_cons, List.any_cons, List.any_cons, any_strs s r]; rfl
theorem in_strs {s : Str} {ws : List Str} : inD (.str s) (.tuple (ws.map .str)) = some (.bool (ws.any fun w => w == s)) := by
  unfold inD inSeq
  simp only [itemsOf, flatD, flats_strs, Bool.and_self, if_true, any_strs]
  rfl
def goodSigns (z : Str) : Bool := decide (1 ≤ z.length) && decide (z.length ≤ 8) && decide (120 ∈ z.cps.toList) && z.cps.toList.all fun c => decide (c = 120) || decide (c = 45)
def isRhythm (d : D) : Bool := match d with | .str z => goodSigns z | _ => false
theorem in_x : ∀ c : Nat, inD (.str ⟨#[c]⟩) (.str "x-") = some (.bool (decide (c = 120) || decide (c = 45))) := by
  intro c
  have e : (("x-" : Str).cps.toList) = [120, 45] := by decide +kernel
  unfold inD inSeq inStr
  simp only [itemsOf, Option.or, e, List.mem_cons, List.not_mem_nil, or_false, Bool.false_eq_true, if_false]
  congr 2
  exact Bool.decide_or _ _
theorem in_str1 {c : Nat} {w z : Str} (e : w.cps.toList = [c]) : inD (.str w) (.str z) = some (.bool (decide (c ∈ z.cps.toList))) := by
  unfold inD inSeq inStr
  simp [itemsOf, e]
abbrev ordersS : List Str := ["up", "down", "bounce", "swing", "outside", "played"]
abbrev changesS : List Str := ["stay", "again", "follow"]
def isB : D → Bool
  | .bool _ => true
  | _ => false
def rowsOf (o oc r c l : D) : List (Str × Bool) := [("order", isWord o ordersS), ("octaves", isWhole oc 1 3), ("rhythm", isRhythm r), ("change", isWord c changesS), ("latch", isB l)]
def wrongs (rows : List (Str × Bool)) : List Str := (rows.filter fun r => !r.2).map (·.1)
def faultOf (o oc r c l : D) : D := match wrongs (rowsOf o oc r c l) with | [] => .none | w :: _ => .tuple [.str w]
def faultD : D → D
  | .tuple [o, oc, r, c, l] => faultOf o oc r c l
  | _ => .tuple []
def shortD : D → Prop
  | .str z => z.length ≤ 100000
  | _ => True
def rowD (r : Str × Bool) : D := .tuple [.str r.1, .bool r.2]
theorem ne_wrongs (b1 b2 b3 b4 b5 : Bool) : neD (.list ((wrongs [("order", b1), ("octaves", b2), ("rhythm", b3), ("change", b4), ("latch", b5)]).map .str)) (.list []) = some (.bool (!(wrongs [("order", b1), ("octaves", b2), ("rhythm", b3), ("change", b4), ("latch", b5)]).isEmpty)) := by
  cases b1 <;> cases b2 <;> cases b3 <;> cases b4 <;> cases b5 <;> kernel_rfl
structure ChordOk (ns : List Int) : Prop where
  key : ∀ k ∈ ns, 0 ≤ k ∧ k ≤ 87
  nd : ns.Nodup
  len : ns.length ≤ 6
abbrev tupI (ns : List Int) : D := .tuple (ns.map .int)
theorem flats_ints : ∀ ws : List Int, (ws.map PyData.int).all flatD = true
  | [] => rfl
  | _ :: r => by rw [List.map_cons, List.all_cons, flats_ints r]; rfl
theorem any_ints (s : Int) : ∀ ws : List Int, ((ws.map PyData.int).any fun y => PyData.eqv y (.int s)) = ws.contains s
  | [] => rfl
  | a :: r => by
    rw [List.map_cons, List.any_cons, any_ints s r, List.contains_cons]
    show ((a == s) || _) = _
    rw [show (a == s) = (s == a) from Bool.beq_comm ..]
theorem in_ints {s : Int} {ws : List Int} : inD (.int s) (tupI ws) = some (.bool (ws.contains s)) := by
  unfold inD inSeq
  simp only [itemsOf, flatD, flats_ints, Bool.and_self, if_true, any_ints]
  rfl
theorem cutD_to {ds : List D} {k : Nat} : cutD ds none (some (k : Int)) = ds.take k := by
  unfold cutD
  rw [HT.sIx_none, HT.sIx_nat, Nat.sub_zero, List.drop_zero]
  by_cases h : k ≤ ds.length
  · rw [Nat.min_eq_left h]
  · rw [Nat.min_eq_right (by omega), List.take_of_length_le (Nat.le_refl _), List.take_of_length_le (by omega)]
def keysOf (o : Str) (ns : List Int) : List Int := if o = "played" then ns else isort ns
def rowI (oct : Nat) (ks : List Int) : List Int := (List.range oct).flatMap fun j => ks.map fun k => k + 12 * (j : Nat)
structure StgOk (o : Str) (oct : Nat) (rh ch : Str) : Prop where
  o : o ∈ ordersS
  oct : 1 ≤ oct ∧ oct ≤ 3
  rh : goodSigns rh = true
  ch : ch ∈ changesS
abbrev stgD (o : Str) (oct : Nat) (rh ch : Str) (la : Bool) : D := .tuple [.str o, .int (oct : Nat), .str rh, .str ch, .bool la]
structure Stg where
  o : Str
  oct : Nat
  rh : Str
  ch : Str
  la : Bool
abbrev Stg.d (s : Stg) : D := stgD s.o s.oct s.rh s.ch s.la
abbrev Stg.Ok (s : Stg) : Prop := StgOk s.o s.oct s.rh s.ch
def outI : List Int → List Int
  | [] => []
  | x :: xs => x :: outI xs.reverse
termination_by xs => xs.length
decreasing_by simp
def midI (row : List Int) : List Int := ((row.drop 1).take (row.length - 2))
def roundI (o : Str) (row : List Int) : List Int :=
  if o = "down" then row.reverse else if o = "bounce" then row ++ (midI row).reverse else if o = "swing" then row ++ row.reverse else if o = "outside" then outI row else row
def rndI (s : Stg) (ns : List Int) : List Int := roundI s.o (rowI s.oct (keysOf s.o ns))
theorem fault_ok {s : Stg} (ok : s.Ok) : faultD s.d = .none := by
  have h1 : isWord (.str s.o) ordersS = true := by
    show (ordersS.any fun w => w == s.o) = true
    exact List.any_eq_true.mpr ⟨s.o, ok.o, by simp⟩
  have h2 : isWord (.str s.ch) changesS = true := by
    show (changesS.any fun w => w == s.ch) = true
    exact List.any_eq_true.mpr ⟨s.ch, ok.ch, by simp⟩
  have h3 : isWhole (.int (s.oct : Nat)) 1 3 = true := by
    have := ok.oct
    show (decide ((1 : Int) ≤ (s.oct : Nat)) && decide (((s.oct : Nat) : Int) ≤ 3)) = true
    rw [decide_eq_true (by omega), decide_eq_true (by omega)]
    rfl
  show faultOf _ _ _ _ _ = _
  unfold faultOf rowsOf
  rw [h1, h2, h3, show isRhythm (.str s.rh) = true from ok.rh]
  rfl
theorem short_ok {s : Stg} (ok : s.Ok) : shortD (.str s.rh) := by
  have := ok.rh
  unfold goodSigns at this
  simp only [Bool.and_eq_true, decide_eq_true_eq] at this
  show s.rh.length ≤ 100000
  omega
theorem eq_str {x y : Str} (hx : PyData.strOk x = true) (hy : PyData.strOk y = true) : eqD (.str x) (.str y) = some (.bool (decide (x = y))) := by
  unfold eqD
  rw [shp_str hx, shp_str hy]
  show some (PyData.bool (x == y)) = _
  rfl
theorem ord_ok {o : Str} (h : o ∈ ordersS) : PyData.strOk o = true := by
  simp only [ordersS, List.mem_cons, List.not_mem_nil, or_false] at h
  rcases h with h | h | h | h | h | h <;> (subst h; kernel_rfl)
theorem mul_small {i j : Int} (h : -1000 ≤ i ∧ i ≤ 1000) : mulD (.int i) (.int j) = some (.int (i * j)) := by
  show (if mulOk i j then some (PyData.int (i * j)) else none) = _
  rw [if_pos]
  unfold mulOk
  rw [Bool.or_eq_true]
  exact .inl (by rw [Bool.and_eq_true]; exact ⟨decide_eq_true (by omega), decide_eq_true (by omega)⟩)
theorem keys_len {o : Str} {ns : List Int} : (keysOf o ns).length = ns.length := by
  unfold keysOf
  split
  · rfl
  · exact (isort_perm ns).length_eq
theorem outI_nil : outI [] = [] := by rw [outI]
theorem outI_cons {x : Int} {xs : List Int} : outI (x :: xs) = x :: outI xs.reverse := by rw [outI]
theorem cut_mid (ds : List D) : cutD ds (some 1) (some (-1)) = (ds.drop 1).take (ds.length - 2) := by
  unfold cutD
  rw [show HT.sIx ds.length 0 (some 1) = min 1 ds.length from HT.sIx_nat ds.length 0 1]
  rw [show HT.sIx ds.length ds.length (some (-1)) = ds.length - 1 from by
    have h : ((-1 : Int) < 0) := by decide
    unfold HT.sIx
    simp only [h, if_true]
    omega]
  cases ds with
  | nil => rfl
  | cons d r =>
    rw [Nat.min_eq_left (by simp)]
    rw [show (d :: r).length - 1 - 1 = (d :: r).length - 2 from by omega]
theorem row_len {oct : Nat} {ks : List Int} : (rowI oct ks).length = oct * ks.length := by
  unfold rowI
  rw [List.length_flatMap]
  simp [List.map_const', Nat.mul_comm]
theorem add_lists {xs ys : List D} (h : xs.length + ys.length ≤ 100000) : addD (.list xs) (.list ys) = some (.list (xs ++ ys)) := by
  unfold addD
  show (Option.none).or ((Option.none).or ((Option.none).or (if decide (xs.length + ys.length ≤ 100000) then some (PyData.list (xs ++ ys)) else none))) = _
  rw [if_pos (decide_eq_true h)]
  rfl
theorem add_tups {xs ys : List D} (h : xs.length + ys.length ≤ 100000) : addD (.tuple xs) (.tuple ys) = some (.tuple (xs ++ ys)) := by
  unfold addD
  show (Option.none).or ((Option.none).or ((if decide (xs.length + ys.length ≤ 100000) then some (PyData.tuple (xs ++ ys)) else none).or (Option.none))) = _
  rw [if_pos (decide_eq_true h)]
  rfl
theorem fm_congr {α β : Type} {f g : α → Option β} : ∀ {l : List α}, (∀ x ∈ l, f x = g x) → l.filterMap f = l.filterMap g
  | [], _ => rfl
  | x :: l, h => by
    rw [List.filterMap_cons, List.filterMap_cons, h x List.mem_cons_self, fm_congr fun y hy => h y (List.mem_cons_of_mem _ hy)]
theorem erase_map {α β : Type} (f : α → β) : ∀ (xs : List α) (i : Nat), (xs.map f).eraseIdx i = (xs.eraseIdx i).map f
  | [], _ => rfl
  | _ :: _, 0 => rfl
  | x :: xs, i + 1 => by show f x :: (xs.map f).eraseIdx i = _; rw [erase_map f xs i]; rfl
theorem perm_erase {α : Type} : ∀ (xs : List α) (i : Nat) (h : i < xs.length), ([xs[i]] ++ xs.eraseIdx i).Perm xs
  | [], _, h => by simp at h
  | x :: xs, 0, _ => List.Perm.refl _
  | x :: xs, i + 1, h => by
    have hi : i < xs.length := by simpa using h
    have := perm_erase xs i hi
    show (xs[i] :: x :: xs.eraseIdx i).Perm (x :: xs)
    exact (List.Perm.swap _ _ _).trans (this.cons x)
def evens {α : Type} : List α → List α
  | [] => []
  | [x] => [x]
  | x :: _ :: r => x :: evens r
def odds {α : Type} : List α → List α
  | [] => []
  | [_] => []
  | _ :: y :: r => y :: odds r
theorem fm_even {α : Type} : ∀ (xs : List α) (k : Nat), 2 * k = xs.length ∨ 2 * k = xs.length + 1 → ((List.range k).filterMap fun j => xs[2 * j]?) = evens xs
  | [], k, h => by
    obtain rfl : k = 0 := by simp at h; omega
    rfl
  | [x], k, h => by
    obtain rfl : k = 1 := by simp at h; omega
    rfl
  | x :: y :: r, k, h => by
    obtain ⟨j, rfl⟩ : ∃ j, k = j + 1 := ⟨k - 1, by simp at h; omega⟩
    rw [List.range_succ_eq_map, List.filterMap_cons]
    show x :: List.filterMap _ (List.map Nat.succ (List.range j)) = x :: evens r
    rw [List.filterMap_map]
    congr 1
    rw [← fm_even r j (by simp at h; omega)]
    congr 1
theorem fm_odd {α : Type} : ∀ (xs : List α) (k : Nat), 2 * k = xs.length ∨ 2 * k + 1 = xs.length → ((List.range k).filterMap fun j => xs[1 + 2 * j]?) = odds xs
  | [], k, h => by
    obtain rfl : k = 0 := by simp at h; omega
    rfl
  | [x], k, h => by
    obtain rfl : k = 0 := by simp at h; omega
    rfl
  | x :: y :: r, k, h => by
    obtain ⟨j, rfl⟩ : ∃ j, k = j + 1 := ⟨k - 1, by simp at h; omega⟩
    rw [List.range_succ_eq_map, List.filterMap_cons]
    show y :: List.filterMap _ (List.map Nat.succ (List.range j)) = y :: odds r
    rw [List.filterMap_map]
    congr 1
    rw [← fm_odd r j (by simp at h; omega)]
    refine fm_congr fun i _ => ?_
    show (x :: y :: r)[1 + 2 * (i + 1)]? = r[1 + 2 * i]?
    rw [show 1 + 2 * (i + 1) = (1 + 2 * i) + 1 + 1 from by omega]
    rfl
theorem fm_rev {α : Type} : ∀ (xs : List α) (n : Nat), n = xs.length → ((List.range n).filterMap fun j => xs[n - 1 - j]?) = xs.reverse := by
  intro xs n h
  subst h
  have e : ∀ j, j ∈ List.range xs.length → xs[xs.length - 1 - j]? = xs.reverse[j]? := fun j hj => by
    rw [List.mem_range] at hj
    rw [List.getElem?_reverse hj]
  rw [fm_congr e]
  rw [← List.length_reverse (as := xs)]
  generalize xs.reverse = ys
  induction ys with
  | nil => rfl
  | cons y ys ih =>
    rw [List.length_cons, List.range_succ_eq_map, List.filterMap_cons, List.filterMap_map]
    show y :: _ = _
    congr 1
theorem step_rev {α : Type} (xs : List α) : stepV xs none none (-1) = xs.reverse := by
  unfold stepV
  have e1 : Builtin.Slice.sliceAdjust none none (-1) (xs.length : Nat) = ((xs.length : Int) - 1, -1) := by
    unfold Builtin.Slice.sliceAdjust
    simp
  rw [e1]
  have e2 : Builtin.Slice.slicePlaces ((xs.length : Int) - 1) (-1) (-1) = xs.length := by
    unfold Builtin.Slice.slicePlaces
    simp
    split <;> omega
  simp only [e2]
  rw [← fm_rev xs xs.length rfl]
  refine fm_congr fun j hj => ?_
  rw [List.mem_range] at hj
  congr 1
  omega
theorem step_even {α : Type} (xs : List α) : stepV xs none none 2 = evens xs := by
  unfold stepV
  have e1 : Builtin.Slice.sliceAdjust none none 2 (xs.length : Nat) = (0, (xs.length : Int)) := by
    unfold Builtin.Slice.sliceAdjust
    simp
  rw [e1]
  have e2 : Builtin.Slice.slicePlaces 0 (xs.length : Int) 2 = (xs.length + 1) / 2 := by
    unfold Builtin.Slice.slicePlaces
    simp
    split <;> omega
  simp only [e2]
  rw [← fm_even xs ((xs.length + 1) / 2) (by omega)]
  refine fm_congr fun j hj => ?_
  congr 1
  omega
theorem step_odd {α : Type} (xs : List α) : stepV xs (some 1) none 2 = odds xs := by
  unfold stepV
  have e1 : Builtin.Slice.sliceAdjust (some 1) none 2 (xs.length : Nat) = (min 1 (xs.length : Int), (xs.length : Int)) := by
    unfold Builtin.Slice.sliceAdjust
    simp
  rw [e1]
  have e2 : Builtin.Slice.slicePlaces (min 1 (xs.length : Int)) (xs.length : Int) 2 = xs.length / 2 := by
    unfold Builtin.Slice.slicePlaces
    simp
    split <;> omega
  simp only [e2]
  rw [← fm_odd xs (xs.length / 2) (by omega)]
  refine fm_congr fun j hj => ?_
  rw [List.mem_range] at hj
  congr 1
  omega
theorem evens_map {α β : Type} (f : α → β) : ∀ xs : List α, evens (xs.map f) = (evens xs).map f
  | [] => rfl
  | [_] => rfl
  | x :: _ :: r => by show f x :: evens (r.map f) = _; rw [evens_map f r]; rfl
theorem odds_map {α β : Type} (f : α → β) : ∀ xs : List α, odds (xs.map f) = (odds xs).map f
  | [] => rfl
  | [_] => rfl
  | x :: y :: r => by show f y :: odds (r.map f) = _; rw [odds_map f r]; rfl
theorem out_two (x z : Int) (ys : List Int) : outI (x :: (ys ++ [z])) = x :: z :: outI ys := by
  rw [outI_cons, List.reverse_append, List.reverse_singleton, List.singleton_append, outI_cons, List.reverse_reverse]
theorem ends_cases (xs : List Int) : xs = [] ∨ (∃ x, xs = [x]) ∨ ∃ x ys z, xs = x :: (ys ++ [z]) := by
  cases xs with
  | nil => exact .inl rfl
  | cons x r =>
    rcases List.eq_nil_or_concat r with h | ⟨ys, z, h⟩
    · exact .inr (.inl ⟨x, by rw [h]⟩)
    · exact .inr (.inr ⟨x, ys, z, by rw [h]; simp⟩)
theorem out_back : ∀ (n : Nat) (xs : List Int), xs.length ≤ n → evens (outI xs) ++ (odds (outI xs)).reverse = xs := by
  intro n
  induction n using Nat.strongRecOn with
  | ind n ih =>
    intro xs h
    rcases ends_cases xs with rfl | ⟨x, rfl⟩ | ⟨x, ys, z, rfl⟩
    · rw [outI_nil]; rfl
    · rw [outI_cons, List.reverse_nil, outI_nil]; rfl
    · rw [out_two]
      show x :: evens (outI ys) ++ (z :: odds (outI ys)).reverse = _
      have hl : ys.length < n := by simp at h; omega
      have := ih ys.length hl ys (Nat.le_refl _)
      rw [List.reverse_cons, List.cons_append, ← List.append_assoc, this]
theorem out_perm : ∀ (n : Nat) (xs : List Int), xs.length ≤ n → (outI xs).Perm xs
  | n, [], _ => by rw [outI_nil]
  | 0, x :: xs, h => by simp at h
  | n + 1, x :: xs, h => by
    rw [outI_cons]
    exact ((out_perm n xs.reverse (by simpa using h)).trans (List.reverse_perm xs)).cons x
theorem isort_perms {xs ys : List Int} (h : xs.Perm ys) : isort xs = isort ys := isort_eq ((isort_perm xs).trans h) (isort_pw xs)
theorem eqva_ints : ∀ xs ys : List Int, PyData.eqvAll (xs.map .int) (ys.map .int) = decide (xs = ys)
  | [], [] => rfl
  | [], _ :: _ => rfl
  | _ :: _, [] => rfl
  | x :: xs, y :: ys => by
    rw [List.map_cons, List.map_cons, PyData.eqvAll, eqva_ints xs ys]
    show (x == y && _) = _
    by_cases h : x = y <;> by_cases h2 : xs = ys <;> simp [h, h2]
theorem eq_tupI {xs ys : List Int} : eqD (tupI xs) (tupI ys) = some (.bool (decide (xs = ys))) := by
  unfold eqD
  rw [show shp (tupI xs) = true from shpT_ints xs, show shp (tupI ys) = true from shpT_ints ys, ← eqva_ints]
  rfl
theorem ne_tupI {xs ys : List Int} : neD (tupI xs) (tupI ys) = some (.bool (!decide (xs = ys))) := by
  unfold neD
  rw [show shp (tupI xs) = true from shpT_ints xs, show shp (tupI ys) = true from shpT_ints ys, ← eqva_ints]
  rfl
theorem eq_lstI {xs ys : List Int} : eqD (.list (xs.map .int)) (.list (ys.map .int)) = some (.bool (decide (xs = ys))) := by
  unfold eqD
  rw [show shp (.list (xs.map .int)) = true from shp_ints xs, show shp (.list (ys.map .int)) = true from shp_ints ys, ← eqva_ints]
  rfl
theorem ne_lstI {xs ys : List Int} : neD (.list (xs.map .int)) (.list (ys.map .int)) = some (.bool (!decide (xs = ys))) := by
  unfold neD
  rw [show shp (.list (xs.map .int)) = true from shp_ints xs, show shp (.list (ys.map .int)) = true from shp_ints ys, ← eqva_ints]
  rfl
theorem sorted_tupI {ns : List Int} : sortedD [tupI ns] = some ((isort ns).map .int) := by
  show ((intsOf (ns.map .int)).map fun ns => (isort ns).map PyData.int) = _
  rw [intsOf_map]
  rfl
theorem sorted_lstI {ns : List Int} : sortedD [.list (ns.map .int)] = some ((isort ns).map .int) := by
  show ((intsOf (ns.map .int)).map fun ns => (isort ns).map PyData.int) = _
  rw [intsOf_map]
  rfl
theorem step_tupI {c : Int} {ns ms : List Int} {lo hi : Option Int} (hl : ns.length ≤ 1000) (h : stepV (ns.map PyData.int) lo hi c = ms.map .int) (hm : ms.length ≤ 1000) : stepD c (tupI ns) lo hi = some (tupI ms) := by
  show (if decide ((stepV (ns.map PyData.int) lo hi c).length ≤ 100000) then some (PyData.tuple (stepV (ns.map PyData.int) lo hi c)) else none) = _
  rw [h, if_pos (decide_eq_true (by rw [List.length_map]; omega))]
theorem len_lst {ns : List Int} : lenD [.list (ns.map .int)] = some (.int (ns.length : Nat)) := by
  show some (PyData.int ((ns.map PyData.int).length : Nat)) = _
  rw [List.length_map]
theorem len_tupI {ns : List Int} : lenD [tupI ns] = some (.int (ns.length : Nat)) := by
  show some (PyData.int ((ns.map PyData.int).length : Nat)) = _
  rw [List.length_map]
theorem noLs_ints : ∀ ns : List Int, noLs (ns.map .int) = true
  | [] => rfl
  | n :: ns => by rw [List.map_cons, noLs, noLs_ints ns]; rfl
theorem len_items {x : D} {ds : List D} (h : itemsOf x = some ds) : lenD [x] = some (.int (ds.length : Nat)) := by
  cases x <;> cases h <;> rfl
theorem x_at {r : Int} (h0 : 0 ≤ r) (h1 : r < 2) : ∃ c : Nat, ixD (.str "x-") (.int r) = some (.str ⟨#[c]⟩) ∧ (c = 120 ∨ c = 45) := by
  have : r = 0 ∨ r = 1 := by omega
  rcases this with rfl | rfl
  · exact ⟨120, by kernel_rfl, .inl rfl⟩
  · exact ⟨45, by kernel_rfl, .inr rfl⟩
def sgn (c : Nat) : D := .str ⟨#[c]⟩
theorem join_signs : ∀ es : List Nat, Txt.join "" (es.map fun c => (⟨#[c]⟩ : Str)) = (⟨es.toArray⟩ : Str) := by
  intro es
  have e := SX.join_S [] (es.map fun c => [c])
  have e2 : ∀ es : List Nat, TL.joinL [] (es.map fun c => [c]) = es := by
    intro es
    induction es with
    | nil => rfl
    | cons c es ih =>
      cases es with
      | nil => rfl
      | cons d es =>
        rw [List.map_cons] at ih ⊢
        rw [List.map_cons, TL.joinL]
        · rw [← List.map_cons (f := fun c => [c])] at ih ⊢
          rw [ih]; rfl
  rw [e2, List.map_map] at e
  exact e
theorem sgn_strs (es : List Nat) : es.map sgn = (es.map fun c => (⟨#[c]⟩ : Str)).map .str := by
  rw [List.map_map]; rfl
theorem row_succ' {oct : Nat} {ks : List Int} : rowI (oct + 1) ks = rowI oct ks ++ ks.map fun k => k + 12 * ((oct : Nat) : Int) := by
  unfold rowI
  rw [List.range_succ, List.flatMap_append]
  simp
theorem add_lstI' {xs ys : List Int} (h : xs.length + ys.length ≤ 100000) : addD (.list (xs.map .int)) (.list (ys.map .int)) = some (.list ((xs ++ ys).map .int)) := by
  rw [add_lists (by rw [List.length_map, List.length_map]; exact h), List.map_append]
def downG (row : List Int) : List Int := (List.range row.length).map fun k => row.getD (row.length - 1 - k) 0
def outG (row : List Int) : List Int := (List.range row.length).map fun k => if k % 2 = 0 then row.getD (k / 2) 0 else row.getD (row.length - 1 - k / 2) 0
def midG (row : List Int) : List Int := (List.range (row.length - 2)).map fun k => row.getD (row.length - 2 - k) 0
theorem getD_in {row : List Int} {i : Nat} (h : i < row.length) : row.getD i 0 = row[i] := by
  rw [List.getD_eq_getElem?_getD, List.getElem?_eq_getElem h]; rfl
theorem getD_app {xs ys : List Int} {i : Nat} (h : i < xs.length) : (xs ++ ys).getD i 0 = xs.getD i 0 := by
  rw [List.getD_eq_getElem?_getD, List.getD_eq_getElem?_getD, List.getElem?_append_left h]
theorem downG_eq (row : List Int) : downG row = row.reverse := by
  unfold downG
  apply List.ext_getElem
  · simp
  · intro i h1 h2
    simp at h1
    rw [List.getElem_map, List.getElem_range, List.getElem_reverse, getD_in (by omega)]
theorem midG_eq (row : List Int) : midG row = (midI row).reverse := by
  rcases ends_cases row with rfl | ⟨x, rfl⟩ | ⟨x, ys, z, rfl⟩
  · rfl
  · rfl
  · have e : midI (x :: (ys ++ [z])) = ys := by unfold midI; simp
    rw [e]
    unfold midG
    have hl : (x :: (ys ++ [z])).length - 2 = ys.length := by simp
    rw [hl]
    apply List.ext_getElem
    · simp
    · intro i h1 h2
      simp at h1
      rw [List.getElem_map, List.getElem_range, List.getElem_reverse]
      rw [show ys.length - i = (ys.length - 1 - i) + 1 from by omega, List.getD_cons_succ, getD_app (by omega), getD_in (by omega)]
theorem outG_eq : ∀ (n : Nat) (row : List Int), row.length ≤ n → outG row = outI row := by
  intro n
  induction n using Nat.strongRecOn with
  | ind n ih =>
    intro row h
    rcases ends_cases row with rfl | ⟨x, rfl⟩ | ⟨x, ys, z, rfl⟩
    · rw [outI_nil]; rfl
    · rw [outI_cons, List.reverse_nil, outI_nil]; rfl
    · rw [out_two, ← ih ys.length (by simp at h; omega) ys (Nat.le_refl _)]
      unfold outG
      have hl : (x :: (ys ++ [z])).length = ys.length + 1 + 1 := by simp
      rw [hl, List.range_succ_eq_map, List.map_cons, List.range_succ_eq_map, List.map_cons, List.map_cons, List.map_map, List.map_map]
      have e0 : (if 0 % 2 = 0 then (x :: (ys ++ [z])).getD (0 / 2) 0 else (x :: (ys ++ [z])).getD (ys.length + 1 + 1 - 1 - 0 / 2) 0) = x := rfl
      have e1 : (if (Nat.succ 0) % 2 = 0 then (x :: (ys ++ [z])).getD ((Nat.succ 0) / 2) 0 else (x :: (ys ++ [z])).getD (ys.length + 1 + 1 - 1 - (Nat.succ 0) / 2) 0) = z := by
        show (x :: (ys ++ [z])).getD (ys.length + 1) 0 = z
        rw [List.getD_cons_succ]
        simp [List.getD]
      rw [e0, e1]
      congr 2
      apply List.map_congr_left
      intro k hk
      rw [List.mem_range] at hk
      show (if (k + 1 + 1) % 2 = 0 then (x :: (ys ++ [z])).getD ((k + 1 + 1) / 2) 0 else (x :: (ys ++ [z])).getD (ys.length + 1 + 1 - 1 - (k + 1 + 1) / 2) 0) = _
      rw [show (k + 1 + 1) % 2 = k % 2 from by omega, show (k + 1 + 1) / 2 = k / 2 + 1 from by omega, show ys.length + 1 + 1 - 1 - (k / 2 + 1) = (ys.length - 1 - k / 2) + 1 from by omega]
      rw [List.getD_cons_succ, List.getD_cons_succ, getD_app (by omega), getD_app (by omega)]
theorem rnd_outside' {r : List Int} : roundI "outside" r = outI r := by
  unfold roundI
  rw [if_neg (by decide +kernel), if_neg (by decide +kernel), if_neg (by decide +kernel), if_pos rfl]
theorem rnd_bounce' {r : List Int} : roundI "bounce" r = r ++ (midI r).reverse := by
  unfold roundI
  rw [if_neg (by decide +kernel), if_pos rfl]
theorem rnd_swing' {r : List Int} : roundI "swing" r = r ++ r.reverse := by
  unfold roundI
  rw [if_neg (by decide +kernel), if_neg (by decide +kernel), if_pos rfl]
theorem ix_lst {row : List Int} {k : Nat} {i : Int} (hi : i = (k : Nat)) (h : k < row.length) : ixD (.list (row.map .int)) (.int i) = some (.int (row.getD k 0)) := by
  rw [getD_in h]
  exact ixD_at (j := k) rfl (by rw [List.getElem?_map, List.getElem?_eq_getElem h]; rfl) hi
end DL

namespace DL
open PySem L2
/-! ### the texts of data can be laid -/
theorem sok_app {x y : Str} (hx : PyData.strOk x = true) (hy : PyData.strOk y = true) : PyData.strOk (x ++ y) = true := by
  unfold PyData.strOk at *
  show (x.cps ++ y.cps).all _ = true
  rw [Array.all_append, hx, hy]; rfl
theorem sok_join {s : Str} (hs : PyData.strOk s = true) : ∀ {xs : List Str}, (∀ x ∈ xs, PyData.strOk x = true) → PyData.strOk (Str.join s xs) = true
  | [], _ => by show PyData.strOk Str.empty = true; decide +kernel
  | [x], h => h x (by simp)
  | x :: y :: r, h => by
    show PyData.strOk (x ++ s ++ Str.join s (y :: r)) = true
    exact sok_app (sok_app (h x (by simp)) hs) (sok_join hs fun z hz => h z (List.mem_cons_of_mem _ hz))
theorem sok_from : ∀ (ts : List Str) (k : Nat) (acc : Str), PyData.strOk acc = true → (∀ x ∈ ts, PyData.strOk x = true) → PyData.strOk (textFrom k acc ts) = true
  | [], _, acc, h, _ => h
  | t :: ts, k, acc, h, ht => by
    show PyData.strOk (textFrom (k + 1) (acc ++ (if k > 0 then ", " else "" : String) ++ t) ts) = true
    refine sok_from ts (k + 1) _ (sok_app (sok_app h ?_) (ht t (by simp))) fun x hx => ht x (List.mem_cons_of_mem _ hx)
    split <;> decide +kernel
theorem sok_int' : ∀ k : Fin 1100, PyData.strOk (PyData.shown (.int (((k : Nat) : Int) - 100))) = true := by decide +kernel
theorem sok_int {i : Int} (h0 : -100 ≤ i) (h1 : i < 1000) : PyData.strOk (PyData.shown (.int i)) = true := by
  have := sok_int' ⟨(i + 100).toNat, by omega⟩
  have e : ((((i + 100).toNat : Nat) : Int) - 100) = i := by omega
  rw [e] at this
  exact this
mutual
/-- small whole numbers and texts that show as texts that can be laid -/
def sayOk : D → Bool
  | .none => true
  | .bool _ => true
  | .int i => decide (-100 ≤ i ∧ i < 1000)
  | .str x => PyData.strOk (reprText x)
  | .list xs => sayOks xs
  | .tuple xs => sayOks xs
  | .dict _ => false
def sayOks : List D → Bool
  | [] => true
  | x :: xs => sayOk x && sayOks xs
end
mutual
theorem say_ok : ∀ d : D, sayOk d = true → PyData.strOk d.shown = true
  | .none, _ => by decide +kernel
  | .bool b, _ => by cases b <;> decide +kernel
  | .int i, h => by
    unfold sayOk at h
    have := of_decide_eq_true h
    exact sok_int this.1 this.2
  | .str x, h => by unfold sayOk at h; exact h
  | .list xs, h => by
    unfold sayOk at h
    show PyData.strOk (textFrom 0 "[" (PyData.shownAll xs) ++ "]" : Str) = true
    exact sok_app (sok_from _ _ _ (by decide +kernel) (say_oks xs h)) (by decide +kernel)
  | .tuple xs, h => by
    unfold sayOk at h
    show PyData.strOk (("(" : Str) ++ Str.join ", " (PyData.shownAll xs) ++ (if (PyData.shownAll xs).length == 1 then ",)" else ")" : String) : Str) = true
    refine sok_app (sok_app (by decide +kernel) (sok_join (by decide +kernel) (say_oks xs h))) ?_
    split <;> decide +kernel
  | .dict _, h => by unfold sayOk at h; cases h
theorem say_oks : ∀ xs : List D, sayOks xs = true → ∀ x ∈ PyData.shownAll xs, PyData.strOk x = true
  | [], _, x, hx => by cases hx
  | d :: xs, h, x, hx => by
    unfold sayOks at h
    rw [Bool.and_eq_true] at h
    rw [PyData.shownAll] at hx
    rcases List.mem_cons.mp hx with rfl | hx
    · exact say_ok d h.1
    · exact say_oks xs h.2 x hx
end
theorem say_ints : ∀ {ns : List Int}, (∀ i ∈ ns, -100 ≤ i ∧ i < 1000) → sayOks (ns.map .int) = true
  | [], _ => rfl
  | i :: ns, h => by
    rw [List.map_cons, sayOks, say_ints fun j hj => h j (List.mem_cons_of_mem _ hj), sayOk, decide_eq_true (h i List.mem_cons_self)]
    rfl
/-- two equal data have equal texts, and Python sees it -/
theorem repr_is {x : D} (h1 : wt x ≤ 100000) (h2 : shp x = true) (h3 : x.depth ≤ 60) : reprD [x] = some (.str x.shown) := (repr_same rfl (shows_of h1 h2 h3)).2
theorem ne_shown {x : D} (h : sayOk x = true) : neD (.str x.shown) (.str x.shown) = some (.bool false) := by
  rw [ne_ss (say_ok x h) (say_ok x h), decide_eq_true rfl]; rfl
theorem eq_shown {x : D} (h : sayOk x = true) : eqD (.str x.shown) (.str x.shown) = some (.bool true) := by
  rw [eq_ss (say_ok x h) (say_ok x h), decide_eq_true rfl]
theorem shp_of {d : D} (h : d.canLay0 = true) (k : d.depth ≤ 20) : shp d = true := by
  unfold shp SeqAt.shaped
  rw [Bool.and_eq_true]
  exact ⟨h, decide_eq_true (by omega)⟩
/-- data that repr can say: how long its text is at most, and how deep it is -/
structure Rp (w k : Nat) (d : D) : Prop where
  lay : d.canLay0 = true
  dep : d.depth ≤ k
  wt : wt d ≤ w
  say : sayOk d = true
structure Rps (n w k : Nat) (ds : List D) : Prop where
  lay : PyData.canLayAll0 ds = true
  dep : PyData.depthAll ds ≤ k
  wt : wts ds ≤ n * (w + 2)
  say : sayOks ds = true
theorem Rps.nil {n w k : Nat} : Rps n w k [] := ⟨rfl, Nat.zero_le _, Nat.zero_le _, rfl⟩
theorem Rps.cons {n w k : Nat} {d : D} {ds : List D} (h : Rp w k d) (hs : Rps n w k ds) : Rps (n + 1) w k (d :: ds) := by
  refine ⟨by rw [PyData.canLayAll0, h.lay, hs.lay]; rfl, ?_, ?_, by rw [sayOks, h.say, hs.say]; rfl⟩
  · rw [PyData.depthAll]; exact Nat.max_le.mpr ⟨h.dep, hs.dep⟩
  · rw [wts, Nat.succ_mul]
    have := h.wt
    have := hs.wt
    omega
theorem Rps.of {w k : Nat} : ∀ {ds : List D}, (∀ d ∈ ds, Rp w k d) → Rps ds.length w k ds
  | [], _ => .nil
  | d :: ds, h => .cons (h d (by simp)) (Rps.of fun x hx => h x (List.mem_cons_of_mem _ hx))
theorem Rps.tup {n w k : Nat} {ds : List D} (h : Rps n w k ds) : Rp (4 + n * (w + 2)) (k + 1) (.tuple ds) := by
  refine ⟨by rw [PyData.canLay0]; exact h.lay, ?_, ?_, by rw [sayOk]; exact h.say⟩
  · rw [PyData.depth]; have := h.dep; omega
  · rw [DL.wt]; have := h.wt; omega
theorem Rps.lst {n w k : Nat} {ds : List D} (h : Rps n w k ds) : Rp (4 + n * (w + 2)) (k + 1) (.list ds) := by
  refine ⟨by rw [PyData.canLay0]; exact h.lay, ?_, ?_, by rw [sayOk]; exact h.say⟩
  · rw [PyData.depth]; have := h.dep; omega
  · rw [DL.wt]; have := h.wt; omega
theorem Rp.mono {w k w' k' : Nat} {d : D} (h : Rp w k d) (hw : w ≤ w') (hk : k ≤ k') : Rp w' k' d := ⟨h.lay, Nat.le_trans h.dep hk, Nat.le_trans h.wt hw, h.say⟩
theorem Rp.int {i : Int} {k : Nat} (h : -100 ≤ i ∧ i < 1000) : Rp 5 k (.int i) := ⟨rfl, Nat.zero_le _, by rw [DL.wt, if_pos h]; omega, by rw [sayOk]; exact decide_eq_true h⟩
theorem Rp.bool {b : Bool} {k : Nat} : Rp 5 k (.bool b) := ⟨rfl, Nat.zero_le _, by rw [DL.wt]; omega, rfl⟩
theorem Rp.none {k : Nat} : Rp 5 k .none := ⟨rfl, Nat.zero_le _, by rw [DL.wt]; omega, rfl⟩
theorem Rp.str {x : Str} {w k : Nat} (h1 : PyData.strOk x = true) (h2 : PyData.strOk (reprText x) = true) (h3 : (reprText x).length ≤ w) : Rp w k (.str x) := ⟨by rw [PyData.canLay0]; exact h1, Nat.zero_le _, by rw [DL.wt]; exact h3, by rw [sayOk]; exact h2⟩
theorem Rp.ints {ns : List Int} {n : Nat} (h : ∀ i ∈ ns, -100 ≤ i ∧ i < 1000) (hl : ns.length ≤ n) : Rp (4 + n * 7) 1 (tupI ns) := by
  have := (Rps.of (w := 5) (k := 0) (ds := ns.map PyData.int) fun d hd => by obtain ⟨i, hi, rfl⟩ := List.mem_map.mp hd; exact Rp.int (h i hi)).tup
  rw [List.length_map] at this
  exact this.mono (by have := Nat.mul_le_mul_right 7 hl; omega) (Nat.le_refl _)
theorem Rp.shp {d : D} {w k : Nat} (h : Rp w k d) (hk : k ≤ 20) : shp d = true := shp_of h.lay (Nat.le_trans h.dep hk)
theorem Rp.repr {d : D} {w k : Nat} (h : Rp w k d) (hw : w ≤ 100000) (hk : k ≤ 20) : reprD [d] = some (.str d.shown) := repr_is (Nat.le_trans h.wt hw) (h.shp hk) (Nat.le_trans h.dep (by omega))
theorem Rp.ne {d : D} {w k : Nat} (h : Rp w k d) : neD (.str d.shown) (.str d.shown) = some (.bool false) := ne_shown h.say
theorem Rp.eq {d : D} {w k : Nat} (h : Rp w k d) : eqD (.str d.shown) (.str d.shown) = some (.bool true) := eq_shown h.say
end DL

/-! The functional layer: a def as a plain function of data and of a store of records; exceptions as results. -/
namespace FL
open PySem
open L2 hiding Dp DpAll
open DL (D Fg Ex Dp DpAll DpKv dp_ex dpa_ex dpk_ex Grow OpD UnD CallD CallL dpa_len dpa_get dpa_get' dpa_app dpa_rev dpa_erase dpa_take dpa_drop dpa_ints ints_dpa dpa_set dp_list dp_tuple dp_int dp_str dp_bool)

/-! ### the store -/
/-- what a field holds -/
inductive FV where
  | d (d : D) | ob (k : Nat)
/-- a record: a dict with texts as keys, an instance of a class -/
inductive RK where
  | dct | ins (c : Str)
structure Rec where
  k : RK
  fs : List (Str × FV)
abbrev Z := List Rec
/-- what is raised: its class, its field, the field's data -/
structure Xc where
  c : Str
  f : Str
  d : D
inductive Res (α : Type) where
  | bad
  | ok (a : α) (z : Z)
  | ex (x : Xc) (z : Z)
/-- what stands in a slot -/
inductive S where
  | d (d : D) | o (ds : List D) | ob (k : Nat) | r (v : V) | s (ns : List Int)
abbrev Sl := List (Option S)
inductive Out where
  | nx (ρ : Sl) | rt (s : S) | bk (ρ : Sl) | ct (ρ : Sl)

section
variable {α β γ : Type}
/-- the type of what comes after k: the name of k in it keeps simp from looking into k ahead of time -/
abbrev Bd (_ : α → Z → Res β) : Type := Res β
def Res.bind (r : Res α) (k : α → Z → Res β) : Bd k := match r with | .bad => .bad | .ok a z => k a z | .ex x z => .ex x z
theorem ok_bind {a : α} {z : Z} {k : α → Z → Res β} : (Res.ok a z).bind k = k a z := rfl
theorem bad_bind {k : α → Z → Res β} : (Res.bad : Res α).bind k = .bad := rfl
theorem ex_bind {x : Xc} {z : Z} {k : α → Z → Res β} : (Res.ex x z : Res α).bind k = .ex x z := rfl
theorem bind_bind {r : Res α} {k : α → Z → Res β} {l : β → Z → Res γ} : (r.bind k).bind l = r.bind fun a z => (k a z).bind l := by cases r <;> rfl
theorem Res.bind_congr {r r' : Res α} {k : α → Z → Res β} (h : r = r') : r.bind k = r'.bind k := by rw [h]
def ofO : Option α → Z → Res α | some a, z => .ok a z | none, _ => .bad
theorem ofO_some {a : α} {z : Z} : ofO (some a) z = .ok a z := rfl
theorem ofO_none {z : Z} : ofO (none : Option α) z = .bad := rfl
/-- a test within -/
def okIf (b : Bool) (r : Res α) : Res α := if b = true then r else .bad
theorem okIf_t {r : Res α} : okIf true r = r := rfl
theorem okIf_of {b : Bool} {r : Res α} (h : b = true) : okIf b r = r := by rw [h]; rfl
/-- a choice: neither way is looked at ahead of the test -/
def choose (b : Bool) (f g : Sl → Z → Res α) (ρ : Sl) (z : Z) : Res α := if b = true then f ρ z else g ρ z
theorem choose_t {f g : Sl → Z → Res α} {ρ : Sl} {z : Z} : choose true f g ρ z = f ρ z := rfl
theorem choose_f {f g : Sl → Z → Res α} {ρ : Sl} {z : Z} : choose false f g ρ z = g ρ z := rfl
theorem choose_congr {b b' : Bool} {f g : Sl → Z → Res α} {ρ ρ' : Sl} {z z' : Z} (h : b = b') (hx : ρ = ρ') (hz : z = z') : choose b f g ρ z = choose b' f g ρ' z' := by rw [h, hx, hz]
def Sat (r : Res α) (P : α → Z → Prop) (X : Xc → Z → Prop) : Prop := match r with | .bad => False | .ok a z => P a z | .ex x z => X x z
theorem sat_bind {r : Res α} {k : α → Z → Res β} {P : β → Z → Prop} {X : Xc → Z → Prop} : Sat (r.bind k) P X = Sat r (fun a z => Sat (k a z) P X) X := by cases r <;> rfl
theorem Sat.mono {r : Res α} {P Q : α → Z → Prop} {X Y : Xc → Z → Prop} (h : Sat r P X) (hp : ∀ a z, P a z → Q a z) (hx : ∀ x z, X x z → Y x z) : Sat r Q Y := by
  cases r <;> first | exact h | exact hp _ _ h | exact hx _ _ h
theorem Sat.imp {r : Res α} {P Q : α → Z → Prop} {X : Xc → Z → Prop} (h : Sat r P X) (hp : ∀ a z, P a z → Q a z) : Sat r Q X := h.mono hp fun _ _ x => x
theorem sat_ofO {o : Option α} {z : Z} {P : α → Z → Prop} {X : Xc → Z → Prop} (h : Sat (ofO o z) P X) : ∃ d, o = some d ∧ P d z := by
  cases o with
  | none => exact h.elim
  | some d => exact ⟨d, rfl, h⟩
theorem sat_okIf {b : Bool} {r : Res α} {P : α → Z → Prop} {X : Xc → Z → Prop} (h : Sat (okIf b r) P X) : b = true ∧ Sat r P X := by
  cases b with
  | false => exact h.elim
  | true => exact ⟨rfl, h⟩
theorem sat_choose {b : Bool} {f g : Sl → Z → Res α} {ρ : Sl} {z : Z} {P : α → Z → Prop} {X : Xc → Z → Prop} (h : Sat (choose b f g ρ z) P X) : if b = true then Sat (f ρ z) P X else Sat (g ρ z) P X := by
  cases b <;> exact h
end

/-! ### worlds: what is frozen, where the records lie -/
structure Kt where
  K : Fg
  mg : Str → Option Value
structure Wd where
  F : Hp
  mu : List Addr
def FVok (K : Fg) (w : Wd) (v : V) : FV → Prop
  | .d d => Dp K w.F v d
  | .ob k => ∃ a, w.mu[k]? = some a ∧ v = .ref a
def RecAt (κ : Kt) (w : Wd) (H : Hp) (a : Addr) : Rec → Prop
  | ⟨.dct, fs⟩ => ∃ kvs : List (Key × V), H a = some (.dK kvs) ∧ Paired (fun (p : Key × V) (q : Str × FV) => p.1 = .inr q.1 ∧ FVok κ.K w p.2 q.2) kvs fs
  | ⟨.ins c, fs⟩ => ∃ (C dx : Addr) (fvs : List (Str × V)), H a = some (.ins C dx fvs) ∧ κ.mg c = some (.ref C) ∧ Paired (fun (p : Str × V) (q : Str × FV) => p.1 = q.1 ∧ FVok κ.K w p.2 q.2) fvs fs
structure ZOk (κ : Kt) (w : Wd) (H : Hp) (z : Z) : Prop where
  len : w.mu.length = z.length
  nd : w.mu.Nodup
  at_ : ∀ (k : Nat) (a : Addr) (r : Rec), w.mu[k]? = some a → z[k]? = some r → w.F a = none ∧ RecAt κ w H a r
structure Le (w w' : Wd) : Prop where
  f : Ex w.F w'.F
  mu : w.mu <+: w'.mu
theorem Le.refl (w : Wd) : Le w w := ⟨Evl.Ex.refl _, List.prefix_refl _⟩
theorem Le.trans {w w1 w2 : Wd} (a : Le w w1) (b : Le w1 w2) : Le w w2 := ⟨a.f.trans b.f, a.mu.trans b.mu⟩
theorem pre_get {α : Type} {l l' : List α} (h : l <+: l') {k : Nat} {a : α} (e : l[k]? = some a) : l'[k]? = some a := by
  obtain ⟨t, rfl⟩ := h
  rw [List.getElem?_append_left (List.getElem?_eq_some_iff.mp e).1]; exact e
theorem fv_le {K : Fg} {w w' : Wd} (l : Le w w') : ∀ {v : V} {f : FV}, FVok K w v f → FVok K w' v f
  | _, .d _, h => dp_ex l.f _ _ h
  | _, .ob _, ⟨a, e, r⟩ => ⟨a, pre_get l.mu e, r⟩
/-- how world and heap go on -/
structure Go (w : Wd) (H : Hp) (w' : Wd) (H' : Hp) : Prop where
  le : Le w w'
  fh : Ex w'.F H'
  h : ∀ a o, a ∉ w.mu → H a = some o → H' a = some o
  dm : ∀ a, H' a = none → H a = none
  fr : ∀ a o, w'.F a = some o → w.F a = some o ∨ H a = none
  mr : ∀ a, a ∈ w'.mu → a ∈ w.mu ∨ H a = none
theorem Go.refl {w : Wd} {H : Hp} (e : Ex w.F H) : Go w H w H := ⟨Le.refl w, e, fun _ _ _ h => h, fun _ h => h, fun _ _ h => .inl h, fun _ h => .inl h⟩
theorem Go.trans {w w1 w2 : Wd} {H H1 H2 : Hp} (a : Go w H w1 H1) (b : Go w1 H1 w2 H2) : Go w H w2 H2 where
  le := a.le.trans b.le
  fh := b.fh
  h := fun c o n h => b.h c o (fun z => by
    rcases a.mr c z with y | y
    · exact n y
    · rw [y] at h; cases h) (a.h c o n h)
  dm := fun c h => a.dm c (b.dm c h)
  fr := fun c o h => by
    rcases b.fr c o h with h1 | h1
    · exact a.fr c o h1
    · exact .inr (a.dm c h1)
  mr := fun c h => by
    rcases b.mr c h with h1 | h1
    · exact a.mr c h1
    · exact .inr (a.dm c h1)
/-- growth that touches no record -/
theorem Go.of {w : Wd} {H F' H' : Hp} (g : Grow none w.F H F' H') : Go w H ⟨F', w.mu⟩ H' := ⟨⟨g.f, List.prefix_refl _⟩, g.fh, fun a o _ h => g.hx a o h, g.dm, g.fr, fun _ h => .inl h⟩

/-! ### slots, states -/
structure G where
  B : Hp
  w0 : Wd
def OwnAt (K : Fg) (w : Wd) (H : Hp) (l : Addr) : S → Prop
  | .o ds => ∃ xs, H l = some (.lst xs) ∧ DpAll K w.F xs ds
  | _ => False
def isOwn : S → Bool
  | .o _ => true
  | _ => false
structure Own (K : Fg) (g : G) (w : Wd) (H : Hp) (l : Addr) (s : S) : Prop where
  b : g.B l = none
  f : w.F l = none
  m : l ∉ w.mu
  at_ : OwnAt K w H l s
def SlotOk (κ : Kt) (g : G) (w : Wd) (H : Hp) (v : V) : S → Prop
  | .d d => Dp κ.K w.F v d
  | .o ds => ∃ l, v = .ref l ∧ Own κ.K g w H l (.o ds)
  | .ob k => ∃ a, w.mu[k]? = some a ∧ v = .ref a
  | .r u => v = u
  | .s ns => ∃ a, v = .ref a ∧ SqL κ.K w.F a (ns.map V.int)
structure SR (κ : Kt) (g : G) (w : Wd) (H : Hp) (σ : L2.St) (ρ : Sl) (z : Z) : Prop where
  gr : Go g.w0 g.B w H
  zo : ZOk κ w H z
  sl : ∀ (i : Nat) (s : S), ρ[i]? = some (some s) → ∃ v, σ[i]? = some (some v) ∧ SlotOk κ g w H v s
  inj : ∀ (i j : Nat) (l : Addr) (s t : S), ρ[i]? = some (some s) → ρ[j]? = some (some t) → isOwn s = true → isOwn t = true → σ[i]? = some (some (.ref l)) → σ[j]? = some (some (.ref l)) → i = j
  len : ρ.length = σ.length
section
variable {κ : Kt} {g : G} {w w' : Wd} {H H' : Hp} {σ : L2.St} {ρ : Sl} {z z' : Z}
theorem SR.ex (h : SR κ g w H σ ρ z) : Ex w.F H := h.gr.fh
theorem ownAt_go {K : Fg} {l : Addr} {s : S} (go : Go w H w' H') (m : l ∉ w.mu) (h : OwnAt K w H l s) : OwnAt K w' H' l s := by
  cases s <;> try exact h.elim
  obtain ⟨xs, hl, da⟩ := h
  exact ⟨xs, go.h l _ m hl, dpa_ex go.le.f _ _ da⟩
theorem ownAt_some {K : Fg} {l : Addr} {s : S} (h : OwnAt K w H l s) : ∃ o, H l = some o := by
  cases s <;> try exact h.elim
  obtain ⟨xs, hl, _⟩ := h
  exact ⟨_, hl⟩
theorem Own.go {l : Addr} {s : S} {K : Fg} (h : Own K g w H l s) (go : Go w H w' H') : Own K g w' H' l s := by
  obtain ⟨o, ho⟩ := ownAt_some h.at_
  refine ⟨h.b, ?_, fun y => ?_, ownAt_go go h.m h.at_⟩
  · cases q : w'.F l with
    | none => rfl
    | some u =>
      rcases go.fr l u q with y | y
      · rw [h.f] at y; cases y
      · rw [ho] at y; cases y
  · rcases go.mr l y with y | y
    · exact h.m y
    · rw [ho] at y; cases y
/-- world and heap have gone on -/
theorem slot_go {v : V} {s : S} (sr : Go g.w0 g.B w H) (go : Go w H w' H') (ok : SlotOk κ g w H v s) : SlotOk κ g w' H' v s := by
  cases s with
  | d d => exact dp_ex go.le.f _ _ ok
  | ob k => obtain ⟨a, e, r⟩ := ok; exact ⟨a, pre_get go.le.mu e, r⟩
  | r u => exact ok
  | s ns => obtain ⟨a, e, h1⟩ := ok; exact ⟨a, e, Evl.ex_l go.le.f h1⟩
  | o ds => obtain ⟨l, e, ow⟩ := ok; exact ⟨l, e, ow.go go⟩
theorem SR.go (h : SR κ g w H σ ρ z) (go : Go w H w' H') (zo : ZOk κ w' H' z') : SR κ g w' H' σ ρ z' := by
  refine ⟨h.gr.trans go, zo, fun i s e => ?_, h.inj, h.len⟩
  obtain ⟨v, hv, ok⟩ := h.sl i s e
  exact ⟨v, hv, slot_go h.gr go ok⟩
theorem rec_grow {F' : Hp} {a : Addr} {r : Rec} (gr : Grow none w.F H F' H') (h : RecAt κ w H a r) : RecAt κ ⟨F', w.mu⟩ H' a r := by
  have l : Le w ⟨F', w.mu⟩ := ⟨gr.f, List.prefix_refl _⟩
  obtain ⟨k, fs⟩ := r
  cases k with
  | dct =>
    obtain ⟨kvs, h1, h2⟩ := h
    exact ⟨kvs, gr.hx _ _ h1, Paired.mapP h2 fun _ _ q => ⟨q.1, fv_le l q.2⟩⟩
  | ins c =>
    obtain ⟨C, dx, fvs, h1, h2, h3⟩ := h
    exact ⟨C, dx, fvs, gr.hx _ _ h1, h2, Paired.mapP h3 fun _ _ q => ⟨q.1, fv_le l q.2⟩⟩
theorem rec_some {a : Addr} {r : Rec} (h : RecAt κ w H a r) : ∃ o, H a = some o := by
  obtain ⟨k, fs⟩ := r
  cases k with
  | dct => obtain ⟨kvs, h1, h2⟩ := h; exact ⟨_, h1⟩
  | ins c => obtain ⟨C, dx, fvs, h1, h2, h3⟩ := h; exact ⟨_, h1⟩
theorem ZOk.grow {F' : Hp} (h : ZOk κ w H z) (gr : Grow none w.F H F' H') : ZOk κ ⟨F', w.mu⟩ H' z := by
  refine ⟨h.len, h.nd, fun k a r e1 e2 => ?_⟩
  obtain ⟨f, ra⟩ := h.at_ k a r e1 e2
  refine ⟨?_, rec_grow gr ra⟩
  obtain ⟨o, ho⟩ := rec_some ra
  cases q : F' a with
  | none => exact q
  | some u =>
    rcases gr.fr a u q with y | y
    · rw [f] at y; cases y
    · rw [ho] at y; cases y
theorem SR.grow {F' : Hp} (h : SR κ g w H σ ρ z) (gr : Grow none w.F H F' H') : SR κ g ⟨F', w.mu⟩ H' σ ρ z := h.go (Go.of gr) (h.zo.grow gr)
theorem le_grow {F' : Hp} (gr : Grow none w.F H F' H') : Le w ⟨F', w.mu⟩ := ⟨gr.f, List.prefix_refl _⟩
/-- a slot is given a value -/
theorem SR.set (h : SR κ g w H σ ρ z) {i : Nat} {v : V} {s : S} (ok : SlotOk κ g w H v s) (ns : isOwn s = true → ∀ l, v = .ref l → ∀ (j : Nat) (t : S), j ≠ i → isOwn t = true → ρ[j]? = some (some t) → σ[j]? ≠ some (some (.ref l))) :
    SR κ g w H (σ.set i (some v)) (ρ.set i (some s)) z := by
  refine ⟨h.gr, h.zo, fun j s' e => ?_, fun j k l s1 s2 e1 e2 o1 o2 f1 f2 => ?_, by rw [List.length_set, List.length_set, h.len]⟩
  · by_cases c : j = i
    · subst c
      by_cases hl : j < ρ.length
      · rw [List.getElem?_set_self hl] at e
        cases e
        exact ⟨v, List.getElem?_set_self (h.len ▸ hl), ok⟩
      · rw [List.getElem?_eq_none (by rw [List.length_set]; omega)] at e; cases e
    · rw [List.getElem?_set_ne (Ne.symm c)] at e
      rw [List.getElem?_set_ne (Ne.symm c)]
      exact h.sl j s' e
  · by_cases cj : j = i <;> by_cases ck : k = i
    · rw [cj, ck]
    · subst cj
      rw [List.getElem?_set_ne (Ne.symm ck)] at e2 f2
      have hl : j < ρ.length := by
        by_cases hl : j < ρ.length
        · exact hl
        · rw [List.getElem?_eq_none (by rw [List.length_set]; omega)] at e1; cases e1
      rw [List.getElem?_set_self hl] at e1
      rw [List.getElem?_set_self (h.len ▸ hl)] at f1
      cases e1; cases f1
      exact absurd f2 (ns o1 l rfl k s2 ck o2 e2)
    · subst ck
      rw [List.getElem?_set_ne (Ne.symm cj)] at e1 f1
      have hl : k < ρ.length := by
        by_cases hl : k < ρ.length
        · exact hl
        · rw [List.getElem?_eq_none (by rw [List.length_set]; omega)] at e2; cases e2
      rw [List.getElem?_set_self hl] at e2
      rw [List.getElem?_set_self (h.len ▸ hl)] at f2
      cases e2; cases f2
      exact absurd f1 (ns o2 l rfl j s1 cj o1 e1)
    · rw [List.getElem?_set_ne (Ne.symm cj)] at e1 f1
      rw [List.getElem?_set_ne (Ne.symm ck)] at e2 f2
      exact h.inj j k l s1 s2 e1 e2 o1 o2 f1 f2
theorem SR.setN (h : SR κ g w H σ ρ z) {i : Nat} {v : V} {s : S} (no : isOwn s = false) (ok : SlotOk κ g w H v s) : SR κ g w H (σ.set i (some v)) (ρ.set i (some s)) z :=
  h.set ok fun y => by rw [no] at y; cases y
theorem SR.setD (h : SR κ g w H σ ρ z) {i : Nat} {v : V} {d : D} (ok : Dp κ.K w.F v d) : SR κ g w H (σ.set i (some v)) (ρ.set i (some (.d d))) z := h.setN (s := .d d) rfl ok
/-- a slot is forgotten -/
theorem SR.forget (h : SR κ g w H σ ρ z) {i : Nat} {v : Option V} : SR κ g w H (σ.set i v) (ρ.set i none) z := by
  have key : ∀ (j : Nat) (s : S), (ρ.set i none)[j]? = some (some s) → j ≠ i ∧ ρ[j]? = some (some s) := fun j s e => by
    by_cases c : j = i
    · subst c
      by_cases hl : j < ρ.length
      · rw [List.getElem?_set_self hl] at e; cases e
      · rw [List.getElem?_eq_none (by rw [List.length_set]; omega)] at e; cases e
    · rw [List.getElem?_set_ne (Ne.symm c)] at e; exact ⟨c, e⟩
  refine ⟨h.gr, h.zo, fun j s' e => ?_, fun j k l s1 s2 e1 e2 o1 o2 f1 f2 => ?_, by rw [List.length_set, List.length_set, h.len]⟩
  · obtain ⟨c, e'⟩ := key j s' e
    rw [List.getElem?_set_ne (Ne.symm c)]
    exact h.sl j s' e'
  · obtain ⟨c1, e1'⟩ := key j _ e1
    obtain ⟨c2, e2'⟩ := key k _ e2
    rw [List.getElem?_set_ne (Ne.symm c1)] at f1
    rw [List.getElem?_set_ne (Ne.symm c2)] at f2
    exact h.inj j k l s1 s2 e1' e2' o1 o2 f1 f2
/-- an object that none knows of is changed -/
theorem SR.updFree (h : SR κ g w H σ ρ z) {p : Addr} {o0 o : HO} (hp : H p = some o0) (fp : w.F p = none) (bp : g.B p = none) (mp : p ∉ w.mu) (no : ∀ (i : Nat) (s : S), ρ[i]? = some (some s) → isOwn s = true → σ[i]? ≠ some (some (.ref p))) : SR κ g w (upd H p o) σ ρ z := by
  have hx : ∀ {a : Addr} {u : HO}, a ≠ p → H a = some u → upd H p o a = some u := fun {a u} n e => by rw [upd_ne n]; exact e
  refine ⟨⟨h.gr.le, fun a u e => hx (fun y => by rw [y, fp] at e; cases e) (h.gr.fh a u e), fun a u n e => hx (fun y => by rw [y, bp] at e; cases e) (h.gr.h a u n e), fun a e => ?_, h.gr.fr, h.gr.mr⟩, ⟨h.zo.len, h.zo.nd, fun k a r e1 e2 => ?_⟩, fun i s e => ?_, h.inj, h.len⟩
  · by_cases c : a = p
    · subst c; rw [upd_same] at e; cases e
    · rw [upd_ne c] at e; exact h.gr.dm a e
  · obtain ⟨f, ra⟩ := h.zo.at_ k a r e1 e2
    have ne : a ≠ p := fun y => mp (y ▸ List.mem_of_getElem? e1)
    refine ⟨f, ?_⟩
    obtain ⟨rk, fs⟩ := r
    cases rk with
    | dct =>
      obtain ⟨kvs, h1, h2⟩ := ra
      exact ⟨kvs, hx ne h1, h2⟩
    | ins c =>
      obtain ⟨C, dx, fvs, h1, h2, h3⟩ := ra
      exact ⟨C, dx, fvs, hx ne h1, h2, h3⟩
  · obtain ⟨v, hv, ok⟩ := h.sl i s e
    refine ⟨v, hv, ?_⟩
    cases s with
    | d d => exact ok
    | ob k => exact ok
    | r u => exact ok
    | s ns => exact ok
    | o ds =>
      obtain ⟨l, rfl, ow⟩ := ok
      have ne : l ≠ p := fun y => no i _ e rfl (y ▸ hv)
      obtain ⟨xs, hl, da⟩ := ow.at_
      exact ⟨l, rfl, ow.b, ow.f, ow.m, xs, hx ne hl, da⟩
/-- a place that none knows of -/
structure Free (g : G) (w : Wd) (σ : L2.St) (ρ : Sl) (p : Addr) : Prop where
  f : w.F p = none
  b : g.B p = none
  m : p ∉ w.mu
  no : ∀ (i : Nat) (s : S), ρ[i]? = some (some s) → isOwn s = true → σ[i]? ≠ some (some (.ref p))
theorem mu_some (h : ZOk κ w H z) {a : Addr} (e : a ∈ w.mu) : ∃ o, H a = some o := by
  obtain ⟨k, hk⟩ := List.getElem?_of_mem e
  have : k < z.length := by rw [← h.len]; exact (List.getElem?_eq_some_iff.mp hk).1
  obtain ⟨_, ra⟩ := h.at_ k a _ hk (List.getElem?_eq_getElem this)
  exact rec_some ra
theorem Free.of (h : SR κ g w H σ ρ z) {p : Addr} (hp : H p = none) : Free g w σ ρ p := by
  refine ⟨Evl.fresh_back h.ex hp, h.gr.dm p hp, fun y => ?_, fun i s e o y => ?_⟩
  · obtain ⟨o, ho⟩ := mu_some h.zo y
    rw [hp] at ho; cases ho
  · obtain ⟨v, hv, ok⟩ := h.sl i s e
    cases s <;> try cases o
    obtain ⟨l, rfl, ow⟩ := ok
    rw [y] at hv
    cases hv
    obtain ⟨u, hu⟩ := ownAt_some ow.at_
    rw [hp] at hu; cases hu
theorem Free.go {p : Addr} {o : HO} (h : Free g w σ ρ p) (hp : H p = some o) (go : Go w H w' H') : Free g w' σ ρ p := by
  refine ⟨?_, h.b, fun y => ?_, h.no⟩
  · cases q : w'.F p with
    | none => rfl
    | some u =>
      rcases go.fr p u q with y | y
      · rw [h.f] at y; cases y
      · rw [hp] at y; cases y
  · rcases go.mr p y with y | y
    · exact h.m y
    · rw [hp] at y; cases y
end
end FL

namespace FL
open PySem
open L2 hiding Dp DpAll
open DL (D Fg Ex Dp DpAll DpKv dp_ex dpa_ex dpk_ex Grow OpD UnD CallD CallL dpa_len dpa_get dpa_get' dpa_app dpa_rev dpa_erase dpa_take dpa_drop dpa_ints ints_dpa dpa_set dp_list dp_tuple dp_int dp_str dp_bool)
/-! ### the judgements -/
abbrev kt (X : Cx) : Kt := ⟨X.K, X.mg⟩
def Pay (K : Fg) (w : Wd) (H : Hp) (od : Option Addr) (x : Xc) : Prop := (x.f = "" ∧ od = none) ∨ ∃ dx v, od = some dx ∧ H dx = some (.xd [(x.f, v)]) ∧ Dp K w.F v x.d
def XE1 (κ : Kt) (g : G) (W : WX) (σ : L2.St) (ρ : Sl) : Xc → Z → Prop := fun x z' => ∀ cls od w' H', κ.mg x.c = some cls → Pay κ.K w' H' od x → SR κ g w' H' σ ρ z' → W cls od σ H'
def XS (κ : Kt) (g : G) (W : WX) : Xc → Z → Prop := fun x z' => ∀ cls od w' H' σ ρ, κ.mg x.c = some cls → Pay κ.K w' H' od x → SR κ g w' H' σ ρ z' → W cls od σ H'
theorem xs1 {κ : Kt} {g : G} {W : WX} {σ : L2.St} {ρ : Sl} {x : Xc} {z : Z} (h : XS κ g W x z) : XE1 κ g W σ ρ x z := fun cls od w' H' a b c => h cls od w' H' σ ρ a b c
abbrev FX := Sl → Z → Res D
abbrev FT := Sl → Z → Res Bool
abbrev FLs := Sl → Z → Res (List D)
abbrev FA := Sl → Z → Res (List S)
abbrev FO := Sl → Z → Res (Option Int)
abbrev FB := Sl → Z → Res Nat
abbrev FG := D → Sl → Option Sl
abbrev FGs := List D → Sl → Option Sl
abbrev FS := Sl → Z → Res Out
def ArgOk (κ : Kt) (w : Wd) (v : V) : S → Prop
  | .d d => Dp κ.K w.F v d
  | .ob k => ∃ a, w.mu[k]? = some a ∧ v = .ref a
  | .r u => v = u
  | .s ns => ∃ a, v = .ref a ∧ SqL κ.K w.F a (ns.map V.int)
  | .o _ => False
def ArgsOk (κ : Kt) (w : Wd) : List V → List S → Prop
  | [], [] => True
  | v :: vs, s :: ss => ArgOk κ w v s ∧ ArgsOk κ w vs ss
  | _, _ => False
def SE (κ : Kt) (g : G) (W : WX) (te : TE) (f : FX) : Prop := ∀ σ w H ρ z (Q : VK), SR κ g w H σ ρ z → Sat (f ρ z) (fun d z' => ∀ v w' H', Go w H w' H' → SR κ g w' H' σ ρ z' → Dp κ.K w'.F v d → Q v H') (XE1 κ g W σ ρ) → te σ H Q
def SB (κ : Kt) (g : G) (W : WX) (te : TT) (f : FT) : Prop := ∀ σ w H ρ z (Q : Bool → Hp → Prop), SR κ g w H σ ρ z → Sat (f ρ z) (fun b z' => ∀ w' H', Go w H w' H' → SR κ g w' H' σ ρ z' → Q b H') (XE1 κ g W σ ρ) → te σ H Q
def SL (κ : Kt) (g : G) (W : WX) (te : TE) (f : FLs) : Prop := ∀ σ w H ρ z (Q : VK), SR κ g w H σ ρ z → Sat (f ρ z) (fun ds z' => ∀ p xs w' H', Go w H w' H' → SR κ g w' H' σ ρ z' → Free g w' σ ρ p → H p = none → H' p = some (.lst xs) → DpAll κ.K w'.F xs ds → Q (.ref p) H') (XE1 κ g W σ ρ) → te σ H Q
def SA (κ : Kt) (g : G) (W : WX) (te : TA) (f : FA) : Prop := ∀ σ w H ρ z (Q : List V → Hp → Prop), SR κ g w H σ ρ z → Sat (f ρ z) (fun ss z' => ∀ vs w' H', Go w H w' H' → SR κ g w' H' σ ρ z' → ArgsOk κ w' vs ss → Q vs H') (XE1 κ g W σ ρ) → te σ H Q
/-- arguments that are data -/
def SD (κ : Kt) (g : G) (W : WX) (te : TA) (f : FLs) : Prop := ∀ σ w H ρ z (Q : List V → Hp → Prop), SR κ g w H σ ρ z → Sat (f ρ z) (fun ds z' => ∀ vs w' H', Go w H w' H' → SR κ g w' H' σ ρ z' → DpAll κ.K w'.F vs ds → Q vs H') (XE1 κ g W σ ρ) → te σ H Q
def SO (κ : Kt) (g : G) (W : WX) (te : TO) (f : FO) : Prop := ∀ σ w H ρ z (Q : Option Int → Hp → Prop), SR κ g w H σ ρ z → Sat (f ρ z) (fun i z' => ∀ w' H', Go w H w' H' → SR κ g w' H' σ ρ z' → Q i H') (XE1 κ g W σ ρ) → te σ H Q
/-- an object -/
def SOb (κ : Kt) (g : G) (W : WX) (te : TE) (f : FB) : Prop := ∀ σ w H ρ z (Q : VK), SR κ g w H σ ρ z → Sat (f ρ z) (fun k z' => ∀ a w' H', Go w H w' H' → SR κ g w' H' σ ρ z' → w'.mu[k]? = some a → Q (.ref a) H') (XE1 κ g W σ ρ) → te σ H Q
/-- what a def hands back -/
def ValOk (κ : Kt) (w : Wd) (v : V) : S → Prop
  | .d d => Dp κ.K w.F v d
  | .ob k => ∃ a, w.mu[k]? = some a ∧ v = .ref a
  | .r u => v = u
  | _ => False
def OutOk (κ : Kt) (g : G) (w : Wd) (D : Ends) : Out → Z → Prop
  | .nx ρ', z' => ∀ σ' w' H', Le w w' → SR κ g w' H' σ' ρ' z' → D.nx σ' H'
  | .bk ρ', z' => ∀ σ' w' H', Le w w' → SR κ g w' H' σ' ρ' z' → D.bk σ' H'
  | .ct ρ', z' => ∀ σ' w' H', Le w w' → SR κ g w' H' σ' ρ' z' → D.ct σ' H'
  | .rt s, z' => ∀ σ' ρ' v w' H', SR κ g w' H' σ' ρ' z' → ValOk κ w' v s → D.rt v H'
def SS (κ : Kt) (g : G) (W : WX) (te : TS) (f : FS) : Prop := ∀ σ w H ρ z (D : Ends), SR κ g w H σ ρ z → Sat (f ρ z) (OutOk κ g w D) (XS κ g W) → te D σ H
/-- the slots is are set -/
structure But (is : List Nat) (σ σ' : L2.St) (ρ ρ' : Sl) : Prop where
  a : ∀ i, i ∉ is → σ'[i]? = σ[i]?
  len : ρ'.length = ρ.length
def SG (κ : Kt) (g : G) (tg : TG) (f : FG) : Prop := ∀ v σ w H d ρ z (Q : L2.St → Hp → Prop) ρ', SR κ g w H σ ρ z → Dp κ.K w.F v d → f d ρ = some ρ' → (∀ σ', SR κ g w H σ' ρ' z → Q σ' H) → tg v σ H Q

structure E (X : Cx) (W : WX) (g : G) (e : Expr) (f : FX) : Prop where
  ok : ∃ te, PE X e te ∧ SE (kt X) g W te f
structure B (X : Cx) (W : WX) (g : G) (e : Expr) (f : FT) : Prop where
  ok : ∃ te, PT X e te ∧ SB (kt X) g W te f
structure Wh (X : Cx) (W : WX) (g : G) (e : Expr) (f : FT) : Prop where
  ok : ∃ te, PW X e te ∧ SB (kt X) g W te f
structure Ls (X : Cx) (W : WX) (g : G) (e : Expr) (f : FLs) : Prop where
  ok : ∃ te, PE X e te ∧ SL (kt X) g W te f
structure Ob (X : Cx) (W : WX) (g : G) (e : Expr) (f : FB) : Prop where
  ok : ∃ te, PE X e te ∧ SOb (kt X) g W te f
structure A (X : Cx) (W : WX) (g : G) (es : List Expr) (f : FA) : Prop where
  ok : ∃ te, PA X es te ∧ SA (kt X) g W te f
structure Da (X : Cx) (W : WX) (g : G) (es : List Expr) (f : FLs) : Prop where
  ok : ∃ te, PA X es te ∧ SD (kt X) g W te f
structure St (X : Cx) (W : WX) (g : G) (s : Stmt) (f : FS) : Prop where
  ok : ∃ te, PS X s te ∧ SS (kt X) g W te f
structure Sts (X : Cx) (W : WX) (g : G) (s : List Stmt) (f : FS) : Prop where
  ok : ∃ te, PSs X s te ∧ SS (kt X) g W te f

section
variable {X : Cx} {W : WX} {g : G} {a b c e : Expr} {es : List Expr} {fa fb fc f : FX} {pos : Pos} {κ : Kt}
/-! ### names, constants -/
def asD : S → Z → Res D
  | .d d, z => .ok d z
  | _, _ => .bad
def slotD : Sl → Nat → Z → Res D
  | [], _, _ => .bad
  | none :: _, 0, _ => .bad
  | some s :: _, 0, z => asD s z
  | _ :: ρ, i + 1, z => slotD ρ i z
theorem slotD_0 {s : S} {ρ : Sl} {z : Z} : slotD (some s :: ρ) 0 z = asD s z := rfl
theorem slotD_s {s : Option S} {ρ : Sl} {i : Nat} {z : Z} : slotD (s :: ρ) (i + 1) z = slotD ρ i z := by cases s <;> rfl
theorem asD_d {d : D} {z : Z} : asD (.d d) z = .ok d z := rfl
theorem slotD_eq : ∀ {ρ : Sl} {i : Nat} {z : Z} {P : D → Z → Prop} {Y : Xc → Z → Prop}, Sat (slotD ρ i z) P Y → ∃ d, ρ[i]? = some (some (.d d)) ∧ P d z
  | [], _, _, _, _, h => h.elim
  | none :: _, 0, _, _, _, h => h.elim
  | some s :: _, 0, z, P, Y, h => by
    have h : Sat (asD s z) P Y := h
    cases s <;> first | exact h.elim | exact ⟨_, rfl, h⟩
  | s :: ρ, i + 1, z, P, Y, h => by
    rw [slotD_s] at h
    obtain ⟨d, e, p⟩ := slotD_eq (ρ := ρ) (i := i) h
    exact ⟨d, by simpa using e, p⟩
def fVar (i : Nat) : FX := fun ρ z => slotD ρ i z
theorem e_var (i : Nat) {x : Str} (hN : X.N[i]? = some x := by rfl) (hv : Vis X.env.scope x := by first | exact Or.inl rfl | exact Or.inr (Or.inl rfl) | exact Or.inr (Or.inr rfl)) (hd : (x == ("__debug__" : Str)) = false := by decide)
    (hcd : (x == ("__classdict__" : Str)) = false := by decide) : E X W g (.Name x pos) (fVar i) :=
  ⟨_, pe_var hN hv hd hcd, fun σ w H ρ z Q sr h => by
    obtain ⟨d, e, p⟩ := slotD_eq h
    obtain ⟨v, hv, ok⟩ := sr.sl i _ e
    exact ⟨v, hv, p v w H (Go.refl sr.ex) sr ok⟩⟩
def fC (d : D) : FX := fun _ z => .ok d z
theorem e_int {i : Int} {j} : E X W g (.Constant (.int i) j pos) (fC (.int i)) := ⟨_, pe_int, fun σ w H ρ z Q sr p => p _ w H (Go.refl sr.ex) sr (.int i)⟩
theorem e_bl {i : Bool} {j} : E X W g (.Constant (.bool i) j pos) (fC (.bool i)) := ⟨_, pe_bl, fun σ w H ρ z Q sr p => p _ w H (Go.refl sr.ex) sr (.bl i)⟩
theorem e_non {j} : E X W g (.Constant .none j pos) (fC .none) := ⟨_, pe_non, fun σ w H ρ z Q sr p => p _ w H (Go.refl sr.ex) sr .non⟩
theorem e_str {i : Str} {j} : E X W g (.Constant (.str i) j pos) (fC (.str i)) := ⟨_, pe_str, fun σ w H ρ z Q sr p => p _ w H (Go.refl sr.ex) sr (.str i)⟩
theorem e_const {x : Str} {d : D} (h : DL.Cst X.K X.mg x d) (hg : Gl X x) (hdb : (x == ("__debug__" : Str)) = false := by decide) : E X W g (.Name x pos) (fC d) := by
  obtain ⟨v, u, hm, r, hd⟩ := h
  exact ⟨_, pe_glob hg hm r hdb, fun σ w H ρ z Q sr p => p _ w H (Go.refl sr.ex) sr (hd w.F)⟩

/-! ### operators by data -/
def fBin (h : D → D → Option D) (fa fb : FX) : FX := fun ρ z => (fa ρ z).bind fun x z => (fb ρ z).bind fun y z => ofO (h x y) z
def fUn (h : D → Option D) (fa : FX) : FX := fun ρ z => (fa ρ z).bind fun x z => ofO (h x) z
theorem se_op {te te' : TE} {r : R2} {h : D → D → Option D} (ho : OpD κ.K r h) (ha : SE κ g W te fa) (hb : SE κ g W te' fb) : SE κ g W (tOp r te te') (fBin h fa fb) := fun σ w H ρ z Q sr p => by
  unfold fBin at p
  rw [sat_bind] at p
  refine ha σ w H ρ z _ sr (p.imp fun x z1 p v1 w1 H1 l1 sr1 d1 => ?_)
  rw [sat_bind] at p
  refine hb σ w1 H1 ρ z1 _ sr1 (p.imp fun y z2 p v2 w2 H2 l2 sr2 d2 => ?_)
  obtain ⟨d, e, p⟩ := sat_ofO p
  exact ho w2.F H2 v1 v2 x y d Q sr2.ex (dp_ex l2.le.f _ _ d1) d2 e fun v F3 H3 gr dv => p v _ H3 ((l1.trans l2).trans (Go.of gr)) (sr2.grow gr) dv
theorem e_op {op : Operator} {r : R2} {h : D → D → Option D} (ho : OpR X (binaryOp op) r) (hd : OpD X.K r h) (ha : E X W g a fa) (hb : E X W g b fb) : E X W g (.BinOp a op b pos) (fBin h fa fb) := by
  obtain ⟨te, p1, s1⟩ := ha
  obtain ⟨te', p2, s2⟩ := hb
  exact ⟨_, pe_op ho p1 p2, se_op hd s1 s2⟩
theorem e_cmpR {op : CmpOp} {r : R2} {h : D → D → Option D} (ho : OpR X (compareOp op) r) (hd : OpD X.K r h) (ha : E X W g a fa) (hb : E X W g b fb) (hm : behindInMarks op b = false) : E X W g (.Compare a [op] [b] pos) (fBin h fa fb) := by
  obtain ⟨te, p1, s1⟩ := ha
  obtain ⟨te', p2, s2⟩ := hb
  exact ⟨_, pe_cmpR ho p1 p2 hm, se_op hd s1 s2⟩
theorem e_un {op : UnaryOp} {r : V → Hp → VK → Prop} {h : D → Option D} (ho : UnR X (unaryOp op) r) (hd : UnD X.K r h) (ha : E X W g a fa) : E X W g (.UnaryOp op a pos) (fUn h fa) := by
  obtain ⟨te, p1, s1⟩ := ha
  refine ⟨_, pe_un ho p1, fun σ w H ρ z Q sr p => ?_⟩
  unfold fUn at p
  rw [sat_bind] at p
  refine s1 σ w H ρ z _ sr (p.imp fun x z1 p v1 w1 H1 l1 sr1 d1 => ?_)
  obtain ⟨d, e, p⟩ := sat_ofO p
  exact hd w1.F H1 v1 x d Q sr1.ex d1 e fun v F3 H3 gr dv => p v _ H3 (l1.trans (Go.of gr)) (sr1.grow gr) dv
def asB : D → Z → Res Bool | .bool b, z => .ok b z | _, _ => .bad
theorem asB_b {b : Bool} {z : Z} : asB (.bool b) z = .ok b z := rfl
theorem sat_asB {d : D} {z : Z} {P : Bool → Z → Prop} {Y : Xc → Z → Prop} (h : Sat (asB d z) P Y) : ∃ b, d = .bool b ∧ P b z := by
  cases d <;> first | exact h.elim | exact ⟨_, rfl, h⟩
/-- a < b < c -/
def fChain (h h' : D → D → Option D) (fa fb fc : FX) : FX := fun ρ z => (fa ρ z).bind fun x z => (fb ρ z).bind fun y z => (ofO (h x y) z).bind fun q z => (asB q z).bind fun b z => choose b (fun ρ z => (fc ρ z).bind fun w z => ofO (h' y w) z) (fun _ z => .ok (.bool false) z) ρ z
theorem se_chain {te te' te2 : TE} {r r' : R2} {h h' : D → D → Option D} (ho : OpD κ.K r h) (ho' : OpD κ.K r' h') (s1 : SE κ g W te fa) (s2 : SE κ g W te' fb) (s3 : SE κ g W te2 fc) : SE κ g W (tChain r r' te te' te2) (fChain h h' fa fb fc) := fun σ w H ρ z Q sr p => by
  unfold fChain at p
  rw [sat_bind] at p
  refine s1 σ w H ρ z _ sr (p.imp fun x z1 p v1 w1 H1 l1 sr1 d1 => ?_)
  rw [sat_bind] at p
  refine s2 σ w1 H1 ρ z1 _ sr1 (p.imp fun y z2 p v2 w2 H2 l2 sr2 d2 => ?_)
  rw [sat_bind] at p
  obtain ⟨q, e, p⟩ := sat_ofO p
  rw [sat_bind] at p
  obtain ⟨t, rfl, p⟩ := sat_asB p
  refine ho w2.F H2 v1 v2 x y _ _ sr2.ex (dp_ex l2.le.f _ _ d1) d2 e fun v F3 H3 gr dv => ?_
  cases dv
  refine ⟨t, rfl, ?_⟩
  cases t with
  | false =>
    rw [if_neg Bool.false_ne_true]
    exact p _ _ H3 ((l1.trans l2).trans (Go.of gr)) (sr2.grow gr) (.bl false)
  | true =>
    rw [if_pos rfl]
    have p : Sat ((fc ρ z2).bind fun w z => ofO (h' y w) z) _ _ := p
    rw [sat_bind] at p
    refine s3 σ _ H3 ρ z2 _ (sr2.grow gr) (p.imp fun u z3 p v4 w4 H4 l4 sr4 d4 => ?_)
    obtain ⟨d, e4, p⟩ := sat_ofO p
    exact ho' w4.F H4 v2 v4 y u d Q sr4.ex (dp_ex ((Go.of gr).trans l4).le.f _ _ d2) d4 e4 fun v F5 H5 gr5 dv => p v _ H5 ((((l1.trans l2).trans (Go.of gr)).trans l4).trans (Go.of gr5)) (sr4.grow gr5) dv
theorem e_chain {op op' : CmpOp} {r r' : R2} {h h' : D → D → Option D} (ho : OpR X (compareOp op) r) (hd : OpD X.K r h) (ho' : OpR X (compareOp op') r') (hd' : OpD X.K r' h') (ha : E X W g a fa) (hb : E X W g b fb) (hc : E X W g c fc)
    (hm : lastMarks [op, op'] [b, c] = false := by rfl) : E X W g (.Compare a [op, op'] [b, c] pos) (fChain h h' fa fb fc) := by
  obtain ⟨te, p1, s1⟩ := ha
  obtain ⟨te', p2, s2⟩ := hb
  obtain ⟨te2, p3, s3⟩ := hc
  exact ⟨_, pe_chain ho ho' p1 p2 p3 hm, se_chain hd hd' s1 s2 s3⟩

/-! ### tests -/
def fVal (fa : FX) : FT := fun ρ z => (fa ρ z).bind asB
theorem sb_val {te : TE} {tt : TT} (ht : ∀ σ H Q, te σ H (fun x H' => ∃ k, x = .bl k ∧ Q k H') → tt σ H Q) (s1 : SE κ g W te fa) : SB κ g W tt (fVal fa) := fun σ w H ρ z Q sr p => by
  unfold fVal at p
  rw [sat_bind] at p
  refine ht σ H Q (s1 σ w H ρ z _ sr (p.imp fun x z1 p v1 w1 H1 l1 sr1 d1 => ?_))
  obtain ⟨t, rfl, p⟩ := sat_asB p
  cases d1
  exact ⟨t, rfl, p w1 H1 l1 sr1⟩
theorem b_val (h : E X W g e f) (hs : ∀ whole, isTrue e X.env whole = (do let v ← whole; standAt e.pos; holding [v] (truthy v)) := by intro _; rfl) : B X W g e (fVal f) := by
  obtain ⟨te, p1, s1⟩ := h
  exact ⟨_, pt_val p1 hs, sb_val (fun _ _ _ q => q) s1⟩
theorem b_cmpR {op : CmpOp} {r : R2} {h : D → D → Option D} (ho : OpR X (compareOp op) r) (hd : OpD X.K r h) (ha : E X W g a fa) (hb : E X W g b fb) (hm : behindInMarks op b = false) : B X W g (.Compare a [op] [b] pos) (fVal (fBin h fa fb)) := by
  obtain ⟨te, p1, s1⟩ := ha
  obtain ⟨te', p2, s2⟩ := hb
  exact ⟨_, pt_cmpR ho p1 p2 hm, sb_val (fun _ _ _ q => q) (se_op hd s1 s2)⟩
theorem b_chain {op op' : CmpOp} {r r' : R2} {h h' : D → D → Option D} (ho : OpR X (compareOp op) r) (hd : OpD X.K r h) (ho' : OpR X (compareOp op') r') (hd' : OpD X.K r' h') (ha : E X W g a fa) (hb : E X W g b fb) (hc : E X W g c fc)
    (hm : lastMarks [op, op'] [b, c] = false := by rfl) : B X W g (.Compare a [op, op'] [b, c] pos) (fVal (fChain h h' fa fb fc)) := by
  obtain ⟨te, p1, s1⟩ := ha
  obtain ⟨te', p2, s2⟩ := hb
  obtain ⟨te2, p3, s3⟩ := hc
  exact ⟨_, pt_chain ho ho' p1 p2 p3 hm, sb_val (fun _ _ _ q => q) (se_chain hd hd' s1 s2 s3)⟩
variable {u v : FT} {rest : List Expr}
def fbNot (u : FT) : FT := fun ρ z => (u ρ z).bind fun b z => .ok (!b) z
def fbAnd (u v : FT) : FT := fun ρ z => (u ρ z).bind fun b z => choose b v (fun _ z => .ok false z) ρ z
def fbOr (u v : FT) : FT := fun ρ z => (u ρ z).bind fun b z => choose b (fun _ z => .ok true z) v ρ z
theorem b_not (h : B X W g a u) : B X W g (.UnaryOp .Not a pos) (fbNot u) := by
  obtain ⟨te, p1, s1⟩ := h
  refine ⟨_, pt_not p1, fun σ w H ρ z Q sr p => ?_⟩
  unfold fbNot at p
  rw [sat_bind] at p
  exact s1 σ w H ρ z _ sr p
theorem sb_and {t1 t2 : TT} (h1 : SB κ g W t1 u) (h2 : SB κ g W t2 v) : SB κ g W (tAnd t1 t2) (fbAnd u v) := fun σ w H ρ z Q sr p => by
  unfold fbAnd at p
  rw [sat_bind] at p
  refine h1 σ w H ρ z _ sr (p.imp fun b z1 p w1 H1 l1 sr1 => ?_)
  cases b with
  | true =>
    rw [if_pos rfl]
    exact h2 σ w1 H1 ρ z1 _ sr1 (Sat.imp p fun b' z2 p w2 H2 l2 sr2 => p w2 H2 (l1.trans l2) sr2)
  | false =>
    rw [if_neg Bool.false_ne_true]
    exact p w1 H1 l1 sr1
theorem sb_or {t1 t2 : TT} (h1 : SB κ g W t1 u) (h2 : SB κ g W t2 v) : SB κ g W (tOr t1 t2) (fbOr u v) := fun σ w H ρ z Q sr p => by
  unfold fbOr at p
  rw [sat_bind] at p
  refine h1 σ w H ρ z _ sr (p.imp fun b z1 p w1 H1 l1 sr1 => ?_)
  cases b with
  | false =>
    rw [if_neg Bool.false_ne_true]
    exact h2 σ w1 H1 ρ z1 _ sr1 (Sat.imp p fun b' z2 p w2 H2 l2 sr2 => p w2 H2 (l1.trans l2) sr2)
  | true =>
    rw [if_pos rfl]
    exact p w1 H1 l1 sr1
theorem w_and (h : B X W g a u) (h2 : Wh X W g (.BoolOp .And (b :: rest) pos) v) : Wh X W g (.BoolOp .And (a :: b :: rest) pos) (fbAnd u v) := by
  obtain ⟨te, p1, s1⟩ := h
  obtain ⟨te', p2, s2⟩ := h2
  exact ⟨_, pw_and p1 p2, sb_and s1 s2⟩
theorem w_and1 (h : B X W g a u) : Wh X W g (.BoolOp .And [a] pos) u := by
  obtain ⟨te, p1, s1⟩ := h
  exact ⟨_, pw_and1 p1, s1⟩
theorem w_or (h : B X W g a u) (h2 : Wh X W g (.BoolOp .Or (b :: rest) pos) v) : Wh X W g (.BoolOp .Or (a :: b :: rest) pos) (fbOr u v) := by
  obtain ⟨te, p1, s1⟩ := h
  obtain ⟨te', p2, s2⟩ := h2
  exact ⟨_, pw_or p1 p2, sb_or s1 s2⟩
theorem w_or1 (h : B X W g a u) : Wh X W g (.BoolOp .Or [a] pos) u := by
  obtain ⟨te, p1, s1⟩ := h
  exact ⟨_, pw_or1 p1, s1⟩
theorem b_w (h : Wh X W g e u) : B X W g e u := by
  obtain ⟨te, p1, s1⟩ := h
  exact ⟨_, p1.pt, s1⟩
/-! ### and, or, not as values; a if t else b -/
def fAnd (fa fb : FX) : FX := fun ρ z => (fa ρ z).bind fun d z => (asB d z).bind fun b z => choose b fb (fun _ z => .ok (.bool false) z) ρ z
def fOr (fa fb : FX) : FX := fun ρ z => (fa ρ z).bind fun d z => (asB d z).bind fun b z => choose b (fun _ z => .ok (.bool true) z) fb ρ z
def fNot (fa : FX) : FX := fun ρ z => (fa ρ z).bind fun d z => (asB d z).bind fun b z => .ok (.bool (!b)) z
theorem e_one {op : BoolOp} (h : E X W g a f) : E X W g (.BoolOp op [a] pos) f := by
  obtain ⟨te, p1, s1⟩ := h
  exact ⟨_, pe_one p1, s1⟩
theorem e_and (h : E X W g a fa) (h2 : E X W g (.BoolOp .And (b :: rest) pos) fb) : E X W g (.BoolOp .And (a :: b :: rest) pos) (fAnd fa fb) := by
  obtain ⟨te, p1, s1⟩ := h
  obtain ⟨te', p2, s2⟩ := h2
  refine ⟨_, pe_and p1 p2, fun σ w H ρ z Q sr p => ?_⟩
  unfold fAnd at p
  rw [sat_bind] at p
  refine s1 σ w H ρ z _ sr (p.imp fun x z1 p v1 w1 H1 l1 sr1 d1 => ?_)
  rw [sat_bind] at p
  obtain ⟨t, rfl, p⟩ := sat_asB p
  cases d1
  refine ⟨t, rfl, ?_⟩
  cases t with
  | true =>
    rw [if_pos rfl]
    exact s2 σ w1 H1 ρ z1 _ sr1 (Sat.imp p fun d z2 p v w2 H2 l2 sr2 dv => p v w2 H2 (l1.trans l2) sr2 dv)
  | false =>
    rw [if_neg Bool.false_ne_true]
    exact p _ w1 H1 l1 sr1 (.bl false)
theorem e_or (h : E X W g a fa) (h2 : E X W g (.BoolOp .Or (b :: rest) pos) fb) : E X W g (.BoolOp .Or (a :: b :: rest) pos) (fOr fa fb) := by
  obtain ⟨te, p1, s1⟩ := h
  obtain ⟨te', p2, s2⟩ := h2
  refine ⟨_, pe_or p1 p2, fun σ w H ρ z Q sr p => ?_⟩
  unfold fOr at p
  rw [sat_bind] at p
  refine s1 σ w H ρ z _ sr (p.imp fun x z1 p v1 w1 H1 l1 sr1 d1 => ?_)
  rw [sat_bind] at p
  obtain ⟨t, rfl, p⟩ := sat_asB p
  cases d1
  refine ⟨t, rfl, ?_⟩
  cases t with
  | false =>
    rw [if_neg Bool.false_ne_true]
    exact s2 σ w1 H1 ρ z1 _ sr1 (Sat.imp p fun d z2 p v w2 H2 l2 sr2 dv => p v w2 H2 (l1.trans l2) sr2 dv)
  | true =>
    rw [if_pos rfl]
    exact p _ w1 H1 l1 sr1 (.bl true)
theorem e_not (h : E X W g a fa) : E X W g (.UnaryOp .Not a pos) (fNot fa) := by
  obtain ⟨te, p1, s1⟩ := h
  refine ⟨_, pe_not p1, fun σ w H ρ z Q sr p => ?_⟩
  unfold fNot at p
  rw [sat_bind] at p
  refine s1 σ w H ρ z _ sr (p.imp fun x z1 p v1 w1 H1 l1 sr1 d1 => ?_)
  rw [sat_bind] at p
  obtain ⟨t, rfl, p⟩ := sat_asB p
  cases d1
  exact ⟨t, rfl, p _ w1 H1 l1 sr1 (.bl _)⟩
def fIf (u : FT) (fa fb : FX) : FX := fun ρ z => (u ρ z).bind fun b z => choose b fa fb ρ z
theorem e_if (hc : B X W g c u) (ha : E X W g a fa) (hb : E X W g b fb) : E X W g (.IfExp c a b pos) (fIf u fa fb) := by
  obtain ⟨te, p1, s1⟩ := hc
  obtain ⟨te1, p2, s2⟩ := ha
  obtain ⟨te2, p3, s3⟩ := hb
  refine ⟨_, pe_ifExp p1 p2 p3, fun σ w H ρ z Q sr p => ?_⟩
  unfold fIf at p
  rw [sat_bind] at p
  refine s1 σ w H ρ z _ sr (p.imp fun t z1 p w1 H1 l1 sr1 => ?_)
  cases t with
  | true =>
    rw [if_pos rfl]
    exact s2 σ w1 H1 ρ z1 _ sr1 (Sat.imp p fun d z2 p v w2 H2 l2 sr2 dv => p v w2 H2 (l1.trans l2) sr2 dv)
  | false =>
    rw [if_neg Bool.false_ne_true]
    exact s3 σ w1 H1 ρ z1 _ sr1 (Sat.imp p fun d z2 p v w2 H2 l2 sr2 dv => p v w2 H2 (l1.trans l2) sr2 dv)
end

end FL

namespace FL
open PySem
open L2 hiding Dp DpAll
open DL (D Fg Ex Dp DpAll DpKv dp_ex dpa_ex dpk_ex Grow OpD UnD CallD CallL dpa_len dpa_get dpa_get' dpa_app dpa_rev dpa_erase dpa_take dpa_drop dpa_ints ints_dpa dpa_set dp_list dp_tuple dp_int dp_str dp_bool)
section
variable {X : Cx} {W : WX} {g : G} {a b c e : Expr} {es : List Expr} {fa fb fc f : FX} {pos : Pos} {κ : Kt} {fd : FLs} {fs : FA}
/-! ### arguments, tuples, lists -/
def fNil : FLs := fun _ z => .ok [] z
def fCons (fa : FX) (fd : FLs) : FLs := fun ρ z => (fa ρ z).bind fun d z => (fd ρ z).bind fun ds z => .ok (d :: ds) z
theorem d_nil : Da X W g [] fNil := ⟨_, pa_nil, fun σ w H ρ z Q sr p => p [] w H (Go.refl sr.ex) sr .nil⟩
theorem d_cons (h : E X W g e fa) (h2 : Da X W g es fd) (hst : starEach (e :: es) X.env = (false, eval e X.env) :: starEach es X.env := by rfl) : Da X W g (e :: es) (fCons fa fd) := by
  obtain ⟨te, p1, s1⟩ := h
  obtain ⟨te', p2, s2⟩ := h2
  refine ⟨_, pa_cons p1 p2 hst, fun σ w H ρ z Q sr p => ?_⟩
  unfold fCons at p
  rw [sat_bind] at p
  refine s1 σ w H ρ z _ sr (p.imp fun d z1 p v w1 H1 l1 sr1 dv => ?_)
  rw [sat_bind] at p
  exact s2 σ w1 H1 ρ z1 _ sr1 (p.imp fun ds z2 p vs w2 H2 l2 sr2 dvs => p (v :: vs) w2 H2 (l1.trans l2) sr2 (.cons (dp_ex l2.le.f _ _ dv) dvs))
def fTup (fd : FLs) : FX := fun ρ z => (fd ρ z).bind fun ds z => okIf (decide (ds.length ≤ 100000)) (.ok (.tuple ds) z)
def fLst (fd : FLs) : FLs := fun ρ z => (fd ρ z).bind fun ds z => okIf (decide (ds.length ≤ 100000)) (.ok ds z)
theorem e_tup {x1} (h : Da X W g es fd) : E X W g (.Tuple es x1 pos) (fTup fd) := by
  obtain ⟨te, p1, s1⟩ := h
  refine ⟨_, pe_tup p1, fun σ w H ρ z Q sr p => ?_⟩
  unfold fTup at p
  rw [sat_bind] at p
  refine s1 σ w H ρ z _ sr (p.imp fun ds z1 p vs w1 H1 l1 sr1 da => ?_)
  obtain ⟨hl, p⟩ := sat_okIf p
  refine ⟨by rw [dpa_len da]; exact Evl.sz_of (of_decide_eq_true hl), fun q hq => ?_⟩
  have gr := DL.Grow.new (m := none) (o := .tup vs) sr1.ex hq
  exact p _ _ _ (l1.trans (Go.of gr)) (sr1.grow gr) (.tup (SqT.of upd_same) (dpa_ex gr.f _ _ da))
theorem l_lst (h : Da X W g es fd) : Ls X W g (.List es pos) (fLst fd) := by
  obtain ⟨te, p1, s1⟩ := h
  refine ⟨_, pe_lst p1, fun σ w H ρ z Q sr p => ?_⟩
  unfold fLst at p
  rw [sat_bind] at p
  refine s1 σ w H ρ z _ sr (p.imp fun ds z1 p vs w1 H1 l1 sr1 da => ?_)
  obtain ⟨hl, p⟩ := sat_okIf p
  refine ⟨by rw [dpa_len da]; exact Evl.sz_of (of_decide_eq_true hl), fun q hq => ?_⟩
  have gr := DL.Grow.raw (m := none) (o := .lst vs) sr1.ex hq
  have sr2 := sr1.grow gr
  exact p q vs _ _ (l1.trans (Go.of gr)) sr2 (Free.of sr1 hq) (l1.dm _ hq) upd_same da
/-- a new list, frozen -/
theorem SR.freeze {w : Wd} {H : Hp} {σ : L2.St} {ρ : Sl} {z : Z} {p : Addr} {xs : List V} (sr : SR κ g w H σ ρ z) (fr : Free g w σ ρ p) (hp : H p = some (.lst xs)) : SR κ g ⟨upd w.F p (.lst xs), w.mu⟩ H σ ρ z := by
  have ef : Ex w.F (upd w.F p (.lst xs)) := Evl.Ex.new fr.f
  have l : Le w ⟨upd w.F p (.lst xs), w.mu⟩ := ⟨ef, List.prefix_refl _⟩
  refine ⟨⟨sr.gr.le.trans l, fun c o h => ?_, sr.gr.h, sr.gr.dm, fun c o h => ?_, sr.gr.mr⟩, ⟨sr.zo.len, sr.zo.nd, fun k a r e1 e2 => ?_⟩, fun i s e => ?_, sr.inj, sr.len⟩
  · have h : upd w.F p (.lst xs) c = some o := h
    by_cases q : c = p
    · subst q; rw [upd_same] at h; rw [hp]; exact h
    · rw [upd_ne q] at h; exact sr.ex c o h
  · have h : upd w.F p (.lst xs) c = some o := h
    by_cases q : c = p
    · subst q; exact .inr fr.b
    · rw [upd_ne q] at h; exact sr.gr.fr c o h
  · obtain ⟨f1, ra⟩ := sr.zo.at_ k a r e1 e2
    refine ⟨?_, ?_⟩
    · show upd w.F p (.lst xs) a = none
      have ne : a ≠ p := fun y => by subst y; exact fr.m (List.mem_of_getElem? e1)
      rw [upd_ne ne]; exact f1
    · obtain ⟨rk, fs⟩ := r
      cases rk with
      | dct => obtain ⟨kvs, h1, h2⟩ := ra; exact ⟨kvs, h1, Paired.mapP h2 fun _ _ q => ⟨q.1, fv_le l q.2⟩⟩
      | ins c => obtain ⟨C, dx, fvs, h1, h2, h3⟩ := ra; exact ⟨C, dx, fvs, h1, h2, Paired.mapP h3 fun _ _ q => ⟨q.1, fv_le l q.2⟩⟩
  · obtain ⟨v, hv, ok⟩ := sr.sl i s e
    refine ⟨v, hv, ?_⟩
    cases s with
    | d d => exact dp_ex ef _ _ ok
    | ob k => exact ok
    | r u => exact ok
    | s ns => obtain ⟨a, e, h1⟩ := ok; exact ⟨a, e, Evl.ex_l ef h1⟩
    | o ds =>
      obtain ⟨y, rfl, ow⟩ := ok
      obtain ⟨ys, hl, da⟩ := ow.at_
      have ne : y ≠ p := fun q => by subst q; exact fr.no i _ e rfl hv
      exact ⟨y, rfl, ow.b, (by show upd w.F p (.lst xs) y = none; rw [upd_ne ne]; exact ow.f), ow.m, ys, hl, dpa_ex ef _ _ da⟩
theorem Go.frz {w w1 : Wd} {H H1 : Hp} {p : Addr} {o : HO} (go : Go w H w1 H1) (ef : Ex w1.F (upd w1.F p o)) (hn : H p = none) (ex : Ex (upd w1.F p o) H1) : Go w H ⟨upd w1.F p o, w1.mu⟩ H1 :=
  ⟨go.le.trans ⟨ef, List.prefix_refl _⟩, ex, go.h, go.dm, fun a u h => by
    have h : upd w1.F p o a = some u := h
    by_cases c : a = p
    · subst c; exact .inr hn
    · rw [upd_ne c] at h; exact go.fr a u h, go.mr⟩
def fFrz (u : FLs) : FX := fun ρ z => (u ρ z).bind fun ds z => .ok (.list ds) z
theorem SL.frz {te : TE} {u : FLs} (h : SL κ g W te u) : SE κ g W te (fFrz u) := fun σ w H ρ z Q sr p => by
  unfold fFrz at p
  rw [sat_bind] at p
  refine h σ w H ρ z _ sr (p.imp fun ds z1 p q xs w1 H1 l1 sr1 fr hn hq da => ?_)
  have ef : Ex w1.F (upd w1.F q (.lst xs)) := Evl.Ex.new fr.f
  exact p _ ⟨upd w1.F q (.lst xs), w1.mu⟩ H1 (l1.frz ef hn (sr1.freeze fr hq).ex) (sr1.freeze fr hq) (.lst upd_same (dpa_ex ef _ _ da))
theorem e_l {u : FLs} (h : Ls X W g e u) : E X W g e (fFrz u) := by
  obtain ⟨te, p1, s1⟩ := h
  exact ⟨_, p1, s1.frz⟩

/-! ### built-ins by data -/
def fCall (h : List D → Option D) (fd : FLs) : FX := fun ρ z => (fd ρ z).bind fun ds z => ofO (h ds) z
theorem se_cb {ta : TA} {r : List V → Hp → VK → Prop} {h : List D → Option D} (hc : CallD κ.K r h) (ha : SD κ g W ta fd) : SE κ g W (tCB r ta) (fCall h fd) := fun σ w H ρ z Q sr p => by
  unfold fCall at p
  rw [sat_bind] at p
  refine ha σ w H ρ z _ sr (p.imp fun ds z1 p vs w1 H1 l1 sr1 da => ?_)
  obtain ⟨d, e, p⟩ := sat_ofO p
  exact hc w1.F H1 vs ds d Q sr1.ex da e fun v F3 H3 gr dv => p v _ H3 (l1.trans (Go.of gr)) (sr1.grow gr) dv
theorem e_callB {x : Str} {id : String} {p : Pos} {r : List V → Hp → VK → Prop} {h : List D → Option D} (hc : CallR X (.builtin id) r) (hd : CallD X.K r h) (hg : Gl X x) (hm : X.mg x = none) (hv : bootBuiltins x = some (.builtin id)) (ha : Da X W g (e :: es) fd)
    (hn : x ≠ "__name__" := by decide) (hdb : (x == ("__debug__" : Str)) = false := by decide) (hst : starEach (e :: es) X.env = (false, eval e X.env) :: starEach es X.env := by rfl) (hpl : (backTo pos (starEach es X.env)).any (·.1) = false := by rfl) :
    E X W g (.Call (.Name x p) (e :: es) [] pos) (fCall h fd) := by
  obtain ⟨te, p1, s1⟩ := ha
  exact ⟨_, pe_callB hc hg hm hv p1 hn hdb hst hpl, se_cb hd s1⟩
theorem e_callTy {x : Str} {T : String} {p : Pos} {r : List V → Hp → VK → Prop} {h : List D → Option D} (hc : CallR X (.type T) r) (hd : CallD X.K r h) (hg : Gl X x) (hm : X.mg x = none) (hv : bootBuiltins x = some (.type T)) (ha : Da X W g (e :: es) fd)
    (hn : x ≠ "__name__" := by decide) (hdb : (x == ("__debug__" : Str)) = false := by decide) (hst : starEach (e :: es) X.env = (false, eval e X.env) :: starEach es X.env := by rfl) (hpl : (backTo pos (starEach es X.env)).any (·.1) = false := by rfl) :
    E X W g (.Call (.Name x p) (e :: es) [] pos) (fCall h fd) := by
  obtain ⟨te, p1, s1⟩ := ha
  exact ⟨_, pe_callTy hc hg hm hv p1 hn hdb hst hpl, se_cb hd s1⟩
/-- .. that make a new list -/
def fCallL (h : List D → Option (List D)) (fd : FLs) : FLs := fun ρ z => (fd ρ z).bind fun ds z => ofO (h ds) z
theorem sl_cb {ta : TA} {r : List V → Hp → VK → Prop} {h : List D → Option (List D)} (hc : CallL κ.K r h) (ha : SD κ g W ta fd) : SL κ g W (tCB r ta) (fCallL h fd) := fun σ w H ρ z Q sr p => by
  unfold fCallL at p
  rw [sat_bind] at p
  refine ha σ w H ρ z _ sr (p.imp fun ds z1 p vs w1 H1 l1 sr1 da => ?_)
  obtain ⟨d, e, p⟩ := sat_ofO p
  refine hc w1.F H1 vs ds d Q sr1.ex da e fun q xs hq dx => ?_
  have gr := DL.Grow.raw (m := none) (o := .lst xs) sr1.ex hq
  exact p q xs _ _ (l1.trans (Go.of gr)) (sr1.grow gr) (Free.of sr1 hq) (l1.dm _ hq) upd_same dx
theorem l_callB {x : Str} {id : String} {p : Pos} {r : List V → Hp → VK → Prop} {h : List D → Option (List D)} (hc : CallR X (.builtin id) r) (hd : CallL X.K r h) (hg : Gl X x) (hm : X.mg x = none) (hv : bootBuiltins x = some (.builtin id)) (ha : Da X W g (e :: es) fd)
    (hn : x ≠ "__name__" := by decide) (hdb : (x == ("__debug__" : Str)) = false := by decide) (hst : starEach (e :: es) X.env = (false, eval e X.env) :: starEach es X.env := by rfl) (hpl : (backTo pos (starEach es X.env)).any (·.1) = false := by rfl) :
    Ls X W g (.Call (.Name x p) (e :: es) [] pos) (fCallL h fd) := by
  obtain ⟨te, p1, s1⟩ := ha
  exact ⟨_, pe_callB hc hg hm hv p1 hn hdb hst hpl, sl_cb hd s1⟩
theorem l_callTy {x : Str} {T : String} {p : Pos} {r : List V → Hp → VK → Prop} {h : List D → Option (List D)} (hc : CallR X (.type T) r) (hd : CallL X.K r h) (hg : Gl X x) (hm : X.mg x = none) (hv : bootBuiltins x = some (.type T)) (ha : Da X W g (e :: es) fd)
    (hn : x ≠ "__name__" := by decide) (hdb : (x == ("__debug__" : Str)) = false := by decide) (hst : starEach (e :: es) X.env = (false, eval e X.env) :: starEach es X.env := by rfl) (hpl : (backTo pos (starEach es X.env)).any (·.1) = false := by rfl) :
    Ls X W g (.Call (.Name x p) (e :: es) [] pos) (fCallL h fd) := by
  obtain ⟨te, p1, s1⟩ := ha
  exact ⟨_, pe_callTy hc hg hm hv p1 hn hdb hst hpl, sl_cb hd s1⟩
/-! ### subscripts, slices -/
theorem e_ix {r : R2} {h : D → D → Option D} (hr : IxR X r) (hd : OpD X.K r h) (ha : E X W g a fa) (hb : E X W g b fb) (hs : PlainIx b := by exact fun _ _ => rfl) : E X W g (.Subscript a b pos) (fBin h fa fb) := by
  obtain ⟨te, p1, s1⟩ := ha
  obtain ⟨te', p2, s2⟩ := hb
  exact ⟨_, pe_ix hr p1 p2 hs, se_op hd s1 s2⟩
structure Op (X : Cx) (W : WX) (g : G) (e : Option Expr) (f : FO) : Prop where
  ok : ∃ te, PO X e te ∧ SO (kt X) g W te f
def asI : D → Z → Res Int | .int i, z => .ok i z | _, _ => .bad
theorem asI_i {i : Int} {z : Z} : asI (.int i) z = .ok i z := rfl
theorem sat_asI {d : D} {z : Z} {P : Int → Z → Prop} {Y : Xc → Z → Prop} (h : Sat (asI d z) P Y) : ∃ i, d = .int i ∧ P i z := by
  cases d <;> first | exact h.elim | exact ⟨_, rfl, h⟩
def fONone : FO := fun _ z => .ok none z
def fOSome (fa : FX) : FO := fun ρ z => (fa ρ z).bind fun d z => (asI d z).bind fun i z => .ok (some i) z
theorem o_none : Op X W g none fONone := ⟨_, po_none, fun σ w H ρ z Q sr p => p w H (Go.refl sr.ex) sr⟩
theorem o_some (h : E X W g e f) : Op X W g (some e) (fOSome f) := by
  obtain ⟨te, p1, s1⟩ := h
  refine ⟨_, po_some p1, fun σ w H ρ z Q sr p => ?_⟩
  unfold fOSome at p
  rw [sat_bind] at p
  refine s1 σ w H ρ z _ sr (p.imp fun d z1 p v w1 H1 l1 sr1 dv => ?_)
  rw [sat_bind] at p
  obtain ⟨i, rfl, p⟩ := sat_asI p
  cases dv
  exact ⟨i, rfl, p w1 H1 l1 sr1⟩
def fSl (h : D → Option Int → Option Int → Option D) (fa : FX) (fl fh : FO) : FX := fun ρ z => (fa ρ z).bind fun x z => (fl ρ z).bind fun lo z => (fh ρ z).bind fun hi z => ofO (h x lo hi) z
theorem se_sl {r : V → Option Int → Option Int → Hp → VK → Prop} {h : D → Option Int → Option Int → Option D} {te : TE} {tl th : TO} {fl fh : FO} (hd : DL.SlD κ.K r h) (s1 : SE κ g W te fa) (s2 : SO κ g W tl fl) (s3 : SO κ g W th fh) : SE κ g W (tSl r te tl th) (fSl h fa fl fh) := fun σ w H ρ z Q sr p => by
  unfold fSl at p
  rw [sat_bind] at p
  refine s1 σ w H ρ z _ sr (p.imp fun x z1 p v w1 H1 l1 sr1 dv => ?_)
  rw [sat_bind] at p
  refine s2 σ w1 H1 ρ z1 _ sr1 (p.imp fun lo z2 p w2 H2 l2 sr2 => ?_)
  rw [sat_bind] at p
  refine s3 σ w2 H2 ρ z2 _ sr2 (p.imp fun hi z3 p w3 H3 l3 sr3 => ?_)
  obtain ⟨d, e, p⟩ := sat_ofO p
  exact hd w3.F H3 v x lo hi d Q sr3.ex (dp_ex (l2.trans l3).le.f _ _ dv) e fun v F4 H4 gr dv => p v _ H4 (((l1.trans l2).trans l3).trans (Go.of gr)) (sr3.grow gr) dv
theorem e_slice {lo hi : Option Expr} {fl fh : FO} {p2 : Pos} (ha : E X W g a fa) (hl : Op X W g lo fl) (hh : Op X W g hi fh) : E X W g (.Subscript a (.Slice lo hi none p2) pos) (fSl DL.slD fa fl fh) := by
  obtain ⟨te, p1, q1⟩ := ha
  obtain ⟨to1, p2, q2⟩ := hl
  obtain ⟨to2, p3, q3⟩ := hh
  exact ⟨_, pe_slice (DL.SlR.or sl_list (DL.SlR.or sl_tupA sl_str)) p1 p2 p3, se_sl (DL.SlD.or DL.sld_L (DL.SlD.or DL.sld_T DL.sld_S)) q1 q2 q3⟩
end

end FL

namespace FL
open PySem
open L2 hiding Dp DpAll
open DL (D Fg Ex Dp DpAll DpKv dp_ex dpa_ex dpk_ex Grow OpD UnD CallD CallL dpa_len dpa_get dpa_get' dpa_app dpa_rev dpa_erase dpa_take dpa_drop dpa_ints ints_dpa dpa_set dp_list dp_tuple dp_int dp_str dp_bool)
open PySem.Spec PyProof.Rows
abbrev Rm := DL.Rm
/-! ### a def's promise: a plain function -/
abbrev Fu := List S → Z → Res S
def spF (κ : Kt) (n : Nat) (F : Fu) : Sp := fun vs H Q E => ∃ (w : Wd) (z : Z) (ss : List S), Ex w.F H ∧ ZOk κ w H z ∧ ArgsOk κ w vs ss ∧ ss.length = n ∧
  Sat (F ss z) (fun s z' => ∀ v w' H', Go w H w' H' → ZOk κ w' H' z' → ValOk κ w' v s → Q v H') (fun x z' => ∀ cls od w' H', κ.mg x.c = some cls → Pay κ.K w' H' od x → Go w H w' H' → ZOk κ w' H' z' → E cls od H')
structure FnG (P : Program) (w : World) (K : Fg) (mg : Str → Option Value) (base : Heap) (k : Nat) (f : Addr) (fd : FuncData) (ps : List Str) (sp : Sp) : Prop where
  len : ∀ vs H Q E, sp vs H Q E → vs.length = ps.length
  run : ∀ (A : Around) (outer : List Env) (s : Shared) (H : Hp) (args : Args) (us : List Value) (vs : List V) (Q : VK) (E : XK), Rm k A → Env0 P w K mg base A outer s H → BindsTo s fd args (ps.zip us) → Vals vs us → sp vs H Q E → codeAny (model P w) A (.call (.ref f) args) (CR (CX P w) outer P w H s Q E) s
structure Fn (P : Program) (w : World) (K : Fg) (mg : Str → Option Value) (base : Heap) (k : Nat) (x : Str) (ps : List Str) (F : Fu) : Prop where
  ok : ∃ f fd, FnG P w K mg base k f fd ps (spF ⟨K, mg⟩ ps.length F) ∧ mg x = some (.ref f) ∧ PySem.W.keepIn K (.ref f) = true ∧ Binds K fd ps []
theorem args_len {κ : Kt} {w : Wd} : ∀ {vs : List V} {ss : List S}, ArgsOk κ w vs ss → vs.length = ss.length
  | [], [], _ => rfl
  | _ :: _, _ :: _, ⟨_, r⟩ => by simp [args_len r]
section
variable {X : Cx} {W : WX} {g : G} {a b c e : Expr} {es : List Expr} {fa fb fc f : FX} {pos : Pos} {κ : Kt} {fd : FLs} {fs : FA}
/-! ### arguments of any kind -/
def fAnil : FA := fun _ z => .ok [] z
def fAd (fa : FX) (fs : FA) : FA := fun ρ z => (fa ρ z).bind fun d z => (fs ρ z).bind fun ss z => .ok (.d d :: ss) z
/-- what may be handed on as it is -/
def slotA : Sl → Nat → Z → Res S
  | [], _, _ => .bad
  | none :: _, 0, _ => .bad
  | some s :: _, 0, z => match s with | .o _ => .bad | s => .ok s z
  | _ :: ρ, i + 1, z => slotA ρ i z
theorem slotA_d {d : D} {ρ : Sl} {z : Z} : slotA (some (.d d) :: ρ) 0 z = .ok (.d d) z := rfl
theorem slotA_ob {k : Nat} {ρ : Sl} {z : Z} : slotA (some (.ob k) :: ρ) 0 z = .ok (.ob k) z := rfl
theorem slotA_r {v : V} {ρ : Sl} {z : Z} : slotA (some (.r v) :: ρ) 0 z = .ok (.r v) z := rfl
theorem slotA_sc {ns : List Int} {ρ : Sl} {z : Z} : slotA (some (.s ns) :: ρ) 0 z = .ok (.s ns) z := rfl
theorem slotA_s {s : Option S} {ρ : Sl} {i : Nat} {z : Z} : slotA (s :: ρ) (i + 1) z = slotA ρ i z := by cases s <;> rfl
theorem slotA_eq : ∀ {ρ : Sl} {i : Nat} {z : Z} {P : S → Z → Prop} {Y : Xc → Z → Prop}, Sat (slotA ρ i z) P Y → ∃ s, ρ[i]? = some (some s) ∧ isOwn s = false ∧ P s z
  | [], _, _, _, _, h => h.elim
  | none :: _, 0, _, _, _, h => h.elim
  | some s :: _, 0, z, P, Y, h => by
    cases s <;> first | exact False.elim h | exact ⟨_, rfl, rfl, h⟩
  | s :: ρ, i + 1, z, P, Y, h => by
    rw [slotA_s] at h
    obtain ⟨d, e, p⟩ := slotA_eq (ρ := ρ) (i := i) h
    exact ⟨d, by simpa using e, p⟩
def fAv (i : Nat) (fs : FA) : FA := fun ρ z => (slotA ρ i z).bind fun s z => (fs ρ z).bind fun ss z => .ok (s :: ss) z
theorem a_nil : A X W g [] fAnil := ⟨_, pa_nil, fun σ w H ρ z Q sr p => p [] w H (Go.refl sr.ex) sr trivial⟩
theorem slot_arg {w : Wd} {H : Hp} {σ : L2.St} {ρ : Sl} {z : Z} {v : V} {s : S} (sr : SR κ g w H σ ρ z) (ok : SlotOk κ g w H v s) (no : isOwn s = false) : ArgOk κ w v s := by
  cases s with
  | d d => exact ok
  | ob k => exact ok
  | r u => exact ok
  | o ds => cases no
  | s ns => exact ok
/-- data, then the rest -/
theorem a_d (h : E X W g e fa) (h2 : A X W g es fs) (hst : starEach (e :: es) X.env = (false, eval e X.env) :: starEach es X.env := by rfl) : A X W g (e :: es) (fAd fa fs) := by
  obtain ⟨te, p1, s1⟩ := h
  obtain ⟨te', p2, s2⟩ := h2
  refine ⟨_, pa_cons p1 p2 hst, fun σ w H ρ z Q sr p => ?_⟩
  unfold fAd at p
  rw [sat_bind] at p
  refine s1 σ w H ρ z _ sr (p.imp fun d z1 p v w1 H1 l1 sr1 dv => ?_)
  rw [sat_bind] at p
  exact s2 σ w1 H1 ρ z1 _ sr1 (p.imp fun ss z2 p vs w2 H2 l2 sr2 dvs => p (v :: vs) w2 H2 (l1.trans l2) sr2 ⟨dp_ex l2.le.f _ _ dv, dvs⟩)
/-- a name, as it is -/
theorem a_v (i : Nat) {x : Str} (h2 : A X W g es fs) (hN : X.N[i]? = some x := by rfl) (hv : Vis X.env.scope x := by first | exact Or.inl rfl | exact Or.inr (Or.inl rfl) | exact Or.inr (Or.inr rfl)) (hd : (x == ("__debug__" : Str)) = false := by decide)
    (hcd : (x == ("__classdict__" : Str)) = false := by decide) (hst : starEach (.Name x pos :: es) X.env = (false, eval (.Name x pos) X.env) :: starEach es X.env := by rfl) : A X W g (.Name x pos :: es) (fAv i fs) := by
  obtain ⟨te', p2, s2⟩ := h2
  refine ⟨_, pa_cons (pe_var hN hv hd hcd) p2 hst, fun σ w H ρ z Q sr p => ?_⟩
  unfold fAv at p
  rw [sat_bind] at p
  obtain ⟨s, e, no, p⟩ := slotA_eq p
  obtain ⟨v, hv, ok⟩ := sr.sl i _ e
  refine ⟨v, hv, ?_⟩
  rw [sat_bind] at p
  refine s2 σ w H ρ z _ sr (p.imp fun ss z2 p vs w2 H2 l2 sr2 dvs => p (v :: vs) w2 H2 l2 sr2 ⟨?_, dvs⟩)
  obtain ⟨v', hv', ok'⟩ := sr2.sl i _ e
  rw [hv] at hv'
  cases hv'
  exact slot_arg sr2 ok' no

/-! ### calls -/
def asOb : S → Z → Res Nat
  | .ob k, z => .ok k z
  | _, _ => .bad
theorem asOb_ob {k : Nat} {z : Z} : asOb (.ob k) z = .ok k z := rfl
def run (n : Nat) (F : Fu) (fs : FA) (ρ : Sl) (z : Z) : Res S := (fs ρ z).bind fun ss z => okIf (decide (ss.length = n)) (F ss z)
def fFn (n : Nat) (F : Fu) (fs : FA) : FX := fun ρ z => (run n F fs ρ z).bind asD
def fFnOb (n : Nat) (F : Fu) (fs : FA) : FB := fun ρ z => (run n F fs ρ z).bind asOb
theorem pe_callG {k : Nat} {f : Addr} {fd : FuncData} {ps : List Str} {sp : Sp} {x : Str} {p : Pos} {t : TA} (tk : Takes X W) (F : FnG X.prog X.w X.K X.mg X.base k f fd ps sp) (hr : Rm k X.A) (hg : Gl X x) (hm : X.mg x = some (.ref f)) (hk : PySem.W.keepIn X.K (.ref f) = true) (hb : Binds X.K fd ps []) (ha : PA X (e :: es) t) (hdb : (x == ("__debug__" : Str)) = false)
    (he : starEach (e :: es) X.env = (false, eval e X.env) :: starEach es X.env) (hpl : (backTo pos (starEach es X.env)).any (·.1) = false) : PE X (.Call (.Name x p) (e :: es) [] pos) (fun σ H Q => t σ H fun vs H1 => sp vs H1 Q fun cls d H' => W cls d σ H') := by
  refine ⟨fun pins s σ H Q I h => wpAny_Call_Name_kw (ld_glob I hg hm (PySem.W.callWith_K (h₀ := X.base) I.ok.mod.kin hk (thn (ha.run pos pins s σ H _ I h) fun us s1 ⟨vs, H1, I1, r, q⟩ => ⟨I1.kIn, ?_⟩) he hpl) hdb)⟩
  have len := F.len _ _ _ _ q
  have hb' := hb s1 us I1.kIn (by rw [List.append_nil, ← r.length]; exact len)
  rw [List.append_nil] at hb'
  have go := F.run X.A X.stack s1 H1 ⟨us, []⟩ us vs Q _ hr I1.env0 hb' r q
  refine wpAny_call (codeAny_mono go fun r s' hq => ?_)
  match r, hq with
  | .ok (.ret u), hq => exact I1.after hq
  | .error u, hq => exact tk u s' (XE.of_call I1 (fun _ _ _ h => h) hq)
theorem sp_run {t : TA} {n : Nat} {F : Fu} {σ : L2.St} {w : Wd} {H : Hp} {ρ : Sl} {z : Z} {P : S → Z → Prop} {Q : VK} (ha : SA κ g W t fs) (sr : SR κ g w H σ ρ z) (h : Sat (run n F fs ρ z) P (XE1 κ g W σ ρ)) (hq : ∀ s z' v w' H', P s z' → Go w H w' H' → SR κ g w' H' σ ρ z' → ValOk κ w' v s → Q v H') :
    t σ H fun vs H1 => spF κ n F vs H1 Q fun cls d H' => W cls d σ H' := by
  unfold run at h
  rw [sat_bind] at h
  refine ha σ w H ρ z _ sr (h.imp fun ss z1 p vs w1 H1 l1 sr1 da => ?_)
  obtain ⟨hn, p⟩ := sat_okIf p
  refine ⟨w1, z1, ss, sr1.ex, sr1.zo, da, of_decide_eq_true hn, p.mono (fun s z2 q v w2 H2 go zo dv => ?_) fun x z2 q cls od w2 H2 hm py go zo => ?_⟩
  · exact hq s z2 v w2 H2 q (l1.trans go) (sr1.go go zo) dv
  · exact q cls od w2 H2 hm py (sr1.go go zo)
section
variable {F : Fu} {k : Nat} {ps : List Str} {x : Str} {p : Pos}
theorem e_call (tk : Takes X W) (h : Fn X.prog X.w X.K X.mg X.base k x ps F) (hr : Rm k X.A) (hg : Gl X x) (ha : A X W g (e :: es) fs) (hdb : (x == ("__debug__" : Str)) = false := by decide)
    (he : starEach (e :: es) X.env = (false, eval e X.env) :: starEach es X.env := by rfl) (hpl : (backTo pos (starEach es X.env)).any (·.1) = false := by rfl) : E X W g (.Call (.Name x p) (e :: es) [] pos) (fFn ps.length F fs) := by
  obtain ⟨f, fd, h1, h2, h3, h4⟩ := h
  obtain ⟨te, p1, s1⟩ := ha
  refine ⟨_, pe_callG tk h1 hr hg h2 h3 h4 p1 hdb he hpl, fun σ w H ρ z Q sr p => ?_⟩
  unfold fFn at p
  rw [sat_bind] at p
  refine sp_run s1 sr p fun s z' v w' H' q l sr' vo => ?_
  cases s <;> first | exact False.elim q | exact q v w' H' l sr' vo
theorem o_call (tk : Takes X W) (h : Fn X.prog X.w X.K X.mg X.base k x ps F) (hr : Rm k X.A) (hg : Gl X x) (ha : A X W g (e :: es) fs) (hdb : (x == ("__debug__" : Str)) = false := by decide)
    (he : starEach (e :: es) X.env = (false, eval e X.env) :: starEach es X.env := by rfl) (hpl : (backTo pos (starEach es X.env)).any (·.1) = false := by rfl) : Ob X W g (.Call (.Name x p) (e :: es) [] pos) (fFnOb ps.length F fs) := by
  obtain ⟨f, fd, h1, h2, h3, h4⟩ := h
  obtain ⟨te, p1, s1⟩ := ha
  refine ⟨_, pe_callG tk h1 hr hg h2 h3 h4 p1 hdb he hpl, fun σ w H ρ z Q sr p => ?_⟩
  unfold fFnOb at p
  rw [sat_bind] at p
  refine sp_run s1 sr p fun s z' v w' H' q l sr' vo => ?_
  cases s with
  | ob k =>
    obtain ⟨a, h1, rfl⟩ := vo
    exact q a w' H' l sr' h1
  | _ => exact False.elim q
end
/-- an object by its name -/
def slotOb : Sl → Nat → Z → Res Nat
  | [], _, _ => .bad
  | none :: _, 0, _ => .bad
  | some s :: _, 0, z => asOb s z
  | _ :: ρ, i + 1, z => slotOb ρ i z
theorem slotOb_0 {s : S} {ρ : Sl} {z : Z} : slotOb (some s :: ρ) 0 z = asOb s z := rfl
theorem slotOb_s {s : Option S} {ρ : Sl} {i : Nat} {z : Z} : slotOb (s :: ρ) (i + 1) z = slotOb ρ i z := by cases s <;> rfl
theorem slotOb_eq : ∀ {ρ : Sl} {i : Nat} {z : Z} {P : Nat → Z → Prop} {Y : Xc → Z → Prop}, Sat (slotOb ρ i z) P Y → ∃ k, ρ[i]? = some (some (.ob k)) ∧ P k z
  | [], _, _, _, _, h => h.elim
  | none :: _, 0, _, _, _, h => h.elim
  | some s :: _, 0, z, P, Y, h => by
    have h : Sat (asOb s z) P Y := h
    cases s <;> first | exact h.elim | exact ⟨_, rfl, h⟩
  | s :: ρ, i + 1, z, P, Y, h => by
    rw [slotOb_s] at h
    obtain ⟨d, e, p⟩ := slotOb_eq (ρ := ρ) (i := i) h
    exact ⟨d, by simpa using e, p⟩
def fVarOb (i : Nat) : FB := fun ρ z => slotOb ρ i z
theorem o_var (i : Nat) {x : Str} (hN : X.N[i]? = some x := by rfl) (hv : Vis X.env.scope x := by first | exact Or.inl rfl | exact Or.inr (Or.inl rfl) | exact Or.inr (Or.inr rfl)) (hd : (x == ("__debug__" : Str)) = false := by decide)
    (hcd : (x == ("__classdict__" : Str)) = false := by decide) : Ob X W g (.Name x pos) (fVarOb i) :=
  ⟨_, pe_var hN hv hd hcd, fun σ w H ρ z Q sr h => by
    obtain ⟨k, e, p⟩ := slotOb_eq h
    obtain ⟨v, hv, a, ha, rfl⟩ := sr.sl i _ e
    exact ⟨_, hv, p a w H (Go.refl sr.ex) sr ha⟩⟩
end

end FL

namespace FL
open PySem
open L2 hiding Dp DpAll
open DL (D Fg Ex Dp DpAll DpKv dp_ex dpa_ex dpk_ex Grow OpD UnD CallD CallL dpa_len dpa_get dpa_get' dpa_app dpa_rev dpa_erase dpa_take dpa_drop dpa_ints ints_dpa dpa_set dp_list dp_tuple dp_int dp_str dp_bool)
open PySem.Spec PyProof.Rows
section
variable {X : Cx} {W : WX} {g : G} {a b c e : Expr} {es : List Expr} {fa fb fc f : FX} {pos : Pos} {κ : Kt} {fd : FLs} {fs : FA} {st : Stmt} {sts : List Stmt} {s1 s2 : FS} {u v : FT}
theorem XE1.of {σ : L2.St} {ρ : Sl} {x : Xc} {z : Z} (h : XS κ g W x z) : XE1 κ g W σ ρ x z := xs1 h
theorem OutOk.le {w w' : Wd} {D : Ends} {o : Out} {z : Z} (h : OutOk κ g w D o z) (l : Le w w') : OutOk κ g w' D o z := by
  cases o with
  | nx ρ => exact fun σ' w2 H' l2 sr => h σ' w2 H' (l.trans l2) sr
  | bk ρ => exact fun σ' w2 H' l2 sr => h σ' w2 H' (l.trans l2) sr
  | ct ρ => exact fun σ' w2 H' l2 sr => h σ' w2 H' (l.trans l2) sr
  | rt s => exact h
/-! ### blocks -/
def seqK (h : FS) : Out → Z → Res Out
  | .nx ρ, z => h ρ z
  | .rt d, z => .ok (.rt d) z
  | .bk ρ, z => .ok (.bk ρ) z
  | .ct ρ, z => .ok (.ct ρ) z
theorem seqK_nx {h : FS} {ρ : Sl} {z : Z} : seqK h (.nx ρ) z = h ρ z := rfl
theorem seqK_rt {h : FS} {d : S} {z : Z} : seqK h (.rt d) z = .ok (.rt d) z := rfl
theorem seqK_bk {h : FS} {ρ : Sl} {z : Z} : seqK h (.bk ρ) z = .ok (.bk ρ) z := rfl
theorem seqK_ct {h : FS} {ρ : Sl} {z : Z} : seqK h (.ct ρ) z = .ok (.ct ρ) z := rfl
def fSeq (a b : FS) : FS := fun ρ z => (a ρ z).bind (seqK b)
def fNext : FS := fun ρ z => .ok (.nx ρ) z
theorem ss_seq {t1 t2 : TS} (h1 : SS κ g W t1 s1) (h2 : SS κ g W t2 s2) : SS κ g W (tSeq t1 t2) (fSeq s1 s2) := fun σ w H ρ z D sr p => by
  unfold fSeq at p
  rw [sat_bind] at p
  refine h1 σ w H ρ z _ sr (p.imp fun o z1 p => ?_)
  cases o with
  | nx ρ1 => exact fun σ1 w1 H1 l1 sr1 => h2 σ1 w1 H1 ρ1 z1 D sr1 (Sat.imp p fun o z q => OutOk.le q l1)
  | _ => exact p
theorem s_cons (h1 : St X W g st s1) (h2 : Sts X W g sts s2) : Sts X W g (st :: sts) (fSeq s1 s2) := by
  obtain ⟨te, p1, q1⟩ := h1
  obtain ⟨te', p2, q2⟩ := h2
  exact ⟨_, pss_cons p1 p2, ss_seq q1 q2⟩
theorem s_one (h1 : St X W g st s1) : Sts X W g [st] s1 := by
  obtain ⟨te, p1, q1⟩ := h1
  exact ⟨_, pss_one p1, q1⟩
theorem s_nil : Sts X W g [] fNext := ⟨_, pss_nil, fun σ w H ρ z D sr p => p σ w H (Le.refl w) sr⟩
theorem st_doc {x : Str} {j : Nat} {p2 : Pos} : St X W g (.Expr (.Constant (.str x) j pos) p2) fNext := ⟨_, ps_doc, fun σ w H ρ z D sr p => p σ w H (Le.refl w) sr⟩
def fRet (f : FX) : FS := fun ρ z => (f ρ z).bind fun d z => .ok (.rt (.d d)) z
theorem st_ret (h : E X W g e f) : St X W g (.Return (some e) pos) (fRet f) := by
  obtain ⟨te, p1, q1⟩ := h
  refine ⟨_, ps_ret p1, fun σ w H ρ z D sr p => ?_⟩
  unfold fRet at p
  rw [sat_bind] at p
  exact q1 σ w H ρ z _ sr (p.mono (fun d z1 p v w1 H1 l1 sr1 dv => p σ ρ v w1 H1 sr1 dv) fun _ _ => xs1)
def fRetN : FS := fun _ z => .ok (.rt (.d .none)) z
theorem st_retN : St X W g (.Return none pos) fRetN := ⟨_, ps_retN, fun σ w H ρ z D sr p => p σ ρ .non w H sr .non⟩
def fRetOb (f : FB) : FS := fun ρ z => (f ρ z).bind fun k z => .ok (.rt (.ob k)) z
theorem st_retOb {f : FB} (h : Ob X W g e f) : St X W g (.Return (some e) pos) (fRetOb f) := by
  obtain ⟨te, p1, q1⟩ := h
  refine ⟨_, ps_ret p1, fun σ w H ρ z D sr p => ?_⟩
  unfold fRetOb at p
  rw [sat_bind] at p
  exact q1 σ w H ρ z _ sr (p.mono (fun k z1 p a w1 H1 l1 sr1 ha => p σ ρ _ w1 H1 sr1 ⟨a, ha, rfl⟩) fun _ _ => xs1)
def fIfS (u : FT) (a b : FS) : FS := fun ρ z => (u ρ z).bind fun c z => choose c a b ρ z
theorem st_if {a b : List Stmt} (hc : B X W g c u) (h1 : Sts X W g a s1) (h2 : Sts X W g b s2) : St X W g (.If c a b pos) (fIfS u s1 s2) := by
  obtain ⟨te, p1, q1⟩ := hc
  obtain ⟨te1, p2, q2⟩ := h1
  obtain ⟨te2, p3, q3⟩ := h2
  refine ⟨_, ps_if p1 p2 p3, fun σ w H ρ z D sr p => ?_⟩
  unfold fIfS at p
  rw [sat_bind] at p
  refine q1 σ w H ρ z _ sr (p.mono (fun t z1 p w1 H1 l1 sr1 => ?_) fun _ _ => xs1)
  cases t with
  | true =>
    rw [if_pos rfl]
    exact q2 σ w1 H1 ρ z1 D sr1 (Sat.imp p fun o z q => OutOk.le q l1.le)
  | false =>
    rw [if_neg Bool.false_ne_true]
    exact q3 σ w1 H1 ρ z1 D sr1 (Sat.imp p fun o z q => OutOk.le q l1.le)
def fDrop (f : FX) : FS := fun ρ z => (f ρ z).bind fun _ z => .ok (.nx ρ) z
theorem st_expr (h : E X W g e f) (hs : swapsWith e none pos.line X.env = pure false := by rfl) : St X W g (.Expr e pos) (fDrop f) := by
  obtain ⟨te, p1, q1⟩ := h
  refine ⟨_, ps_expr p1 hs, fun σ w H ρ z D sr p => ?_⟩
  unfold fDrop at p
  rw [sat_bind] at p
  exact q1 σ w H ρ z _ sr (p.mono (fun d z1 p v w1 H1 l1 sr1 dv => p σ w1 H1 l1.le sr1) fun _ _ => xs1)
theorem st_pass : St X W g (.Pass pos) fNext := ⟨_, ps_pass, fun σ w H ρ z D sr p => p σ w H (Le.refl w) sr⟩
def fBrk : FS := fun ρ z => .ok (.bk ρ) z
def fCnt : FS := fun ρ z => .ok (.ct ρ) z
theorem st_brk : St X W g (.Break pos) fBrk := ⟨_, ps_break, fun σ w H ρ z D sr p => p σ w H (Le.refl w) sr⟩
theorem st_cnt : St X W g (.Continue pos) fCnt := ⟨_, ps_continue, fun σ w H ρ z D sr p => p σ w H (Le.refl w) sr⟩

/-! ### targets, assignment -/
structure Bt (is : List Nat) (σ σ' : L2.St) (ρ ρ' : Sl) : Prop where
  len : σ'.length = σ.length
  get : ∀ j, j ∉ is → σ'[j]? = σ[j]?
  own : ∀ (j : Nat) (s : S), ρ'[j]? = some (some s) → isOwn s = true → ρ[j]? = some (some s) ∧ σ'[j]? = σ[j]?
theorem Bt.refl {σ : L2.St} {ρ : Sl} : Bt [] σ σ ρ ρ := ⟨rfl, fun _ _ => rfl, fun _ _ h _ => ⟨h, rfl⟩⟩
theorem Bt.set {σ : L2.St} {ρ : Sl} {i : Nat} {v : Option V} {s : S} (no : isOwn s = false) : Bt [i] σ (σ.set i v) ρ (ρ.set i (some s)) := ⟨by rw [List.length_set], fun j h => List.getElem?_set_ne (fun z => h (by simp [z])), fun j t h o => by
  by_cases c : j = i
  · subst c
    by_cases hl : j < ρ.length
    · rw [List.getElem?_set_self hl] at h; cases h; rw [no] at o; cases o
    · rw [List.getElem?_eq_none (by rw [List.length_set]; omega)] at h; cases h
  · rw [List.getElem?_set_ne (Ne.symm c)] at h ⊢
    exact ⟨h, rfl⟩⟩
theorem Bt.trans {is js : List Nat} {σ σ1 σ2 : L2.St} {ρ ρ1 ρ2 : Sl} (a : Bt is σ σ1 ρ ρ1) (b : Bt js σ1 σ2 ρ1 ρ2) : Bt (is ++ js) σ σ2 ρ ρ2 :=
  ⟨b.len.trans a.len, fun j h => (b.get j fun z => h (List.mem_append.mpr (.inr z))).trans (a.get j fun z => h (List.mem_append.mpr (.inl z))), fun j s h o => by
    obtain ⟨h1, h2⟩ := b.own j s h o
    obtain ⟨h3, h4⟩ := a.own j s h1 o
    exact ⟨h3, h2.trans h4⟩⟩
def SGt (κ : Kt) (g : G) (is : List Nat) (tg : TG) (f : FG) : Prop := ∀ v σ w H d ρ z (Q : L2.St → Hp → Prop) ρ', SR κ g w H σ ρ z → Dp κ.K w.F v d → f d ρ = some ρ' → (∀ σ', SR κ g w H σ' ρ' z → Bt is σ σ' ρ ρ' → Q σ' H) → tg v σ H Q
def SGs (κ : Kt) (g : G) (is : List Nat) (tg : TGs) (f : FGs) : Prop := ∀ vs σ w H ds ρ z (Q : L2.St → Hp → Prop) ρ', SR κ g w H σ ρ z → DpAll κ.K w.F vs ds → f ds ρ = some ρ' → (∀ σ', SR κ g w H σ' ρ' z → Bt is σ σ' ρ ρ' → Q σ' H) → tg vs σ H Q
structure Gt (X : Cx) (g : G) (e : Expr) (is : List Nat) (f : FG) : Prop where
  ok : ∃ te, PG X e te ∧ SGt (kt X) g is te f
structure Gts (X : Cx) (g : G) (es : List Expr) (is : List Nat) (f : FGs) : Prop where
  ok : ∃ te, PGs X es te ∧ SGs (kt X) g is te f
variable {gt : FG} {gts : FGs} {is js : List Nat}
def gName (i : Nat) : FG := fun d ρ => some (ρ.set i (some (.d d)))
theorem g_name (i : Nat) {x : Str} (hN : X.N.Nodup) (hi : X.N[i]? = some x := by rfl) (hx : Loc X.env.scope x := by first | exact Or.inl rfl | exact Or.inr rfl) (hf : X.fn x = true ∨ X.env.scope.names.lookup x = some .local := by first | exact .inl rfl | exact .inr rfl) : Gt X g (.Name x pos) [i] (gName i) :=
  ⟨_, pg_name hN hi hx hf, fun v σ w H d ρ z Q ρ' sr dv p k => by cases p; exact k _ (sr.setD dv) (Bt.set rfl)⟩
def gNil : FGs := fun ds ρ => match ds with | [] => some ρ | _ => none
def gCons (h : FG) (hs : FGs) : FGs := fun ds ρ => match ds with | d :: r => (h d ρ).bind fun ρ' => hs r ρ' | [] => none
theorem gs_nil : Gts X g [] [] gNil := ⟨_, pgs_nil, fun vs σ w H ds ρ z Q ρ' sr dv p k => by
  cases dv with
  | nil => cases p; exact ⟨rfl, k _ sr Bt.refl⟩
  | cons _ _ => cases p⟩
theorem gs_cons (h1 : Gt X g e is gt) (h2 : Gts X g es js gts) (hs : (assignEach (e :: es) X.env).map (·.2) = assign e X.env :: (assignEach es X.env).map (·.2) := by rfl) : Gts X g (e :: es) (is ++ js) (gCons gt gts) := by
  obtain ⟨te, p1, q1⟩ := h1
  obtain ⟨te, p2, q2⟩ := h2
  refine ⟨_, pgs_cons p1 p2 hs, fun vs σ w H ds ρ z Q ρ' sr dv p k => ?_⟩
  cases dv with
  | nil => cases p
  | cons h1 h2 =>
    rename_i v vs d r
    have p : (gt d ρ).bind (fun ρ' => gts r ρ') = some ρ' := p
    cases q : gt d ρ with
    | none => rw [q] at p; cases p
    | some ρ1 =>
      rw [q] at p
      exact ⟨_, _, rfl, q1 _ _ w H d _ z _ ρ1 sr h1 q fun σ1 sr1 b1 => q2 _ _ w H r ρ1 z Q ρ' sr1 h2 p fun σ2 sr2 b2 => k σ2 sr2 (b1.trans b2)⟩
def gTup (m : Nat) (hs : FGs) : FG := fun d ρ => match d with | .tuple ds => if decide (ds.length = m) = true then hs ds ρ else none | _ => none
theorem g_tup {kk m : Nat} (hc : X.calm = true) (h : Gts X g es is gts) (hl : (assignEach es X.env).length = m := by rfl) (hf : (assignEach es X.env).findIdx? (·.1) = none := by rfl) : Gt X g (.Tuple es kk pos) is (gTup m gts) := by
  obtain ⟨te, p2, q2⟩ := h
  refine ⟨_, pg_tup hc p2 hl hf, fun v σ w H d ρ z Q ρ' sr dv p k => ?_⟩
  cases d <;> try cases p
  rename_i ds
  have p : (if decide (ds.length = m) = true then gts ds ρ else none) = some ρ' := p
  split at p
  · rename_i hl
    cases dv with
    | tup h1 h2 => exact ⟨_, _, rfl, Evl.ex_t sr.ex h1, by rw [dpa_len h2]; exact of_decide_eq_true hl, q2 _ _ w H ds _ z Q ρ' sr h2 p k⟩
  · cases p
def fAsg (f : FX) (h : FG) : FS := fun ρ z => (f ρ z).bind fun d z => (ofO (h d ρ) z).bind fun ρ' z => .ok (.nx ρ') z
theorem ss_asg {te : TE} {tg : TG} (h : SE κ g W te f) (h2 : SGt κ g is tg gt) : SS κ g W (tAsg te tg) (fAsg f gt) := fun σ w H ρ z D sr p => by
  unfold fAsg at p
  rw [sat_bind] at p
  refine h σ w H ρ z _ sr (p.mono (fun d z1 p v w1 H1 l1 sr1 dv => ?_) fun _ _ => xs1)
  rw [sat_bind] at p
  obtain ⟨ρ', e, p⟩ := sat_ofO p
  exact h2 v σ w1 H1 d ρ z1 _ ρ' sr1 dv e fun σ' sr' _ => p σ' w1 H1 l1.le sr'
theorem st_asg (h : E X W g e f) (h2 : Gt X g a is gt) (h1 : swapsWithSole [a] e pos.line X.env = pure false := by rfl) (h3 : swappedStores [a] e X.env = pure none := by rfl) (h4 : (assignEach [a] X.env).map (·.2) = [assign a X.env] := by rfl) : St X W g (.Assign [a] e pos) (fAsg f gt) := by
  obtain ⟨te, p1, q1⟩ := h
  obtain ⟨te2, p2, q2⟩ := h2
  exact ⟨_, ps_asg p1 p2 h1 h3 h4, ss_asg q1 q2⟩
/-- a new list of the def's own, to be changed in place -/
def fOwn (i : Nat) (u : FLs) : FS := fun ρ z => (u ρ z).bind fun ds z => .ok (.nx (ρ.set i (some (.o ds)))) z
theorem SR.setO {w : Wd} {H : Hp} {σ : L2.St} {ρ : Sl} {z : Z} {i : Nat} {p : Addr} {xs : List V} {ds : List D} (sr : SR κ g w H σ ρ z) (fr : Free g w σ ρ p) (hp : H p = some (.lst xs)) (da : DpAll κ.K w.F xs ds) : SR κ g w H (σ.set i (some (.ref p))) (ρ.set i (some (.o ds))) z :=
  sr.set (s := .o ds) ⟨p, rfl, fr.b, fr.f, fr.m, xs, hp, da⟩ fun _ l e2 j t _ ot e3 => by cases e2; exact fr.no j t e3 ot
theorem ss_own {te : TE} {i : Nat} {u : FLs} (h : SL κ g W te u) : SS κ g W (tAsg te (L2.gName i)) (fOwn i u) := fun σ w H ρ z D sr p => by
  unfold fOwn at p
  rw [sat_bind] at p
  exact h σ w H ρ z _ sr (p.mono (fun ds z1 p q xs w1 H1 l1 sr1 fr _ hq da => p _ w1 H1 l1.le (sr1.setO fr hq da)) fun _ _ => xs1)
theorem st_own (i : Nat) {x : Str} {px : Pos} {u : FLs} (h : Ls X W g e u) (hN : X.N.Nodup) (hi : X.N[i]? = some x := by rfl) (hx : Loc X.env.scope x := by first | exact Or.inl rfl | exact Or.inr rfl) (hf : X.fn x = true ∨ X.env.scope.names.lookup x = some .local := by first | exact .inl rfl | exact .inr rfl)
    (h1 : swapsWithSole [.Name x px] e pos.line X.env = pure false := by rfl) (h3 : swappedStores [.Name x px] e X.env = pure none := by rfl) (h4 : (assignEach [.Name x px] X.env).map (·.2) = [assign (.Name x px) X.env] := by rfl) : St X W g (.Assign [.Name x px] e pos) (fOwn i u) := by
  obtain ⟨te, p1, q1⟩ := h
  exact ⟨_, ps_asg p1 (pg_name hN hi hx hf) h1 h3 h4, ss_own q1⟩
/-- an object is given a name -/
def fSetOb (i : Nat) (f : FB) : FS := fun ρ z => (f ρ z).bind fun k z => .ok (.nx (ρ.set i (some (.ob k)))) z
theorem st_setOb (i : Nat) {x : Str} {px : Pos} {f : FB} (h : Ob X W g e f) (hN : X.N.Nodup) (hi : X.N[i]? = some x := by rfl) (hx : Loc X.env.scope x := by first | exact Or.inl rfl | exact Or.inr rfl) (hf : X.fn x = true ∨ X.env.scope.names.lookup x = some .local := by first | exact .inl rfl | exact .inr rfl)
    (h1 : swapsWithSole [.Name x px] e pos.line X.env = pure false := by rfl) (h3 : swappedStores [.Name x px] e X.env = pure none := by rfl) (h4 : (assignEach [.Name x px] X.env).map (·.2) = [assign (.Name x px) X.env] := by rfl) : St X W g (.Assign [.Name x px] e pos) (fSetOb i f) := by
  obtain ⟨te, p1, q1⟩ := h
  refine ⟨_, ps_asg p1 (pg_name hN hi hx hf) h1 h3 h4, fun σ w H ρ z D sr p => ?_⟩
  unfold fSetOb at p
  rw [sat_bind] at p
  exact q1 σ w H ρ z _ sr (p.mono (fun k z1 p a w1 H1 l1 sr1 ha => p _ w1 H1 l1.le (sr1.setN (s := .ob k) rfl ⟨a, ha, rfl⟩)) fun _ _ => xs1)
end
/-! ### a def keeps its promise -/
def startD (N : List Str) (ss : List S) : Sl := ss.map some ++ List.replicate (N.length - ss.length) none
def outS : Out → Z → Res S
  | .nx _, z => .ok (.d .none) z
  | .rt s, z => .ok s z
  | _, _ => .bad
theorem outS_nx {ρ : Sl} {z : Z} : outS (.nx ρ) z = .ok (.d .none) z := rfl
theorem outS_rt {s : S} {z : Z} : outS (.rt s) z = .ok s z := rfl
def fnOf (N : List Str) (body : FS) : Fu := fun ss z => (body (startD N ss) z).bind outS
section
variable {P : Program} {w : World} {K : Fg} {mg : Str → Option Value} {base : Heap}
theorem args_get {κ : Kt} {w : Wd} : ∀ {vs : List V} {ss : List S} {i : Nat} {s : S}, ArgsOk κ w vs ss → ss[i]? = some s → ∃ v, vs[i]? = some v ∧ ArgOk κ w v s
  | [], [], _, _, _, e => by simp at e
  | v :: vs, s :: ss, 0, _, ⟨a, b⟩, e => by simp at e; subst e; exact ⟨v, rfl, a⟩
  | v :: vs, s :: ss, i + 1, _, ⟨a, b⟩, e => by
    obtain ⟨v', h1, h2⟩ := args_get (i := i) b (by simpa using e)
    exact ⟨v', by simpa using h1, h2⟩
theorem sr_start {κ : Kt} {w : Wd} {H : Hp} {z : Z} {N : List Str} {vs : List V} {ss : List S} (ex : Ex w.F H) (zo : ZOk κ w H z) (ao : ArgsOk κ w vs ss) : SR κ ⟨H, w⟩ w H (start N vs) (startD N ss) z := by
  have key : ∀ (i : Nat) (y : S), (startD N ss)[i]? = some (some y) → ss[i]? = some y := fun i y e => by
    unfold startD at e
    by_cases h : i < ss.length
    · rw [List.getElem?_append_left (by simpa using h), List.getElem?_map] at e
      cases q : ss[i]? with
      | none => rw [q] at e; cases e
      | some y => rw [q] at e; cases e; rfl
    · rw [List.getElem?_append_right (by simpa using h), List.getElem?_replicate] at e
      split at e <;> cases e
  refine ⟨Go.refl ex, zo, fun i y e => ?_, fun i j l s t e1 _ o1 _ _ _ => ?_, ?_⟩
  · obtain ⟨v, h1, h2⟩ := args_get ao (key i y e)
    refine ⟨v, ?_, ?_⟩
    · unfold L2.start
      have hi : i < vs.length := (List.getElem?_eq_some_iff.mp h1).1
      rw [List.getElem?_append_left (by simpa using hi), List.getElem?_map, h1]
      rfl
    · cases y with
      | d d => exact h2
      | ob k => exact h2
      | r u => exact h2
      | o ds => exact h2.elim
      | s ns => exact h2
  · obtain ⟨v, h1, h2⟩ := args_get ao (key i _ e1)
    cases s <;> first | exact False.elim h2 | cases o1
  · unfold startD L2.start
    simp [args_len ao]
theorem ok_G {x qual : Str} {st : Stmt} {f : Addr} {fd : FuncData} {N ps : List Str} {k : Nat} {sp : Sp} (F : Fun K x qual st f fd) (S : FnScope N ps (defScope st)) (len : ∀ vs H Q E, sp vs H Q E → vs.length = ps.length)
    (hbody : ∀ (cdv : Value) (A : Around) (outer : List Env) (s : Shared) (H : Hp) (vs : List V) (Q : VK) (E : XK), Rm k (A.deeper (envOfC qual (defScope st) s.heap.objs.size f cdv)) → sp vs H Q E →
      ∃ t, PSs (cxOf (CX P w) P w K mg base N qual (defScope st) f cdv A outer s H E) (defBody st) t ∧ t { nx := fun _ H' => Q .non H', rt := Q } (start N vs) H) : FnG P w K mg base (k + 1) f fd ps sp := by
  obtain ⟨oc, od, kV, doc, pm, an, cdv, ct, osl, rfl, lk, hcd⟩ := F.ex
  refine ⟨len, fun A outer s H args us vs Q E hr e0 hb rv hsp => ?_⟩
  have up : ∀ b o, base.get? b = some o → s.heap.get? b = some o := fun b o h => (e0.bs b o h).1
  have KX : K.In s.heap := e0.mod.kin.keeps up
  have kinds : ∀ y ∈ ps.zip us, (defScope st).names.lookup y.1 = some .local ∨ ((defScope st).names.lookup y.1 = some .cell ∧ ((cellsFrom (s.heap.objs.size + 1) (defScope st).names []).lookup y.1).isSome = true) := by
    rintro ⟨n, v⟩ hy
    exact (S.par n (List.of_mem_zip hy).1).imp id fun q => ⟨q, PySem.W.cellsFrom_some _ _ _ (.inl q)⟩
  refine codeAny_call_function hr.rm.depth (KX _ _ lk) rfl S.co S.gen rfl (PySem.W.codeRec_of KX hcd) (hb _ _ _ _ (wpAny_newFunctionEnv_cells S.kind kinds fun env he s1 inC => ?_))
  subst he
  obtain ⟨t, ht, hq⟩ := hbody cdv A outer s H vs Q E (hr.deeper _) hsp
  have I := inv_start (CX := CX P w) (E := E) S hr.rm.hd e0 (len _ _ _ _ hsp) rv inC
  refine ⟨(e0.mod.nolimit.keeps up).keeps inC.toInCall.keep, codeAny_func (wpAny_mono (ht.run [] s1 (start N vs) H _ I hq) (fun fl s' hs => ?_) fun e s' hs => hs)⟩
  match fl, hs with
  | .ret u, ⟨v, _, H', J, r, q⟩ => exact ⟨v, H', J.os, J.bare, J.base, J.hok, r, q⟩
  | .next, ⟨_, H', J, q⟩ => exact ⟨V.non, H', J.os, J.bare, J.base, J.hok, rfl, q⟩
  | .brk, ⟨_, _, _, q⟩ => exact q.elim
  | .cont, ⟨_, _, _, q⟩ => exact q.elim
abbrev WE0 (E : XK) : WX := fun cls d _ H => E cls d H
theorem fn_okG {x qual : Str} {st : Stmt} {f : Addr} {fd : FuncData} {N ps : List Str} {k : Nat} {body : FS} (Fn : Fun K x qual st f fd) (S : FnScope N ps (defScope st))
    (hbody : ∀ (cdv : Value) (A : Around) (outer : List Env) (s : Shared) (H : Hp) (E : XK) (g : G), Takes (cxOf (CX P w) P w K mg base N qual (defScope st) f cdv A outer s H E) (WE0 E) → PassesOwn (model P w) (A.deeper (envOfC qual (defScope st) s.heap.objs.size f cdv)) (envOfC qual (defScope st) s.heap.objs.size f cdv) (cxOf (CX P w) P w K mg base N qual (defScope st) f cdv A outer s H E).xe →
      Rm k (A.deeper (envOfC qual (defScope st) s.heap.objs.size f cdv)) → Sts (cxOf (CX P w) P w K mg base N qual (defScope st) f cdv A outer s H E) (WE0 E) g (defBody st) body) : FnG P w K mg base (k + 1) f fd ps (spF ⟨K, mg⟩ ps.length (fnOf N body)) := by
  refine ok_G Fn S (fun vs H Q E h => ?_) (fun cdv A outer s H vs Q E hr h => ?_)
  · obtain ⟨w1, z, ss, _, _, ao, hl, _⟩ := h
    rw [args_len ao]; exact hl
  · obtain ⟨w1, z, ss, ex, zo, ao, hl, h⟩ := h
    obtain ⟨te, p1, q1⟩ := hbody cdv A outer s H E ⟨H, w1⟩ (takes_of rfl rfl rfl rfl) (passes_of rfl) hr
    refine ⟨te, p1, q1 _ w1 H _ z _ (sr_start ex zo ao) ?_⟩
    unfold fnOf at h
    rw [sat_bind] at h
    refine h.mono (fun o z1 q => ?_) fun y z1 q cls od w2 H2 σ2 ρ2 hm py sr => q cls od w2 H2 hm py sr.gr sr.zo
    cases o with
    | nx ρ => exact fun σ' w2 H' l sr => q .non w2 H' sr.gr sr.zo .non
    | rt s => exact fun σ' ρ' v w2 H' sr vo => q v w2 H' sr.gr sr.zo vo
    | bk ρ => exact q.elim
    | ct ρ => exact q.elim
theorem fn_is {x : Str} {st : Stmt} {N ps : List Str} {k : Nat} {body : FS} (Fa : DL.FunAt K mg x st ps) (S : FnScope N ps (defScope st))
    (hbody : ∀ (f : Addr) (cdv : Value) (A : Around) (outer : List Env) (s : Shared) (H : Hp) (E : XK) (g : G), Takes (cxOf (CX P w) P w K mg base N x (defScope st) f cdv A outer s H E) (WE0 E) → PassesOwn (model P w) (A.deeper (envOfC x (defScope st) s.heap.objs.size f cdv)) (envOfC x (defScope st) s.heap.objs.size f cdv) (cxOf (CX P w) P w K mg base N x (defScope st) f cdv A outer s H E).xe →
      Rm k (A.deeper (envOfC x (defScope st) s.heap.objs.size f cdv)) → Sts (cxOf (CX P w) P w K mg base N x (defScope st) f cdv A outer s H E) (WE0 E) g (defBody st) body) : Fn P w K mg base (k + 1) x ps (fnOf N body) := by
  obtain ⟨f, fd, h1, h2, h3⟩ := Fa
  exact ⟨f, fd, fn_okG h1 S (fun cdv A outer s H E g => hbody f cdv A outer s H E g), h2, h1.kp, h3⟩
end

end FL

namespace FL
open PySem
open L2 hiding Dp DpAll
open DL (D Fg Ex Dp DpAll DpKv dp_ex dpa_ex dpk_ex Grow OpD UnD CallD CallL dpa_len dpa_get dpa_get' dpa_app dpa_rev dpa_erase dpa_take dpa_drop dpa_ints ints_dpa dpa_set dp_list dp_tuple dp_int dp_str dp_bool)
open PySem.Spec PyProof.Rows
/-! ### what is walked -/
abbrev Walks := DL.Walks
abbrev W0 : WX := fun _ _ _ _ => False
def SI (κ : Kt) (g : G) (W : WX) (wi : TI) (f : FLs) : Prop := ∀ σ w H ρ z (R : It → Hp → Prop), SR κ g w H σ ρ z → Sat (f ρ z) (fun items z' => ∀ J w' H', Go w H w' H' → SR κ g w' H' σ ρ z' → Walks κ.K J w'.F items → R J H') (XE1 κ g W σ ρ) → wi σ H R
structure I (X : Cx) (W : WX) (g : G) (tg iter : Expr) (f : FLs) : Prop where
  ok : ∃ wi, PI X tg iter wi ∧ SI (kt X) g W wi f
def loopK (k : FS) : Out → Z → Res Out
  | .nx ρ, z => k ρ z
  | .ct ρ, z => k ρ z
  | .bk ρ, z => .ok (.nx ρ) z
  | .rt d, z => .ok (.rt d) z
theorem loopK_nx {h : FS} {ρ : Sl} {z : Z} : loopK h (.nx ρ) z = h ρ z := rfl
theorem loopK_ct {h : FS} {ρ : Sl} {z : Z} : loopK h (.ct ρ) z = h ρ z := rfl
theorem loopK_bk {h : FS} {ρ : Sl} {z : Z} : loopK h (.bk ρ) z = .ok (.nx ρ) z := rfl
theorem loopK_rt {h : FS} {d : S} {z : Z} : loopK h (.rt d) z = .ok (.rt d) z := rfl
def fLoop (gf : FG) (b : FS) : List D → FS
  | [], ρ, z => .ok (.nx ρ) z
  | d :: r, ρ, z => (ofO (gf d ρ) z).bind fun ρ1 z => (b ρ1 z).bind (loopK (fLoop gf b r))
theorem fLoop_nil {gf : FG} {b : FS} {ρ : Sl} {z : Z} : fLoop gf b [] ρ z = .ok (.nx ρ) z := rfl
theorem fLoop_cons {gf : FG} {b : FS} {d : D} {r : List D} {ρ : Sl} {z : Z} : fLoop gf b (d :: r) ρ z = (ofO (gf d ρ) z).bind fun ρ1 z => (b ρ1 z).bind (loopK (fLoop gf b r)) := rfl
def fFor (fi : FLs) (gf : FG) (b : FS) : FS := fun ρ z => (fi ρ z).bind fun items z => fLoop gf b items ρ z
section
variable {X : Cx} {W : WX} {g : G} {tg iter e a b c : Expr} {es : List Expr} {body : List Stmt} {fi : FLs} {gf : FG} {fb : FS} {pos : Pos} {f fa : FX} {is : List Nat} {κ : Kt} {u : FT} {fd : FLs}
theorem ss_for {wi : TI} {tgt : TG} {tbt : TS} (h1 : SI κ g W wi fi) (h2 : SGt κ g is tgt gf) (h3 : SS κ g W tbt fb) : SS κ g W (tFor wi tgt tbt) (fFor fi gf fb) := by
  intro σ w H ρ z D sr p
  unfold fFor at p
  rw [sat_bind] at p
  refine h1 σ w H ρ z _ sr (p.mono (fun items z' p J ww Hw l0' sr' wk => ?_) fun _ _ => xs1)
  have l0 := l0'.le
  refine ⟨fun i m σ H => i + m = items.length ∧ ∃ w1 ρ z, Le ww w1 ∧ SR κ g w1 H σ ρ z ∧ Sat (fLoop gf fb (items.drop i) ρ z) (OutOk κ g w D) (XS κ g W), ⟨items.length, by omega, ww, ρ, z', Le.refl _, sr', by simpa using p⟩, fun i m σ H ⟨em, w1, ρ, z, lw, sr, p⟩ => ?_⟩
  by_cases hi : i < items.length
  · refine .inr ⟨wk.go i w1.F H lw.f sr.ex hi, fun σ' H' => ∃ w1 ρ z, Le ww w1 ∧ SR κ g w1 H' σ' ρ z ∧ Sat (fLoop gf fb (items.drop (i + 1)) ρ z) (OutOk κ g w D) (XS κ g W), fun σ' H' hN => ⟨m - 1, by omega, by omega, hN⟩, fun x H' hy => ?_⟩
    obtain ⟨d, F', hd, gr, dx⟩ := wk.yld i w1.F H x H' lw.f sr.ex hi hy
    rw [DL.drop_at hd, fLoop_cons, sat_bind] at p
    obtain ⟨ρ1, e1, p⟩ := sat_ofO p
    refine h2 x σ ⟨F', w1.mu⟩ H' d ρ z _ ρ1 (sr.grow gr) dx e1 fun σ1 sr1 _ => ?_
    rw [sat_bind] at p
    have lg : Le w1 ⟨F', w1.mu⟩ := le_grow gr
    refine h3 σ1 _ H' ρ1 z _ sr1 (p.imp fun o z2 q => ?_)
    cases o with
    | nx ρ2 => exact fun σ2 w2 H2 l2 sr2 => ⟨w2, ρ2, z2, (lw.trans lg).trans l2, sr2, q⟩
    | ct ρ2 => exact fun σ2 w2 H2 l2 sr2 => ⟨w2, ρ2, z2, (lw.trans lg).trans l2, sr2, q⟩
    | bk ρ2 => exact fun σ2 w2 H2 l2 sr2 => q σ2 w2 H2 ((l0.trans (lw.trans lg)).trans l2) sr2
    | rt d => exact q
  · have ei : i = items.length := by omega
    subst ei
    refine .inl ⟨wk.stop w1.F H lw.f sr.ex, ?_⟩
    rw [List.drop_length] at p
    exact p σ w1 H (l0.trans lw) sr
theorem st_for (po : PassesOwn (model X.prog X.w) X.A X.env X.xe) (hc : X.calm = true) (h1 : I X W g tg iter fi) (h2 : Gt X g tg is gf) (h3 : Sts X W g body fb) (hf : ∀ x, foldedSetIterable iter X.env x = pure x := by intro _; rfl) : St X W g (.For tg iter body [] pos) (fFor fi gf fb) := by
  obtain ⟨w, p1, q1⟩ := h1
  obtain ⟨t2, p2, q2⟩ := h2
  obtain ⟨t3, p3, q3⟩ := h3
  exact ⟨_, ps_for po hc p1 p2 p3 hf, ss_for q1 q2 q3⟩
/-! ### iterables -/
def itemsAny : D → Option (List D)
  | .list ds => some ds
  | .tuple ds => some ds
  | .str x => some (DL.signsD x)
  | _ => none
def fItems (f : FX) : FLs := fun ρ z => (f ρ z).bind fun d z => ofO (itemsAny d) z
theorem PI.or {w1 w2 : TI} (h1 : PI X tg e w1) (h2 : PI X tg e w2) : PI X tg e (fun σ H R => w1 σ H R ∨ w2 σ H R) :=
  ⟨fun pins s σ H R I h => by
    rcases h with h | h
    · exact h1.run pins s σ H R I h
    · exact h2.run pins s σ H R I h⟩
theorem i_seq (h : E X W g e f) : I X W g tg e (fItems f) := by
  obtain ⟨te, p1, q1⟩ := h
  refine ⟨_, PI.or (pi_list p1) (PI.or (pi_tup p1) (pi_str p1)), fun σ w H ρ z R sr p => ?_⟩
  unfold fItems at p
  cases q : f ρ z with
  | bad => rw [q] at p; exact p.elim
  | ex x z1 =>
    rw [q] at p
    refine .inl (q1 σ w H ρ z _ sr ?_)
    rw [q]; exact p
  | ok d z1 =>
    rw [q, ok_bind] at p
    obtain ⟨items, e1, p⟩ := sat_ofO p
    cases d <;> try cases e1
    · refine .inr (.inr (q1 σ w H ρ z _ sr ?_))
      rw [q]
      refine fun v w1 H1 l1 sr1 dv => ?_
      rename_i x _
      have e := dp_str dv
      subst e
      have hl : (DL.signsD x).length = x.cps.size := by unfold DL.signsD; simp
      refine ⟨x, rfl, p _ w1 H1 l1 sr1 ⟨fun i F1 H1 _ _ hi => ?_, fun i F1 H1 y H2 _ e2 hi hy => ?_, fun F1 H1 _ _ => ?_⟩⟩
      · show i < x.cps.size
        rw [hl] at hi; exact hi
      · obtain ⟨rfl, c, hc, rfl⟩ := hy
        refine ⟨_, F1, ?_, DL.Grow.refl e2, .str ⟨#[c]⟩⟩
        unfold DL.signsD
        rw [List.getElem?_map, Array.getElem?_toList, hc]
        rfl
      · show x.cps.size ≤ _
        rw [hl]; exact Nat.le_refl _
    · refine .inl (q1 σ w H ρ z _ sr ?_)
      rw [q]
      refine fun v w1 H1 l1 sr1 dv => ?_
      obtain ⟨a, xs, rfl, h1, h2⟩ := dp_list dv
      refine ⟨a, rfl, ⟨xs, SqL.of (sr1.ex _ _ h1)⟩, p _ w1 H1 l1 sr1 ⟨fun i F1 H1 e1 e2 hi => ?_, fun i F1 H1 x H2 e1 e2 hi hy => ?_, fun F1 H1 e1 e2 => ?_⟩⟩
      · have hl := dpa_len h2
        exact ⟨xs, _, SqL.of (e2 _ _ (e1 _ _ h1)), List.getElem?_eq_getElem (by omega)⟩
      · obtain ⟨rfl, hx⟩ := hy
        obtain ⟨d, hd, dx⟩ := dpa_get h2 (hx xs (SqL.of (e2 _ _ (e1 _ _ h1))))
        exact ⟨d, F1, hd, DL.Grow.refl e2, dp_ex e1 _ _ dx⟩
      · exact ⟨xs, SqL.of (e2 _ _ (e1 _ _ h1)), by rw [dpa_len h2]; exact Nat.le_refl _⟩
    · refine .inr (.inl (q1 σ w H ρ z _ sr ?_))
      rw [q]
      refine fun v w1 H1 l1 sr1 dv => ?_
      obtain ⟨a, xs, rfl, h1, h2⟩ := dp_tuple dv
      refine ⟨a, rfl, ⟨xs, Evl.ex_t sr1.ex h1⟩, p _ w1 H1 l1 sr1 ⟨fun i F1 H1 e1 e2 hi => ?_, fun i F1 H1 x H2 e1 e2 hi hy => ?_, fun F1 H1 e1 e2 => ?_⟩⟩
      · have hl := dpa_len h2
        exact ⟨xs, _, Evl.ex_t (e1.trans e2) h1, List.getElem?_eq_getElem (by omega)⟩
      · obtain ⟨rfl, hx⟩ := hy
        obtain ⟨d, hd, dx⟩ := dpa_get h2 (hx xs (Evl.ex_t (e1.trans e2) h1))
        exact ⟨d, F1, hd, DL.Grow.refl e2, dp_ex e1 _ _ dx⟩
      · exact ⟨xs, Evl.ex_t (e1.trans e2) h1, by rw [dpa_len h2]; exact Nat.le_refl _⟩
/-- the script -/
def slotSc : Sl → Nat → Z → Res (List D)
  | [], _, _ => .bad
  | none :: _, 0, _ => .bad
  | some s :: _, 0, z => match s with | .s ns => .ok (ns.map .int) z | _ => .bad
  | _ :: ρ, i + 1, z => slotSc ρ i z
theorem slotSc_0 {ns : List Int} {ρ : Sl} {z : Z} : slotSc (some (.s ns) :: ρ) 0 z = .ok (ns.map .int) z := rfl
theorem slotSc_s {s : Option S} {ρ : Sl} {i : Nat} {z : Z} : slotSc (s :: ρ) (i + 1) z = slotSc ρ i z := by cases s <;> rfl
theorem slotSc_eq : ∀ {ρ : Sl} {i : Nat} {z : Z} {P : List D → Z → Prop} {Y : Xc → Z → Prop}, Sat (slotSc ρ i z) P Y → ∃ ns, ρ[i]? = some (some (.s ns)) ∧ P (ns.map .int) z
  | [], _, _, _, _, h => h.elim
  | none :: _, 0, _, _, _, h => h.elim
  | some s :: _, 0, z, P, Y, h => by
    cases s <;> first | exact False.elim h | exact ⟨_, rfl, h⟩
  | s :: ρ, i + 1, z, P, Y, h => by
    rw [slotSc_s] at h
    obtain ⟨d, e, p⟩ := slotSc_eq (ρ := ρ) (i := i) h
    exact ⟨d, by simpa using e, p⟩
def fScr (i : Nat) : FLs := fun ρ z => slotSc ρ i z
theorem i_scr (i : Nat) {x : Str} (hN : X.N[i]? = some x := by rfl) (hv : Vis X.env.scope x := by first | exact Or.inl rfl | exact Or.inr (Or.inl rfl) | exact Or.inr (Or.inr rfl)) (hd : (x == ("__debug__" : Str)) = false := by decide)
    (hcd : (x == ("__classdict__" : Str)) = false := by decide) : I X W g tg (.Name x pos) (fScr i) := by
  refine ⟨_, pi_list (pe_var hN hv hd hcd), fun σ w H ρ z R sr p => ?_⟩
  obtain ⟨ns, e, p⟩ := slotSc_eq p
  obtain ⟨v, hv, a, rfl, h1⟩ := sr.sl i _ e
  refine ⟨_, hv, a, rfl, ⟨_, Evl.ex_l sr.ex h1⟩, p _ w H (Go.refl sr.ex) sr ⟨fun i F1 H1 e1 e2 hi => ?_, fun i F1 H1 x H2 e1 e2 hi hy => ?_, fun F1 H1 e1 e2 => ?_⟩⟩
  · exact ⟨_, _, Evl.ex_l (e1.trans e2) h1, List.getElem?_eq_getElem (by simpa using hi)⟩
  · obtain ⟨rfl, hx⟩ := hy
    obtain ⟨d, hd, dx⟩ := dpa_get (dpa_ints ns) (hx _ (Evl.ex_l (e1.trans e2) h1))
    exact ⟨d, F1, hd, DL.Grow.refl e2, dx⟩
  · exact ⟨_, Evl.ex_l (e1.trans e2) h1, by simp⟩
def fLenS (i : Nat) : FX := fun ρ z => (slotSc ρ i z).bind fun ds z => .ok (.int (ds.length : Nat)) z
theorem e_lenS (i : Nat) {x : Str} {p px : Pos} (hg : Gl X "len") (hm : X.mg "len" = none) (hN : X.N[i]? = some x := by rfl) (hv : Vis X.env.scope x := by first | exact Or.inl rfl | exact Or.inr (Or.inl rfl) | exact Or.inr (Or.inr rfl)) (hd : (x == ("__debug__" : Str)) = false := by decide)
    (hcd : (x == ("__classdict__" : Str)) = false := by decide) (hst : starEach [.Name x px] X.env = (false, eval (.Name x px) X.env) :: starEach [] X.env := by rfl) (hpl : (backTo pos (starEach [] X.env)).any (·.1) = false := by rfl) : E X W g (.Call (.Name "len" p) [.Name x px] [] pos) (fLenS i) := by
  refine ⟨_, pe_callB call_len_seq hg hm PySem.boot_len (pa_cons (pe_var hN hv hd hcd) pa_nil hst) (by decide) (by decide) hst hpl, fun σ w H ρ z Q sr p => ?_⟩
  unfold fLenS at p
  rw [sat_bind] at p
  obtain ⟨ns, e, p⟩ := slotSc_eq p
  obtain ⟨v, hv, a, rfl, h1⟩ := sr.sl i _ e
  have p := p (.int ((ns.map (PyData.int)).length : Nat)) w H (Go.refl sr.ex) sr (.int _)
  rw [List.length_map] at p
  exact ⟨_, hv, a, _, rfl, .inl (Evl.ex_l sr.ex h1), by rw [List.length_map]; exact p⟩
/-! ### ranges -/
def rng1 : List D → Option (List D)
  | [.int j] => if (decide (-1000000000 ≤ j) && decide (j ≤ 1000000000)) = true then some (DL.rangeD 0 j.toNat) else none
  | _ => none
def rng2 : List D → Option (List D)
  | [.int i, .int j] => if (decide (-1000000000 ≤ i) && decide (i ≤ 1000000000) && decide (-1000000000 ≤ j) && decide (j ≤ 1000000000)) = true then some (DL.rangeD i (j - i).toNat) else none
  | _ => none
def fR1 (fd : FLs) : FLs := fun ρ z => (fd ρ z).bind fun ds z => ofO (rng1 ds) z
def fR2 (fd : FLs) : FLs := fun ρ z => (fd ρ z).bind fun ds z => ofO (rng2 ds) z
theorem i_range1 {p : Pos} (hg : Gl X "range") (hm : X.mg "range" = none) (h : Da X W g [a] fd) (hs : starEach [a] X.env = [(false, eval a X.env)] := by rfl) : I X W g tg (.Call (.Name "range" p) [a] [] pos) (fR1 fd) := by
  obtain ⟨te, p1, q1⟩ := h
  refine ⟨_, pi_range1 hg hm p1 hs, fun σ w H ρ z R sr p => ?_⟩
  unfold fR1 at p
  rw [sat_bind] at p
  refine q1 σ w H ρ z _ sr (p.imp fun ds z1 p vs w1 H1 l1 sr1 da => ?_)
  obtain ⟨items, e, p⟩ := sat_ofO p
  unfold rng1 at e
  split at e
  · rename_i j
    split at e
    · rename_i hb
      rw [Bool.and_eq_true, decide_eq_true_eq, decide_eq_true_eq] at hb
      cases e
      cases da with
      | cons h1 h2 =>
        cases h1; cases h2
        exact ⟨j, rfl, by omega, by omega, p _ w1 H1 l1 sr1 DL.walks_range⟩
    · cases e
  · cases e
theorem i_range2 {p : Pos} (hg : Gl X "range") (hm : X.mg "range" = none) (h : Da X W g [a, b] fd) (hs : starEach [a, b] X.env = [(false, eval a X.env), (false, eval b X.env)] := by rfl) (hs2 : starEach [b] X.env = [(false, eval b X.env)] := by rfl) : I X W g tg (.Call (.Name "range" p) [a, b] [] pos) (fR2 fd) := by
  obtain ⟨te, p1, q1⟩ := h
  refine ⟨_, pi_range2 hg hm p1 hs hs2, fun σ w H ρ z R sr p => ?_⟩
  unfold fR2 at p
  rw [sat_bind] at p
  refine q1 σ w H ρ z _ sr (p.imp fun ds z1 p vs w1 H1 l1 sr1 da => ?_)
  obtain ⟨items, e, p⟩ := sat_ofO p
  unfold rng2 at e
  split at e
  · rename_i i j
    split at e
    · rename_i hb
      simp only [Bool.and_eq_true, decide_eq_true_eq] at hb
      cases e
      cases da with
      | cons h1 h2 =>
        cases h1
        cases h2 with
        | cons h3 h4 =>
          cases h3; cases h4
          exact ⟨i, j, rfl, ⟨by omega, by omega, by omega, by omega⟩, p _ w1 H1 l1 sr1 DL.walks_range⟩
    · cases e
  · cases e
/-! ### while -/
def whileN (c : FT) (b : FS) : Nat → FS
  | 0, _, _ => .bad
  | n + 1, ρ, z => (c ρ z).bind fun t z => choose t (fun ρ z => (b ρ z).bind (loopK (whileN c b n))) (fun ρ z => .ok (.nx ρ) z) ρ z
theorem whileN_s {c : FT} {b : FS} {n : Nat} {ρ : Sl} {z : Z} : whileN c b (n + 1) ρ z = (c ρ z).bind fun t z => choose t (fun ρ z => (b ρ z).bind (loopK (whileN c b n))) (fun ρ z => .ok (.nx ρ) z) ρ z := rfl
def fWhile (c : FT) (b : FS) : FS := fun ρ z => whileN c b 1000000 ρ z
theorem st_while (po : PassesOwn (model X.prog X.w) X.A X.env X.xe) {c : Expr} (h1 : B X W g c u) (h2 : Sts X W g body fb) : St X W g (.While c body [] pos) (fWhile u fb) := by
  obtain ⟨t1, p1, q1⟩ := h1
  obtain ⟨t2, p2, q2⟩ := h2
  refine ⟨_, ps_while po p1 p2, fun σ w0 H ρ z D sr p => ?_⟩
  refine ⟨fun m σ H => ∃ w ρ z, Le w0 w ∧ SR (kt X) g w H σ ρ z ∧ Sat (whileN u fb m ρ z) (OutOk (kt X) g w0 D) (XS (kt X) g W), ⟨1000000, w0, ρ, z, Le.refl _, sr, p⟩, fun m σ H ⟨w, ρ, z, l0, sr, p⟩ => ?_⟩
  cases m with
  | zero => exact False.elim p
  | succ m =>
    rw [whileN_s, sat_bind] at p
    refine q1 σ w H ρ z _ sr (p.mono (fun t z1 p w1 H1 l1' sr1 => ?_) fun _ _ => xs1)
    have l1 := l1'.le
    cases t with
    | true =>
      rw [if_pos rfl]
      rw [choose_t, sat_bind] at p
      refine ⟨fun σ' H' => ∃ m', m' < m + 1 ∧ ∃ w ρ z, Le w0 w ∧ SR (kt X) g w H' σ' ρ z ∧ Sat (whileN u fb m' ρ z) (OutOk (kt X) g w0 D) (XS (kt X) g W), fun σ' H' h => h, ?_⟩
      refine q2 σ w1 H1 ρ z1 _ sr1 (p.imp fun o z2 q => ?_)
      cases o with
      | nx ρ2 => exact fun σ2 w2 H2 l2 sr2 => ⟨m, Nat.lt_succ_self m, w2, ρ2, z2, (l0.trans l1).trans l2, sr2, q⟩
      | ct ρ2 => exact fun σ2 w2 H2 l2 sr2 => ⟨m, Nat.lt_succ_self m, w2, ρ2, z2, (l0.trans l1).trans l2, sr2, q⟩
      | bk ρ2 => exact fun σ2 w2 H2 l2 sr2 => q σ2 w2 H2 ((l0.trans l1).trans l2) sr2
      | rt d => exact q
    | false =>
      rw [if_neg Bool.false_ne_true]
      exact p σ w1 H1 (l0.trans l1) sr1
/-! ### comprehensions -/
def wipeD (ρ : Sl) : List Nat → Sl
  | [] => ρ
  | v :: vs => (wipeD ρ vs).set v none
theorem SR.wipe {w : Wd} {H : Hp} {σ : L2.St} {ρ : Sl} {z : Z} (sr : SR κ g w H σ ρ z) : ∀ vs : List Nat, SR κ g w H (L2.wipe σ vs) (wipeD ρ vs) z
  | [] => sr
  | v :: vs => (sr.wipe vs).forget
theorem wipe_bt {σ σ' : L2.St} {ρ ρ' : Sl} {is vs : List Nat} (h : Bt is (L2.wipe σ vs) σ' ρ ρ') (hs : ∀ i ∈ is, i ∈ vs) : L2.wipe σ' vs = L2.wipe σ vs := by
  apply List.ext_getElem?
  intro j
  have hl : σ'.length = σ.length := by rw [h.len, wipe_length]
  by_cases hj : j ∈ vs
  · rw [DL.wipe_in hj, DL.wipe_in hj, hl]
  · rw [DL.wipe_get hj, h.get j fun z => hj (hs j z)]
theorem wipeD_own {σ : L2.St} {ρ : Sl} : ∀ {vs : List Nat} {j : Nat} {s : S}, (wipeD ρ vs)[j]? = some (some s) → ρ[j]? = some (some s) ∧ (L2.wipe σ vs)[j]? = σ[j]?
  | [], _, _, h => ⟨h, rfl⟩
  | v :: vs, j, s, h => by
    have h' : ((wipeD ρ vs).set v none)[j]? = some (some s) := h
    by_cases c : v = j
    · subst c
      rw [List.getElem?_set_self'] at h'
      cases q : (wipeD ρ vs)[v]? with
      | none => rw [q] at h'; cases h'
      | some o => rw [q] at h'; cases h'
    · rw [List.getElem?_set_ne c] at h'
      obtain ⟨h1, h2⟩ := wipeD_own (σ := σ) h'
      refine ⟨h1, ?_⟩
      show ((L2.wipe σ vs).set v none)[j]? = _
      rw [List.getElem?_set_ne c]; exact h2
theorem Free.wiped {w : Wd} {σ σ1 : L2.St} {ρ ρ1 : Sl} {vs is : List Nat} {p : Addr} (fr : Free g w σ ρ p) (bt : Bt is (L2.wipe σ vs) σ1 (wipeD ρ vs) ρ1) : Free g w σ1 ρ1 p :=
  ⟨fr.f, fr.b, fr.m, fun j s h o z => by
    obtain ⟨h1, h2⟩ := bt.own j s h o
    obtain ⟨h3, h4⟩ := wipeD_own (σ := σ) h1
    exact fr.no j s h3 o (by rw [← h4, ← h2]; exact z)⟩
def noEx {α : Type} : Res α → Res α
  | .ex _ _ => .bad
  | r => r
theorem noEx_ok {α : Type} {a : α} {z : Z} : noEx (.ok a z) = .ok a z := rfl
theorem sat_noEx {α : Type} {r : Res α} {P : α → Z → Prop} {Y Y' : Xc → Z → Prop} (h : Sat (noEx r) P Y) : Sat r P Y' := by
  cases r <;> first | exact h | exact False.elim h
abbrev BlkI := DL.BlkI
abbrev blkX := DL.blkX
def fYes : FT := fun _ z => .ok true z
def fCompL (vs : List Nat) (gf : FG) (tf : FT) (ef : FX) (ρ : Sl) : List D → List D → Z → Res (List D)
  | [], acc, z => .ok acc z
  | d :: r, acc, z => (ofO (gf d (wipeD ρ vs)) z).bind fun ρ1 z => (noEx (tf ρ1 z)).bind fun b z => if b = true then (noEx (ef ρ1 z)).bind fun y z => okIf (decide (acc.length < 100000)) (fCompL vs gf tf ef ρ r (acc ++ [y]) z) else fCompL vs gf tf ef ρ r acc z
theorem fCompL_nil {vs : List Nat} {gf : FG} {tf : FT} {ef : FX} {ρ : Sl} {acc : List D} {z : Z} : fCompL vs gf tf ef ρ [] acc z = .ok acc z := rfl
theorem fCompL_cons {vs : List Nat} {gf : FG} {tf : FT} {ef : FX} {ρ : Sl} {d : D} {r acc : List D} {z : Z} : fCompL vs gf tf ef ρ (d :: r) acc z = (ofO (gf d (wipeD ρ vs)) z).bind fun ρ1 z => (noEx (tf ρ1 z)).bind fun b z => if b = true then (noEx (ef ρ1 z)).bind fun y z => okIf (decide (acc.length < 100000)) (fCompL vs gf tf ef ρ r (acc ++ [y]) z) else fCompL vs gf tf ef ρ r acc z := rfl
def fComp (fi : FLs) (gf : FG) (tf : FT) (ef : FX) (vs : List Nat) : FLs := fun ρ z => (fi ρ z).bind fun items z => fCompL vs gf tf ef ρ items [] z
/-- the list that is being made -/
structure Mk (κ : Kt) (g : G) (w0 : Wd) (H0 : Hp) (q : Addr) (σ : L2.St) (ρ : Sl) (w2 : Wd) (H2 : Hp) (z2 : Z) (acc : List D) : Prop where
  go : Go w0 H0 w2 H2
  sr : SR κ g w2 H2 σ ρ z2
  fr : Free g w2 σ ρ q
  hn : H0 q = none
  at_ : ∃ xs, H2 q = some (.lst xs) ∧ DpAll κ.K w2.F xs acc
section
variable {w0 w1 w2 w3 : Wd} {H0 H1 H2 H3 : Hp} {q : Addr} {σ σ1 : L2.St} {ρ ρ1 : Sl} {z1 z2 z3 : Z} {acc : List D} {y : D} {v : V}
theorem Mk.on (m : Mk κ g w0 H0 q σ ρ w2 H2 z2 acc) (go : Go w2 H2 w3 H3) (zo : ZOk κ w3 H3 z3) : Mk κ g w0 H0 q σ ρ w3 H3 z3 acc := by
  obtain ⟨xs, hD, da⟩ := m.at_
  exact ⟨m.go.trans go, m.sr.go go zo, m.fr.go hD go, m.hn, xs, go.h q _ m.fr.m hD, dpa_ex go.le.f _ _ da⟩
theorem Mk.app (m : Mk κ g w0 H0 q σ ρ w2 H2 z2 acc) (hl : acc.length < 100000) (dv : Dp κ.K w2.F v y) : ∃ xs, H2 q = some (.lst xs) ∧ xs.length < sizeLine ∧ Mk κ g w0 H0 q σ ρ w2 (upd H2 q (.lst (xs ++ [v]))) z2 (acc ++ [y]) := by
  obtain ⟨xs, hD, da⟩ := m.at_
  refine ⟨xs, hD, Evl.sz_lt (by rw [dpa_len da]; exact hl), ⟨m.go.le, fun a o h => ?_, fun a o n h => ?_, fun a h => ?_, m.go.fr, m.go.mr⟩, m.sr.updFree hD m.fr.f m.fr.b m.fr.m m.fr.no, m.fr, m.hn, _, upd_same, dpa_app da (.cons dv .nil)⟩
  · rw [upd_ne (fun z => by rw [z, m.fr.f] at h; cases h)]; exact m.go.fh a o h
  · rw [upd_ne (fun z => by rw [z, m.hn] at h; cases h)]; exact m.go.h a o n h
  · by_cases c : a = q
    · subst c; rw [upd_same] at h; cases h
    · rw [upd_ne c] at h; exact m.go.dm a h
/-- slots that hold nothing of the def's own beyond what stood there -/
theorem SR.app (sr : SR κ g w2 H2 σ1 ρ1 z2) (fr : Free g w2 σ1 ρ1 q) {xs : List V} {o : HO} (hD : H2 q = some (.lst xs)) : SR κ g w2 (upd H2 q o) σ1 ρ1 z2 := sr.updFree hD fr.f fr.b fr.m fr.no
end
theorem sl_comp {wi : TI} {tgt : TG} {tt : TT} {te : TE} {vs : List Nat} (h1 : SI κ g W wi fi) (h2 : SGt κ g is tgt gf) (h3 : SB κ g W0 tt u) (h4 : SE κ g W0 te f) (hs : ∀ i ∈ is, i ∈ vs) : SL κ g W (tLc wi tgt tt te vs) (fComp fi gf u f vs) := by
  intro σ w H ρ z Q sr p
  unfold fComp at p
  rw [sat_bind] at p
  refine h1 σ w H ρ z _ sr (p.imp fun items z1 p J w1 H1 l1 sr1 wk => ?_)
  intro D hD
  have m0 : Mk κ g w H D σ ρ w1 (upd H1 D (.lst [])) z1 [] := ⟨l1.trans (Go.of (DL.Grow.raw sr1.ex hD)), sr1.grow (DL.Grow.raw sr1.ex hD), Free.of sr1 hD, l1.dm D hD, [], upd_same, .nil⟩
  refine ⟨fun i m H2 => i + m = items.length ∧ ∃ w2 z2 acc, Le w1 w2 ∧ Mk κ g w H D σ ρ w2 H2 z2 acc ∧ Sat (fCompL vs gf u f ρ (items.drop i) acc z2) (fun ds z' => ∀ p xs w' H', Go w H w' H' → SR κ g w' H' σ ρ z' → Free g w' σ ρ p → H p = none → H' p = some (.lst xs) → DpAll κ.K w'.F xs ds → Q (.ref p) H') (XE1 κ g W σ ρ), ⟨items.length, by omega, w1, z1, [], Le.refl _, m0, by simpa using p⟩, fun i m H2 ⟨em, w2, z2, acc, ew, mk, p⟩ => ?_⟩
  by_cases hi : i < items.length
  · refine .inr ⟨wk.go i w2.F H2 ew.f mk.sr.ex hi, fun H' => ∃ w2 z2 acc, Le w1 w2 ∧ Mk κ g w H D σ ρ w2 H' z2 acc ∧ Sat (fCompL vs gf u f ρ (items.drop (i + 1)) acc z2) (fun ds z' => ∀ p xs w' H', Go w H w' H' → SR κ g w' H' σ ρ z' → Free g w' σ ρ p → H p = none → H' p = some (.lst xs) → DpAll κ.K w'.F xs ds → Q (.ref p) H') (XE1 κ g W σ ρ), fun H' hN => ⟨m - 1, by omega, by omega, hN⟩, fun x H3 hy => ?_⟩
    obtain ⟨d, F3, hd, gr3, dx⟩ := wk.yld i w2.F H2 x H3 ew.f mk.sr.ex hi hy
    rw [DL.drop_at hd, fCompL_cons, sat_bind] at p
    obtain ⟨ρ1, e1, p⟩ := sat_ofO p
    have mk3 : Mk κ g w H D σ ρ ⟨F3, w2.mu⟩ H3 z2 acc := mk.on (Go.of gr3) (mk.sr.zo.grow gr3)
    have e3 : Le w1 ⟨F3, w2.mu⟩ := ew.trans (le_grow gr3)
    refine h2 x (L2.wipe σ vs) ⟨F3, w2.mu⟩ H3 d (wipeD ρ vs) z2 _ ρ1 (mk3.sr.wipe vs) dx e1 fun σ1 sr4 bt => ?_
    refine ⟨wipe_bt bt hs, ?_⟩
    rw [sat_bind] at p
    refine h3 σ1 _ H3 ρ1 z2 _ sr4 (Sat.imp (sat_noEx p) fun t z3 p w5 H5 l5 sr5 => ?_)
    cases t with
    | true =>
      rw [if_pos rfl] at p ⊢
      rw [sat_bind] at p
      refine h4 σ1 w5 H5 ρ1 z3 _ sr5 (Sat.imp (sat_noEx p) fun y z4 p v w6 H6 l6 sr6 dv => ?_)
      obtain ⟨hacc, p⟩ := sat_okIf p
      have mk6 := mk3.on (l5.trans l6) sr6.zo
      obtain ⟨xs, hx, hl, mk7⟩ := mk6.app (of_decide_eq_true hacc) dv
      exact ⟨xs, hx, hl, w6, z4, acc ++ [y], e3.trans (l5.trans l6).le, mk7, p⟩
    | false =>
      rw [if_neg Bool.false_ne_true] at p ⊢
      exact ⟨w5, z3, acc, e3.trans l5.le, mk3.on l5 sr5.zo, p⟩
  · have ei : i = items.length := by omega
    subst ei
    refine .inl ⟨wk.stop w2.F H2 ew.f mk.sr.ex, ?_⟩
    rw [List.drop_length] at p
    obtain ⟨xs, hx, da⟩ := mk.at_
    exact p D xs w2 H2 mk.go mk.sr mk.fr mk.hn hx da
structure Ts (X : Cx) (W : WX) (g : G) (ifs : List Expr) (f : FT) : Prop where
  ok : ∃ te, PTs X ifs te ∧ SB (kt X) g W te f
theorem ts_nil : Ts X W g [] fYes := ⟨_, pts_nil, fun σ w H ρ z Q sr p => p w H (Go.refl sr.ex) sr⟩
theorem ts_one (h : B X W g c u) : Ts X W g [c] u := by
  obtain ⟨te, p1, q1⟩ := h
  exact ⟨_, pts_one p1, q1⟩
theorem fam_e {ι : Type} {Xf : ι → Cx} (hK : ∀ i, kt (Xf i) = κ) (h : ∀ i, E (Xf i) W g e f) : ∃ te, (∀ i, PE (Xf i) e te) ∧ SE κ g W te f := by
  have h' : ∀ i, ∃ te, PE (Xf i) e te ∧ SE κ g W te f := fun i => by
    obtain ⟨te, a, b⟩ := h i
    exact ⟨te, a, hK i ▸ b⟩
  refine ⟨fun σ H Q => ∀ i, Classical.choose (h' i) σ H Q, fun i => ?_, fun σ w H ρ z Q sr p i => ?_⟩
  · exact ⟨fun pins s σ H Q I hq => (Classical.choose_spec (h' i)).1.run pins s σ H Q I (hq i)⟩
  · exact (Classical.choose_spec (h' i)).2 σ w H ρ z Q sr p
theorem fam_t {ι : Type} {Xf : ι → Cx} {ifs : List Expr} (hK : ∀ i, kt (Xf i) = κ) (h : ∀ i, Ts (Xf i) W g ifs u) : ∃ te, (∀ i, PTs (Xf i) ifs te) ∧ SB κ g W te u := by
  have h' : ∀ i, ∃ te, PTs (Xf i) ifs te ∧ SB κ g W te u := fun i => by
    obtain ⟨te, a, b⟩ := h i
    exact ⟨te, a, hK i ▸ b⟩
  refine ⟨fun σ H Q => ∀ i, Classical.choose (h' i) σ H Q, fun i => ?_, fun σ w H ρ z Q sr p i => ?_⟩
  · exact ⟨fun pins s σ H Q I hq => (Classical.choose_spec (h' i)).1.run pins s σ H Q I (hq i)⟩
  · exact (Classical.choose_spec (h' i)).2 σ w H ρ z Q sr p
theorem fam_g {ι : Type} {Xf : ι → Cx} (hK : ∀ i, kt (Xf i) = κ) (h : ∀ i, Gt (Xf i) g e is gf) : ∃ te, (∀ i, PG (Xf i) e te) ∧ SGt κ g is te gf := by
  have h' : ∀ i, ∃ te, PG (Xf i) e te ∧ SGt κ g is te gf := fun i => by
    obtain ⟨te, a, b⟩ := h i
    exact ⟨te, a, hK i ▸ b⟩
  refine ⟨fun v σ H Q => ∀ i, Classical.choose (h' i) v σ H Q, fun i => ?_, fun v σ w H d ρ z Q ρ' sr dv p k i => ?_⟩
  · exact ⟨fun pins s σ H v u Q I r hq => (Classical.choose_spec (h' i)).1.run pins s σ H v u Q I r (hq i)⟩
  · exact (Classical.choose_spec (h' i)).2 v σ w H d ρ z Q ρ' sr dv p k
theorem fam_i {ι : Type} {Xf : ι → Cx} (hK : ∀ i, kt (Xf i) = κ) (h : ∀ i, I (Xf i) W g tg e fi) : ∃ te, (∀ i, PI (Xf i) tg e te) ∧ SI κ g W te fi := by
  have h' : ∀ i, ∃ te, PI (Xf i) tg e te ∧ SI κ g W te fi := fun i => by
    obtain ⟨te, a, b⟩ := h i
    exact ⟨te, a, hK i ▸ b⟩
  refine ⟨fun σ H Q => ∀ i, Classical.choose (h' i) σ H Q, fun i => ?_, fun σ w H ρ z Q sr p i => ?_⟩
  · exact ⟨fun pins s σ H Q I hq => (Classical.choose_spec (h' i)).1.run pins s σ H Q I (hq i)⟩
  · exact (Classical.choose_spec (h' i)).2 σ w H ρ z Q sr p
section
variable {elt : Expr} {scope : Scope} {ifs : List Expr} (own : List (Str × Nat))
theorem in_own (hs : is.all (fun i => (own.map (·.2)).contains i) = true) : ∀ i ∈ is, i ∈ own.map (·.2) := fun i hi => by
  have := List.all_eq_true.mp hs i hi
  simpa using this
theorem l_comp (hc : X.calm = true) (hN : X.N.Nodup) (h1 : I X W g tg iter fi) (ok : L2.blkC X.N X.env.scope scope own = true) (h2 : ∀ i : BlkI, Gt (blkX X scope i) g tg is gf) (h3 : ∀ i : BlkI, Ts (blkX X scope i) W0 g ifs u) (h4 : ∀ i : BlkI, E (blkX X scope i) W0 g elt f)
    (hs : is.all (fun i => (own.map (·.2)).contains i) = true := by rfl) (hf : ∀ x, foldedSetIterable iter X.env x = pure x := by intro _; rfl) : Ls X W g (.ListComp elt [⟨tg, iter, ifs, 0⟩] scope pos) (fComp fi gf u f (own.map (·.2))) := by
  obtain ⟨w, p1, q1⟩ := h1
  obtain ⟨t2, p2, q2⟩ := fam_g (Xf := blkX X scope) (κ := kt X) (fun _ => rfl) h2
  obtain ⟨t3, p3, q3⟩ := fam_t (Xf := blkX X scope) (κ := kt X) (fun _ => rfl) h3
  obtain ⟨t4, p4, q4⟩ := fam_e (Xf := blkX X scope) (κ := kt X) (fun _ => rfl) h4
  exact ⟨_, pe_lc hc hN p1 (L2.blkOk_by ok) (fun s H C cl fp => p2 (s, H, C, cl, fp)) (fun s H C cl fp => p3 (s, H, C, cl, fp)) (fun s H C cl fp => p4 (s, H, C, cl, fp)) hf, sl_comp q1 q2 q3 q4 (in_own own hs)⟩
/-- y = [..] -/
def fSetL (i : Nat) (u : FLs) : FS := fun ρ z => (u ρ z).bind fun ds z => .ok (.nx (ρ.set i (some (.d (.list ds))))) z
theorem ss_setL {te : TE} {i : Nat} {u : FLs} (h : SL κ g W te u) : SS κ g W (tAsg te (L2.gName i)) (fSetL i u) := fun σ w H ρ z D sr p => by
  unfold fSetL at p
  rw [sat_bind] at p
  refine h.frz σ w H ρ z _ sr ?_
  unfold fFrz
  rw [sat_bind]
  exact p.mono (fun ds z1 p v w1 H1 l1 sr1 dv => p _ w1 H1 l1.le (sr1.setD dv)) fun _ _ => xs1
theorem st_setComp (i : Nat) {y : Str} {py spos : Pos} (hc : X.calm = true) (hN : X.N.Nodup) (sw : swapsWith (.ListComp elt [⟨tg, iter, ifs, 0⟩] scope pos) (some (.Name y py)) spos.line X.env = pure true) (h1 : I X W g tg iter fi) (ok : L2.blkC X.N X.env.scope scope own = true) (h2 : ∀ i : BlkI, Gt (blkX X scope i) g tg is gf) (h3 : ∀ i : BlkI, Ts (blkX X scope i) W0 g ifs u) (h4 : ∀ i : BlkI, E (blkX X scope i) W0 g elt f)
    (hi : X.N[i]? = some y := by rfl) (hy : X.env.scope.names.lookup y = some .local := by rfl) (hs : is.all (fun i => (own.map (·.2)).contains i) = true := by rfl) (hf : ∀ x, foldedSetIterable iter X.env x = pure x := by intro _; rfl) :
    St X W g (.Assign [.Name y py] (.ListComp elt [⟨tg, iter, ifs, 0⟩] scope pos) spos) (fSetL i (fComp fi gf u f (own.map (·.2)))) := by
  obtain ⟨w, p1, q1⟩ := h1
  obtain ⟨t2, p2, q2⟩ := fam_g (Xf := blkX X scope) (κ := kt X) (fun _ => rfl) h2
  obtain ⟨t3, p3, q3⟩ := fam_t (Xf := blkX X scope) (κ := kt X) (fun _ => rfl) h3
  obtain ⟨t4, p4, q4⟩ := fam_e (Xf := blkX X scope) (κ := kt X) (fun _ => rfl) h4
  exact ⟨_, ps_setLc hc hN hi hy sw p1 (L2.blkOk_by ok) (fun s H C cl fp => p2 (s, H, C, cl, fp)) (fun s H C cl fp => p3 (s, H, C, cl, fp)) (fun s H C cl fp => p4 (s, H, C, cl, fp)) hf, ss_setL (sl_comp q1 q2 q3 q4 (in_own own hs))⟩
theorem st_ownComp (i : Nat) {y : Str} {py spos : Pos} (hc : X.calm = true) (hN : X.N.Nodup) (sw : swapsWith (.ListComp elt [⟨tg, iter, ifs, 0⟩] scope pos) (some (.Name y py)) spos.line X.env = pure true) (h1 : I X W g tg iter fi) (ok : L2.blkC X.N X.env.scope scope own = true) (h2 : ∀ i : BlkI, Gt (blkX X scope i) g tg is gf) (h3 : ∀ i : BlkI, Ts (blkX X scope i) W0 g ifs u) (h4 : ∀ i : BlkI, E (blkX X scope i) W0 g elt f)
    (hi : X.N[i]? = some y := by rfl) (hy : X.env.scope.names.lookup y = some .local := by rfl) (hs : is.all (fun i => (own.map (·.2)).contains i) = true := by rfl) (hf : ∀ x, foldedSetIterable iter X.env x = pure x := by intro _; rfl) :
    St X W g (.Assign [.Name y py] (.ListComp elt [⟨tg, iter, ifs, 0⟩] scope pos) spos) (fOwn i (fComp fi gf u f (own.map (·.2)))) := by
  obtain ⟨w, p1, q1⟩ := h1
  obtain ⟨t2, p2, q2⟩ := fam_g (Xf := blkX X scope) (κ := kt X) (fun _ => rfl) h2
  obtain ⟨t3, p3, q3⟩ := fam_t (Xf := blkX X scope) (κ := kt X) (fun _ => rfl) h3
  obtain ⟨t4, p4, q4⟩ := fam_e (Xf := blkX X scope) (κ := kt X) (fun _ => rfl) h4
  exact ⟨_, ps_setLc hc hN hi hy sw p1 (L2.blkOk_by ok) (fun s H C cl fp => p2 (s, H, C, cl, fp)) (fun s H C cl fp => p3 (s, H, C, cl, fp)) (fun s H C cl fp => p4 (s, H, C, cl, fp)) hf, ss_own (sl_comp q1 q2 q3 q4 (in_own own hs))⟩
end
end

end FL

namespace FL
open PySem
open L2 hiding Dp DpAll
open DL (D Fg Ex Dp DpAll DpKv dp_ex dpa_ex dpk_ex Grow OpD UnD CallD CallL dpa_len dpa_get dpa_get' dpa_app dpa_rev dpa_erase dpa_take dpa_drop dpa_ints ints_dpa dpa_set dp_list dp_tuple dp_int dp_str dp_bool)
open PySem.Spec PyProof.Rows
section
variable {X : Cx} {W : WX} {g : G} {tg iter tg1 iter1 e a b c elt : Expr} {es ifs ifs1 : List Expr} {body : List Stmt} {fi fi1 : FLs} {gf gf1 : FG} {fb : FS} {pos : Pos} {f fa : FX} {is is1 : List Nat} {κ : Kt} {u u1 : FT} {fd : FLs}
/-! ### [.. for .. for ..] -/
def fComp2I (vs1 : List Nat) (gf1 : FG) (tf1 : FT) (ef : FX) (ρ1 : Sl) : List D → List D → Z → Res (List D)
  | [], acc, z => .ok acc z
  | d :: r, acc, z => (ofO (gf1 d (wipeD ρ1 vs1)) z).bind fun ρ2 z => (noEx (tf1 ρ2 z)).bind fun b z => if b = true then (noEx (ef ρ2 z)).bind fun y z => okIf (decide (acc.length < 100000)) (fComp2I vs1 gf1 tf1 ef ρ1 r (acc ++ [y]) z) else fComp2I vs1 gf1 tf1 ef ρ1 r acc z
theorem fComp2I_nil {vs1 : List Nat} {gf1 : FG} {tf1 : FT} {ef : FX} {ρ1 : Sl} {acc : List D} {z : Z} : fComp2I vs1 gf1 tf1 ef ρ1 [] acc z = .ok acc z := rfl
theorem fComp2I_cons {vs1 : List Nat} {gf1 : FG} {tf1 : FT} {ef : FX} {ρ1 : Sl} {d : D} {r acc : List D} {z : Z} : fComp2I vs1 gf1 tf1 ef ρ1 (d :: r) acc z = (ofO (gf1 d (wipeD ρ1 vs1)) z).bind fun ρ2 z => (noEx (tf1 ρ2 z)).bind fun b z => if b = true then (noEx (ef ρ2 z)).bind fun y z => okIf (decide (acc.length < 100000)) (fComp2I vs1 gf1 tf1 ef ρ1 r (acc ++ [y]) z) else fComp2I vs1 gf1 tf1 ef ρ1 r acc z := rfl
def fComp2L (vs vs1 : List Nat) (gf : FG) (tf : FT) (fi1 : FLs) (gf1 : FG) (tf1 : FT) (ef : FX) (ρ : Sl) : List D → List D → Z → Res (List D)
  | [], acc, z => .ok acc z
  | d :: r, acc, z => (ofO (gf d (wipeD ρ vs)) z).bind fun ρ1 z => (noEx (tf ρ1 z)).bind fun b z => if b = true then (noEx (fi1 ρ1 z)).bind fun items z => (fComp2I vs1 gf1 tf1 ef ρ1 items acc z).bind fun acc z => fComp2L vs vs1 gf tf fi1 gf1 tf1 ef ρ r acc z else fComp2L vs vs1 gf tf fi1 gf1 tf1 ef ρ r acc z
theorem fComp2L_nil {vs vs1 : List Nat} {gf : FG} {tf : FT} {fi1 : FLs} {gf1 : FG} {tf1 : FT} {ef : FX} {ρ : Sl} {acc : List D} {z : Z} : fComp2L vs vs1 gf tf fi1 gf1 tf1 ef ρ [] acc z = .ok acc z := rfl
theorem fComp2L_cons {vs vs1 : List Nat} {gf : FG} {tf : FT} {fi1 : FLs} {gf1 : FG} {tf1 : FT} {ef : FX} {ρ : Sl} {d : D} {r acc : List D} {z : Z} : fComp2L vs vs1 gf tf fi1 gf1 tf1 ef ρ (d :: r) acc z = (ofO (gf d (wipeD ρ vs)) z).bind fun ρ1 z => (noEx (tf ρ1 z)).bind fun b z => if b = true then (noEx (fi1 ρ1 z)).bind fun items z => (fComp2I vs1 gf1 tf1 ef ρ1 items acc z).bind fun acc z => fComp2L vs vs1 gf tf fi1 gf1 tf1 ef ρ r acc z else fComp2L vs vs1 gf tf fi1 gf1 tf1 ef ρ r acc z := rfl
def fComp2 (fi : FLs) (gf : FG) (tf : FT) (fi1 : FLs) (gf1 : FG) (tf1 : FT) (ef : FX) (vs vs1 : List Nat) : FLs := fun ρ z => (fi ρ z).bind fun items z => fComp2L vs vs1 gf tf fi1 gf1 tf1 ef ρ items [] z
theorem Free.le {w w' : Wd} {σ : L2.St} {ρ : Sl} {p : Addr} (fr : Free g w σ ρ p) {σ1 : L2.St} {ρ1 : Sl} (fr1 : Free g w' σ1 ρ1 p) : Free g w' σ ρ p := ⟨fr1.f, fr1.b, fr1.m, fr.no⟩
theorem sl_comp2 {wi wi1 : TI} {tgt tgt1 : TG} {tt tt1 : TT} {te : TE} {vs vs1 : List Nat} (h1 : SI κ g W wi fi) (h2 : SGt κ g is tgt gf) (h3 : SB κ g W0 tt u) (h4 : SI κ g W0 wi1 fi1) (h5 : SGt κ g is1 tgt1 gf1) (h6 : SB κ g W0 tt1 u1) (h7 : SE κ g W0 te f) (hs : ∀ i ∈ is, i ∈ vs) (hs1 : ∀ i ∈ is1, i ∈ vs1) :
    SL κ g W (tLc2 wi tgt tt wi1 tgt1 tt1 te vs vs1) (fComp2 fi gf u fi1 gf1 u1 f vs vs1) := by
  intro σ w H ρ z Q sr p
  unfold fComp2 at p
  rw [sat_bind] at p
  refine h1 σ w H ρ z _ sr (p.imp fun items z1 p J w1 H1 l1 sr1 wk => ?_)
  intro D hD
  have m0 : Mk κ g w H D σ ρ w1 (upd H1 D (.lst [])) z1 [] := ⟨l1.trans (Go.of (DL.Grow.raw sr1.ex hD)), sr1.grow (DL.Grow.raw sr1.ex hD), Free.of sr1 hD, l1.dm D hD, [], upd_same, .nil⟩
  refine ⟨fun i m H2 => i + m = items.length ∧ ∃ w2 z2 acc, Le w1 w2 ∧ Mk κ g w H D σ ρ w2 H2 z2 acc ∧ Sat (fComp2L vs vs1 gf u fi1 gf1 u1 f ρ (items.drop i) acc z2) (fun ds z' => ∀ p xs w' H', Go w H w' H' → SR κ g w' H' σ ρ z' → Free g w' σ ρ p → H p = none → H' p = some (.lst xs) → DpAll κ.K w'.F xs ds → Q (.ref p) H') (XE1 κ g W σ ρ), ⟨items.length, by omega, w1, z1, [], Le.refl _, m0, by simpa using p⟩, fun i m H2 ⟨em, w2, z2, acc, ew, mk, p⟩ => ?_⟩
  by_cases hi : i < items.length
  · refine .inr ⟨wk.go i w2.F H2 ew.f mk.sr.ex hi, fun H' => ∃ w2 z2 acc, Le w1 w2 ∧ Mk κ g w H D σ ρ w2 H' z2 acc ∧ Sat (fComp2L vs vs1 gf u fi1 gf1 u1 f ρ (items.drop (i + 1)) acc z2) (fun ds z' => ∀ p xs w' H', Go w H w' H' → SR κ g w' H' σ ρ z' → Free g w' σ ρ p → H p = none → H' p = some (.lst xs) → DpAll κ.K w'.F xs ds → Q (.ref p) H') (XE1 κ g W σ ρ), fun H' hN => ⟨m - 1, by omega, by omega, hN⟩, fun x H3 hy => ?_⟩
    obtain ⟨d, F3, hd, gr3, dx⟩ := wk.yld i w2.F H2 x H3 ew.f mk.sr.ex hi hy
    rw [DL.drop_at hd, fComp2L_cons, sat_bind] at p
    obtain ⟨ρ1, e1, p⟩ := sat_ofO p
    have mk3 : Mk κ g w H D σ ρ ⟨F3, w2.mu⟩ H3 z2 acc := mk.on (Go.of gr3) (mk.sr.zo.grow gr3)
    have e3 : Le w1 ⟨F3, w2.mu⟩ := ew.trans (le_grow gr3)
    refine h2 x (L2.wipe σ vs) ⟨F3, w2.mu⟩ H3 d (wipeD ρ vs) z2 _ ρ1 (mk3.sr.wipe vs) dx e1 fun σ1 sr4 bt => ?_
    refine ⟨wipe_bt bt hs, ?_⟩
    rw [sat_bind] at p
    refine h3 σ1 _ H3 ρ1 z2 _ sr4 (Sat.imp (sat_noEx p) fun t z3 p w5 H5 l5 sr5 => ?_)
    cases t with
    | true =>
      rw [if_pos rfl] at p ⊢
      rw [sat_bind] at p
      refine h4 σ1 w5 H5 ρ1 z3 _ sr5 (Sat.imp (sat_noEx p) fun items1 z6 p J1 w6 H6 l6 sr6 wk1 => ?_)
      have mk6 := mk3.on (l5.trans l6) sr6.zo
      have e6 : Le w1 w6 := e3.trans (l5.trans l6).le
      refine ⟨fun j k H7 => j + k = items1.length ∧ ∃ w7 z7 acc7, Le w6 w7 ∧ Mk κ g w H D σ ρ w7 H7 z7 acc7 ∧ SR κ g w7 H7 σ1 ρ1 z7 ∧ Sat ((fComp2I vs1 gf1 u1 f ρ1 (items1.drop j) acc7 z7).bind fun acc z => fComp2L vs vs1 gf u fi1 gf1 u1 f ρ (items.drop (i + 1)) acc z) (fun ds z' => ∀ p xs w' H', Go w H w' H' → SR κ g w' H' σ ρ z' → Free g w' σ ρ p → H p = none → H' p = some (.lst xs) → DpAll κ.K w'.F xs ds → Q (.ref p) H') (XE1 κ g W σ ρ), ⟨items1.length, by omega, w6, z6, acc, Le.refl _, mk6, sr6, by simpa using p⟩, fun j k H7 ⟨ek, w7, z7, acc7, ew7, mk7, sr7, p⟩ => ?_⟩
      by_cases hj : j < items1.length
      · refine .inr ⟨wk1.go j w7.F H7 ew7.f mk7.sr.ex hj, fun H' => ∃ w7 z7 acc7, Le w6 w7 ∧ Mk κ g w H D σ ρ w7 H' z7 acc7 ∧ SR κ g w7 H' σ1 ρ1 z7 ∧ Sat ((fComp2I vs1 gf1 u1 f ρ1 (items1.drop (j + 1)) acc7 z7).bind fun acc z => fComp2L vs vs1 gf u fi1 gf1 u1 f ρ (items.drop (i + 1)) acc z) (fun ds z' => ∀ p xs w' H', Go w H w' H' → SR κ g w' H' σ ρ z' → Free g w' σ ρ p → H p = none → H' p = some (.lst xs) → DpAll κ.K w'.F xs ds → Q (.ref p) H') (XE1 κ g W σ ρ), fun H' hN => ⟨k - 1, by omega, by omega, hN⟩, fun x8 H8 hy8 => ?_⟩
        obtain ⟨d8, F8, hd8, gr8, dx8⟩ := wk1.yld j w7.F H7 x8 H8 ew7.f mk7.sr.ex hj hy8
        rw [DL.drop_at hd8, fComp2I_cons, bind_bind, sat_bind] at p
        obtain ⟨ρ2, e2, p⟩ := sat_ofO p
        have mk8 : Mk κ g w H D σ ρ ⟨F8, w7.mu⟩ H8 z7 acc7 := mk7.on (Go.of gr8) (mk7.sr.zo.grow gr8)
        have sr8 := sr7.grow gr8
        have e8 : Le w6 ⟨F8, w7.mu⟩ := ew7.trans (le_grow gr8)
        refine h5 x8 (L2.wipe σ1 vs1) ⟨F8, w7.mu⟩ H8 d8 (wipeD ρ1 vs1) z7 _ ρ2 (sr8.wipe vs1) dx8 e2 fun σ2 sr9 bt9 => ?_
        refine ⟨wipe_bt bt9 hs1, ?_⟩
        rw [bind_bind, sat_bind] at p
        refine h6 σ2 _ H8 ρ2 z7 _ sr9 (Sat.imp (sat_noEx p) fun t z10 p w10 H10 l10 sr10 => ?_)
        cases t with
        | true =>
          rw [if_pos rfl] at p ⊢
          rw [bind_bind, sat_bind] at p
          refine h7 σ2 w10 H10 ρ2 z10 _ sr10 (Sat.imp (sat_noEx p) fun y z11 p v w11 H11 l11 sr11 dv => ?_)
          cases hq : decide (acc7.length < 100000) with
          | false => rw [hq] at p; exact False.elim p
          | true =>
            rw [hq, okIf_t] at p
            have mk11 := mk8.on (l10.trans l11) sr11.zo
            have sr12 := sr8.go (l10.trans l11) sr11.zo
            obtain ⟨xs, hx, hl, mk12⟩ := mk11.app (of_decide_eq_true hq) dv
            have fr1 : Free g w11 σ1 ρ1 D := mk11.fr.wiped bt
            exact ⟨xs, hx, hl, w11, z11, acc7 ++ [y], e8.trans (l10.trans l11).le, mk12, sr12.app fr1 hx, p⟩
        | false =>
          rw [if_neg Bool.false_ne_true] at p ⊢
          exact ⟨w10, z10, acc7, e8.trans l10.le, mk8.on l10 sr10.zo, sr8.go l10 sr10.zo, p⟩
      · have ej : j = items1.length := by omega
        subst ej
        refine .inl ⟨wk1.stop w7.F H7 ew7.f mk7.sr.ex, w7, z7, acc7, e6.trans ew7, mk7, ?_⟩
        rw [List.drop_length, fComp2I_nil, ok_bind] at p
        exact p
    | false =>
      rw [if_neg Bool.false_ne_true] at p ⊢
      exact ⟨w5, z3, acc, e3.trans l5.le, mk3.on l5 sr5.zo, p⟩
  · have ei : i = items.length := by omega
    subst ei
    refine .inl ⟨wk.stop w2.F H2 ew.f mk.sr.ex, ?_⟩
    rw [List.drop_length] at p
    obtain ⟨xs, hx, da⟩ := mk.at_
    exact p D xs w2 H2 mk.go mk.sr mk.fr mk.hn hx da
theorem l_comp2 {scope : Scope} (own : List (Str × Nat)) (vs1 : List Nat) (hc : X.calm = true) (hN : X.N.Nodup) (h1 : I X W g tg iter fi) (ok : L2.blkC X.N X.env.scope scope own = true) (h2 : ∀ i : BlkI, Gt (blkX X scope i) g tg is gf) (h3 : ∀ i : BlkI, Ts (blkX X scope i) W0 g ifs u) (h4 : ∀ i : BlkI, I (blkX X scope i) W0 g tg1 iter1 fi1) (h5 : ∀ i : BlkI, Gt (blkX X scope i) g tg1 is1 gf1) (h6 : ∀ i : BlkI, Ts (blkX X scope i) W0 g ifs1 u1) (h7 : ∀ i : BlkI, E (blkX X scope i) W0 g elt f)
    (hs : is.all (fun i => (own.map (·.2)).contains i) = true := by rfl) (hs1 : is1.all (fun i => vs1.contains i) = true := by rfl) (hv : vs1.all (fun i => (own.map (·.2)).contains i) = true := by rfl) (hf : ∀ x, foldedSetIterable iter X.env x = pure x := by intro _; rfl) (hf1 : ∀ env x, foldedSetIterable iter1 env x = pure x := by intro _ _; rfl) :
    Ls X W g (.ListComp elt [⟨tg, iter, ifs, 0⟩, ⟨tg1, iter1, ifs1, 0⟩] scope pos) (fComp2 fi gf u fi1 gf1 u1 f (own.map (·.2)) vs1) := by
  obtain ⟨w, p1, q1⟩ := h1
  obtain ⟨t2, p2, q2⟩ := fam_g (Xf := blkX X scope) (κ := kt X) (fun _ => rfl) h2
  obtain ⟨t3, p3, q3⟩ := fam_t (Xf := blkX X scope) (κ := kt X) (fun _ => rfl) h3
  obtain ⟨t4, p4, q4⟩ := fam_i (Xf := blkX X scope) (κ := kt X) (fun _ => rfl) h4
  obtain ⟨t5, p5, q5⟩ := fam_g (Xf := blkX X scope) (κ := kt X) (fun _ => rfl) h5
  obtain ⟨t6, p6, q6⟩ := fam_t (Xf := blkX X scope) (κ := kt X) (fun _ => rfl) h6
  obtain ⟨t7, p7, q7⟩ := fam_e (Xf := blkX X scope) (κ := kt X) (fun _ => rfl) h7
  exact ⟨_, pe_lc2 hc hN p1 (L2.blkOk_by ok) (fun i hi => by simpa using List.all_eq_true.mp hv i hi) (fun s H C cl fp => p2 (s, H, C, cl, fp)) (fun s H C cl fp => p3 (s, H, C, cl, fp)) (fun s H C cl fp => p4 (s, H, C, cl, fp)) (fun s H C cl fp => p5 (s, H, C, cl, fp)) (fun s H C cl fp => p6 (s, H, C, cl, fp)) (fun s H C cl fp => p7 (s, H, C, cl, fp)) hf hf1,
    sl_comp2 q1 q2 q3 q4 q5 q6 q7 (in_own own hs) (fun i hi => by simpa using List.all_eq_true.mp hs1 i hi)⟩
/-! ### values of any kind, given to names -/
def NewOk (κ : Kt) (g : G) (w : Wd) (H : Hp) (σ : L2.St) (ρ : Sl) (v : V) : S → Prop
  | .d d => Dp κ.K w.F v d
  | .ob k => ∃ a, w.mu[k]? = some a ∧ v = .ref a
  | .o ds => ∃ p xs, v = .ref p ∧ Free g w σ ρ p ∧ H p = some (.lst xs) ∧ DpAll κ.K w.F xs ds
  | _ => False
abbrev FV' := Sl → Z → Res S
def SVl (κ : Kt) (g : G) (W : WX) (te : TE) (f : FV') : Prop := ∀ σ w H ρ z (Q : VK), SR κ g w H σ ρ z → Sat (f ρ z) (fun s z' => ∀ v w' H', Go w H w' H' → SR κ g w' H' σ ρ z' → (isOwn s = true → ∀ p, v = .ref p → H p = none) → NewOk κ g w' H' σ ρ v s → Q v H') (XE1 κ g W σ ρ) → te σ H Q
structure Vl (X : Cx) (W : WX) (g : G) (e : Expr) (f : FV') : Prop where
  ok : ∃ te, PE X e te ∧ SVl (kt X) g W te f
def fvD (f : FX) : FV' := fun ρ z => (f ρ z).bind fun d z => .ok (.d d) z
def fvO (f : FLs) : FV' := fun ρ z => (f ρ z).bind fun d z => .ok (.o d) z
def fvB (f : FB) : FV' := fun ρ z => (f ρ z).bind fun d z => .ok (.ob d) z
theorem v_d (h : E X W g e f) : Vl X W g e (fvD f) := by
  obtain ⟨te, p1, q1⟩ := h
  refine ⟨_, p1, fun σ w H ρ z Q sr p => ?_⟩
  unfold fvD at p
  rw [sat_bind] at p
  exact q1 σ w H ρ z _ sr (p.imp fun d z1 p v w1 H1 l1 sr1 dv => p v w1 H1 l1 sr1 (fun o => by cases o) dv)
theorem v_o {f : FLs} (h : Ls X W g e f) : Vl X W g e (fvO f) := by
  obtain ⟨te, p1, q1⟩ := h
  refine ⟨_, p1, fun σ w H ρ z Q sr p => ?_⟩
  unfold fvO at p
  rw [sat_bind] at p
  exact q1 σ w H ρ z _ sr (p.imp fun d z1 p q xs w1 H1 l1 sr1 fr hn hq da => p _ w1 H1 l1 sr1 (fun _ p e => by cases e; exact hn) ⟨q, xs, rfl, fr, hq, da⟩)
theorem v_b {f : FB} (h : Ob X W g e f) : Vl X W g e (fvB f) := by
  obtain ⟨te, p1, q1⟩ := h
  refine ⟨_, p1, fun σ w H ρ z Q sr p => ?_⟩
  unfold fvB at p
  rw [sat_bind] at p
  exact q1 σ w H ρ z _ sr (p.imp fun d z1 p a w1 H1 l1 sr1 ha => p _ w1 H1 l1 sr1 (fun o => by cases o) ⟨a, ha, rfl⟩)
theorem new_go {w w' : Wd} {H H' : Hp} {σ : L2.St} {ρ : Sl} {v : V} {s : S} (go : Go w H w' H') (h : NewOk κ g w H σ ρ v s) : NewOk κ g w' H' σ ρ v s := by
  cases s with
  | d d => exact dp_ex go.le.f _ _ h
  | ob k => obtain ⟨a, e, r⟩ := h; exact ⟨a, pre_get go.le.mu e, r⟩
  | o ds => obtain ⟨p, xs, e, fr, hp, da⟩ := h; exact ⟨p, xs, e, fr.go hp go, go.h p _ fr.m hp, dpa_ex go.le.f _ _ da⟩
  | _ => exact h.elim
theorem SR.setNew {w : Wd} {H : Hp} {σ : L2.St} {ρ : Sl} {z : Z} {i : Nat} {v : V} {s : S} (sr : SR κ g w H σ ρ z) (h : NewOk κ g w H σ ρ v s) : SR κ g w H (σ.set i (some v)) (ρ.set i (some s)) z := by
  cases s with
  | d d => exact sr.setD h
  | ob k => exact sr.setN (s := .ob k) rfl h
  | o ds => obtain ⟨p, xs, rfl, fr, hp, da⟩ := h; exact sr.setO fr hp da
  | _ => exact h.elim
theorem new_set {w : Wd} {H : Hp} {σ : L2.St} {ρ : Sl} {i : Nat} {v v2 : V} {s s2 : S} (h : NewOk κ g w H σ ρ v2 s2) (ne : isOwn s = true → isOwn s2 = true → v ≠ v2) : NewOk κ g w H (σ.set i (some v)) (ρ.set i (some s)) v2 s2 := by
  cases s2 with
  | d d => exact h
  | ob k => exact h
  | o ds =>
    obtain ⟨p, xs, rfl, fr, hp, da⟩ := h
    refine ⟨p, xs, rfl, ⟨fr.f, fr.b, fr.m, fun j t e o y => ?_⟩, hp, da⟩
    by_cases c : j = i
    · subst c
      by_cases hl : j < ρ.length
      · rw [List.getElem?_set_self hl] at e
        cases e
        by_cases hσ : j < σ.length
        · rw [List.getElem?_set_self hσ] at y
          cases y
          exact ne o rfl rfl
        · rw [List.getElem?_eq_none (by rw [List.length_set]; omega)] at y; cases y
      · rw [List.getElem?_eq_none (by rw [List.length_set]; omega)] at e; cases e
    · rw [List.getElem?_set_ne (Ne.symm c)] at e y
      exact fr.no j t e o y
  | _ => exact h.elim
/-- x = e -/
def fSet (i : Nat) (f : FV') : FS := fun ρ z => (f ρ z).bind fun s z => .ok (.nx (ρ.set i (some s))) z
theorem st_set (i : Nat) {x : Str} {px : Pos} {f : FV'} (h : Vl X W g e f) (hN : X.N.Nodup) (hi : X.N[i]? = some x := by rfl) (hx : Loc X.env.scope x := by first | exact Or.inl rfl | exact Or.inr rfl) (hf : X.fn x = true ∨ X.env.scope.names.lookup x = some .local := by first | exact .inl rfl | exact .inr rfl)
    (h1 : swapsWithSole [.Name x px] e pos.line X.env = pure false := by rfl) (h3 : swappedStores [.Name x px] e X.env = pure none := by rfl) (h4 : (assignEach [.Name x px] X.env).map (·.2) = [assign (.Name x px) X.env] := by rfl) : St X W g (.Assign [.Name x px] e pos) (fSet i f) := by
  obtain ⟨te, p1, q1⟩ := h
  refine ⟨_, ps_asg p1 (pg_name hN hi hx hf) h1 h3 h4, fun σ w H ρ z D sr p => ?_⟩
  unfold fSet at p
  rw [sat_bind] at p
  exact q1 σ w H ρ z _ sr (p.mono (fun s z1 p v w1 H1 l1 sr1 _ nv => p _ w1 H1 l1.le (sr1.setNew nv)) fun _ _ => xs1)
/-- x, y = a, b -/
def fPar (i j : Nat) (f h : FV') : FS := fun ρ z => (f ρ z).bind fun s z => (h ρ z).bind fun t z => .ok (.nx ((ρ.set i (some s)).set j (some t))) z
theorem st_par (i j : Nat) {x y : Str} {px py pt pt2 : Pos} {k2 kt' : Nat} {f h : FV'} (ha : Vl X W g a f) (hb : Vl X W g b h) (hN : X.N.Nodup) (hc : X.calm = true := by rfl) (hi : X.N[i]? = some x := by rfl) (hj : X.N[j]? = some y := by rfl) (hij : i ≠ j := by decide) (hx : X.env.scope.names.lookup x = some .local := by rfl) (hy : X.env.scope.names.lookup y = some .local := by rfl)
    (hs : swappedStores [.Tuple [.Name x px, .Name y py] kt' pt] (.Tuple [a, b] k2 pt2) X.env = pure (some [x, y]) := by rfl) (hs2 : swapsWithSole [.Tuple [.Name x px, .Name y py] kt' pt] (.Tuple [a, b] k2 pt2) pos.line X.env = pure false := by rfl)
    (h1 : starEach [a, b] X.env = (false, eval a X.env) :: starEach [b] X.env := by rfl) (h2 : starEach [b] X.env = (false, eval b X.env) :: starEach [] X.env := by rfl) :
    St X W g (.Assign [.Tuple [.Name x px, .Name y py] kt' pt] (.Tuple [a, b] k2 pt2) pos) (fPar i j f h) := by
  obtain ⟨te, p1, q1⟩ := ha
  obtain ⟨te', p2, q2⟩ := hb
  refine ⟨_, ps_par hc hN hi hj hij hx hy (pa_cons p1 (pa_cons p2 pa_nil h2) h1) hs hs2, fun σ w H ρ z D sr p => ?_⟩
  unfold fPar at p
  rw [sat_bind] at p
  refine q1 σ w H ρ z _ sr (p.mono (fun s z1 p v w1 H1 l1 sr1 o1 n1 => ?_) fun _ _ => xs1)
  rw [sat_bind] at p
  refine q2 σ w1 H1 ρ z1 _ sr1 (p.mono (fun t z2 p v2 w2 H2 l2 sr2 o2 n2 => ?_) fun _ _ => xs1)
  refine ⟨v, v2, rfl, p _ w2 H2 (l1.trans l2).le ((sr2.setNew (new_go l2 n1)).setNew (new_set n2 fun os ot e => ?_))⟩
  cases s <;> try cases os
  obtain ⟨q, xs, rfl, fr, hq, da⟩ := n1
  rw [o2 ot q e.symm] at hq
  cases hq
end

end FL

namespace FL
open PySem
open L2 hiding Dp DpAll
open DL (D Fg Ex Dp DpAll DpKv dp_ex dpa_ex dpk_ex Grow OpD UnD CallD CallL dpa_len dpa_get dpa_get' dpa_app dpa_rev dpa_erase dpa_take dpa_drop dpa_ints ints_dpa dpa_set dp_list dp_tuple dp_int dp_str dp_bool)
open PySem.Spec PyProof.Rows
/-! ### own lists seen as data for a while -/
def viewS : S → Option S
  | .o ds => some (.d (.list ds))
  | .ob _ => none
  | s => some s
def viewO : Option S → Option S
  | some s => viewS s
  | none => none
def view (ρ : Sl) : Sl := ρ.map viewO
def Owned (σ : L2.St) (ρ : Sl) (l : Addr) : Prop := ∃ (i : Nat) (s : S), ρ[i]? = some (some s) ∧ isOwn s = true ∧ σ[i]? = some (some (.ref l))
open Classical in
noncomputable def Fup (F H : Hp) (σ : L2.St) (ρ : Sl) : Hp := fun l => if Owned σ ρ l then H l else F l
open Classical in
noncomputable def Fdn (F : Hp) (σ : L2.St) (ρ : Sl) : Hp := fun l => if Owned σ ρ l then none else F l
section
variable {X : Cx} {W : WX} {g : G} {a b c e : Expr} {es : List Expr} {f fa fb : FX} {pos : Pos} {κ : Kt} {u : FT} {fd : FLs}
section
variable {w w' : Wd} {F H H' : Hp} {σ : L2.St} {ρ : Sl} {z : Z}
theorem fup_own {l : Addr} (h : Owned σ ρ l) : Fup F H σ ρ l = H l := if_pos h
theorem fup_not {l : Addr} (h : ¬ Owned σ ρ l) : Fup F H σ ρ l = F l := if_neg h
theorem fdn_own {l : Addr} (h : Owned σ ρ l) : Fdn F σ ρ l = none := if_pos h
theorem fdn_not {l : Addr} (h : ¬ Owned σ ρ l) : Fdn F σ ρ l = F l := if_neg h
theorem SR.owned (sr : SR κ g w H σ ρ z) {l : Addr} (h : Owned σ ρ l) : (∃ xs, H l = some (.lst xs)) ∧ w.F l = none ∧ g.B l = none := by
  obtain ⟨i, s, e1, o, e2⟩ := h
  obtain ⟨v, hv, ok⟩ := sr.sl i _ e1
  rw [e2] at hv
  cases hv
  cases s <;> try cases o
  obtain ⟨l', e, ow⟩ := ok
  cases e
  obtain ⟨xs, hl, _⟩ := ow.at_
  exact ⟨⟨xs, hl⟩, ow.f, ow.b⟩
theorem SR.exUp (sr : SR κ g w H σ ρ z) : Ex w.F (Fup w.F H σ ρ) := fun a o h => by
  have : ¬ Owned σ ρ a := fun y => by
    obtain ⟨_, f, _⟩ := sr.owned y
    rw [f] at h; cases h
  rw [fup_not this]; exact h
theorem view_get {i : Nat} {s : S} (h : (view ρ)[i]? = some (some s)) : ∃ s0, ρ[i]? = some (some s0) ∧ viewS s0 = some s := by
  unfold view at h
  rw [List.getElem?_map] at h
  cases q : ρ[i]? with
  | none => rw [q] at h; cases h
  | some o =>
    rw [q] at h
    cases o with
    | none => cases h
    | some s0 => exact ⟨s0, rfl, Option.some.inj h⟩
theorem SR.up (sr : SR κ g w H σ ρ z) : SR κ ⟨H, ⟨Fup w.F H σ ρ, []⟩⟩ ⟨Fup w.F H σ ρ, []⟩ H σ (view ρ) [] := by
  have ex : Ex (Fup w.F H σ ρ) H := fun a o h => by
    by_cases y : Owned σ ρ a
    · rw [fup_own y] at h; exact h
    · rw [fup_not y] at h; exact sr.ex a o h
  refine ⟨Go.refl ex, ⟨rfl, List.nodup_nil, fun k a r e => by simp at e⟩, fun i s e => ?_, fun i j l s t e1 _ o1 _ _ _ => ?_, ?_⟩
  · obtain ⟨s0, e0, ev⟩ := view_get e
    obtain ⟨v, hv, ok⟩ := sr.sl i s0 e0
    refine ⟨v, hv, ?_⟩
    cases s0 with
    | d d => cases ev; exact dp_ex sr.exUp _ _ ok
    | ob k => cases ev
    | r u => cases ev; exact ok
    | s ns => cases ev; obtain ⟨a, h1, h2⟩ := ok; exact ⟨a, h1, Evl.ex_l sr.exUp h2⟩
    | o ds =>
      cases ev
      obtain ⟨l, rfl, ow⟩ := ok
      obtain ⟨xs, hl, da⟩ := ow.at_
      exact .lst (by show Fup w.F H σ ρ l = _; rw [fup_own ⟨i, _, e0, rfl, hv⟩]; exact hl) (dpa_ex sr.exUp _ _ da)
  · obtain ⟨s0, e0, e2⟩ := view_get e1
    cases s0 <;> cases e2 <;> cases o1
  · unfold view; rw [List.length_map, sr.len]
/-- back again -/
theorem SR.down (sr : SR κ g w H σ ρ z) (go : Go ⟨Fup w.F H σ ρ, []⟩ H w' H') : Grow none w.F H (Fdn w'.F σ ρ) H' := by
  refine ⟨fun a o h => ?_, fun a o h => ?_, fun a o _ h => go.h a o (by simp) h, go.dm, fun a o h => ?_⟩
  · have nz : ¬ Owned σ ρ a := fun y => by
      obtain ⟨_, f, _⟩ := sr.owned y
      rw [f] at h; cases h
    rw [fdn_not nz]
    exact go.le.f a o (sr.exUp a o h)
  · by_cases y : Owned σ ρ a
    · rw [fdn_own y] at h; cases h
    · rw [fdn_not y] at h; exact go.fh a o h
  · by_cases y : Owned σ ρ a
    · rw [fdn_own y] at h; cases h
    · rw [fdn_not y] at h
      rcases go.fr a o h with q | q
      · have q : Fup w.F H σ ρ a = some o := q
        rw [fup_not y] at q; exact .inl q
      · exact .inr q
theorem SR.dnl (sr : SR κ g w H σ ρ z) (go : Go ⟨Fup w.F H σ ρ, []⟩ H w' H') : ∀ a, Owned σ ρ a → ∃ xs, w'.F a = some (.lst xs) := fun a y => by
  obtain ⟨⟨xs, hl⟩, _⟩ := sr.owned y
  exact ⟨xs, go.le.f a _ (by show Fup w.F H σ ρ a = _; rw [fup_own y]; exact hl)⟩
end
def unz {α : Type} (t : α → Bool) (z : Z) : Res α → Res α
  | .ok a [] => okIf (t a) (.ok a z)
  | _ => .bad
theorem unz_ok {α : Type} {t : α → Bool} {z : Z} {a : α} : unz t z (.ok a []) = okIf (t a) (.ok a z) := rfl
theorem sat_unz {α : Type} {t : α → Bool} {z : Z} {r : Res α} {P : α → Z → Prop} {Y : Xc → Z → Prop} (h : Sat (unz t z r) P Y) : ∃ a, r = .ok a [] ∧ t a = true ∧ P a z := by
  cases r with
  | bad => exact h.elim
  | ex _ _ => exact h.elim
  | ok a z1 =>
    cases z1 with
    | nil => exact ⟨a, rfl, (sat_okIf (b := t a) h).1, (sat_okIf (b := t a) h).2⟩
    | cons _ _ => exact False.elim h
def fView (f : FX) : FX := fun ρ z => unz DL.noL z (f (view ρ) [])
def fbView (f : FT) : FT := fun ρ z => unz (fun _ => true) z (f (view ρ) [])
def flView (f : FLs) : FLs := fun ρ z => unz DL.noLs z (f (view ρ) [])
theorem e_view (h : ∀ g', E X W0 g' e f) : E X W g e (fView f) := by
  refine ⟨fun σ H Q => ∃ g', Classical.choose (h g').ok σ H Q, ⟨fun pins s σ H Q I ⟨g', hq⟩ => (Classical.choose_spec (h g').ok).1.run pins s σ H Q I hq⟩, fun σ w H ρ z Q sr p => ?_⟩
  unfold fView at p
  obtain ⟨d, e, nl, p⟩ := sat_unz p
  refine ⟨⟨H, ⟨Fup w.F H σ ρ, []⟩⟩, (Classical.choose_spec (h ⟨H, ⟨Fup w.F H σ ρ, []⟩⟩).ok).2 σ ⟨Fup w.F H σ ρ, []⟩ H (view ρ) [] Q sr.up ?_⟩
  rw [e]
  refine fun v w' H' go sr' dv => ?_
  have gd := sr.down go
  exact p v _ H' (Go.of gd) (sr.grow gd) (DL.dp_noL (O := Owned σ ρ) (fun a y => fdn_not y) (sr.dnl go) d v nl dv)
theorem b_view (h : ∀ g', B X W0 g' e u) : B X W g e (fbView u) := by
  refine ⟨fun σ H Q => ∃ g', Classical.choose (h g').ok σ H Q, ⟨fun pins s σ H Q I ⟨g', hq⟩ => (Classical.choose_spec (h g').ok).1.run pins s σ H Q I hq⟩, fun σ w H ρ z Q sr p => ?_⟩
  unfold fbView at p
  obtain ⟨d, e, nl, p⟩ := sat_unz p
  refine ⟨⟨H, ⟨Fup w.F H σ ρ, []⟩⟩, (Classical.choose_spec (h ⟨H, ⟨Fup w.F H σ ρ, []⟩⟩).ok).2 σ ⟨Fup w.F H σ ρ, []⟩ H (view ρ) [] Q sr.up ?_⟩
  rw [e]
  refine fun w' H' go sr' => ?_
  have gd := sr.down go
  exact p _ H' (Go.of gd) (sr.grow gd)
theorem l_view {f : FLs} (h : ∀ g', Ls X W0 g' e f) : Ls X W g e (flView f) := by
  refine ⟨fun σ H Q => ∃ g', Classical.choose (h g').ok σ H Q, ⟨fun pins s σ H Q I ⟨g', hq⟩ => (Classical.choose_spec (h g').ok).1.run pins s σ H Q I hq⟩, fun σ w H ρ z Q sr p => ?_⟩
  unfold flView at p
  obtain ⟨d, e, nl, p⟩ := sat_unz p
  refine ⟨⟨H, ⟨Fup w.F H σ ρ, []⟩⟩, (Classical.choose_spec (h ⟨H, ⟨Fup w.F H σ ρ, []⟩⟩).ok).2 σ ⟨Fup w.F H σ ρ, []⟩ H (view ρ) [] Q sr.up ?_⟩
  rw [e]
  refine fun q xs w' H' go sr' fr hn hq da => ?_
  have gd := sr.down go
  have no : ¬ Owned σ ρ q := fun y => by
    obtain ⟨⟨ys, hy⟩, _⟩ := sr.owned y
    rw [hn] at hy; cases hy
  have fq : Free g w σ ρ q := Free.of sr hn
  have f2 : Fdn w'.F σ ρ q = none := by rw [fdn_not no]; exact fr.f
  exact p q xs ⟨Fdn w'.F σ ρ, w.mu⟩ H' (Go.of gd) (sr.grow gd) ⟨f2, fq.b, fq.m, fq.no⟩ hn hq (DL.dpa_noL (O := Owned σ ρ) (fun a y => fdn_not y) (sr.dnl go) d xs nl da)
/-! ### own lists changed -/
theorem set_same {σ : L2.St} {i : Nat} {v : V} (h : σ[i]? = some (some v)) : σ.set i (some v) = σ := by
  apply List.ext_getElem?
  intro j
  by_cases c : j = i
  · subst c; rw [List.getElem?_set_self (List.getElem?_eq_some_iff.mp h).1, h]
  · rw [List.getElem?_set_ne (Ne.symm c)]
theorem SR.setOwn {w : Wd} {H : Hp} {σ : L2.St} {ρ : Sl} {z : Z} {i : Nat} {ds es : List D} {l : Addr} {xs ys : List V} (sr : SR κ g w H σ ρ z) (hi : ρ[i]? = some (some (.o ds))) (hs : σ[i]? = some (some (.ref l))) (hl : H l = some (.lst xs)) (da : DpAll κ.K w.F ys es) : SR κ g w (upd H l (.lst ys)) σ (ρ.set i (some (.o es))) z := by
  obtain ⟨v, hv, l', rfl, ow⟩ := sr.sl i _ hi
  rw [hs] at hv
  cases hv
  have hir : i < ρ.length := (List.getElem?_eq_some_iff.mp hi).1
  have s1 : SR κ g w H σ (ρ.set i none) z := by
    have := sr.forget (i := i) (v := some (.ref l))
    rw [set_same hs] at this
    exact this
  have no : ∀ (j : Nat) (t : S), (ρ.set i none)[j]? = some (some t) → isOwn t = true → σ[j]? ≠ some (some (.ref l)) := fun j t e o y => by
    by_cases c : j = i
    · subst c; rw [List.getElem?_set_self hir] at e; cases e
    · rw [List.getElem?_set_ne (Ne.symm c)] at e
      exact c (sr.inj j i l t _ e hi o rfl y hs)
  have s2 := s1.updFree (o := .lst ys) hl ow.f ow.b ow.m no
  have s3 := s2.set (i := i) (v := .ref l) (s := .o es) ⟨l, rfl, ow.b, ow.f, ow.m, ys, upd_same, da⟩ fun _ l2 e2 j t _ ot e3 => by cases e2; exact no j t e3 ot
  rw [set_same hs, List.set_set] at s3
  exact s3
theorem SR.own {w : Wd} {H : Hp} {σ : L2.St} {ρ : Sl} {z : Z} {i : Nat} {ds : List D} (sr : SR κ g w H σ ρ z) (hi : ρ[i]? = some (some (.o ds))) : ∃ l xs, σ[i]? = some (some (.ref l)) ∧ H l = some (.lst xs) ∧ DpAll κ.K w.F xs ds := by
  obtain ⟨v, hv, l, rfl, ow⟩ := sr.sl i _ hi
  obtain ⟨xs, hl, da⟩ := ow.at_
  exact ⟨l, xs, hv, hl, da⟩
def asO : S → Z → Res (List D)
  | .o ds, z => .ok ds z
  | _, _ => .bad
theorem asO_o {ds : List D} {z : Z} : asO (.o ds) z = .ok ds z := rfl
def slotO : Sl → Nat → Z → Res (List D)
  | [], _, _ => .bad
  | none :: _, 0, _ => .bad
  | some s :: _, 0, z => asO s z
  | _ :: ρ, i + 1, z => slotO ρ i z
theorem slotO_0 {s : S} {ρ : Sl} {z : Z} : slotO (some s :: ρ) 0 z = asO s z := rfl
theorem slotO_s {s : Option S} {ρ : Sl} {i : Nat} {z : Z} : slotO (s :: ρ) (i + 1) z = slotO ρ i z := by cases s <;> rfl
theorem slotO_eq : ∀ {ρ : Sl} {i : Nat} {z : Z} {P : List D → Z → Prop} {Y : Xc → Z → Prop}, Sat (slotO ρ i z) P Y → ∃ d, ρ[i]? = some (some (.o d)) ∧ P d z
  | [], _, _, _, _, h => h.elim
  | none :: _, 0, _, _, _, h => h.elim
  | some s :: _, 0, z, P, Y, h => by
    have h : Sat (asO s z) P Y := h
    cases s <;> first | exact h.elim | exact ⟨_, rfl, h⟩
  | s :: ρ, i + 1, z, P, Y, h => by
    rw [slotO_s] at h
    obtain ⟨d, e, p⟩ := slotO_eq (ρ := ρ) (i := i) h
    exact ⟨d, by simpa using e, p⟩
def fAppend (i : Nat) (f : FX) : FS := fun ρ z => (slotO ρ i z).bind fun ds z => okIf (decide (ds.length < 100000)) ((f ρ z).bind fun d z => .ok (.nx (ρ.set i (some (.o (ds ++ [d]))))) z)
/-- x.append(e): first x, then e, then the change -/
theorem st_append (i : Nat) {x : Str} {px ap cp : Pos} (h : E X W g e f) (hN : X.N[i]? = some x := by rfl) (hv : Vis X.env.scope x := by first | exact Or.inl rfl | exact Or.inr (Or.inl rfl) | exact Or.inr (Or.inr rfl)) (hd : (x == ("__debug__" : Str)) = false := by decide)
    (hcd : (x == ("__classdict__" : Str)) = false := by decide) (h1 : attributeBase (.Name x px) "append" X.env (eval (.Name x px) X.env) = eval (.Name x px) X.env := by rfl)
    (h2 : ((((backTo cp (starEach [e] X.env)).all fun x => !x.fst) && (backToKw cp (keywordEach [] X.env)).all fun x => x.fst.isSome) && decide (([e].length + ([] : List Keyword).length + if ([] : List Keyword).isEmpty = true then 0 else 1) < 30)) = true := by rfl)
    (h3 : (ap.endLine == cp.line) = true := by rfl) (h4 : starEach [e] X.env = (false, eval e X.env) :: starEach [] X.env := by rfl) (h5 : ((backTo cp (starEach [] X.env)).any fun x => x.fst) = false := by rfl)
    (hs : swapsWith (.Call (.Attribute (.Name x px) "append" ap) [e] [] cp) none pos.line X.env = pure false := by rfl) : St X W g (.Expr (.Call (.Attribute (.Name x px) "append" ap) [e] [] cp) pos) (fAppend i f) := by
  obtain ⟨te, p1, q1⟩ := h
  refine ⟨_, ps_expr (pe_bm PySem.F.plainAttrs_list PySem.F.slot_list_append PySem.F.type_list_append mt_append (pe_var hN hv hd hcd) (pa_cons p1 pa_nil h4) h1 h2 h3 h4 h5) hs, fun σ w H ρ z D sr p => ?_⟩
  unfold fAppend at p
  rw [sat_bind] at p
  obtain ⟨ds, hi, p⟩ := slotO_eq p
  obtain ⟨hl, p⟩ := sat_okIf p
  rw [sat_bind] at p
  obtain ⟨l, xs, hσ, hx, da⟩ := sr.own hi
  refine ⟨_, hσ, .inl ⟨rfl, xs, SqL.of hx⟩, q1 σ w H ρ z _ sr (p.mono (fun d z1 p v w1 H1 l1 sr1 dv => ?_) fun _ _ => xs1)⟩
  obtain ⟨l', xs', hσ', hx', da'⟩ := sr1.own hi
  rw [hσ] at hσ'
  cases hσ'
  refine ⟨l, xs', v, rfl, rfl, hx', by rw [dpa_len da']; exact Evl.sz_lt (of_decide_eq_true hl), ?_⟩
  exact p σ w1 _ l1.le (sr1.setOwn hi hσ hx' (dpa_app da' (.cons dv .nil)))
def popO (es : List D) (i : Int) : Option (D × List D) := if (decide (-1000000000 ≤ i) && decide (i ≤ 1000000000)) = true then (seqIndex? i es.length).bind fun k => (es[k]?).map fun y => (y, es.eraseIdx k) else none
theorem popO_eq {es : List D} {i : Int} {y : D} {es' : List D} (h : popO es i = some (y, es')) : DL.PopAt es i y es' := by
  unfold popO at h
  split at h
  · rename_i hb
    rw [Bool.and_eq_true, decide_eq_true_eq, decide_eq_true_eq] at hb
    cases hk : seqIndex? i es.length with
    | none => rw [hk] at h; cases h
    | some k =>
      rw [hk] at h
      have h : (es[k]?).map (fun y => (y, es.eraseIdx k)) = some (y, es') := h
      cases hy : es[k]? with
      | none => rw [hy] at h; cases h
      | some w =>
        rw [hy] at h
        cases h
        exact ⟨k, by omega, by omega, hk, hy, rfl⟩
  · cases h
/-- x.append(y.pop(e)) -/
def fAppPop (i j : Nat) (f : FX) : FS := fun ρ z => (slotO ρ i z).bind fun ds z => okIf (decide (ds.length < 100000) && decide (i ≠ j)) ((slotO ρ j z).bind fun es z => (f ρ z).bind fun d z => (asI d z).bind fun n z => (ofO (popO es n) z).bind fun q z => .ok (.nx ((ρ.set j (some (.o q.2))).set i (some (.o (ds ++ [q.1]))))) z)
theorem st_appPop (i j : Nat) {x y : Str} {px ap cp py ap2 cp2 : Pos} (h : E X W g e f) (hN : X.N[i]? = some x := by rfl) (hv : Vis X.env.scope x := by first | exact Or.inl rfl | exact Or.inr (Or.inl rfl) | exact Or.inr (Or.inr rfl)) (hd : (x == ("__debug__" : Str)) = false := by decide)
    (hcd : (x == ("__classdict__" : Str)) = false := by decide) (hN2 : X.N[j]? = some y := by rfl) (hv2 : Vis X.env.scope y := by first | exact Or.inl rfl | exact Or.inr (Or.inl rfl) | exact Or.inr (Or.inr rfl)) (hd2 : (y == ("__debug__" : Str)) = false := by decide) (hcd2 : (y == ("__classdict__" : Str)) = false := by decide)
    (h1 : attributeBase (.Name x px) "append" X.env (eval (.Name x px) X.env) = eval (.Name x px) X.env := by rfl)
    (h2 : ((((backTo cp (starEach [.Call (.Attribute (.Name y py) "pop" ap2) [e] [] cp2] X.env)).all fun x => !x.fst) && (backToKw cp (keywordEach [] X.env)).all fun x => x.fst.isSome) && decide (([Expr.Call (.Attribute (.Name y py) "pop" ap2) [e] [] cp2].length + ([] : List Keyword).length + if ([] : List Keyword).isEmpty = true then 0 else 1) < 30)) = true := by rfl)
    (h3 : (ap.endLine == cp.line) = true := by rfl) (h4 : starEach [.Call (.Attribute (.Name y py) "pop" ap2) [e] [] cp2] X.env = (false, eval (.Call (.Attribute (.Name y py) "pop" ap2) [e] [] cp2) X.env) :: starEach [] X.env := by rfl) (h5 : ((backTo cp (starEach [] X.env)).any fun x => x.fst) = false := by rfl)
    (h21 : attributeBase (.Name y py) "pop" X.env (eval (.Name y py) X.env) = eval (.Name y py) X.env := by rfl)
    (h22 : ((((backTo cp2 (starEach [e] X.env)).all fun x => !x.fst) && (backToKw cp2 (keywordEach [] X.env)).all fun x => x.fst.isSome) && decide (([e].length + ([] : List Keyword).length + if ([] : List Keyword).isEmpty = true then 0 else 1) < 30)) = true := by rfl)
    (h23 : (ap2.endLine == cp2.line) = true := by rfl) (h24 : starEach [e] X.env = (false, eval e X.env) :: starEach [] X.env := by rfl) (h25 : ((backTo cp2 (starEach [] X.env)).any fun x => x.fst) = false := by rfl)
    (hs : swapsWith (.Call (.Attribute (.Name x px) "append" ap) [.Call (.Attribute (.Name y py) "pop" ap2) [e] [] cp2] [] cp) none pos.line X.env = pure false := by rfl) : St X W g (.Expr (.Call (.Attribute (.Name x px) "append" ap) [.Call (.Attribute (.Name y py) "pop" ap2) [e] [] cp2] [] cp) pos) (fAppPop i j f) := by
  obtain ⟨te, p1, q1⟩ := h
  refine ⟨_, ps_expr (pe_bm PySem.F.plainAttrs_list PySem.F.slot_list_append PySem.F.type_list_append mt_append (pe_var hN hv hd hcd) (pa_cons (pe_bm PySem.F.plainAttrs_list PySem.F.slot_list_pop PySem.F.type_list_pop mt_popAt (pe_var hN2 hv2 hd2 hcd2) (pa_cons p1 pa_nil h24) h21 h22 h23 h24 h25) pa_nil h4) h1 h2 h3 h4 h5) hs, fun σ w H ρ z D sr p => ?_⟩
  unfold fAppPop at p
  rw [sat_bind] at p
  obtain ⟨ds, hi, p⟩ := slotO_eq p
  obtain ⟨hb, p⟩ := sat_okIf p
  rw [Bool.and_eq_true, decide_eq_true_eq, decide_eq_true_eq] at hb
  rw [sat_bind] at p
  obtain ⟨es, hj, p⟩ := slotO_eq p
  rw [sat_bind] at p
  obtain ⟨l, xs, hσ, hx, da⟩ := sr.own hi
  obtain ⟨l2, xs2, hσ2, hx2, da2⟩ := sr.own hj
  refine ⟨_, hσ, .inl ⟨rfl, xs, SqL.of hx⟩, _, hσ2, .inl ⟨rfl, xs2, SqL.of hx2⟩, q1 σ w H ρ z _ sr (p.mono (fun d z1 p v w1 H1 l1 sr1 dv => ?_) fun _ _ => xs1)⟩
  rw [sat_bind] at p
  obtain ⟨n, rfl, p2⟩ := sat_asI p
  have ev := dp_int dv
  subst ev
  rw [sat_bind] at p2
  obtain ⟨⟨yd, es'⟩, eq, p3⟩ := sat_ofO p2
  obtain ⟨kk, b1, b2, b3, b4, b5⟩ := popO_eq eq
  obtain ⟨l', xs', hσ', hx', da'⟩ := sr1.own hi
  rw [hσ] at hσ'
  cases hσ'
  obtain ⟨l2', xs2', hσ2', hx2', da2'⟩ := sr1.own hj
  rw [hσ2] at hσ2'
  cases hσ2'
  obtain ⟨yv, hyv, dy⟩ := dpa_get' da2' b4
  have ne : l ≠ l2 := fun q => hb.2 (sr1.inj i j l _ _ hi hj rfl rfl hσ (by rw [q]; exact hσ2))
  refine ⟨l2, xs2', n, kk, yv, rfl, rfl, hx2', b1, b2, by rw [dpa_len da2']; exact b3, hyv, ?_⟩
  have s2 := sr1.setOwn hj hσ2 hx2' (dpa_erase kk da2')
  rw [← b5] at s2
  have hx3 : (upd H1 l2 (.lst (xs2'.eraseIdx kk))) l = some (.lst xs') := by rw [upd_ne ne]; exact hx'
  refine ⟨l, xs', yv, rfl, rfl, hx3, by rw [dpa_len da']; exact Evl.sz_lt hb.1, ?_⟩
  have hi2 : (ρ.set j (some (.o es')))[i]? = some (some (.o ds)) := by rw [List.getElem?_set_ne (Ne.symm hb.2)]; exact hi
  exact p3 σ w1 _ l1.le (s2.setOwn hi2 hσ hx3 (dpa_app da' (.cons dy .nil)))
/-- x.reverse() -/
def fRev (i : Nat) : FS := fun ρ z => (slotO ρ i z).bind fun ds z => .ok (.nx (ρ.set i (some (.o ds.reverse)))) z
theorem st_rev (i : Nat) {x : Str} {px ap cp : Pos} (hN : X.N[i]? = some x := by rfl) (hv : Vis X.env.scope x := by first | exact Or.inl rfl | exact Or.inr (Or.inl rfl) | exact Or.inr (Or.inr rfl)) (hd : (x == ("__debug__" : Str)) = false := by decide)
    (hcd : (x == ("__classdict__" : Str)) = false := by decide) (hpe : ∀ {r : V → List V → Hp → VK → Prop}, MtR X "list.reverse" r → PE X (.Name x px) (tVar i) → PE X (.Call (.Attribute (.Name x px) "reverse" ap) [] [] cp) (tBM0 X.K "list" r (tVar i)) := by exact fun hm ho => pe_bm0 PySem.F.plainAttrs_list PySem.F.slot_list_reverse PySem.F.type_list_reverse hm ho)
    (hs : swapsWith (.Call (.Attribute (.Name x px) "reverse" ap) [] [] cp) none pos.line X.env = pure false := by rfl) : St X W g (.Expr (.Call (.Attribute (.Name x px) "reverse" ap) [] [] cp) pos) (fRev i) := by
  refine ⟨_, ps_expr (hpe mt_reverse (pe_var hN hv hd hcd)) hs, fun σ w H ρ z D sr p => ?_⟩
  unfold fRev at p
  rw [sat_bind] at p
  obtain ⟨ds, hi, p⟩ := slotO_eq p
  obtain ⟨l, xs, hσ, hx, da⟩ := sr.own hi
  exact ⟨_, hσ, .inl ⟨rfl, xs, SqL.of hx⟩, l, xs, rfl, rfl, hx, p σ w _ (Le.refl w) (sr.setOwn hi hσ hx (dpa_rev da))⟩
def asL : D → Z → Res (List D) | .list i, z => .ok i z | _, _ => .bad
theorem asL_l {i : List D} {z : Z} : asL (.list i) z = .ok i z := rfl
theorem sat_asL {d : D} {z : Z} {P : List D → Z → Prop} {Y : Xc → Z → Prop} (h : Sat (asL d z) P Y) : ∃ i, d = .list i ∧ P i z := by
  cases d <;> first | exact h.elim | exact ⟨_, rfl, h⟩
/-- x += e, a list of the def's own -/
def fExt (i : Nat) (f : FX) : FS := fun ρ z => (slotO ρ i z).bind fun ds z => (f ρ z).bind fun d z => (asL d z).bind fun es z => okIf (decide (ds.length + es.length ≤ 100000)) (.ok (.nx (ρ.set i (some (.o (ds ++ es))))) z)
theorem st_ext (i : Nat) {x : Str} {px : Pos} (h : E X W g e f) (hN : X.N.Nodup) (hi : X.N[i]? = some x := by rfl) (hx : Loc X.env.scope x := by first | exact Or.inl rfl | exact Or.inr rfl) (hf : X.fn x = true ∨ X.env.scope.names.lookup x = some .local := by first | exact .inl rfl | exact .inr rfl) :
    St X W g (.AugAssign (.Name x px) .Add e pos) (fExt i f) := by
  obtain ⟨te, p1, q1⟩ := h
  refine ⟨_, ps_aug hN hi hx p1 iop_ext hf, fun σ w H ρ z D sr p => ?_⟩
  unfold fExt at p
  rw [sat_bind] at p
  obtain ⟨ds, hi, p⟩ := slotO_eq p
  rw [sat_bind] at p
  obtain ⟨l, xs, hσ, hx, da⟩ := sr.own hi
  refine ⟨_, hσ, q1 σ w H ρ z _ sr (p.mono (fun d z1 p v w1 H1 l1 sr1 dv => ?_) fun _ _ => xs1)⟩
  rw [sat_bind] at p
  obtain ⟨es, rfl, p⟩ := sat_asL p
  obtain ⟨hl, p⟩ := sat_okIf p
  obtain ⟨q, ys, rfl, h3, h4⟩ := dp_list dv
  obtain ⟨l', xs', hσ', hx', da'⟩ := sr1.own hi
  rw [hσ] at hσ'
  cases hσ'
  refine ⟨l, q, xs', ys, rfl, rfl, hx', sr1.ex _ _ h3, by rw [dpa_len da', dpa_len h4]; exact Evl.sz_of (of_decide_eq_true hl), ?_⟩
  show D.nx (σ.set i (some (.ref l))) _
  rw [set_same hσ]
  exact p σ w1 _ l1.le (sr1.setOwn hi hσ hx' (dpa_app da' h4))
/-- own list number i is frozen for good -/
def fFreeze (i : Nat) (s : FS) : FS := fun ρ z => (slotO ρ i z).bind fun ds z => s (ρ.set i (some (.d (.list ds)))) z
theorem ss_freeze {i : Nat} {ts : TS} {s : FS} (h : SS κ g W ts s) : SS κ g W ts (fFreeze i s) := fun σ w H ρ z D sr p => by
  unfold fFreeze at p
  rw [sat_bind] at p
  obtain ⟨ds, hi, p⟩ := slotO_eq p
  obtain ⟨v, hv, l, rfl, ow⟩ := sr.sl i _ hi
  obtain ⟨xs, hl, da⟩ := ow.at_
  have hir : i < ρ.length := (List.getElem?_eq_some_iff.mp hi).1
  have s1 : SR κ g w H σ (ρ.set i none) z := by
    have := sr.forget (i := i) (v := some (.ref l))
    rw [set_same hv] at this
    exact this
  have fr : Free g w σ (ρ.set i none) l := ⟨ow.f, ow.b, ow.m, fun j t e1 o y => by
    by_cases c : j = i
    · subst c; rw [List.getElem?_set_self hir] at e1; cases e1
    · rw [List.getElem?_set_ne (Ne.symm c)] at e1
      exact c (sr.inj j i l t _ e1 hi o rfl y hv)⟩
  have ef : Ex w.F (upd w.F l (.lst xs)) := Evl.Ex.new ow.f
  have s2 := (s1.freeze fr hl).setD (i := i) (v := .ref l) (d := .list ds) (.lst upd_same (dpa_ex ef _ _ da))
  rw [set_same hv, List.set_set] at s2
  exact h σ _ H _ z D s2 (Sat.imp p fun o z q => OutOk.le q ⟨ef, List.prefix_refl _⟩)
theorem st_frz {st : Stmt} {s : FS} (i : Nat) (h : St X W g st s) : St X W g st (fFreeze i s) := by
  obtain ⟨te, p1, q1⟩ := h
  exact ⟨_, p1, ss_freeze q1⟩
theorem s_frz {st : List Stmt} {s : FS} (i : Nat) (h : Sts X W g st s) : Sts X W g st (fFreeze i s) := by
  obtain ⟨te, p1, q1⟩ := h
  exact ⟨_, p1, ss_freeze q1⟩
end

end FL

namespace FL
open PySem
open L2 hiding Dp DpAll
open DL (D Fg Ex Dp DpAll DpKv dp_ex dpa_ex dpk_ex Grow OpD UnD CallD CallL dpa_len dpa_get dpa_get' dpa_app dpa_rev dpa_erase dpa_take dpa_drop dpa_ints ints_dpa dpa_set dp_list dp_tuple dp_int dp_str dp_bool)
open PySem.Spec PyProof.Rows
open DL
section
variable {X : Cx} {W : WX} {g : G} {a b c e : Expr} {es : List Expr} {f fa fb fc : FX} {pos : Pos} {κ : Kt} {fd : FLs}
theorem e_sub (ha : E X W g a fa) (hb : E X W g b fb) : E X W g (.BinOp a .Sub b pos) (fBin subD fa fb) := e_op op_sub opd_I0 ha hb
theorem e_mul (ha : E X W g a fa) (hb : E X W g b fb) : E X W g (.BinOp a .Mult b pos) (fBin mulD fa fb) :=
  e_op op_mul (opd_I (p := mulOk) fun i j h => by
    unfold mulOk at h
    unfold CMul
    simpa using h) ha hb
theorem e_mod (ha : E X W g a fa) (hb : E X W g b fb) : E X W g (.BinOp a .Mod b pos) (fBin modD fa fb) := e_op op_mod (opd_I (p := fun _ j => decide (0 < j)) fun i j h => by simpa using h) ha hb
theorem e_fdiv (ha : E X W g a fa) (hb : E X W g b fb) : E X W g (.BinOp a .FloorDiv b pos) (fBin fdivD fa fb) := e_op op_fdiv (opd_I (p := fdivOk) fun i j h => by
    unfold fdivOk at h
    unfold CDiv
    simpa using h) ha hb
theorem e_pow (ha : E X W g a fa) (hb : E X W g b fb) : E X W g (.BinOp a .Pow b pos) (fBin powD fa fb) := e_op op_pow (opd_I (p := powOk) fun i j h => by
    unfold powOk at h
    unfold CPow
    simpa [and_assoc] using h) ha hb
theorem e_neg (ha : E X W g a fa) : E X W g (.UnaryOp .USub a pos) (fUn negD fa) := e_un un_neg und_neg ha
theorem e_add (ha : E X W g a fa) (hb : E X W g b fb) : E X W g (.BinOp a .Add b pos) (fBin addD fa fb) := e_op (op_add.or (op_add_str.or (op_catA.or op_cat))) (opd_addI.or (opd_addS.or (opd_addT.or opd_addL))) ha hb
theorem e_eq (hu : X.A.units + 64 < cLine) (ha : E X W g a fa) (hb : E X W g b fb) : E X W g (.Compare a [.Eq] [b] pos) (fBin eqD fa fb) := e_cmpR (op_eqD hu) opd_eq ha hb (nomark _)
theorem e_ne (hu : X.A.units + 64 < cLine) (ha : E X W g a fa) (hb : E X W g b fb) : E X W g (.Compare a [.NotEq] [b] pos) (fBin neD fa fb) := e_cmpR (op_neD hu) opd_ne ha hb (nomark _)
theorem b_eq (hu : X.A.units + 64 < cLine) (ha : E X W g a fa) (hb : E X W g b fb) : B X W g (.Compare a [.Eq] [b] pos) (fVal (fBin eqD fa fb)) := b_cmpR (op_eqD hu) opd_eq ha hb (nomark _)
theorem b_ne (hu : X.A.units + 64 < cLine) (ha : E X W g a fa) (hb : E X W g b fb) : B X W g (.Compare a [.NotEq] [b] pos) (fVal (fBin neD fa fb)) := b_cmpR (op_neD hu) opd_ne ha hb (nomark _)
theorem e_lt (ha : E X W g a fa) (hb : E X W g b fb) : E X W g (.Compare a [.Lt] [b] pos) (fBin ltD fa fb) := e_cmpR op_lt opd_IB ha hb (nomark _)
theorem e_le (ha : E X W g a fa) (hb : E X W g b fb) : E X W g (.Compare a [.LtE] [b] pos) (fBin leD fa fb) := e_cmpR op_le opd_IB ha hb (nomark _)
theorem e_gt (ha : E X W g a fa) (hb : E X W g b fb) : E X W g (.Compare a [.Gt] [b] pos) (fBin gtD fa fb) := e_cmpR op_gt opd_IB ha hb (nomark _)
theorem e_ge (ha : E X W g a fa) (hb : E X W g b fb) : E X W g (.Compare a [.GtE] [b] pos) (fBin geD fa fb) := e_cmpR op_ge opd_IB ha hb (nomark _)
theorem b_lt (ha : E X W g a fa) (hb : E X W g b fb) : B X W g (.Compare a [.Lt] [b] pos) (fVal (fBin ltD fa fb)) := b_cmpR op_lt opd_IB ha hb (nomark _)
theorem b_le (ha : E X W g a fa) (hb : E X W g b fb) : B X W g (.Compare a [.LtE] [b] pos) (fVal (fBin leD fa fb)) := b_cmpR op_le opd_IB ha hb (nomark _)
theorem b_gt (ha : E X W g a fa) (hb : E X W g b fb) : B X W g (.Compare a [.Gt] [b] pos) (fVal (fBin gtD fa fb)) := b_cmpR op_gt opd_IB ha hb (nomark _)
theorem b_ge (ha : E X W g a fa) (hb : E X W g b fb) : B X W g (.Compare a [.GtE] [b] pos) (fVal (fBin geD fa fb)) := b_cmpR op_ge opd_IB ha hb (nomark _)
theorem e_lele (ha : E X W g a fa) (hb : E X W g b fb) (hc : E X W g c fc) (hm : lastMarks [.LtE, .LtE] [b, c] = false := by rfl) : E X W g (.Compare a [.LtE, .LtE] [b, c] pos) (fChain leD leD fa fb fc) := e_chain op_le opd_IB op_le opd_IB ha hb hc hm
theorem b_lele (ha : E X W g a fa) (hb : E X W g b fb) (hc : E X W g c fc) (hm : lastMarks [.LtE, .LtE] [b, c] = false := by rfl) : B X W g (.Compare a [.LtE, .LtE] [b, c] pos) (fVal (fChain leD leD fa fb fc)) := b_chain op_le opd_IB op_le opd_IB ha hb hc hm

theorem e_is (ha : E X W g a fa) (hb : E X W g b fb) : E X W g (.Compare a [.Is] [b] pos) (fBin isND fa fb) := e_cmpR op_isN opd_isN ha hb (nomark _)
theorem e_isnot (ha : E X W g a fa) (hb : E X W g b fb) : E X W g (.Compare a [.IsNot] [b] pos) (fBin notND fa fb) := e_cmpR op_notN opd_notN ha hb (nomark _)
theorem b_is (ha : E X W g a fa) (hb : E X W g b fb) : B X W g (.Compare a [.Is] [b] pos) (fVal (fBin isND fa fb)) := b_cmpR op_isN opd_isN ha hb (nomark _)
theorem b_isnot (ha : E X W g a fa) (hb : E X W g b fb) : B X W g (.Compare a [.IsNot] [b] pos) (fVal (fBin notND fa fb)) := b_cmpR op_notN opd_notN ha hb (nomark _)
theorem e_in (ha : E X W g a fa) (hb : E X W g b fb) (hm : behindInMarks .In b = false := by rfl) : E X W g (.Compare a [.In] [b] pos) (fBin inD fa fb) := e_cmpR (op_in_seq.or op_in_sign) (opd_inSeq.or opd_inStr) ha hb hm
theorem b_in (ha : E X W g a fa) (hb : E X W g b fb) (hm : behindInMarks .In b = false := by rfl) : B X W g (.Compare a [.In] [b] pos) (fVal (fBin inD fa fb)) := b_cmpR (op_in_seq.or op_in_sign) (opd_inSeq.or opd_inStr) ha hb hm
theorem e_notin (ha : E X W g a fa) (hb : E X W g b fb) (hm : behindInMarks .NotIn b = false := by rfl) : E X W g (.Compare a [.NotIn] [b] pos) (fBin notinD fa fb) := e_cmpR (op_notIn_seq.or op_notIn_sign) (opd_inSeq.or opd_notinStr) ha hb hm
theorem b_notin (ha : E X W g a fa) (hb : E X W g b fb) (hm : behindInMarks .NotIn b = false := by rfl) : B X W g (.Compare a [.NotIn] [b] pos) (fVal (fBin notinD fa fb)) := b_cmpR (op_notIn_seq.or op_notIn_sign) (opd_inSeq.or opd_notinStr) ha hb hm
theorem e_sub1 (ha : E X W g a fa) (hb : E X W g b fb) (hs : PlainIx b := by exact fun _ _ => rfl) : E X W g (.Subscript a b pos) (fBin ixD fa fb) := e_ix ((ix_list.or ix_tup).or ix_str) (opd_ixSq.or opd_ixSt) ha hb hs
theorem e_len {p : Pos} (hg : Gl X "len") (hm : X.mg "len" = none) (ha : Da X W g (e :: es) fd) (hst : starEach (e :: es) X.env = (false, eval e X.env) :: starEach es X.env := by rfl) (hpl : (backTo pos (starEach es X.env)).any (·.1) = false := by rfl) : E X W g (.Call (.Name "len" p) (e :: es) [] pos) (fCall lenD fd) :=
  e_callB call_len cd_len hg hm PySem.boot_len ha (by decide) (by decide) hst hpl

theorem e_intc {p : Pos} (hg : Gl X "int") (hm : X.mg "int" = none) (ha : Da X W g (e :: es) fd) (hst : starEach (e :: es) X.env = (false, eval e X.env) :: starEach es X.env := by rfl) (hpl : (backTo pos (starEach es X.env)).any (·.1) = false := by rfl) : E X W g (.Call (.Name "int" p) (e :: es) [] pos) (fCall int1D fd) :=
  e_callTy call_int1 cd_int hg hm (by decide +kernel) ha (by decide) (by decide) hst hpl
theorem e_max2 {p : Pos} (hc : X.calm = true) (hg : Gl X "max") (hm : X.mg "max" = none) (ha : Da X W g (e :: es) fd) (hst : starEach (e :: es) X.env = (false, eval e X.env) :: starEach es X.env := by rfl) (hpl : (backTo pos (starEach es X.env)).any (·.1) = false := by rfl) : E X W g (.Call (.Name "max" p) (e :: es) [] pos) (fCall max2D fd) :=
  e_callB (call_max2 hc) cd_max2 hg hm (by decide +kernel) ha (by decide) (by decide) hst hpl
theorem e_min2 {p : Pos} (hc : X.calm = true) (hg : Gl X "min") (hm : X.mg "min" = none) (ha : Da X W g (e :: es) fd) (hst : starEach (e :: es) X.env = (false, eval e X.env) :: starEach es X.env := by rfl) (hpl : (backTo pos (starEach es X.env)).any (·.1) = false := by rfl) : E X W g (.Call (.Name "min" p) (e :: es) [] pos) (fCall min2D fd) :=
  e_callB (call_min2 hc) cd_min2 hg hm (by decide +kernel) ha (by decide) (by decide) hst hpl
theorem e_all {p : Pos} (hc : X.calm = true) (hg : Gl X "all") (hm : X.mg "all" = none) (ha : Da X W g (e :: es) fd) (hst : starEach (e :: es) X.env = (false, eval e X.env) :: starEach es X.env := by rfl) (hpl : (backTo pos (starEach es X.env)).any (·.1) = false := by rfl) : E X W g (.Call (.Name "all" p) (e :: es) [] pos) (fCall allD fd) :=
  e_callB (cr_all hc) cd_all hg hm (by decide +kernel) ha (by decide) (by decide) hst hpl
theorem e_any {p : Pos} (hc : X.calm = true) (hg : Gl X "any") (hm : X.mg "any" = none) (ha : Da X W g (e :: es) fd) (hst : starEach (e :: es) X.env = (false, eval e X.env) :: starEach es X.env := by rfl) (hpl : (backTo pos (starEach es X.env)).any (·.1) = false := by rfl) : E X W g (.Call (.Name "any" p) (e :: es) [] pos) (fCall anyD fd) :=
  e_callB (cr_any hc) cd_any hg hm (by decide +kernel) ha (by decide) (by decide) hst hpl
theorem e_tuple {p : Pos} (hg : Gl X "tuple") (hm : X.mg "tuple" = none) (ha : Da X W g (e :: es) fd) (hst : starEach (e :: es) X.env = (false, eval e X.env) :: starEach es X.env := by rfl) (hpl : (backTo pos (starEach es X.env)).any (·.1) = false := by rfl) : E X W g (.Call (.Name "tuple" p) (e :: es) [] pos) (fCall tupleD fd) :=
  e_callTy call_tuple_of cd_tuple hg hm (by decide +kernel) ha (by decide) (by decide) hst hpl
theorem l_list {p : Pos} (hg : Gl X "list") (hm : X.mg "list" = none) (ha : Da X W g (e :: es) fd) (hst : starEach (e :: es) X.env = (false, eval e X.env) :: starEach es X.env := by rfl) (hpl : (backTo pos (starEach es X.env)).any (·.1) = false := by rfl) : Ls X W g (.Call (.Name "list" p) (e :: es) [] pos) (fCallL listD fd) :=
  l_callTy call_list_of cl_list hg hm (by decide +kernel) ha (by decide) (by decide) hst hpl
theorem l_sorted {p : Pos} (hg : Gl X "sorted") (hm : X.mg "sorted" = none) (ha : Da X W g (e :: es) fd) (hst : starEach (e :: es) X.env = (false, eval e X.env) :: starEach es X.env := by rfl) (hpl : (backTo pos (starEach es X.env)).any (·.1) = false := by rfl) : Ls X W g (.Call (.Name "sorted" p) (e :: es) [] pos) (fCallL sortedD fd) :=
  l_callB (DL.CallR.or cr_sortedI cr_sortedTup) cl_sorted hg hm PyProof.Rows.boot_sorted ha (by decide) (by decide) hst hpl
theorem e_repr {k : Nat} {p : Pos} (hr : Rm k X.A) (hg : Gl X "repr") (hm : X.mg "repr" = none) (ha : Da X W g (e :: es) fd) (hst : starEach (e :: es) X.env = (false, eval e X.env) :: starEach es X.env := by rfl) (hpl : (backTo pos (starEach es X.env)).any (·.1) = false := by rfl) : E X W g (.Call (.Name "repr" p) (e :: es) [] pos) (fCall reprD fd) :=
  e_callB (call_repr_data hr.gd hr.units) cd_repr hg hm (by decide +kernel) ha (by decide) (by decide) hst hpl
end

end FL

namespace FL
open PySem
open L2 hiding Dp DpAll
open DL (D Fg Ex Dp DpAll DpKv dp_ex dpa_ex dpk_ex Grow OpD UnD CallD CallL dpa_len dpa_get dpa_get' dpa_app dpa_rev dpa_erase dpa_take dpa_drop dpa_ints ints_dpa dpa_set dp_list dp_tuple dp_int dp_str dp_bool)
open PySem.Spec PyProof.Rows
section
variable {X : Cx} {W : WX} {g : G} {a b c e : Expr} {es : List Expr} {f fa fb fc : FX} {pos : Pos} {κ : Kt} {fd fi : FLs} {tg : Expr} {u : FT}
/-! ### isinstance -/
theorem e_isi (T : String) {x : Str} {p px : Pos} (hg : Gl X "isinstance") (hm : X.mg "isinstance" = none) (hg2 : Gl X x) (hm2 : X.mg x = none) (hv : bootBuiltins x = some (.type T)) (ha : E X W g a fa) (hn : x ≠ "__name__" := by decide) (hd : (x == ("__debug__" : Str)) = false := by decide)
    (hst : starEach [a, .Name x px] X.env = (false, eval a X.env) :: starEach [.Name x px] X.env := by rfl) (hst2 : starEach [.Name x px] X.env = (false, eval (.Name x px) X.env) :: starEach [] X.env := by rfl) (hpl : (backTo pos (starEach [.Name x px] X.env)).any (·.1) = false := by rfl) :
    E X W g (.Call (.Name "isinstance" p) [a, .Name x px] [] pos) (fUn (DL.isiD T) fa) := by
  obtain ⟨te, p1, q1⟩ := ha
  refine ⟨_, pe_callB call_isi hg hm (by decide +kernel) (pa_cons p1 (pa_cons (pe_bltn (v := .ty T) hg2 hm2 hv rfl hn hd) pa_nil hst2) hst) (by decide) (by decide) hst hpl, fun σ w H ρ z Q sr p => ?_⟩
  unfold fUn at p
  rw [sat_bind] at p
  refine q1 σ w H ρ z _ sr (p.imp fun y z1 p v1 w1 H1 l1 sr1 d1 => ?_)
  obtain ⟨d, e, p⟩ := sat_ofO p
  unfold DL.isiD at e
  cases q : kitB (DL.tyD y) T with
  | none => rw [q] at e; cases e
  | some r =>
    rw [q] at e
    cases e
    exact ⟨v1, .ty T, .type (DL.tyD y), .type T, r, rfl, .ty T, DL.ty_of sr1.ex d1, kit_ty q, p _ w1 H1 l1 sr1 (.bl r)⟩
section
variable {p px : Pos} (hg : Gl X "isinstance") (hm : X.mg "isinstance" = none) (ha : E X W g a fa)
include hg hm ha
theorem e_isInt (hg2 : Gl X "int") (hm2 : X.mg "int" = none) (hst : starEach [a, .Name "int" px] X.env = (false, eval a X.env) :: starEach [.Name "int" px] X.env := by rfl) : E X W g (.Call (.Name "isinstance" p) [a, .Name "int" px] [] pos) (fUn DL.isIntD fa) := DL.isi_int ▸ e_isi "int" hg hm hg2 hm2 (by decide +kernel) ha (by decide) (by decide) hst
theorem e_isBool (hg2 : Gl X "bool") (hm2 : X.mg "bool" = none) (hst : starEach [a, .Name "bool" px] X.env = (false, eval a X.env) :: starEach [.Name "bool" px] X.env := by rfl) : E X W g (.Call (.Name "isinstance" p) [a, .Name "bool" px] [] pos) (fUn DL.isBoolD fa) := DL.isi_bool ▸ e_isi "bool" hg hm hg2 hm2 (by decide +kernel) ha (by decide) (by decide) hst
theorem e_isStr (hg2 : Gl X "str") (hm2 : X.mg "str" = none) (hst : starEach [a, .Name "str" px] X.env = (false, eval a X.env) :: starEach [.Name "str" px] X.env := by rfl) : E X W g (.Call (.Name "isinstance" p) [a, .Name "str" px] [] pos) (fUn DL.isStrD fa) := DL.isi_str ▸ e_isi "str" hg hm hg2 hm2 (by decide +kernel) ha (by decide) (by decide) hst
theorem e_isTup (hg2 : Gl X "tuple") (hm2 : X.mg "tuple" = none) (hst : starEach [a, .Name "tuple" px] X.env = (false, eval a X.env) :: starEach [.Name "tuple" px] X.env := by rfl) : E X W g (.Call (.Name "isinstance" p) [a, .Name "tuple" px] [] pos) (fUn DL.isTupD fa) := DL.isi_tup ▸ e_isi "tuple" hg hm hg2 hm2 (by decide +kernel) ha (by decide) (by decide) hst
theorem e_isLst (hg2 : Gl X "list") (hm2 : X.mg "list" = none) (hst : starEach [a, .Name "list" px] X.env = (false, eval a X.env) :: starEach [.Name "list" px] X.env := by rfl) : E X W g (.Call (.Name "isinstance" p) [a, .Name "list" px] [] pos) (fUn DL.isLstD fa) := DL.isi_lst ▸ e_isi "list" hg hm hg2 hm2 (by decide +kernel) ha (by decide) (by decide) hst
end
/-! ### enumerate -/
def enumO : List D → Option (List D)
  | [.list ds] => some (DL.enumD ds)
  | [.tuple ds] => some (DL.enumD ds)
  | _ => none
def fEnum (fd : FLs) : FLs := fun ρ z => (fd ρ z).bind fun ds z => ofO (enumO ds) z
theorem i_enum {p tpos : Pos} {elts : List Expr} {kk : Nat} (hg : Gl X "enumerate") (hm : X.mg "enumerate" = none) (h : Da X W g [e] fd) (hs : starEach [e] X.env = [(false, eval e X.env)] := by rfl) : I X W g (.Tuple elts kk tpos) (.Call (.Name "enumerate" p) [e] [] pos) (fEnum fd) := by
  obtain ⟨te, p1, q1⟩ := h
  refine ⟨_, PI.or (pi_enum hg hm p1 hs) (DL.pi_enumT hg hm p1 hs), fun σ w H ρ z R sr p => ?_⟩
  unfold fEnum at p
  cases q : fd ρ z with
  | bad => rw [q] at p; exact p.elim
  | ex x z1 =>
    rw [q] at p
    refine .inl (q1 σ w H ρ z _ sr ?_)
    rw [q]; exact p
  | ok ds z1 =>
    rw [q, ok_bind] at p
    obtain ⟨items, e1, p⟩ := sat_ofO p
    unfold enumO at e1
    split at e1
    · rename_i es
      cases e1
      refine .inl (q1 σ w H ρ z _ sr ?_)
      rw [q]
      refine fun vs w1 H1 l1 sr1 da => ?_
      cases da with
      | cons h1 h2 =>
        cases h2
        obtain ⟨a, xs, rfl, h3, h4⟩ := dp_list h1
        have hl := dpa_len h4
        have hle : (DL.enumD es).length = es.length := by unfold DL.enumD; rw [List.length_mapIdx]
        refine ⟨a, xs, rfl, SqL.of (sr1.ex _ _ h3), p _ w1 H1 l1 sr1 ⟨fun i F1 H1 e1 e2 hi => ?_, fun i F1 H1 x H2 e1 e2 hi hy => ?_, fun F1 H1 e1 e2 => ?_⟩⟩
        · exact ⟨xs, _, SqL.of (e2 _ _ (e1 _ _ h3)), List.getElem?_eq_getElem (by omega)⟩
        · obtain ⟨T, y, rfl, hT, rfl, hx⟩ := hy
          obtain ⟨d, hd, dx⟩ := dpa_get h4 (hx xs (SqL.of (e2 _ _ (e1 _ _ h3))))
          have g2 := DL.Grow.new (m := none) (o := .tup [.int (i : Nat), y]) e2 hT
          exact ⟨_, _, DL.enumD_get hd, g2, .tup (SqT.of upd_same) (.cons (.int _) (.cons (dp_ex (e1.trans g2.f) _ _ dx) .nil))⟩
        · exact ⟨xs, SqL.of (e2 _ _ (e1 _ _ h3)), by omega⟩
    · rename_i es
      cases e1
      refine .inr (q1 σ w H ρ z _ sr ?_)
      rw [q]
      refine fun vs w1 H1 l1 sr1 da => ?_
      cases da with
      | cons h1 h2 =>
        cases h2
        obtain ⟨a, xs, rfl, h3, h4⟩ := dp_tuple h1
        have hl := dpa_len h4
        have hle : (DL.enumD es).length = es.length := by unfold DL.enumD; rw [List.length_mapIdx]
        refine ⟨a, xs, rfl, Evl.ex_t sr1.ex h3, p _ w1 H1 l1 sr1 ⟨fun i F1 H1 e1 e2 hi => ?_, fun i F1 H1 x H2 e1 e2 hi hy => ?_, fun F1 H1 e1 e2 => ?_⟩⟩
        · exact ⟨xs, _, Evl.ex_t (e1.trans e2) h3, List.getElem?_eq_getElem (by omega)⟩
        · obtain ⟨T, y, rfl, hT, rfl, hx⟩ := hy
          obtain ⟨d, hd, dx⟩ := dpa_get h4 (hx xs (Evl.ex_t (e1.trans e2) h3))
          have g2 := DL.Grow.new (m := none) (o := .tup [.int (i : Nat), y]) e2 hT
          exact ⟨_, _, DL.enumD_get hd, g2, .tup (SqT.of upd_same) (.cons (.int _) (.cons (dp_ex (e1.trans g2.f) _ _ dx) .nil))⟩
        · exact ⟨xs, Evl.ex_t (e1.trans e2) h3, by omega⟩
    · cases e1
/-! ### steps in slices -/
theorem PE.or {t1 t2 : TE} (h1 : PE X e t1) (h2 : PE X e t2) : PE X e (fun σ H Q => t1 σ H Q ∨ t2 σ H Q) :=
  ⟨fun pins s σ H Q I h => by
    rcases h with h | h
    · exact h1.run pins s σ H Q I h
    · exact h2.run pins s σ H Q I h⟩
theorem sld_step {K : Fg} {c : Int} : ∀ F H vx x lo hi d (Q : VK), Ex F H → Dp K F vx x → DL.stepD c x lo hi = some d → (∀ v F' H', Grow none F H F' H' → Dp K F' v d → Q v H') → ∃ p xs, vx = .ref p ∧ SqT K H p xs ∧ (DL.stepV xs lo hi c).length ≤ sizeLine ∧ ∀ q, H q = none → Q (.ref q) (upd H q (.tup (DL.stepV xs lo hi c))) := by
  intro F H vx x lo hi d Q ex dx e k
  unfold DL.stepD at e
  split at e
  · rename_i ds
    split at e
    · rename_i hc
      cases e
      obtain ⟨q, xs, rfl, h1, h2⟩ := dp_tuple dx
      have da := DL.stepV_dpa h2 lo hi c
      refine ⟨q, xs, rfl, Evl.ex_t ex h1, by rw [dpa_len da]; exact Evl.sz_of (of_decide_eq_true hc), fun q' hq' => ?_⟩
      have gr := DL.Grow.new (m := none) (o := .tup (DL.stepV xs lo hi c)) ex hq'
      exact k _ _ _ gr (.tup (SqT.of upd_same) (dpa_ex gr.f _ _ da))
    · cases e
  · cases e
theorem se_step {te : TE} {to1 to2 : TO} {fl fh : FO} {c : Int} (q1 : SE κ g W te fa) (q2 : SO κ g W to1 fl) (q3 : SO κ g W to2 fh) : SE κ g W (DL.tStep κ.K c te to1 to2) (fSl (DL.stepD c) fa fl fh) := fun σ w H ρ z Q sr p => by
  unfold fSl at p
  rw [sat_bind] at p
  refine q1 σ w H ρ z _ sr (p.imp fun x z1 p v w1 H1 l1 sr1 dv => ?_)
  rw [sat_bind] at p
  refine q2 σ w1 H1 ρ z1 _ sr1 (p.imp fun lo z2 p w2 H2 l2 sr2 => ?_)
  rw [sat_bind] at p
  refine q3 σ w2 H2 ρ z2 _ sr2 (p.imp fun hi z3 p w3 H3 l3 sr3 => ?_)
  obtain ⟨d, e, p⟩ := sat_ofO p
  obtain ⟨q, xs, e1, h2, h3, h4⟩ := sld_step w3.F H3 v x lo hi d Q sr3.ex (dp_ex (l2.trans l3).le.f _ _ dv) e fun v F4 H4 gr dv => p v _ H4 (((l1.trans l2).trans l3).trans (Go.of gr)) (sr3.grow gr) dv
  exact ⟨q, xs, e1, h2, h3, h4⟩
theorem e_stepT {lo hi : Option Expr} {fl fh : FO} {k : Nat} {c : Int} {p1 p3 : Pos} (ha : E X W g a fa) (hl : Op X W g lo fl) (hh : Op X W g hi fh) (h0 : c ≠ 0 := by decide) (h1 : c ≠ 1 := by decide) : E X W g (.Subscript a (.Slice lo hi (some (.Constant (.int c) k p1)) p3) pos) (fSl (DL.stepD c) fa fl fh) := by
  obtain ⟨te, p1, q1⟩ := ha
  obtain ⟨to1, p2, q2⟩ := hl
  obtain ⟨to2, p3, q3⟩ := hh
  exact ⟨_, DL.pe_step p1 p2 p3 DL.po_c h0 h1, se_step q1 q2 q3⟩
/-- x[::-1] -/
def revD : D → Option D
  | .list ds => some (.list ds.reverse)
  | x => DL.stepD (-1) x none none
theorem e_rev {k : Nat} {p1 p2 p3 : Pos} (ha : E X W g a fa) : E X W g (.Subscript a (.Slice none none (some (.UnaryOp .USub (.Constant (.int 1) k p1) p2)) p3) pos) (fUn revD fa) := by
  obtain ⟨te, p1, q1⟩ := ha
  refine ⟨_, PE.or (pe_revL p1) (DL.pe_step p1 po_none po_none DL.po_m1 (by decide) (by decide)), fun σ w H ρ z Q sr p => ?_⟩
  unfold fUn at p
  cases q : fa ρ z with
  | bad => rw [q] at p; exact p.elim
  | ex x z1 =>
    rw [q] at p
    refine .inl (q1 σ w H ρ z _ sr ?_)
    rw [q]; exact p
  | ok d z1 =>
    rw [q, ok_bind] at p
    obtain ⟨d', e1, p⟩ := sat_ofO p
    by_cases hd : ∃ ds, d = .list ds
    · obtain ⟨ds, rfl⟩ := hd
      cases e1
      refine .inl (q1 σ w H ρ z _ sr ?_)
      rw [q]
      refine fun v w1 H1 l1 sr1 dv => ?_
      obtain ⟨a, xs, rfl, h1, h2⟩ := dp_list dv
      refine ⟨a, xs, rfl, SqL.of (sr1.ex _ _ h1), fun p' hp => ?_⟩
      have gr := DL.Grow.new (m := none) (o := .lst xs.reverse) sr1.ex hp
      exact p _ _ _ (l1.trans (Go.of gr)) (sr1.grow gr) (.lst upd_same (dpa_ex gr.f _ _ (dpa_rev h2)))
    · have e2 : DL.stepD (-1) d none none = some d' := by
        cases d <;> first | exact e1 | exact absurd ⟨_, rfl⟩ hd
      refine .inr (q1 σ w H ρ z _ sr ?_)
      rw [q]
      refine fun v w1 H1 l1 sr1 dv => ?_
      exact sld_step w1.F H1 v d none none d' Q sr1.ex dv e2 fun v F4 H4 gr dv => p v _ H4 (l1.trans (Go.of gr)) (sr1.grow gr) dv
/-! ### sep.join(texts) -/
def asS : D → Z → Res Str | .str i, z => .ok i z | _, _ => .bad
theorem asS_s {i : Str} {z : Z} : asS (.str i) z = .ok i z := rfl
theorem sat_asS {d : D} {z : Z} {P : Str → Z → Prop} {Y : Xc → Z → Prop} (h : Sat (asS d z) P Y) : ∃ i, d = .str i ∧ P i z := by
  cases d <;> first | exact h.elim | exact ⟨_, rfl, h⟩
def fJoin (fa fb : FX) : FX := fun ρ z => (fa ρ z).bind fun d z => (asS d z).bind fun s z => (fb ρ z).bind fun y z => ofO (DL.joinD s y) z
theorem e_join {apos : Pos} (ha : E X W g a fa) (hb : E X W g b fb) (hs : starEach [b] X.env = [(false, eval b X.env)] := by rfl) (hbase : attributeBase a "join" X.env (eval a X.env) = eval a X.env := by rfl) (hline : (apos.endLine == pos.line) = true := by rfl) : E X W g (.Call (.Attribute a "join" apos) [b] [] pos) (fJoin fa fb) := by
  obtain ⟨te, p1, q1⟩ := ha
  obtain ⟨te', p2, q2⟩ := hb
  refine ⟨_, pe_join p1 p2 hs hbase hline, fun σ w H ρ z Q sr p => ?_⟩
  unfold fJoin at p
  rw [sat_bind] at p
  refine q1 σ w H ρ z _ sr (p.imp fun x z1 p vx w1 H1 l1 sr1 dx => ?_)
  rw [sat_bind] at p
  obtain ⟨s, rfl, p2⟩ := sat_asS p
  have ev := dp_str dx
  subst ev
  rw [sat_bind] at p2
  refine ⟨⟨s, rfl⟩, q2 σ w1 H1 ρ z1 _ sr1 (p2.imp fun y z2 p vy w2 H2 l2 sr2 dy => ?_)⟩
  obtain ⟨d, e, p⟩ := sat_ofO p
  unfold DL.joinD at e
  cases hi : DL.itemsOf y with
  | none => rw [hi] at e; cases e
  | some ds =>
    rw [hi] at e
    cases hq : DL.strsOf ds with
    | none => simp only [hq] at e; cases e
    | some ws =>
      simp only [hq] at e
      obtain ⟨q, xs, rfl, hq', da⟩ := DL.seq_of sr2.ex dy hi
      rw [DL.strsOf_eq hq] at da
      by_cases hc : DL.joinOk s ws = true
      · rw [if_pos hc] at e
        cases e
        rw [DL.strs_dpa da] at hq'
        exact ⟨s, q, ws, rfl, rfl, hq', of_decide_eq_true hc, p _ w2 H2 (l1.trans l2) sr2 (.str _)⟩
      · rw [if_neg hc] at e
        cases e
/-! ### x[i] = e, a list of the def's own -/
def fPut (i : Nat) (fi' fe : FX) : FS := fun ρ z => (fe ρ z).bind fun d z => (slotO ρ i z).bind fun ds z => (fi' ρ z).bind fun y z => (asI y z).bind fun k z => (ofO (ixN ds.length k) z).bind fun j z => .ok (.nx (ρ.set i (some (.o (ds.set j d))))) z
theorem st_put (i : Nat) {x : Str} {px tp : Pos} (ha : E X W g a fa) (hb : E X W g b fb) (hN : X.N[i]? = some x := by rfl) (hv : Vis X.env.scope x := by first | exact Or.inl rfl | exact Or.inr (Or.inl rfl) | exact Or.inr (Or.inr rfl)) (hd : (x == ("__debug__" : Str)) = false := by decide) (hcd : (x == ("__classdict__" : Str)) = false := by decide)
    (hs : swapsWithSole [.Subscript (.Name x px) a tp] b pos.line X.env = pure false := by rfl) (hw : swappedStores [.Subscript (.Name x px) a tp] b X.env = pure none := by rfl) (h1 : (assignEach [.Subscript (.Name x px) a tp] X.env).map (·.2) = [assign (.Subscript (.Name x px) a tp) X.env] := by rfl)
    (h2 : ∀ v, assign (.Subscript (.Name x px) a tp) X.env v = (do let ov ← holding [v] (eval (.Name x px) X.env); let iv ← holding [v, ov] (eval a X.env); standAt tp; holding [v, ov, iv] (setItem ov iv v); release [v, ov, iv] []) := by intro _; rfl) : St X W g (.Assign [.Subscript (.Name x px) a tp] b pos) (fPut i fa fb) := by
  obtain ⟨te, p1, q1⟩ := ha
  obtain ⟨te', p2, q2⟩ := hb
  refine ⟨_, ps_asg p2 (pg_sub (pe_var hN hv hd hcd) p1 set_list h2) hs hw h1, fun σ w H ρ z D sr p => ?_⟩
  unfold fPut at p
  rw [sat_bind] at p
  refine q2 σ w H ρ z _ sr (p.mono (fun d z1 p v w1 H1 l1 sr1 dv => ?_) fun _ _ => xs1)
  rw [sat_bind] at p
  obtain ⟨ds, hi, p⟩ := slotO_eq p
  rw [sat_bind] at p
  obtain ⟨l, xs, hσ, hx, da⟩ := sr1.own hi
  refine ⟨_, hσ, q1 σ w1 H1 ρ z1 _ sr1 (p.mono (fun y z2 p vz w2 H2 l2 sr2 dz => ?_) fun _ _ => xs1)⟩
  rw [sat_bind] at p
  obtain ⟨k, rfl, p2⟩ := sat_asI p
  have ev := dp_int dz
  subst ev
  rw [sat_bind] at p2
  obtain ⟨j, hj, p3⟩ := sat_ofO p2
  obtain ⟨l', xs', hσ', hx', da'⟩ := sr2.own hi
  rw [hσ] at hσ'
  cases hσ'
  exact ⟨l, xs', k, j, rfl, rfl, hx', by rw [dpa_len da']; exact hj, p3 σ w2 _ (l1.trans l2).le (sr2.setOwn hi hσ hx' (dpa_set (dp_ex l2.le.f _ _ dv) j da'))⟩
/-! ### list(range(n)) -/
def lrO : D → Option (List D)
  | .int j => if (decide (0 ≤ j) && decide (j ≤ 10000)) = true then some ((DL.rangeL j.toNat).map .int) else none
  | _ => none
def fListRange (f : FX) : FLs := fun ρ z => (f ρ z).bind fun d z => ofO (lrO d) z
theorem l_listRange {p p2 pos2 : Pos} (hc : X.calm = true) (hg : Gl X "list") (hm : X.mg "list" = none) (hg2 : Gl X "range") (hm2 : X.mg "range" = none) (ha : E X W g a fa) (na : starEach [a] X.env = (false, eval a X.env) :: starEach [] X.env := by rfl)
    (nb : starEach [.Call (.Name "range" p2) [a] [] pos2] X.env = (false, eval (.Call (.Name "range" p2) [a] [] pos2) X.env) :: starEach [] X.env := by rfl) : Ls X W g (.Call (.Name "list" p) [.Call (.Name "range" p2) [a] [] pos2] [] pos) (fListRange fa) := by
  obtain ⟨te, p1, s1⟩ := ha
  refine ⟨_, pe_listRg hc hg hm (prg_1 hg2 hm2 p1 na) nb, fun σ w H ρ z Q sr p => ?_⟩
  unfold fListRange at p
  rw [sat_bind] at p
  refine s1 σ w H ρ z _ sr (p.imp fun d z1 p v w1 H1 l1 sr1 dv => ?_)
  obtain ⟨ds, e, p⟩ := sat_ofO p
  unfold lrO at e
  split at e
  · rename_i j
    split at e
    · rename_i hb
      rw [Bool.and_eq_true, decide_eq_true_eq, decide_eq_true_eq] at hb
      cases e
      have ev := dp_int dv
      subst ev
      refine ⟨_, rfl, RgOk.of_le (by omega) (by omega) (by omega) (by omega), fun q hq => ?_⟩
      have er : rgV 0 j = (DL.rangeL j.toNat).map V.int := by
        have := DL.rgV_nat j.toNat
        rw [Int.toNat_of_nonneg hb.1] at this
        exact this
      rw [er]
      have gr := DL.Grow.raw (m := none) (o := .lst ((DL.rangeL j.toNat).map V.int)) sr1.ex hq
      exact p q _ _ _ (l1.trans (Go.of gr)) (sr1.grow gr) (Free.of sr1 hq) (l1.dm _ hq) upd_same (dpa_ints _)
    · cases e
  · cases e
/-! ### match -/
abbrev FM := D → Sl → Z → Res Out
structure Ms (X : Cx) (W : WX) (g : G) (cs : List MatchCase) (m : FM) : Prop where
  ok : ∀ (first : Bool) (pins : List (Addr × Obj)) (s : Shared) (σ : L2.St) (w0 w : Wd) (H : Hp) (ρ : Sl) (z : Z) (d : D) (v : V) (u : Value) (D : Ends), Le w0 w → L2.Inv X pins σ H s → SR (kt X) g w H σ ρ z → Dp X.K w.F v d → RelV v u → Sat (m d ρ z) (OutOk (kt X) g w0 D) (XS (kt X) g W) →
    wpAny (model X.prog X.w) X.A (matchCases cs X.env u first) (SP X pins D) X.xe s
def fmNil : FM := fun _ ρ z => .ok (.nx ρ) z
def fmStr (k : Str) (b : FS) (r : FM) : FM := fun d ρ z => match d with | .str y => if y = k then b ρ z else r d ρ z | _ => .bad
def fmAny (b : FS) : FM := fun _ ρ z => b ρ z
theorem fmStr_s {k y : Str} {b : FS} {r : FM} {ρ : Sl} {z : Z} : fmStr k b r (.str y) ρ z = if y = k then b ρ z else r (.str y) ρ z := rfl
variable {body : List Stmt} {fb' : FS} {rest : List MatchCase} {fr : FM}
theorem m_nil : Ms X W g [] fmNil := ⟨fun _ pins s σ w0 w H ρ z d v u D l I sr dv r p => wpAny_matchCases_nil ⟨σ, H, I, p σ w H l sr⟩⟩
theorem m_str {k : Str} {j : Nat} {p1 p2 : Pos} (hb : Sts X W g body fb') (hr : Ms X W g rest fr) : Ms X W g (⟨.MatchValue (.Constant (.str k) j p1) p2, none, body⟩ :: rest) (fmStr k fb' fr) := by
  refine ⟨fun first pins s σ w0 w H ρ z d v u D l I sr dv r p => ?_⟩
  cases d <;> try exact False.elim p
  rename_i y
  have ev := dp_str dv
  subst ev
  obtain ⟨tk, rfl⟩ := r
  refine wpAny_matchCases_cons (wpAny_matchPattern_Value ?_)
  refine Calls.Constant_str ?_
  refine PyProof.Rows.eq_str ?_
  refine wpAny_truthy_bool ?_
  obtain ⟨te, p1, q1⟩ := hb
  have I' := I.tok (s.toks + 1)
  rw [fmStr_s] at p
  by_cases hz : y = k
  · rw [if_pos hz] at p
    subst hz
    rw [if_pos (by simp)]
    refine wpAny_assignInOrder_none ?_
    exact p1.run pins _ σ H D I' (q1 σ w H ρ z D sr (Sat.imp p fun o z q => OutOk.le q l))
  · rw [if_neg hz] at p
    rw [if_neg (by simpa using hz)]
    exact hr.ok false pins _ σ w0 w H ρ z _ _ _ D l I' sr dv ⟨tk, rfl⟩ p
theorem m_any {p2 : Pos} (hb : Sts X W g body fb') : Ms X W g (⟨.MatchAs none none p2, none, body⟩ :: rest) (fmAny fb') := by
  refine ⟨fun first pins s σ w0 w H ρ z d v u D l I sr dv r p => wpAny_matchCases_cons (wpAny_matchPattern_Capture ?_)⟩
  obtain ⟨te, p1, q1⟩ := hb
  refine wpAny_assignInOrder_none ?_
  exact p1.run pins _ σ H D I (q1 σ w H ρ z D sr (Sat.imp p fun o z q => OutOk.le q l))
/-- case [k, name] -/
def evPart : List D → Option (Str × D)
  | [.str y, x] => some (y, x)
  | _ => none
def fmEv (k : Str) (i : Nat) (b : FS) (r : FM) : FM := fun d ρ z => match d with
  | .tuple ds => if decide (ds.length = 2) = true then (ofO (evPart ds) z).bind fun q z => if q.1 = k then b (ρ.set i (some (.d q.2))) z else r d ρ z else r d ρ z
  | _ => .bad
theorem fmEv_t {k : Str} {i : Nat} {b : FS} {r : FM} {ds : List D} {ρ : Sl} {z : Z} : fmEv k i b r (.tuple ds) ρ z = if decide (ds.length = 2) = true then (ofO (evPart ds) z).bind fun q z => if q.1 = k then b (ρ.set i (some (.d q.2))) z else r (.tuple ds) ρ z else r (.tuple ds) ρ z := rfl
theorem evPart_eq {ds : List D} {q : Str × D} (h : evPart ds = some q) : ds = [.str q.1, q.2] := by
  unfold evPart at h
  split at h
  · cases h; rfl
  · cases h
theorem m_ev (i : Nat) {k n : Str} {j : Nat} {p1 p2 p3 p4 : Pos} (hN : X.N.Nodup) (hb : Sts X W g body fb') (hr : Ms X W g rest fr) (hc : X.calm = true := by rfl) (hi : X.N[i]? = some n := by rfl) (hx : Loc X.env.scope n := by first | exact Or.inl rfl | exact Or.inr rfl) (hf : X.fn n = true ∨ X.env.scope.names.lookup n = some .local := by first | exact .inl rfl | exact .inr rfl) :
    Ms X W g (⟨.MatchSequence [.MatchValue (.Constant (.str k) j p1) p2, .MatchAs none (some n) p3] p4, none, body⟩ :: rest) (fmEv k i fb' fr) := by
  refine ⟨fun first pins s σ w0 w H ρ z d v u D l I sr dv r p => ?_⟩
  cases d <;> try exact False.elim p
  rename_i ds
  obtain ⟨a, xs, rfl, h1, h2⟩ := dp_tuple dv
  cases r
  obtain ⟨its, rv, pT, hz⟩ := I.tuple (Evl.ex_t sr.ex h1)
  obtain ⟨o, ho, hcl, nn, hdt⟩ := id pT
  refine wpAny_matchCases_cons (wpAny_matchPattern_Sequence (wpAny_collectionFlag ⟨o, ho, hcl⟩ flag_seq_tuple ?_))
  rw [if_pos rfl]
  have hl : its.length = ds.length := by rw [← dpa_len h2, rv.length]
  have hzz := sizeLine_eq
  refine PyProof.Rows.pyLen_tuple pT (by have := rv.length; simp; omega) ?_
  rw [fmEv_t] at p
  have I := I.tok (s.toks + 1 + 1)
  by_cases h3 : ds.length = 2
  · rw [if_pos (decide_eq_true h3), sat_bind] at p
    obtain ⟨⟨y, d2⟩, eq, p2⟩ := sat_ofO p
    have eds := evPart_eq eq
    dsimp only at eds
    subst eds
    cases h2 with
    | cons e1 e2 => cases e2 with
      | cons e3 e4 =>
        cases e4
        have ev := dp_str e1
        subst ev
        cases rv with
        | cons r1 r2 => cases r2 with
          | cons r3 r4 =>
            cases r4
            obtain ⟨tk, rfl⟩ := r1
            rename_i u2
            rw [if_neg (by simp)]
            refine unpackItems_tuple (items := #[.str y tk, u2]) (I.ok.hd hc) pT fun h' hx' => ?_
            have I2 := I.kept (h' := h') (t' := s.toks + 1 + 1) fun b o e => hx' b o (Nat.ne_of_lt (Heap.lt_size e)) e
            refine wpAny_matchEach_cons (wpAny_matchPattern_Value ?_)
            refine Calls.Constant_str ?_
            refine PyProof.Rows.eq_str ?_
            refine wpAny_truthy_bool ?_
            have I3 := I2.tok (s.toks + 1 + 1 + 1)
            by_cases hz : y = k
            · rw [if_pos hz] at p2
              subst hz
              rw [if_pos (by simp)]
              refine wpAny_matchEach_cons (wpAny_matchPattern_Capture (wpAny_matchEach_nil ?_))
              obtain ⟨te, p1, q1⟩ := hb
              show wpAny _ _ (assignInOrder [fun v => bindName X.env n v] [u2]) _ _ _
              refine assignInOrder_cons (wpAny_bindName (store_ok I3 hN hi hx r3 (fun s4 I4 => assignInOrder_nil ?_) hf))
              exact p1.run pins _ _ H D I4 (q1 _ w H _ z D (sr.setD e3) (Sat.imp p2 fun o z q => OutOk.le q l))
            · rw [if_neg hz] at p2
              rw [if_neg (by simpa using hz)]
              exact hr.ok false pins _ σ w0 w H ρ z _ _ _ D l I3 sr dv rfl p2
  · rw [if_neg (by simpa using h3)] at p
    rw [if_pos (by simp; omega)]
    exact hr.ok false pins _ σ w0 w H ρ z _ _ _ D l I sr dv rfl p
def fMatch (f : FX) (m : FM) : FS := fun ρ z => (f ρ z).bind fun d z => m d ρ z
theorem st_match {cs : List MatchCase} {m : FM} (h : E X W g e f) (hm : Ms X W g cs m) : St X W g (.Match e cs pos) (fMatch f m) := by
  obtain ⟨te, p1, q1⟩ := h
  refine ⟨fun D σ H => ∃ (w : Wd) (ρ : Sl) (z : Z), SR (kt X) g w H σ ρ z ∧ Sat (fMatch f m ρ z) (OutOk (kt X) g w D) (XS (kt X) g W), ⟨fun pins s σ H D I h => ?_⟩, fun σ w H ρ z D sr p => ⟨w, ρ, z, sr, p⟩⟩
  obtain ⟨w, ρ, z, sr, p⟩ := h
  unfold fMatch at p
  rw [sat_bind] at p
  refine wpAny_Match (thn (p1.run pins s σ H (fun v H' => ∃ d z' w', Le w w' ∧ SR (kt X) g w' H' σ ρ z' ∧ Dp X.K w'.F v d ∧ Sat (m d ρ z') (OutOk (kt X) g w D) (XS (kt X) g W)) I (q1 σ w H ρ z _ sr (p.mono (fun d z' p v w' H' l sr' dv => ⟨d, z', w', l.le, sr', dv, p⟩) fun _ _ => xs1))) fun v s1 hv => ?_)
  obtain ⟨x, H1, I1, rx, d, z', w', l, sr', dv, p⟩ := hv
  exact hm.ok true pins s1 σ w w' H1 ρ z' d x v D l I1 sr' dv rx p
end
theorem takes0 {X : Cx} : Takes X W0 := fun u s' ⟨a, B, sI, pins, σ, H, cls, d, e, I, nb, up, sky, na, os, ag, w⟩ => w.elim
section
variable {X : Cx} {g : G} {e : Expr} {es : List Expr} {pos : Pos} {fs : FA} {F : Fu} {k n : Nat} {ps : List Str} {x : Str} {p : Pos}
theorem e_call0 (h : Fn X.prog X.w X.K X.mg X.base k x ps F) (hr : Rm k X.A) (hg : Gl X x) (ha : A X W0 g (e :: es) fs) (hn : ps.length = n := by rfl) (hdb : (x == ("__debug__" : Str)) = false := by decide)
    (he : starEach (e :: es) X.env = (false, eval e X.env) :: starEach es X.env := by rfl) (hpl : (backTo pos (starEach es X.env)).any (·.1) = false := by rfl) : E X W0 g (.Call (.Name x p) (e :: es) [] pos) (fFn n F fs) := by
  subst hn
  exact e_call takes0 h hr hg ha hdb he hpl
theorem o_call0 (h : Fn X.prog X.w X.K X.mg X.base k x ps F) (hr : Rm k X.A) (hg : Gl X x) (ha : A X W0 g (e :: es) fs) (hn : ps.length = n := by rfl) (hdb : (x == ("__debug__" : Str)) = false := by decide)
    (he : starEach (e :: es) X.env = (false, eval e X.env) :: starEach es X.env := by rfl) (hpl : (backTo pos (starEach es X.env)).any (·.1) = false := by rfl) : Ob X W0 g (.Call (.Name x p) (e :: es) [] pos) (fFnOb n F fs) := by
  subst hn
  exact o_call takes0 h hr hg ha hdb he hpl
end

end FL

namespace FL
open PySem
open L2 hiding Dp DpAll
open DL (D Fg Ex Dp DpAll DpKv dp_ex dpa_ex dpk_ex Grow OpD UnD CallD CallL dpa_len dpa_get dpa_get' dpa_app dpa_rev dpa_erase dpa_take dpa_drop dpa_ints ints_dpa dpa_set dp_list dp_tuple dp_int dp_str dp_bool)
open PySem.Spec PyProof.Rows
/-! ### records -/
def getF : List (Str × FV) → Str → Option FV
  | [], _ => none
  | (k, v) :: r, x => if k = x then some v else getF r x
def hasF : List (Str × FV) → Str → Bool
  | [], _ => false
  | (k, _) :: r, x => decide (k = x) || hasF r x
def mapF (x : Str) (v : FV) : List (Str × FV) → List (Str × FV)
  | [] => []
  | (k, u) :: r => (if k = x then (k, v) else (k, u)) :: mapF x v r
def putFV (fs : List (Str × FV)) (x : Str) (v : FV) : List (Str × FV) := if hasF fs x = true then mapF x v fs else fs ++ [(x, v)]
abbrev FPair (K : Fg) (w : Wd) : Key × V → Str × FV → Prop := fun p q => p.1 = .inr q.1 ∧ FVok K w p.2 q.2
section
variable {K : Fg} {w : Wd}
theorem get_pair : ∀ {kvs : List (Key × V)} {fs : List (Str × FV)} {x : Str} {f : FV}, Paired (FPair K w) kvs fs → getF fs x = some f → ∃ v, valV kvs (.inr x) = some v ∧ FVok K w v f
  | _, _, _, _, .nil, h => by cases h
  | _, _, x, f, .cons (a := p) (b := q) r t, h => by
    obtain ⟨pk, pv⟩ := p
    obtain ⟨qk, qv⟩ := q
    obtain ⟨e1, e2⟩ := r
    dsimp only at e1 e2
    subst e1
    unfold getF at h
    by_cases c : qk = x
    · rw [if_pos c] at h
      cases h
      subst c
      exact ⟨pv, valV_pos rfl, e2⟩
    · rw [if_neg c] at h
      obtain ⟨v, h1, h2⟩ := get_pair t h
      exact ⟨v, by rw [valV_neg (fun z => c (Sum.inr.inj z))]; exact h1, h2⟩
theorem has_pair : ∀ {kvs : List (Key × V)} {fs : List (Str × FV)} {x : Str}, Paired (FPair K w) kvs fs → (kvs.any fun kv => decide (kv.1 = .inr x)) = hasF fs x
  | _, _, _, .nil => rfl
  | _, _, x, .cons (a := p) (b := q) r t => by
    obtain ⟨pk, pv⟩ := p
    obtain ⟨qk, qv⟩ := q
    obtain ⟨e1, e2⟩ := r
    dsimp only at e1 e2
    subst e1
    rw [List.any_cons, has_pair t]
    show _ = (decide (qk = x) || hasF _ x)
    congr 1
    by_cases c : qk = x
    · simp [c]
    · have : ¬ (Sum.inr qk : Key) = Sum.inr x := fun z => c (Sum.inr.inj z)
      rw [decide_eq_false c, decide_eq_false this]
theorem map_pair {x : Str} {v : V} {f : FV} (hv : FVok K w v f) : ∀ {kvs : List (Key × V)} {fs : List (Str × FV)}, Paired (FPair K w) kvs fs → Paired (FPair K w) (kvs.map fun kv => if kv.1 = .inr x then (kv.1, v) else kv) (mapF x f fs)
  | _, _, .nil => .nil
  | _, _, .cons (a := p) (b := q) r t => by
    obtain ⟨pk, pv⟩ := p
    obtain ⟨qk, qv⟩ := q
    obtain ⟨e1, e2⟩ := r
    dsimp only at e1 e2
    subst e1
    unfold mapF
    rw [List.map_cons]
    refine .cons ?_ (map_pair hv t)
    by_cases c : qk = x
    · rw [if_pos c, if_pos (by rw [c])]
      exact ⟨rfl, hv⟩
    · rw [if_neg c, if_neg (fun z => c (Sum.inr.inj z))]
      exact ⟨rfl, e2⟩
theorem app_pair : ∀ {kvs kvs2 : List (Key × V)} {fs fs2 : List (Str × FV)}, Paired (FPair K w) kvs fs → Paired (FPair K w) kvs2 fs2 → Paired (FPair K w) (kvs ++ kvs2) (fs ++ fs2)
  | _, _, _, _, .nil, h => h
  | _, _, _, _, .cons r t, h => .cons r (app_pair t h)
theorem put_pair {x : Str} {v : V} {f : FV} (hv : FVok K w v f) {kvs : List (Key × V)} {fs : List (Str × FV)} (h : Paired (FPair K w) kvs fs) : Paired (FPair K w) (putK kvs (.inr x) v) (putFV fs x f) := by
  unfold putK putFV
  rw [has_pair h]
  split
  · exact map_pair hv h
  · exact app_pair h (.cons ⟨rfl, hv⟩ .nil)
theorem len_pair : ∀ {kvs : List (Key × V)} {fs : List (Str × FV)}, Paired (FPair K w) kvs fs → kvs.length = fs.length
  | _, _, .nil => rfl
  | _, _, .cons _ t => by simp [len_pair t]
end
def zget (z : Z) (n : Nat) (x : Str) : Option FV := match z[n]? with | some ⟨.dct, fs⟩ => getF fs x | _ => none
def zgetD (z : Z) (n : Nat) (x : Str) : Option D := match zget z n x with | some (.d d) => some d | _ => none
def zput (z : Z) (n : Nat) (x : Str) (v : FV) : Option Z := match z[n]? with | some ⟨.dct, fs⟩ => if decide (fs.length < 1000) = true then some (z.set n ⟨.dct, putFV fs x v⟩) else none | _ => none
section
variable {X : Cx} {W : WX} {g : G} {a b c e : Expr} {es : List Expr} {f fa fb fc : FX} {pos : Pos} {κ : Kt} {fd : FLs} {fo : FB}
theorem nodup_at {α : Type} {l : List α} (h : l.Nodup) {i j : Nat} {x : α} (a : l[i]? = some x) (b : l[j]? = some x) : i = j := by
  obtain ⟨hi, ei⟩ := List.getElem?_eq_some_iff.mp a
  obtain ⟨hj, ej⟩ := List.getElem?_eq_some_iff.mp b
  exact (List.getElem_inj h).mp (ei.trans ej.symm)
/-- a record is changed -/
theorem SR.setRec {w : Wd} {H : Hp} {σ : L2.St} {ρ : Sl} {z : Z} {n : Nat} {a : Addr} {r r' : Rec} {o : HO} (sr : SR κ g w H σ ρ z) (hn : w.mu[n]? = some a) (hz : z[n]? = some r) (new : RecAt κ w (upd H a o) a r') : SR κ g w (upd H a o) σ ρ (z.set n r') := by
  obtain ⟨fa, ra⟩ := sr.zo.at_ n a r hn hz
  obtain ⟨o0, ho⟩ := rec_some ra
  have am : a ∈ w.mu := List.mem_of_getElem? hn
  have hx : ∀ {b : Addr} {u : HO}, b ≠ a → H b = some u → upd H a o b = some u := fun {b u} ne e => by rw [upd_ne ne]; exact e
  refine ⟨⟨sr.gr.le, fun b u e => hx (fun y => by rw [y, fa] at e; cases e) (sr.gr.fh b u e), fun b u nb e => ?_, fun b e => ?_, sr.gr.fr, sr.gr.mr⟩, ⟨by rw [List.length_set]; exact sr.zo.len, sr.zo.nd, fun k b q e1 e2 => ?_⟩, fun i s e => ?_, sr.inj, sr.len⟩
  · refine hx (fun y => ?_) (sr.gr.h b u nb e)
    subst y
    rcases sr.gr.mr b am with y | y
    · exact nb y
    · rw [y] at e; cases e
  · by_cases y : b = a
    · subst y; rw [upd_same] at e; cases e
    · rw [upd_ne y] at e; exact sr.gr.dm b e
  · by_cases y : k = n
    · subst y
      rw [hn] at e1
      cases e1
      have hl : k < z.length := (List.getElem?_eq_some_iff.mp hz).1
      rw [List.getElem?_set_self hl] at e2
      cases e2
      exact ⟨fa, new⟩
    · rw [List.getElem?_set_ne (Ne.symm y)] at e2
      obtain ⟨f1, rb⟩ := sr.zo.at_ k b q e1 e2
      have ne : b ≠ a := fun q => by
        subst q
        exact y (nodup_at sr.zo.nd e1 hn)
      refine ⟨f1, ?_⟩
      obtain ⟨rk, fs⟩ := q
      cases rk with
      | dct => obtain ⟨kvs, h1, h2⟩ := rb; exact ⟨kvs, hx ne h1, h2⟩
      | ins c => obtain ⟨C, dx, fvs, h1, h2, h3⟩ := rb; exact ⟨C, dx, fvs, hx ne h1, h2, h3⟩
  · obtain ⟨v, hv, ok⟩ := sr.sl i s e
    refine ⟨v, hv, ?_⟩
    cases s with
    | d d => exact ok
    | ob k => exact ok
    | r u => exact ok
    | s ns => exact ok
    | o ds =>
      obtain ⟨l, rfl, ow⟩ := ok
      obtain ⟨xs, hl, da⟩ := ow.at_
      exact ⟨l, rfl, ow.b, ow.f, ow.m, xs, hx (fun y => ow.m (y ▸ am)) hl, da⟩
theorem zget_eq {z : Z} {n : Nat} {x : Str} {d : D} (h : zgetD z n x = some d) : ∃ fs, z[n]? = some ⟨.dct, fs⟩ ∧ getF fs x = some (.d d) := by
  unfold zgetD at h
  split at h
  · rename_i d' e
    cases h
    unfold zget at e
    split at e
    · rename_i fs ez
      exact ⟨fs, ez, e⟩
    · cases e
  · cases h
/-- m["k"] -/
def fField (fo : FB) (x : Str) : FX := fun ρ z => (fo ρ z).bind fun n z => ofO (zgetD z n x) z
theorem e_rec {x : Str} {j : Nat} {p : Pos} (hu : X.A.units + 64 < cLine) (ho : Ob X W g a fo) (hs : NoSl (.Constant (.str x) j p) := by exact fun _ _ => rfl) : E X W g (.Subscript a (.Constant (.str x) j p) pos) (fField fo x) := by
  obtain ⟨te, p1, q1⟩ := ho
  refine ⟨_, pe_dget (by omega) p1 pe_str hs, fun σ w H ρ z Q sr p => ?_⟩
  unfold fField at p
  rw [sat_bind] at p
  refine q1 σ w H ρ z _ sr (p.imp fun n z1 p a w1 H1 l1 sr1 ha => ?_)
  obtain ⟨d, e, p⟩ := sat_ofO p
  obtain ⟨fs, ez, eg⟩ := zget_eq e
  obtain ⟨_, kvs, h1, h2⟩ := sr1.zo.at_ n a _ ha ez
  obtain ⟨v, hv, ok⟩ := get_pair h2 eg
  refine ⟨a, v, rfl, .inl ⟨kvs, .inr x, .inl h1, rfl, hv.symm⟩, p v w1 H1 l1 sr1 ok⟩
/-- m["k"] = e -/
def fRecPut (fo : FB) (x : Str) (f : FX) : FS := fun ρ z => (f ρ z).bind fun d z => (fo ρ z).bind fun n z => (ofO (zput z n x (.d d)) z).bind fun z' _ => .ok (.nx ρ) z'
theorem st_recPut {x : Str} {j : Nat} {p tp : Pos} (hu : X.A.units + 64 < cLine) (ho : Ob X W g a fo) (he : E X W g e f) (hs : swapsWith e (some (.Subscript a (.Constant (.str x) j p) tp)) pos.line X.env = pure false := by rfl) : St X W g (.Assign [.Subscript a (.Constant (.str x) j p) tp] e pos) (fRecPut fo x f) := by
  obtain ⟨te, p1, q1⟩ := ho
  obtain ⟨te', p2, q2⟩ := he
  refine ⟨_, ps_dput (by omega) p1 pe_str p2 hs, fun σ w H ρ z D sr p => ?_⟩
  unfold fRecPut at p
  rw [sat_bind] at p
  refine q2 σ w H ρ z _ sr (p.mono (fun d z1 p v w1 H1 l1 sr1 dv => ?_) fun _ _ => xs1)
  rw [sat_bind] at p
  refine q1 σ w1 H1 ρ z1 _ sr1 (p.mono (fun n z2 p a w2 H2 l2 sr2 ha => ?_) fun _ _ => xs1)
  rw [sat_bind] at p
  obtain ⟨z', e, p⟩ := sat_ofO p
  unfold zput at e
  split at e
  · rename_i fs ez
    split at e
    · rename_i hl
      cases e
      obtain ⟨fa, kvs, h1, h2⟩ := sr2.zo.at_ n a _ ha ez
      have ok : FVok (kt X).K w2 v (.d d) := dp_ex l2.le.f _ _ dv
      refine ⟨a, _, rfl, DPut.k (k := .inr x) h1 (by rw [len_pair h2]; exact Evl.sz_lt (by have := of_decide_eq_true hl; omega)), ?_⟩
      exact p σ w2 _ (l1.trans l2).le (sr2.setRec ha ez ⟨_, upd_same, put_pair ok h2⟩)
    · cases e
  · cases e
/-! ### {"k": e, ..} -/
abbrev FPs := Sl → Z → Res (List (Str × FV))
def SPs (κ : Kt) (g : G) (W : WX) (trs : List (TE × TE)) (f : FPs) : Prop := ∀ σ w H ρ z (Q : List (V × V) → Hp → Prop), SR κ g w H σ ρ z → Sat (f ρ z) (fun fs z' => ∀ kvs w' H', Go w H w' H' → SR κ g w' H' σ ρ z' → Paired (FPair κ.K w') kvs fs → Q (kvs.map fun kv => (kV kv.1, kv.2)) H') (XE1 κ g W σ ρ) → tPairs trs σ H Q
structure Ps (X : Cx) (W : WX) (g : G) (pos : Pos) (ks : List (Option Expr)) (vs : List Expr) (f : FPs) : Prop where
  ok : ∃ trs, PPs X pos ks vs trs ∧ SPs (kt X) g W trs f
def fPnil : FPs := fun _ z => .ok [] z
def fPcons (x : Str) (f : FX) (r : FPs) : FPs := fun ρ z => (f ρ z).bind fun d z => (r ρ z).bind fun fs z => .ok ((x, .d d) :: fs) z
theorem ps_nil : Ps X W g pos [] [] fPnil := ⟨[], pps_nil, fun σ w H ρ z Q sr p => p [] w H (Go.refl sr.ex) sr .nil⟩
theorem ps_cons {ks : List (Option Expr)} {vs : List Expr} {x : Str} {j : Nat} {p : Pos} {r : FPs} (h : E X W g e f) (h2 : Ps X W g pos ks vs r) : Ps X W g pos (some (.Constant (.str x) j p) :: ks) (e :: vs) (fPcons x f r) := by
  obtain ⟨te, p1, q1⟩ := h
  obtain ⟨trs, p2, q2⟩ := h2
  refine ⟨_, pps_cons pe_str p1 p2, fun σ w H ρ z Q sr p => ?_⟩
  unfold fPcons at p
  rw [sat_bind] at p
  refine q1 σ w H ρ z _ sr (p.imp fun d z1 p v w1 H1 l1 sr1 dv => ?_)
  rw [sat_bind] at p
  exact q2 σ w1 H1 ρ z1 _ sr1 (p.imp fun fs z2 p kvs w2 H2 l2 sr2 pr => p ((.inr x, v) :: kvs) w2 H2 (l1.trans l2) sr2 (.cons ⟨rfl, dp_ex l2.le.f _ _ dv⟩ pr))
def noTwice : List (Str × FV) → Bool
  | [] => true
  | (k, _) :: r => !hasF r k && noTwice r
def fRec (r : FPs) : FB := fun ρ z => (r ρ z).bind fun fs z => okIf (noTwice fs && decide (fs.length ≤ 15)) (.ok z.length (z ++ [⟨.dct, fs⟩]))
theorem merge_app : ∀ {more kvs : List (Key × V)}, (∀ k ∈ more, (kvs.any fun q => decide (q.1 = k.1)) = false) → (more.map (·.1)).Nodup → mergeK kvs more = kvs ++ more
  | [], kvs, _, _ => by simp [mergeK]
  | (k, v) :: r, kvs, h, nd => by
    have h1 := h (k, v) (by simp)
    have e : putK kvs k v = kvs ++ [(k, v)] := by
      unfold putK
      rw [if_neg (by rw [h1]; decide)]
    show mergeK (putK kvs k v) r = _
    rw [e, merge_app (kvs := kvs ++ [(k, v)]) ?_ (List.nodup_cons.mp nd).2, List.append_assoc]
    · rfl
    · rintro ⟨k2, v2⟩ hk
      rw [List.any_append, h (k2, v2) (List.mem_cons_of_mem _ hk), Bool.false_or, List.any_cons, List.any_nil, Bool.or_false]
      refine decide_eq_false fun z => ?_
      have : k ∈ r.map (·.1) := by
        rw [show k = k2 from z]
        exact List.mem_map_of_mem (f := (·.1)) hk
      exact (List.nodup_cons.mp nd).1 this
theorem nd_pair {K : Fg} {w : Wd} : ∀ {kvs : List (Key × V)} {fs : List (Str × FV)}, Paired (FPair K w) kvs fs → noTwice fs = true → (kvs.map (·.1)).Nodup
  | _, _, .nil, _ => List.nodup_nil
  | _, _, .cons (a := p) (b := q) r t, h => by
    obtain ⟨pk, pv⟩ := p
    obtain ⟨qk, qv⟩ := q
    obtain ⟨e1, e2⟩ := r
    dsimp only at e1 e2
    subst e1
    unfold noTwice at h
    rw [Bool.and_eq_true, Bool.not_eq_true'] at h
    rw [List.map_cons]
    refine List.nodup_cons.mpr ⟨fun z => ?_, nd_pair t h.2⟩
    obtain ⟨kv, hk, ek⟩ := List.mem_map.mp z
    have := has_pair (x := qk) t
    rw [h.1] at this
    have := List.any_eq_false.mp this kv hk
    simp [ek] at this
theorem SR.addRec {w : Wd} {H : Hp} {σ : L2.St} {ρ : Sl} {z : Z} {p : Addr} {r : Rec} {o o0 : HO} (sr : SR κ g w H σ ρ z) (fr : Free g w σ ρ p) (hp : H p = some o0) (new : RecAt κ ⟨w.F, w.mu ++ [p]⟩ (upd H p o) p r) : SR κ g ⟨w.F, w.mu ++ [p]⟩ (upd H p o) σ ρ (z ++ [r]) := by
  have hx : ∀ {b : Addr} {u : HO}, b ≠ p → H b = some u → upd H p o b = some u := fun {b u} ne e => by rw [upd_ne ne]; exact e
  have l : Le w ⟨w.F, w.mu ++ [p]⟩ := ⟨Evl.Ex.refl _, List.prefix_append _ _⟩
  refine ⟨⟨sr.gr.le.trans l, fun b u e => hx (fun y => by rw [y] at e; rw [show (⟨w.F, w.mu ++ [p]⟩ : Wd).F p = w.F p from rfl, fr.f] at e; cases e) (sr.gr.fh b u e), fun b u nb e => hx (fun y => by rw [y, fr.b] at e; cases e) (sr.gr.h b u nb e), fun b e => ?_, sr.gr.fr, fun b hb => ?_⟩, ⟨by show (w.mu ++ [p]).length = _; rw [List.length_append, List.length_append, sr.zo.len]; rfl, ?_, fun k b q e1 e2 => ?_⟩, fun i s e => ?_, sr.inj, sr.len⟩
  · by_cases y : b = p
    · subst y; rw [upd_same] at e; cases e
    · rw [upd_ne y] at e; exact sr.gr.dm b e
  · rcases List.mem_append.mp hb with y | y
    · exact sr.gr.mr b y
    · have : b = p := by simpa using y
      subst this
      exact .inr fr.b
  · show (w.mu ++ [p]).Nodup
    refine List.nodup_append.mpr ⟨sr.zo.nd, by simp, fun x hm y hy e => ?_⟩
    have : y = p := by simpa using hy
    rw [this] at e
    exact fr.m (e ▸ hm)
  · have e1 : (w.mu ++ [p])[k]? = some b := e1
    by_cases y : k < w.mu.length
    · rw [List.getElem?_append_left y] at e1
      rw [List.getElem?_append_left (by rw [← sr.zo.len]; exact y)] at e2
      obtain ⟨f1, rb⟩ := sr.zo.at_ k b q e1 e2
      have ne : b ≠ p := fun q => fr.m (q ▸ List.mem_of_getElem? e1)
      refine ⟨f1, ?_⟩
      obtain ⟨rk, fs⟩ := q
      cases rk with
      | dct => obtain ⟨kvs, h1, h2⟩ := rb; exact ⟨kvs, hx ne h1, Paired.mapP h2 fun _ _ q => ⟨q.1, fv_le l q.2⟩⟩
      | ins c => obtain ⟨C, dx, fvs, h1, h2, h3⟩ := rb; exact ⟨C, dx, fvs, hx ne h1, h2, Paired.mapP h3 fun _ _ q => ⟨q.1, fv_le l q.2⟩⟩
    · rw [List.getElem?_append_right (by omega)] at e1
      have ek : k - w.mu.length = 0 := by
        cases h : k - w.mu.length with
        | zero => rfl
        | succ m => rw [h] at e1; simp at e1
      rw [ek] at e1
      have : p = b := by simpa using e1
      subst this
      rw [List.getElem?_append_right (by rw [← sr.zo.len]; omega), ← sr.zo.len, ek] at e2
      have : r = q := by simpa using e2
      subst this
      exact ⟨fr.f, new⟩
  · obtain ⟨v, hv, ok⟩ := sr.sl i s e
    refine ⟨v, hv, ?_⟩
    cases s with
    | d d => exact ok
    | ob k => obtain ⟨a, e, r⟩ := ok; exact ⟨a, pre_get l.mu e, r⟩
    | r u => exact ok
    | s ns => exact ok
    | o ds =>
      obtain ⟨y, rfl, ow⟩ := ok
      obtain ⟨xs, hl, da⟩ := ow.at_
      have ne : y ≠ p := fun q => by subst q; exact fr.no i _ e rfl hv
      refine ⟨y, rfl, ow.b, ow.f, fun hm => ?_, xs, hx ne hl, da⟩
      rcases List.mem_append.mp hm with q | q
      · exact ow.m q
      · exact ne (by simpa using q)
theorem Go.addRec {w w1 : Wd} {H H1 : Hp} {p : Addr} {o : HO} (go : Go w H w1 H1) (hn : H p = none) (fp : w1.F p = none) : Go w H ⟨w1.F, w1.mu ++ [p]⟩ (upd H1 p o) where
  le := go.le.trans ⟨Evl.Ex.refl _, List.prefix_append _ _⟩
  fh := fun a u e => by
    have e : w1.F a = some u := e
    rw [upd_ne (fun y => by rw [y, fp] at e; cases e)]; exact go.fh a u e
  h := fun a u n e => by rw [upd_ne (fun y => by rw [y, hn] at e; cases e)]; exact go.h a u n e
  dm := fun a e => by
    by_cases y : a = p
    · subst y; rw [upd_same] at e; cases e
    · rw [upd_ne y] at e; exact go.dm a e
  fr := go.fr
  mr := fun a e => by
    rcases List.mem_append.mp e with y | y
    · exact go.mr a y
    · have : a = p := by simpa using y
      subst this
      exact .inr hn
theorem o_rec {ks : List (Option Expr)} {vs : List Expr} {r : FPs} (h : Ps X W g pos ks vs r) (hall : ks.all (·.isSome) = true := by rfl) (hl : ks.length = vs.length := by rfl) (h0 : ks ≠ [] := by exact fun z => by cases z) (h15 : ks.length ≤ 15 := by decide) : Ob X W g (.Dict ks vs pos) (fRec r) := by
  obtain ⟨trs, p1, q1⟩ := h
  refine ⟨_, pe_disp p1 hall hl h0 h15, fun σ w H ρ z Q sr p => ?_⟩
  unfold fRec at p
  rw [sat_bind] at p
  intro q hq
  have gr := DL.Grow.raw (m := none) (o := .dK []) sr.ex hq
  refine q1 σ _ _ ρ z _ (sr.grow gr) (p.imp fun fs z1 p kvs w1 H1 l1 sr1 pr => ?_)
  obtain ⟨hb, p⟩ := sat_okIf p
  rw [Bool.and_eq_true, decide_eq_true_eq] at hb
  have fq : Free g w σ ρ q := Free.of sr hq
  have fr1 : Free g w1 σ ρ q := Free.go (H := upd H q (.dK [])) (o := .dK []) ⟨fq.f, fq.b, fq.m, fq.no⟩ upd_same l1
  have hq1 : H1 q = some (.dK []) := l1.h q _ fq.m upd_same
  have em : mergeK [] kvs = kvs := by
    rw [merge_app (by simp) (nd_pair pr hb.1)]; rfl
  refine ⟨hq1, kvs, rfl, by rw [len_pair pr]; exact hb.2, ?_⟩
  rw [em]
  have lw : Le w1 ⟨w1.F, w1.mu ++ [q]⟩ := ⟨Evl.Ex.refl _, List.prefix_append _ _⟩
  have go0 : Go w H ⟨w.F, w.mu⟩ (upd H q (.dK [])) := Go.of gr
  refine p q _ _ (Go.addRec (go0.trans l1) hq fr1.f) (sr1.addRec fr1 hq1 ⟨kvs, upd_same, Paired.mapP pr fun _ _ y => ⟨y.1, fv_le lw y.2⟩⟩) ?_
  show (w1.mu ++ [q])[z1.length]? = some q
  rw [← sr1.zo.len, List.getElem?_append_right (Nat.le_refl _), Nat.sub_self]
  rfl
end

end FL

namespace FL
open PySem
open L2 hiding Dp DpAll
open DL (D Fg Ex Dp DpAll DpKv dp_ex dpa_ex dpk_ex Grow OpD UnD CallD CallL dpa_len dpa_get dpa_get' dpa_app dpa_rev dpa_erase dpa_take dpa_drop dpa_ints ints_dpa dpa_set dp_list dp_tuple dp_int dp_str dp_bool)
open PySem.Spec PyProof.Rows
abbrev spLaw := DL.spLaw
def fNever : FS := fun _ _ => .bad
section
variable {X : Cx} {W : WX} {g : G} {st : Stmt}
theorem st_never : St X W g st fNever := ⟨_, ps_never, fun σ w H ρ z D sr p => p.elim⟩
end
theorem FnG.imp {P : Program} {w : World} {K : Fg} {mg : Str → Option Value} {base : Heap} {k : Nat} {f : Addr} {fd : FuncData} {ps : List Str} {sp sp' : Sp} (F : FnG P w K mg base k f fd ps sp) (h : ∀ vs H Q E, sp' vs H Q E → sp vs H Q E) : FnG P w K mg base k f fd ps sp' :=
  ⟨fun vs H Q E q => F.len vs H Q E (h _ _ _ _ q), fun A outer s H args us vs Q E hr e0 hb rv q => F.run A outer s H args us vs Q E hr e0 hb rv (h _ _ _ _ q)⟩
theorem law_is {P : Program} {w : World} {K : Fg} {mg : Str → Option Value} {base : Heap} {k : Nat} {f : Addr} {fd : FuncData} {F : Fu} (h : FnG P w K mg base k f fd ["_law_script"] (spF ⟨K, mg⟩ 1 F)) (hF : ∀ ns : List Int, ns.length ≤ 63 → ∃ z, F [.s ns] [] = .ok (.d (.bool true)) z) : FnG P w K mg base k f fd ["_law_script"] (spLaw K) :=
  h.imp fun vs H Q E ⟨a, ns, ev, hS, hl, q⟩ => by
    subst ev
    obtain ⟨z, e⟩ := hF ns hl
    refine ⟨⟨H, []⟩, [], [.s ns], Evl.Ex.refl _, ⟨rfl, List.nodup_nil, fun k a r e => by simp at e⟩, ⟨⟨a, rfl, hS⟩, trivial⟩, rfl, ?_⟩
    rw [e]
    refine fun v w' H' _ _ vo => ?_
    cases (show Dp K w'.F v (.bool true) from vo)
    exact q H'
section
variable {P : Program} {w : World} {K : Fg} {mg mb : Str → Option Value} {fa a : Addr} {fd : FuncData} {k : Nat} {s₁ : Shared} {vs : List Value} {ns : List Int}
theorem law_call (KX : K.In s₁.heap) (hns : s₁.heap.Ns mainGlobals mg) (hb : s₁.heap.Ns builtinsNs mb) (hbb : ∀ x : Str, x ≠ "__name__" → mb x = bootBuiltins x) (hlim : s₁.heap.NoLimit) (hg : s₁.gens = #[])
    (ha : s₁.heap.get? a = some { cls := .type "list", data := .seq vs.toArray }) (hi : IntsAre vs ns) (hl : ns.length ≤ 63) (hr : Rm k callerA) (F : ∀ base : Heap, K.In base → base.Ns mainGlobals mg → FnG P w K mg base k fa fd ["_law_script"] (spLaw K)) (hbind : ∀ (s : Shared) (u : Value), BindsTo s fd ⟨[u], []⟩ [("_law_script", u)]) :
    codeAny (model P w) callerA (.call (.ref fa) ⟨[.ref a], []⟩) (fun r s' => r = .ok (.ret (.bool true)) ∧ OldK s₁.heap s'.heap ∧ s'.os = s₁.os ∧ AllBare s'.gens) s₁ := by
  obtain ⟨H, sc, hok⟩ := DL.scr_only (P := P) (w := w) (K := K) ha hi hl KX
  have keepD : ∀ {b : Addr} {o : Obj} {es : Array DictEntry} {ep : Nat}, s₁.heap.get? b = some o → o.data = .dict es ep → H b = none := fun {b o es ep} e d => by
    cases q : H b with
    | none => rfl
    | some u =>
      have z := (sc.only b (by rw [q]; simp)).1
      subst z
      cases ha.symm.trans e
      cases d
  have ns' : ∀ {b : Addr} {m : Str → Option Value}, s₁.heap.Ns b m → (hidT s₁.heap H).Ns b m := fun {b m} ⟨o, es, ep, e, d, r⟩ => ⟨o, es, ep, hidT_get e (keepD e d), d, r⟩
  have hK : K.In (hidT s₁.heap H) := fun b o e => hidT_get (KX b o e) (by
    cases q : H b with
    | none => rfl
    | some u =>
      have z := (sc.only b (by rw [q]; simp)).1
      subst z
      rw [sc.k (by rw [q]; simp)] at e
      cases e)
  have limit : (hidT s₁.heap H).NoLimit := by
    obtain ⟨mc, h1, h2⟩ := hlim
    exact ⟨mc, ns' h1, h2⟩
  have e0 : Env0 P w K mg (hidT s₁.heap H) callerA [] s₁ H :=
    { frames := rfl, mod := ⟨hK, ns' hns, ⟨mb, ns' hb, hbb⟩, limit⟩, bs := fun b o e => of_hidT e, bsz := Nat.le_of_eq (hidT_size _ _), funs := trivial, frf := fun b z => (by cases (show b ∈ ([] : List Addr) from z)), hok := hok, bare := .of_eq hg }
  have go := (F _ hK (ns' hns)).run callerA [] s₁ H ⟨[.ref a], []⟩ [.ref a] [.ref a] (fun v _ => v = .bl true) (fun _ _ _ => False) hr e0 (hbind s₁ (.ref a)) (.cons rfl .nil) ⟨a, ns, rfl, sc.sq, hl, fun _ => rfl⟩
  refine codeAny_mono go fun r s' h => ?_
  match r, h with
  | .error _, h =>
    obtain ⟨_, _, _, _, _, _, _, _, _, _, _, _, z⟩ := h
    exact z.elim
  | .ok (.ret u), ⟨v, H', os, bare, un, hok', r', (q : v = .bl true)⟩ =>
    subst q
    obtain rfl : u = Value.bool true := r'
    refine ⟨rfl, OldK.of_keep fun b o e => ?_, os, bare⟩
    cases q : H b with
    | none => exact un.keep b o e q (fun z => by cases (show b ∈ ([] : List Addr) from z)) (by simp)
    | some u =>
      obtain ⟨_, z⟩ := sc.only b (by rw [q]; simp)
      have e1 := (hok b _ z).1
      have e2 := (hok' b _ (un.frzs b _ _ z)).1
      cases e.symm.trans e1
      exact e2
theorem law_walk {l : PySem.W.OpenLaw} {q : Program} {loose : List Str} {XP : (Str → Option Value) → Heap → Prop} {YP : World → Heap → Prop} {d : DefRec} {K : Params → PySem.W.Frag} (k : Nat) (hk : Room k callerA) (hn : l.most = some 63) (hdf : d.params.defaults = [])
    (hY : ∀ (w : World) (h : Heap), YP w h → (K w.params).In h)
    (F : ∀ (w : World) (mg : Str → Option Value) (fa : Addr) (h : Heap), (K w.params).In h → h.Ns mainGlobals mg → mg d.name = some (.ref fa) →
      ∃ fd : FuncData, (∀ (s : Shared) (u : Value), BindsTo s fd ⟨[u], []⟩ [("_law_script", u)]) ∧ ∀ base : Heap, (K w.params).In base → base.Ns mainGlobals mg → FnG l.prog w (K w.params) mg base k fa fd ["_law_script"] (spLaw (K w.params))) :
    PySem.W.WalkO q loose XP YP l.row.toRowW d [] (fun f vs => PySem.call f vs) := by
  refine Att.attach_call hn hdf fun w s₀ s₁ mg mb fa o pm cd doc a vs ns Gr Y ho hd hcd hmg hobj hints hlen hg => ?_
  obtain ⟨fd, hb, hF⟩ := F w mg fa _ (hY w _ Y) Gr.T.g hmg
  exact law_call (hY w _ Y) Gr.T.g Gr.T.b Gr.T.builtins Gr.T.nolimit hg hobj hints hlen ⟨hk, rfl⟩ hF hb
end

end FL

namespace FL
open PySem
open L2 hiding Dp DpAll
open DL (D Fg Ex Dp DpAll DpKv dp_ex dpa_ex dpk_ex Grow OpD UnD CallD CallL dpa_len dpa_get dpa_get' dpa_app dpa_rev dpa_erase dpa_take dpa_drop dpa_ints ints_dpa dpa_set dp_list dp_tuple dp_int dp_str dp_bool)
section
variable {X : Cx} {W : WX} {g : G} {a b c e : Expr} {fa fb f : FX} {pos : Pos} {κ : Kt}
/-! ### a text's method of one text -/
def fM1 (h : Str → Str → D) (fa fb : FX) : FX := fun ρ z => (fa ρ z).bind fun d z => (asS d z).bind fun s z => (fb ρ z).bind fun y z => (asS y z).bind fun t z => .ok (h s t) z
theorem e_count {apos : Pos} (ha : E X W g a fa) (hb : E X W g b fb) (hs : starEach [b] X.env = [(false, eval b X.env)] := by rfl) (hbase : attributeBase a "count" X.env (eval a X.env) = eval a X.env := by rfl) (hline : (apos.endLine == pos.line) = true := by rfl) : E X W g (.Call (.Attribute a "count" apos) [b] [] pos) (fM1 (fun s t => .int (Txt.count s t)) fa fb) := by
  obtain ⟨te, p1, q1⟩ := ha
  obtain ⟨te', p2, q2⟩ := hb
  refine ⟨_, pe_m1 PySem.F.slot_str_count PySem.F.type_str_count mt_count p1 p2 hs hbase hline, fun σ w H ρ z Q sr p => ?_⟩
  unfold fM1 at p
  rw [sat_bind] at p
  refine q1 σ w H ρ z _ sr (p.imp fun x z1 p vx w1 H1 l1 sr1 dx => ?_)
  rw [sat_bind] at p
  obtain ⟨s, rfl, p2⟩ := sat_asS p
  have ev := dp_str dx
  subst ev
  rw [sat_bind] at p2
  refine ⟨⟨s, rfl⟩, q2 σ w1 H1 ρ z1 _ sr1 (p2.imp fun y z2 p vy w2 H2 l2 sr2 dy => ?_)⟩
  rw [sat_bind] at p
  obtain ⟨t, rfl, p3⟩ := sat_asS p
  have ev := dp_str dy
  subst ev
  exact ⟨s, t, rfl, rfl, p3 _ w2 H2 (l1.trans l2) sr2 (.int _)⟩
/-! ### x, y, z = a, b, c -/
def fPar3 (i j l : Nat) (f h k : FV') : FS := fun ρ z => (f ρ z).bind fun s z => (h ρ z).bind fun t z => (k ρ z).bind fun u z => .ok (.nx (((ρ.set i (some s)).set j (some t)).set l (some u))) z
theorem st_par3 (i j l : Nat) {x y v : Str} {px py pv pt pt2 : Pos} {k2 kt' : Nat} {f h k : FV'} (ha : Vl X W g a f) (hb : Vl X W g b h) (hk : Vl X W g c k) (hN : X.N.Nodup) (hc : X.calm = true := by rfl) (hi : X.N[i]? = some x := by rfl) (hj : X.N[j]? = some y := by rfl) (hl : X.N[l]? = some v := by rfl) (hij : i ≠ j := by decide) (hil : i ≠ l := by decide) (hjl : j ≠ l := by decide) (hx : X.env.scope.names.lookup x = some .local := by rfl) (hy : X.env.scope.names.lookup y = some .local := by rfl) (hv : X.env.scope.names.lookup v = some .local := by rfl)
    (hs : swappedStores [.Tuple [.Name x px, .Name y py, .Name v pv] kt' pt] (.Tuple [a, b, c] k2 pt2) X.env = pure (some [x, y, v]) := by rfl) (hs2 : swapsWithSole [.Tuple [.Name x px, .Name y py, .Name v pv] kt' pt] (.Tuple [a, b, c] k2 pt2) pos.line X.env = pure false := by rfl)
    (h1 : starEach [a, b, c] X.env = (false, eval a X.env) :: starEach [b, c] X.env := by rfl) (h2 : starEach [b, c] X.env = (false, eval b X.env) :: starEach [c] X.env := by rfl) (h3 : starEach [c] X.env = (false, eval c X.env) :: starEach [] X.env := by rfl) :
    St X W g (.Assign [.Tuple [.Name x px, .Name y py, .Name v pv] kt' pt] (.Tuple [a, b, c] k2 pt2) pos) (fPar3 i j l f h k) := by
  obtain ⟨te, p1, q1⟩ := ha
  obtain ⟨te', p2, q2⟩ := hb
  obtain ⟨te'', p3, q3⟩ := hk
  refine ⟨_, ps_par3 hc hN hi hj hl hij hil hjl hx hy hv (pa_cons p1 (pa_cons p2 (pa_cons p3 pa_nil h3) h2) h1) hs hs2, fun σ w H ρ z D sr p => ?_⟩
  unfold fPar3 at p
  rw [sat_bind] at p
  refine q1 σ w H ρ z _ sr (p.mono (fun s z1 p u1 w1 H1 l1 sr1 o1 n1 => ?_) fun _ _ => xs1)
  rw [sat_bind] at p
  refine q2 σ w1 H1 ρ z1 _ sr1 (p.mono (fun t z2 p u2 w2 H2 l2 sr2 o2 n2 => ?_) fun _ _ => xs1)
  rw [sat_bind] at p
  refine q3 σ w2 H2 ρ z2 _ sr2 (p.mono (fun r z3 p u3 w3 H3 l3 sr3 o3 n3 => ?_) fun _ _ => xs1)
  have n12 : isOwn s = true → isOwn t = true → u1 ≠ u2 := fun os ot e => by
    cases s <;> try cases os
    obtain ⟨q, xs, rfl, fr, hq, da⟩ := n1
    rw [o2 ot q e.symm] at hq
    cases hq
  have n13 : isOwn s = true → isOwn r = true → u1 ≠ u3 := fun os ot e => by
    cases s <;> try cases os
    obtain ⟨q, xs, rfl, fr, hq, da⟩ := new_go l2 n1
    rw [o3 ot q e.symm] at hq
    cases hq
  have n23 : isOwn t = true → isOwn r = true → u2 ≠ u3 := fun os ot e => by
    cases t <;> try cases os
    obtain ⟨q, xs, rfl, fr, hq, da⟩ := n2
    rw [o3 ot q e.symm] at hq
    cases hq
  exact ⟨u1, u2, u3, rfl, p _ w3 H3 ((l1.trans l2).trans l3).le (((sr3.setNew (new_go (l2.trans l3) n1)).setNew (new_set (new_go l3 n2) n12)).setNew (new_set (new_set n3 n13) n23))⟩
/-! ### x += e, data -/
def fAug (i : Nat) (f : FX) : FS := fun ρ z => (slotD ρ i z).bind fun x z => (f ρ z).bind fun y z => (asI x z).bind fun m z => (asI y z).bind fun n z => .ok (.nx (ρ.set i (some (.d (.int (m + n)))))) z
/-! ### try: body that raises nothing -/
def fTry0 (b : FS) : FS := fun ρ z => noEx (b ρ z)
theorem st_try0 {body : List Stmt} {h₀ : ExceptHandler} {hs : List ExceptHandler} {b : FS} (hb : Sts X.nox W0 g body b) : St X W g (.Try body (h₀ :: hs) [] [] pos) (fTry0 b) := by
  obtain ⟨te, p1, q1⟩ := hb
  exact ⟨_, ps_try_thru0 p1, fun σ w H ρ z D sr p => q1 σ w H ρ z D sr (sat_noEx p)⟩
end

end FL

namespace FL
open PySem
open L2 hiding Dp DpAll
open DL (D Fg Ex Dp DpAll DpKv dp_ex dpa_ex dpk_ex Grow OpD UnD CallD CallL dpa_len dpa_get dpa_get' dpa_app dpa_rev dpa_erase dpa_take dpa_drop dpa_ints ints_dpa dpa_set dp_list dp_tuple dp_int dp_str dp_bool)
theorem fVar_ap {i : Nat} {ρ : Sl} {z : Z} : fVar i ρ z = slotD ρ i z := rfl
theorem fC_ap {d : D} {ρ : Sl} {z : Z} : fC d ρ z = .ok d z := rfl
theorem fBin_ap {h : D → D → Option D} {fa fb : FX} {ρ : Sl} {z : Z} : fBin h fa fb ρ z = (fa ρ z).bind fun x z => (fb ρ z).bind fun y z => ofO (h x y) z := rfl
theorem fUn_ap {h : D → Option D} {fa : FX} {ρ : Sl} {z : Z} : fUn h fa ρ z = (fa ρ z).bind fun x z => ofO (h x) z := rfl
theorem fChain_ap {h h' : D → D → Option D} {fa fb fc : FX} {ρ : Sl} {z : Z} : fChain h h' fa fb fc ρ z = (fa ρ z).bind fun x z => (fb ρ z).bind fun y z => (ofO (h x y) z).bind fun q z => (asB q z).bind fun b z => choose b (fun ρ z => (fc ρ z).bind fun w z => ofO (h' y w) z) (fun _ z => .ok (.bool false) z) ρ z := rfl
theorem fVal_ap {fa : FX} {ρ : Sl} {z : Z} : fVal fa ρ z = (fa ρ z).bind asB := rfl
theorem fbNot_ap {u : FT} {ρ : Sl} {z : Z} : fbNot u ρ z = (u ρ z).bind fun b z => .ok (!b) z := rfl
theorem fbAnd_ap {u v : FT} {ρ : Sl} {z : Z} : fbAnd u v ρ z = (u ρ z).bind fun b z => choose b v (fun _ z => .ok false z) ρ z := rfl
theorem fbOr_ap {u v : FT} {ρ : Sl} {z : Z} : fbOr u v ρ z = (u ρ z).bind fun b z => choose b (fun _ z => .ok true z) v ρ z := rfl
theorem fAnd_ap {fa fb : FX} {ρ : Sl} {z : Z} : fAnd fa fb ρ z = (fa ρ z).bind fun d z => (asB d z).bind fun b z => choose b fb (fun _ z => .ok (.bool false) z) ρ z := rfl
theorem fOr_ap {fa fb : FX} {ρ : Sl} {z : Z} : fOr fa fb ρ z = (fa ρ z).bind fun d z => (asB d z).bind fun b z => choose b (fun _ z => .ok (.bool true) z) fb ρ z := rfl
theorem fNot_ap {fa : FX} {ρ : Sl} {z : Z} : fNot fa ρ z = (fa ρ z).bind fun d z => (asB d z).bind fun b z => .ok (.bool (!b)) z := rfl
theorem fIf_ap {u : FT} {fa fb : FX} {ρ : Sl} {z : Z} : fIf u fa fb ρ z = (u ρ z).bind fun b z => choose b fa fb ρ z := rfl
theorem fNil_ap {ρ : Sl} {z : Z} : fNil ρ z = .ok [] z := rfl
theorem fCons_ap {fa : FX} {fd : FLs} {ρ : Sl} {z : Z} : fCons fa fd ρ z = (fa ρ z).bind fun d z => (fd ρ z).bind fun ds z => .ok (d :: ds) z := rfl
theorem fTup_ap {fd : FLs} {ρ : Sl} {z : Z} : fTup fd ρ z = (fd ρ z).bind fun ds z => okIf (decide (ds.length ≤ 100000)) (.ok (.tuple ds) z) := rfl
theorem fLst_ap {fd : FLs} {ρ : Sl} {z : Z} : fLst fd ρ z = (fd ρ z).bind fun ds z => okIf (decide (ds.length ≤ 100000)) (.ok ds z) := rfl
theorem fFrz_ap {u : FLs} {ρ : Sl} {z : Z} : fFrz u ρ z = (u ρ z).bind fun ds z => .ok (.list ds) z := rfl
theorem fCall_ap {h : List D → Option D} {fd : FLs} {ρ : Sl} {z : Z} : fCall h fd ρ z = (fd ρ z).bind fun ds z => ofO (h ds) z := rfl
theorem fCallL_ap {h : List D → Option (List D)} {fd : FLs} {ρ : Sl} {z : Z} : fCallL h fd ρ z = (fd ρ z).bind fun ds z => ofO (h ds) z := rfl
theorem fONone_ap {ρ : Sl} {z : Z} : fONone ρ z = .ok none z := rfl
theorem fOSome_ap {fa : FX} {ρ : Sl} {z : Z} : fOSome fa ρ z = (fa ρ z).bind fun d z => (asI d z).bind fun i z => .ok (some i) z := rfl
theorem fSl_ap {h : D → Option Int → Option Int → Option D} {fa : FX} {fl fh : FO} {ρ : Sl} {z : Z} : fSl h fa fl fh ρ z = (fa ρ z).bind fun x z => (fl ρ z).bind fun lo z => (fh ρ z).bind fun hi z => ofO (h x lo hi) z := rfl
theorem fAnil_ap {ρ : Sl} {z : Z} : fAnil ρ z = .ok [] z := rfl
theorem fAd_ap {fa : FX} {fs : FA} {ρ : Sl} {z : Z} : fAd fa fs ρ z = (fa ρ z).bind fun d z => (fs ρ z).bind fun ss z => .ok (.d d :: ss) z := rfl
theorem fAv_ap {i : Nat} {fs : FA} {ρ : Sl} {z : Z} : fAv i fs ρ z = (slotA ρ i z).bind fun s z => (fs ρ z).bind fun ss z => .ok (s :: ss) z := rfl
theorem fFn_ap {n : Nat} {F : Fu} {fs : FA} {ρ : Sl} {z : Z} : fFn n F fs ρ z = (run n F fs ρ z).bind asD := rfl
theorem fFnOb_ap {n : Nat} {F : Fu} {fs : FA} {ρ : Sl} {z : Z} : fFnOb n F fs ρ z = (run n F fs ρ z).bind asOb := rfl
theorem fVarOb_ap {i : Nat} {ρ : Sl} {z : Z} : fVarOb i ρ z = slotOb ρ i z := rfl
theorem fSeq_ap {a b : FS} {ρ : Sl} {z : Z} : fSeq a b ρ z = (a ρ z).bind (seqK b) := rfl
theorem fNext_ap {ρ : Sl} {z : Z} : fNext ρ z = .ok (.nx ρ) z := rfl
theorem fRet_ap {f : FX} {ρ : Sl} {z : Z} : fRet f ρ z = (f ρ z).bind fun d z => .ok (.rt (.d d)) z := rfl
theorem fRetN_ap {ρ : Sl} {z : Z} : fRetN ρ z = .ok (.rt (.d .none)) z := rfl
theorem fRetOb_ap {f : FB} {ρ : Sl} {z : Z} : fRetOb f ρ z = (f ρ z).bind fun k z => .ok (.rt (.ob k)) z := rfl
theorem fIfS_ap {u : FT} {a b : FS} {ρ : Sl} {z : Z} : fIfS u a b ρ z = (u ρ z).bind fun c z => choose c a b ρ z := rfl
theorem fDrop_ap {f : FX} {ρ : Sl} {z : Z} : fDrop f ρ z = (f ρ z).bind fun _ z => .ok (.nx ρ) z := rfl
theorem fBrk_ap {ρ : Sl} {z : Z} : fBrk ρ z = .ok (.bk ρ) z := rfl
theorem fCnt_ap {ρ : Sl} {z : Z} : fCnt ρ z = .ok (.ct ρ) z := rfl
theorem fAsg_ap {f : FX} {h : FG} {ρ : Sl} {z : Z} : fAsg f h ρ z = (f ρ z).bind fun d z => (ofO (h d ρ) z).bind fun ρ' z => .ok (.nx ρ') z := rfl
theorem fOwn_ap {i : Nat} {u : FLs} {ρ : Sl} {z : Z} : fOwn i u ρ z = (u ρ z).bind fun ds z => .ok (.nx (ρ.set i (some (.o ds)))) z := rfl
theorem fSetOb_ap {i : Nat} {f : FB} {ρ : Sl} {z : Z} : fSetOb i f ρ z = (f ρ z).bind fun k z => .ok (.nx (ρ.set i (some (.ob k)))) z := rfl
theorem fFor_ap {fi : FLs} {gf : FG} {b : FS} {ρ : Sl} {z : Z} : fFor fi gf b ρ z = (fi ρ z).bind fun items z => fLoop gf b items ρ z := rfl
theorem fItems_ap {f : FX} {ρ : Sl} {z : Z} : fItems f ρ z = (f ρ z).bind fun d z => ofO (itemsAny d) z := rfl
theorem fScr_ap {i : Nat} {ρ : Sl} {z : Z} : fScr i ρ z = slotSc ρ i z := rfl
theorem fLenS_ap {i : Nat} {ρ : Sl} {z : Z} : fLenS i ρ z = (slotSc ρ i z).bind fun ds z => .ok (.int (ds.length : Nat)) z := rfl
theorem fR1_ap {fd : FLs} {ρ : Sl} {z : Z} : fR1 fd ρ z = (fd ρ z).bind fun ds z => ofO (rng1 ds) z := rfl
theorem fR2_ap {fd : FLs} {ρ : Sl} {z : Z} : fR2 fd ρ z = (fd ρ z).bind fun ds z => ofO (rng2 ds) z := rfl
theorem fWhile_ap {c : FT} {b : FS} {ρ : Sl} {z : Z} : fWhile c b ρ z = whileN c b 1000000 ρ z := rfl
theorem fYes_ap {ρ : Sl} {z : Z} : fYes ρ z = .ok true z := rfl
theorem fComp_ap {fi : FLs} {gf : FG} {tf : FT} {ef : FX} {vs : List Nat} {ρ : Sl} {z : Z} : fComp fi gf tf ef vs ρ z = (fi ρ z).bind fun items z => fCompL vs gf tf ef ρ items [] z := rfl
theorem fSetL_ap {i : Nat} {u : FLs} {ρ : Sl} {z : Z} : fSetL i u ρ z = (u ρ z).bind fun ds z => .ok (.nx (ρ.set i (some (.d (.list ds))))) z := rfl
theorem fComp2_ap {fi : FLs} {gf : FG} {tf : FT} {fi1 : FLs} {gf1 : FG} {tf1 : FT} {ef : FX} {vs vs1 : List Nat} {ρ : Sl} {z : Z} : fComp2 fi gf tf fi1 gf1 tf1 ef vs vs1 ρ z = (fi ρ z).bind fun items z => fComp2L vs vs1 gf tf fi1 gf1 tf1 ef ρ items [] z := rfl
theorem fvD_ap {f : FX} {ρ : Sl} {z : Z} : fvD f ρ z = (f ρ z).bind fun d z => .ok (.d d) z := rfl
theorem fvO_ap {f : FLs} {ρ : Sl} {z : Z} : fvO f ρ z = (f ρ z).bind fun d z => .ok (.o d) z := rfl
theorem fvB_ap {f : FB} {ρ : Sl} {z : Z} : fvB f ρ z = (f ρ z).bind fun d z => .ok (.ob d) z := rfl
theorem fSet_ap {i : Nat} {f : FV'} {ρ : Sl} {z : Z} : fSet i f ρ z = (f ρ z).bind fun s z => .ok (.nx (ρ.set i (some s))) z := rfl
theorem fPar_ap {i j : Nat} {f h : FV'} {ρ : Sl} {z : Z} : fPar i j f h ρ z = (f ρ z).bind fun s z => (h ρ z).bind fun t z => .ok (.nx ((ρ.set i (some s)).set j (some t))) z := rfl
theorem fView_ap {f : FX} {ρ : Sl} {z : Z} : fView f ρ z = unz DL.noL z (f (view ρ) []) := rfl
theorem fbView_ap {f : FT} {ρ : Sl} {z : Z} : fbView f ρ z = unz (fun _ => true) z (f (view ρ) []) := rfl
theorem flView_ap {f : FLs} {ρ : Sl} {z : Z} : flView f ρ z = unz DL.noLs z (f (view ρ) []) := rfl
theorem fAppend_ap {i : Nat} {f : FX} {ρ : Sl} {z : Z} : fAppend i f ρ z = (slotO ρ i z).bind fun ds z => okIf (decide (ds.length < 100000)) ((f ρ z).bind fun d z => .ok (.nx (ρ.set i (some (.o (ds ++ [d]))))) z) := rfl
theorem fAppPop_ap {i j : Nat} {f : FX} {ρ : Sl} {z : Z} : fAppPop i j f ρ z = (slotO ρ i z).bind fun ds z => okIf (decide (ds.length < 100000) && decide (i ≠ j)) ((slotO ρ j z).bind fun es z => (f ρ z).bind fun d z => (asI d z).bind fun n z => (ofO (popO es n) z).bind fun q z => .ok (.nx ((ρ.set j (some (.o q.2))).set i (some (.o (ds ++ [q.1]))))) z) := rfl
theorem fRev_ap {i : Nat} {ρ : Sl} {z : Z} : fRev i ρ z = (slotO ρ i z).bind fun ds z => .ok (.nx (ρ.set i (some (.o ds.reverse)))) z := rfl
theorem fExt_ap {i : Nat} {f : FX} {ρ : Sl} {z : Z} : fExt i f ρ z = (slotO ρ i z).bind fun ds z => (f ρ z).bind fun d z => (asL d z).bind fun es z => okIf (decide (ds.length + es.length ≤ 100000)) (.ok (.nx (ρ.set i (some (.o (ds ++ es))))) z) := rfl
theorem fFreeze_ap {i : Nat} {s : FS} {ρ : Sl} {z : Z} : fFreeze i s ρ z = (slotO ρ i z).bind fun ds z => s (ρ.set i (some (.d (.list ds)))) z := rfl
theorem fEnum_ap {fd : FLs} {ρ : Sl} {z : Z} : fEnum fd ρ z = (fd ρ z).bind fun ds z => ofO (enumO ds) z := rfl
theorem fJoin_ap {fa fb : FX} {ρ : Sl} {z : Z} : fJoin fa fb ρ z = (fa ρ z).bind fun d z => (asS d z).bind fun s z => (fb ρ z).bind fun y z => ofO (DL.joinD s y) z := rfl
theorem fPut_ap {i : Nat} {fi' fe : FX} {ρ : Sl} {z : Z} : fPut i fi' fe ρ z = (fe ρ z).bind fun d z => (slotO ρ i z).bind fun ds z => (fi' ρ z).bind fun y z => (asI y z).bind fun k z => (ofO (ixN ds.length k) z).bind fun j z => .ok (.nx (ρ.set i (some (.o (ds.set j d))))) z := rfl
theorem fListRange_ap {f : FX} {ρ : Sl} {z : Z} : fListRange f ρ z = (f ρ z).bind fun d z => ofO (lrO d) z := rfl
theorem fMatch_ap {f : FX} {m : FM} {ρ : Sl} {z : Z} : fMatch f m ρ z = (f ρ z).bind fun d z => m d ρ z := rfl
theorem fField_ap {fo : FB} {x : Str} {ρ : Sl} {z : Z} : fField fo x ρ z = (fo ρ z).bind fun n z => ofO (zgetD z n x) z := rfl
theorem fRecPut_ap {fo : FB} {x : Str} {f : FX} {ρ : Sl} {z : Z} : fRecPut fo x f ρ z = (f ρ z).bind fun d z => (fo ρ z).bind fun n z => (ofO (zput z n x (.d d)) z).bind fun z' _ => .ok (.nx ρ) z' := rfl
theorem fPnil_ap {ρ : Sl} {z : Z} : fPnil ρ z = .ok [] z := rfl
theorem fPcons_ap {x : Str} {f : FX} {r : FPs} {ρ : Sl} {z : Z} : fPcons x f r ρ z = (f ρ z).bind fun d z => (r ρ z).bind fun fs z => .ok ((x, .d d) :: fs) z := rfl
theorem fRec_ap {r : FPs} {ρ : Sl} {z : Z} : fRec r ρ z = (r ρ z).bind fun fs z => okIf (noTwice fs && decide (fs.length ≤ 15)) (.ok z.length (z ++ [⟨.dct, fs⟩])) := rfl
theorem fNever_ap {ρ : Sl} {z : Z} : fNever ρ z = .bad := rfl
theorem fM1_ap {h : Str → Str → D} {fa fb : FX} {ρ : Sl} {z : Z} : fM1 h fa fb ρ z = (fa ρ z).bind fun d z => (asS d z).bind fun s z => (fb ρ z).bind fun y z => (asS y z).bind fun t z => .ok (h s t) z := rfl
theorem fPar3_ap {i j l : Nat} {f h k : FV'} {ρ : Sl} {z : Z} : fPar3 i j l f h k ρ z = (f ρ z).bind fun s z => (h ρ z).bind fun t z => (k ρ z).bind fun u z => .ok (.nx (((ρ.set i (some s)).set j (some t)).set l (some u))) z := rfl
theorem fAug_ap {i : Nat} {f : FX} {ρ : Sl} {z : Z} : fAug i f ρ z = (slotD ρ i z).bind fun x z => (f ρ z).bind fun y z => (asI x z).bind fun m z => (asI y z).bind fun n z => .ok (.nx (ρ.set i (some (.d (.int (m + n)))))) z := rfl
theorem fTry0_ap {b : FS} {ρ : Sl} {z : Z} : fTry0 b ρ z = noEx (b ρ z) := rfl

end FL

namespace FL
open PySem
open L2 hiding Dp DpAll
open DL (D Fg Ex Dp DpAll DpKv dp_ex dpa_ex dpk_ex Grow OpD UnD CallD CallL dpa_len dpa_get dpa_get' dpa_app dpa_rev dpa_erase dpa_take dpa_drop dpa_ints ints_dpa dpa_set dp_list dp_tuple dp_int dp_str dp_bool)
theorem run_ap {n : Nat} {F : Fu} {fs : FA} {ρ : Sl} {z : Z} : run n F fs ρ z = (fs ρ z).bind fun ss z => okIf (decide (ss.length = n)) (F ss z) := rfl
theorem gName_ap {i : Nat} {d : D} {ρ : Sl} : gName i d ρ = some (ρ.set i (some (.d d))) := rfl
theorem gNil_nil {ρ : Sl} : gNil [] ρ = some ρ := rfl
theorem gCons_cons {h : FG} {hs : FGs} {d : D} {r : List D} {ρ : Sl} : gCons h hs (d :: r) ρ = (h d ρ).bind fun ρ' => hs r ρ' := rfl
theorem gTup_t {m : Nat} {hs : FGs} {ds : List D} {ρ : Sl} : gTup m hs (.tuple ds) ρ = if decide (ds.length = m) = true then hs ds ρ else none := rfl
theorem fmNil_ap {d : D} {ρ : Sl} {z : Z} : fmNil d ρ z = .ok (.nx ρ) z := rfl
theorem fmAny_ap {b : FS} {d : D} {ρ : Sl} {z : Z} : fmAny b d ρ z = b ρ z := rfl
theorem view_nil : view [] = [] := rfl
theorem view_cons {o : Option S} {ρ : Sl} : view (o :: ρ) = viewO o :: view ρ := rfl
theorem viewO_n : viewO none = none := rfl
theorem viewO_d {d : D} : viewO (some (.d d)) = some (.d d) := rfl
theorem viewO_o {d : List D} : viewO (some (.o d)) = some (.d (.list d)) := rfl
theorem viewO_ob {d : Nat} : viewO (some (.ob d)) = none := rfl
theorem viewO_r {d : V} : viewO (some (.r d)) = some (.r d) := rfl
theorem viewO_s {d : List Int} : viewO (some (.s d)) = some (.s d) := rfl
theorem wipeD_nil {ρ : Sl} : wipeD ρ [] = ρ := rfl
theorem wipeD_cons {ρ : Sl} {v : Nat} {vs : List Nat} : wipeD ρ (v :: vs) = (wipeD ρ vs).set v none := rfl
theorem itemsAny_l {ds : List D} : itemsAny (.list ds) = some ds := rfl
theorem itemsAny_t {ds : List D} : itemsAny (.tuple ds) = some ds := rfl
theorem itemsAny_s {x : Str} : itemsAny (.str x) = some (DL.signsD x) := rfl
theorem enumO_l {ds : List D} : enumO [.list ds] = some (DL.enumD ds) := rfl
theorem enumO_t {ds : List D} : enumO [.tuple ds] = some (DL.enumD ds) := rfl
theorem if_tt {α : Type} {a b : α} : (if (true : Bool) = true then a else b) = a := rfl
theorem if_ff {α : Type} {a b : α} : (if (false : Bool) = true then a else b) = b := rfl
theorem rev_l {ds : List D} : revD (.list ds) = some (.list ds.reverse) := rfl
/-! ### loops and comprehensions by plain functions -/
theorem comp_map {vs : List Nat} {gf : FG} {ef : FX} {ρ : Sl} {z : Z} {h : D → D} : ∀ (items : List D) (acc : List D), (acc.length + items.length ≤ 100000) → (∀ d ∈ items, ∃ ρ1, gf d (wipeD ρ vs) = some ρ1 ∧ ef ρ1 z = .ok (h d) z) → fCompL vs gf fYes ef ρ items acc z = .ok (acc ++ items.map h) z
  | [], acc, _, _ => by rw [fCompL_nil, List.map_nil, List.append_nil]
  | d :: r, acc, hl, he => by
    obtain ⟨ρ1, e1, e2⟩ := he d (by simp)
    have hl' : acc.length < 100000 := by simp at hl; omega
    rw [fCompL_cons, e1, ofO_some, ok_bind]
    show (noEx (.ok true z)).bind _ = _
    rw [noEx_ok, ok_bind, if_pos rfl, e2, noEx_ok, ok_bind, okIf_of (decide_eq_true hl'), comp_map r (acc ++ [h d]) (by simp at hl ⊢; omega) fun x hx => he x (List.mem_cons_of_mem _ hx)]
    simp
theorem comp_filter {vs : List Nat} {gf : FG} {tf : FT} {ef : FX} {ρ : Sl} {z : Z} {h : D → D} {t : D → Bool} : ∀ (items : List D) (acc : List D), (acc.length + items.length ≤ 100000) → (∀ d ∈ items, ∃ ρ1, gf d (wipeD ρ vs) = some ρ1 ∧ tf ρ1 z = .ok (t d) z ∧ (t d = true → ef ρ1 z = .ok (h d) z)) → fCompL vs gf tf ef ρ items acc z = .ok (acc ++ (items.filter t).map h) z
  | [], acc, _, _ => by rw [fCompL_nil, List.filter_nil, List.map_nil, List.append_nil]
  | d :: r, acc, hl, he => by
    obtain ⟨ρ1, e1, e2, e3⟩ := he d (by simp)
    have hl' : acc.length < 100000 := by simp at hl; omega
    rw [fCompL_cons, e1, ofO_some, ok_bind, e2, noEx_ok, ok_bind]
    cases ht : t d with
    | true =>
      rw [if_pos rfl, e3 ht, noEx_ok, ok_bind, okIf_of (decide_eq_true hl'), comp_filter r (acc ++ [h d]) (by simp at hl ⊢; omega) fun x hx => he x (List.mem_cons_of_mem _ hx), List.filter_cons_of_pos ht]
      simp
    | false =>
      rw [if_neg Bool.false_ne_true, comp_filter r acc (by simp at hl ⊢; omega) fun x hx => he x (List.mem_cons_of_mem _ hx), List.filter_cons_of_neg (by simp [ht])]

theorem comp2I_map {vs1 : List Nat} {gf1 : FG} {ef : FX} {ρ1 : Sl} {z : Z} {h : D → D} : ∀ (items : List D) (acc : List D), (acc.length + items.length ≤ 100000) → (∀ d ∈ items, ∃ ρ2, gf1 d (wipeD ρ1 vs1) = some ρ2 ∧ ef ρ2 z = .ok (h d) z) → fComp2I vs1 gf1 fYes ef ρ1 items acc z = .ok (acc ++ items.map h) z
  | [], acc, _, _ => by rw [fComp2I_nil, List.map_nil, List.append_nil]
  | d :: r, acc, hl, he => by
    obtain ⟨ρ1, e1, e2⟩ := he d (by simp)
    have hl' : acc.length < 100000 := by simp at hl; omega
    rw [fComp2I_cons, e1, ofO_some, ok_bind]
    show (noEx (.ok true z)).bind _ = _
    rw [noEx_ok, ok_bind, if_pos rfl, e2, noEx_ok, ok_bind, okIf_of (decide_eq_true hl'), comp2I_map r (acc ++ [h d]) (by simp at hl ⊢; omega) fun x hx => he x (List.mem_cons_of_mem _ hx)]
    simp
theorem comp2_flat {vs vs1 : List Nat} {gf gf1 : FG} {fi1 : FLs} {ef : FX} {ρ : Sl} {z : Z} {k : D → List D} : ∀ (items : List D) (acc : List D), (acc.length + items.length * 1000 ≤ 100000) → (∀ d ∈ items, ∃ ρ1 its h, gf d (wipeD ρ vs) = some ρ1 ∧ fi1 ρ1 z = .ok its z ∧ (∀ x ∈ its, ∃ ρ2, gf1 x (wipeD ρ1 vs1) = some ρ2 ∧ ef ρ2 z = .ok (h x) z) ∧ k d = its.map h ∧ its.length ≤ 1000) →
    fComp2L vs vs1 gf fYes fi1 gf1 fYes ef ρ items acc z = .ok (acc ++ items.flatMap k) z
  | [], acc, _, _ => by rw [fComp2L_nil, List.flatMap_nil, List.append_nil]
  | d :: r, acc, hl, he => by
    obtain ⟨ρ1, its, h, e1, e2, e3, e4, e5⟩ := he d (by simp)
    rw [fComp2L_cons, e1, ofO_some, ok_bind]
    show (noEx (.ok true z)).bind _ = _
    rw [List.length_cons] at hl
    rw [noEx_ok, ok_bind, if_pos rfl, e2, noEx_ok, ok_bind, comp2I_map its acc (by omega) e3, ok_bind, comp2_flat r _ (by rw [List.length_append, List.length_map]; omega) fun x hx => he x (List.mem_cons_of_mem _ hx), List.flatMap_cons, e4, List.append_assoc]
/-! ### .. whose turns change the store -/
theorem comp_draw {vs : List Nat} {gf : FG} {ef : FX} {ρ : Sl} (I : Nat → Z → Prop) (P : D → Prop) (c B : Nat) : ∀ (items : List D), (∀ d ∈ items, ∀ n z, I n z → n ≤ B → ∃ ρ1 y z', gf d (wipeD ρ vs) = some ρ1 ∧ ef ρ1 z = .ok y z' ∧ P y ∧ I (n + c) z') → ∀ (acc : List D) (n : Nat) (z : Z), I n z → acc.length + items.length ≤ 100000 → n + c * items.length ≤ B →
    ∃ ys z', fCompL vs gf fYes ef ρ items acc z = .ok (acc ++ ys) z' ∧ ys.length = items.length ∧ (∀ y ∈ ys, P y) ∧ I (n + c * items.length) z'
  | [], _, acc, n, z, hi, _, _ => ⟨[], z, by rw [fCompL_nil, List.append_nil], rfl, by simp, by simpa using hi⟩
  | d :: r, he, acc, n, z, hi, hl, hb => by
    obtain ⟨ρ1, y, z1, e1, e2, py, i1⟩ := he d (by simp) n z hi (by omega)
    have hl' : acc.length < 100000 := by simp at hl; omega
    have hm : n + c + c * r.length = n + c * (d :: r).length := by rw [List.length_cons, Nat.mul_succ]; omega
    obtain ⟨ys, z2, e3, e4, e5, i2⟩ := comp_draw I P c B r (fun x hx => he x (List.mem_cons_of_mem _ hx)) (acc ++ [y]) (n + c) z1 i1 (by simp at hl ⊢; omega) (by omega)
    refine ⟨y :: ys, z2, ?_, by simp [e4], fun x hx => ?_, by rw [← hm]; exact i2⟩
    · rw [fCompL_cons, e1, ofO_some, ok_bind]
      show (noEx (.ok true z)).bind _ = _
      rw [noEx_ok, ok_bind, if_pos rfl, e2, noEx_ok, ok_bind, okIf_of (decide_eq_true hl'), e3]
      simp
    · rcases List.mem_cons.mp hx with rfl | h
      · exact py
      · exact e5 x h
theorem loop_st {gf : FG} {b : FS} (I : Nat → Sl → Z → Prop) (c B : Nat) : ∀ (items : List D), (∀ d ∈ items, ∀ n ρ z, I n ρ z → n ≤ B → ∃ ρ1 ρ' z', gf d ρ = some ρ1 ∧ b ρ1 z = .ok (.nx ρ') z' ∧ I (n + c) ρ' z') → ∀ (n : Nat) (ρ : Sl) (z : Z), I n ρ z → n + c * items.length ≤ B →
    ∃ ρ' z', fLoop gf b items ρ z = .ok (.nx ρ') z' ∧ I (n + c * items.length) ρ' z'
  | [], _, n, ρ, z, hi, _ => ⟨ρ, z, rfl, by simpa using hi⟩
  | d :: r, he, n, ρ, z, hi, hb => by
    obtain ⟨ρ1, ρ2, z1, e1, e2, i1⟩ := he d (by simp) n ρ z hi (by omega)
    have hm : n + c + c * r.length = n + c * (d :: r).length := by rw [List.length_cons, Nat.mul_succ]; omega
    obtain ⟨ρ', z2, e3, i2⟩ := loop_st I c B r (fun x hx => he x (List.mem_cons_of_mem _ hx)) (n + c) ρ2 z1 i1 (by omega)
    refine ⟨ρ', z2, ?_, by rw [← hm]; exact i2⟩
    rw [fLoop_cons, e1, ofO_some, ok_bind, e2, ok_bind, loopK_nx, e3]
end FL

namespace FL
open PySem
open L2 hiding Dp DpAll
open DL (D Fg Ex Dp DpAll DpKv dp_ex dpa_ex dpk_ex Grow OpD UnD CallD CallL dpa_len dpa_get dpa_get' dpa_app dpa_rev dpa_erase dpa_take dpa_drop dpa_ints ints_dpa dpa_set dp_list dp_tuple dp_int dp_str dp_bool)
open DL
noncomputable def l__law_begun_1 : FS := (fSet 1 (fvD (fBin DL.modD (fCall DL.int1D (fCons (fBin DL.addD (fBin DL.addD (fBin DL.mulD (fVar 1) (fC (.int 69621))) (fBin DL.modD (fCall DL.int1D (fCons (fVar 2) fNil)) (fC (.int 2147483629)))) (fC (.int 7))) fNil)) (fC (.int 2147483647)))))
theorem l__law_begun_1_ap {ρ : Sl} {z : Z} : l__law_begun_1 ρ z = (fSet 1 (fvD (fBin DL.modD (fCall DL.int1D (fCons (fBin DL.addD (fBin DL.addD (fBin DL.mulD (fVar 1) (fC (.int 69621))) (fBin DL.modD (fCall DL.int1D (fCons (fVar 2) fNil)) (fC (.int 2147483629)))) (fC (.int 7))) fNil)) (fC (.int 2147483647))))) ρ z := rfl
noncomputable def c__law_begun_2 : FT := (fVal (fBin DL.geD (fVar 2) (fBin DL.powD (fC (.int 10)) (fC (.int 18)))))
theorem c__law_begun_2_ap {ρ : Sl} {z : Z} : c__law_begun_2 ρ z = (fVal (fBin DL.geD (fVar 2) (fBin DL.powD (fC (.int 10)) (fC (.int 18))))) ρ z := rfl
noncomputable def b__law_begun : FS := (fSeq (fSet 1 (fvD (fC (.int 11)))) (fSeq (fFor (fScr 0) (gName 2) l__law_begun_1) (fRetOb (fRec (fPcons "great" (fFrz (fComp (fScr 0) (gName 2) c__law_begun_2 (fVar 2) [2])) (fPcons "seed" (fVar 1) (fPcons "turns" (fC (.int 0)) fPnil)))))))
theorem b__law_begun_ap {ρ : Sl} {z : Z} : b__law_begun ρ z = (fSeq (fSet 1 (fvD (fC (.int 11)))) (fSeq (fFor (fScr 0) (gName 2) l__law_begun_1) (fRetOb (fRec (fPcons "great" (fFrz (fComp (fScr 0) (gName 2) c__law_begun_2 (fVar 2) [2])) (fPcons "seed" (fVar 1) (fPcons "turns" (fC (.int 0)) fPnil))))))) ρ z := rfl
noncomputable def F__law_begun : Fu := fnOf ["_law_script", "_law_seed", "_law_cell"] b__law_begun
theorem F__law_begun_eq {x0 : S} {z : Z} : F__law_begun [x0] z = (b__law_begun [some x0, none, none] z).bind outS := rfl
/-! ### the machine of the draws -/
abbrev mrec (gs : List Int) (s t : Int) : Rec := ⟨.dct, [("great", .d (.list (gs.map .int))), ("seed", .d (.int s)), ("turns", .d (.int t))]⟩
/-- the machine stands first, behind it r; at most n turns so far -/
structure Mz (n : Nat) (r : Z) (z : Z) : Prop where
  ex : ∃ gs s t, z = mrec gs s t :: r ∧ (∀ g ∈ gs, 0 ≤ g) ∧ gs.length ≤ 64 ∧ (0 ≤ s ∧ s < 2147483647) ∧ 0 ≤ t ∧ t ≤ n
theorem Mz.mono {n m : Nat} {r z : Z} (h : Mz n r z) (l : n ≤ m) : Mz m r z := by
  obtain ⟨gs, s, t, e, h1, h2, h3, h4, h5⟩ := h
  exact ⟨gs, s, t, e, h1, h2, h3, h4, by omega⟩
theorem mul_l {i j : Int} (h : -1000000000000000 ≤ i ∧ i ≤ 1000000000000000) : mulD (.int i) (.int j) = some (.int (i * j)) := by
  show (if mulOk i j then some (PyData.int (i * j)) else none) = _
  rw [if_pos]
  unfold mulOk
  rw [decide_eq_true (by omega), decide_eq_true (by omega)]; rfl
theorem mul_r {i j : Int} (h : -1000000000000000 ≤ j ∧ j ≤ 1000000000000000) : mulD (.int i) (.int j) = some (.int (i * j)) := by
  show (if mulOk i j then some (PyData.int (i * j)) else none) = _
  rw [if_pos]
  unfold mulOk
  rw [Bool.or_eq_true]
  right
  rw [decide_eq_true (by omega), decide_eq_true (by omega)]; rfl
theorem pow18 : powD (.int 10) (.int 18) = some (.int 1000000000000000000) := by kernel_rfl
theorem begun_loop {x0 : Option S} {z : Z} : ∀ (ns : List Int) (s : Int) (x2 : Option S), 0 ≤ s ∧ s < 2147483647 → ∃ s' y2, 0 ≤ s' ∧ s' < 2147483647 ∧ fLoop (gName 2) l__law_begun_1 (ns.map PyData.int) [x0, some (.d (.int s)), x2] z = .ok (.nx [x0, some (.d (.int s')), y2]) z
  | [], s, x2, h => ⟨s, x2, h.1, h.2, rfl⟩
  | n :: ns, s, x2, h => by
    have e1 : mulD (.int s) (.int 69621) = some (.int (s * 69621)) := mul_r (by omega)
    have e2 : modD (.int n) (.int 2147483629) = some (.int (n % 2147483629)) := DL.mod_ii (by decide)
    have e3 : modD (.int (s * 69621 + n % 2147483629 + 7)) (.int 2147483647) = some (.int ((s * 69621 + n % 2147483629 + 7) % 2147483647)) := DL.mod_ii (by decide)
    obtain ⟨s', y2, h1, h2, ih⟩ := begun_loop (x0 := x0) (z := z) ns ((s * 69621 + n % 2147483629 + 7) % 2147483647) (some (.d (.int n))) ⟨Int.emod_nonneg _ (by decide), Int.emod_lt_of_pos _ (by decide)⟩
    refine ⟨s', y2, h1, h2, ?_⟩
    rw [List.map_cons, fLoop_cons]
    simp -implicitDefEqProofs only [l__law_begun_1_ap, ok_bind, bad_bind, ex_bind, ofO_some, ofO_none, okIf_t, choose_t, choose_f, asB_b, asI_i, asS_s, asL_l, asD_d, asOb_ob, asO_o, slotD_0, slotD_s, slotO_0, slotO_s, slotOb_0, slotOb_s, slotA_d, slotA_ob, slotA_r, slotA_sc, slotA_s, slotSc_0, slotSc_s, seqK_nx, seqK_rt, seqK_bk, seqK_ct, loopK_nx, loopK_rt, loopK_bk, loopK_ct, outS_nx, outS_rt, run_ap, gName_ap, gNil_nil, gCons_cons, gTup_t, fmNil_ap, fmStr_s, fmAny_ap, fmEv_t, noEx_ok, unz_ok, view_nil, view_cons, viewO_n, viewO_d, viewO_o, viewO_ob, viewO_r, viewO_s, wipeD_nil, wipeD_cons, List.set_cons_succ, List.set_cons_zero, List.set_nil, List.length_cons, List.length_nil, Nat.reduceAdd, Nat.reduceLeDiff, Nat.reduceEqDiff, Nat.reduceLT, decide_true, decide_false, Bool.not_true, Bool.not_false, Nat.zero_add, itemsAny_l, itemsAny_t, itemsAny_s, enumO_l, enumO_t, if_tt, if_ff, Option.bind_some, Bool.and_true, Bool.true_and, Bool.and_self, ↓reduceIte, fVar_ap, fC_ap, fBin_ap, fUn_ap, fChain_ap, fVal_ap, fbNot_ap, fbAnd_ap, fbOr_ap, fAnd_ap, fOr_ap, fNot_ap, fIf_ap, fNil_ap, fCons_ap, fTup_ap, fLst_ap, fFrz_ap, fCall_ap, fCallL_ap, fONone_ap, fOSome_ap, fSl_ap, fAnil_ap, fAd_ap, fAv_ap, fFn_ap, fFnOb_ap, fVarOb_ap, fSeq_ap, fNext_ap, fRet_ap, fRetN_ap, fRetOb_ap, fIfS_ap, fDrop_ap, fBrk_ap, fCnt_ap, fAsg_ap, fOwn_ap, fSetOb_ap, fFor_ap, fItems_ap, fScr_ap, fLenS_ap, fR1_ap, fR2_ap, fWhile_ap, fYes_ap, fComp_ap, fSetL_ap, fComp2_ap, fvD_ap, fvO_ap, fvB_ap, fSet_ap, fPar_ap, fView_ap, fbView_ap, flView_ap, fAppend_ap, fAppPop_ap, fRev_ap, fExt_ap, fFreeze_ap, fEnum_ap, fJoin_ap, fPut_ap, fListRange_ap, fMatch_ap, fField_ap, fRecPut_ap, fPnil_ap, fPcons_ap, fRec_ap, fNever_ap, DL.le_ii, DL.lt_ii, DL.gt_ii, DL.ge_ii, DL.sub_ii, DL.add_ii, DL.neg_i, DL.eq_ii, DL.ne_ii, DL.len_l, DL.len_t, DL.int1_i, DL.max2_ii, DL.min2_ii, DL.tuple_l, DL.tuple_t, DL.list_l, DL.list_t, DL.revL_l, rev_l, DL.isN_n, DL.isN_t, DL.isN_i, DL.notN_n, DL.notN_t, DL.notN_i, DL.isInt_i, DL.isInt_b, DL.isInt_s, DL.isInt_n, DL.isInt_l, DL.isInt_t, DL.isInt_d, DL.isBool_i, DL.isBool_b, DL.isBool_s, DL.isBool_n, DL.isBool_l, DL.isBool_t, DL.isBool_d, DL.isStr_i, DL.isStr_b, DL.isStr_s, DL.isStr_n, DL.isStr_l, DL.isStr_t, DL.isStr_d, DL.isTup_i, DL.isTup_b, DL.isTup_s, DL.isTup_n, DL.isTup_l, DL.isTup_t, DL.isTup_d, DL.ix_t0, DL.ix_t1, DL.ix_t2, DL.ix_t3, DL.ix_t4, DL.ix_l0, DL.ix_l1, DL.ix_l2, Int.reduceLT, Int.reduceLE, Int.reduceNeg, Int.reduceAdd, Int.reduceSub, Int.reduceMul, Int.reduceToNat, Int.reduceBEq, Int.cast_ofNat_Int, e1, e2, e3, ih]
theorem v__law_begun {ns : List Int} (hl : ns.length ≤ 63) : ∃ z', F__law_begun [.s ns] [] = .ok (.ob 0) z' ∧ Mz 0 [] z' := by
  obtain ⟨s', y2, h1, h2, h3⟩ := begun_loop (x0 := some (.s ns)) (z := []) ns 11 none (by decide)
  have hc : fCompL [2] (gName 2) c__law_begun_2 (fVar 2) [some (.s ns), some (.d (.int s')), y2] (ns.map PyData.int) [] [] = .ok ((ns.filter fun n => decide (1000000000000000000 ≤ n)).map .int) [] := by
    rw [comp_filter (h := id) (t := fun d => match d with | .int n => decide (1000000000000000000 ≤ n) | _ => false)]
    · rw [List.nil_append, List.filter_map, List.map_map]
      rfl
    · simp; omega
    · intro d hd
      obtain ⟨n, _, rfl⟩ := List.mem_map.mp hd
      refine ⟨_, rfl, ?_, fun _ => ?_⟩
      · simp -implicitDefEqProofs only [wipeD, ok_bind, bad_bind, ex_bind, ofO_some, ofO_none, okIf_t, choose_t, choose_f, asB_b, asI_i, asS_s, asL_l, asD_d, asOb_ob, asO_o, slotD_0, slotD_s, slotO_0, slotO_s, slotOb_0, slotOb_s, slotA_d, slotA_ob, slotA_r, slotA_sc, slotA_s, slotSc_0, slotSc_s, seqK_nx, seqK_rt, seqK_bk, seqK_ct, loopK_nx, loopK_rt, loopK_bk, loopK_ct, outS_nx, outS_rt, run_ap, gName_ap, gNil_nil, gCons_cons, gTup_t, fmNil_ap, fmStr_s, fmAny_ap, fmEv_t, noEx_ok, unz_ok, view_nil, view_cons, viewO_n, viewO_d, viewO_o, viewO_ob, viewO_r, viewO_s, wipeD_nil, wipeD_cons, List.set_cons_succ, List.set_cons_zero, List.set_nil, List.length_cons, List.length_nil, Nat.reduceAdd, Nat.reduceLeDiff, Nat.reduceEqDiff, Nat.reduceLT, decide_true, decide_false, Bool.not_true, Bool.not_false, Nat.zero_add, itemsAny_l, itemsAny_t, itemsAny_s, enumO_l, enumO_t, if_tt, if_ff, Option.bind_some, Bool.and_true, Bool.true_and, Bool.and_self, ↓reduceIte, fVar_ap, fC_ap, fBin_ap, fUn_ap, fChain_ap, fVal_ap, fbNot_ap, fbAnd_ap, fbOr_ap, fAnd_ap, fOr_ap, fNot_ap, fIf_ap, fNil_ap, fCons_ap, fTup_ap, fLst_ap, fFrz_ap, fCall_ap, fCallL_ap, fONone_ap, fOSome_ap, fSl_ap, fAnil_ap, fAd_ap, fAv_ap, fFn_ap, fFnOb_ap, fVarOb_ap, fSeq_ap, fNext_ap, fRet_ap, fRetN_ap, fRetOb_ap, fIfS_ap, fDrop_ap, fBrk_ap, fCnt_ap, fAsg_ap, fOwn_ap, fSetOb_ap, fFor_ap, fItems_ap, fScr_ap, fLenS_ap, fR1_ap, fR2_ap, fWhile_ap, fYes_ap, fComp_ap, fSetL_ap, fComp2_ap, fvD_ap, fvO_ap, fvB_ap, fSet_ap, fPar_ap, fView_ap, fbView_ap, flView_ap, fAppend_ap, fAppPop_ap, fRev_ap, fExt_ap, fFreeze_ap, fEnum_ap, fJoin_ap, fPut_ap, fListRange_ap, fMatch_ap, fField_ap, fRecPut_ap, fPnil_ap, fPcons_ap, fRec_ap, fNever_ap, DL.le_ii, DL.lt_ii, DL.gt_ii, DL.ge_ii, DL.sub_ii, DL.add_ii, DL.neg_i, DL.eq_ii, DL.ne_ii, DL.len_l, DL.len_t, DL.int1_i, DL.max2_ii, DL.min2_ii, DL.tuple_l, DL.tuple_t, DL.list_l, DL.list_t, DL.revL_l, rev_l, DL.isN_n, DL.isN_t, DL.isN_i, DL.notN_n, DL.notN_t, DL.notN_i, DL.isInt_i, DL.isInt_b, DL.isInt_s, DL.isInt_n, DL.isInt_l, DL.isInt_t, DL.isInt_d, DL.isBool_i, DL.isBool_b, DL.isBool_s, DL.isBool_n, DL.isBool_l, DL.isBool_t, DL.isBool_d, DL.isStr_i, DL.isStr_b, DL.isStr_s, DL.isStr_n, DL.isStr_l, DL.isStr_t, DL.isStr_d, DL.isTup_i, DL.isTup_b, DL.isTup_s, DL.isTup_n, DL.isTup_l, DL.isTup_t, DL.isTup_d, DL.ix_t0, DL.ix_t1, DL.ix_t2, DL.ix_t3, DL.ix_t4, DL.ix_l0, DL.ix_l1, DL.ix_l2, Int.reduceLT, Int.reduceLE, Int.reduceNeg, Int.reduceAdd, Int.reduceSub, Int.reduceMul, Int.reduceToNat, Int.reduceBEq, Int.cast_ofNat_Int, c__law_begun_2_ap, pow18]
      · simp -implicitDefEqProofs only [wipeD, ok_bind, bad_bind, ex_bind, ofO_some, ofO_none, okIf_t, choose_t, choose_f, asB_b, asI_i, asS_s, asL_l, asD_d, asOb_ob, asO_o, slotD_0, slotD_s, slotO_0, slotO_s, slotOb_0, slotOb_s, slotA_d, slotA_ob, slotA_r, slotA_sc, slotA_s, slotSc_0, slotSc_s, seqK_nx, seqK_rt, seqK_bk, seqK_ct, loopK_nx, loopK_rt, loopK_bk, loopK_ct, outS_nx, outS_rt, run_ap, gName_ap, gNil_nil, gCons_cons, gTup_t, fmNil_ap, fmStr_s, fmAny_ap, fmEv_t, noEx_ok, unz_ok, view_nil, view_cons, viewO_n, viewO_d, viewO_o, viewO_ob, viewO_r, viewO_s, wipeD_nil, wipeD_cons, List.set_cons_succ, List.set_cons_zero, List.set_nil, List.length_cons, List.length_nil, Nat.reduceAdd, Nat.reduceLeDiff, Nat.reduceEqDiff, Nat.reduceLT, decide_true, decide_false, Bool.not_true, Bool.not_false, Nat.zero_add, itemsAny_l, itemsAny_t, itemsAny_s, enumO_l, enumO_t, if_tt, if_ff, Option.bind_some, Bool.and_true, Bool.true_and, Bool.and_self, ↓reduceIte, fVar_ap, fC_ap, fBin_ap, fUn_ap, fChain_ap, fVal_ap, fbNot_ap, fbAnd_ap, fbOr_ap, fAnd_ap, fOr_ap, fNot_ap, fIf_ap, fNil_ap, fCons_ap, fTup_ap, fLst_ap, fFrz_ap, fCall_ap, fCallL_ap, fONone_ap, fOSome_ap, fSl_ap, fAnil_ap, fAd_ap, fAv_ap, fFn_ap, fFnOb_ap, fVarOb_ap, fSeq_ap, fNext_ap, fRet_ap, fRetN_ap, fRetOb_ap, fIfS_ap, fDrop_ap, fBrk_ap, fCnt_ap, fAsg_ap, fOwn_ap, fSetOb_ap, fFor_ap, fItems_ap, fScr_ap, fLenS_ap, fR1_ap, fR2_ap, fWhile_ap, fYes_ap, fComp_ap, fSetL_ap, fComp2_ap, fvD_ap, fvO_ap, fvB_ap, fSet_ap, fPar_ap, fView_ap, fbView_ap, flView_ap, fAppend_ap, fAppPop_ap, fRev_ap, fExt_ap, fFreeze_ap, fEnum_ap, fJoin_ap, fPut_ap, fListRange_ap, fMatch_ap, fField_ap, fRecPut_ap, fPnil_ap, fPcons_ap, fRec_ap, fNever_ap, DL.le_ii, DL.lt_ii, DL.gt_ii, DL.ge_ii, DL.sub_ii, DL.add_ii, DL.neg_i, DL.eq_ii, DL.ne_ii, DL.len_l, DL.len_t, DL.int1_i, DL.max2_ii, DL.min2_ii, DL.tuple_l, DL.tuple_t, DL.list_l, DL.list_t, DL.revL_l, rev_l, DL.isN_n, DL.isN_t, DL.isN_i, DL.notN_n, DL.notN_t, DL.notN_i, DL.isInt_i, DL.isInt_b, DL.isInt_s, DL.isInt_n, DL.isInt_l, DL.isInt_t, DL.isInt_d, DL.isBool_i, DL.isBool_b, DL.isBool_s, DL.isBool_n, DL.isBool_l, DL.isBool_t, DL.isBool_d, DL.isStr_i, DL.isStr_b, DL.isStr_s, DL.isStr_n, DL.isStr_l, DL.isStr_t, DL.isStr_d, DL.isTup_i, DL.isTup_b, DL.isTup_s, DL.isTup_n, DL.isTup_l, DL.isTup_t, DL.isTup_d, DL.ix_t0, DL.ix_t1, DL.ix_t2, DL.ix_t3, DL.ix_t4, DL.ix_l0, DL.ix_l1, DL.ix_l2, Int.reduceLT, Int.reduceLE, Int.reduceNeg, Int.reduceAdd, Int.reduceSub, Int.reduceMul, Int.reduceToNat, Int.reduceBEq, Int.cast_ofNat_Int, id]
  refine ⟨[mrec (ns.filter fun n => decide (1000000000000000000 ≤ n)) s' 0], ?_, ⟨_, s', 0, rfl, fun g hg => ?_, ?_, ⟨h1, h2⟩, by omega, by omega⟩⟩
  · rw [F__law_begun_eq]
    have e : noTwice [("great", .d (.list ((ns.filter fun n => decide (1000000000000000000 ≤ n)).map .int))), ("seed", .d (.int s')), ("turns", .d (.int 0))] = true := by
      show (!(decide (("seed" : Str) = "great") || (decide (("turns" : Str) = "great") || false)) && (!(decide (("turns" : Str) = "seed") || false) && (!false && true))) = true
      decide +kernel
    simp -implicitDefEqProofs only [b__law_begun_ap, ok_bind, bad_bind, ex_bind, ofO_some, ofO_none, okIf_t, choose_t, choose_f, asB_b, asI_i, asS_s, asL_l, asD_d, asOb_ob, asO_o, slotD_0, slotD_s, slotO_0, slotO_s, slotOb_0, slotOb_s, slotA_d, slotA_ob, slotA_r, slotA_sc, slotA_s, slotSc_0, slotSc_s, seqK_nx, seqK_rt, seqK_bk, seqK_ct, loopK_nx, loopK_rt, loopK_bk, loopK_ct, outS_nx, outS_rt, run_ap, gName_ap, gNil_nil, gCons_cons, gTup_t, fmNil_ap, fmStr_s, fmAny_ap, fmEv_t, noEx_ok, unz_ok, view_nil, view_cons, viewO_n, viewO_d, viewO_o, viewO_ob, viewO_r, viewO_s, wipeD_nil, wipeD_cons, List.set_cons_succ, List.set_cons_zero, List.set_nil, List.length_cons, List.length_nil, Nat.reduceAdd, Nat.reduceLeDiff, Nat.reduceEqDiff, Nat.reduceLT, decide_true, decide_false, Bool.not_true, Bool.not_false, Nat.zero_add, itemsAny_l, itemsAny_t, itemsAny_s, enumO_l, enumO_t, if_tt, if_ff, Option.bind_some, Bool.and_true, Bool.true_and, Bool.and_self, ↓reduceIte, fVar_ap, fC_ap, fBin_ap, fUn_ap, fChain_ap, fVal_ap, fbNot_ap, fbAnd_ap, fbOr_ap, fAnd_ap, fOr_ap, fNot_ap, fIf_ap, fNil_ap, fCons_ap, fTup_ap, fLst_ap, fFrz_ap, fCall_ap, fCallL_ap, fONone_ap, fOSome_ap, fSl_ap, fAnil_ap, fAd_ap, fAv_ap, fFn_ap, fFnOb_ap, fVarOb_ap, fSeq_ap, fNext_ap, fRet_ap, fRetN_ap, fRetOb_ap, fIfS_ap, fDrop_ap, fBrk_ap, fCnt_ap, fAsg_ap, fOwn_ap, fSetOb_ap, fFor_ap, fItems_ap, fScr_ap, fLenS_ap, fR1_ap, fR2_ap, fWhile_ap, fYes_ap, fComp_ap, fSetL_ap, fComp2_ap, fvD_ap, fvO_ap, fvB_ap, fSet_ap, fPar_ap, fView_ap, fbView_ap, flView_ap, fAppend_ap, fAppPop_ap, fRev_ap, fExt_ap, fFreeze_ap, fEnum_ap, fJoin_ap, fPut_ap, fListRange_ap, fMatch_ap, fField_ap, fRecPut_ap, fPnil_ap, fPcons_ap, fRec_ap, fNever_ap, DL.le_ii, DL.lt_ii, DL.gt_ii, DL.ge_ii, DL.sub_ii, DL.add_ii, DL.neg_i, DL.eq_ii, DL.ne_ii, DL.len_l, DL.len_t, DL.int1_i, DL.max2_ii, DL.min2_ii, DL.tuple_l, DL.tuple_t, DL.list_l, DL.list_t, DL.revL_l, rev_l, DL.isN_n, DL.isN_t, DL.isN_i, DL.notN_n, DL.notN_t, DL.notN_i, DL.isInt_i, DL.isInt_b, DL.isInt_s, DL.isInt_n, DL.isInt_l, DL.isInt_t, DL.isInt_d, DL.isBool_i, DL.isBool_b, DL.isBool_s, DL.isBool_n, DL.isBool_l, DL.isBool_t, DL.isBool_d, DL.isStr_i, DL.isStr_b, DL.isStr_s, DL.isStr_n, DL.isStr_l, DL.isStr_t, DL.isStr_d, DL.isTup_i, DL.isTup_b, DL.isTup_s, DL.isTup_n, DL.isTup_l, DL.isTup_t, DL.isTup_d, DL.ix_t0, DL.ix_t1, DL.ix_t2, DL.ix_t3, DL.ix_t4, DL.ix_l0, DL.ix_l1, DL.ix_l2, Int.reduceLT, Int.reduceLE, Int.reduceNeg, Int.reduceAdd, Int.reduceSub, Int.reduceMul, Int.reduceToNat, Int.reduceBEq, Int.cast_ofNat_Int, h3, hc, e]
    rfl
  · have := (List.mem_filter.mp hg).2
    have := of_decide_eq_true this
    omega
  · exact Nat.le_trans (List.length_filter_le _ _) (by omega)
noncomputable def l__law_draw_1 : FS := (fRecPut (fVarOb 0) "great" (fSl DL.slD (fField (fVarOb 0) "great") (fOSome (fC (.int 1))) fONone))
theorem l__law_draw_1_ap {ρ : Sl} {z : Z} : l__law_draw_1 ρ z = (fRecPut (fVarOb 0) "great" (fSl DL.slD (fField (fVarOb 0) "great") (fOSome (fC (.int 1))) fONone)) ρ z := rfl
noncomputable def c__law_draw_2 : FT := (fbAnd (fVal (fBin DL.neD (fField (fVarOb 0) "great") (fFrz (fLst fNil)))) (fVal (fBin DL.eqD (fBin DL.ixD (fField (fVarOb 0) "great") (fC (.int 0))) (fC (.int 0)))))
theorem c__law_draw_2_ap {ρ : Sl} {z : Z} : c__law_draw_2 ρ z = (fbAnd (fVal (fBin DL.neD (fField (fVarOb 0) "great") (fFrz (fLst fNil)))) (fVal (fBin DL.eqD (fBin DL.ixD (fField (fVarOb 0) "great") (fC (.int 0))) (fC (.int 0))))) ρ z := rfl
noncomputable def b__law_draw : FS := (fSeq (fWhile c__law_draw_2 l__law_draw_1) (fSeq (fIfS (fVal (fBin DL.neD (fField (fVarOb 0) "great") (fFrz (fLst fNil)))) (fSeq (fSet 2 (fvD (fBin DL.ixD (fField (fVarOb 0) "great") (fC (.int 0))))) (fSeq (fRecPut (fVarOb 0) "great" (fBin DL.addD (fFrz (fLst (fCons (fBin DL.fdivD (fVar 2) (fVar 1)) fNil))) (fSl DL.slD (fField (fVarOb 0) "great") (fOSome (fC (.int 1))) fONone))) (fRet (fBin DL.modD (fCall DL.int1D (fCons (fVar 2) fNil)) (fVar 1))))) fNext) (fSeq (fRecPut (fVarOb 0) "turns" (fBin DL.addD (fField (fVarOb 0) "turns") (fC (.int 1)))) (fSeq (fSet 3 (fvD (fBin DL.modD (fCall DL.int1D (fCons (fBin DL.addD (fBin DL.addD (fBin DL.mulD (fField (fVarOb 0) "seed") (fC (.int 48271))) (fBin DL.mulD (fBin DL.mulD (fField (fVarOb 0) "turns") (fField (fVarOb 0) "turns")) (fC (.int 16807)))) (fField (fVarOb 0) "turns")) fNil)) (fC (.int 2147483647))))) (fSeq (fSet 3 (fvD (fBin DL.modD (fCall DL.int1D (fCons (fBin DL.addD (fBin DL.mulD (fVar 3) (fC (.int 69621))) (fC (.int 12345))) fNil)) (fC (.int 2147483629))))) (fRet (fBin DL.modD (fBin DL.fdivD (fBin DL.modD (fCall DL.int1D (fCons (fBin DL.addD (fBin DL.mulD (fVar 3) (fC (.int 40014))) (fField (fVarOb 0) "turns")) fNil)) (fC (.int 2147483563))) (fC (.int 64))) (fVar 1))))))))
theorem b__law_draw_ap {ρ : Sl} {z : Z} : b__law_draw ρ z = (fSeq (fWhile c__law_draw_2 l__law_draw_1) (fSeq (fIfS (fVal (fBin DL.neD (fField (fVarOb 0) "great") (fFrz (fLst fNil)))) (fSeq (fSet 2 (fvD (fBin DL.ixD (fField (fVarOb 0) "great") (fC (.int 0))))) (fSeq (fRecPut (fVarOb 0) "great" (fBin DL.addD (fFrz (fLst (fCons (fBin DL.fdivD (fVar 2) (fVar 1)) fNil))) (fSl DL.slD (fField (fVarOb 0) "great") (fOSome (fC (.int 1))) fONone))) (fRet (fBin DL.modD (fCall DL.int1D (fCons (fVar 2) fNil)) (fVar 1))))) fNext) (fSeq (fRecPut (fVarOb 0) "turns" (fBin DL.addD (fField (fVarOb 0) "turns") (fC (.int 1)))) (fSeq (fSet 3 (fvD (fBin DL.modD (fCall DL.int1D (fCons (fBin DL.addD (fBin DL.addD (fBin DL.mulD (fField (fVarOb 0) "seed") (fC (.int 48271))) (fBin DL.mulD (fBin DL.mulD (fField (fVarOb 0) "turns") (fField (fVarOb 0) "turns")) (fC (.int 16807)))) (fField (fVarOb 0) "turns")) fNil)) (fC (.int 2147483647))))) (fSeq (fSet 3 (fvD (fBin DL.modD (fCall DL.int1D (fCons (fBin DL.addD (fBin DL.mulD (fVar 3) (fC (.int 69621))) (fC (.int 12345))) fNil)) (fC (.int 2147483629))))) (fRet (fBin DL.modD (fBin DL.fdivD (fBin DL.modD (fCall DL.int1D (fCons (fBin DL.addD (fBin DL.mulD (fVar 3) (fC (.int 40014))) (fField (fVarOb 0) "turns")) fNil)) (fC (.int 2147483563))) (fC (.int 64))) (fVar 1)))))))) ρ z := rfl
noncomputable def F__law_draw : Fu := fnOf ["_law_m", "_law_limit", "_law_cell", "_law_mixed"] b__law_draw
theorem F__law_draw_eq {x0 x1 : S} {z : Z} : F__law_draw [x0, x1] z = (b__law_draw [some x0, some x1, none, none] z).bind outS := rfl
section
variable {gs : List Int} {s t : Int} {r : Z}
theorem g_great : zgetD (mrec gs s t :: r) 0 "great" = some (.list (gs.map .int)) := by
  show (match getF (mrec gs s t).fs "great" with | some (.d d) => some d | _ => none) = _
  unfold getF
  rw [if_pos rfl]
theorem g_seed : zgetD (mrec gs s t :: r) 0 "seed" = some (.int s) := by
  show (match getF (mrec gs s t).fs "seed" with | some (.d d) => some d | _ => none) = _
  unfold getF
  rw [if_neg (by decide +kernel)]
  unfold getF
  rw [if_pos rfl]
theorem g_turns : zgetD (mrec gs s t :: r) 0 "turns" = some (.int t) := by
  show (match getF (mrec gs s t).fs "turns" with | some (.d d) => some d | _ => none) = _
  unfold getF
  rw [if_neg (by decide +kernel)]
  unfold getF
  rw [if_neg (by decide +kernel)]
  unfold getF
  rw [if_pos rfl]
theorem p_great {hs : List Int} : zput (mrec gs s t :: r) 0 "great" (.d (.list (hs.map .int))) = some (mrec hs s t :: r) := by
  show some (Rec.mk RK.dct (putFV (mrec gs s t).fs "great" (.d (.list (hs.map .int)))) :: r) = _
  have n1 : ¬ (("seed" : Str) = "great") := by decide +kernel
  have n2 : ¬ (("turns" : Str) = "great") := by decide +kernel
  unfold putFV
  have hh : hasF (mrec gs s t).fs "great" = true := by
    show (decide (("great" : Str) = "great") || _) = true
    rw [decide_eq_true (rfl : ("great" : Str) = "great")]
    rfl
  rw [if_pos hh]
  unfold mapF mapF mapF mapF
  rw [if_pos rfl, if_neg n1, if_neg n2]
theorem p_turns {u : Int} : zput (mrec gs s t :: r) 0 "turns" (.d (.int u)) = some (mrec gs s u :: r) := by
  show some (Rec.mk RK.dct (putFV (mrec gs s t).fs "turns" (.d (.int u))) :: r) = _
  have n1 : ¬ (("great" : Str) = "turns") := by decide +kernel
  have n2 : ¬ (("seed" : Str) = "turns") := by decide +kernel
  have hh : hasF (mrec gs s t).fs "turns" = true := by
    show (decide (("great" : Str) = "turns") || (decide (("seed" : Str) = "turns") || (decide (("turns" : Str) = "turns") || hasF [] "turns"))) = true
    rw [decide_eq_true (rfl : ("turns" : Str) = "turns")]
    simp
  unfold putFV
  rw [if_pos hh]
  unfold mapF mapF mapF mapF
  rw [if_pos rfl, if_neg n1, if_neg n2]
end
theorem sl_1 {x : Int} {hs : List Int} : slD (.list ((x :: hs).map .int)) (some 1) none = some (.list (hs.map .int)) := by
  show some (PyData.list (cutD ((x :: hs).map .int) (some 1) none)) = _
  unfold cutD
  rw [HT.sIx_none, show (some (1 : Int)) = some ((1 : Nat) : Int) from rfl, HT.sIx_nat]
  simp only [List.map_cons, List.length_cons, List.length_map]
  rw [Nat.min_eq_left (by omega), List.drop_succ_cons, List.drop_zero, Nat.add_sub_cancel, List.take_of_length_le (by simp)]
theorem ix_0 {x : Int} {hs : List Int} : ixD (.list ((x :: hs).map .int)) (.int 0) = some (.int x) := DL.ix_l0
theorem ne_nilI {ns : List Int} : neD (.list (ns.map .int)) (.list []) = some (.bool (!decide (ns = []))) := ne_lstI (ys := [])
theorem draw_loop {x1 x2 x3 : Option S} {s t : Int} {r : Z} : ∀ (n : Nat) (gs : List Int) (m : Nat), gs.length ≤ n → n < m → (∀ g ∈ gs, 0 ≤ g) → ∃ hs : List Int, (∀ g ∈ hs, 0 ≤ g) ∧ hs.length ≤ gs.length ∧
    whileN c__law_draw_2 l__law_draw_1 m [some (.ob 0), x1, x2, x3] (mrec gs s t :: r) = .ok (.nx [some (.ob 0), x1, x2, x3]) (mrec hs s t :: r)
  | n, [], m, _, hm, _ => by
    obtain ⟨m, rfl⟩ : ∃ k, m = k + 1 := ⟨m - 1, by omega⟩
    have e := ne_nilI (ns := [])
    have e1 : decide (([] : List Int) = []) = true := rfl
    refine ⟨[], by simp, Nat.le_refl _, ?_⟩
    rw [whileN_s]
    simp -implicitDefEqProofs only [c__law_draw_2_ap, ok_bind, bad_bind, ex_bind, ofO_some, ofO_none, okIf_t, choose_t, choose_f, asB_b, asI_i, asS_s, asL_l, asD_d, asOb_ob, asO_o, slotD_0, slotD_s, slotO_0, slotO_s, slotOb_0, slotOb_s, slotA_d, slotA_ob, slotA_r, slotA_sc, slotA_s, slotSc_0, slotSc_s, seqK_nx, seqK_rt, seqK_bk, seqK_ct, loopK_nx, loopK_rt, loopK_bk, loopK_ct, outS_nx, outS_rt, run_ap, gName_ap, gNil_nil, gCons_cons, gTup_t, fmNil_ap, fmStr_s, fmAny_ap, fmEv_t, noEx_ok, unz_ok, view_nil, view_cons, viewO_n, viewO_d, viewO_o, viewO_ob, viewO_r, viewO_s, wipeD_nil, wipeD_cons, List.set_cons_succ, List.set_cons_zero, List.set_nil, List.length_cons, List.length_nil, Nat.reduceAdd, Nat.reduceLeDiff, Nat.reduceEqDiff, Nat.reduceLT, decide_true, decide_false, Bool.not_true, Bool.not_false, Nat.zero_add, itemsAny_l, itemsAny_t, itemsAny_s, enumO_l, enumO_t, if_tt, if_ff, Option.bind_some, Bool.and_true, Bool.true_and, Bool.and_self, ↓reduceIte, fVar_ap, fC_ap, fBin_ap, fUn_ap, fChain_ap, fVal_ap, fbNot_ap, fbAnd_ap, fbOr_ap, fAnd_ap, fOr_ap, fNot_ap, fIf_ap, fNil_ap, fCons_ap, fTup_ap, fLst_ap, fFrz_ap, fCall_ap, fCallL_ap, fONone_ap, fOSome_ap, fSl_ap, fAnil_ap, fAd_ap, fAv_ap, fFn_ap, fFnOb_ap, fVarOb_ap, fSeq_ap, fNext_ap, fRet_ap, fRetN_ap, fRetOb_ap, fIfS_ap, fDrop_ap, fBrk_ap, fCnt_ap, fAsg_ap, fOwn_ap, fSetOb_ap, fFor_ap, fItems_ap, fScr_ap, fLenS_ap, fR1_ap, fR2_ap, fWhile_ap, fYes_ap, fComp_ap, fSetL_ap, fComp2_ap, fvD_ap, fvO_ap, fvB_ap, fSet_ap, fPar_ap, fView_ap, fbView_ap, flView_ap, fAppend_ap, fAppPop_ap, fRev_ap, fExt_ap, fFreeze_ap, fEnum_ap, fJoin_ap, fPut_ap, fListRange_ap, fMatch_ap, fField_ap, fRecPut_ap, fPnil_ap, fPcons_ap, fRec_ap, fNever_ap, DL.le_ii, DL.lt_ii, DL.gt_ii, DL.ge_ii, DL.sub_ii, DL.add_ii, DL.neg_i, DL.eq_ii, DL.ne_ii, DL.len_l, DL.len_t, DL.int1_i, DL.max2_ii, DL.min2_ii, DL.tuple_l, DL.tuple_t, DL.list_l, DL.list_t, DL.revL_l, rev_l, DL.isN_n, DL.isN_t, DL.isN_i, DL.notN_n, DL.notN_t, DL.notN_i, DL.isInt_i, DL.isInt_b, DL.isInt_s, DL.isInt_n, DL.isInt_l, DL.isInt_t, DL.isInt_d, DL.isBool_i, DL.isBool_b, DL.isBool_s, DL.isBool_n, DL.isBool_l, DL.isBool_t, DL.isBool_d, DL.isStr_i, DL.isStr_b, DL.isStr_s, DL.isStr_n, DL.isStr_l, DL.isStr_t, DL.isStr_d, DL.isTup_i, DL.isTup_b, DL.isTup_s, DL.isTup_n, DL.isTup_l, DL.isTup_t, DL.isTup_d, DL.ix_t0, DL.ix_t1, DL.ix_t2, DL.ix_t3, DL.ix_t4, DL.ix_l0, DL.ix_l1, DL.ix_l2, Int.reduceLT, Int.reduceLE, Int.reduceNeg, Int.reduceAdd, Int.reduceSub, Int.reduceMul, Int.reduceToNat, Int.reduceBEq, Int.cast_ofNat_Int, g_great, e, e1]
  | 0, x :: gs, m, h, _, _ => by simp at h
  | n + 1, x :: gs, m, h, hm, hg => by
    obtain ⟨m, rfl⟩ : ∃ k, m = k + 1 := ⟨m - 1, by omega⟩
    have e := ne_nilI (ns := x :: gs)
    have e1 : decide (x :: gs = []) = false := rfl
    by_cases hx : x = 0
    · subst hx
      obtain ⟨hs, h1, h2, h3⟩ := draw_loop (x1 := x1) (x2 := x2) (x3 := x3) (s := s) (t := t) (r := r) n gs m (by simp at h; omega) (by omega) fun g hg' => hg g (List.mem_cons_of_mem _ hg')
      refine ⟨hs, h1, by simp; omega, ?_⟩
      rw [whileN_s]
      simp -implicitDefEqProofs only [c__law_draw_2_ap, l__law_draw_1_ap, ok_bind, bad_bind, ex_bind, ofO_some, ofO_none, okIf_t, choose_t, choose_f, asB_b, asI_i, asS_s, asL_l, asD_d, asOb_ob, asO_o, slotD_0, slotD_s, slotO_0, slotO_s, slotOb_0, slotOb_s, slotA_d, slotA_ob, slotA_r, slotA_sc, slotA_s, slotSc_0, slotSc_s, seqK_nx, seqK_rt, seqK_bk, seqK_ct, loopK_nx, loopK_rt, loopK_bk, loopK_ct, outS_nx, outS_rt, run_ap, gName_ap, gNil_nil, gCons_cons, gTup_t, fmNil_ap, fmStr_s, fmAny_ap, fmEv_t, noEx_ok, unz_ok, view_nil, view_cons, viewO_n, viewO_d, viewO_o, viewO_ob, viewO_r, viewO_s, wipeD_nil, wipeD_cons, List.set_cons_succ, List.set_cons_zero, List.set_nil, List.length_cons, List.length_nil, Nat.reduceAdd, Nat.reduceLeDiff, Nat.reduceEqDiff, Nat.reduceLT, decide_true, decide_false, Bool.not_true, Bool.not_false, Nat.zero_add, itemsAny_l, itemsAny_t, itemsAny_s, enumO_l, enumO_t, if_tt, if_ff, Option.bind_some, Bool.and_true, Bool.true_and, Bool.and_self, ↓reduceIte, fVar_ap, fC_ap, fBin_ap, fUn_ap, fChain_ap, fVal_ap, fbNot_ap, fbAnd_ap, fbOr_ap, fAnd_ap, fOr_ap, fNot_ap, fIf_ap, fNil_ap, fCons_ap, fTup_ap, fLst_ap, fFrz_ap, fCall_ap, fCallL_ap, fONone_ap, fOSome_ap, fSl_ap, fAnil_ap, fAd_ap, fAv_ap, fFn_ap, fFnOb_ap, fVarOb_ap, fSeq_ap, fNext_ap, fRet_ap, fRetN_ap, fRetOb_ap, fIfS_ap, fDrop_ap, fBrk_ap, fCnt_ap, fAsg_ap, fOwn_ap, fSetOb_ap, fFor_ap, fItems_ap, fScr_ap, fLenS_ap, fR1_ap, fR2_ap, fWhile_ap, fYes_ap, fComp_ap, fSetL_ap, fComp2_ap, fvD_ap, fvO_ap, fvB_ap, fSet_ap, fPar_ap, fView_ap, fbView_ap, flView_ap, fAppend_ap, fAppPop_ap, fRev_ap, fExt_ap, fFreeze_ap, fEnum_ap, fJoin_ap, fPut_ap, fListRange_ap, fMatch_ap, fField_ap, fRecPut_ap, fPnil_ap, fPcons_ap, fRec_ap, fNever_ap, DL.le_ii, DL.lt_ii, DL.gt_ii, DL.ge_ii, DL.sub_ii, DL.add_ii, DL.neg_i, DL.eq_ii, DL.ne_ii, DL.len_l, DL.len_t, DL.int1_i, DL.max2_ii, DL.min2_ii, DL.tuple_l, DL.tuple_t, DL.list_l, DL.list_t, DL.revL_l, rev_l, DL.isN_n, DL.isN_t, DL.isN_i, DL.notN_n, DL.notN_t, DL.notN_i, DL.isInt_i, DL.isInt_b, DL.isInt_s, DL.isInt_n, DL.isInt_l, DL.isInt_t, DL.isInt_d, DL.isBool_i, DL.isBool_b, DL.isBool_s, DL.isBool_n, DL.isBool_l, DL.isBool_t, DL.isBool_d, DL.isStr_i, DL.isStr_b, DL.isStr_s, DL.isStr_n, DL.isStr_l, DL.isStr_t, DL.isStr_d, DL.isTup_i, DL.isTup_b, DL.isTup_s, DL.isTup_n, DL.isTup_l, DL.isTup_t, DL.isTup_d, DL.ix_t0, DL.ix_t1, DL.ix_t2, DL.ix_t3, DL.ix_t4, DL.ix_l0, DL.ix_l1, DL.ix_l2, Int.reduceLT, Int.reduceLE, Int.reduceNeg, Int.reduceAdd, Int.reduceSub, Int.reduceMul, Int.reduceToNat, Int.reduceBEq, Int.cast_ofNat_Int, g_great, e, e1, ix_0, sl_1, p_great, beq_self_eq_true, h3]
    · have e2 : (x == 0) = false := beq_eq_false_iff_ne.mpr hx
      refine ⟨x :: gs, hg, Nat.le_refl _, ?_⟩
      rw [whileN_s]
      simp -implicitDefEqProofs only [c__law_draw_2_ap, ok_bind, bad_bind, ex_bind, ofO_some, ofO_none, okIf_t, choose_t, choose_f, asB_b, asI_i, asS_s, asL_l, asD_d, asOb_ob, asO_o, slotD_0, slotD_s, slotO_0, slotO_s, slotOb_0, slotOb_s, slotA_d, slotA_ob, slotA_r, slotA_sc, slotA_s, slotSc_0, slotSc_s, seqK_nx, seqK_rt, seqK_bk, seqK_ct, loopK_nx, loopK_rt, loopK_bk, loopK_ct, outS_nx, outS_rt, run_ap, gName_ap, gNil_nil, gCons_cons, gTup_t, fmNil_ap, fmStr_s, fmAny_ap, fmEv_t, noEx_ok, unz_ok, view_nil, view_cons, viewO_n, viewO_d, viewO_o, viewO_ob, viewO_r, viewO_s, wipeD_nil, wipeD_cons, List.set_cons_succ, List.set_cons_zero, List.set_nil, List.length_cons, List.length_nil, Nat.reduceAdd, Nat.reduceLeDiff, Nat.reduceEqDiff, Nat.reduceLT, decide_true, decide_false, Bool.not_true, Bool.not_false, Nat.zero_add, itemsAny_l, itemsAny_t, itemsAny_s, enumO_l, enumO_t, if_tt, if_ff, Option.bind_some, Bool.and_true, Bool.true_and, Bool.and_self, ↓reduceIte, fVar_ap, fC_ap, fBin_ap, fUn_ap, fChain_ap, fVal_ap, fbNot_ap, fbAnd_ap, fbOr_ap, fAnd_ap, fOr_ap, fNot_ap, fIf_ap, fNil_ap, fCons_ap, fTup_ap, fLst_ap, fFrz_ap, fCall_ap, fCallL_ap, fONone_ap, fOSome_ap, fSl_ap, fAnil_ap, fAd_ap, fAv_ap, fFn_ap, fFnOb_ap, fVarOb_ap, fSeq_ap, fNext_ap, fRet_ap, fRetN_ap, fRetOb_ap, fIfS_ap, fDrop_ap, fBrk_ap, fCnt_ap, fAsg_ap, fOwn_ap, fSetOb_ap, fFor_ap, fItems_ap, fScr_ap, fLenS_ap, fR1_ap, fR2_ap, fWhile_ap, fYes_ap, fComp_ap, fSetL_ap, fComp2_ap, fvD_ap, fvO_ap, fvB_ap, fSet_ap, fPar_ap, fView_ap, fbView_ap, flView_ap, fAppend_ap, fAppPop_ap, fRev_ap, fExt_ap, fFreeze_ap, fEnum_ap, fJoin_ap, fPut_ap, fListRange_ap, fMatch_ap, fField_ap, fRecPut_ap, fPnil_ap, fPcons_ap, fRec_ap, fNever_ap, DL.le_ii, DL.lt_ii, DL.gt_ii, DL.ge_ii, DL.sub_ii, DL.add_ii, DL.neg_i, DL.eq_ii, DL.ne_ii, DL.len_l, DL.len_t, DL.int1_i, DL.max2_ii, DL.min2_ii, DL.tuple_l, DL.tuple_t, DL.list_l, DL.list_t, DL.revL_l, rev_l, DL.isN_n, DL.isN_t, DL.isN_i, DL.notN_n, DL.notN_t, DL.notN_i, DL.isInt_i, DL.isInt_b, DL.isInt_s, DL.isInt_n, DL.isInt_l, DL.isInt_t, DL.isInt_d, DL.isBool_i, DL.isBool_b, DL.isBool_s, DL.isBool_n, DL.isBool_l, DL.isBool_t, DL.isBool_d, DL.isStr_i, DL.isStr_b, DL.isStr_s, DL.isStr_n, DL.isStr_l, DL.isStr_t, DL.isStr_d, DL.isTup_i, DL.isTup_b, DL.isTup_s, DL.isTup_n, DL.isTup_l, DL.isTup_t, DL.isTup_d, DL.ix_t0, DL.ix_t1, DL.ix_t2, DL.ix_t3, DL.ix_t4, DL.ix_l0, DL.ix_l1, DL.ix_l2, Int.reduceLT, Int.reduceLE, Int.reduceNeg, Int.reduceAdd, Int.reduceSub, Int.reduceMul, Int.reduceToNat, Int.reduceBEq, Int.cast_ofNat_Int, g_great, e, e1, ix_0, e2]
theorem v__law_draw {n : Nat} {r z : Z} {L : Int} (m : Mz n r z) (h0 : 0 < L) (h1 : L < 1073741824) (hn : n < 1000000000) : ∃ (v : Int) (z' : Z), F__law_draw [.ob 0, .d (.int L)] z = .ok (.d (.int v)) z' ∧ 0 ≤ v ∧ v < L ∧ Mz (n + 1) r z' := by
  obtain ⟨gs, s, t, rfl, hg, hl, hs, ht0, ht1⟩ := m
  obtain ⟨hs', hg', hl', hw⟩ := draw_loop (x1 := some (.d (.int L))) (x2 := none) (x3 := none) (s := s) (t := t) (r := r) gs.length gs 1000000 (Nat.le_refl _) (by omega) hg
  rw [F__law_draw_eq]
  simp -implicitDefEqProofs only [b__law_draw_ap, ok_bind, bad_bind, ex_bind, ofO_some, ofO_none, okIf_t, choose_t, choose_f, asB_b, asI_i, asS_s, asL_l, asD_d, asOb_ob, asO_o, slotD_0, slotD_s, slotO_0, slotO_s, slotOb_0, slotOb_s, slotA_d, slotA_ob, slotA_r, slotA_sc, slotA_s, slotSc_0, slotSc_s, seqK_nx, seqK_rt, seqK_bk, seqK_ct, loopK_nx, loopK_rt, loopK_bk, loopK_ct, outS_nx, outS_rt, run_ap, gName_ap, gNil_nil, gCons_cons, gTup_t, fmNil_ap, fmStr_s, fmAny_ap, fmEv_t, noEx_ok, unz_ok, view_nil, view_cons, viewO_n, viewO_d, viewO_o, viewO_ob, viewO_r, viewO_s, wipeD_nil, wipeD_cons, List.set_cons_succ, List.set_cons_zero, List.set_nil, List.length_cons, List.length_nil, Nat.reduceAdd, Nat.reduceLeDiff, Nat.reduceEqDiff, Nat.reduceLT, decide_true, decide_false, Bool.not_true, Bool.not_false, Nat.zero_add, itemsAny_l, itemsAny_t, itemsAny_s, enumO_l, enumO_t, if_tt, if_ff, Option.bind_some, Bool.and_true, Bool.true_and, Bool.and_self, ↓reduceIte, fVar_ap, fC_ap, fBin_ap, fUn_ap, fChain_ap, fVal_ap, fbNot_ap, fbAnd_ap, fbOr_ap, fAnd_ap, fOr_ap, fNot_ap, fIf_ap, fNil_ap, fCons_ap, fTup_ap, fLst_ap, fFrz_ap, fCall_ap, fCallL_ap, fONone_ap, fOSome_ap, fSl_ap, fAnil_ap, fAd_ap, fAv_ap, fFn_ap, fFnOb_ap, fVarOb_ap, fSeq_ap, fNext_ap, fRet_ap, fRetN_ap, fRetOb_ap, fIfS_ap, fDrop_ap, fBrk_ap, fCnt_ap, fAsg_ap, fOwn_ap, fSetOb_ap, fFor_ap, fItems_ap, fScr_ap, fLenS_ap, fR1_ap, fR2_ap, fWhile_ap, fYes_ap, fComp_ap, fSetL_ap, fComp2_ap, fvD_ap, fvO_ap, fvB_ap, fSet_ap, fPar_ap, fView_ap, fbView_ap, flView_ap, fAppend_ap, fAppPop_ap, fRev_ap, fExt_ap, fFreeze_ap, fEnum_ap, fJoin_ap, fPut_ap, fListRange_ap, fMatch_ap, fField_ap, fRecPut_ap, fPnil_ap, fPcons_ap, fRec_ap, fNever_ap, DL.le_ii, DL.lt_ii, DL.gt_ii, DL.ge_ii, DL.sub_ii, DL.add_ii, DL.neg_i, DL.eq_ii, DL.ne_ii, DL.len_l, DL.len_t, DL.int1_i, DL.max2_ii, DL.min2_ii, DL.tuple_l, DL.tuple_t, DL.list_l, DL.list_t, DL.revL_l, rev_l, DL.isN_n, DL.isN_t, DL.isN_i, DL.notN_n, DL.notN_t, DL.notN_i, DL.isInt_i, DL.isInt_b, DL.isInt_s, DL.isInt_n, DL.isInt_l, DL.isInt_t, DL.isInt_d, DL.isBool_i, DL.isBool_b, DL.isBool_s, DL.isBool_n, DL.isBool_l, DL.isBool_t, DL.isBool_d, DL.isStr_i, DL.isStr_b, DL.isStr_s, DL.isStr_n, DL.isStr_l, DL.isStr_t, DL.isStr_d, DL.isTup_i, DL.isTup_b, DL.isTup_s, DL.isTup_n, DL.isTup_l, DL.isTup_t, DL.isTup_d, DL.ix_t0, DL.ix_t1, DL.ix_t2, DL.ix_t3, DL.ix_t4, DL.ix_l0, DL.ix_l1, DL.ix_l2, Int.reduceLT, Int.reduceLE, Int.reduceNeg, Int.reduceAdd, Int.reduceSub, Int.reduceMul, Int.reduceToNat, Int.reduceBEq, Int.cast_ofNat_Int, hw, g_great]
  cases hs' with
  | nil =>
    have e := ne_nilI (ns := [])
    have e1 : decide (([] : List Int) = []) = true := rfl
    have m1 : mulD (.int s) (.int 48271) = some (.int (s * 48271)) := mul_r (by omega)
    have m2 : mulD (.int (t + 1)) (.int (t + 1)) = some (.int ((t + 1) * (t + 1))) := mul_l (by omega)
    have m3 : ∀ i : Int, mulD (.int i) (.int 16807) = some (.int (i * 16807)) := fun i => mul_r (by omega)
    have m4 : ∀ i : Int, mulD (.int i) (.int 69621) = some (.int (i * 69621)) := fun i => mul_r (by omega)
    have m5 : ∀ i : Int, mulD (.int i) (.int 40014) = some (.int (i * 40014)) := fun i => mul_r (by omega)
    have d1 : ∀ i : Int, modD (.int i) (.int 2147483647) = some (.int (i % 2147483647)) := fun i => DL.mod_ii (by decide)
    have d2 : ∀ i : Int, modD (.int i) (.int 2147483629) = some (.int (i % 2147483629)) := fun i => DL.mod_ii (by decide)
    have d3 : ∀ i : Int, modD (.int i) (.int 2147483563) = some (.int (i % 2147483563)) := fun i => DL.mod_ii (by decide)
    have d4 : ∀ i : Int, fdivD (.int i) (.int 64) = some (.int (i / 64)) := fun i => DL.fdiv_ii (by decide) (by decide)
    have d5 : ∀ i : Int, modD (.int i) (.int L) = some (.int (i % L)) := fun i => DL.mod_ii h0
    simp -implicitDefEqProofs only [ok_bind, bad_bind, ex_bind, ofO_some, ofO_none, okIf_t, choose_t, choose_f, asB_b, asI_i, asS_s, asL_l, asD_d, asOb_ob, asO_o, slotD_0, slotD_s, slotO_0, slotO_s, slotOb_0, slotOb_s, slotA_d, slotA_ob, slotA_r, slotA_sc, slotA_s, slotSc_0, slotSc_s, seqK_nx, seqK_rt, seqK_bk, seqK_ct, loopK_nx, loopK_rt, loopK_bk, loopK_ct, outS_nx, outS_rt, run_ap, gName_ap, gNil_nil, gCons_cons, gTup_t, fmNil_ap, fmStr_s, fmAny_ap, fmEv_t, noEx_ok, unz_ok, view_nil, view_cons, viewO_n, viewO_d, viewO_o, viewO_ob, viewO_r, viewO_s, wipeD_nil, wipeD_cons, List.set_cons_succ, List.set_cons_zero, List.set_nil, List.length_cons, List.length_nil, Nat.reduceAdd, Nat.reduceLeDiff, Nat.reduceEqDiff, Nat.reduceLT, decide_true, decide_false, Bool.not_true, Bool.not_false, Nat.zero_add, itemsAny_l, itemsAny_t, itemsAny_s, enumO_l, enumO_t, if_tt, if_ff, Option.bind_some, Bool.and_true, Bool.true_and, Bool.and_self, ↓reduceIte, fVar_ap, fC_ap, fBin_ap, fUn_ap, fChain_ap, fVal_ap, fbNot_ap, fbAnd_ap, fbOr_ap, fAnd_ap, fOr_ap, fNot_ap, fIf_ap, fNil_ap, fCons_ap, fTup_ap, fLst_ap, fFrz_ap, fCall_ap, fCallL_ap, fONone_ap, fOSome_ap, fSl_ap, fAnil_ap, fAd_ap, fAv_ap, fFn_ap, fFnOb_ap, fVarOb_ap, fSeq_ap, fNext_ap, fRet_ap, fRetN_ap, fRetOb_ap, fIfS_ap, fDrop_ap, fBrk_ap, fCnt_ap, fAsg_ap, fOwn_ap, fSetOb_ap, fFor_ap, fItems_ap, fScr_ap, fLenS_ap, fR1_ap, fR2_ap, fWhile_ap, fYes_ap, fComp_ap, fSetL_ap, fComp2_ap, fvD_ap, fvO_ap, fvB_ap, fSet_ap, fPar_ap, fView_ap, fbView_ap, flView_ap, fAppend_ap, fAppPop_ap, fRev_ap, fExt_ap, fFreeze_ap, fEnum_ap, fJoin_ap, fPut_ap, fListRange_ap, fMatch_ap, fField_ap, fRecPut_ap, fPnil_ap, fPcons_ap, fRec_ap, fNever_ap, DL.le_ii, DL.lt_ii, DL.gt_ii, DL.ge_ii, DL.sub_ii, DL.add_ii, DL.neg_i, DL.eq_ii, DL.ne_ii, DL.len_l, DL.len_t, DL.int1_i, DL.max2_ii, DL.min2_ii, DL.tuple_l, DL.tuple_t, DL.list_l, DL.list_t, DL.revL_l, rev_l, DL.isN_n, DL.isN_t, DL.isN_i, DL.notN_n, DL.notN_t, DL.notN_i, DL.isInt_i, DL.isInt_b, DL.isInt_s, DL.isInt_n, DL.isInt_l, DL.isInt_t, DL.isInt_d, DL.isBool_i, DL.isBool_b, DL.isBool_s, DL.isBool_n, DL.isBool_l, DL.isBool_t, DL.isBool_d, DL.isStr_i, DL.isStr_b, DL.isStr_s, DL.isStr_n, DL.isStr_l, DL.isStr_t, DL.isStr_d, DL.isTup_i, DL.isTup_b, DL.isTup_s, DL.isTup_n, DL.isTup_l, DL.isTup_t, DL.isTup_d, DL.ix_t0, DL.ix_t1, DL.ix_t2, DL.ix_t3, DL.ix_t4, DL.ix_l0, DL.ix_l1, DL.ix_l2, Int.reduceLT, Int.reduceLE, Int.reduceNeg, Int.reduceAdd, Int.reduceSub, Int.reduceMul, Int.reduceToNat, Int.reduceBEq, Int.cast_ofNat_Int, e, e1, g_turns, g_seed, p_turns, m1, m2, m3, m4, m5, d1, d2, d3, d4, d5]
    exact ⟨_, _, rfl, Int.emod_nonneg _ (by omega), Int.emod_lt_of_pos _ h0, ⟨[], s, t + 1, rfl, by simp, by simp, hs, by omega, by omega⟩⟩
  | cons x hs' =>
    have e := ne_nilI (ns := x :: hs')
    have e1 : decide (x :: hs' = []) = false := rfl
    have hx := hg' x (by simp)
    have f1 : fdivD (.int x) (.int L) = some (.int (x / L)) := DL.fdiv_ii h0 (by omega)
    have f2 : modD (.int x) (.int L) = some (.int (x % L)) := DL.mod_ii h0
    have f3 : addD (.list [.int (x / L)]) (.list (hs'.map .int)) = some (.list (((x / L) :: hs').map .int)) := by
      rw [DL.add_ll (by simp at hl' ⊢; omega)]; rfl
    simp -implicitDefEqProofs only [ok_bind, bad_bind, ex_bind, ofO_some, ofO_none, okIf_t, choose_t, choose_f, asB_b, asI_i, asS_s, asL_l, asD_d, asOb_ob, asO_o, slotD_0, slotD_s, slotO_0, slotO_s, slotOb_0, slotOb_s, slotA_d, slotA_ob, slotA_r, slotA_sc, slotA_s, slotSc_0, slotSc_s, seqK_nx, seqK_rt, seqK_bk, seqK_ct, loopK_nx, loopK_rt, loopK_bk, loopK_ct, outS_nx, outS_rt, run_ap, gName_ap, gNil_nil, gCons_cons, gTup_t, fmNil_ap, fmStr_s, fmAny_ap, fmEv_t, noEx_ok, unz_ok, view_nil, view_cons, viewO_n, viewO_d, viewO_o, viewO_ob, viewO_r, viewO_s, wipeD_nil, wipeD_cons, List.set_cons_succ, List.set_cons_zero, List.set_nil, List.length_cons, List.length_nil, Nat.reduceAdd, Nat.reduceLeDiff, Nat.reduceEqDiff, Nat.reduceLT, decide_true, decide_false, Bool.not_true, Bool.not_false, Nat.zero_add, itemsAny_l, itemsAny_t, itemsAny_s, enumO_l, enumO_t, if_tt, if_ff, Option.bind_some, Bool.and_true, Bool.true_and, Bool.and_self, ↓reduceIte, fVar_ap, fC_ap, fBin_ap, fUn_ap, fChain_ap, fVal_ap, fbNot_ap, fbAnd_ap, fbOr_ap, fAnd_ap, fOr_ap, fNot_ap, fIf_ap, fNil_ap, fCons_ap, fTup_ap, fLst_ap, fFrz_ap, fCall_ap, fCallL_ap, fONone_ap, fOSome_ap, fSl_ap, fAnil_ap, fAd_ap, fAv_ap, fFn_ap, fFnOb_ap, fVarOb_ap, fSeq_ap, fNext_ap, fRet_ap, fRetN_ap, fRetOb_ap, fIfS_ap, fDrop_ap, fBrk_ap, fCnt_ap, fAsg_ap, fOwn_ap, fSetOb_ap, fFor_ap, fItems_ap, fScr_ap, fLenS_ap, fR1_ap, fR2_ap, fWhile_ap, fYes_ap, fComp_ap, fSetL_ap, fComp2_ap, fvD_ap, fvO_ap, fvB_ap, fSet_ap, fPar_ap, fView_ap, fbView_ap, flView_ap, fAppend_ap, fAppPop_ap, fRev_ap, fExt_ap, fFreeze_ap, fEnum_ap, fJoin_ap, fPut_ap, fListRange_ap, fMatch_ap, fField_ap, fRecPut_ap, fPnil_ap, fPcons_ap, fRec_ap, fNever_ap, DL.le_ii, DL.lt_ii, DL.gt_ii, DL.ge_ii, DL.sub_ii, DL.add_ii, DL.neg_i, DL.eq_ii, DL.ne_ii, DL.len_l, DL.len_t, DL.int1_i, DL.max2_ii, DL.min2_ii, DL.tuple_l, DL.tuple_t, DL.list_l, DL.list_t, DL.revL_l, rev_l, DL.isN_n, DL.isN_t, DL.isN_i, DL.notN_n, DL.notN_t, DL.notN_i, DL.isInt_i, DL.isInt_b, DL.isInt_s, DL.isInt_n, DL.isInt_l, DL.isInt_t, DL.isInt_d, DL.isBool_i, DL.isBool_b, DL.isBool_s, DL.isBool_n, DL.isBool_l, DL.isBool_t, DL.isBool_d, DL.isStr_i, DL.isStr_b, DL.isStr_s, DL.isStr_n, DL.isStr_l, DL.isStr_t, DL.isStr_d, DL.isTup_i, DL.isTup_b, DL.isTup_s, DL.isTup_n, DL.isTup_l, DL.isTup_t, DL.isTup_d, DL.ix_t0, DL.ix_t1, DL.ix_t2, DL.ix_t3, DL.ix_t4, DL.ix_l0, DL.ix_l1, DL.ix_l2, Int.reduceLT, Int.reduceLE, Int.reduceNeg, Int.reduceAdd, Int.reduceSub, Int.reduceMul, Int.reduceToNat, Int.reduceBEq, Int.cast_ofNat_Int, e, e1, ix_0, sl_1, f1, f2, f3, g_great, p_great]
    refine ⟨_, _, rfl, Int.emod_nonneg _ (by omega), Int.emod_lt_of_pos _ h0, ⟨(x / L) :: hs', s, t, rfl, fun g hg2 => ?_, by simp at hl' ⊢; omega, hs, ht0, by omega⟩⟩
    rcases List.mem_cons.mp hg2 with rfl | h
    · exact Int.ediv_nonneg hx (by omega)
    · exact hg' g (List.mem_cons_of_mem _ h)
noncomputable def e__law_rows_1 : FX := (fTup (fCons (fTup (fCons (fVar 1) fNil)) (fCons (fVar 4) (fCons (fC (.int 1)) (fCons (fIf (fVal (fBin DL.eqD (fVar 4) (fC (.str "swing")))) (fTup (fCons (fVar 1) (fCons (fVar 1) fNil))) (fTup (fCons (fVar 1) fNil))) fNil)))))
theorem e__law_rows_1_ap {ρ : Sl} {z : Z} : e__law_rows_1 ρ z = (fTup (fCons (fTup (fCons (fVar 1) fNil)) (fCons (fVar 4) (fCons (fC (.int 1)) (fCons (fIf (fVal (fBin DL.eqD (fVar 4) (fC (.str "swing")))) (fTup (fCons (fVar 1) (fCons (fVar 1) fNil))) (fTup (fCons (fVar 1) fNil))) fNil))))) ρ z := rfl
noncomputable def b__law_rows : FS := (fSeq (fSetL 3 (fComp (fItems (fC (.tuple [(.str "up"), (.str "down"), (.str "bounce"), (.str "swing"), (.str "outside"), (.str "played")]))) (gName 4) fYes e__law_rows_1 [4])) (fSeq (fSet 3 (fvD (fBin DL.addD (fVar 3) (fFrz (fLst (fCons (fTup (fCons (fTup (fCons (fVar 1) fNil)) (fCons (fC (.str "up")) (fCons (fC (.int 3)) (fCons (fTup (fCons (fVar 1) (fCons (fBin DL.addD (fVar 1) (fC (.int 12))) (fCons (fBin DL.addD (fVar 1) (fC (.int 24))) fNil)))) fNil))))) (fCons (fTup (fCons (fTup (fCons (fVar 1) fNil)) (fCons (fC (.str "down")) (fCons (fC (.int 2)) (fCons (fTup (fCons (fBin DL.addD (fVar 1) (fC (.int 12))) (fCons (fVar 1) fNil))) fNil))))) fNil))))))) (fSeq (fSet 3 (fvD (fBin DL.addD (fVar 3) (fFrz (fLst (fCons (fTup (fCons (fTup (fCons (fVar 1) fNil)) (fCons (fC (.str "bounce")) (fCons (fC (.int 2)) (fCons (fTup (fCons (fVar 1) (fCons (fBin DL.addD (fVar 1) (fC (.int 12))) fNil))) fNil))))) (fCons (fTup (fCons (fTup (fCons (fVar 1) fNil)) (fCons (fC (.str "bounce")) (fCons (fC (.int 3)) (fCons (fTup (fCons (fVar 1) (fCons (fBin DL.addD (fVar 1) (fC (.int 12))) (fCons (fBin DL.addD (fVar 1) (fC (.int 24))) (fCons (fBin DL.addD (fVar 1) (fC (.int 12))) fNil))))) fNil))))) fNil))))))) (fSeq (fSet 3 (fvD (fBin DL.addD (fVar 3) (fFrz (fLst (fCons (fTup (fCons (fTup (fCons (fVar 1) fNil)) (fCons (fC (.str "swing")) (fCons (fC (.int 2)) (fCons (fTup (fCons (fVar 1) (fCons (fBin DL.addD (fVar 1) (fC (.int 12))) (fCons (fBin DL.addD (fVar 1) (fC (.int 12))) (fCons (fVar 1) fNil))))) fNil))))) (fCons (fTup (fCons (fTup (fCons (fVar 1) fNil)) (fCons (fC (.str "outside")) (fCons (fC (.int 3)) (fCons (fTup (fCons (fVar 1) (fCons (fBin DL.addD (fVar 1) (fC (.int 24))) (fCons (fBin DL.addD (fVar 1) (fC (.int 12))) fNil)))) fNil))))) fNil))))))) (fSeq (fSet 3 (fvD (fBin DL.addD (fVar 3) (fFrz (fLst (fCons (fTup (fCons (fTup (fCons (fVar 2) (fCons (fVar 0) fNil))) (fCons (fC (.str "up")) (fCons (fC (.int 1)) (fCons (fTup (fCons (fVar 0) (fCons (fVar 2) fNil))) fNil))))) (fCons (fTup (fCons (fTup (fCons (fVar 2) (fCons (fVar 0) fNil))) (fCons (fC (.str "down")) (fCons (fC (.int 1)) (fCons (fTup (fCons (fVar 2) (fCons (fVar 0) fNil))) fNil))))) (fCons (fTup (fCons (fTup (fCons (fVar 2) (fCons (fVar 0) fNil))) (fCons (fC (.str "played")) (fCons (fC (.int 1)) (fCons (fTup (fCons (fVar 2) (fCons (fVar 0) fNil))) fNil))))) fNil)))))))) (fSeq (fSet 3 (fvD (fBin DL.addD (fVar 3) (fFrz (fLst (fCons (fTup (fCons (fTup (fCons (fVar 2) (fCons (fVar 0) fNil))) (fCons (fC (.str "bounce")) (fCons (fC (.int 1)) (fCons (fTup (fCons (fVar 0) (fCons (fVar 2) fNil))) fNil))))) (fCons (fTup (fCons (fTup (fCons (fVar 2) (fCons (fVar 0) fNil))) (fCons (fC (.str "swing")) (fCons (fC (.int 1)) (fCons (fTup (fCons (fVar 0) (fCons (fVar 2) (fCons (fVar 2) (fCons (fVar 0) fNil))))) fNil))))) (fCons (fTup (fCons (fTup (fCons (fVar 2) (fCons (fVar 0) fNil))) (fCons (fC (.str "outside")) (fCons (fC (.int 1)) (fCons (fTup (fCons (fVar 0) (fCons (fVar 2) fNil))) fNil))))) fNil)))))))) (fSeq (fSet 3 (fvD (fBin DL.addD (fVar 3) (fFrz (fLst (fCons (fTup (fCons (fTup (fCons (fVar 2) (fCons (fVar 0) fNil))) (fCons (fC (.str "played")) (fCons (fC (.int 2)) (fCons (fTup (fCons (fVar 2) (fCons (fVar 0) (fCons (fBin DL.addD (fVar 2) (fC (.int 12))) (fCons (fBin DL.addD (fVar 0) (fC (.int 12))) fNil))))) fNil))))) (fCons (fTup (fCons (fTup (fCons (fVar 2) (fCons (fVar 0) fNil))) (fCons (fC (.str "outside")) (fCons (fC (.int 2)) (fCons (fTup (fCons (fVar 0) (fCons (fBin DL.addD (fVar 2) (fC (.int 12))) (fCons (fVar 2) (fCons (fBin DL.addD (fVar 0) (fC (.int 12))) fNil))))) fNil))))) fNil))))))) (fSeq (fSet 3 (fvD (fBin DL.addD (fVar 3) (fFrz (fLst (fCons (fTup (fCons (fTup (fCons (fVar 1) (fCons (fVar 2) (fCons (fVar 0) fNil)))) (fCons (fC (.str "up")) (fCons (fC (.int 1)) (fCons (fTup (fCons (fVar 0) (fCons (fVar 1) (fCons (fVar 2) fNil)))) fNil))))) (fCons (fTup (fCons (fTup (fCons (fVar 1) (fCons (fVar 2) (fCons (fVar 0) fNil)))) (fCons (fC (.str "down")) (fCons (fC (.int 1)) (fCons (fTup (fCons (fVar 2) (fCons (fVar 1) (fCons (fVar 0) fNil)))) fNil))))) fNil))))))) (fSeq (fSet 3 (fvD (fBin DL.addD (fVar 3) (fFrz (fLst (fCons (fTup (fCons (fTup (fCons (fVar 1) (fCons (fVar 2) (fCons (fVar 0) fNil)))) (fCons (fC (.str "bounce")) (fCons (fC (.int 1)) (fCons (fTup (fCons (fVar 0) (fCons (fVar 1) (fCons (fVar 2) (fCons (fVar 1) fNil))))) fNil))))) (fCons (fTup (fCons (fTup (fCons (fVar 1) (fCons (fVar 2) (fCons (fVar 0) fNil)))) (fCons (fC (.str "swing")) (fCons (fC (.int 1)) (fCons (fTup (fCons (fVar 0) (fCons (fVar 1) (fCons (fVar 2) (fCons (fVar 2) (fCons (fVar 1) (fCons (fVar 0) fNil))))))) fNil))))) fNil))))))) (fSeq (fSet 3 (fvD (fBin DL.addD (fVar 3) (fFrz (fLst (fCons (fTup (fCons (fTup (fCons (fVar 1) (fCons (fVar 2) (fCons (fVar 0) fNil)))) (fCons (fC (.str "outside")) (fCons (fC (.int 1)) (fCons (fTup (fCons (fVar 0) (fCons (fVar 2) (fCons (fVar 1) fNil)))) fNil))))) (fCons (fTup (fCons (fTup (fCons (fVar 1) (fCons (fVar 2) (fCons (fVar 0) fNil)))) (fCons (fC (.str "played")) (fCons (fC (.int 1)) (fCons (fTup (fCons (fVar 1) (fCons (fVar 2) (fCons (fVar 0) fNil)))) fNil))))) fNil))))))) (fSeq (fSet 5 (fvD (fTup (fCons (fVar 0) (fCons (fVar 1) (fCons (fVar 2) (fCons (fBin DL.addD (fVar 0) (fC (.int 12))) (fCons (fBin DL.addD (fVar 1) (fC (.int 12))) (fCons (fBin DL.addD (fVar 2) (fC (.int 12))) (fCons (fBin DL.addD (fVar 1) (fC (.int 12))) (fCons (fBin DL.addD (fVar 0) (fC (.int 12))) (fCons (fVar 2) (fCons (fVar 1) fNil))))))))))))) (fRet (fBin DL.addD (fVar 3) (fFrz (fLst (fCons (fTup (fCons (fTup (fCons (fVar 1) (fCons (fVar 2) (fCons (fVar 0) fNil)))) (fCons (fC (.str "bounce")) (fCons (fC (.int 2)) (fCons (fVar 5) fNil))))) (fCons (fTup (fCons (fTup (fCons (fVar 2) (fCons (fVar 1) (fCons (fVar 0) fNil)))) (fCons (fC (.str "bounce")) (fCons (fC (.int 2)) (fCons (fVar 5) fNil))))) fNil)))))))))))))))))
theorem b__law_rows_ap {ρ : Sl} {z : Z} : b__law_rows ρ z = (fSeq (fSetL 3 (fComp (fItems (fC (.tuple [(.str "up"), (.str "down"), (.str "bounce"), (.str "swing"), (.str "outside"), (.str "played")]))) (gName 4) fYes e__law_rows_1 [4])) (fSeq (fSet 3 (fvD (fBin DL.addD (fVar 3) (fFrz (fLst (fCons (fTup (fCons (fTup (fCons (fVar 1) fNil)) (fCons (fC (.str "up")) (fCons (fC (.int 3)) (fCons (fTup (fCons (fVar 1) (fCons (fBin DL.addD (fVar 1) (fC (.int 12))) (fCons (fBin DL.addD (fVar 1) (fC (.int 24))) fNil)))) fNil))))) (fCons (fTup (fCons (fTup (fCons (fVar 1) fNil)) (fCons (fC (.str "down")) (fCons (fC (.int 2)) (fCons (fTup (fCons (fBin DL.addD (fVar 1) (fC (.int 12))) (fCons (fVar 1) fNil))) fNil))))) fNil))))))) (fSeq (fSet 3 (fvD (fBin DL.addD (fVar 3) (fFrz (fLst (fCons (fTup (fCons (fTup (fCons (fVar 1) fNil)) (fCons (fC (.str "bounce")) (fCons (fC (.int 2)) (fCons (fTup (fCons (fVar 1) (fCons (fBin DL.addD (fVar 1) (fC (.int 12))) fNil))) fNil))))) (fCons (fTup (fCons (fTup (fCons (fVar 1) fNil)) (fCons (fC (.str "bounce")) (fCons (fC (.int 3)) (fCons (fTup (fCons (fVar 1) (fCons (fBin DL.addD (fVar 1) (fC (.int 12))) (fCons (fBin DL.addD (fVar 1) (fC (.int 24))) (fCons (fBin DL.addD (fVar 1) (fC (.int 12))) fNil))))) fNil))))) fNil))))))) (fSeq (fSet 3 (fvD (fBin DL.addD (fVar 3) (fFrz (fLst (fCons (fTup (fCons (fTup (fCons (fVar 1) fNil)) (fCons (fC (.str "swing")) (fCons (fC (.int 2)) (fCons (fTup (fCons (fVar 1) (fCons (fBin DL.addD (fVar 1) (fC (.int 12))) (fCons (fBin DL.addD (fVar 1) (fC (.int 12))) (fCons (fVar 1) fNil))))) fNil))))) (fCons (fTup (fCons (fTup (fCons (fVar 1) fNil)) (fCons (fC (.str "outside")) (fCons (fC (.int 3)) (fCons (fTup (fCons (fVar 1) (fCons (fBin DL.addD (fVar 1) (fC (.int 24))) (fCons (fBin DL.addD (fVar 1) (fC (.int 12))) fNil)))) fNil))))) fNil))))))) (fSeq (fSet 3 (fvD (fBin DL.addD (fVar 3) (fFrz (fLst (fCons (fTup (fCons (fTup (fCons (fVar 2) (fCons (fVar 0) fNil))) (fCons (fC (.str "up")) (fCons (fC (.int 1)) (fCons (fTup (fCons (fVar 0) (fCons (fVar 2) fNil))) fNil))))) (fCons (fTup (fCons (fTup (fCons (fVar 2) (fCons (fVar 0) fNil))) (fCons (fC (.str "down")) (fCons (fC (.int 1)) (fCons (fTup (fCons (fVar 2) (fCons (fVar 0) fNil))) fNil))))) (fCons (fTup (fCons (fTup (fCons (fVar 2) (fCons (fVar 0) fNil))) (fCons (fC (.str "played")) (fCons (fC (.int 1)) (fCons (fTup (fCons (fVar 2) (fCons (fVar 0) fNil))) fNil))))) fNil)))))))) (fSeq (fSet 3 (fvD (fBin DL.addD (fVar 3) (fFrz (fLst (fCons (fTup (fCons (fTup (fCons (fVar 2) (fCons (fVar 0) fNil))) (fCons (fC (.str "bounce")) (fCons (fC (.int 1)) (fCons (fTup (fCons (fVar 0) (fCons (fVar 2) fNil))) fNil))))) (fCons (fTup (fCons (fTup (fCons (fVar 2) (fCons (fVar 0) fNil))) (fCons (fC (.str "swing")) (fCons (fC (.int 1)) (fCons (fTup (fCons (fVar 0) (fCons (fVar 2) (fCons (fVar 2) (fCons (fVar 0) fNil))))) fNil))))) (fCons (fTup (fCons (fTup (fCons (fVar 2) (fCons (fVar 0) fNil))) (fCons (fC (.str "outside")) (fCons (fC (.int 1)) (fCons (fTup (fCons (fVar 0) (fCons (fVar 2) fNil))) fNil))))) fNil)))))))) (fSeq (fSet 3 (fvD (fBin DL.addD (fVar 3) (fFrz (fLst (fCons (fTup (fCons (fTup (fCons (fVar 2) (fCons (fVar 0) fNil))) (fCons (fC (.str "played")) (fCons (fC (.int 2)) (fCons (fTup (fCons (fVar 2) (fCons (fVar 0) (fCons (fBin DL.addD (fVar 2) (fC (.int 12))) (fCons (fBin DL.addD (fVar 0) (fC (.int 12))) fNil))))) fNil))))) (fCons (fTup (fCons (fTup (fCons (fVar 2) (fCons (fVar 0) fNil))) (fCons (fC (.str "outside")) (fCons (fC (.int 2)) (fCons (fTup (fCons (fVar 0) (fCons (fBin DL.addD (fVar 2) (fC (.int 12))) (fCons (fVar 2) (fCons (fBin DL.addD (fVar 0) (fC (.int 12))) fNil))))) fNil))))) fNil))))))) (fSeq (fSet 3 (fvD (fBin DL.addD (fVar 3) (fFrz (fLst (fCons (fTup (fCons (fTup (fCons (fVar 1) (fCons (fVar 2) (fCons (fVar 0) fNil)))) (fCons (fC (.str "up")) (fCons (fC (.int 1)) (fCons (fTup (fCons (fVar 0) (fCons (fVar 1) (fCons (fVar 2) fNil)))) fNil))))) (fCons (fTup (fCons (fTup (fCons (fVar 1) (fCons (fVar 2) (fCons (fVar 0) fNil)))) (fCons (fC (.str "down")) (fCons (fC (.int 1)) (fCons (fTup (fCons (fVar 2) (fCons (fVar 1) (fCons (fVar 0) fNil)))) fNil))))) fNil))))))) (fSeq (fSet 3 (fvD (fBin DL.addD (fVar 3) (fFrz (fLst (fCons (fTup (fCons (fTup (fCons (fVar 1) (fCons (fVar 2) (fCons (fVar 0) fNil)))) (fCons (fC (.str "bounce")) (fCons (fC (.int 1)) (fCons (fTup (fCons (fVar 0) (fCons (fVar 1) (fCons (fVar 2) (fCons (fVar 1) fNil))))) fNil))))) (fCons (fTup (fCons (fTup (fCons (fVar 1) (fCons (fVar 2) (fCons (fVar 0) fNil)))) (fCons (fC (.str "swing")) (fCons (fC (.int 1)) (fCons (fTup (fCons (fVar 0) (fCons (fVar 1) (fCons (fVar 2) (fCons (fVar 2) (fCons (fVar 1) (fCons (fVar 0) fNil))))))) fNil))))) fNil))))))) (fSeq (fSet 3 (fvD (fBin DL.addD (fVar 3) (fFrz (fLst (fCons (fTup (fCons (fTup (fCons (fVar 1) (fCons (fVar 2) (fCons (fVar 0) fNil)))) (fCons (fC (.str "outside")) (fCons (fC (.int 1)) (fCons (fTup (fCons (fVar 0) (fCons (fVar 2) (fCons (fVar 1) fNil)))) fNil))))) (fCons (fTup (fCons (fTup (fCons (fVar 1) (fCons (fVar 2) (fCons (fVar 0) fNil)))) (fCons (fC (.str "played")) (fCons (fC (.int 1)) (fCons (fTup (fCons (fVar 1) (fCons (fVar 2) (fCons (fVar 0) fNil)))) fNil))))) fNil))))))) (fSeq (fSet 5 (fvD (fTup (fCons (fVar 0) (fCons (fVar 1) (fCons (fVar 2) (fCons (fBin DL.addD (fVar 0) (fC (.int 12))) (fCons (fBin DL.addD (fVar 1) (fC (.int 12))) (fCons (fBin DL.addD (fVar 2) (fC (.int 12))) (fCons (fBin DL.addD (fVar 1) (fC (.int 12))) (fCons (fBin DL.addD (fVar 0) (fC (.int 12))) (fCons (fVar 2) (fCons (fVar 1) fNil))))))))))))) (fRet (fBin DL.addD (fVar 3) (fFrz (fLst (fCons (fTup (fCons (fTup (fCons (fVar 1) (fCons (fVar 2) (fCons (fVar 0) fNil)))) (fCons (fC (.str "bounce")) (fCons (fC (.int 2)) (fCons (fVar 5) fNil))))) (fCons (fTup (fCons (fTup (fCons (fVar 2) (fCons (fVar 1) (fCons (fVar 0) fNil)))) (fCons (fC (.str "bounce")) (fCons (fC (.int 2)) (fCons (fVar 5) fNil))))) fNil))))))))))))))))) ρ z := rfl
noncomputable def F__law_rows : Fu := fnOf ["_law_a", "_law_b", "_law_c", "_law_rows_here", "_law_order", "_law_many"] b__law_rows
theorem F__law_rows_eq {x0 x1 x2 : S} {z : Z} : F__law_rows [x0, x1, x2] z = (b__law_rows [some x0, some x1, some x2, none, none, none] z).bind outS := rfl
abbrev Row4 := List Int × Str × Nat × List Int
def row4D (q : Row4) : D := .tuple [tupI q.1, .str q.2.1, .int (q.2.2.1 : Nat), tupI q.2.2.2]
def rows4 (a b c : Int) : List Row4 :=
  [([b], "up", 1, [b]), ([b], "down", 1, [b]), ([b], "bounce", 1, [b]), ([b], "swing", 1, [b, b]), ([b], "outside", 1, [b]), ([b], "played", 1, [b]),
  ([b], "up", 3, [b, b + 12, b + 24]), ([b], "down", 2, [b + 12, b]),
  ([b], "bounce", 2, [b, b + 12]), ([b], "bounce", 3, [b, b + 12, b + 24, b + 12]),
  ([b], "swing", 2, [b, b + 12, b + 12, b]), ([b], "outside", 3, [b, b + 24, b + 12]),
  ([c, a], "up", 1, [a, c]), ([c, a], "down", 1, [c, a]), ([c, a], "played", 1, [c, a]),
  ([c, a], "bounce", 1, [a, c]), ([c, a], "swing", 1, [a, c, c, a]), ([c, a], "outside", 1, [a, c]),
  ([c, a], "played", 2, [c, a, c + 12, a + 12]), ([c, a], "outside", 2, [a, c + 12, c, a + 12]),
  ([b, c, a], "up", 1, [a, b, c]), ([b, c, a], "down", 1, [c, b, a]),
  ([b, c, a], "bounce", 1, [a, b, c, b]), ([b, c, a], "swing", 1, [a, b, c, c, b, a]),
  ([b, c, a], "outside", 1, [a, c, b]), ([b, c, a], "played", 1, [b, c, a]),
  ([b, c, a], "bounce", 2, [a, b, c, a + 12, b + 12, c + 12, b + 12, a + 12, c, b]), ([c, b, a], "bounce", 2, [a, b, c, a + 12, b + 12, c + 12, b + 12, a + 12, c, b])]
theorem v__law_rows {a b c : Int} {z : Z} : F__law_rows [.d (.int a), .d (.int b), .d (.int c)] z = .ok (.d (.list ((rows4 a b c).map row4D))) z := by kernel_rfl
noncomputable def b_is_word_of : FS := (fRet (fAnd (fUn DL.isStrD (fVar 0)) (fBin DL.inD (fVar 0) (fVar 1))))
theorem b_is_word_of_ap {ρ : Sl} {z : Z} : b_is_word_of ρ z = (fRet (fAnd (fUn DL.isStrD (fVar 0)) (fBin DL.inD (fVar 0) (fVar 1)))) ρ z := rfl
noncomputable def F_is_word_of : Fu := fnOf ["thing", "words"] b_is_word_of
theorem F_is_word_of_eq {x0 x1 : S} {z : Z} : F_is_word_of [x0, x1] z = (b_is_word_of [some x0, some x1] z).bind outS := rfl
theorem v_is_word_of {d : D} {ws : List Str} {z : Z} : F_is_word_of [.d d, .d (.tuple (ws.map .str))] z = .ok (.d (.bool (isWord d ws))) z := by
  rw [F_is_word_of_eq]
  cases d <;> simp -implicitDefEqProofs only [b_is_word_of, ok_bind, bad_bind, ex_bind, ofO_some, ofO_none, okIf_t, choose_t, choose_f, asB_b, asI_i, asS_s, asL_l, asD_d, asOb_ob, asO_o, slotD_0, slotD_s, slotO_0, slotO_s, slotOb_0, slotOb_s, slotA_d, slotA_ob, slotA_r, slotA_sc, slotA_s, slotSc_0, slotSc_s, seqK_nx, seqK_rt, seqK_bk, seqK_ct, loopK_nx, loopK_rt, loopK_bk, loopK_ct, outS_nx, outS_rt, run_ap, gName_ap, gNil_nil, gCons_cons, gTup_t, fmNil_ap, fmStr_s, fmAny_ap, fmEv_t, noEx_ok, unz_ok, view_nil, view_cons, viewO_n, viewO_d, viewO_o, viewO_ob, viewO_r, viewO_s, wipeD_nil, wipeD_cons, List.set_cons_succ, List.set_cons_zero, List.set_nil, List.length_cons, List.length_nil, Nat.reduceAdd, Nat.reduceLeDiff, Nat.reduceEqDiff, Nat.reduceLT, decide_true, decide_false, Bool.not_true, Bool.not_false, Nat.zero_add, itemsAny_l, itemsAny_t, itemsAny_s, enumO_l, enumO_t, if_tt, if_ff, Option.bind_some, Bool.and_true, Bool.true_and, Bool.and_self, ↓reduceIte, fVar_ap, fC_ap, fBin_ap, fUn_ap, fChain_ap, fVal_ap, fbNot_ap, fbAnd_ap, fbOr_ap, fAnd_ap, fOr_ap, fNot_ap, fIf_ap, fNil_ap, fCons_ap, fTup_ap, fLst_ap, fFrz_ap, fCall_ap, fCallL_ap, fONone_ap, fOSome_ap, fSl_ap, fAnil_ap, fAd_ap, fAv_ap, fFn_ap, fFnOb_ap, fVarOb_ap, fSeq_ap, fNext_ap, fRet_ap, fRetN_ap, fRetOb_ap, fIfS_ap, fDrop_ap, fBrk_ap, fCnt_ap, fAsg_ap, fOwn_ap, fSetOb_ap, fFor_ap, fItems_ap, fScr_ap, fLenS_ap, fR1_ap, fR2_ap, fWhile_ap, fYes_ap, fComp_ap, fSetL_ap, fComp2_ap, fvD_ap, fvO_ap, fvB_ap, fSet_ap, fPar_ap, fView_ap, fbView_ap, flView_ap, fAppend_ap, fAppPop_ap, fRev_ap, fExt_ap, fFreeze_ap, fEnum_ap, fJoin_ap, fPut_ap, fListRange_ap, fMatch_ap, fField_ap, fRecPut_ap, fPnil_ap, fPcons_ap, fRec_ap, fNever_ap, DL.le_ii, DL.lt_ii, DL.gt_ii, DL.ge_ii, DL.sub_ii, DL.add_ii, DL.neg_i, DL.eq_ii, DL.ne_ii, DL.len_l, DL.len_t, DL.int1_i, DL.max2_ii, DL.min2_ii, DL.tuple_l, DL.tuple_t, DL.list_l, DL.list_t, DL.revL_l, rev_l, DL.isN_n, DL.isN_t, DL.isN_i, DL.notN_n, DL.notN_t, DL.notN_i, DL.isInt_i, DL.isInt_b, DL.isInt_s, DL.isInt_n, DL.isInt_l, DL.isInt_t, DL.isInt_d, DL.isBool_i, DL.isBool_b, DL.isBool_s, DL.isBool_n, DL.isBool_l, DL.isBool_t, DL.isBool_d, DL.isStr_i, DL.isStr_b, DL.isStr_s, DL.isStr_n, DL.isStr_l, DL.isStr_t, DL.isStr_d, DL.isTup_i, DL.isTup_b, DL.isTup_s, DL.isTup_n, DL.isTup_l, DL.isTup_t, DL.isTup_d, DL.ix_t0, DL.ix_t1, DL.ix_t2, DL.ix_t3, DL.ix_t4, DL.ix_l0, DL.ix_l1, DL.ix_l2, Int.reduceLT, Int.reduceLE, Int.reduceNeg, Int.reduceAdd, Int.reduceSub, Int.reduceMul, Int.reduceToNat, Int.reduceBEq, Int.cast_ofNat_Int, isWord, in_strs]
noncomputable def b_is_whole : FS := (fRet (fAnd (fUn DL.isIntD (fVar 0)) (fAnd (fNot (fUn DL.isBoolD (fVar 0))) (fChain DL.leD DL.leD (fVar 1) (fVar 0) (fVar 2)))))
theorem b_is_whole_ap {ρ : Sl} {z : Z} : b_is_whole ρ z = (fRet (fAnd (fUn DL.isIntD (fVar 0)) (fAnd (fNot (fUn DL.isBoolD (fVar 0))) (fChain DL.leD DL.leD (fVar 1) (fVar 0) (fVar 2))))) ρ z := rfl
noncomputable def F_is_whole : Fu := fnOf ["thing", "least", "most"] b_is_whole
theorem F_is_whole_eq {x0 x1 x2 : S} {z : Z} : F_is_whole [x0, x1, x2] z = (b_is_whole [some x0, some x1, some x2] z).bind outS := rfl
theorem v_is_whole {d : D} {a b : Int} {z : Z} : F_is_whole [.d d, .d (.int a), .d (.int b)] z = .ok (.d (.bool (isWhole d a b))) z := by
  rw [F_is_whole_eq]
  cases d <;> simp -implicitDefEqProofs only [b_is_whole, ok_bind, bad_bind, ex_bind, ofO_some, ofO_none, okIf_t, choose_t, choose_f, asB_b, asI_i, asS_s, asL_l, asD_d, asOb_ob, asO_o, slotD_0, slotD_s, slotO_0, slotO_s, slotOb_0, slotOb_s, slotA_d, slotA_ob, slotA_r, slotA_sc, slotA_s, slotSc_0, slotSc_s, seqK_nx, seqK_rt, seqK_bk, seqK_ct, loopK_nx, loopK_rt, loopK_bk, loopK_ct, outS_nx, outS_rt, run_ap, gName_ap, gNil_nil, gCons_cons, gTup_t, fmNil_ap, fmStr_s, fmAny_ap, fmEv_t, noEx_ok, unz_ok, view_nil, view_cons, viewO_n, viewO_d, viewO_o, viewO_ob, viewO_r, viewO_s, wipeD_nil, wipeD_cons, List.set_cons_succ, List.set_cons_zero, List.set_nil, List.length_cons, List.length_nil, Nat.reduceAdd, Nat.reduceLeDiff, Nat.reduceEqDiff, Nat.reduceLT, decide_true, decide_false, Bool.not_true, Bool.not_false, Nat.zero_add, itemsAny_l, itemsAny_t, itemsAny_s, enumO_l, enumO_t, if_tt, if_ff, Option.bind_some, Bool.and_true, Bool.true_and, Bool.and_self, ↓reduceIte, fVar_ap, fC_ap, fBin_ap, fUn_ap, fChain_ap, fVal_ap, fbNot_ap, fbAnd_ap, fbOr_ap, fAnd_ap, fOr_ap, fNot_ap, fIf_ap, fNil_ap, fCons_ap, fTup_ap, fLst_ap, fFrz_ap, fCall_ap, fCallL_ap, fONone_ap, fOSome_ap, fSl_ap, fAnil_ap, fAd_ap, fAv_ap, fFn_ap, fFnOb_ap, fVarOb_ap, fSeq_ap, fNext_ap, fRet_ap, fRetN_ap, fRetOb_ap, fIfS_ap, fDrop_ap, fBrk_ap, fCnt_ap, fAsg_ap, fOwn_ap, fSetOb_ap, fFor_ap, fItems_ap, fScr_ap, fLenS_ap, fR1_ap, fR2_ap, fWhile_ap, fYes_ap, fComp_ap, fSetL_ap, fComp2_ap, fvD_ap, fvO_ap, fvB_ap, fSet_ap, fPar_ap, fView_ap, fbView_ap, flView_ap, fAppend_ap, fAppPop_ap, fRev_ap, fExt_ap, fFreeze_ap, fEnum_ap, fJoin_ap, fPut_ap, fListRange_ap, fMatch_ap, fField_ap, fRecPut_ap, fPnil_ap, fPcons_ap, fRec_ap, fNever_ap, DL.le_ii, DL.lt_ii, DL.gt_ii, DL.ge_ii, DL.sub_ii, DL.add_ii, DL.neg_i, DL.eq_ii, DL.ne_ii, DL.len_l, DL.len_t, DL.int1_i, DL.max2_ii, DL.min2_ii, DL.tuple_l, DL.tuple_t, DL.list_l, DL.list_t, DL.revL_l, rev_l, DL.isN_n, DL.isN_t, DL.isN_i, DL.notN_n, DL.notN_t, DL.notN_i, DL.isInt_i, DL.isInt_b, DL.isInt_s, DL.isInt_n, DL.isInt_l, DL.isInt_t, DL.isInt_d, DL.isBool_i, DL.isBool_b, DL.isBool_s, DL.isBool_n, DL.isBool_l, DL.isBool_t, DL.isBool_d, DL.isStr_i, DL.isStr_b, DL.isStr_s, DL.isStr_n, DL.isStr_l, DL.isStr_t, DL.isStr_d, DL.isTup_i, DL.isTup_b, DL.isTup_s, DL.isTup_n, DL.isTup_l, DL.isTup_t, DL.isTup_d, DL.ix_t0, DL.ix_t1, DL.ix_t2, DL.ix_t3, DL.ix_t4, DL.ix_l0, DL.ix_l1, DL.ix_l2, Int.reduceLT, Int.reduceLE, Int.reduceNeg, Int.reduceAdd, Int.reduceSub, Int.reduceMul, Int.reduceToNat, Int.reduceBEq, Int.cast_ofNat_Int, isWhole]
  rename_i i
  by_cases h : a ≤ i <;> simp -implicitDefEqProofs only [h, ok_bind, bad_bind, ex_bind, ofO_some, ofO_none, okIf_t, choose_t, choose_f, asB_b, asI_i, asS_s, asL_l, asD_d, asOb_ob, asO_o, slotD_0, slotD_s, slotO_0, slotO_s, slotOb_0, slotOb_s, slotA_d, slotA_ob, slotA_r, slotA_sc, slotA_s, slotSc_0, slotSc_s, seqK_nx, seqK_rt, seqK_bk, seqK_ct, loopK_nx, loopK_rt, loopK_bk, loopK_ct, outS_nx, outS_rt, run_ap, gName_ap, gNil_nil, gCons_cons, gTup_t, fmNil_ap, fmStr_s, fmAny_ap, fmEv_t, noEx_ok, unz_ok, view_nil, view_cons, viewO_n, viewO_d, viewO_o, viewO_ob, viewO_r, viewO_s, wipeD_nil, wipeD_cons, List.set_cons_succ, List.set_cons_zero, List.set_nil, List.length_cons, List.length_nil, Nat.reduceAdd, Nat.reduceLeDiff, Nat.reduceEqDiff, Nat.reduceLT, decide_true, decide_false, Bool.not_true, Bool.not_false, Nat.zero_add, itemsAny_l, itemsAny_t, itemsAny_s, enumO_l, enumO_t, if_tt, if_ff, Option.bind_some, Bool.and_true, Bool.true_and, Bool.and_self, ↓reduceIte, fVar_ap, fC_ap, fBin_ap, fUn_ap, fChain_ap, fVal_ap, fbNot_ap, fbAnd_ap, fbOr_ap, fAnd_ap, fOr_ap, fNot_ap, fIf_ap, fNil_ap, fCons_ap, fTup_ap, fLst_ap, fFrz_ap, fCall_ap, fCallL_ap, fONone_ap, fOSome_ap, fSl_ap, fAnil_ap, fAd_ap, fAv_ap, fFn_ap, fFnOb_ap, fVarOb_ap, fSeq_ap, fNext_ap, fRet_ap, fRetN_ap, fRetOb_ap, fIfS_ap, fDrop_ap, fBrk_ap, fCnt_ap, fAsg_ap, fOwn_ap, fSetOb_ap, fFor_ap, fItems_ap, fScr_ap, fLenS_ap, fR1_ap, fR2_ap, fWhile_ap, fYes_ap, fComp_ap, fSetL_ap, fComp2_ap, fvD_ap, fvO_ap, fvB_ap, fSet_ap, fPar_ap, fView_ap, fbView_ap, flView_ap, fAppend_ap, fAppPop_ap, fRev_ap, fExt_ap, fFreeze_ap, fEnum_ap, fJoin_ap, fPut_ap, fListRange_ap, fMatch_ap, fField_ap, fRecPut_ap, fPnil_ap, fPcons_ap, fRec_ap, fNever_ap, DL.le_ii, DL.lt_ii, DL.gt_ii, DL.ge_ii, DL.sub_ii, DL.add_ii, DL.neg_i, DL.eq_ii, DL.ne_ii, DL.len_l, DL.len_t, DL.int1_i, DL.max2_ii, DL.min2_ii, DL.tuple_l, DL.tuple_t, DL.list_l, DL.list_t, DL.revL_l, rev_l, DL.isN_n, DL.isN_t, DL.isN_i, DL.notN_n, DL.notN_t, DL.notN_i, DL.isInt_i, DL.isInt_b, DL.isInt_s, DL.isInt_n, DL.isInt_l, DL.isInt_t, DL.isInt_d, DL.isBool_i, DL.isBool_b, DL.isBool_s, DL.isBool_n, DL.isBool_l, DL.isBool_t, DL.isBool_d, DL.isStr_i, DL.isStr_b, DL.isStr_s, DL.isStr_n, DL.isStr_l, DL.isStr_t, DL.isStr_d, DL.isTup_i, DL.isTup_b, DL.isTup_s, DL.isTup_n, DL.isTup_l, DL.isTup_t, DL.isTup_d, DL.ix_t0, DL.ix_t1, DL.ix_t2, DL.ix_t3, DL.ix_t4, DL.ix_l0, DL.ix_l1, DL.ix_l2, Int.reduceLT, Int.reduceLE, Int.reduceNeg, Int.reduceAdd, Int.reduceSub, Int.reduceMul, Int.reduceToNat, Int.reduceBEq, Int.cast_ofNat_Int, Bool.true_and, Bool.false_and]
noncomputable def e_is_rhythm_1 : FX := (fBin DL.inD (fVar 1) (fC (.str "x-")))
theorem e_is_rhythm_1_ap {ρ : Sl} {z : Z} : e_is_rhythm_1 ρ z = (fBin DL.inD (fVar 1) (fC (.str "x-"))) ρ z := rfl
noncomputable def b_is_rhythm : FS := (fSeq (fIfS (fbOr (fbNot (fVal (fUn DL.isStrD (fVar 0)))) (fbNot (fVal (fChain DL.leD DL.leD (fC (.int 1)) (fCall DL.lenD (fCons (fVar 0) fNil)) (fC (.int 8)))))) (fRet (fC (.bool false))) fNext) (fRet (fAnd (fBin DL.inD (fC (.str "x")) (fVar 0)) (fCall DL.allD (fCons (fFrz (fComp (fItems (fVar 0)) (gName 1) fYes e_is_rhythm_1 [1])) fNil)))))
theorem b_is_rhythm_ap {ρ : Sl} {z : Z} : b_is_rhythm ρ z = (fSeq (fIfS (fbOr (fbNot (fVal (fUn DL.isStrD (fVar 0)))) (fbNot (fVal (fChain DL.leD DL.leD (fC (.int 1)) (fCall DL.lenD (fCons (fVar 0) fNil)) (fC (.int 8)))))) (fRet (fC (.bool false))) fNext) (fRet (fAnd (fBin DL.inD (fC (.str "x")) (fVar 0)) (fCall DL.allD (fCons (fFrz (fComp (fItems (fVar 0)) (gName 1) fYes e_is_rhythm_1 [1])) fNil))))) ρ z := rfl
noncomputable def F_is_rhythm : Fu := fnOf ["thing", "sign"] b_is_rhythm
theorem F_is_rhythm_eq {x0 : S} {z : Z} : F_is_rhythm [x0] z = (b_is_rhythm [some x0, none] z).bind outS := rfl
theorem in_xz {s : Str} : inD (.str "x") (.str s) = some (.bool (decide (120 ∈ s.cps.toList))) := in_str1 (by decide +kernel)
theorem all_bools {bs : List Bool} : DL.allD [.list (bs.map .bool)] = some (.bool (bs.all id)) := by
  show (DL.boolsOf (bs.map .bool)).map _ = _
  rw [DL.boolsOf_map]; rfl
theorem len_cps {s : Str} : s.cps.toList.length = s.length := by simp [Str.length]
theorem v_is_rhythm {d : D} {z : Z} (h : ∀ s, d = .str s → s.length ≤ 100000) : F_is_rhythm [.d d] z = .ok (.d (.bool (isRhythm d))) z := by
  rw [F_is_rhythm_eq]
  cases d <;> simp -implicitDefEqProofs only [b_is_rhythm, ok_bind, bad_bind, ex_bind, ofO_some, ofO_none, okIf_t, choose_t, choose_f, asB_b, asI_i, asS_s, asL_l, asD_d, asOb_ob, asO_o, slotD_0, slotD_s, slotO_0, slotO_s, slotOb_0, slotOb_s, slotA_d, slotA_ob, slotA_r, slotA_sc, slotA_s, slotSc_0, slotSc_s, seqK_nx, seqK_rt, seqK_bk, seqK_ct, loopK_nx, loopK_rt, loopK_bk, loopK_ct, outS_nx, outS_rt, run_ap, gName_ap, gNil_nil, gCons_cons, gTup_t, fmNil_ap, fmStr_s, fmAny_ap, fmEv_t, noEx_ok, unz_ok, view_nil, view_cons, viewO_n, viewO_d, viewO_o, viewO_ob, viewO_r, viewO_s, wipeD_nil, wipeD_cons, List.set_cons_succ, List.set_cons_zero, List.set_nil, List.length_cons, List.length_nil, Nat.reduceAdd, Nat.reduceLeDiff, Nat.reduceEqDiff, Nat.reduceLT, decide_true, decide_false, Bool.not_true, Bool.not_false, Nat.zero_add, itemsAny_l, itemsAny_t, itemsAny_s, enumO_l, enumO_t, if_tt, if_ff, Option.bind_some, Bool.and_true, Bool.true_and, Bool.and_self, ↓reduceIte, fVar_ap, fC_ap, fBin_ap, fUn_ap, fChain_ap, fVal_ap, fbNot_ap, fbAnd_ap, fbOr_ap, fAnd_ap, fOr_ap, fNot_ap, fIf_ap, fNil_ap, fCons_ap, fTup_ap, fLst_ap, fFrz_ap, fCall_ap, fCallL_ap, fONone_ap, fOSome_ap, fSl_ap, fAnil_ap, fAd_ap, fAv_ap, fFn_ap, fFnOb_ap, fVarOb_ap, fSeq_ap, fNext_ap, fRet_ap, fRetN_ap, fRetOb_ap, fIfS_ap, fDrop_ap, fBrk_ap, fCnt_ap, fAsg_ap, fOwn_ap, fSetOb_ap, fFor_ap, fItems_ap, fScr_ap, fLenS_ap, fR1_ap, fR2_ap, fWhile_ap, fYes_ap, fComp_ap, fSetL_ap, fComp2_ap, fvD_ap, fvO_ap, fvB_ap, fSet_ap, fPar_ap, fView_ap, fbView_ap, flView_ap, fAppend_ap, fAppPop_ap, fRev_ap, fExt_ap, fFreeze_ap, fEnum_ap, fJoin_ap, fPut_ap, fListRange_ap, fMatch_ap, fField_ap, fRecPut_ap, fPnil_ap, fPcons_ap, fRec_ap, fNever_ap, DL.le_ii, DL.lt_ii, DL.gt_ii, DL.ge_ii, DL.sub_ii, DL.add_ii, DL.neg_i, DL.eq_ii, DL.ne_ii, DL.len_l, DL.len_t, DL.int1_i, DL.max2_ii, DL.min2_ii, DL.tuple_l, DL.tuple_t, DL.list_l, DL.list_t, DL.revL_l, rev_l, DL.isN_n, DL.isN_t, DL.isN_i, DL.notN_n, DL.notN_t, DL.notN_i, DL.isInt_i, DL.isInt_b, DL.isInt_s, DL.isInt_n, DL.isInt_l, DL.isInt_t, DL.isInt_d, DL.isBool_i, DL.isBool_b, DL.isBool_s, DL.isBool_n, DL.isBool_l, DL.isBool_t, DL.isBool_d, DL.isStr_i, DL.isStr_b, DL.isStr_s, DL.isStr_n, DL.isStr_l, DL.isStr_t, DL.isStr_d, DL.isTup_i, DL.isTup_b, DL.isTup_s, DL.isTup_n, DL.isTup_l, DL.isTup_t, DL.isTup_d, DL.ix_t0, DL.ix_t1, DL.ix_t2, DL.ix_t3, DL.ix_t4, DL.ix_l0, DL.ix_l1, DL.ix_l2, Int.reduceLT, Int.reduceLE, Int.reduceNeg, Int.reduceAdd, Int.reduceSub, Int.reduceMul, Int.reduceToNat, Int.reduceBEq, Int.cast_ofNat_Int, isRhythm]
  rename_i s
  have hz := h s rfl
  simp -implicitDefEqProofs only [DL.len_s hz, ok_bind, bad_bind, ex_bind, ofO_some, ofO_none, okIf_t, choose_t, choose_f, asB_b, asI_i, asS_s, asL_l, asD_d, asOb_ob, asO_o, slotD_0, slotD_s, slotO_0, slotO_s, slotOb_0, slotOb_s, slotA_d, slotA_ob, slotA_r, slotA_sc, slotA_s, slotSc_0, slotSc_s, seqK_nx, seqK_rt, seqK_bk, seqK_ct, loopK_nx, loopK_rt, loopK_bk, loopK_ct, outS_nx, outS_rt, run_ap, gName_ap, gNil_nil, gCons_cons, gTup_t, fmNil_ap, fmStr_s, fmAny_ap, fmEv_t, noEx_ok, unz_ok, view_nil, view_cons, viewO_n, viewO_d, viewO_o, viewO_ob, viewO_r, viewO_s, wipeD_nil, wipeD_cons, List.set_cons_succ, List.set_cons_zero, List.set_nil, List.length_cons, List.length_nil, Nat.reduceAdd, Nat.reduceLeDiff, Nat.reduceEqDiff, Nat.reduceLT, decide_true, decide_false, Bool.not_true, Bool.not_false, Nat.zero_add, itemsAny_l, itemsAny_t, itemsAny_s, enumO_l, enumO_t, if_tt, if_ff, Option.bind_some, Bool.and_true, Bool.true_and, Bool.and_self, ↓reduceIte, fVar_ap, fC_ap, fBin_ap, fUn_ap, fChain_ap, fVal_ap, fbNot_ap, fbAnd_ap, fbOr_ap, fAnd_ap, fOr_ap, fNot_ap, fIf_ap, fNil_ap, fCons_ap, fTup_ap, fLst_ap, fFrz_ap, fCall_ap, fCallL_ap, fONone_ap, fOSome_ap, fSl_ap, fAnil_ap, fAd_ap, fAv_ap, fFn_ap, fFnOb_ap, fVarOb_ap, fSeq_ap, fNext_ap, fRet_ap, fRetN_ap, fRetOb_ap, fIfS_ap, fDrop_ap, fBrk_ap, fCnt_ap, fAsg_ap, fOwn_ap, fSetOb_ap, fFor_ap, fItems_ap, fScr_ap, fLenS_ap, fR1_ap, fR2_ap, fWhile_ap, fYes_ap, fComp_ap, fSetL_ap, fComp2_ap, fvD_ap, fvO_ap, fvB_ap, fSet_ap, fPar_ap, fView_ap, fbView_ap, flView_ap, fAppend_ap, fAppPop_ap, fRev_ap, fExt_ap, fFreeze_ap, fEnum_ap, fJoin_ap, fPut_ap, fListRange_ap, fMatch_ap, fField_ap, fRecPut_ap, fPnil_ap, fPcons_ap, fRec_ap, fNever_ap, DL.le_ii, DL.lt_ii, DL.gt_ii, DL.ge_ii, DL.sub_ii, DL.add_ii, DL.neg_i, DL.eq_ii, DL.ne_ii, DL.len_l, DL.len_t, DL.int1_i, DL.max2_ii, DL.min2_ii, DL.tuple_l, DL.tuple_t, DL.list_l, DL.list_t, DL.revL_l, rev_l, DL.isN_n, DL.isN_t, DL.isN_i, DL.notN_n, DL.notN_t, DL.notN_i, DL.isInt_i, DL.isInt_b, DL.isInt_s, DL.isInt_n, DL.isInt_l, DL.isInt_t, DL.isInt_d, DL.isBool_i, DL.isBool_b, DL.isBool_s, DL.isBool_n, DL.isBool_l, DL.isBool_t, DL.isBool_d, DL.isStr_i, DL.isStr_b, DL.isStr_s, DL.isStr_n, DL.isStr_l, DL.isStr_t, DL.isStr_d, DL.isTup_i, DL.isTup_b, DL.isTup_s, DL.isTup_n, DL.isTup_l, DL.isTup_t, DL.isTup_d, DL.ix_t0, DL.ix_t1, DL.ix_t2, DL.ix_t3, DL.ix_t4, DL.ix_l0, DL.ix_l1, DL.ix_l2, Int.reduceLT, Int.reduceLE, Int.reduceNeg, Int.reduceAdd, Int.reduceSub, Int.reduceMul, Int.reduceToNat, Int.reduceBEq, Int.cast_ofNat_Int, goodSigns]
  by_cases h1 : 1 ≤ s.length
  · by_cases h2 : s.length ≤ 8
    · have e1 : decide ((1 : Int) ≤ (s.length : Nat)) = true := decide_eq_true (by omega)
      have e2 : decide (((s.length : Nat) : Int) ≤ 8) = true := decide_eq_true (by omega)
      simp -implicitDefEqProofs only [e1, e2, h1, h2, ok_bind, bad_bind, ex_bind, ofO_some, ofO_none, okIf_t, choose_t, choose_f, asB_b, asI_i, asS_s, asL_l, asD_d, asOb_ob, asO_o, slotD_0, slotD_s, slotO_0, slotO_s, slotOb_0, slotOb_s, slotA_d, slotA_ob, slotA_r, slotA_sc, slotA_s, slotSc_0, slotSc_s, seqK_nx, seqK_rt, seqK_bk, seqK_ct, loopK_nx, loopK_rt, loopK_bk, loopK_ct, outS_nx, outS_rt, run_ap, gName_ap, gNil_nil, gCons_cons, gTup_t, fmNil_ap, fmStr_s, fmAny_ap, fmEv_t, noEx_ok, unz_ok, view_nil, view_cons, viewO_n, viewO_d, viewO_o, viewO_ob, viewO_r, viewO_s, wipeD_nil, wipeD_cons, List.set_cons_succ, List.set_cons_zero, List.set_nil, List.length_cons, List.length_nil, Nat.reduceAdd, Nat.reduceLeDiff, Nat.reduceEqDiff, Nat.reduceLT, decide_true, decide_false, Bool.not_true, Bool.not_false, Nat.zero_add, itemsAny_l, itemsAny_t, itemsAny_s, enumO_l, enumO_t, if_tt, if_ff, Option.bind_some, Bool.and_true, Bool.true_and, Bool.and_self, ↓reduceIte, fVar_ap, fC_ap, fBin_ap, fUn_ap, fChain_ap, fVal_ap, fbNot_ap, fbAnd_ap, fbOr_ap, fAnd_ap, fOr_ap, fNot_ap, fIf_ap, fNil_ap, fCons_ap, fTup_ap, fLst_ap, fFrz_ap, fCall_ap, fCallL_ap, fONone_ap, fOSome_ap, fSl_ap, fAnil_ap, fAd_ap, fAv_ap, fFn_ap, fFnOb_ap, fVarOb_ap, fSeq_ap, fNext_ap, fRet_ap, fRetN_ap, fRetOb_ap, fIfS_ap, fDrop_ap, fBrk_ap, fCnt_ap, fAsg_ap, fOwn_ap, fSetOb_ap, fFor_ap, fItems_ap, fScr_ap, fLenS_ap, fR1_ap, fR2_ap, fWhile_ap, fYes_ap, fComp_ap, fSetL_ap, fComp2_ap, fvD_ap, fvO_ap, fvB_ap, fSet_ap, fPar_ap, fView_ap, fbView_ap, flView_ap, fAppend_ap, fAppPop_ap, fRev_ap, fExt_ap, fFreeze_ap, fEnum_ap, fJoin_ap, fPut_ap, fListRange_ap, fMatch_ap, fField_ap, fRecPut_ap, fPnil_ap, fPcons_ap, fRec_ap, fNever_ap, DL.le_ii, DL.lt_ii, DL.gt_ii, DL.ge_ii, DL.sub_ii, DL.add_ii, DL.neg_i, DL.eq_ii, DL.ne_ii, DL.len_l, DL.len_t, DL.int1_i, DL.max2_ii, DL.min2_ii, DL.tuple_l, DL.tuple_t, DL.list_l, DL.list_t, DL.revL_l, rev_l, DL.isN_n, DL.isN_t, DL.isN_i, DL.notN_n, DL.notN_t, DL.notN_i, DL.isInt_i, DL.isInt_b, DL.isInt_s, DL.isInt_n, DL.isInt_l, DL.isInt_t, DL.isInt_d, DL.isBool_i, DL.isBool_b, DL.isBool_s, DL.isBool_n, DL.isBool_l, DL.isBool_t, DL.isBool_d, DL.isStr_i, DL.isStr_b, DL.isStr_s, DL.isStr_n, DL.isStr_l, DL.isStr_t, DL.isStr_d, DL.isTup_i, DL.isTup_b, DL.isTup_s, DL.isTup_n, DL.isTup_l, DL.isTup_t, DL.isTup_d, DL.ix_t0, DL.ix_t1, DL.ix_t2, DL.ix_t3, DL.ix_t4, DL.ix_l0, DL.ix_l1, DL.ix_l2, Int.reduceLT, Int.reduceLE, Int.reduceNeg, Int.reduceAdd, Int.reduceSub, Int.reduceMul, Int.reduceToNat, Int.reduceBEq, Int.cast_ofNat_Int, in_xz, Bool.true_and]
      by_cases h3 : 120 ∈ s.cps.toList
      · simp -implicitDefEqProofs only [h3, ok_bind, bad_bind, ex_bind, ofO_some, ofO_none, okIf_t, choose_t, choose_f, asB_b, asI_i, asS_s, asL_l, asD_d, asOb_ob, asO_o, slotD_0, slotD_s, slotO_0, slotO_s, slotOb_0, slotOb_s, slotA_d, slotA_ob, slotA_r, slotA_sc, slotA_s, slotSc_0, slotSc_s, seqK_nx, seqK_rt, seqK_bk, seqK_ct, loopK_nx, loopK_rt, loopK_bk, loopK_ct, outS_nx, outS_rt, run_ap, gName_ap, gNil_nil, gCons_cons, gTup_t, fmNil_ap, fmStr_s, fmAny_ap, fmEv_t, noEx_ok, unz_ok, view_nil, view_cons, viewO_n, viewO_d, viewO_o, viewO_ob, viewO_r, viewO_s, wipeD_nil, wipeD_cons, List.set_cons_succ, List.set_cons_zero, List.set_nil, List.length_cons, List.length_nil, Nat.reduceAdd, Nat.reduceLeDiff, Nat.reduceEqDiff, Nat.reduceLT, decide_true, decide_false, Bool.not_true, Bool.not_false, Nat.zero_add, itemsAny_l, itemsAny_t, itemsAny_s, enumO_l, enumO_t, if_tt, if_ff, Option.bind_some, Bool.and_true, Bool.true_and, Bool.and_self, ↓reduceIte, fVar_ap, fC_ap, fBin_ap, fUn_ap, fChain_ap, fVal_ap, fbNot_ap, fbAnd_ap, fbOr_ap, fAnd_ap, fOr_ap, fNot_ap, fIf_ap, fNil_ap, fCons_ap, fTup_ap, fLst_ap, fFrz_ap, fCall_ap, fCallL_ap, fONone_ap, fOSome_ap, fSl_ap, fAnil_ap, fAd_ap, fAv_ap, fFn_ap, fFnOb_ap, fVarOb_ap, fSeq_ap, fNext_ap, fRet_ap, fRetN_ap, fRetOb_ap, fIfS_ap, fDrop_ap, fBrk_ap, fCnt_ap, fAsg_ap, fOwn_ap, fSetOb_ap, fFor_ap, fItems_ap, fScr_ap, fLenS_ap, fR1_ap, fR2_ap, fWhile_ap, fYes_ap, fComp_ap, fSetL_ap, fComp2_ap, fvD_ap, fvO_ap, fvB_ap, fSet_ap, fPar_ap, fView_ap, fbView_ap, flView_ap, fAppend_ap, fAppPop_ap, fRev_ap, fExt_ap, fFreeze_ap, fEnum_ap, fJoin_ap, fPut_ap, fListRange_ap, fMatch_ap, fField_ap, fRecPut_ap, fPnil_ap, fPcons_ap, fRec_ap, fNever_ap, DL.le_ii, DL.lt_ii, DL.gt_ii, DL.ge_ii, DL.sub_ii, DL.add_ii, DL.neg_i, DL.eq_ii, DL.ne_ii, DL.len_l, DL.len_t, DL.int1_i, DL.max2_ii, DL.min2_ii, DL.tuple_l, DL.tuple_t, DL.list_l, DL.list_t, DL.revL_l, rev_l, DL.isN_n, DL.isN_t, DL.isN_i, DL.notN_n, DL.notN_t, DL.notN_i, DL.isInt_i, DL.isInt_b, DL.isInt_s, DL.isInt_n, DL.isInt_l, DL.isInt_t, DL.isInt_d, DL.isBool_i, DL.isBool_b, DL.isBool_s, DL.isBool_n, DL.isBool_l, DL.isBool_t, DL.isBool_d, DL.isStr_i, DL.isStr_b, DL.isStr_s, DL.isStr_n, DL.isStr_l, DL.isStr_t, DL.isStr_d, DL.isTup_i, DL.isTup_b, DL.isTup_s, DL.isTup_n, DL.isTup_l, DL.isTup_t, DL.isTup_d, DL.ix_t0, DL.ix_t1, DL.ix_t2, DL.ix_t3, DL.ix_t4, DL.ix_l0, DL.ix_l1, DL.ix_l2, Int.reduceLT, Int.reduceLE, Int.reduceNeg, Int.reduceAdd, Int.reduceSub, Int.reduceMul, Int.reduceToNat, Int.reduceBEq, Int.cast_ofNat_Int, Bool.true_and]
        unfold DL.signsD
        rw [comp_map (h := fun d => match d with | .str w => (match w.cps.toList with | [c] => .bool (decide (c = 120) || decide (c = 45)) | _ => .none) | _ => .none)]
        · simp -implicitDefEqProofs only [ok_bind, bad_bind, ex_bind, ofO_some, ofO_none, okIf_t, choose_t, choose_f, asB_b, asI_i, asS_s, asL_l, asD_d, asOb_ob, asO_o, slotD_0, slotD_s, slotO_0, slotO_s, slotOb_0, slotOb_s, slotA_d, slotA_ob, slotA_r, slotA_sc, slotA_s, slotSc_0, slotSc_s, seqK_nx, seqK_rt, seqK_bk, seqK_ct, loopK_nx, loopK_rt, loopK_bk, loopK_ct, outS_nx, outS_rt, run_ap, gName_ap, gNil_nil, gCons_cons, gTup_t, fmNil_ap, fmStr_s, fmAny_ap, fmEv_t, noEx_ok, unz_ok, view_nil, view_cons, viewO_n, viewO_d, viewO_o, viewO_ob, viewO_r, viewO_s, wipeD_nil, wipeD_cons, List.set_cons_succ, List.set_cons_zero, List.set_nil, List.length_cons, List.length_nil, Nat.reduceAdd, Nat.reduceLeDiff, Nat.reduceEqDiff, Nat.reduceLT, decide_true, decide_false, Bool.not_true, Bool.not_false, Nat.zero_add, itemsAny_l, itemsAny_t, itemsAny_s, enumO_l, enumO_t, if_tt, if_ff, Option.bind_some, Bool.and_true, Bool.true_and, Bool.and_self, ↓reduceIte, fVar_ap, fC_ap, fBin_ap, fUn_ap, fChain_ap, fVal_ap, fbNot_ap, fbAnd_ap, fbOr_ap, fAnd_ap, fOr_ap, fNot_ap, fIf_ap, fNil_ap, fCons_ap, fTup_ap, fLst_ap, fFrz_ap, fCall_ap, fCallL_ap, fONone_ap, fOSome_ap, fSl_ap, fAnil_ap, fAd_ap, fAv_ap, fFn_ap, fFnOb_ap, fVarOb_ap, fSeq_ap, fNext_ap, fRet_ap, fRetN_ap, fRetOb_ap, fIfS_ap, fDrop_ap, fBrk_ap, fCnt_ap, fAsg_ap, fOwn_ap, fSetOb_ap, fFor_ap, fItems_ap, fScr_ap, fLenS_ap, fR1_ap, fR2_ap, fWhile_ap, fYes_ap, fComp_ap, fSetL_ap, fComp2_ap, fvD_ap, fvO_ap, fvB_ap, fSet_ap, fPar_ap, fView_ap, fbView_ap, flView_ap, fAppend_ap, fAppPop_ap, fRev_ap, fExt_ap, fFreeze_ap, fEnum_ap, fJoin_ap, fPut_ap, fListRange_ap, fMatch_ap, fField_ap, fRecPut_ap, fPnil_ap, fPcons_ap, fRec_ap, fNever_ap, DL.le_ii, DL.lt_ii, DL.gt_ii, DL.ge_ii, DL.sub_ii, DL.add_ii, DL.neg_i, DL.eq_ii, DL.ne_ii, DL.len_l, DL.len_t, DL.int1_i, DL.max2_ii, DL.min2_ii, DL.tuple_l, DL.tuple_t, DL.list_l, DL.list_t, DL.revL_l, rev_l, DL.isN_n, DL.isN_t, DL.isN_i, DL.notN_n, DL.notN_t, DL.notN_i, DL.isInt_i, DL.isInt_b, DL.isInt_s, DL.isInt_n, DL.isInt_l, DL.isInt_t, DL.isInt_d, DL.isBool_i, DL.isBool_b, DL.isBool_s, DL.isBool_n, DL.isBool_l, DL.isBool_t, DL.isBool_d, DL.isStr_i, DL.isStr_b, DL.isStr_s, DL.isStr_n, DL.isStr_l, DL.isStr_t, DL.isStr_d, DL.isTup_i, DL.isTup_b, DL.isTup_s, DL.isTup_n, DL.isTup_l, DL.isTup_t, DL.isTup_d, DL.ix_t0, DL.ix_t1, DL.ix_t2, DL.ix_t3, DL.ix_t4, DL.ix_l0, DL.ix_l1, DL.ix_l2, Int.reduceLT, Int.reduceLE, Int.reduceNeg, Int.reduceAdd, Int.reduceSub, Int.reduceMul, Int.reduceToNat, Int.reduceBEq, Int.cast_ofNat_Int, List.nil_append, List.map_map, Function.comp_def]
          have := all_bools (bs := s.cps.toList.map fun c => decide (c = 120) || decide (c = 45))
          rw [List.map_map] at this
          simp only [Function.comp_def] at this
          simp -implicitDefEqProofs only [this, ok_bind, bad_bind, ex_bind, ofO_some, ofO_none, okIf_t, choose_t, choose_f, asB_b, asI_i, asS_s, asL_l, asD_d, asOb_ob, asO_o, slotD_0, slotD_s, slotO_0, slotO_s, slotOb_0, slotOb_s, slotA_d, slotA_ob, slotA_r, slotA_sc, slotA_s, slotSc_0, slotSc_s, seqK_nx, seqK_rt, seqK_bk, seqK_ct, loopK_nx, loopK_rt, loopK_bk, loopK_ct, outS_nx, outS_rt, run_ap, gName_ap, gNil_nil, gCons_cons, gTup_t, fmNil_ap, fmStr_s, fmAny_ap, fmEv_t, noEx_ok, unz_ok, view_nil, view_cons, viewO_n, viewO_d, viewO_o, viewO_ob, viewO_r, viewO_s, wipeD_nil, wipeD_cons, List.set_cons_succ, List.set_cons_zero, List.set_nil, List.length_cons, List.length_nil, Nat.reduceAdd, Nat.reduceLeDiff, Nat.reduceEqDiff, Nat.reduceLT, decide_true, decide_false, Bool.not_true, Bool.not_false, Nat.zero_add, itemsAny_l, itemsAny_t, itemsAny_s, enumO_l, enumO_t, if_tt, if_ff, Option.bind_some, Bool.and_true, Bool.true_and, Bool.and_self, ↓reduceIte, fVar_ap, fC_ap, fBin_ap, fUn_ap, fChain_ap, fVal_ap, fbNot_ap, fbAnd_ap, fbOr_ap, fAnd_ap, fOr_ap, fNot_ap, fIf_ap, fNil_ap, fCons_ap, fTup_ap, fLst_ap, fFrz_ap, fCall_ap, fCallL_ap, fONone_ap, fOSome_ap, fSl_ap, fAnil_ap, fAd_ap, fAv_ap, fFn_ap, fFnOb_ap, fVarOb_ap, fSeq_ap, fNext_ap, fRet_ap, fRetN_ap, fRetOb_ap, fIfS_ap, fDrop_ap, fBrk_ap, fCnt_ap, fAsg_ap, fOwn_ap, fSetOb_ap, fFor_ap, fItems_ap, fScr_ap, fLenS_ap, fR1_ap, fR2_ap, fWhile_ap, fYes_ap, fComp_ap, fSetL_ap, fComp2_ap, fvD_ap, fvO_ap, fvB_ap, fSet_ap, fPar_ap, fView_ap, fbView_ap, flView_ap, fAppend_ap, fAppPop_ap, fRev_ap, fExt_ap, fFreeze_ap, fEnum_ap, fJoin_ap, fPut_ap, fListRange_ap, fMatch_ap, fField_ap, fRecPut_ap, fPnil_ap, fPcons_ap, fRec_ap, fNever_ap, DL.le_ii, DL.lt_ii, DL.gt_ii, DL.ge_ii, DL.sub_ii, DL.add_ii, DL.neg_i, DL.eq_ii, DL.ne_ii, DL.len_l, DL.len_t, DL.int1_i, DL.max2_ii, DL.min2_ii, DL.tuple_l, DL.tuple_t, DL.list_l, DL.list_t, DL.revL_l, rev_l, DL.isN_n, DL.isN_t, DL.isN_i, DL.notN_n, DL.notN_t, DL.notN_i, DL.isInt_i, DL.isInt_b, DL.isInt_s, DL.isInt_n, DL.isInt_l, DL.isInt_t, DL.isInt_d, DL.isBool_i, DL.isBool_b, DL.isBool_s, DL.isBool_n, DL.isBool_l, DL.isBool_t, DL.isBool_d, DL.isStr_i, DL.isStr_b, DL.isStr_s, DL.isStr_n, DL.isStr_l, DL.isStr_t, DL.isStr_d, DL.isTup_i, DL.isTup_b, DL.isTup_s, DL.isTup_n, DL.isTup_l, DL.isTup_t, DL.isTup_d, DL.ix_t0, DL.ix_t1, DL.ix_t2, DL.ix_t3, DL.ix_t4, DL.ix_l0, DL.ix_l1, DL.ix_l2, Int.reduceLT, Int.reduceLE, Int.reduceNeg, Int.reduceAdd, Int.reduceSub, Int.reduceMul, Int.reduceToNat, Int.reduceBEq, Int.cast_ofNat_Int, List.all_map, Function.comp_def, id]
        · rw [List.length_nil, List.length_map, len_cps]; omega
        · rintro d hd
          obtain ⟨c, _, rfl⟩ := List.mem_map.mp hd
          exact ⟨_, rfl, by simp -implicitDefEqProofs only [wipeD, ok_bind, bad_bind, ex_bind, ofO_some, ofO_none, okIf_t, choose_t, choose_f, asB_b, asI_i, asS_s, asL_l, asD_d, asOb_ob, asO_o, slotD_0, slotD_s, slotO_0, slotO_s, slotOb_0, slotOb_s, slotA_d, slotA_ob, slotA_r, slotA_sc, slotA_s, slotSc_0, slotSc_s, seqK_nx, seqK_rt, seqK_bk, seqK_ct, loopK_nx, loopK_rt, loopK_bk, loopK_ct, outS_nx, outS_rt, run_ap, gName_ap, gNil_nil, gCons_cons, gTup_t, fmNil_ap, fmStr_s, fmAny_ap, fmEv_t, noEx_ok, unz_ok, view_nil, view_cons, viewO_n, viewO_d, viewO_o, viewO_ob, viewO_r, viewO_s, wipeD_nil, wipeD_cons, List.set_cons_succ, List.set_cons_zero, List.set_nil, List.length_cons, List.length_nil, Nat.reduceAdd, Nat.reduceLeDiff, Nat.reduceEqDiff, Nat.reduceLT, decide_true, decide_false, Bool.not_true, Bool.not_false, Nat.zero_add, itemsAny_l, itemsAny_t, itemsAny_s, enumO_l, enumO_t, if_tt, if_ff, Option.bind_some, Bool.and_true, Bool.true_and, Bool.and_self, ↓reduceIte, fVar_ap, fC_ap, fBin_ap, fUn_ap, fChain_ap, fVal_ap, fbNot_ap, fbAnd_ap, fbOr_ap, fAnd_ap, fOr_ap, fNot_ap, fIf_ap, fNil_ap, fCons_ap, fTup_ap, fLst_ap, fFrz_ap, fCall_ap, fCallL_ap, fONone_ap, fOSome_ap, fSl_ap, fAnil_ap, fAd_ap, fAv_ap, fFn_ap, fFnOb_ap, fVarOb_ap, fSeq_ap, fNext_ap, fRet_ap, fRetN_ap, fRetOb_ap, fIfS_ap, fDrop_ap, fBrk_ap, fCnt_ap, fAsg_ap, fOwn_ap, fSetOb_ap, fFor_ap, fItems_ap, fScr_ap, fLenS_ap, fR1_ap, fR2_ap, fWhile_ap, fYes_ap, fComp_ap, fSetL_ap, fComp2_ap, fvD_ap, fvO_ap, fvB_ap, fSet_ap, fPar_ap, fView_ap, fbView_ap, flView_ap, fAppend_ap, fAppPop_ap, fRev_ap, fExt_ap, fFreeze_ap, fEnum_ap, fJoin_ap, fPut_ap, fListRange_ap, fMatch_ap, fField_ap, fRecPut_ap, fPnil_ap, fPcons_ap, fRec_ap, fNever_ap, DL.le_ii, DL.lt_ii, DL.gt_ii, DL.ge_ii, DL.sub_ii, DL.add_ii, DL.neg_i, DL.eq_ii, DL.ne_ii, DL.len_l, DL.len_t, DL.int1_i, DL.max2_ii, DL.min2_ii, DL.tuple_l, DL.tuple_t, DL.list_l, DL.list_t, DL.revL_l, rev_l, DL.isN_n, DL.isN_t, DL.isN_i, DL.notN_n, DL.notN_t, DL.notN_i, DL.isInt_i, DL.isInt_b, DL.isInt_s, DL.isInt_n, DL.isInt_l, DL.isInt_t, DL.isInt_d, DL.isBool_i, DL.isBool_b, DL.isBool_s, DL.isBool_n, DL.isBool_l, DL.isBool_t, DL.isBool_d, DL.isStr_i, DL.isStr_b, DL.isStr_s, DL.isStr_n, DL.isStr_l, DL.isStr_t, DL.isStr_d, DL.isTup_i, DL.isTup_b, DL.isTup_s, DL.isTup_n, DL.isTup_l, DL.isTup_t, DL.isTup_d, DL.ix_t0, DL.ix_t1, DL.ix_t2, DL.ix_t3, DL.ix_t4, DL.ix_l0, DL.ix_l1, DL.ix_l2, Int.reduceLT, Int.reduceLE, Int.reduceNeg, Int.reduceAdd, Int.reduceSub, Int.reduceMul, Int.reduceToNat, Int.reduceBEq, Int.cast_ofNat_Int, e_is_rhythm_1_ap, in_x]⟩
      · simp -implicitDefEqProofs only [h3, ok_bind, bad_bind, ex_bind, ofO_some, ofO_none, okIf_t, choose_t, choose_f, asB_b, asI_i, asS_s, asL_l, asD_d, asOb_ob, asO_o, slotD_0, slotD_s, slotO_0, slotO_s, slotOb_0, slotOb_s, slotA_d, slotA_ob, slotA_r, slotA_sc, slotA_s, slotSc_0, slotSc_s, seqK_nx, seqK_rt, seqK_bk, seqK_ct, loopK_nx, loopK_rt, loopK_bk, loopK_ct, outS_nx, outS_rt, run_ap, gName_ap, gNil_nil, gCons_cons, gTup_t, fmNil_ap, fmStr_s, fmAny_ap, fmEv_t, noEx_ok, unz_ok, view_nil, view_cons, viewO_n, viewO_d, viewO_o, viewO_ob, viewO_r, viewO_s, wipeD_nil, wipeD_cons, List.set_cons_succ, List.set_cons_zero, List.set_nil, List.length_cons, List.length_nil, Nat.reduceAdd, Nat.reduceLeDiff, Nat.reduceEqDiff, Nat.reduceLT, decide_true, decide_false, Bool.not_true, Bool.not_false, Nat.zero_add, itemsAny_l, itemsAny_t, itemsAny_s, enumO_l, enumO_t, if_tt, if_ff, Option.bind_some, Bool.and_true, Bool.true_and, Bool.and_self, ↓reduceIte, fVar_ap, fC_ap, fBin_ap, fUn_ap, fChain_ap, fVal_ap, fbNot_ap, fbAnd_ap, fbOr_ap, fAnd_ap, fOr_ap, fNot_ap, fIf_ap, fNil_ap, fCons_ap, fTup_ap, fLst_ap, fFrz_ap, fCall_ap, fCallL_ap, fONone_ap, fOSome_ap, fSl_ap, fAnil_ap, fAd_ap, fAv_ap, fFn_ap, fFnOb_ap, fVarOb_ap, fSeq_ap, fNext_ap, fRet_ap, fRetN_ap, fRetOb_ap, fIfS_ap, fDrop_ap, fBrk_ap, fCnt_ap, fAsg_ap, fOwn_ap, fSetOb_ap, fFor_ap, fItems_ap, fScr_ap, fLenS_ap, fR1_ap, fR2_ap, fWhile_ap, fYes_ap, fComp_ap, fSetL_ap, fComp2_ap, fvD_ap, fvO_ap, fvB_ap, fSet_ap, fPar_ap, fView_ap, fbView_ap, flView_ap, fAppend_ap, fAppPop_ap, fRev_ap, fExt_ap, fFreeze_ap, fEnum_ap, fJoin_ap, fPut_ap, fListRange_ap, fMatch_ap, fField_ap, fRecPut_ap, fPnil_ap, fPcons_ap, fRec_ap, fNever_ap, DL.le_ii, DL.lt_ii, DL.gt_ii, DL.ge_ii, DL.sub_ii, DL.add_ii, DL.neg_i, DL.eq_ii, DL.ne_ii, DL.len_l, DL.len_t, DL.int1_i, DL.max2_ii, DL.min2_ii, DL.tuple_l, DL.tuple_t, DL.list_l, DL.list_t, DL.revL_l, rev_l, DL.isN_n, DL.isN_t, DL.isN_i, DL.notN_n, DL.notN_t, DL.notN_i, DL.isInt_i, DL.isInt_b, DL.isInt_s, DL.isInt_n, DL.isInt_l, DL.isInt_t, DL.isInt_d, DL.isBool_i, DL.isBool_b, DL.isBool_s, DL.isBool_n, DL.isBool_l, DL.isBool_t, DL.isBool_d, DL.isStr_i, DL.isStr_b, DL.isStr_s, DL.isStr_n, DL.isStr_l, DL.isStr_t, DL.isStr_d, DL.isTup_i, DL.isTup_b, DL.isTup_s, DL.isTup_n, DL.isTup_l, DL.isTup_t, DL.isTup_d, DL.ix_t0, DL.ix_t1, DL.ix_t2, DL.ix_t3, DL.ix_t4, DL.ix_l0, DL.ix_l1, DL.ix_l2, Int.reduceLT, Int.reduceLE, Int.reduceNeg, Int.reduceAdd, Int.reduceSub, Int.reduceMul, Int.reduceToNat, Int.reduceBEq, Int.cast_ofNat_Int, Bool.false_and]
    · have e2 : decide (((s.length : Nat) : Int) ≤ 8) = false := decide_eq_false (by omega)
      have e1 : decide ((1 : Int) ≤ (s.length : Nat)) = true := decide_eq_true (by omega)
      simp -implicitDefEqProofs only [e1, e2, h1, h2, ok_bind, bad_bind, ex_bind, ofO_some, ofO_none, okIf_t, choose_t, choose_f, asB_b, asI_i, asS_s, asL_l, asD_d, asOb_ob, asO_o, slotD_0, slotD_s, slotO_0, slotO_s, slotOb_0, slotOb_s, slotA_d, slotA_ob, slotA_r, slotA_sc, slotA_s, slotSc_0, slotSc_s, seqK_nx, seqK_rt, seqK_bk, seqK_ct, loopK_nx, loopK_rt, loopK_bk, loopK_ct, outS_nx, outS_rt, run_ap, gName_ap, gNil_nil, gCons_cons, gTup_t, fmNil_ap, fmStr_s, fmAny_ap, fmEv_t, noEx_ok, unz_ok, view_nil, view_cons, viewO_n, viewO_d, viewO_o, viewO_ob, viewO_r, viewO_s, wipeD_nil, wipeD_cons, List.set_cons_succ, List.set_cons_zero, List.set_nil, List.length_cons, List.length_nil, Nat.reduceAdd, Nat.reduceLeDiff, Nat.reduceEqDiff, Nat.reduceLT, decide_true, decide_false, Bool.not_true, Bool.not_false, Nat.zero_add, itemsAny_l, itemsAny_t, itemsAny_s, enumO_l, enumO_t, if_tt, if_ff, Option.bind_some, Bool.and_true, Bool.true_and, Bool.and_self, ↓reduceIte, fVar_ap, fC_ap, fBin_ap, fUn_ap, fChain_ap, fVal_ap, fbNot_ap, fbAnd_ap, fbOr_ap, fAnd_ap, fOr_ap, fNot_ap, fIf_ap, fNil_ap, fCons_ap, fTup_ap, fLst_ap, fFrz_ap, fCall_ap, fCallL_ap, fONone_ap, fOSome_ap, fSl_ap, fAnil_ap, fAd_ap, fAv_ap, fFn_ap, fFnOb_ap, fVarOb_ap, fSeq_ap, fNext_ap, fRet_ap, fRetN_ap, fRetOb_ap, fIfS_ap, fDrop_ap, fBrk_ap, fCnt_ap, fAsg_ap, fOwn_ap, fSetOb_ap, fFor_ap, fItems_ap, fScr_ap, fLenS_ap, fR1_ap, fR2_ap, fWhile_ap, fYes_ap, fComp_ap, fSetL_ap, fComp2_ap, fvD_ap, fvO_ap, fvB_ap, fSet_ap, fPar_ap, fView_ap, fbView_ap, flView_ap, fAppend_ap, fAppPop_ap, fRev_ap, fExt_ap, fFreeze_ap, fEnum_ap, fJoin_ap, fPut_ap, fListRange_ap, fMatch_ap, fField_ap, fRecPut_ap, fPnil_ap, fPcons_ap, fRec_ap, fNever_ap, DL.le_ii, DL.lt_ii, DL.gt_ii, DL.ge_ii, DL.sub_ii, DL.add_ii, DL.neg_i, DL.eq_ii, DL.ne_ii, DL.len_l, DL.len_t, DL.int1_i, DL.max2_ii, DL.min2_ii, DL.tuple_l, DL.tuple_t, DL.list_l, DL.list_t, DL.revL_l, rev_l, DL.isN_n, DL.isN_t, DL.isN_i, DL.notN_n, DL.notN_t, DL.notN_i, DL.isInt_i, DL.isInt_b, DL.isInt_s, DL.isInt_n, DL.isInt_l, DL.isInt_t, DL.isInt_d, DL.isBool_i, DL.isBool_b, DL.isBool_s, DL.isBool_n, DL.isBool_l, DL.isBool_t, DL.isBool_d, DL.isStr_i, DL.isStr_b, DL.isStr_s, DL.isStr_n, DL.isStr_l, DL.isStr_t, DL.isStr_d, DL.isTup_i, DL.isTup_b, DL.isTup_s, DL.isTup_n, DL.isTup_l, DL.isTup_t, DL.isTup_d, DL.ix_t0, DL.ix_t1, DL.ix_t2, DL.ix_t3, DL.ix_t4, DL.ix_l0, DL.ix_l1, DL.ix_l2, Int.reduceLT, Int.reduceLE, Int.reduceNeg, Int.reduceAdd, Int.reduceSub, Int.reduceMul, Int.reduceToNat, Int.reduceBEq, Int.cast_ofNat_Int, Bool.true_and, Bool.false_and]
  · have e1 : decide ((1 : Int) ≤ (s.length : Nat)) = false := decide_eq_false (by omega)
    simp -implicitDefEqProofs only [e1, h1, ok_bind, bad_bind, ex_bind, ofO_some, ofO_none, okIf_t, choose_t, choose_f, asB_b, asI_i, asS_s, asL_l, asD_d, asOb_ob, asO_o, slotD_0, slotD_s, slotO_0, slotO_s, slotOb_0, slotOb_s, slotA_d, slotA_ob, slotA_r, slotA_sc, slotA_s, slotSc_0, slotSc_s, seqK_nx, seqK_rt, seqK_bk, seqK_ct, loopK_nx, loopK_rt, loopK_bk, loopK_ct, outS_nx, outS_rt, run_ap, gName_ap, gNil_nil, gCons_cons, gTup_t, fmNil_ap, fmStr_s, fmAny_ap, fmEv_t, noEx_ok, unz_ok, view_nil, view_cons, viewO_n, viewO_d, viewO_o, viewO_ob, viewO_r, viewO_s, wipeD_nil, wipeD_cons, List.set_cons_succ, List.set_cons_zero, List.set_nil, List.length_cons, List.length_nil, Nat.reduceAdd, Nat.reduceLeDiff, Nat.reduceEqDiff, Nat.reduceLT, decide_true, decide_false, Bool.not_true, Bool.not_false, Nat.zero_add, itemsAny_l, itemsAny_t, itemsAny_s, enumO_l, enumO_t, if_tt, if_ff, Option.bind_some, Bool.and_true, Bool.true_and, Bool.and_self, ↓reduceIte, fVar_ap, fC_ap, fBin_ap, fUn_ap, fChain_ap, fVal_ap, fbNot_ap, fbAnd_ap, fbOr_ap, fAnd_ap, fOr_ap, fNot_ap, fIf_ap, fNil_ap, fCons_ap, fTup_ap, fLst_ap, fFrz_ap, fCall_ap, fCallL_ap, fONone_ap, fOSome_ap, fSl_ap, fAnil_ap, fAd_ap, fAv_ap, fFn_ap, fFnOb_ap, fVarOb_ap, fSeq_ap, fNext_ap, fRet_ap, fRetN_ap, fRetOb_ap, fIfS_ap, fDrop_ap, fBrk_ap, fCnt_ap, fAsg_ap, fOwn_ap, fSetOb_ap, fFor_ap, fItems_ap, fScr_ap, fLenS_ap, fR1_ap, fR2_ap, fWhile_ap, fYes_ap, fComp_ap, fSetL_ap, fComp2_ap, fvD_ap, fvO_ap, fvB_ap, fSet_ap, fPar_ap, fView_ap, fbView_ap, flView_ap, fAppend_ap, fAppPop_ap, fRev_ap, fExt_ap, fFreeze_ap, fEnum_ap, fJoin_ap, fPut_ap, fListRange_ap, fMatch_ap, fField_ap, fRecPut_ap, fPnil_ap, fPcons_ap, fRec_ap, fNever_ap, DL.le_ii, DL.lt_ii, DL.gt_ii, DL.ge_ii, DL.sub_ii, DL.add_ii, DL.neg_i, DL.eq_ii, DL.ne_ii, DL.len_l, DL.len_t, DL.int1_i, DL.max2_ii, DL.min2_ii, DL.tuple_l, DL.tuple_t, DL.list_l, DL.list_t, DL.revL_l, rev_l, DL.isN_n, DL.isN_t, DL.isN_i, DL.notN_n, DL.notN_t, DL.notN_i, DL.isInt_i, DL.isInt_b, DL.isInt_s, DL.isInt_n, DL.isInt_l, DL.isInt_t, DL.isInt_d, DL.isBool_i, DL.isBool_b, DL.isBool_s, DL.isBool_n, DL.isBool_l, DL.isBool_t, DL.isBool_d, DL.isStr_i, DL.isStr_b, DL.isStr_s, DL.isStr_n, DL.isStr_l, DL.isStr_t, DL.isStr_d, DL.isTup_i, DL.isTup_b, DL.isTup_s, DL.isTup_n, DL.isTup_l, DL.isTup_t, DL.isTup_d, DL.ix_t0, DL.ix_t1, DL.ix_t2, DL.ix_t3, DL.ix_t4, DL.ix_l0, DL.ix_l1, DL.ix_l2, Int.reduceLT, Int.reduceLE, Int.reduceNeg, Int.reduceAdd, Int.reduceSub, Int.reduceMul, Int.reduceToNat, Int.reduceBEq, Int.cast_ofNat_Int, Bool.false_and]
noncomputable def b_setting_fault : FS := (fSeq (fIfS (fbOr (fbNot (fVal (fUn DL.isTupD (fVar 0)))) (fVal (fBin DL.neD (fCall DL.lenD (fCons (fVar 0) fNil)) (fC (.int 5))))) (fRet (fTup fNil)) fNext) (fSeq (fAsg (fVar 0) (gTup 5 (gCons (gName 1) (gCons (gName 2) (gCons (gName 3) (gCons (gName 4) (gCons (gName 5) gNil))))))) (fSeq (fSet 6 (fvO (fLst (fCons (fTup (fCons (fC (.str "order")) (fCons (fFn 2 F_is_word_of (fAd (fVar 1) (fAd (fC (.tuple [(.str "up"), (.str "down"), (.str "bounce"), (.str "swing"), (.str "outside"), (.str "played")])) fAnil))) fNil))) (fCons (fTup (fCons (fC (.str "octaves")) (fCons (fFn 3 F_is_whole (fAd (fVar 2) (fAd (fC (.int 1)) (fAd (fC (.int 3)) fAnil)))) fNil))) fNil))))) (fSeq (fExt 6 (fFrz (fLst (fCons (fTup (fCons (fC (.str "rhythm")) (fCons (fFn 1 F_is_rhythm (fAd (fVar 3) fAnil)) fNil))) (fCons (fTup (fCons (fC (.str "change")) (fCons (fFn 2 F_is_word_of (fAd (fVar 4) (fAd (fC (.tuple [(.str "stay"), (.str "again"), (.str "follow")])) fAnil))) fNil))) fNil))))) (fFreeze 6 (fSeq (fSetL 7 (fComp (fItems (fBin DL.addD (fVar 6) (fFrz (fLst (fCons (fTup (fCons (fC (.str "latch")) (fCons (fUn DL.isBoolD (fVar 5)) fNil))) fNil))))) (gTup 2 (gCons (gName 8) (gCons (gName 9) gNil))) (fbNot (fVal (fVar 9))) (fVar 8) [8, 9])) (fRet (fIf (fVal (fBin DL.neD (fVar 7) (fFrz (fLst fNil)))) (fTup (fCons (fBin DL.ixD (fVar 7) (fC (.int 0))) fNil)) (fC .none)))))))))
theorem b_setting_fault_ap {ρ : Sl} {z : Z} : b_setting_fault ρ z = (fSeq (fIfS (fbOr (fbNot (fVal (fUn DL.isTupD (fVar 0)))) (fVal (fBin DL.neD (fCall DL.lenD (fCons (fVar 0) fNil)) (fC (.int 5))))) (fRet (fTup fNil)) fNext) (fSeq (fAsg (fVar 0) (gTup 5 (gCons (gName 1) (gCons (gName 2) (gCons (gName 3) (gCons (gName 4) (gCons (gName 5) gNil))))))) (fSeq (fSet 6 (fvO (fLst (fCons (fTup (fCons (fC (.str "order")) (fCons (fFn 2 F_is_word_of (fAd (fVar 1) (fAd (fC (.tuple [(.str "up"), (.str "down"), (.str "bounce"), (.str "swing"), (.str "outside"), (.str "played")])) fAnil))) fNil))) (fCons (fTup (fCons (fC (.str "octaves")) (fCons (fFn 3 F_is_whole (fAd (fVar 2) (fAd (fC (.int 1)) (fAd (fC (.int 3)) fAnil)))) fNil))) fNil))))) (fSeq (fExt 6 (fFrz (fLst (fCons (fTup (fCons (fC (.str "rhythm")) (fCons (fFn 1 F_is_rhythm (fAd (fVar 3) fAnil)) fNil))) (fCons (fTup (fCons (fC (.str "change")) (fCons (fFn 2 F_is_word_of (fAd (fVar 4) (fAd (fC (.tuple [(.str "stay"), (.str "again"), (.str "follow")])) fAnil))) fNil))) fNil))))) (fFreeze 6 (fSeq (fSetL 7 (fComp (fItems (fBin DL.addD (fVar 6) (fFrz (fLst (fCons (fTup (fCons (fC (.str "latch")) (fCons (fUn DL.isBoolD (fVar 5)) fNil))) fNil))))) (gTup 2 (gCons (gName 8) (gCons (gName 9) gNil))) (fbNot (fVal (fVar 9))) (fVar 8) [8, 9])) (fRet (fIf (fVal (fBin DL.neD (fVar 7) (fFrz (fLst fNil)))) (fTup (fCons (fBin DL.ixD (fVar 7) (fC (.int 0))) fNil)) (fC .none))))))))) ρ z := rfl
noncomputable def F_setting_fault : Fu := fnOf ["thing", "order", "octaves", "rhythm", "change", "latch", "rows", "wrong", "word", "is_right"] b_setting_fault
theorem F_setting_fault_eq {x0 : S} {z : Z} : F_setting_fault [x0] z = (b_setting_fault [some x0, none, none, none, none, none, none, none, none, none] z).bind outS := rfl
theorem isBool_any {d : D} : DL.isBoolD d = some (.bool (isB d)) := by cases d <;> rfl
theorem short_str {d : D} (h : shortD d) : ∀ s, d = .str s → s.length ≤ 100000 := by rintro s rfl; exact h
theorem word_ord {d : D} {z : Z} : F_is_word_of [.d d, .d (.tuple [.str "up", .str "down", .str "bounce", .str "swing", .str "outside", .str "played"])] z = .ok (.d (.bool (isWord d ordersS))) z := v_is_word_of (ws := ordersS)
theorem word_chg {d : D} {z : Z} : F_is_word_of [.d d, .d (.tuple [.str "stay", .str "again", .str "follow"])] z = .ok (.d (.bool (isWord d changesS))) z := v_is_word_of (ws := changesS)
theorem fault_comp {ρ : Sl} {z : Z} (hl : ρ.length = 10) (rows : List (Str × Bool)) (hr : rows.length ≤ 1000) :
    fCompL [8, 9] (gTup 2 (gCons (gName 8) (gCons (gName 9) gNil))) (fbNot (fVal (fVar 9))) (fVar 8) ρ (rows.map rowD) [] z = .ok ((wrongs rows).map .str) z := by
  match ρ, hl with
  | [x0, x1, x2, x3, x4, x5, x6, x7, x8, x9], _ =>
    rw [comp_filter (h := fun d => match d with | .tuple [a, _] => a | _ => .none) (t := fun d => match d with | .tuple [_, .bool b] => !b | _ => false)]
    · unfold wrongs
      rw [List.nil_append, List.filter_map, List.map_map, List.map_map]
      rfl
    · simp; omega
    · intro d hd
      obtain ⟨r, _, rfl⟩ := List.mem_map.mp hd
      refine ⟨_, rfl, ?_, fun _ => ?_⟩
      · simp -implicitDefEqProofs only [rowD, wipeD, ok_bind, bad_bind, ex_bind, ofO_some, ofO_none, okIf_t, choose_t, choose_f, asB_b, asI_i, asS_s, asL_l, asD_d, asOb_ob, asO_o, slotD_0, slotD_s, slotO_0, slotO_s, slotOb_0, slotOb_s, slotA_d, slotA_ob, slotA_r, slotA_sc, slotA_s, slotSc_0, slotSc_s, seqK_nx, seqK_rt, seqK_bk, seqK_ct, loopK_nx, loopK_rt, loopK_bk, loopK_ct, outS_nx, outS_rt, run_ap, gName_ap, gNil_nil, gCons_cons, gTup_t, fmNil_ap, fmStr_s, fmAny_ap, fmEv_t, noEx_ok, unz_ok, view_nil, view_cons, viewO_n, viewO_d, viewO_o, viewO_ob, viewO_r, viewO_s, wipeD_nil, wipeD_cons, List.set_cons_succ, List.set_cons_zero, List.set_nil, List.length_cons, List.length_nil, Nat.reduceAdd, Nat.reduceLeDiff, Nat.reduceEqDiff, Nat.reduceLT, decide_true, decide_false, Bool.not_true, Bool.not_false, Nat.zero_add, itemsAny_l, itemsAny_t, itemsAny_s, enumO_l, enumO_t, if_tt, if_ff, Option.bind_some, Bool.and_true, Bool.true_and, Bool.and_self, ↓reduceIte, fVar_ap, fC_ap, fBin_ap, fUn_ap, fChain_ap, fVal_ap, fbNot_ap, fbAnd_ap, fbOr_ap, fAnd_ap, fOr_ap, fNot_ap, fIf_ap, fNil_ap, fCons_ap, fTup_ap, fLst_ap, fFrz_ap, fCall_ap, fCallL_ap, fONone_ap, fOSome_ap, fSl_ap, fAnil_ap, fAd_ap, fAv_ap, fFn_ap, fFnOb_ap, fVarOb_ap, fSeq_ap, fNext_ap, fRet_ap, fRetN_ap, fRetOb_ap, fIfS_ap, fDrop_ap, fBrk_ap, fCnt_ap, fAsg_ap, fOwn_ap, fSetOb_ap, fFor_ap, fItems_ap, fScr_ap, fLenS_ap, fR1_ap, fR2_ap, fWhile_ap, fYes_ap, fComp_ap, fSetL_ap, fComp2_ap, fvD_ap, fvO_ap, fvB_ap, fSet_ap, fPar_ap, fView_ap, fbView_ap, flView_ap, fAppend_ap, fAppPop_ap, fRev_ap, fExt_ap, fFreeze_ap, fEnum_ap, fJoin_ap, fPut_ap, fListRange_ap, fMatch_ap, fField_ap, fRecPut_ap, fPnil_ap, fPcons_ap, fRec_ap, fNever_ap, DL.le_ii, DL.lt_ii, DL.gt_ii, DL.ge_ii, DL.sub_ii, DL.add_ii, DL.neg_i, DL.eq_ii, DL.ne_ii, DL.len_l, DL.len_t, DL.int1_i, DL.max2_ii, DL.min2_ii, DL.tuple_l, DL.tuple_t, DL.list_l, DL.list_t, DL.revL_l, rev_l, DL.isN_n, DL.isN_t, DL.isN_i, DL.notN_n, DL.notN_t, DL.notN_i, DL.isInt_i, DL.isInt_b, DL.isInt_s, DL.isInt_n, DL.isInt_l, DL.isInt_t, DL.isInt_d, DL.isBool_i, DL.isBool_b, DL.isBool_s, DL.isBool_n, DL.isBool_l, DL.isBool_t, DL.isBool_d, DL.isStr_i, DL.isStr_b, DL.isStr_s, DL.isStr_n, DL.isStr_l, DL.isStr_t, DL.isStr_d, DL.isTup_i, DL.isTup_b, DL.isTup_s, DL.isTup_n, DL.isTup_l, DL.isTup_t, DL.isTup_d, DL.ix_t0, DL.ix_t1, DL.ix_t2, DL.ix_t3, DL.ix_t4, DL.ix_l0, DL.ix_l1, DL.ix_l2, Int.reduceLT, Int.reduceLE, Int.reduceNeg, Int.reduceAdd, Int.reduceSub, Int.reduceMul, Int.reduceToNat, Int.reduceBEq, Int.cast_ofNat_Int]
      · simp -implicitDefEqProofs only [rowD, wipeD, ok_bind, bad_bind, ex_bind, ofO_some, ofO_none, okIf_t, choose_t, choose_f, asB_b, asI_i, asS_s, asL_l, asD_d, asOb_ob, asO_o, slotD_0, slotD_s, slotO_0, slotO_s, slotOb_0, slotOb_s, slotA_d, slotA_ob, slotA_r, slotA_sc, slotA_s, slotSc_0, slotSc_s, seqK_nx, seqK_rt, seqK_bk, seqK_ct, loopK_nx, loopK_rt, loopK_bk, loopK_ct, outS_nx, outS_rt, run_ap, gName_ap, gNil_nil, gCons_cons, gTup_t, fmNil_ap, fmStr_s, fmAny_ap, fmEv_t, noEx_ok, unz_ok, view_nil, view_cons, viewO_n, viewO_d, viewO_o, viewO_ob, viewO_r, viewO_s, wipeD_nil, wipeD_cons, List.set_cons_succ, List.set_cons_zero, List.set_nil, List.length_cons, List.length_nil, Nat.reduceAdd, Nat.reduceLeDiff, Nat.reduceEqDiff, Nat.reduceLT, decide_true, decide_false, Bool.not_true, Bool.not_false, Nat.zero_add, itemsAny_l, itemsAny_t, itemsAny_s, enumO_l, enumO_t, if_tt, if_ff, Option.bind_some, Bool.and_true, Bool.true_and, Bool.and_self, ↓reduceIte, fVar_ap, fC_ap, fBin_ap, fUn_ap, fChain_ap, fVal_ap, fbNot_ap, fbAnd_ap, fbOr_ap, fAnd_ap, fOr_ap, fNot_ap, fIf_ap, fNil_ap, fCons_ap, fTup_ap, fLst_ap, fFrz_ap, fCall_ap, fCallL_ap, fONone_ap, fOSome_ap, fSl_ap, fAnil_ap, fAd_ap, fAv_ap, fFn_ap, fFnOb_ap, fVarOb_ap, fSeq_ap, fNext_ap, fRet_ap, fRetN_ap, fRetOb_ap, fIfS_ap, fDrop_ap, fBrk_ap, fCnt_ap, fAsg_ap, fOwn_ap, fSetOb_ap, fFor_ap, fItems_ap, fScr_ap, fLenS_ap, fR1_ap, fR2_ap, fWhile_ap, fYes_ap, fComp_ap, fSetL_ap, fComp2_ap, fvD_ap, fvO_ap, fvB_ap, fSet_ap, fPar_ap, fView_ap, fbView_ap, flView_ap, fAppend_ap, fAppPop_ap, fRev_ap, fExt_ap, fFreeze_ap, fEnum_ap, fJoin_ap, fPut_ap, fListRange_ap, fMatch_ap, fField_ap, fRecPut_ap, fPnil_ap, fPcons_ap, fRec_ap, fNever_ap, DL.le_ii, DL.lt_ii, DL.gt_ii, DL.ge_ii, DL.sub_ii, DL.add_ii, DL.neg_i, DL.eq_ii, DL.ne_ii, DL.len_l, DL.len_t, DL.int1_i, DL.max2_ii, DL.min2_ii, DL.tuple_l, DL.tuple_t, DL.list_l, DL.list_t, DL.revL_l, rev_l, DL.isN_n, DL.isN_t, DL.isN_i, DL.notN_n, DL.notN_t, DL.notN_i, DL.isInt_i, DL.isInt_b, DL.isInt_s, DL.isInt_n, DL.isInt_l, DL.isInt_t, DL.isInt_d, DL.isBool_i, DL.isBool_b, DL.isBool_s, DL.isBool_n, DL.isBool_l, DL.isBool_t, DL.isBool_d, DL.isStr_i, DL.isStr_b, DL.isStr_s, DL.isStr_n, DL.isStr_l, DL.isStr_t, DL.isStr_d, DL.isTup_i, DL.isTup_b, DL.isTup_s, DL.isTup_n, DL.isTup_l, DL.isTup_t, DL.isTup_d, DL.ix_t0, DL.ix_t1, DL.ix_t2, DL.ix_t3, DL.ix_t4, DL.ix_l0, DL.ix_l1, DL.ix_l2, Int.reduceLT, Int.reduceLE, Int.reduceNeg, Int.reduceAdd, Int.reduceSub, Int.reduceMul, Int.reduceToNat, Int.reduceBEq, Int.cast_ofNat_Int]
theorem v_setting_fault {d : D} {z : Z} (h : ∀ o oc r c l, d = .tuple [o, oc, r, c, l] → shortD r) : F_setting_fault [.d d] z = .ok (.d (faultD d)) z := by
  rw [F_setting_fault_eq]
  cases d with
  | tuple ds =>
    by_cases hl : ds.length = 5
    · match ds, hl, h with
      | [o, oc, r, c, l], _, h =>
        have hr := short_str (h o oc r c l rfl)
        simp -implicitDefEqProofs only [b_setting_fault, ok_bind, bad_bind, ex_bind, ofO_some, ofO_none, okIf_t, choose_t, choose_f, asB_b, asI_i, asS_s, asL_l, asD_d, asOb_ob, asO_o, slotD_0, slotD_s, slotO_0, slotO_s, slotOb_0, slotOb_s, slotA_d, slotA_ob, slotA_r, slotA_sc, slotA_s, slotSc_0, slotSc_s, seqK_nx, seqK_rt, seqK_bk, seqK_ct, loopK_nx, loopK_rt, loopK_bk, loopK_ct, outS_nx, outS_rt, run_ap, gName_ap, gNil_nil, gCons_cons, gTup_t, fmNil_ap, fmStr_s, fmAny_ap, fmEv_t, noEx_ok, unz_ok, view_nil, view_cons, viewO_n, viewO_d, viewO_o, viewO_ob, viewO_r, viewO_s, wipeD_nil, wipeD_cons, List.set_cons_succ, List.set_cons_zero, List.set_nil, List.length_cons, List.length_nil, Nat.reduceAdd, Nat.reduceLeDiff, Nat.reduceEqDiff, Nat.reduceLT, decide_true, decide_false, Bool.not_true, Bool.not_false, Nat.zero_add, itemsAny_l, itemsAny_t, itemsAny_s, enumO_l, enumO_t, if_tt, if_ff, Option.bind_some, Bool.and_true, Bool.true_and, Bool.and_self, ↓reduceIte, fVar_ap, fC_ap, fBin_ap, fUn_ap, fChain_ap, fVal_ap, fbNot_ap, fbAnd_ap, fbOr_ap, fAnd_ap, fOr_ap, fNot_ap, fIf_ap, fNil_ap, fCons_ap, fTup_ap, fLst_ap, fFrz_ap, fCall_ap, fCallL_ap, fONone_ap, fOSome_ap, fSl_ap, fAnil_ap, fAd_ap, fAv_ap, fFn_ap, fFnOb_ap, fVarOb_ap, fSeq_ap, fNext_ap, fRet_ap, fRetN_ap, fRetOb_ap, fIfS_ap, fDrop_ap, fBrk_ap, fCnt_ap, fAsg_ap, fOwn_ap, fSetOb_ap, fFor_ap, fItems_ap, fScr_ap, fLenS_ap, fR1_ap, fR2_ap, fWhile_ap, fYes_ap, fComp_ap, fSetL_ap, fComp2_ap, fvD_ap, fvO_ap, fvB_ap, fSet_ap, fPar_ap, fView_ap, fbView_ap, flView_ap, fAppend_ap, fAppPop_ap, fRev_ap, fExt_ap, fFreeze_ap, fEnum_ap, fJoin_ap, fPut_ap, fListRange_ap, fMatch_ap, fField_ap, fRecPut_ap, fPnil_ap, fPcons_ap, fRec_ap, fNever_ap, DL.le_ii, DL.lt_ii, DL.gt_ii, DL.ge_ii, DL.sub_ii, DL.add_ii, DL.neg_i, DL.eq_ii, DL.ne_ii, DL.len_l, DL.len_t, DL.int1_i, DL.max2_ii, DL.min2_ii, DL.tuple_l, DL.tuple_t, DL.list_l, DL.list_t, DL.revL_l, rev_l, DL.isN_n, DL.isN_t, DL.isN_i, DL.notN_n, DL.notN_t, DL.notN_i, DL.isInt_i, DL.isInt_b, DL.isInt_s, DL.isInt_n, DL.isInt_l, DL.isInt_t, DL.isInt_d, DL.isBool_i, DL.isBool_b, DL.isBool_s, DL.isBool_n, DL.isBool_l, DL.isBool_t, DL.isBool_d, DL.isStr_i, DL.isStr_b, DL.isStr_s, DL.isStr_n, DL.isStr_l, DL.isStr_t, DL.isStr_d, DL.isTup_i, DL.isTup_b, DL.isTup_s, DL.isTup_n, DL.isTup_l, DL.isTup_t, DL.isTup_d, DL.ix_t0, DL.ix_t1, DL.ix_t2, DL.ix_t3, DL.ix_t4, DL.ix_l0, DL.ix_l1, DL.ix_l2, Int.reduceLT, Int.reduceLE, Int.reduceNeg, Int.reduceAdd, Int.reduceSub, Int.reduceMul, Int.reduceToNat, Int.reduceBEq, Int.cast_ofNat_Int, word_ord, word_chg, v_is_whole, v_is_rhythm hr, isBool_any, beq_self_eq_true, List.cons_append, List.nil_append, DL.add_ll, faultD]
        have e := fault_comp (ρ := [some (.d (.tuple [o, oc, r, c, l])), some (.d o), some (.d oc), some (.d r), some (.d c), some (.d l), some (.d (.list [.tuple [.str "order", .bool (isWord o ordersS)], .tuple [.str "octaves", .bool (isWhole oc 1 3)], .tuple [.str "rhythm", .bool (isRhythm r)], .tuple [.str "change", .bool (isWord c changesS)]])), none, none, none]) (z := z) rfl (rowsOf o oc r c l) (by show 5 ≤ 1000; decide)
        simp only [rowsOf, List.map_cons, List.map_nil, rowD] at e
        rw [e, ok_bind]
        have e2 := ne_wrongs (isWord o ordersS) (isWhole oc 1 3) (isRhythm r) (isWord c changesS) (isB l)
        simp -implicitDefEqProofs only [ok_bind, bad_bind, ex_bind, ofO_some, ofO_none, okIf_t, choose_t, choose_f, asB_b, asI_i, asS_s, asL_l, asD_d, asOb_ob, asO_o, slotD_0, slotD_s, slotO_0, slotO_s, slotOb_0, slotOb_s, slotA_d, slotA_ob, slotA_r, slotA_sc, slotA_s, slotSc_0, slotSc_s, seqK_nx, seqK_rt, seqK_bk, seqK_ct, loopK_nx, loopK_rt, loopK_bk, loopK_ct, outS_nx, outS_rt, run_ap, gName_ap, gNil_nil, gCons_cons, gTup_t, fmNil_ap, fmStr_s, fmAny_ap, fmEv_t, noEx_ok, unz_ok, view_nil, view_cons, viewO_n, viewO_d, viewO_o, viewO_ob, viewO_r, viewO_s, wipeD_nil, wipeD_cons, List.set_cons_succ, List.set_cons_zero, List.set_nil, List.length_cons, List.length_nil, Nat.reduceAdd, Nat.reduceLeDiff, Nat.reduceEqDiff, Nat.reduceLT, decide_true, decide_false, Bool.not_true, Bool.not_false, Nat.zero_add, itemsAny_l, itemsAny_t, itemsAny_s, enumO_l, enumO_t, if_tt, if_ff, Option.bind_some, Bool.and_true, Bool.true_and, Bool.and_self, ↓reduceIte, fVar_ap, fC_ap, fBin_ap, fUn_ap, fChain_ap, fVal_ap, fbNot_ap, fbAnd_ap, fbOr_ap, fAnd_ap, fOr_ap, fNot_ap, fIf_ap, fNil_ap, fCons_ap, fTup_ap, fLst_ap, fFrz_ap, fCall_ap, fCallL_ap, fONone_ap, fOSome_ap, fSl_ap, fAnil_ap, fAd_ap, fAv_ap, fFn_ap, fFnOb_ap, fVarOb_ap, fSeq_ap, fNext_ap, fRet_ap, fRetN_ap, fRetOb_ap, fIfS_ap, fDrop_ap, fBrk_ap, fCnt_ap, fAsg_ap, fOwn_ap, fSetOb_ap, fFor_ap, fItems_ap, fScr_ap, fLenS_ap, fR1_ap, fR2_ap, fWhile_ap, fYes_ap, fComp_ap, fSetL_ap, fComp2_ap, fvD_ap, fvO_ap, fvB_ap, fSet_ap, fPar_ap, fView_ap, fbView_ap, flView_ap, fAppend_ap, fAppPop_ap, fRev_ap, fExt_ap, fFreeze_ap, fEnum_ap, fJoin_ap, fPut_ap, fListRange_ap, fMatch_ap, fField_ap, fRecPut_ap, fPnil_ap, fPcons_ap, fRec_ap, fNever_ap, DL.le_ii, DL.lt_ii, DL.gt_ii, DL.ge_ii, DL.sub_ii, DL.add_ii, DL.neg_i, DL.eq_ii, DL.ne_ii, DL.len_l, DL.len_t, DL.int1_i, DL.max2_ii, DL.min2_ii, DL.tuple_l, DL.tuple_t, DL.list_l, DL.list_t, DL.revL_l, rev_l, DL.isN_n, DL.isN_t, DL.isN_i, DL.notN_n, DL.notN_t, DL.notN_i, DL.isInt_i, DL.isInt_b, DL.isInt_s, DL.isInt_n, DL.isInt_l, DL.isInt_t, DL.isInt_d, DL.isBool_i, DL.isBool_b, DL.isBool_s, DL.isBool_n, DL.isBool_l, DL.isBool_t, DL.isBool_d, DL.isStr_i, DL.isStr_b, DL.isStr_s, DL.isStr_n, DL.isStr_l, DL.isStr_t, DL.isStr_d, DL.isTup_i, DL.isTup_b, DL.isTup_s, DL.isTup_n, DL.isTup_l, DL.isTup_t, DL.isTup_d, DL.ix_t0, DL.ix_t1, DL.ix_t2, DL.ix_t3, DL.ix_t4, DL.ix_l0, DL.ix_l1, DL.ix_l2, Int.reduceLT, Int.reduceLE, Int.reduceNeg, Int.reduceAdd, Int.reduceSub, Int.reduceMul, Int.reduceToNat, Int.reduceBEq, Int.cast_ofNat_Int, faultOf, rowsOf, e2]
        cases wrongs [("order", isWord o ordersS), ("octaves", isWhole oc 1 3), ("rhythm", isRhythm r), ("change", isWord c changesS), ("latch", isB l)] with
        | nil => simp -implicitDefEqProofs only [ok_bind, bad_bind, ex_bind, ofO_some, ofO_none, okIf_t, choose_t, choose_f, asB_b, asI_i, asS_s, asL_l, asD_d, asOb_ob, asO_o, slotD_0, slotD_s, slotO_0, slotO_s, slotOb_0, slotOb_s, slotA_d, slotA_ob, slotA_r, slotA_sc, slotA_s, slotSc_0, slotSc_s, seqK_nx, seqK_rt, seqK_bk, seqK_ct, loopK_nx, loopK_rt, loopK_bk, loopK_ct, outS_nx, outS_rt, run_ap, gName_ap, gNil_nil, gCons_cons, gTup_t, fmNil_ap, fmStr_s, fmAny_ap, fmEv_t, noEx_ok, unz_ok, view_nil, view_cons, viewO_n, viewO_d, viewO_o, viewO_ob, viewO_r, viewO_s, wipeD_nil, wipeD_cons, List.set_cons_succ, List.set_cons_zero, List.set_nil, List.length_cons, List.length_nil, Nat.reduceAdd, Nat.reduceLeDiff, Nat.reduceEqDiff, Nat.reduceLT, decide_true, decide_false, Bool.not_true, Bool.not_false, Nat.zero_add, itemsAny_l, itemsAny_t, itemsAny_s, enumO_l, enumO_t, if_tt, if_ff, Option.bind_some, Bool.and_true, Bool.true_and, Bool.and_self, ↓reduceIte, fVar_ap, fC_ap, fBin_ap, fUn_ap, fChain_ap, fVal_ap, fbNot_ap, fbAnd_ap, fbOr_ap, fAnd_ap, fOr_ap, fNot_ap, fIf_ap, fNil_ap, fCons_ap, fTup_ap, fLst_ap, fFrz_ap, fCall_ap, fCallL_ap, fONone_ap, fOSome_ap, fSl_ap, fAnil_ap, fAd_ap, fAv_ap, fFn_ap, fFnOb_ap, fVarOb_ap, fSeq_ap, fNext_ap, fRet_ap, fRetN_ap, fRetOb_ap, fIfS_ap, fDrop_ap, fBrk_ap, fCnt_ap, fAsg_ap, fOwn_ap, fSetOb_ap, fFor_ap, fItems_ap, fScr_ap, fLenS_ap, fR1_ap, fR2_ap, fWhile_ap, fYes_ap, fComp_ap, fSetL_ap, fComp2_ap, fvD_ap, fvO_ap, fvB_ap, fSet_ap, fPar_ap, fView_ap, fbView_ap, flView_ap, fAppend_ap, fAppPop_ap, fRev_ap, fExt_ap, fFreeze_ap, fEnum_ap, fJoin_ap, fPut_ap, fListRange_ap, fMatch_ap, fField_ap, fRecPut_ap, fPnil_ap, fPcons_ap, fRec_ap, fNever_ap, DL.le_ii, DL.lt_ii, DL.gt_ii, DL.ge_ii, DL.sub_ii, DL.add_ii, DL.neg_i, DL.eq_ii, DL.ne_ii, DL.len_l, DL.len_t, DL.int1_i, DL.max2_ii, DL.min2_ii, DL.tuple_l, DL.tuple_t, DL.list_l, DL.list_t, DL.revL_l, rev_l, DL.isN_n, DL.isN_t, DL.isN_i, DL.notN_n, DL.notN_t, DL.notN_i, DL.isInt_i, DL.isInt_b, DL.isInt_s, DL.isInt_n, DL.isInt_l, DL.isInt_t, DL.isInt_d, DL.isBool_i, DL.isBool_b, DL.isBool_s, DL.isBool_n, DL.isBool_l, DL.isBool_t, DL.isBool_d, DL.isStr_i, DL.isStr_b, DL.isStr_s, DL.isStr_n, DL.isStr_l, DL.isStr_t, DL.isStr_d, DL.isTup_i, DL.isTup_b, DL.isTup_s, DL.isTup_n, DL.isTup_l, DL.isTup_t, DL.isTup_d, DL.ix_t0, DL.ix_t1, DL.ix_t2, DL.ix_t3, DL.ix_t4, DL.ix_l0, DL.ix_l1, DL.ix_l2, Int.reduceLT, Int.reduceLE, Int.reduceNeg, Int.reduceAdd, Int.reduceSub, Int.reduceMul, Int.reduceToNat, Int.reduceBEq, Int.cast_ofNat_Int, List.isEmpty_nil]
        | cons w ws => simp -implicitDefEqProofs only [ok_bind, bad_bind, ex_bind, ofO_some, ofO_none, okIf_t, choose_t, choose_f, asB_b, asI_i, asS_s, asL_l, asD_d, asOb_ob, asO_o, slotD_0, slotD_s, slotO_0, slotO_s, slotOb_0, slotOb_s, slotA_d, slotA_ob, slotA_r, slotA_sc, slotA_s, slotSc_0, slotSc_s, seqK_nx, seqK_rt, seqK_bk, seqK_ct, loopK_nx, loopK_rt, loopK_bk, loopK_ct, outS_nx, outS_rt, run_ap, gName_ap, gNil_nil, gCons_cons, gTup_t, fmNil_ap, fmStr_s, fmAny_ap, fmEv_t, noEx_ok, unz_ok, view_nil, view_cons, viewO_n, viewO_d, viewO_o, viewO_ob, viewO_r, viewO_s, wipeD_nil, wipeD_cons, List.set_cons_succ, List.set_cons_zero, List.set_nil, List.length_cons, List.length_nil, Nat.reduceAdd, Nat.reduceLeDiff, Nat.reduceEqDiff, Nat.reduceLT, decide_true, decide_false, Bool.not_true, Bool.not_false, Nat.zero_add, itemsAny_l, itemsAny_t, itemsAny_s, enumO_l, enumO_t, if_tt, if_ff, Option.bind_some, Bool.and_true, Bool.true_and, Bool.and_self, ↓reduceIte, fVar_ap, fC_ap, fBin_ap, fUn_ap, fChain_ap, fVal_ap, fbNot_ap, fbAnd_ap, fbOr_ap, fAnd_ap, fOr_ap, fNot_ap, fIf_ap, fNil_ap, fCons_ap, fTup_ap, fLst_ap, fFrz_ap, fCall_ap, fCallL_ap, fONone_ap, fOSome_ap, fSl_ap, fAnil_ap, fAd_ap, fAv_ap, fFn_ap, fFnOb_ap, fVarOb_ap, fSeq_ap, fNext_ap, fRet_ap, fRetN_ap, fRetOb_ap, fIfS_ap, fDrop_ap, fBrk_ap, fCnt_ap, fAsg_ap, fOwn_ap, fSetOb_ap, fFor_ap, fItems_ap, fScr_ap, fLenS_ap, fR1_ap, fR2_ap, fWhile_ap, fYes_ap, fComp_ap, fSetL_ap, fComp2_ap, fvD_ap, fvO_ap, fvB_ap, fSet_ap, fPar_ap, fView_ap, fbView_ap, flView_ap, fAppend_ap, fAppPop_ap, fRev_ap, fExt_ap, fFreeze_ap, fEnum_ap, fJoin_ap, fPut_ap, fListRange_ap, fMatch_ap, fField_ap, fRecPut_ap, fPnil_ap, fPcons_ap, fRec_ap, fNever_ap, DL.le_ii, DL.lt_ii, DL.gt_ii, DL.ge_ii, DL.sub_ii, DL.add_ii, DL.neg_i, DL.eq_ii, DL.ne_ii, DL.len_l, DL.len_t, DL.int1_i, DL.max2_ii, DL.min2_ii, DL.tuple_l, DL.tuple_t, DL.list_l, DL.list_t, DL.revL_l, rev_l, DL.isN_n, DL.isN_t, DL.isN_i, DL.notN_n, DL.notN_t, DL.notN_i, DL.isInt_i, DL.isInt_b, DL.isInt_s, DL.isInt_n, DL.isInt_l, DL.isInt_t, DL.isInt_d, DL.isBool_i, DL.isBool_b, DL.isBool_s, DL.isBool_n, DL.isBool_l, DL.isBool_t, DL.isBool_d, DL.isStr_i, DL.isStr_b, DL.isStr_s, DL.isStr_n, DL.isStr_l, DL.isStr_t, DL.isStr_d, DL.isTup_i, DL.isTup_b, DL.isTup_s, DL.isTup_n, DL.isTup_l, DL.isTup_t, DL.isTup_d, DL.ix_t0, DL.ix_t1, DL.ix_t2, DL.ix_t3, DL.ix_t4, DL.ix_l0, DL.ix_l1, DL.ix_l2, Int.reduceLT, Int.reduceLE, Int.reduceNeg, Int.reduceAdd, Int.reduceSub, Int.reduceMul, Int.reduceToNat, Int.reduceBEq, Int.cast_ofNat_Int, List.isEmpty_cons, List.map_cons]
    · have e : faultD (.tuple ds) = .tuple [] := by
        match ds, hl with
        | [], _ => rfl
        | [_], _ => rfl
        | [_, _], _ => rfl
        | [_, _, _], _ => rfl
        | [_, _, _, _], _ => rfl
        | _ :: _ :: _ :: _ :: _ :: _ :: _, _ => rfl
      have e2 : (((ds.length : Nat) : Int) == 5) = false := beq_eq_false_iff_ne.mpr (by omega)
      rw [e]
      simp -implicitDefEqProofs only [b_setting_fault, ok_bind, bad_bind, ex_bind, ofO_some, ofO_none, okIf_t, choose_t, choose_f, asB_b, asI_i, asS_s, asL_l, asD_d, asOb_ob, asO_o, slotD_0, slotD_s, slotO_0, slotO_s, slotOb_0, slotOb_s, slotA_d, slotA_ob, slotA_r, slotA_sc, slotA_s, slotSc_0, slotSc_s, seqK_nx, seqK_rt, seqK_bk, seqK_ct, loopK_nx, loopK_rt, loopK_bk, loopK_ct, outS_nx, outS_rt, run_ap, gName_ap, gNil_nil, gCons_cons, gTup_t, fmNil_ap, fmStr_s, fmAny_ap, fmEv_t, noEx_ok, unz_ok, view_nil, view_cons, viewO_n, viewO_d, viewO_o, viewO_ob, viewO_r, viewO_s, wipeD_nil, wipeD_cons, List.set_cons_succ, List.set_cons_zero, List.set_nil, List.length_cons, List.length_nil, Nat.reduceAdd, Nat.reduceLeDiff, Nat.reduceEqDiff, Nat.reduceLT, decide_true, decide_false, Bool.not_true, Bool.not_false, Nat.zero_add, itemsAny_l, itemsAny_t, itemsAny_s, enumO_l, enumO_t, if_tt, if_ff, Option.bind_some, Bool.and_true, Bool.true_and, Bool.and_self, ↓reduceIte, fVar_ap, fC_ap, fBin_ap, fUn_ap, fChain_ap, fVal_ap, fbNot_ap, fbAnd_ap, fbOr_ap, fAnd_ap, fOr_ap, fNot_ap, fIf_ap, fNil_ap, fCons_ap, fTup_ap, fLst_ap, fFrz_ap, fCall_ap, fCallL_ap, fONone_ap, fOSome_ap, fSl_ap, fAnil_ap, fAd_ap, fAv_ap, fFn_ap, fFnOb_ap, fVarOb_ap, fSeq_ap, fNext_ap, fRet_ap, fRetN_ap, fRetOb_ap, fIfS_ap, fDrop_ap, fBrk_ap, fCnt_ap, fAsg_ap, fOwn_ap, fSetOb_ap, fFor_ap, fItems_ap, fScr_ap, fLenS_ap, fR1_ap, fR2_ap, fWhile_ap, fYes_ap, fComp_ap, fSetL_ap, fComp2_ap, fvD_ap, fvO_ap, fvB_ap, fSet_ap, fPar_ap, fView_ap, fbView_ap, flView_ap, fAppend_ap, fAppPop_ap, fRev_ap, fExt_ap, fFreeze_ap, fEnum_ap, fJoin_ap, fPut_ap, fListRange_ap, fMatch_ap, fField_ap, fRecPut_ap, fPnil_ap, fPcons_ap, fRec_ap, fNever_ap, DL.le_ii, DL.lt_ii, DL.gt_ii, DL.ge_ii, DL.sub_ii, DL.add_ii, DL.neg_i, DL.eq_ii, DL.ne_ii, DL.len_l, DL.len_t, DL.int1_i, DL.max2_ii, DL.min2_ii, DL.tuple_l, DL.tuple_t, DL.list_l, DL.list_t, DL.revL_l, rev_l, DL.isN_n, DL.isN_t, DL.isN_i, DL.notN_n, DL.notN_t, DL.notN_i, DL.isInt_i, DL.isInt_b, DL.isInt_s, DL.isInt_n, DL.isInt_l, DL.isInt_t, DL.isInt_d, DL.isBool_i, DL.isBool_b, DL.isBool_s, DL.isBool_n, DL.isBool_l, DL.isBool_t, DL.isBool_d, DL.isStr_i, DL.isStr_b, DL.isStr_s, DL.isStr_n, DL.isStr_l, DL.isStr_t, DL.isStr_d, DL.isTup_i, DL.isTup_b, DL.isTup_s, DL.isTup_n, DL.isTup_l, DL.isTup_t, DL.isTup_d, DL.ix_t0, DL.ix_t1, DL.ix_t2, DL.ix_t3, DL.ix_t4, DL.ix_l0, DL.ix_l1, DL.ix_l2, Int.reduceLT, Int.reduceLE, Int.reduceNeg, Int.reduceAdd, Int.reduceSub, Int.reduceMul, Int.reduceToNat, Int.reduceBEq, Int.cast_ofNat_Int, e2]
  | _ => simp -implicitDefEqProofs only [b_setting_fault, ok_bind, bad_bind, ex_bind, ofO_some, ofO_none, okIf_t, choose_t, choose_f, asB_b, asI_i, asS_s, asL_l, asD_d, asOb_ob, asO_o, slotD_0, slotD_s, slotO_0, slotO_s, slotOb_0, slotOb_s, slotA_d, slotA_ob, slotA_r, slotA_sc, slotA_s, slotSc_0, slotSc_s, seqK_nx, seqK_rt, seqK_bk, seqK_ct, loopK_nx, loopK_rt, loopK_bk, loopK_ct, outS_nx, outS_rt, run_ap, gName_ap, gNil_nil, gCons_cons, gTup_t, fmNil_ap, fmStr_s, fmAny_ap, fmEv_t, noEx_ok, unz_ok, view_nil, view_cons, viewO_n, viewO_d, viewO_o, viewO_ob, viewO_r, viewO_s, wipeD_nil, wipeD_cons, List.set_cons_succ, List.set_cons_zero, List.set_nil, List.length_cons, List.length_nil, Nat.reduceAdd, Nat.reduceLeDiff, Nat.reduceEqDiff, Nat.reduceLT, decide_true, decide_false, Bool.not_true, Bool.not_false, Nat.zero_add, itemsAny_l, itemsAny_t, itemsAny_s, enumO_l, enumO_t, if_tt, if_ff, Option.bind_some, Bool.and_true, Bool.true_and, Bool.and_self, ↓reduceIte, fVar_ap, fC_ap, fBin_ap, fUn_ap, fChain_ap, fVal_ap, fbNot_ap, fbAnd_ap, fbOr_ap, fAnd_ap, fOr_ap, fNot_ap, fIf_ap, fNil_ap, fCons_ap, fTup_ap, fLst_ap, fFrz_ap, fCall_ap, fCallL_ap, fONone_ap, fOSome_ap, fSl_ap, fAnil_ap, fAd_ap, fAv_ap, fFn_ap, fFnOb_ap, fVarOb_ap, fSeq_ap, fNext_ap, fRet_ap, fRetN_ap, fRetOb_ap, fIfS_ap, fDrop_ap, fBrk_ap, fCnt_ap, fAsg_ap, fOwn_ap, fSetOb_ap, fFor_ap, fItems_ap, fScr_ap, fLenS_ap, fR1_ap, fR2_ap, fWhile_ap, fYes_ap, fComp_ap, fSetL_ap, fComp2_ap, fvD_ap, fvO_ap, fvB_ap, fSet_ap, fPar_ap, fView_ap, fbView_ap, flView_ap, fAppend_ap, fAppPop_ap, fRev_ap, fExt_ap, fFreeze_ap, fEnum_ap, fJoin_ap, fPut_ap, fListRange_ap, fMatch_ap, fField_ap, fRecPut_ap, fPnil_ap, fPcons_ap, fRec_ap, fNever_ap, DL.le_ii, DL.lt_ii, DL.gt_ii, DL.ge_ii, DL.sub_ii, DL.add_ii, DL.neg_i, DL.eq_ii, DL.ne_ii, DL.len_l, DL.len_t, DL.int1_i, DL.max2_ii, DL.min2_ii, DL.tuple_l, DL.tuple_t, DL.list_l, DL.list_t, DL.revL_l, rev_l, DL.isN_n, DL.isN_t, DL.isN_i, DL.notN_n, DL.notN_t, DL.notN_i, DL.isInt_i, DL.isInt_b, DL.isInt_s, DL.isInt_n, DL.isInt_l, DL.isInt_t, DL.isInt_d, DL.isBool_i, DL.isBool_b, DL.isBool_s, DL.isBool_n, DL.isBool_l, DL.isBool_t, DL.isBool_d, DL.isStr_i, DL.isStr_b, DL.isStr_s, DL.isStr_n, DL.isStr_l, DL.isStr_t, DL.isStr_d, DL.isTup_i, DL.isTup_b, DL.isTup_s, DL.isTup_n, DL.isTup_l, DL.isTup_t, DL.isTup_d, DL.ix_t0, DL.ix_t1, DL.ix_t2, DL.ix_t3, DL.ix_t4, DL.ix_l0, DL.ix_l1, DL.ix_l2, Int.reduceLT, Int.reduceLE, Int.reduceNeg, Int.reduceAdd, Int.reduceSub, Int.reduceMul, Int.reduceToNat, Int.reduceBEq, Int.cast_ofNat_Int, faultD]
noncomputable def b_need_setting : FS := (fSeq (fSet 1 (fvD (fFn 1 F_setting_fault (fAd (fVar 0) fAnil)))) (fSeq (fIfS (fVal (fBin DL.notND (fVar 1) (fC .none))) fNever fNext) (fRet (fVar 0))))
theorem b_need_setting_ap {ρ : Sl} {z : Z} : b_need_setting ρ z = (fSeq (fSet 1 (fvD (fFn 1 F_setting_fault (fAd (fVar 0) fAnil)))) (fSeq (fIfS (fVal (fBin DL.notND (fVar 1) (fC .none))) fNever fNext) (fRet (fVar 0)))) ρ z := rfl
noncomputable def F_need_setting : Fu := fnOf ["thing", "place"] b_need_setting
theorem F_need_setting_eq {x0 : S} {z : Z} : F_need_setting [x0] z = (b_need_setting [some x0, none] z).bind outS := rfl
theorem stg_short {s : Stg} (ok : s.Ok) : ∀ o oc r c l, s.d = .tuple [o, oc, r, c, l] → shortD r := by
  intro o oc r c l e
  cases e
  exact short_ok ok
theorem v_need_setting {s : Stg} {z : Z} (ok : s.Ok) : F_need_setting [.d s.d] z = .ok (.d s.d) z := by
  rw [F_need_setting_eq]
  simp -implicitDefEqProofs only [b_need_setting, ok_bind, bad_bind, ex_bind, ofO_some, ofO_none, okIf_t, choose_t, choose_f, asB_b, asI_i, asS_s, asL_l, asD_d, asOb_ob, asO_o, slotD_0, slotD_s, slotO_0, slotO_s, slotOb_0, slotOb_s, slotA_d, slotA_ob, slotA_r, slotA_sc, slotA_s, slotSc_0, slotSc_s, seqK_nx, seqK_rt, seqK_bk, seqK_ct, loopK_nx, loopK_rt, loopK_bk, loopK_ct, outS_nx, outS_rt, run_ap, gName_ap, gNil_nil, gCons_cons, gTup_t, fmNil_ap, fmStr_s, fmAny_ap, fmEv_t, noEx_ok, unz_ok, view_nil, view_cons, viewO_n, viewO_d, viewO_o, viewO_ob, viewO_r, viewO_s, wipeD_nil, wipeD_cons, List.set_cons_succ, List.set_cons_zero, List.set_nil, List.length_cons, List.length_nil, Nat.reduceAdd, Nat.reduceLeDiff, Nat.reduceEqDiff, Nat.reduceLT, decide_true, decide_false, Bool.not_true, Bool.not_false, Nat.zero_add, itemsAny_l, itemsAny_t, itemsAny_s, enumO_l, enumO_t, if_tt, if_ff, Option.bind_some, Bool.and_true, Bool.true_and, Bool.and_self, ↓reduceIte, fVar_ap, fC_ap, fBin_ap, fUn_ap, fChain_ap, fVal_ap, fbNot_ap, fbAnd_ap, fbOr_ap, fAnd_ap, fOr_ap, fNot_ap, fIf_ap, fNil_ap, fCons_ap, fTup_ap, fLst_ap, fFrz_ap, fCall_ap, fCallL_ap, fONone_ap, fOSome_ap, fSl_ap, fAnil_ap, fAd_ap, fAv_ap, fFn_ap, fFnOb_ap, fVarOb_ap, fSeq_ap, fNext_ap, fRet_ap, fRetN_ap, fRetOb_ap, fIfS_ap, fDrop_ap, fBrk_ap, fCnt_ap, fAsg_ap, fOwn_ap, fSetOb_ap, fFor_ap, fItems_ap, fScr_ap, fLenS_ap, fR1_ap, fR2_ap, fWhile_ap, fYes_ap, fComp_ap, fSetL_ap, fComp2_ap, fvD_ap, fvO_ap, fvB_ap, fSet_ap, fPar_ap, fView_ap, fbView_ap, flView_ap, fAppend_ap, fAppPop_ap, fRev_ap, fExt_ap, fFreeze_ap, fEnum_ap, fJoin_ap, fPut_ap, fListRange_ap, fMatch_ap, fField_ap, fRecPut_ap, fPnil_ap, fPcons_ap, fRec_ap, fNever_ap, DL.le_ii, DL.lt_ii, DL.gt_ii, DL.ge_ii, DL.sub_ii, DL.add_ii, DL.neg_i, DL.eq_ii, DL.ne_ii, DL.len_l, DL.len_t, DL.int1_i, DL.max2_ii, DL.min2_ii, DL.tuple_l, DL.tuple_t, DL.list_l, DL.list_t, DL.revL_l, rev_l, DL.isN_n, DL.isN_t, DL.isN_i, DL.notN_n, DL.notN_t, DL.notN_i, DL.isInt_i, DL.isInt_b, DL.isInt_s, DL.isInt_n, DL.isInt_l, DL.isInt_t, DL.isInt_d, DL.isBool_i, DL.isBool_b, DL.isBool_s, DL.isBool_n, DL.isBool_l, DL.isBool_t, DL.isBool_d, DL.isStr_i, DL.isStr_b, DL.isStr_s, DL.isStr_n, DL.isStr_l, DL.isStr_t, DL.isStr_d, DL.isTup_i, DL.isTup_b, DL.isTup_s, DL.isTup_n, DL.isTup_l, DL.isTup_t, DL.isTup_d, DL.ix_t0, DL.ix_t1, DL.ix_t2, DL.ix_t3, DL.ix_t4, DL.ix_l0, DL.ix_l1, DL.ix_l2, Int.reduceLT, Int.reduceLE, Int.reduceNeg, Int.reduceAdd, Int.reduceSub, Int.reduceMul, Int.reduceToNat, Int.reduceBEq, Int.cast_ofNat_Int, v_setting_fault (stg_short ok), fault_ok ok]
noncomputable def e_tone_row_1 : FX := (fBin DL.addD (fVar 4) (fBin DL.mulD (fC (.int 12)) (fVar 3)))
theorem e_tone_row_1_ap {ρ : Sl} {z : Z} : e_tone_row_1 ρ z = (fBin DL.addD (fVar 4) (fBin DL.mulD (fC (.int 12)) (fVar 3))) ρ z := rfl
noncomputable def b_tone_row : FS := (fSeq (fSet 2 (fvD (fIf (fVal (fBin DL.eqD (fBin DL.ixD (fVar 0) (fC (.int 0))) (fC (.str "played")))) (fFrz (fCallL DL.listD (fCons (fVar 1) fNil))) (fFrz (fCallL DL.sortedD (fCons (fVar 1) fNil)))))) (fRet (fFrz (fComp2 (fR1 (fCons (fBin DL.ixD (fVar 0) (fC (.int 1))) fNil)) (gName 3) fYes (fItems (fVar 2)) (gName 4) fYes e_tone_row_1 [3, 4] [4]))))
theorem b_tone_row_ap {ρ : Sl} {z : Z} : b_tone_row ρ z = (fSeq (fSet 2 (fvD (fIf (fVal (fBin DL.eqD (fBin DL.ixD (fVar 0) (fC (.int 0))) (fC (.str "played")))) (fFrz (fCallL DL.listD (fCons (fVar 1) fNil))) (fFrz (fCallL DL.sortedD (fCons (fVar 1) fNil)))))) (fRet (fFrz (fComp2 (fR1 (fCons (fBin DL.ixD (fVar 0) (fC (.int 1))) fNil)) (gName 3) fYes (fItems (fVar 2)) (gName 4) fYes e_tone_row_1 [3, 4] [4])))) ρ z := rfl
noncomputable def F_tone_row : Fu := fnOf ["setting", "chord", "keys", "octave", "key"] b_tone_row
theorem F_tone_row_eq {x0 x1 : S} {z : Z} : F_tone_row [x0, x1] z = (b_tone_row [some x0, some x1, none, none, none] z).bind outS := rfl
theorem range_len {a : Int} {n : Nat} : (DL.rangeD a n).length = n := by unfold DL.rangeD; rw [List.length_map, List.length_range]
theorem rng1_nat {n : Nat} (h : n ≤ 100000) : rng1 [.int (n : Nat)] = some (DL.rangeD 0 n) := by
  show (if (decide (-1000000000 ≤ ((n : Nat) : Int)) && decide (((n : Nat) : Int) ≤ 1000000000)) = true then some (DL.rangeD 0 ((n : Nat) : Int).toNat) else none) = _
  rw [if_pos]
  · rw [Int.toNat_natCast]
  · rw [Bool.and_eq_true, decide_eq_true_eq, decide_eq_true_eq]
    constructor <;> omega
theorem rangeD_eq {n : Nat} : DL.rangeD 0 n = (List.range n).map fun j => .int ((j : Nat) : Int) := by
  unfold DL.rangeD
  congr 1
  funext i
  rw [Int.zero_add]
theorem eq_played {s : Stg} (ok : s.Ok) : eqD (.str s.o) (.str "played") = some (.bool (decide (s.o = "played"))) := DL.eq_ss (ord_ok ok.o) (by decide +kernel)
theorem row_comp {s : Stg} {c : Option S} {ks : List Int} {z : Z} (h : s.oct ≤ 3) (hk : ks.length ≤ 1000) : fComp2L [3, 4] [4] (gName 3) fYes (fItems (fVar 2)) (gName 4) fYes e_tone_row_1 [some (.d s.d), c, some (.d (.list (ks.map .int))), none, none] (DL.rangeD 0 s.oct) [] z = .ok ((rowI s.oct ks).map .int) z := by
  rw [rangeD_eq, comp2_flat (k := fun d => match d with | .int j => ks.map fun k => .int (k + 12 * j) | _ => [])]
  · rw [List.nil_append, rowI, List.map_flatMap, List.flatMap_map]
    congr 2
    funext j
    rw [List.map_map]
    rfl
  · simp; omega
  · intro d hd
    obtain ⟨j, hj, rfl⟩ := List.mem_map.mp hd
    rw [List.mem_range] at hj
    refine ⟨_, ks.map .int, fun d => match d with | .int k => .int (k + 12 * ((j : Nat) : Int)) | d => d, rfl, by simp -implicitDefEqProofs only [wipeD, ok_bind, bad_bind, ex_bind, ofO_some, ofO_none, okIf_t, choose_t, choose_f, asB_b, asI_i, asS_s, asL_l, asD_d, asOb_ob, asO_o, slotD_0, slotD_s, slotO_0, slotO_s, slotOb_0, slotOb_s, slotA_d, slotA_ob, slotA_r, slotA_sc, slotA_s, slotSc_0, slotSc_s, seqK_nx, seqK_rt, seqK_bk, seqK_ct, loopK_nx, loopK_rt, loopK_bk, loopK_ct, outS_nx, outS_rt, run_ap, gName_ap, gNil_nil, gCons_cons, gTup_t, fmNil_ap, fmStr_s, fmAny_ap, fmEv_t, noEx_ok, unz_ok, view_nil, view_cons, viewO_n, viewO_d, viewO_o, viewO_ob, viewO_r, viewO_s, wipeD_nil, wipeD_cons, List.set_cons_succ, List.set_cons_zero, List.set_nil, List.length_cons, List.length_nil, Nat.reduceAdd, Nat.reduceLeDiff, Nat.reduceEqDiff, Nat.reduceLT, decide_true, decide_false, Bool.not_true, Bool.not_false, Nat.zero_add, itemsAny_l, itemsAny_t, itemsAny_s, enumO_l, enumO_t, if_tt, if_ff, Option.bind_some, Bool.and_true, Bool.true_and, Bool.and_self, ↓reduceIte, fVar_ap, fC_ap, fBin_ap, fUn_ap, fChain_ap, fVal_ap, fbNot_ap, fbAnd_ap, fbOr_ap, fAnd_ap, fOr_ap, fNot_ap, fIf_ap, fNil_ap, fCons_ap, fTup_ap, fLst_ap, fFrz_ap, fCall_ap, fCallL_ap, fONone_ap, fOSome_ap, fSl_ap, fAnil_ap, fAd_ap, fAv_ap, fFn_ap, fFnOb_ap, fVarOb_ap, fSeq_ap, fNext_ap, fRet_ap, fRetN_ap, fRetOb_ap, fIfS_ap, fDrop_ap, fBrk_ap, fCnt_ap, fAsg_ap, fOwn_ap, fSetOb_ap, fFor_ap, fItems_ap, fScr_ap, fLenS_ap, fR1_ap, fR2_ap, fWhile_ap, fYes_ap, fComp_ap, fSetL_ap, fComp2_ap, fvD_ap, fvO_ap, fvB_ap, fSet_ap, fPar_ap, fView_ap, fbView_ap, flView_ap, fAppend_ap, fAppPop_ap, fRev_ap, fExt_ap, fFreeze_ap, fEnum_ap, fJoin_ap, fPut_ap, fListRange_ap, fMatch_ap, fField_ap, fRecPut_ap, fPnil_ap, fPcons_ap, fRec_ap, fNever_ap, DL.le_ii, DL.lt_ii, DL.gt_ii, DL.ge_ii, DL.sub_ii, DL.add_ii, DL.neg_i, DL.eq_ii, DL.ne_ii, DL.len_l, DL.len_t, DL.int1_i, DL.max2_ii, DL.min2_ii, DL.tuple_l, DL.tuple_t, DL.list_l, DL.list_t, DL.revL_l, rev_l, DL.isN_n, DL.isN_t, DL.isN_i, DL.notN_n, DL.notN_t, DL.notN_i, DL.isInt_i, DL.isInt_b, DL.isInt_s, DL.isInt_n, DL.isInt_l, DL.isInt_t, DL.isInt_d, DL.isBool_i, DL.isBool_b, DL.isBool_s, DL.isBool_n, DL.isBool_l, DL.isBool_t, DL.isBool_d, DL.isStr_i, DL.isStr_b, DL.isStr_s, DL.isStr_n, DL.isStr_l, DL.isStr_t, DL.isStr_d, DL.isTup_i, DL.isTup_b, DL.isTup_s, DL.isTup_n, DL.isTup_l, DL.isTup_t, DL.isTup_d, DL.ix_t0, DL.ix_t1, DL.ix_t2, DL.ix_t3, DL.ix_t4, DL.ix_l0, DL.ix_l1, DL.ix_l2, Int.reduceLT, Int.reduceLE, Int.reduceNeg, Int.reduceAdd, Int.reduceSub, Int.reduceMul, Int.reduceToNat, Int.reduceBEq, Int.cast_ofNat_Int], fun x hx => ?_, ?_, by rw [List.length_map]; exact hk⟩
    · obtain ⟨k, _, rfl⟩ := List.mem_map.mp hx
      refine ⟨_, rfl, ?_⟩
      have e : mulD (.int 12) (.int ((j : Nat) : Int)) = some (.int (12 * ((j : Nat) : Int))) := DL.mul_ii (by omega) (by omega)
      simp -implicitDefEqProofs only [wipeD, ok_bind, bad_bind, ex_bind, ofO_some, ofO_none, okIf_t, choose_t, choose_f, asB_b, asI_i, asS_s, asL_l, asD_d, asOb_ob, asO_o, slotD_0, slotD_s, slotO_0, slotO_s, slotOb_0, slotOb_s, slotA_d, slotA_ob, slotA_r, slotA_sc, slotA_s, slotSc_0, slotSc_s, seqK_nx, seqK_rt, seqK_bk, seqK_ct, loopK_nx, loopK_rt, loopK_bk, loopK_ct, outS_nx, outS_rt, run_ap, gName_ap, gNil_nil, gCons_cons, gTup_t, fmNil_ap, fmStr_s, fmAny_ap, fmEv_t, noEx_ok, unz_ok, view_nil, view_cons, viewO_n, viewO_d, viewO_o, viewO_ob, viewO_r, viewO_s, wipeD_nil, wipeD_cons, List.set_cons_succ, List.set_cons_zero, List.set_nil, List.length_cons, List.length_nil, Nat.reduceAdd, Nat.reduceLeDiff, Nat.reduceEqDiff, Nat.reduceLT, decide_true, decide_false, Bool.not_true, Bool.not_false, Nat.zero_add, itemsAny_l, itemsAny_t, itemsAny_s, enumO_l, enumO_t, if_tt, if_ff, Option.bind_some, Bool.and_true, Bool.true_and, Bool.and_self, ↓reduceIte, fVar_ap, fC_ap, fBin_ap, fUn_ap, fChain_ap, fVal_ap, fbNot_ap, fbAnd_ap, fbOr_ap, fAnd_ap, fOr_ap, fNot_ap, fIf_ap, fNil_ap, fCons_ap, fTup_ap, fLst_ap, fFrz_ap, fCall_ap, fCallL_ap, fONone_ap, fOSome_ap, fSl_ap, fAnil_ap, fAd_ap, fAv_ap, fFn_ap, fFnOb_ap, fVarOb_ap, fSeq_ap, fNext_ap, fRet_ap, fRetN_ap, fRetOb_ap, fIfS_ap, fDrop_ap, fBrk_ap, fCnt_ap, fAsg_ap, fOwn_ap, fSetOb_ap, fFor_ap, fItems_ap, fScr_ap, fLenS_ap, fR1_ap, fR2_ap, fWhile_ap, fYes_ap, fComp_ap, fSetL_ap, fComp2_ap, fvD_ap, fvO_ap, fvB_ap, fSet_ap, fPar_ap, fView_ap, fbView_ap, flView_ap, fAppend_ap, fAppPop_ap, fRev_ap, fExt_ap, fFreeze_ap, fEnum_ap, fJoin_ap, fPut_ap, fListRange_ap, fMatch_ap, fField_ap, fRecPut_ap, fPnil_ap, fPcons_ap, fRec_ap, fNever_ap, DL.le_ii, DL.lt_ii, DL.gt_ii, DL.ge_ii, DL.sub_ii, DL.add_ii, DL.neg_i, DL.eq_ii, DL.ne_ii, DL.len_l, DL.len_t, DL.int1_i, DL.max2_ii, DL.min2_ii, DL.tuple_l, DL.tuple_t, DL.list_l, DL.list_t, DL.revL_l, rev_l, DL.isN_n, DL.isN_t, DL.isN_i, DL.notN_n, DL.notN_t, DL.notN_i, DL.isInt_i, DL.isInt_b, DL.isInt_s, DL.isInt_n, DL.isInt_l, DL.isInt_t, DL.isInt_d, DL.isBool_i, DL.isBool_b, DL.isBool_s, DL.isBool_n, DL.isBool_l, DL.isBool_t, DL.isBool_d, DL.isStr_i, DL.isStr_b, DL.isStr_s, DL.isStr_n, DL.isStr_l, DL.isStr_t, DL.isStr_d, DL.isTup_i, DL.isTup_b, DL.isTup_s, DL.isTup_n, DL.isTup_l, DL.isTup_t, DL.isTup_d, DL.ix_t0, DL.ix_t1, DL.ix_t2, DL.ix_t3, DL.ix_t4, DL.ix_l0, DL.ix_l1, DL.ix_l2, Int.reduceLT, Int.reduceLE, Int.reduceNeg, Int.reduceAdd, Int.reduceSub, Int.reduceMul, Int.reduceToNat, Int.reduceBEq, Int.cast_ofNat_Int, e_tone_row_1_ap, e]
    · rw [List.map_map]
      rfl
theorem v_tone_row {s : Stg} {ns : List Int} {z : Z} (ok : s.Ok) (hn : ns.length ≤ 1000) : F_tone_row [.d s.d, .d (tupI ns)] z = .ok (.d (.list ((rowI s.oct (keysOf s.o ns)).map .int))) z := by
  rw [F_tone_row_eq]
  have ho := ok.oct
  simp -implicitDefEqProofs only [b_tone_row, ok_bind, bad_bind, ex_bind, ofO_some, ofO_none, okIf_t, choose_t, choose_f, asB_b, asI_i, asS_s, asL_l, asD_d, asOb_ob, asO_o, slotD_0, slotD_s, slotO_0, slotO_s, slotOb_0, slotOb_s, slotA_d, slotA_ob, slotA_r, slotA_sc, slotA_s, slotSc_0, slotSc_s, seqK_nx, seqK_rt, seqK_bk, seqK_ct, loopK_nx, loopK_rt, loopK_bk, loopK_ct, outS_nx, outS_rt, run_ap, gName_ap, gNil_nil, gCons_cons, gTup_t, fmNil_ap, fmStr_s, fmAny_ap, fmEv_t, noEx_ok, unz_ok, view_nil, view_cons, viewO_n, viewO_d, viewO_o, viewO_ob, viewO_r, viewO_s, wipeD_nil, wipeD_cons, List.set_cons_succ, List.set_cons_zero, List.set_nil, List.length_cons, List.length_nil, Nat.reduceAdd, Nat.reduceLeDiff, Nat.reduceEqDiff, Nat.reduceLT, decide_true, decide_false, Bool.not_true, Bool.not_false, Nat.zero_add, itemsAny_l, itemsAny_t, itemsAny_s, enumO_l, enumO_t, if_tt, if_ff, Option.bind_some, Bool.and_true, Bool.true_and, Bool.and_self, ↓reduceIte, fVar_ap, fC_ap, fBin_ap, fUn_ap, fChain_ap, fVal_ap, fbNot_ap, fbAnd_ap, fbOr_ap, fAnd_ap, fOr_ap, fNot_ap, fIf_ap, fNil_ap, fCons_ap, fTup_ap, fLst_ap, fFrz_ap, fCall_ap, fCallL_ap, fONone_ap, fOSome_ap, fSl_ap, fAnil_ap, fAd_ap, fAv_ap, fFn_ap, fFnOb_ap, fVarOb_ap, fSeq_ap, fNext_ap, fRet_ap, fRetN_ap, fRetOb_ap, fIfS_ap, fDrop_ap, fBrk_ap, fCnt_ap, fAsg_ap, fOwn_ap, fSetOb_ap, fFor_ap, fItems_ap, fScr_ap, fLenS_ap, fR1_ap, fR2_ap, fWhile_ap, fYes_ap, fComp_ap, fSetL_ap, fComp2_ap, fvD_ap, fvO_ap, fvB_ap, fSet_ap, fPar_ap, fView_ap, fbView_ap, flView_ap, fAppend_ap, fAppPop_ap, fRev_ap, fExt_ap, fFreeze_ap, fEnum_ap, fJoin_ap, fPut_ap, fListRange_ap, fMatch_ap, fField_ap, fRecPut_ap, fPnil_ap, fPcons_ap, fRec_ap, fNever_ap, DL.le_ii, DL.lt_ii, DL.gt_ii, DL.ge_ii, DL.sub_ii, DL.add_ii, DL.neg_i, DL.eq_ii, DL.ne_ii, DL.len_l, DL.len_t, DL.int1_i, DL.max2_ii, DL.min2_ii, DL.tuple_l, DL.tuple_t, DL.list_l, DL.list_t, DL.revL_l, rev_l, DL.isN_n, DL.isN_t, DL.isN_i, DL.notN_n, DL.notN_t, DL.notN_i, DL.isInt_i, DL.isInt_b, DL.isInt_s, DL.isInt_n, DL.isInt_l, DL.isInt_t, DL.isInt_d, DL.isBool_i, DL.isBool_b, DL.isBool_s, DL.isBool_n, DL.isBool_l, DL.isBool_t, DL.isBool_d, DL.isStr_i, DL.isStr_b, DL.isStr_s, DL.isStr_n, DL.isStr_l, DL.isStr_t, DL.isStr_d, DL.isTup_i, DL.isTup_b, DL.isTup_s, DL.isTup_n, DL.isTup_l, DL.isTup_t, DL.isTup_d, DL.ix_t0, DL.ix_t1, DL.ix_t2, DL.ix_t3, DL.ix_t4, DL.ix_l0, DL.ix_l1, DL.ix_l2, Int.reduceLT, Int.reduceLE, Int.reduceNeg, Int.reduceAdd, Int.reduceSub, Int.reduceMul, Int.reduceToNat, Int.reduceBEq, Int.cast_ofNat_Int, eq_played ok]
  have hk : (keysOf s.o ns).length ≤ 1000 := by rw [keys_len]; exact hn
  by_cases h : s.o = "played"
  · simp -implicitDefEqProofs only [h, ok_bind, bad_bind, ex_bind, ofO_some, ofO_none, okIf_t, choose_t, choose_f, asB_b, asI_i, asS_s, asL_l, asD_d, asOb_ob, asO_o, slotD_0, slotD_s, slotO_0, slotO_s, slotOb_0, slotOb_s, slotA_d, slotA_ob, slotA_r, slotA_sc, slotA_s, slotSc_0, slotSc_s, seqK_nx, seqK_rt, seqK_bk, seqK_ct, loopK_nx, loopK_rt, loopK_bk, loopK_ct, outS_nx, outS_rt, run_ap, gName_ap, gNil_nil, gCons_cons, gTup_t, fmNil_ap, fmStr_s, fmAny_ap, fmEv_t, noEx_ok, unz_ok, view_nil, view_cons, viewO_n, viewO_d, viewO_o, viewO_ob, viewO_r, viewO_s, wipeD_nil, wipeD_cons, List.set_cons_succ, List.set_cons_zero, List.set_nil, List.length_cons, List.length_nil, Nat.reduceAdd, Nat.reduceLeDiff, Nat.reduceEqDiff, Nat.reduceLT, decide_true, decide_false, Bool.not_true, Bool.not_false, Nat.zero_add, itemsAny_l, itemsAny_t, itemsAny_s, enumO_l, enumO_t, if_tt, if_ff, Option.bind_some, Bool.and_true, Bool.true_and, Bool.and_self, ↓reduceIte, fVar_ap, fC_ap, fBin_ap, fUn_ap, fChain_ap, fVal_ap, fbNot_ap, fbAnd_ap, fbOr_ap, fAnd_ap, fOr_ap, fNot_ap, fIf_ap, fNil_ap, fCons_ap, fTup_ap, fLst_ap, fFrz_ap, fCall_ap, fCallL_ap, fONone_ap, fOSome_ap, fSl_ap, fAnil_ap, fAd_ap, fAv_ap, fFn_ap, fFnOb_ap, fVarOb_ap, fSeq_ap, fNext_ap, fRet_ap, fRetN_ap, fRetOb_ap, fIfS_ap, fDrop_ap, fBrk_ap, fCnt_ap, fAsg_ap, fOwn_ap, fSetOb_ap, fFor_ap, fItems_ap, fScr_ap, fLenS_ap, fR1_ap, fR2_ap, fWhile_ap, fYes_ap, fComp_ap, fSetL_ap, fComp2_ap, fvD_ap, fvO_ap, fvB_ap, fSet_ap, fPar_ap, fView_ap, fbView_ap, flView_ap, fAppend_ap, fAppPop_ap, fRev_ap, fExt_ap, fFreeze_ap, fEnum_ap, fJoin_ap, fPut_ap, fListRange_ap, fMatch_ap, fField_ap, fRecPut_ap, fPnil_ap, fPcons_ap, fRec_ap, fNever_ap, DL.le_ii, DL.lt_ii, DL.gt_ii, DL.ge_ii, DL.sub_ii, DL.add_ii, DL.neg_i, DL.eq_ii, DL.ne_ii, DL.len_l, DL.len_t, DL.int1_i, DL.max2_ii, DL.min2_ii, DL.tuple_l, DL.tuple_t, DL.list_l, DL.list_t, DL.revL_l, rev_l, DL.isN_n, DL.isN_t, DL.isN_i, DL.notN_n, DL.notN_t, DL.notN_i, DL.isInt_i, DL.isInt_b, DL.isInt_s, DL.isInt_n, DL.isInt_l, DL.isInt_t, DL.isInt_d, DL.isBool_i, DL.isBool_b, DL.isBool_s, DL.isBool_n, DL.isBool_l, DL.isBool_t, DL.isBool_d, DL.isStr_i, DL.isStr_b, DL.isStr_s, DL.isStr_n, DL.isStr_l, DL.isStr_t, DL.isStr_d, DL.isTup_i, DL.isTup_b, DL.isTup_s, DL.isTup_n, DL.isTup_l, DL.isTup_t, DL.isTup_d, DL.ix_t0, DL.ix_t1, DL.ix_t2, DL.ix_t3, DL.ix_t4, DL.ix_l0, DL.ix_l1, DL.ix_l2, Int.reduceLT, Int.reduceLE, Int.reduceNeg, Int.reduceAdd, Int.reduceSub, Int.reduceMul, Int.reduceToNat, Int.reduceBEq, Int.cast_ofNat_Int, rng1_nat (show s.oct ≤ 100000 by omega)]
    have e : keysOf "played" ns = ns := by unfold keysOf; rw [if_pos rfl]
    rw [e]
    have := row_comp (s := s) (c := some (.d (tupI ns))) (ks := ns) (z := z) ho.2 hn
    rw [this]
    simp -implicitDefEqProofs only [ok_bind, bad_bind, ex_bind, ofO_some, ofO_none, okIf_t, choose_t, choose_f, asB_b, asI_i, asS_s, asL_l, asD_d, asOb_ob, asO_o, slotD_0, slotD_s, slotO_0, slotO_s, slotOb_0, slotOb_s, slotA_d, slotA_ob, slotA_r, slotA_sc, slotA_s, slotSc_0, slotSc_s, seqK_nx, seqK_rt, seqK_bk, seqK_ct, loopK_nx, loopK_rt, loopK_bk, loopK_ct, outS_nx, outS_rt, run_ap, gName_ap, gNil_nil, gCons_cons, gTup_t, fmNil_ap, fmStr_s, fmAny_ap, fmEv_t, noEx_ok, unz_ok, view_nil, view_cons, viewO_n, viewO_d, viewO_o, viewO_ob, viewO_r, viewO_s, wipeD_nil, wipeD_cons, List.set_cons_succ, List.set_cons_zero, List.set_nil, List.length_cons, List.length_nil, Nat.reduceAdd, Nat.reduceLeDiff, Nat.reduceEqDiff, Nat.reduceLT, decide_true, decide_false, Bool.not_true, Bool.not_false, Nat.zero_add, itemsAny_l, itemsAny_t, itemsAny_s, enumO_l, enumO_t, if_tt, if_ff, Option.bind_some, Bool.and_true, Bool.true_and, Bool.and_self, ↓reduceIte, fVar_ap, fC_ap, fBin_ap, fUn_ap, fChain_ap, fVal_ap, fbNot_ap, fbAnd_ap, fbOr_ap, fAnd_ap, fOr_ap, fNot_ap, fIf_ap, fNil_ap, fCons_ap, fTup_ap, fLst_ap, fFrz_ap, fCall_ap, fCallL_ap, fONone_ap, fOSome_ap, fSl_ap, fAnil_ap, fAd_ap, fAv_ap, fFn_ap, fFnOb_ap, fVarOb_ap, fSeq_ap, fNext_ap, fRet_ap, fRetN_ap, fRetOb_ap, fIfS_ap, fDrop_ap, fBrk_ap, fCnt_ap, fAsg_ap, fOwn_ap, fSetOb_ap, fFor_ap, fItems_ap, fScr_ap, fLenS_ap, fR1_ap, fR2_ap, fWhile_ap, fYes_ap, fComp_ap, fSetL_ap, fComp2_ap, fvD_ap, fvO_ap, fvB_ap, fSet_ap, fPar_ap, fView_ap, fbView_ap, flView_ap, fAppend_ap, fAppPop_ap, fRev_ap, fExt_ap, fFreeze_ap, fEnum_ap, fJoin_ap, fPut_ap, fListRange_ap, fMatch_ap, fField_ap, fRecPut_ap, fPnil_ap, fPcons_ap, fRec_ap, fNever_ap, DL.le_ii, DL.lt_ii, DL.gt_ii, DL.ge_ii, DL.sub_ii, DL.add_ii, DL.neg_i, DL.eq_ii, DL.ne_ii, DL.len_l, DL.len_t, DL.int1_i, DL.max2_ii, DL.min2_ii, DL.tuple_l, DL.tuple_t, DL.list_l, DL.list_t, DL.revL_l, rev_l, DL.isN_n, DL.isN_t, DL.isN_i, DL.notN_n, DL.notN_t, DL.notN_i, DL.isInt_i, DL.isInt_b, DL.isInt_s, DL.isInt_n, DL.isInt_l, DL.isInt_t, DL.isInt_d, DL.isBool_i, DL.isBool_b, DL.isBool_s, DL.isBool_n, DL.isBool_l, DL.isBool_t, DL.isBool_d, DL.isStr_i, DL.isStr_b, DL.isStr_s, DL.isStr_n, DL.isStr_l, DL.isStr_t, DL.isStr_d, DL.isTup_i, DL.isTup_b, DL.isTup_s, DL.isTup_n, DL.isTup_l, DL.isTup_t, DL.isTup_d, DL.ix_t0, DL.ix_t1, DL.ix_t2, DL.ix_t3, DL.ix_t4, DL.ix_l0, DL.ix_l1, DL.ix_l2, Int.reduceLT, Int.reduceLE, Int.reduceNeg, Int.reduceAdd, Int.reduceSub, Int.reduceMul, Int.reduceToNat, Int.reduceBEq, Int.cast_ofNat_Int]
  · simp -implicitDefEqProofs only [h, ok_bind, bad_bind, ex_bind, ofO_some, ofO_none, okIf_t, choose_t, choose_f, asB_b, asI_i, asS_s, asL_l, asD_d, asOb_ob, asO_o, slotD_0, slotD_s, slotO_0, slotO_s, slotOb_0, slotOb_s, slotA_d, slotA_ob, slotA_r, slotA_sc, slotA_s, slotSc_0, slotSc_s, seqK_nx, seqK_rt, seqK_bk, seqK_ct, loopK_nx, loopK_rt, loopK_bk, loopK_ct, outS_nx, outS_rt, run_ap, gName_ap, gNil_nil, gCons_cons, gTup_t, fmNil_ap, fmStr_s, fmAny_ap, fmEv_t, noEx_ok, unz_ok, view_nil, view_cons, viewO_n, viewO_d, viewO_o, viewO_ob, viewO_r, viewO_s, wipeD_nil, wipeD_cons, List.set_cons_succ, List.set_cons_zero, List.set_nil, List.length_cons, List.length_nil, Nat.reduceAdd, Nat.reduceLeDiff, Nat.reduceEqDiff, Nat.reduceLT, decide_true, decide_false, Bool.not_true, Bool.not_false, Nat.zero_add, itemsAny_l, itemsAny_t, itemsAny_s, enumO_l, enumO_t, if_tt, if_ff, Option.bind_some, Bool.and_true, Bool.true_and, Bool.and_self, ↓reduceIte, fVar_ap, fC_ap, fBin_ap, fUn_ap, fChain_ap, fVal_ap, fbNot_ap, fbAnd_ap, fbOr_ap, fAnd_ap, fOr_ap, fNot_ap, fIf_ap, fNil_ap, fCons_ap, fTup_ap, fLst_ap, fFrz_ap, fCall_ap, fCallL_ap, fONone_ap, fOSome_ap, fSl_ap, fAnil_ap, fAd_ap, fAv_ap, fFn_ap, fFnOb_ap, fVarOb_ap, fSeq_ap, fNext_ap, fRet_ap, fRetN_ap, fRetOb_ap, fIfS_ap, fDrop_ap, fBrk_ap, fCnt_ap, fAsg_ap, fOwn_ap, fSetOb_ap, fFor_ap, fItems_ap, fScr_ap, fLenS_ap, fR1_ap, fR2_ap, fWhile_ap, fYes_ap, fComp_ap, fSetL_ap, fComp2_ap, fvD_ap, fvO_ap, fvB_ap, fSet_ap, fPar_ap, fView_ap, fbView_ap, flView_ap, fAppend_ap, fAppPop_ap, fRev_ap, fExt_ap, fFreeze_ap, fEnum_ap, fJoin_ap, fPut_ap, fListRange_ap, fMatch_ap, fField_ap, fRecPut_ap, fPnil_ap, fPcons_ap, fRec_ap, fNever_ap, DL.le_ii, DL.lt_ii, DL.gt_ii, DL.ge_ii, DL.sub_ii, DL.add_ii, DL.neg_i, DL.eq_ii, DL.ne_ii, DL.len_l, DL.len_t, DL.int1_i, DL.max2_ii, DL.min2_ii, DL.tuple_l, DL.tuple_t, DL.list_l, DL.list_t, DL.revL_l, rev_l, DL.isN_n, DL.isN_t, DL.isN_i, DL.notN_n, DL.notN_t, DL.notN_i, DL.isInt_i, DL.isInt_b, DL.isInt_s, DL.isInt_n, DL.isInt_l, DL.isInt_t, DL.isInt_d, DL.isBool_i, DL.isBool_b, DL.isBool_s, DL.isBool_n, DL.isBool_l, DL.isBool_t, DL.isBool_d, DL.isStr_i, DL.isStr_b, DL.isStr_s, DL.isStr_n, DL.isStr_l, DL.isStr_t, DL.isStr_d, DL.isTup_i, DL.isTup_b, DL.isTup_s, DL.isTup_n, DL.isTup_l, DL.isTup_t, DL.isTup_d, DL.ix_t0, DL.ix_t1, DL.ix_t2, DL.ix_t3, DL.ix_t4, DL.ix_l0, DL.ix_l1, DL.ix_l2, Int.reduceLT, Int.reduceLE, Int.reduceNeg, Int.reduceAdd, Int.reduceSub, Int.reduceMul, Int.reduceToNat, Int.reduceBEq, Int.cast_ofNat_Int, sorted_tupI, rng1_nat (show s.oct ≤ 100000 by omega)]
    have e : keysOf s.o ns = isort ns := by unfold keysOf; rw [if_neg h]
    rw [e] at hk ⊢
    rw [row_comp ho.2 hk]
    simp -implicitDefEqProofs only [ok_bind, bad_bind, ex_bind, ofO_some, ofO_none, okIf_t, choose_t, choose_f, asB_b, asI_i, asS_s, asL_l, asD_d, asOb_ob, asO_o, slotD_0, slotD_s, slotO_0, slotO_s, slotOb_0, slotOb_s, slotA_d, slotA_ob, slotA_r, slotA_sc, slotA_s, slotSc_0, slotSc_s, seqK_nx, seqK_rt, seqK_bk, seqK_ct, loopK_nx, loopK_rt, loopK_bk, loopK_ct, outS_nx, outS_rt, run_ap, gName_ap, gNil_nil, gCons_cons, gTup_t, fmNil_ap, fmStr_s, fmAny_ap, fmEv_t, noEx_ok, unz_ok, view_nil, view_cons, viewO_n, viewO_d, viewO_o, viewO_ob, viewO_r, viewO_s, wipeD_nil, wipeD_cons, List.set_cons_succ, List.set_cons_zero, List.set_nil, List.length_cons, List.length_nil, Nat.reduceAdd, Nat.reduceLeDiff, Nat.reduceEqDiff, Nat.reduceLT, decide_true, decide_false, Bool.not_true, Bool.not_false, Nat.zero_add, itemsAny_l, itemsAny_t, itemsAny_s, enumO_l, enumO_t, if_tt, if_ff, Option.bind_some, Bool.and_true, Bool.true_and, Bool.and_self, ↓reduceIte, fVar_ap, fC_ap, fBin_ap, fUn_ap, fChain_ap, fVal_ap, fbNot_ap, fbAnd_ap, fbOr_ap, fAnd_ap, fOr_ap, fNot_ap, fIf_ap, fNil_ap, fCons_ap, fTup_ap, fLst_ap, fFrz_ap, fCall_ap, fCallL_ap, fONone_ap, fOSome_ap, fSl_ap, fAnil_ap, fAd_ap, fAv_ap, fFn_ap, fFnOb_ap, fVarOb_ap, fSeq_ap, fNext_ap, fRet_ap, fRetN_ap, fRetOb_ap, fIfS_ap, fDrop_ap, fBrk_ap, fCnt_ap, fAsg_ap, fOwn_ap, fSetOb_ap, fFor_ap, fItems_ap, fScr_ap, fLenS_ap, fR1_ap, fR2_ap, fWhile_ap, fYes_ap, fComp_ap, fSetL_ap, fComp2_ap, fvD_ap, fvO_ap, fvB_ap, fSet_ap, fPar_ap, fView_ap, fbView_ap, flView_ap, fAppend_ap, fAppPop_ap, fRev_ap, fExt_ap, fFreeze_ap, fEnum_ap, fJoin_ap, fPut_ap, fListRange_ap, fMatch_ap, fField_ap, fRecPut_ap, fPnil_ap, fPcons_ap, fRec_ap, fNever_ap, DL.le_ii, DL.lt_ii, DL.gt_ii, DL.ge_ii, DL.sub_ii, DL.add_ii, DL.neg_i, DL.eq_ii, DL.ne_ii, DL.len_l, DL.len_t, DL.int1_i, DL.max2_ii, DL.min2_ii, DL.tuple_l, DL.tuple_t, DL.list_l, DL.list_t, DL.revL_l, rev_l, DL.isN_n, DL.isN_t, DL.isN_i, DL.notN_n, DL.notN_t, DL.notN_i, DL.isInt_i, DL.isInt_b, DL.isInt_s, DL.isInt_n, DL.isInt_l, DL.isInt_t, DL.isInt_d, DL.isBool_i, DL.isBool_b, DL.isBool_s, DL.isBool_n, DL.isBool_l, DL.isBool_t, DL.isBool_d, DL.isStr_i, DL.isStr_b, DL.isStr_s, DL.isStr_n, DL.isStr_l, DL.isStr_t, DL.isStr_d, DL.isTup_i, DL.isTup_b, DL.isTup_s, DL.isTup_n, DL.isTup_l, DL.isTup_t, DL.isTup_d, DL.ix_t0, DL.ix_t1, DL.ix_t2, DL.ix_t3, DL.ix_t4, DL.ix_l0, DL.ix_l1, DL.ix_l2, Int.reduceLT, Int.reduceLE, Int.reduceNeg, Int.reduceAdd, Int.reduceSub, Int.reduceMul, Int.reduceToNat, Int.reduceBEq, Int.cast_ofNat_Int]
noncomputable def l_from_outside_1 : FS := (fSeq (fAppPop 1 2 (fC (.int 0))) (fRev 2))
theorem l_from_outside_1_ap {ρ : Sl} {z : Z} : l_from_outside_1 ρ z = (fSeq (fAppPop 1 2 (fC (.int 0))) (fRev 2)) ρ z := rfl
noncomputable def c_from_outside_2 : FT := (fbView (fVal (fBin DL.neD (fVar 2) (fFrz (fLst fNil)))))
theorem c_from_outside_2_ap {ρ : Sl} {z : Z} : c_from_outside_2 ρ z = (fbView (fVal (fBin DL.neD (fVar 2) (fFrz (fLst fNil))))) ρ z := rfl
noncomputable def b_from_outside : FS := (fSeq (fPar 1 2 (fvO (fLst fNil)) (fvO (fCallL DL.listD (fCons (fVar 0) fNil)))) (fSeq (fWhile c_from_outside_2 l_from_outside_1) (fFreeze 1 (fRet (fVar 1)))))
theorem b_from_outside_ap {ρ : Sl} {z : Z} : b_from_outside ρ z = (fSeq (fPar 1 2 (fvO (fLst fNil)) (fvO (fCallL DL.listD (fCons (fVar 0) fNil)))) (fSeq (fWhile c_from_outside_2 l_from_outside_1) (fFreeze 1 (fRet (fVar 1))))) ρ z := rfl
noncomputable def F_from_outside : Fu := fnOf ["row", "found", "rest"] b_from_outside
theorem F_from_outside_eq {x0 : S} {z : Z} : F_from_outside [x0] z = (b_from_outside [some x0, none, none] z).bind outS := rfl
theorem ne_nil {ns : List Int} : neD (.list (ns.map .int)) (.list []) = some (.bool (!decide (ns = []))) := ne_lstI (ys := [])
theorem pop0 {x : Int} {r : List Int} : popO ((x :: r).map PyData.int) 0 = some (.int x, r.map .int) := by
  unfold popO
  rw [if_pos (by decide), show seqIndex? 0 ((x :: r).map PyData.int).length = some 0 from by simp [seqIndex?]]
  rfl
theorem out_loop {x0 : Option S} {z : Z} : ∀ (n : Nat) (rest found : List Int) (m : Nat), rest.length ≤ n → n < m → found.length + rest.length < 100000 →
    whileN c_from_outside_2 l_from_outside_1 m [x0, some (.o (found.map .int)), some (.o (rest.map .int))] z = .ok (.nx [x0, some (.o ((found ++ outI rest).map .int)), some (.o [])]) z
  | n, [], found, m, _, hm, _ => by
    obtain ⟨m, rfl⟩ : ∃ k, m = k + 1 := ⟨m - 1, by omega⟩
    have e := ne_nil (ns := [])
    rw [List.map_nil] at e
    cases x0 with
    | none => rw [whileN_s]; simp -implicitDefEqProofs only [c_from_outside_2_ap, ok_bind, bad_bind, ex_bind, ofO_some, ofO_none, okIf_t, choose_t, choose_f, asB_b, asI_i, asS_s, asL_l, asD_d, asOb_ob, asO_o, slotD_0, slotD_s, slotO_0, slotO_s, slotOb_0, slotOb_s, slotA_d, slotA_ob, slotA_r, slotA_sc, slotA_s, slotSc_0, slotSc_s, seqK_nx, seqK_rt, seqK_bk, seqK_ct, loopK_nx, loopK_rt, loopK_bk, loopK_ct, outS_nx, outS_rt, run_ap, gName_ap, gNil_nil, gCons_cons, gTup_t, fmNil_ap, fmStr_s, fmAny_ap, fmEv_t, noEx_ok, unz_ok, view_nil, view_cons, viewO_n, viewO_d, viewO_o, viewO_ob, viewO_r, viewO_s, wipeD_nil, wipeD_cons, List.set_cons_succ, List.set_cons_zero, List.set_nil, List.length_cons, List.length_nil, Nat.reduceAdd, Nat.reduceLeDiff, Nat.reduceEqDiff, Nat.reduceLT, decide_true, decide_false, Bool.not_true, Bool.not_false, Nat.zero_add, itemsAny_l, itemsAny_t, itemsAny_s, enumO_l, enumO_t, if_tt, if_ff, Option.bind_some, Bool.and_true, Bool.true_and, Bool.and_self, ↓reduceIte, fVar_ap, fC_ap, fBin_ap, fUn_ap, fChain_ap, fVal_ap, fbNot_ap, fbAnd_ap, fbOr_ap, fAnd_ap, fOr_ap, fNot_ap, fIf_ap, fNil_ap, fCons_ap, fTup_ap, fLst_ap, fFrz_ap, fCall_ap, fCallL_ap, fONone_ap, fOSome_ap, fSl_ap, fAnil_ap, fAd_ap, fAv_ap, fFn_ap, fFnOb_ap, fVarOb_ap, fSeq_ap, fNext_ap, fRet_ap, fRetN_ap, fRetOb_ap, fIfS_ap, fDrop_ap, fBrk_ap, fCnt_ap, fAsg_ap, fOwn_ap, fSetOb_ap, fFor_ap, fItems_ap, fScr_ap, fLenS_ap, fR1_ap, fR2_ap, fWhile_ap, fYes_ap, fComp_ap, fSetL_ap, fComp2_ap, fvD_ap, fvO_ap, fvB_ap, fSet_ap, fPar_ap, fView_ap, fbView_ap, flView_ap, fAppend_ap, fAppPop_ap, fRev_ap, fExt_ap, fFreeze_ap, fEnum_ap, fJoin_ap, fPut_ap, fListRange_ap, fMatch_ap, fField_ap, fRecPut_ap, fPnil_ap, fPcons_ap, fRec_ap, fNever_ap, DL.le_ii, DL.lt_ii, DL.gt_ii, DL.ge_ii, DL.sub_ii, DL.add_ii, DL.neg_i, DL.eq_ii, DL.ne_ii, DL.len_l, DL.len_t, DL.int1_i, DL.max2_ii, DL.min2_ii, DL.tuple_l, DL.tuple_t, DL.list_l, DL.list_t, DL.revL_l, rev_l, DL.isN_n, DL.isN_t, DL.isN_i, DL.notN_n, DL.notN_t, DL.notN_i, DL.isInt_i, DL.isInt_b, DL.isInt_s, DL.isInt_n, DL.isInt_l, DL.isInt_t, DL.isInt_d, DL.isBool_i, DL.isBool_b, DL.isBool_s, DL.isBool_n, DL.isBool_l, DL.isBool_t, DL.isBool_d, DL.isStr_i, DL.isStr_b, DL.isStr_s, DL.isStr_n, DL.isStr_l, DL.isStr_t, DL.isStr_d, DL.isTup_i, DL.isTup_b, DL.isTup_s, DL.isTup_n, DL.isTup_l, DL.isTup_t, DL.isTup_d, DL.ix_t0, DL.ix_t1, DL.ix_t2, DL.ix_t3, DL.ix_t4, DL.ix_l0, DL.ix_l1, DL.ix_l2, Int.reduceLT, Int.reduceLE, Int.reduceNeg, Int.reduceAdd, Int.reduceSub, Int.reduceMul, Int.reduceToNat, Int.reduceBEq, Int.cast_ofNat_Int, List.map_nil, e, outI_nil, List.append_nil]
    | some s => cases s <;> (rw [whileN_s]; simp -implicitDefEqProofs only [c_from_outside_2_ap, ok_bind, bad_bind, ex_bind, ofO_some, ofO_none, okIf_t, choose_t, choose_f, asB_b, asI_i, asS_s, asL_l, asD_d, asOb_ob, asO_o, slotD_0, slotD_s, slotO_0, slotO_s, slotOb_0, slotOb_s, slotA_d, slotA_ob, slotA_r, slotA_sc, slotA_s, slotSc_0, slotSc_s, seqK_nx, seqK_rt, seqK_bk, seqK_ct, loopK_nx, loopK_rt, loopK_bk, loopK_ct, outS_nx, outS_rt, run_ap, gName_ap, gNil_nil, gCons_cons, gTup_t, fmNil_ap, fmStr_s, fmAny_ap, fmEv_t, noEx_ok, unz_ok, view_nil, view_cons, viewO_n, viewO_d, viewO_o, viewO_ob, viewO_r, viewO_s, wipeD_nil, wipeD_cons, List.set_cons_succ, List.set_cons_zero, List.set_nil, List.length_cons, List.length_nil, Nat.reduceAdd, Nat.reduceLeDiff, Nat.reduceEqDiff, Nat.reduceLT, decide_true, decide_false, Bool.not_true, Bool.not_false, Nat.zero_add, itemsAny_l, itemsAny_t, itemsAny_s, enumO_l, enumO_t, if_tt, if_ff, Option.bind_some, Bool.and_true, Bool.true_and, Bool.and_self, ↓reduceIte, fVar_ap, fC_ap, fBin_ap, fUn_ap, fChain_ap, fVal_ap, fbNot_ap, fbAnd_ap, fbOr_ap, fAnd_ap, fOr_ap, fNot_ap, fIf_ap, fNil_ap, fCons_ap, fTup_ap, fLst_ap, fFrz_ap, fCall_ap, fCallL_ap, fONone_ap, fOSome_ap, fSl_ap, fAnil_ap, fAd_ap, fAv_ap, fFn_ap, fFnOb_ap, fVarOb_ap, fSeq_ap, fNext_ap, fRet_ap, fRetN_ap, fRetOb_ap, fIfS_ap, fDrop_ap, fBrk_ap, fCnt_ap, fAsg_ap, fOwn_ap, fSetOb_ap, fFor_ap, fItems_ap, fScr_ap, fLenS_ap, fR1_ap, fR2_ap, fWhile_ap, fYes_ap, fComp_ap, fSetL_ap, fComp2_ap, fvD_ap, fvO_ap, fvB_ap, fSet_ap, fPar_ap, fView_ap, fbView_ap, flView_ap, fAppend_ap, fAppPop_ap, fRev_ap, fExt_ap, fFreeze_ap, fEnum_ap, fJoin_ap, fPut_ap, fListRange_ap, fMatch_ap, fField_ap, fRecPut_ap, fPnil_ap, fPcons_ap, fRec_ap, fNever_ap, DL.le_ii, DL.lt_ii, DL.gt_ii, DL.ge_ii, DL.sub_ii, DL.add_ii, DL.neg_i, DL.eq_ii, DL.ne_ii, DL.len_l, DL.len_t, DL.int1_i, DL.max2_ii, DL.min2_ii, DL.tuple_l, DL.tuple_t, DL.list_l, DL.list_t, DL.revL_l, rev_l, DL.isN_n, DL.isN_t, DL.isN_i, DL.notN_n, DL.notN_t, DL.notN_i, DL.isInt_i, DL.isInt_b, DL.isInt_s, DL.isInt_n, DL.isInt_l, DL.isInt_t, DL.isInt_d, DL.isBool_i, DL.isBool_b, DL.isBool_s, DL.isBool_n, DL.isBool_l, DL.isBool_t, DL.isBool_d, DL.isStr_i, DL.isStr_b, DL.isStr_s, DL.isStr_n, DL.isStr_l, DL.isStr_t, DL.isStr_d, DL.isTup_i, DL.isTup_b, DL.isTup_s, DL.isTup_n, DL.isTup_l, DL.isTup_t, DL.isTup_d, DL.ix_t0, DL.ix_t1, DL.ix_t2, DL.ix_t3, DL.ix_t4, DL.ix_l0, DL.ix_l1, DL.ix_l2, Int.reduceLT, Int.reduceLE, Int.reduceNeg, Int.reduceAdd, Int.reduceSub, Int.reduceMul, Int.reduceToNat, Int.reduceBEq, Int.cast_ofNat_Int, List.map_nil, e, outI_nil, List.append_nil])
  | 0, x :: r, found, m, h, _, _ => by simp at h
  | n + 1, x :: r, found, m, h, hm, hl => by
    obtain ⟨m, rfl⟩ : ∃ k, m = k + 1 := ⟨m - 1, by omega⟩
    have ih := out_loop (x0 := x0) (z := z) n r.reverse (found ++ [x]) m (by simp at h ⊢; omega) (by omega) (by simp at hl ⊢; omega)
    have e := ne_nil (ns := x :: r)
    have e1 : decide (x :: r = []) = false := rfl
    have hf : decide ((found.map PyData.int).length < 100000) = true := decide_eq_true (by simp at hl ⊢; omega)
    rw [outI_cons]
    have e2 : (found.map PyData.int ++ [.int x]) = (found ++ [x]).map .int := by simp
    have e3 : (r.map PyData.int).reverse = r.reverse.map .int := by rw [List.map_reverse]
    have e4 : found ++ [x] ++ outI r.reverse = found ++ x :: outI r.reverse := by simp
    rw [e4] at ih
    cases x0 with
    | none => rw [whileN_s]; simp -implicitDefEqProofs only [c_from_outside_2_ap, l_from_outside_1_ap, ok_bind, bad_bind, ex_bind, ofO_some, ofO_none, okIf_t, choose_t, choose_f, asB_b, asI_i, asS_s, asL_l, asD_d, asOb_ob, asO_o, slotD_0, slotD_s, slotO_0, slotO_s, slotOb_0, slotOb_s, slotA_d, slotA_ob, slotA_r, slotA_sc, slotA_s, slotSc_0, slotSc_s, seqK_nx, seqK_rt, seqK_bk, seqK_ct, loopK_nx, loopK_rt, loopK_bk, loopK_ct, outS_nx, outS_rt, run_ap, gName_ap, gNil_nil, gCons_cons, gTup_t, fmNil_ap, fmStr_s, fmAny_ap, fmEv_t, noEx_ok, unz_ok, view_nil, view_cons, viewO_n, viewO_d, viewO_o, viewO_ob, viewO_r, viewO_s, wipeD_nil, wipeD_cons, List.set_cons_succ, List.set_cons_zero, List.set_nil, List.length_cons, List.length_nil, Nat.reduceAdd, Nat.reduceLeDiff, Nat.reduceEqDiff, Nat.reduceLT, decide_true, decide_false, Bool.not_true, Bool.not_false, Nat.zero_add, itemsAny_l, itemsAny_t, itemsAny_s, enumO_l, enumO_t, if_tt, if_ff, Option.bind_some, Bool.and_true, Bool.true_and, Bool.and_self, ↓reduceIte, fVar_ap, fC_ap, fBin_ap, fUn_ap, fChain_ap, fVal_ap, fbNot_ap, fbAnd_ap, fbOr_ap, fAnd_ap, fOr_ap, fNot_ap, fIf_ap, fNil_ap, fCons_ap, fTup_ap, fLst_ap, fFrz_ap, fCall_ap, fCallL_ap, fONone_ap, fOSome_ap, fSl_ap, fAnil_ap, fAd_ap, fAv_ap, fFn_ap, fFnOb_ap, fVarOb_ap, fSeq_ap, fNext_ap, fRet_ap, fRetN_ap, fRetOb_ap, fIfS_ap, fDrop_ap, fBrk_ap, fCnt_ap, fAsg_ap, fOwn_ap, fSetOb_ap, fFor_ap, fItems_ap, fScr_ap, fLenS_ap, fR1_ap, fR2_ap, fWhile_ap, fYes_ap, fComp_ap, fSetL_ap, fComp2_ap, fvD_ap, fvO_ap, fvB_ap, fSet_ap, fPar_ap, fView_ap, fbView_ap, flView_ap, fAppend_ap, fAppPop_ap, fRev_ap, fExt_ap, fFreeze_ap, fEnum_ap, fJoin_ap, fPut_ap, fListRange_ap, fMatch_ap, fField_ap, fRecPut_ap, fPnil_ap, fPcons_ap, fRec_ap, fNever_ap, DL.le_ii, DL.lt_ii, DL.gt_ii, DL.ge_ii, DL.sub_ii, DL.add_ii, DL.neg_i, DL.eq_ii, DL.ne_ii, DL.len_l, DL.len_t, DL.int1_i, DL.max2_ii, DL.min2_ii, DL.tuple_l, DL.tuple_t, DL.list_l, DL.list_t, DL.revL_l, rev_l, DL.isN_n, DL.isN_t, DL.isN_i, DL.notN_n, DL.notN_t, DL.notN_i, DL.isInt_i, DL.isInt_b, DL.isInt_s, DL.isInt_n, DL.isInt_l, DL.isInt_t, DL.isInt_d, DL.isBool_i, DL.isBool_b, DL.isBool_s, DL.isBool_n, DL.isBool_l, DL.isBool_t, DL.isBool_d, DL.isStr_i, DL.isStr_b, DL.isStr_s, DL.isStr_n, DL.isStr_l, DL.isStr_t, DL.isStr_d, DL.isTup_i, DL.isTup_b, DL.isTup_s, DL.isTup_n, DL.isTup_l, DL.isTup_t, DL.isTup_d, DL.ix_t0, DL.ix_t1, DL.ix_t2, DL.ix_t3, DL.ix_t4, DL.ix_l0, DL.ix_l1, DL.ix_l2, Int.reduceLT, Int.reduceLE, Int.reduceNeg, Int.reduceAdd, Int.reduceSub, Int.reduceMul, Int.reduceToNat, Int.reduceBEq, Int.cast_ofNat_Int, e, e1, hf, ne_eq, not_false_eq_true, Nat.reduceEqDiff, pop0, e2, e3, ih]
    | some s => cases s <;> (rw [whileN_s]; simp -implicitDefEqProofs only [c_from_outside_2_ap, l_from_outside_1_ap, ok_bind, bad_bind, ex_bind, ofO_some, ofO_none, okIf_t, choose_t, choose_f, asB_b, asI_i, asS_s, asL_l, asD_d, asOb_ob, asO_o, slotD_0, slotD_s, slotO_0, slotO_s, slotOb_0, slotOb_s, slotA_d, slotA_ob, slotA_r, slotA_sc, slotA_s, slotSc_0, slotSc_s, seqK_nx, seqK_rt, seqK_bk, seqK_ct, loopK_nx, loopK_rt, loopK_bk, loopK_ct, outS_nx, outS_rt, run_ap, gName_ap, gNil_nil, gCons_cons, gTup_t, fmNil_ap, fmStr_s, fmAny_ap, fmEv_t, noEx_ok, unz_ok, view_nil, view_cons, viewO_n, viewO_d, viewO_o, viewO_ob, viewO_r, viewO_s, wipeD_nil, wipeD_cons, List.set_cons_succ, List.set_cons_zero, List.set_nil, List.length_cons, List.length_nil, Nat.reduceAdd, Nat.reduceLeDiff, Nat.reduceEqDiff, Nat.reduceLT, decide_true, decide_false, Bool.not_true, Bool.not_false, Nat.zero_add, itemsAny_l, itemsAny_t, itemsAny_s, enumO_l, enumO_t, if_tt, if_ff, Option.bind_some, Bool.and_true, Bool.true_and, Bool.and_self, ↓reduceIte, fVar_ap, fC_ap, fBin_ap, fUn_ap, fChain_ap, fVal_ap, fbNot_ap, fbAnd_ap, fbOr_ap, fAnd_ap, fOr_ap, fNot_ap, fIf_ap, fNil_ap, fCons_ap, fTup_ap, fLst_ap, fFrz_ap, fCall_ap, fCallL_ap, fONone_ap, fOSome_ap, fSl_ap, fAnil_ap, fAd_ap, fAv_ap, fFn_ap, fFnOb_ap, fVarOb_ap, fSeq_ap, fNext_ap, fRet_ap, fRetN_ap, fRetOb_ap, fIfS_ap, fDrop_ap, fBrk_ap, fCnt_ap, fAsg_ap, fOwn_ap, fSetOb_ap, fFor_ap, fItems_ap, fScr_ap, fLenS_ap, fR1_ap, fR2_ap, fWhile_ap, fYes_ap, fComp_ap, fSetL_ap, fComp2_ap, fvD_ap, fvO_ap, fvB_ap, fSet_ap, fPar_ap, fView_ap, fbView_ap, flView_ap, fAppend_ap, fAppPop_ap, fRev_ap, fExt_ap, fFreeze_ap, fEnum_ap, fJoin_ap, fPut_ap, fListRange_ap, fMatch_ap, fField_ap, fRecPut_ap, fPnil_ap, fPcons_ap, fRec_ap, fNever_ap, DL.le_ii, DL.lt_ii, DL.gt_ii, DL.ge_ii, DL.sub_ii, DL.add_ii, DL.neg_i, DL.eq_ii, DL.ne_ii, DL.len_l, DL.len_t, DL.int1_i, DL.max2_ii, DL.min2_ii, DL.tuple_l, DL.tuple_t, DL.list_l, DL.list_t, DL.revL_l, rev_l, DL.isN_n, DL.isN_t, DL.isN_i, DL.notN_n, DL.notN_t, DL.notN_i, DL.isInt_i, DL.isInt_b, DL.isInt_s, DL.isInt_n, DL.isInt_l, DL.isInt_t, DL.isInt_d, DL.isBool_i, DL.isBool_b, DL.isBool_s, DL.isBool_n, DL.isBool_l, DL.isBool_t, DL.isBool_d, DL.isStr_i, DL.isStr_b, DL.isStr_s, DL.isStr_n, DL.isStr_l, DL.isStr_t, DL.isStr_d, DL.isTup_i, DL.isTup_b, DL.isTup_s, DL.isTup_n, DL.isTup_l, DL.isTup_t, DL.isTup_d, DL.ix_t0, DL.ix_t1, DL.ix_t2, DL.ix_t3, DL.ix_t4, DL.ix_l0, DL.ix_l1, DL.ix_l2, Int.reduceLT, Int.reduceLE, Int.reduceNeg, Int.reduceAdd, Int.reduceSub, Int.reduceMul, Int.reduceToNat, Int.reduceBEq, Int.cast_ofNat_Int, e, e1, hf, ne_eq, not_false_eq_true, Nat.reduceEqDiff, pop0, e2, e3, ih])
theorem v_from_outside {ns : List Int} {z : Z} (hn : ns.length ≤ 10000) : F_from_outside [.d (.list (ns.map .int))] z = .ok (.d (.list ((outI ns).map .int))) z := by
  rw [F_from_outside_eq]
  have := out_loop (x0 := some (.d (.list (ns.map .int)))) (z := z) ns.length ns [] 1000000 (Nat.le_refl _) (by omega) (by simp; omega)
  rw [List.map_nil, List.nil_append] at this
  simp -implicitDefEqProofs only [b_from_outside, ok_bind, bad_bind, ex_bind, ofO_some, ofO_none, okIf_t, choose_t, choose_f, asB_b, asI_i, asS_s, asL_l, asD_d, asOb_ob, asO_o, slotD_0, slotD_s, slotO_0, slotO_s, slotOb_0, slotOb_s, slotA_d, slotA_ob, slotA_r, slotA_sc, slotA_s, slotSc_0, slotSc_s, seqK_nx, seqK_rt, seqK_bk, seqK_ct, loopK_nx, loopK_rt, loopK_bk, loopK_ct, outS_nx, outS_rt, run_ap, gName_ap, gNil_nil, gCons_cons, gTup_t, fmNil_ap, fmStr_s, fmAny_ap, fmEv_t, noEx_ok, unz_ok, view_nil, view_cons, viewO_n, viewO_d, viewO_o, viewO_ob, viewO_r, viewO_s, wipeD_nil, wipeD_cons, List.set_cons_succ, List.set_cons_zero, List.set_nil, List.length_cons, List.length_nil, Nat.reduceAdd, Nat.reduceLeDiff, Nat.reduceEqDiff, Nat.reduceLT, decide_true, decide_false, Bool.not_true, Bool.not_false, Nat.zero_add, itemsAny_l, itemsAny_t, itemsAny_s, enumO_l, enumO_t, if_tt, if_ff, Option.bind_some, Bool.and_true, Bool.true_and, Bool.and_self, ↓reduceIte, fVar_ap, fC_ap, fBin_ap, fUn_ap, fChain_ap, fVal_ap, fbNot_ap, fbAnd_ap, fbOr_ap, fAnd_ap, fOr_ap, fNot_ap, fIf_ap, fNil_ap, fCons_ap, fTup_ap, fLst_ap, fFrz_ap, fCall_ap, fCallL_ap, fONone_ap, fOSome_ap, fSl_ap, fAnil_ap, fAd_ap, fAv_ap, fFn_ap, fFnOb_ap, fVarOb_ap, fSeq_ap, fNext_ap, fRet_ap, fRetN_ap, fRetOb_ap, fIfS_ap, fDrop_ap, fBrk_ap, fCnt_ap, fAsg_ap, fOwn_ap, fSetOb_ap, fFor_ap, fItems_ap, fScr_ap, fLenS_ap, fR1_ap, fR2_ap, fWhile_ap, fYes_ap, fComp_ap, fSetL_ap, fComp2_ap, fvD_ap, fvO_ap, fvB_ap, fSet_ap, fPar_ap, fView_ap, fbView_ap, flView_ap, fAppend_ap, fAppPop_ap, fRev_ap, fExt_ap, fFreeze_ap, fEnum_ap, fJoin_ap, fPut_ap, fListRange_ap, fMatch_ap, fField_ap, fRecPut_ap, fPnil_ap, fPcons_ap, fRec_ap, fNever_ap, DL.le_ii, DL.lt_ii, DL.gt_ii, DL.ge_ii, DL.sub_ii, DL.add_ii, DL.neg_i, DL.eq_ii, DL.ne_ii, DL.len_l, DL.len_t, DL.int1_i, DL.max2_ii, DL.min2_ii, DL.tuple_l, DL.tuple_t, DL.list_l, DL.list_t, DL.revL_l, rev_l, DL.isN_n, DL.isN_t, DL.isN_i, DL.notN_n, DL.notN_t, DL.notN_i, DL.isInt_i, DL.isInt_b, DL.isInt_s, DL.isInt_n, DL.isInt_l, DL.isInt_t, DL.isInt_d, DL.isBool_i, DL.isBool_b, DL.isBool_s, DL.isBool_n, DL.isBool_l, DL.isBool_t, DL.isBool_d, DL.isStr_i, DL.isStr_b, DL.isStr_s, DL.isStr_n, DL.isStr_l, DL.isStr_t, DL.isStr_d, DL.isTup_i, DL.isTup_b, DL.isTup_s, DL.isTup_n, DL.isTup_l, DL.isTup_t, DL.isTup_d, DL.ix_t0, DL.ix_t1, DL.ix_t2, DL.ix_t3, DL.ix_t4, DL.ix_l0, DL.ix_l1, DL.ix_l2, Int.reduceLT, Int.reduceLE, Int.reduceNeg, Int.reduceAdd, Int.reduceSub, Int.reduceMul, Int.reduceToNat, Int.reduceBEq, Int.cast_ofNat_Int, this]
noncomputable def b_round_in : FS := (fSeq (fSet 2 (fvD (fFn 2 F_tone_row (fAd (fVar 0) (fAd (fVar 1) fAnil))))) (fSeq (fMatch (fBin DL.ixD (fVar 0) (fC (.int 0))) (fmStr "down" (fRet (fCall DL.tupleD (fCons (fUn revD (fVar 2)) fNil))) (fmStr "bounce" (fRet (fCall DL.tupleD (fCons (fBin DL.addD (fVar 2) (fUn revD (fSl DL.slD (fVar 2) (fOSome (fC (.int 1))) (fOSome (fUn DL.negD (fC (.int 1))))))) fNil))) (fmStr "swing" (fRet (fCall DL.tupleD (fCons (fBin DL.addD (fVar 2) (fUn revD (fVar 2))) fNil))) (fmStr "outside" (fRet (fCall DL.tupleD (fCons (fFn 1 F_from_outside (fAd (fVar 2) fAnil)) fNil))) fmNil))))) (fRet (fCall DL.tupleD (fCons (fVar 2) fNil)))))
theorem b_round_in_ap {ρ : Sl} {z : Z} : b_round_in ρ z = (fSeq (fSet 2 (fvD (fFn 2 F_tone_row (fAd (fVar 0) (fAd (fVar 1) fAnil))))) (fSeq (fMatch (fBin DL.ixD (fVar 0) (fC (.int 0))) (fmStr "down" (fRet (fCall DL.tupleD (fCons (fUn revD (fVar 2)) fNil))) (fmStr "bounce" (fRet (fCall DL.tupleD (fCons (fBin DL.addD (fVar 2) (fUn revD (fSl DL.slD (fVar 2) (fOSome (fC (.int 1))) (fOSome (fUn DL.negD (fC (.int 1))))))) fNil))) (fmStr "swing" (fRet (fCall DL.tupleD (fCons (fBin DL.addD (fVar 2) (fUn revD (fVar 2))) fNil))) (fmStr "outside" (fRet (fCall DL.tupleD (fCons (fFn 1 F_from_outside (fAd (fVar 2) fAnil)) fNil))) fmNil))))) (fRet (fCall DL.tupleD (fCons (fVar 2) fNil))))) ρ z := rfl
noncomputable def F_round_in : Fu := fnOf ["setting", "chord", "row"] b_round_in
theorem F_round_in_eq {x0 x1 : S} {z : Z} : F_round_in [x0, x1] z = (b_round_in [some x0, some x1, none] z).bind outS := rfl
theorem cut_mid' (row : List Int) : slD (.list (row.map .int)) (some 1) (some (-1)) = some (.list ((midI row).map .int)) := by
  show some (PyData.list (cutD (row.map .int) (some 1) (some (-1)))) = _
  rw [cut_mid]
  unfold midI
  rw [List.map_take, List.map_drop, List.length_map]
theorem v_round_in {s : Stg} {ns : List Int} {z : Z} (ok : s.Ok) (hn : ns.length ≤ 100) : F_round_in [.d s.d, .d (tupI ns)] z = .ok (.d (tupI (rndI s ns))) z := by
  rw [F_round_in_eq]
  have hr : (rowI s.oct (keysOf s.o ns)).length ≤ 300 := by
    have := ok.oct
    rw [row_len, keys_len]
    exact Nat.le_trans (Nat.mul_le_mul this.2 hn) (by omega)
  have hm : (midI (rowI s.oct (keysOf s.o ns))).length ≤ 300 := by
    unfold midI
    rw [List.length_take, List.length_drop]
    omega
  simp -implicitDefEqProofs only [b_round_in, ok_bind, bad_bind, ex_bind, ofO_some, ofO_none, okIf_t, choose_t, choose_f, asB_b, asI_i, asS_s, asL_l, asD_d, asOb_ob, asO_o, slotD_0, slotD_s, slotO_0, slotO_s, slotOb_0, slotOb_s, slotA_d, slotA_ob, slotA_r, slotA_sc, slotA_s, slotSc_0, slotSc_s, seqK_nx, seqK_rt, seqK_bk, seqK_ct, loopK_nx, loopK_rt, loopK_bk, loopK_ct, outS_nx, outS_rt, run_ap, gName_ap, gNil_nil, gCons_cons, gTup_t, fmNil_ap, fmStr_s, fmAny_ap, fmEv_t, noEx_ok, unz_ok, view_nil, view_cons, viewO_n, viewO_d, viewO_o, viewO_ob, viewO_r, viewO_s, wipeD_nil, wipeD_cons, List.set_cons_succ, List.set_cons_zero, List.set_nil, List.length_cons, List.length_nil, Nat.reduceAdd, Nat.reduceLeDiff, Nat.reduceEqDiff, Nat.reduceLT, decide_true, decide_false, Bool.not_true, Bool.not_false, Nat.zero_add, itemsAny_l, itemsAny_t, itemsAny_s, enumO_l, enumO_t, if_tt, if_ff, Option.bind_some, Bool.and_true, Bool.true_and, Bool.and_self, ↓reduceIte, fVar_ap, fC_ap, fBin_ap, fUn_ap, fChain_ap, fVal_ap, fbNot_ap, fbAnd_ap, fbOr_ap, fAnd_ap, fOr_ap, fNot_ap, fIf_ap, fNil_ap, fCons_ap, fTup_ap, fLst_ap, fFrz_ap, fCall_ap, fCallL_ap, fONone_ap, fOSome_ap, fSl_ap, fAnil_ap, fAd_ap, fAv_ap, fFn_ap, fFnOb_ap, fVarOb_ap, fSeq_ap, fNext_ap, fRet_ap, fRetN_ap, fRetOb_ap, fIfS_ap, fDrop_ap, fBrk_ap, fCnt_ap, fAsg_ap, fOwn_ap, fSetOb_ap, fFor_ap, fItems_ap, fScr_ap, fLenS_ap, fR1_ap, fR2_ap, fWhile_ap, fYes_ap, fComp_ap, fSetL_ap, fComp2_ap, fvD_ap, fvO_ap, fvB_ap, fSet_ap, fPar_ap, fView_ap, fbView_ap, flView_ap, fAppend_ap, fAppPop_ap, fRev_ap, fExt_ap, fFreeze_ap, fEnum_ap, fJoin_ap, fPut_ap, fListRange_ap, fMatch_ap, fField_ap, fRecPut_ap, fPnil_ap, fPcons_ap, fRec_ap, fNever_ap, DL.le_ii, DL.lt_ii, DL.gt_ii, DL.ge_ii, DL.sub_ii, DL.add_ii, DL.neg_i, DL.eq_ii, DL.ne_ii, DL.len_l, DL.len_t, DL.int1_i, DL.max2_ii, DL.min2_ii, DL.tuple_l, DL.tuple_t, DL.list_l, DL.list_t, DL.revL_l, rev_l, DL.isN_n, DL.isN_t, DL.isN_i, DL.notN_n, DL.notN_t, DL.notN_i, DL.isInt_i, DL.isInt_b, DL.isInt_s, DL.isInt_n, DL.isInt_l, DL.isInt_t, DL.isInt_d, DL.isBool_i, DL.isBool_b, DL.isBool_s, DL.isBool_n, DL.isBool_l, DL.isBool_t, DL.isBool_d, DL.isStr_i, DL.isStr_b, DL.isStr_s, DL.isStr_n, DL.isStr_l, DL.isStr_t, DL.isStr_d, DL.isTup_i, DL.isTup_b, DL.isTup_s, DL.isTup_n, DL.isTup_l, DL.isTup_t, DL.isTup_d, DL.ix_t0, DL.ix_t1, DL.ix_t2, DL.ix_t3, DL.ix_t4, DL.ix_l0, DL.ix_l1, DL.ix_l2, Int.reduceLT, Int.reduceLE, Int.reduceNeg, Int.reduceAdd, Int.reduceSub, Int.reduceMul, Int.reduceToNat, Int.reduceBEq, Int.cast_ofNat_Int, v_tone_row ok (show ns.length ≤ 1000 by omega)]
  unfold rndI
  generalize rowI s.oct (keysOf s.o ns) = row at hr hm
  have ho := ok.o
  have a1 : addD (.list (row.map .int)) (.list ((midI row).map .int).reverse) = some (.list (row ++ (midI row).reverse |>.map .int)) := by
    rw [DL.add_ll (by simp; omega), List.map_append, List.map_reverse]
  have a2 : addD (.list (row.map .int)) (.list (row.map .int).reverse) = some (.list ((row ++ row.reverse).map .int)) := by
    rw [DL.add_ll (by simp; omega), List.map_append, List.map_reverse]
  have a3 : (row.map PyData.int).reverse = row.reverse.map .int := by rw [List.map_reverse]
  have d1 : ¬ (("bounce" : Str) = "down") := by decide +kernel
  have d2 : ¬ (("swing" : Str) = "down") := by decide +kernel
  have d3 : ¬ (("swing" : Str) = "bounce") := by decide +kernel
  have d4 : ¬ (("outside" : Str) = "down") := by decide +kernel
  have d5 : ¬ (("outside" : Str) = "bounce") := by decide +kernel
  have d6 : ¬ (("outside" : Str) = "swing") := by decide +kernel
  have u1 : ¬ (("up" : Str) = "down") := by decide +kernel
  have u2 : ¬ (("up" : Str) = "bounce") := by decide +kernel
  have u3 : ¬ (("up" : Str) = "swing") := by decide +kernel
  have u4 : ¬ (("up" : Str) = "outside") := by decide +kernel
  have p1 : ¬ (("played" : Str) = "down") := by decide +kernel
  have p2 : ¬ (("played" : Str) = "bounce") := by decide +kernel
  have p3 : ¬ (("played" : Str) = "swing") := by decide +kernel
  have p4 : ¬ (("played" : Str) = "outside") := by decide +kernel
  unfold roundI
  simp only [List.mem_cons, List.not_mem_nil, or_false] at ho
  rcases ho with h | h | h | h | h | h <;> rw [h]
  · simp -implicitDefEqProofs only [u1, u2, u3, u4, ok_bind, bad_bind, ex_bind, ofO_some, ofO_none, okIf_t, choose_t, choose_f, asB_b, asI_i, asS_s, asL_l, asD_d, asOb_ob, asO_o, slotD_0, slotD_s, slotO_0, slotO_s, slotOb_0, slotOb_s, slotA_d, slotA_ob, slotA_r, slotA_sc, slotA_s, slotSc_0, slotSc_s, seqK_nx, seqK_rt, seqK_bk, seqK_ct, loopK_nx, loopK_rt, loopK_bk, loopK_ct, outS_nx, outS_rt, run_ap, gName_ap, gNil_nil, gCons_cons, gTup_t, fmNil_ap, fmStr_s, fmAny_ap, fmEv_t, noEx_ok, unz_ok, view_nil, view_cons, viewO_n, viewO_d, viewO_o, viewO_ob, viewO_r, viewO_s, wipeD_nil, wipeD_cons, List.set_cons_succ, List.set_cons_zero, List.set_nil, List.length_cons, List.length_nil, Nat.reduceAdd, Nat.reduceLeDiff, Nat.reduceEqDiff, Nat.reduceLT, decide_true, decide_false, Bool.not_true, Bool.not_false, Nat.zero_add, itemsAny_l, itemsAny_t, itemsAny_s, enumO_l, enumO_t, if_tt, if_ff, Option.bind_some, Bool.and_true, Bool.true_and, Bool.and_self, ↓reduceIte, fVar_ap, fC_ap, fBin_ap, fUn_ap, fChain_ap, fVal_ap, fbNot_ap, fbAnd_ap, fbOr_ap, fAnd_ap, fOr_ap, fNot_ap, fIf_ap, fNil_ap, fCons_ap, fTup_ap, fLst_ap, fFrz_ap, fCall_ap, fCallL_ap, fONone_ap, fOSome_ap, fSl_ap, fAnil_ap, fAd_ap, fAv_ap, fFn_ap, fFnOb_ap, fVarOb_ap, fSeq_ap, fNext_ap, fRet_ap, fRetN_ap, fRetOb_ap, fIfS_ap, fDrop_ap, fBrk_ap, fCnt_ap, fAsg_ap, fOwn_ap, fSetOb_ap, fFor_ap, fItems_ap, fScr_ap, fLenS_ap, fR1_ap, fR2_ap, fWhile_ap, fYes_ap, fComp_ap, fSetL_ap, fComp2_ap, fvD_ap, fvO_ap, fvB_ap, fSet_ap, fPar_ap, fView_ap, fbView_ap, flView_ap, fAppend_ap, fAppPop_ap, fRev_ap, fExt_ap, fFreeze_ap, fEnum_ap, fJoin_ap, fPut_ap, fListRange_ap, fMatch_ap, fField_ap, fRecPut_ap, fPnil_ap, fPcons_ap, fRec_ap, fNever_ap, DL.le_ii, DL.lt_ii, DL.gt_ii, DL.ge_ii, DL.sub_ii, DL.add_ii, DL.neg_i, DL.eq_ii, DL.ne_ii, DL.len_l, DL.len_t, DL.int1_i, DL.max2_ii, DL.min2_ii, DL.tuple_l, DL.tuple_t, DL.list_l, DL.list_t, DL.revL_l, rev_l, DL.isN_n, DL.isN_t, DL.isN_i, DL.notN_n, DL.notN_t, DL.notN_i, DL.isInt_i, DL.isInt_b, DL.isInt_s, DL.isInt_n, DL.isInt_l, DL.isInt_t, DL.isInt_d, DL.isBool_i, DL.isBool_b, DL.isBool_s, DL.isBool_n, DL.isBool_l, DL.isBool_t, DL.isBool_d, DL.isStr_i, DL.isStr_b, DL.isStr_s, DL.isStr_n, DL.isStr_l, DL.isStr_t, DL.isStr_d, DL.isTup_i, DL.isTup_b, DL.isTup_s, DL.isTup_n, DL.isTup_l, DL.isTup_t, DL.isTup_d, DL.ix_t0, DL.ix_t1, DL.ix_t2, DL.ix_t3, DL.ix_t4, DL.ix_l0, DL.ix_l1, DL.ix_l2, Int.reduceLT, Int.reduceLE, Int.reduceNeg, Int.reduceAdd, Int.reduceSub, Int.reduceMul, Int.reduceToNat, Int.reduceBEq, Int.cast_ofNat_Int, if_false]
  · simp -implicitDefEqProofs only [ok_bind, bad_bind, ex_bind, ofO_some, ofO_none, okIf_t, choose_t, choose_f, asB_b, asI_i, asS_s, asL_l, asD_d, asOb_ob, asO_o, slotD_0, slotD_s, slotO_0, slotO_s, slotOb_0, slotOb_s, slotA_d, slotA_ob, slotA_r, slotA_sc, slotA_s, slotSc_0, slotSc_s, seqK_nx, seqK_rt, seqK_bk, seqK_ct, loopK_nx, loopK_rt, loopK_bk, loopK_ct, outS_nx, outS_rt, run_ap, gName_ap, gNil_nil, gCons_cons, gTup_t, fmNil_ap, fmStr_s, fmAny_ap, fmEv_t, noEx_ok, unz_ok, view_nil, view_cons, viewO_n, viewO_d, viewO_o, viewO_ob, viewO_r, viewO_s, wipeD_nil, wipeD_cons, List.set_cons_succ, List.set_cons_zero, List.set_nil, List.length_cons, List.length_nil, Nat.reduceAdd, Nat.reduceLeDiff, Nat.reduceEqDiff, Nat.reduceLT, decide_true, decide_false, Bool.not_true, Bool.not_false, Nat.zero_add, itemsAny_l, itemsAny_t, itemsAny_s, enumO_l, enumO_t, if_tt, if_ff, Option.bind_some, Bool.and_true, Bool.true_and, Bool.and_self, ↓reduceIte, fVar_ap, fC_ap, fBin_ap, fUn_ap, fChain_ap, fVal_ap, fbNot_ap, fbAnd_ap, fbOr_ap, fAnd_ap, fOr_ap, fNot_ap, fIf_ap, fNil_ap, fCons_ap, fTup_ap, fLst_ap, fFrz_ap, fCall_ap, fCallL_ap, fONone_ap, fOSome_ap, fSl_ap, fAnil_ap, fAd_ap, fAv_ap, fFn_ap, fFnOb_ap, fVarOb_ap, fSeq_ap, fNext_ap, fRet_ap, fRetN_ap, fRetOb_ap, fIfS_ap, fDrop_ap, fBrk_ap, fCnt_ap, fAsg_ap, fOwn_ap, fSetOb_ap, fFor_ap, fItems_ap, fScr_ap, fLenS_ap, fR1_ap, fR2_ap, fWhile_ap, fYes_ap, fComp_ap, fSetL_ap, fComp2_ap, fvD_ap, fvO_ap, fvB_ap, fSet_ap, fPar_ap, fView_ap, fbView_ap, flView_ap, fAppend_ap, fAppPop_ap, fRev_ap, fExt_ap, fFreeze_ap, fEnum_ap, fJoin_ap, fPut_ap, fListRange_ap, fMatch_ap, fField_ap, fRecPut_ap, fPnil_ap, fPcons_ap, fRec_ap, fNever_ap, DL.le_ii, DL.lt_ii, DL.gt_ii, DL.ge_ii, DL.sub_ii, DL.add_ii, DL.neg_i, DL.eq_ii, DL.ne_ii, DL.len_l, DL.len_t, DL.int1_i, DL.max2_ii, DL.min2_ii, DL.tuple_l, DL.tuple_t, DL.list_l, DL.list_t, DL.revL_l, rev_l, DL.isN_n, DL.isN_t, DL.isN_i, DL.notN_n, DL.notN_t, DL.notN_i, DL.isInt_i, DL.isInt_b, DL.isInt_s, DL.isInt_n, DL.isInt_l, DL.isInt_t, DL.isInt_d, DL.isBool_i, DL.isBool_b, DL.isBool_s, DL.isBool_n, DL.isBool_l, DL.isBool_t, DL.isBool_d, DL.isStr_i, DL.isStr_b, DL.isStr_s, DL.isStr_n, DL.isStr_l, DL.isStr_t, DL.isStr_d, DL.isTup_i, DL.isTup_b, DL.isTup_s, DL.isTup_n, DL.isTup_l, DL.isTup_t, DL.isTup_d, DL.ix_t0, DL.ix_t1, DL.ix_t2, DL.ix_t3, DL.ix_t4, DL.ix_l0, DL.ix_l1, DL.ix_l2, Int.reduceLT, Int.reduceLE, Int.reduceNeg, Int.reduceAdd, Int.reduceSub, Int.reduceMul, Int.reduceToNat, Int.reduceBEq, Int.cast_ofNat_Int, a3]
  · simp -implicitDefEqProofs only [d1, ok_bind, bad_bind, ex_bind, ofO_some, ofO_none, okIf_t, choose_t, choose_f, asB_b, asI_i, asS_s, asL_l, asD_d, asOb_ob, asO_o, slotD_0, slotD_s, slotO_0, slotO_s, slotOb_0, slotOb_s, slotA_d, slotA_ob, slotA_r, slotA_sc, slotA_s, slotSc_0, slotSc_s, seqK_nx, seqK_rt, seqK_bk, seqK_ct, loopK_nx, loopK_rt, loopK_bk, loopK_ct, outS_nx, outS_rt, run_ap, gName_ap, gNil_nil, gCons_cons, gTup_t, fmNil_ap, fmStr_s, fmAny_ap, fmEv_t, noEx_ok, unz_ok, view_nil, view_cons, viewO_n, viewO_d, viewO_o, viewO_ob, viewO_r, viewO_s, wipeD_nil, wipeD_cons, List.set_cons_succ, List.set_cons_zero, List.set_nil, List.length_cons, List.length_nil, Nat.reduceAdd, Nat.reduceLeDiff, Nat.reduceEqDiff, Nat.reduceLT, decide_true, decide_false, Bool.not_true, Bool.not_false, Nat.zero_add, itemsAny_l, itemsAny_t, itemsAny_s, enumO_l, enumO_t, if_tt, if_ff, Option.bind_some, Bool.and_true, Bool.true_and, Bool.and_self, ↓reduceIte, fVar_ap, fC_ap, fBin_ap, fUn_ap, fChain_ap, fVal_ap, fbNot_ap, fbAnd_ap, fbOr_ap, fAnd_ap, fOr_ap, fNot_ap, fIf_ap, fNil_ap, fCons_ap, fTup_ap, fLst_ap, fFrz_ap, fCall_ap, fCallL_ap, fONone_ap, fOSome_ap, fSl_ap, fAnil_ap, fAd_ap, fAv_ap, fFn_ap, fFnOb_ap, fVarOb_ap, fSeq_ap, fNext_ap, fRet_ap, fRetN_ap, fRetOb_ap, fIfS_ap, fDrop_ap, fBrk_ap, fCnt_ap, fAsg_ap, fOwn_ap, fSetOb_ap, fFor_ap, fItems_ap, fScr_ap, fLenS_ap, fR1_ap, fR2_ap, fWhile_ap, fYes_ap, fComp_ap, fSetL_ap, fComp2_ap, fvD_ap, fvO_ap, fvB_ap, fSet_ap, fPar_ap, fView_ap, fbView_ap, flView_ap, fAppend_ap, fAppPop_ap, fRev_ap, fExt_ap, fFreeze_ap, fEnum_ap, fJoin_ap, fPut_ap, fListRange_ap, fMatch_ap, fField_ap, fRecPut_ap, fPnil_ap, fPcons_ap, fRec_ap, fNever_ap, DL.le_ii, DL.lt_ii, DL.gt_ii, DL.ge_ii, DL.sub_ii, DL.add_ii, DL.neg_i, DL.eq_ii, DL.ne_ii, DL.len_l, DL.len_t, DL.int1_i, DL.max2_ii, DL.min2_ii, DL.tuple_l, DL.tuple_t, DL.list_l, DL.list_t, DL.revL_l, rev_l, DL.isN_n, DL.isN_t, DL.isN_i, DL.notN_n, DL.notN_t, DL.notN_i, DL.isInt_i, DL.isInt_b, DL.isInt_s, DL.isInt_n, DL.isInt_l, DL.isInt_t, DL.isInt_d, DL.isBool_i, DL.isBool_b, DL.isBool_s, DL.isBool_n, DL.isBool_l, DL.isBool_t, DL.isBool_d, DL.isStr_i, DL.isStr_b, DL.isStr_s, DL.isStr_n, DL.isStr_l, DL.isStr_t, DL.isStr_d, DL.isTup_i, DL.isTup_b, DL.isTup_s, DL.isTup_n, DL.isTup_l, DL.isTup_t, DL.isTup_d, DL.ix_t0, DL.ix_t1, DL.ix_t2, DL.ix_t3, DL.ix_t4, DL.ix_l0, DL.ix_l1, DL.ix_l2, Int.reduceLT, Int.reduceLE, Int.reduceNeg, Int.reduceAdd, Int.reduceSub, Int.reduceMul, Int.reduceToNat, Int.reduceBEq, Int.cast_ofNat_Int, if_false, cut_mid', a1]
  · simp -implicitDefEqProofs only [d2, d3, ok_bind, bad_bind, ex_bind, ofO_some, ofO_none, okIf_t, choose_t, choose_f, asB_b, asI_i, asS_s, asL_l, asD_d, asOb_ob, asO_o, slotD_0, slotD_s, slotO_0, slotO_s, slotOb_0, slotOb_s, slotA_d, slotA_ob, slotA_r, slotA_sc, slotA_s, slotSc_0, slotSc_s, seqK_nx, seqK_rt, seqK_bk, seqK_ct, loopK_nx, loopK_rt, loopK_bk, loopK_ct, outS_nx, outS_rt, run_ap, gName_ap, gNil_nil, gCons_cons, gTup_t, fmNil_ap, fmStr_s, fmAny_ap, fmEv_t, noEx_ok, unz_ok, view_nil, view_cons, viewO_n, viewO_d, viewO_o, viewO_ob, viewO_r, viewO_s, wipeD_nil, wipeD_cons, List.set_cons_succ, List.set_cons_zero, List.set_nil, List.length_cons, List.length_nil, Nat.reduceAdd, Nat.reduceLeDiff, Nat.reduceEqDiff, Nat.reduceLT, decide_true, decide_false, Bool.not_true, Bool.not_false, Nat.zero_add, itemsAny_l, itemsAny_t, itemsAny_s, enumO_l, enumO_t, if_tt, if_ff, Option.bind_some, Bool.and_true, Bool.true_and, Bool.and_self, ↓reduceIte, fVar_ap, fC_ap, fBin_ap, fUn_ap, fChain_ap, fVal_ap, fbNot_ap, fbAnd_ap, fbOr_ap, fAnd_ap, fOr_ap, fNot_ap, fIf_ap, fNil_ap, fCons_ap, fTup_ap, fLst_ap, fFrz_ap, fCall_ap, fCallL_ap, fONone_ap, fOSome_ap, fSl_ap, fAnil_ap, fAd_ap, fAv_ap, fFn_ap, fFnOb_ap, fVarOb_ap, fSeq_ap, fNext_ap, fRet_ap, fRetN_ap, fRetOb_ap, fIfS_ap, fDrop_ap, fBrk_ap, fCnt_ap, fAsg_ap, fOwn_ap, fSetOb_ap, fFor_ap, fItems_ap, fScr_ap, fLenS_ap, fR1_ap, fR2_ap, fWhile_ap, fYes_ap, fComp_ap, fSetL_ap, fComp2_ap, fvD_ap, fvO_ap, fvB_ap, fSet_ap, fPar_ap, fView_ap, fbView_ap, flView_ap, fAppend_ap, fAppPop_ap, fRev_ap, fExt_ap, fFreeze_ap, fEnum_ap, fJoin_ap, fPut_ap, fListRange_ap, fMatch_ap, fField_ap, fRecPut_ap, fPnil_ap, fPcons_ap, fRec_ap, fNever_ap, DL.le_ii, DL.lt_ii, DL.gt_ii, DL.ge_ii, DL.sub_ii, DL.add_ii, DL.neg_i, DL.eq_ii, DL.ne_ii, DL.len_l, DL.len_t, DL.int1_i, DL.max2_ii, DL.min2_ii, DL.tuple_l, DL.tuple_t, DL.list_l, DL.list_t, DL.revL_l, rev_l, DL.isN_n, DL.isN_t, DL.isN_i, DL.notN_n, DL.notN_t, DL.notN_i, DL.isInt_i, DL.isInt_b, DL.isInt_s, DL.isInt_n, DL.isInt_l, DL.isInt_t, DL.isInt_d, DL.isBool_i, DL.isBool_b, DL.isBool_s, DL.isBool_n, DL.isBool_l, DL.isBool_t, DL.isBool_d, DL.isStr_i, DL.isStr_b, DL.isStr_s, DL.isStr_n, DL.isStr_l, DL.isStr_t, DL.isStr_d, DL.isTup_i, DL.isTup_b, DL.isTup_s, DL.isTup_n, DL.isTup_l, DL.isTup_t, DL.isTup_d, DL.ix_t0, DL.ix_t1, DL.ix_t2, DL.ix_t3, DL.ix_t4, DL.ix_l0, DL.ix_l1, DL.ix_l2, Int.reduceLT, Int.reduceLE, Int.reduceNeg, Int.reduceAdd, Int.reduceSub, Int.reduceMul, Int.reduceToNat, Int.reduceBEq, Int.cast_ofNat_Int, if_false, a2]
  · simp -implicitDefEqProofs only [d4, d5, d6, ok_bind, bad_bind, ex_bind, ofO_some, ofO_none, okIf_t, choose_t, choose_f, asB_b, asI_i, asS_s, asL_l, asD_d, asOb_ob, asO_o, slotD_0, slotD_s, slotO_0, slotO_s, slotOb_0, slotOb_s, slotA_d, slotA_ob, slotA_r, slotA_sc, slotA_s, slotSc_0, slotSc_s, seqK_nx, seqK_rt, seqK_bk, seqK_ct, loopK_nx, loopK_rt, loopK_bk, loopK_ct, outS_nx, outS_rt, run_ap, gName_ap, gNil_nil, gCons_cons, gTup_t, fmNil_ap, fmStr_s, fmAny_ap, fmEv_t, noEx_ok, unz_ok, view_nil, view_cons, viewO_n, viewO_d, viewO_o, viewO_ob, viewO_r, viewO_s, wipeD_nil, wipeD_cons, List.set_cons_succ, List.set_cons_zero, List.set_nil, List.length_cons, List.length_nil, Nat.reduceAdd, Nat.reduceLeDiff, Nat.reduceEqDiff, Nat.reduceLT, decide_true, decide_false, Bool.not_true, Bool.not_false, Nat.zero_add, itemsAny_l, itemsAny_t, itemsAny_s, enumO_l, enumO_t, if_tt, if_ff, Option.bind_some, Bool.and_true, Bool.true_and, Bool.and_self, ↓reduceIte, fVar_ap, fC_ap, fBin_ap, fUn_ap, fChain_ap, fVal_ap, fbNot_ap, fbAnd_ap, fbOr_ap, fAnd_ap, fOr_ap, fNot_ap, fIf_ap, fNil_ap, fCons_ap, fTup_ap, fLst_ap, fFrz_ap, fCall_ap, fCallL_ap, fONone_ap, fOSome_ap, fSl_ap, fAnil_ap, fAd_ap, fAv_ap, fFn_ap, fFnOb_ap, fVarOb_ap, fSeq_ap, fNext_ap, fRet_ap, fRetN_ap, fRetOb_ap, fIfS_ap, fDrop_ap, fBrk_ap, fCnt_ap, fAsg_ap, fOwn_ap, fSetOb_ap, fFor_ap, fItems_ap, fScr_ap, fLenS_ap, fR1_ap, fR2_ap, fWhile_ap, fYes_ap, fComp_ap, fSetL_ap, fComp2_ap, fvD_ap, fvO_ap, fvB_ap, fSet_ap, fPar_ap, fView_ap, fbView_ap, flView_ap, fAppend_ap, fAppPop_ap, fRev_ap, fExt_ap, fFreeze_ap, fEnum_ap, fJoin_ap, fPut_ap, fListRange_ap, fMatch_ap, fField_ap, fRecPut_ap, fPnil_ap, fPcons_ap, fRec_ap, fNever_ap, DL.le_ii, DL.lt_ii, DL.gt_ii, DL.ge_ii, DL.sub_ii, DL.add_ii, DL.neg_i, DL.eq_ii, DL.ne_ii, DL.len_l, DL.len_t, DL.int1_i, DL.max2_ii, DL.min2_ii, DL.tuple_l, DL.tuple_t, DL.list_l, DL.list_t, DL.revL_l, rev_l, DL.isN_n, DL.isN_t, DL.isN_i, DL.notN_n, DL.notN_t, DL.notN_i, DL.isInt_i, DL.isInt_b, DL.isInt_s, DL.isInt_n, DL.isInt_l, DL.isInt_t, DL.isInt_d, DL.isBool_i, DL.isBool_b, DL.isBool_s, DL.isBool_n, DL.isBool_l, DL.isBool_t, DL.isBool_d, DL.isStr_i, DL.isStr_b, DL.isStr_s, DL.isStr_n, DL.isStr_l, DL.isStr_t, DL.isStr_d, DL.isTup_i, DL.isTup_b, DL.isTup_s, DL.isTup_n, DL.isTup_l, DL.isTup_t, DL.isTup_d, DL.ix_t0, DL.ix_t1, DL.ix_t2, DL.ix_t3, DL.ix_t4, DL.ix_l0, DL.ix_l1, DL.ix_l2, Int.reduceLT, Int.reduceLE, Int.reduceNeg, Int.reduceAdd, Int.reduceSub, Int.reduceMul, Int.reduceToNat, Int.reduceBEq, Int.cast_ofNat_Int, if_false, v_from_outside (show row.length ≤ 10000 by omega)]
  · simp -implicitDefEqProofs only [p1, p2, p3, p4, ok_bind, bad_bind, ex_bind, ofO_some, ofO_none, okIf_t, choose_t, choose_f, asB_b, asI_i, asS_s, asL_l, asD_d, asOb_ob, asO_o, slotD_0, slotD_s, slotO_0, slotO_s, slotOb_0, slotOb_s, slotA_d, slotA_ob, slotA_r, slotA_sc, slotA_s, slotSc_0, slotSc_s, seqK_nx, seqK_rt, seqK_bk, seqK_ct, loopK_nx, loopK_rt, loopK_bk, loopK_ct, outS_nx, outS_rt, run_ap, gName_ap, gNil_nil, gCons_cons, gTup_t, fmNil_ap, fmStr_s, fmAny_ap, fmEv_t, noEx_ok, unz_ok, view_nil, view_cons, viewO_n, viewO_d, viewO_o, viewO_ob, viewO_r, viewO_s, wipeD_nil, wipeD_cons, List.set_cons_succ, List.set_cons_zero, List.set_nil, List.length_cons, List.length_nil, Nat.reduceAdd, Nat.reduceLeDiff, Nat.reduceEqDiff, Nat.reduceLT, decide_true, decide_false, Bool.not_true, Bool.not_false, Nat.zero_add, itemsAny_l, itemsAny_t, itemsAny_s, enumO_l, enumO_t, if_tt, if_ff, Option.bind_some, Bool.and_true, Bool.true_and, Bool.and_self, ↓reduceIte, fVar_ap, fC_ap, fBin_ap, fUn_ap, fChain_ap, fVal_ap, fbNot_ap, fbAnd_ap, fbOr_ap, fAnd_ap, fOr_ap, fNot_ap, fIf_ap, fNil_ap, fCons_ap, fTup_ap, fLst_ap, fFrz_ap, fCall_ap, fCallL_ap, fONone_ap, fOSome_ap, fSl_ap, fAnil_ap, fAd_ap, fAv_ap, fFn_ap, fFnOb_ap, fVarOb_ap, fSeq_ap, fNext_ap, fRet_ap, fRetN_ap, fRetOb_ap, fIfS_ap, fDrop_ap, fBrk_ap, fCnt_ap, fAsg_ap, fOwn_ap, fSetOb_ap, fFor_ap, fItems_ap, fScr_ap, fLenS_ap, fR1_ap, fR2_ap, fWhile_ap, fYes_ap, fComp_ap, fSetL_ap, fComp2_ap, fvD_ap, fvO_ap, fvB_ap, fSet_ap, fPar_ap, fView_ap, fbView_ap, flView_ap, fAppend_ap, fAppPop_ap, fRev_ap, fExt_ap, fFreeze_ap, fEnum_ap, fJoin_ap, fPut_ap, fListRange_ap, fMatch_ap, fField_ap, fRecPut_ap, fPnil_ap, fPcons_ap, fRec_ap, fNever_ap, DL.le_ii, DL.lt_ii, DL.gt_ii, DL.ge_ii, DL.sub_ii, DL.add_ii, DL.neg_i, DL.eq_ii, DL.ne_ii, DL.len_l, DL.len_t, DL.int1_i, DL.max2_ii, DL.min2_ii, DL.tuple_l, DL.tuple_t, DL.list_l, DL.list_t, DL.revL_l, rev_l, DL.isN_n, DL.isN_t, DL.isN_i, DL.notN_n, DL.notN_t, DL.notN_i, DL.isInt_i, DL.isInt_b, DL.isInt_s, DL.isInt_n, DL.isInt_l, DL.isInt_t, DL.isInt_d, DL.isBool_i, DL.isBool_b, DL.isBool_s, DL.isBool_n, DL.isBool_l, DL.isBool_t, DL.isBool_d, DL.isStr_i, DL.isStr_b, DL.isStr_s, DL.isStr_n, DL.isStr_l, DL.isStr_t, DL.isStr_d, DL.isTup_i, DL.isTup_b, DL.isTup_s, DL.isTup_n, DL.isTup_l, DL.isTup_t, DL.isTup_d, DL.ix_t0, DL.ix_t1, DL.ix_t2, DL.ix_t3, DL.ix_t4, DL.ix_l0, DL.ix_l1, DL.ix_l2, Int.reduceLT, Int.reduceLE, Int.reduceNeg, Int.reduceAdd, Int.reduceSub, Int.reduceMul, Int.reduceToNat, Int.reduceBEq, Int.cast_ofNat_Int, if_false]
noncomputable def b_is_key : FS := (fRet (fFn 3 F_is_whole (fAd (fVar 0) (fAd (fC (.int 0)) (fAd (fC (.int 87)) fAnil)))))
theorem b_is_key_ap {ρ : Sl} {z : Z} : b_is_key ρ z = (fRet (fFn 3 F_is_whole (fAd (fVar 0) (fAd (fC (.int 0)) (fAd (fC (.int 87)) fAnil))))) ρ z := rfl
noncomputable def F_is_key : Fu := fnOf ["thing"] b_is_key
theorem F_is_key_eq {x0 : S} {z : Z} : F_is_key [x0] z = (b_is_key [some x0] z).bind outS := rfl
theorem v_is_key {d : D} {z : Z} : F_is_key [.d d] z = .ok (.d (.bool (isWhole d 0 87))) z := by
  rw [F_is_key_eq]
  simp -implicitDefEqProofs only [b_is_key, ok_bind, bad_bind, ex_bind, ofO_some, ofO_none, okIf_t, choose_t, choose_f, asB_b, asI_i, asS_s, asL_l, asD_d, asOb_ob, asO_o, slotD_0, slotD_s, slotO_0, slotO_s, slotOb_0, slotOb_s, slotA_d, slotA_ob, slotA_r, slotA_sc, slotA_s, slotSc_0, slotSc_s, seqK_nx, seqK_rt, seqK_bk, seqK_ct, loopK_nx, loopK_rt, loopK_bk, loopK_ct, outS_nx, outS_rt, run_ap, gName_ap, gNil_nil, gCons_cons, gTup_t, fmNil_ap, fmStr_s, fmAny_ap, fmEv_t, noEx_ok, unz_ok, view_nil, view_cons, viewO_n, viewO_d, viewO_o, viewO_ob, viewO_r, viewO_s, wipeD_nil, wipeD_cons, List.set_cons_succ, List.set_cons_zero, List.set_nil, List.length_cons, List.length_nil, Nat.reduceAdd, Nat.reduceLeDiff, Nat.reduceEqDiff, Nat.reduceLT, decide_true, decide_false, Bool.not_true, Bool.not_false, Nat.zero_add, itemsAny_l, itemsAny_t, itemsAny_s, enumO_l, enumO_t, if_tt, if_ff, Option.bind_some, Bool.and_true, Bool.true_and, Bool.and_self, ↓reduceIte, fVar_ap, fC_ap, fBin_ap, fUn_ap, fChain_ap, fVal_ap, fbNot_ap, fbAnd_ap, fbOr_ap, fAnd_ap, fOr_ap, fNot_ap, fIf_ap, fNil_ap, fCons_ap, fTup_ap, fLst_ap, fFrz_ap, fCall_ap, fCallL_ap, fONone_ap, fOSome_ap, fSl_ap, fAnil_ap, fAd_ap, fAv_ap, fFn_ap, fFnOb_ap, fVarOb_ap, fSeq_ap, fNext_ap, fRet_ap, fRetN_ap, fRetOb_ap, fIfS_ap, fDrop_ap, fBrk_ap, fCnt_ap, fAsg_ap, fOwn_ap, fSetOb_ap, fFor_ap, fItems_ap, fScr_ap, fLenS_ap, fR1_ap, fR2_ap, fWhile_ap, fYes_ap, fComp_ap, fSetL_ap, fComp2_ap, fvD_ap, fvO_ap, fvB_ap, fSet_ap, fPar_ap, fView_ap, fbView_ap, flView_ap, fAppend_ap, fAppPop_ap, fRev_ap, fExt_ap, fFreeze_ap, fEnum_ap, fJoin_ap, fPut_ap, fListRange_ap, fMatch_ap, fField_ap, fRecPut_ap, fPnil_ap, fPcons_ap, fRec_ap, fNever_ap, DL.le_ii, DL.lt_ii, DL.gt_ii, DL.ge_ii, DL.sub_ii, DL.add_ii, DL.neg_i, DL.eq_ii, DL.ne_ii, DL.len_l, DL.len_t, DL.int1_i, DL.max2_ii, DL.min2_ii, DL.tuple_l, DL.tuple_t, DL.list_l, DL.list_t, DL.revL_l, rev_l, DL.isN_n, DL.isN_t, DL.isN_i, DL.notN_n, DL.notN_t, DL.notN_i, DL.isInt_i, DL.isInt_b, DL.isInt_s, DL.isInt_n, DL.isInt_l, DL.isInt_t, DL.isInt_d, DL.isBool_i, DL.isBool_b, DL.isBool_s, DL.isBool_n, DL.isBool_l, DL.isBool_t, DL.isBool_d, DL.isStr_i, DL.isStr_b, DL.isStr_s, DL.isStr_n, DL.isStr_l, DL.isStr_t, DL.isStr_d, DL.isTup_i, DL.isTup_b, DL.isTup_s, DL.isTup_n, DL.isTup_l, DL.isTup_t, DL.isTup_d, DL.ix_t0, DL.ix_t1, DL.ix_t2, DL.ix_t3, DL.ix_t4, DL.ix_l0, DL.ix_l1, DL.ix_l2, Int.reduceLT, Int.reduceLE, Int.reduceNeg, Int.reduceAdd, Int.reduceSub, Int.reduceMul, Int.reduceToNat, Int.reduceBEq, Int.cast_ofNat_Int, v_is_whole]
noncomputable def l_need_chord_1 : FS := (fIfS (fbOr (fbNot (fVal (fFn 1 F_is_key (fAd (fVar 2) fAnil)))) (fVal (fBin DL.inD (fVar 2) (fSl DL.slD (fVar 0) fONone (fOSome (fVar 1)))))) fNever fNext)
theorem l_need_chord_1_ap {ρ : Sl} {z : Z} : l_need_chord_1 ρ z = (fIfS (fbOr (fbNot (fVal (fFn 1 F_is_key (fAd (fVar 2) fAnil)))) (fVal (fBin DL.inD (fVar 2) (fSl DL.slD (fVar 0) fONone (fOSome (fVar 1)))))) fNever fNext) ρ z := rfl
noncomputable def b_need_chord : FS := (fSeq (fIfS (fbOr (fbNot (fVal (fUn DL.isTupD (fVar 0)))) (fVal (fBin DL.gtD (fCall DL.lenD (fCons (fVar 0) fNil)) (fC (.int 6))))) fNever fNext) (fSeq (fFor (fEnum (fCons (fVar 0) fNil)) (gTup 2 (gCons (gName 1) (gCons (gName 2) gNil))) l_need_chord_1) (fRet (fVar 0))))
theorem b_need_chord_ap {ρ : Sl} {z : Z} : b_need_chord ρ z = (fSeq (fIfS (fbOr (fbNot (fVal (fUn DL.isTupD (fVar 0)))) (fVal (fBin DL.gtD (fCall DL.lenD (fCons (fVar 0) fNil)) (fC (.int 6))))) fNever fNext) (fSeq (fFor (fEnum (fCons (fVar 0) fNil)) (gTup 2 (gCons (gName 1) (gCons (gName 2) gNil))) l_need_chord_1) (fRet (fVar 0)))) ρ z := rfl
noncomputable def F_need_chord : Fu := fnOf ["thing", "number", "key"] b_need_chord
theorem F_need_chord_eq {x0 : S} {z : Z} : F_need_chord [x0] z = (b_need_chord [some x0, none, none] z).bind outS := rfl
theorem enum_eq (ds : List D) : DL.enumD ds = ds.zipIdx.map fun p => .tuple [.int ((p.2 : Nat) : Int), p.1] := by
  unfold DL.enumD
  rw [List.mapIdx_eq_zipIdx_map]
theorem chord_loop {ns : List Int} (ok : ChordOk ns) {z : Z} : ∀ (r pre : List Int) (x1 x2 : Option S), ns = pre ++ r →
    ∃ y1 y2, fLoop (gTup 2 (gCons (gName 1) (gCons (gName 2) gNil))) l_need_chord_1 ((r.map PyData.int).zipIdx pre.length |>.map fun p => .tuple [.int ((p.2 : Nat) : Int), p.1]) [some (.d (tupI ns)), x1, x2] z = .ok (.nx [some (.d (tupI ns)), y1, y2]) z
  | [], pre, x1, x2, _ => ⟨x1, x2, rfl⟩
  | k :: r, pre, x1, x2, e => by
    obtain ⟨y1, y2, ih⟩ := chord_loop ok r (pre ++ [k]) (some (.d (.int (pre.length : Nat)))) (some (.d (.int k))) (by rw [e]; simp)
    refine ⟨y1, y2, ?_⟩
    have hk := ok.key k (by rw [e]; simp)
    have e1 : isWhole (.int k) 0 87 = true := by
      show (decide (0 ≤ k) && decide (k ≤ 87)) = true
      rw [decide_eq_true hk.1, decide_eq_true hk.2]; rfl
    have e2 : slD (tupI ns) none (some ((pre.length : Nat) : Int)) = some (tupI pre) := by
      show some (PyData.tuple (cutD (ns.map .int) none (some ((pre.length : Nat) : Int)))) = _
      rw [cutD_to, ← List.map_take, e, List.take_left']
      rfl
    have e3 : pre.contains k = false := by
      have nd := ok.nd
      rw [e] at nd
      have := (List.nodup_append.mp nd).2.2
      rw [Bool.eq_false_iff]
      intro h
      exact this k (by simpa using h) k (by simp) rfl
    rw [List.map_cons, List.zipIdx_cons, List.map_cons, fLoop_cons]
    simp -implicitDefEqProofs only [ok_bind, bad_bind, ex_bind, ofO_some, ofO_none, okIf_t, choose_t, choose_f, asB_b, asI_i, asS_s, asL_l, asD_d, asOb_ob, asO_o, slotD_0, slotD_s, slotO_0, slotO_s, slotOb_0, slotOb_s, slotA_d, slotA_ob, slotA_r, slotA_sc, slotA_s, slotSc_0, slotSc_s, seqK_nx, seqK_rt, seqK_bk, seqK_ct, loopK_nx, loopK_rt, loopK_bk, loopK_ct, outS_nx, outS_rt, run_ap, gName_ap, gNil_nil, gCons_cons, gTup_t, fmNil_ap, fmStr_s, fmAny_ap, fmEv_t, noEx_ok, unz_ok, view_nil, view_cons, viewO_n, viewO_d, viewO_o, viewO_ob, viewO_r, viewO_s, wipeD_nil, wipeD_cons, List.set_cons_succ, List.set_cons_zero, List.set_nil, List.length_cons, List.length_nil, Nat.reduceAdd, Nat.reduceLeDiff, Nat.reduceEqDiff, Nat.reduceLT, decide_true, decide_false, Bool.not_true, Bool.not_false, Nat.zero_add, itemsAny_l, itemsAny_t, itemsAny_s, enumO_l, enumO_t, if_tt, if_ff, Option.bind_some, Bool.and_true, Bool.true_and, Bool.and_self, ↓reduceIte, fVar_ap, fC_ap, fBin_ap, fUn_ap, fChain_ap, fVal_ap, fbNot_ap, fbAnd_ap, fbOr_ap, fAnd_ap, fOr_ap, fNot_ap, fIf_ap, fNil_ap, fCons_ap, fTup_ap, fLst_ap, fFrz_ap, fCall_ap, fCallL_ap, fONone_ap, fOSome_ap, fSl_ap, fAnil_ap, fAd_ap, fAv_ap, fFn_ap, fFnOb_ap, fVarOb_ap, fSeq_ap, fNext_ap, fRet_ap, fRetN_ap, fRetOb_ap, fIfS_ap, fDrop_ap, fBrk_ap, fCnt_ap, fAsg_ap, fOwn_ap, fSetOb_ap, fFor_ap, fItems_ap, fScr_ap, fLenS_ap, fR1_ap, fR2_ap, fWhile_ap, fYes_ap, fComp_ap, fSetL_ap, fComp2_ap, fvD_ap, fvO_ap, fvB_ap, fSet_ap, fPar_ap, fView_ap, fbView_ap, flView_ap, fAppend_ap, fAppPop_ap, fRev_ap, fExt_ap, fFreeze_ap, fEnum_ap, fJoin_ap, fPut_ap, fListRange_ap, fMatch_ap, fField_ap, fRecPut_ap, fPnil_ap, fPcons_ap, fRec_ap, fNever_ap, DL.le_ii, DL.lt_ii, DL.gt_ii, DL.ge_ii, DL.sub_ii, DL.add_ii, DL.neg_i, DL.eq_ii, DL.ne_ii, DL.len_l, DL.len_t, DL.int1_i, DL.max2_ii, DL.min2_ii, DL.tuple_l, DL.tuple_t, DL.list_l, DL.list_t, DL.revL_l, rev_l, DL.isN_n, DL.isN_t, DL.isN_i, DL.notN_n, DL.notN_t, DL.notN_i, DL.isInt_i, DL.isInt_b, DL.isInt_s, DL.isInt_n, DL.isInt_l, DL.isInt_t, DL.isInt_d, DL.isBool_i, DL.isBool_b, DL.isBool_s, DL.isBool_n, DL.isBool_l, DL.isBool_t, DL.isBool_d, DL.isStr_i, DL.isStr_b, DL.isStr_s, DL.isStr_n, DL.isStr_l, DL.isStr_t, DL.isStr_d, DL.isTup_i, DL.isTup_b, DL.isTup_s, DL.isTup_n, DL.isTup_l, DL.isTup_t, DL.isTup_d, DL.ix_t0, DL.ix_t1, DL.ix_t2, DL.ix_t3, DL.ix_t4, DL.ix_l0, DL.ix_l1, DL.ix_l2, Int.reduceLT, Int.reduceLE, Int.reduceNeg, Int.reduceAdd, Int.reduceSub, Int.reduceMul, Int.reduceToNat, Int.reduceBEq, Int.cast_ofNat_Int, l_need_chord_1_ap, v_is_key, e1, e2, in_ints, e3]
    rw [List.length_append] at ih
    exact ih
theorem v_need_chord {ns : List Int} {z : Z} (ok : ChordOk ns) : F_need_chord [.d (tupI ns)] z = .ok (.d (tupI ns)) z := by
  have hl := ok.len
  have e : decide ((6 : Int) < ((ns.map PyData.int).length : Nat)) = false := decide_eq_false (by rw [List.length_map]; omega)
  rw [F_need_chord_eq]
  simp -implicitDefEqProofs only [b_need_chord, ok_bind, bad_bind, ex_bind, ofO_some, ofO_none, okIf_t, choose_t, choose_f, asB_b, asI_i, asS_s, asL_l, asD_d, asOb_ob, asO_o, slotD_0, slotD_s, slotO_0, slotO_s, slotOb_0, slotOb_s, slotA_d, slotA_ob, slotA_r, slotA_sc, slotA_s, slotSc_0, slotSc_s, seqK_nx, seqK_rt, seqK_bk, seqK_ct, loopK_nx, loopK_rt, loopK_bk, loopK_ct, outS_nx, outS_rt, run_ap, gName_ap, gNil_nil, gCons_cons, gTup_t, fmNil_ap, fmStr_s, fmAny_ap, fmEv_t, noEx_ok, unz_ok, view_nil, view_cons, viewO_n, viewO_d, viewO_o, viewO_ob, viewO_r, viewO_s, wipeD_nil, wipeD_cons, List.set_cons_succ, List.set_cons_zero, List.set_nil, List.length_cons, List.length_nil, Nat.reduceAdd, Nat.reduceLeDiff, Nat.reduceEqDiff, Nat.reduceLT, decide_true, decide_false, Bool.not_true, Bool.not_false, Nat.zero_add, itemsAny_l, itemsAny_t, itemsAny_s, enumO_l, enumO_t, if_tt, if_ff, Option.bind_some, Bool.and_true, Bool.true_and, Bool.and_self, ↓reduceIte, fVar_ap, fC_ap, fBin_ap, fUn_ap, fChain_ap, fVal_ap, fbNot_ap, fbAnd_ap, fbOr_ap, fAnd_ap, fOr_ap, fNot_ap, fIf_ap, fNil_ap, fCons_ap, fTup_ap, fLst_ap, fFrz_ap, fCall_ap, fCallL_ap, fONone_ap, fOSome_ap, fSl_ap, fAnil_ap, fAd_ap, fAv_ap, fFn_ap, fFnOb_ap, fVarOb_ap, fSeq_ap, fNext_ap, fRet_ap, fRetN_ap, fRetOb_ap, fIfS_ap, fDrop_ap, fBrk_ap, fCnt_ap, fAsg_ap, fOwn_ap, fSetOb_ap, fFor_ap, fItems_ap, fScr_ap, fLenS_ap, fR1_ap, fR2_ap, fWhile_ap, fYes_ap, fComp_ap, fSetL_ap, fComp2_ap, fvD_ap, fvO_ap, fvB_ap, fSet_ap, fPar_ap, fView_ap, fbView_ap, flView_ap, fAppend_ap, fAppPop_ap, fRev_ap, fExt_ap, fFreeze_ap, fEnum_ap, fJoin_ap, fPut_ap, fListRange_ap, fMatch_ap, fField_ap, fRecPut_ap, fPnil_ap, fPcons_ap, fRec_ap, fNever_ap, DL.le_ii, DL.lt_ii, DL.gt_ii, DL.ge_ii, DL.sub_ii, DL.add_ii, DL.neg_i, DL.eq_ii, DL.ne_ii, DL.len_l, DL.len_t, DL.int1_i, DL.max2_ii, DL.min2_ii, DL.tuple_l, DL.tuple_t, DL.list_l, DL.list_t, DL.revL_l, rev_l, DL.isN_n, DL.isN_t, DL.isN_i, DL.notN_n, DL.notN_t, DL.notN_i, DL.isInt_i, DL.isInt_b, DL.isInt_s, DL.isInt_n, DL.isInt_l, DL.isInt_t, DL.isInt_d, DL.isBool_i, DL.isBool_b, DL.isBool_s, DL.isBool_n, DL.isBool_l, DL.isBool_t, DL.isBool_d, DL.isStr_i, DL.isStr_b, DL.isStr_s, DL.isStr_n, DL.isStr_l, DL.isStr_t, DL.isStr_d, DL.isTup_i, DL.isTup_b, DL.isTup_s, DL.isTup_n, DL.isTup_l, DL.isTup_t, DL.isTup_d, DL.ix_t0, DL.ix_t1, DL.ix_t2, DL.ix_t3, DL.ix_t4, DL.ix_l0, DL.ix_l1, DL.ix_l2, Int.reduceLT, Int.reduceLE, Int.reduceNeg, Int.reduceAdd, Int.reduceSub, Int.reduceMul, Int.reduceToNat, Int.reduceBEq, Int.cast_ofNat_Int, e, enum_eq]
  obtain ⟨y1, y2, h⟩ := chord_loop ok (z := z) ns [] none none rfl
  rw [show ([] : List Int).length = 0 from rfl] at h
  rw [h]
  simp -implicitDefEqProofs only [ok_bind, bad_bind, ex_bind, ofO_some, ofO_none, okIf_t, choose_t, choose_f, asB_b, asI_i, asS_s, asL_l, asD_d, asOb_ob, asO_o, slotD_0, slotD_s, slotO_0, slotO_s, slotOb_0, slotOb_s, slotA_d, slotA_ob, slotA_r, slotA_sc, slotA_s, slotSc_0, slotSc_s, seqK_nx, seqK_rt, seqK_bk, seqK_ct, loopK_nx, loopK_rt, loopK_bk, loopK_ct, outS_nx, outS_rt, run_ap, gName_ap, gNil_nil, gCons_cons, gTup_t, fmNil_ap, fmStr_s, fmAny_ap, fmEv_t, noEx_ok, unz_ok, view_nil, view_cons, viewO_n, viewO_d, viewO_o, viewO_ob, viewO_r, viewO_s, wipeD_nil, wipeD_cons, List.set_cons_succ, List.set_cons_zero, List.set_nil, List.length_cons, List.length_nil, Nat.reduceAdd, Nat.reduceLeDiff, Nat.reduceEqDiff, Nat.reduceLT, decide_true, decide_false, Bool.not_true, Bool.not_false, Nat.zero_add, itemsAny_l, itemsAny_t, itemsAny_s, enumO_l, enumO_t, if_tt, if_ff, Option.bind_some, Bool.and_true, Bool.true_and, Bool.and_self, ↓reduceIte, fVar_ap, fC_ap, fBin_ap, fUn_ap, fChain_ap, fVal_ap, fbNot_ap, fbAnd_ap, fbOr_ap, fAnd_ap, fOr_ap, fNot_ap, fIf_ap, fNil_ap, fCons_ap, fTup_ap, fLst_ap, fFrz_ap, fCall_ap, fCallL_ap, fONone_ap, fOSome_ap, fSl_ap, fAnil_ap, fAd_ap, fAv_ap, fFn_ap, fFnOb_ap, fVarOb_ap, fSeq_ap, fNext_ap, fRet_ap, fRetN_ap, fRetOb_ap, fIfS_ap, fDrop_ap, fBrk_ap, fCnt_ap, fAsg_ap, fOwn_ap, fSetOb_ap, fFor_ap, fItems_ap, fScr_ap, fLenS_ap, fR1_ap, fR2_ap, fWhile_ap, fYes_ap, fComp_ap, fSetL_ap, fComp2_ap, fvD_ap, fvO_ap, fvB_ap, fSet_ap, fPar_ap, fView_ap, fbView_ap, flView_ap, fAppend_ap, fAppPop_ap, fRev_ap, fExt_ap, fFreeze_ap, fEnum_ap, fJoin_ap, fPut_ap, fListRange_ap, fMatch_ap, fField_ap, fRecPut_ap, fPnil_ap, fPcons_ap, fRec_ap, fNever_ap, DL.le_ii, DL.lt_ii, DL.gt_ii, DL.ge_ii, DL.sub_ii, DL.add_ii, DL.neg_i, DL.eq_ii, DL.ne_ii, DL.len_l, DL.len_t, DL.int1_i, DL.max2_ii, DL.min2_ii, DL.tuple_l, DL.tuple_t, DL.list_l, DL.list_t, DL.revL_l, rev_l, DL.isN_n, DL.isN_t, DL.isN_i, DL.notN_n, DL.notN_t, DL.notN_i, DL.isInt_i, DL.isInt_b, DL.isInt_s, DL.isInt_n, DL.isInt_l, DL.isInt_t, DL.isInt_d, DL.isBool_i, DL.isBool_b, DL.isBool_s, DL.isBool_n, DL.isBool_l, DL.isBool_t, DL.isBool_d, DL.isStr_i, DL.isStr_b, DL.isStr_s, DL.isStr_n, DL.isStr_l, DL.isStr_t, DL.isStr_d, DL.isTup_i, DL.isTup_b, DL.isTup_s, DL.isTup_n, DL.isTup_l, DL.isTup_t, DL.isTup_d, DL.ix_t0, DL.ix_t1, DL.ix_t2, DL.ix_t3, DL.ix_t4, DL.ix_l0, DL.ix_l1, DL.ix_l2, Int.reduceLT, Int.reduceLE, Int.reduceNeg, Int.reduceAdd, Int.reduceSub, Int.reduceMul, Int.reduceToNat, Int.reduceBEq, Int.cast_ofNat_Int]
noncomputable def b_round_of : FS := (fSeq (fDrop (fFn 1 F_need_setting (fAd (fVar 0) fAnil))) (fRet (fFn 2 F_round_in (fAd (fVar 0) (fAd (fFn 1 F_need_chord (fAd (fVar 1) fAnil)) fAnil)))))
theorem b_round_of_ap {ρ : Sl} {z : Z} : b_round_of ρ z = (fSeq (fDrop (fFn 1 F_need_setting (fAd (fVar 0) fAnil))) (fRet (fFn 2 F_round_in (fAd (fVar 0) (fAd (fFn 1 F_need_chord (fAd (fVar 1) fAnil)) fAnil))))) ρ z := rfl
noncomputable def F_round_of : Fu := fnOf ["setting", "chord"] b_round_of
theorem F_round_of_eq {x0 x1 : S} {z : Z} : F_round_of [x0, x1] z = (b_round_of [some x0, some x1] z).bind outS := rfl
theorem v_round_of {s : Stg} {ns : List Int} {z : Z} (ok : s.Ok) (oc : ChordOk ns) : F_round_of [.d s.d, .d (tupI ns)] z = .ok (.d (tupI (rndI s ns))) z := by
  have := oc.len
  rw [F_round_of_eq]
  simp -implicitDefEqProofs only [b_round_of, ok_bind, bad_bind, ex_bind, ofO_some, ofO_none, okIf_t, choose_t, choose_f, asB_b, asI_i, asS_s, asL_l, asD_d, asOb_ob, asO_o, slotD_0, slotD_s, slotO_0, slotO_s, slotOb_0, slotOb_s, slotA_d, slotA_ob, slotA_r, slotA_sc, slotA_s, slotSc_0, slotSc_s, seqK_nx, seqK_rt, seqK_bk, seqK_ct, loopK_nx, loopK_rt, loopK_bk, loopK_ct, outS_nx, outS_rt, run_ap, gName_ap, gNil_nil, gCons_cons, gTup_t, fmNil_ap, fmStr_s, fmAny_ap, fmEv_t, noEx_ok, unz_ok, view_nil, view_cons, viewO_n, viewO_d, viewO_o, viewO_ob, viewO_r, viewO_s, wipeD_nil, wipeD_cons, List.set_cons_succ, List.set_cons_zero, List.set_nil, List.length_cons, List.length_nil, Nat.reduceAdd, Nat.reduceLeDiff, Nat.reduceEqDiff, Nat.reduceLT, decide_true, decide_false, Bool.not_true, Bool.not_false, Nat.zero_add, itemsAny_l, itemsAny_t, itemsAny_s, enumO_l, enumO_t, if_tt, if_ff, Option.bind_some, Bool.and_true, Bool.true_and, Bool.and_self, ↓reduceIte, fVar_ap, fC_ap, fBin_ap, fUn_ap, fChain_ap, fVal_ap, fbNot_ap, fbAnd_ap, fbOr_ap, fAnd_ap, fOr_ap, fNot_ap, fIf_ap, fNil_ap, fCons_ap, fTup_ap, fLst_ap, fFrz_ap, fCall_ap, fCallL_ap, fONone_ap, fOSome_ap, fSl_ap, fAnil_ap, fAd_ap, fAv_ap, fFn_ap, fFnOb_ap, fVarOb_ap, fSeq_ap, fNext_ap, fRet_ap, fRetN_ap, fRetOb_ap, fIfS_ap, fDrop_ap, fBrk_ap, fCnt_ap, fAsg_ap, fOwn_ap, fSetOb_ap, fFor_ap, fItems_ap, fScr_ap, fLenS_ap, fR1_ap, fR2_ap, fWhile_ap, fYes_ap, fComp_ap, fSetL_ap, fComp2_ap, fvD_ap, fvO_ap, fvB_ap, fSet_ap, fPar_ap, fView_ap, fbView_ap, flView_ap, fAppend_ap, fAppPop_ap, fRev_ap, fExt_ap, fFreeze_ap, fEnum_ap, fJoin_ap, fPut_ap, fListRange_ap, fMatch_ap, fField_ap, fRecPut_ap, fPnil_ap, fPcons_ap, fRec_ap, fNever_ap, DL.le_ii, DL.lt_ii, DL.gt_ii, DL.ge_ii, DL.sub_ii, DL.add_ii, DL.neg_i, DL.eq_ii, DL.ne_ii, DL.len_l, DL.len_t, DL.int1_i, DL.max2_ii, DL.min2_ii, DL.tuple_l, DL.tuple_t, DL.list_l, DL.list_t, DL.revL_l, rev_l, DL.isN_n, DL.isN_t, DL.isN_i, DL.notN_n, DL.notN_t, DL.notN_i, DL.isInt_i, DL.isInt_b, DL.isInt_s, DL.isInt_n, DL.isInt_l, DL.isInt_t, DL.isInt_d, DL.isBool_i, DL.isBool_b, DL.isBool_s, DL.isBool_n, DL.isBool_l, DL.isBool_t, DL.isBool_d, DL.isStr_i, DL.isStr_b, DL.isStr_s, DL.isStr_n, DL.isStr_l, DL.isStr_t, DL.isStr_d, DL.isTup_i, DL.isTup_b, DL.isTup_s, DL.isTup_n, DL.isTup_l, DL.isTup_t, DL.isTup_d, DL.ix_t0, DL.ix_t1, DL.ix_t2, DL.ix_t3, DL.ix_t4, DL.ix_l0, DL.ix_l1, DL.ix_l2, Int.reduceLT, Int.reduceLE, Int.reduceNeg, Int.reduceAdd, Int.reduceSub, Int.reduceMul, Int.reduceToNat, Int.reduceBEq, Int.cast_ofNat_Int, v_need_setting ok, v_need_chord oc, v_round_in ok (show ns.length ≤ 100 by omega)]
theorem rnd_mem {s : Stg} {ns : List Int} (ok : s.Ok) (h : ∀ k ∈ ns, 0 ≤ k ∧ k ≤ 87) : ∀ i ∈ rndI s ns, 0 ≤ i ∧ i ≤ 120 := by
  have ho := ok.oct
  have hr : ∀ i ∈ rowI s.oct (keysOf s.o ns), 0 ≤ i ∧ i ≤ 120 := by
    intro i hi
    unfold rowI at hi
    obtain ⟨j, hj, hi⟩ := List.mem_flatMap.mp hi
    obtain ⟨k, hk, rfl⟩ := List.mem_map.mp hi
    rw [List.mem_range] at hj
    have hk' : k ∈ ns := by
      unfold keysOf at hk
      split at hk
      · exact hk
      · exact (isort_perm ns).mem_iff.mp hk
    have := h k hk'
    omega
  intro i hi
  unfold rndI roundI at hi
  generalize rowI s.oct (keysOf s.o ns) = row at hr hi
  have hm : ∀ i ∈ midI row, i ∈ row := fun i hi => List.mem_of_mem_drop (List.mem_of_mem_take hi)
  split at hi
  · exact hr i (List.mem_reverse.mp hi)
  · split at hi
    · rcases List.mem_append.mp hi with h | h
      · exact hr i h
      · exact hr i (hm i (List.mem_reverse.mp h))
    · split at hi
      · rcases List.mem_append.mp hi with h | h
        · exact hr i h
        · exact hr i (List.mem_reverse.mp h)
      · split at hi
        · exact hr i ((out_perm _ row (Nat.le_refl _)).mem_iff.mp hi)
        · exact hr i hi
theorem rnd_len {s : Stg} {ns : List Int} (ok : s.Ok) (h : ns.length ≤ 6) : (rndI s ns).length ≤ 36 := by
  have ho := ok.oct
  have hr : (rowI s.oct (keysOf s.o ns)).length ≤ 18 := by
    rw [row_len, keys_len]
    exact Nat.le_trans (Nat.mul_le_mul ho.2 h) (by decide)
  unfold rndI roundI
  generalize rowI s.oct (keysOf s.o ns) = row at hr
  have hm : (midI row).length ≤ 18 := by
    unfold midI
    rw [List.length_take, List.length_drop]
    omega
  split
  · simp; omega
  · split
    · simp; omega
    · split
      · simp; omega
      · split
        · rw [(out_perm _ row (Nat.le_refl _)).length_eq]; omega
        · omega
theorem rnd_perm {s : Stg} {xs ys : List Int} (h : xs.Perm ys) (hs : s.o ≠ "played") : rndI s xs = rndI s ys := by
  unfold rndI keysOf
  rw [if_neg hs, if_neg hs, isort_perms h]
theorem chord_perm {xs ys : List Int} (h : xs.Perm ys) (ok : ChordOk ys) : ChordOk xs := ⟨fun k hk => ok.key k (h.mem_iff.mp hk), h.nodup_iff.mpr ok.nd, by rw [h.length_eq]; exact ok.len⟩
theorem wide_at {v : Int} (h0 : 0 ≤ v) (h1 : v < 3) : ∃ w : Nat, w ≤ 88 ∧ ixD (.list [.int 6, .int 25, .int 88]) (.int v) = some (.int (w : Nat)) := by
  have : v = 0 ∨ v = 1 ∨ v = 2 := by omega
  rcases this with rfl | rfl | rfl
  · exact ⟨6, by omega, DL.ix_l0⟩
  · exact ⟨25, by omega, DL.ix_l1⟩
  · exact ⟨88, by omega, DL.ix_l2⟩
theorem ne_ord {s : Stg} (ok : s.Ok) {w : Str} (hw : PyData.strOk w = true) : neD (.str s.o) (.str w) = some (.bool (!decide (s.o = w))) := DL.ne_ss (ord_ok ok.o) hw
theorem up_in : ("up" : Str) ∈ ordersS := by decide +kernel
noncomputable def b__law_of : FS := (fRet (fBin DL.ixD (fVar 1) (fFn 2 F__law_draw (fAv 0 (fAd (fCall DL.lenD (fCons (fVar 1) fNil)) fAnil)))))
theorem b__law_of_ap {ρ : Sl} {z : Z} : b__law_of ρ z = (fRet (fBin DL.ixD (fVar 1) (fFn 2 F__law_draw (fAv 0 (fAd (fCall DL.lenD (fCons (fVar 1) fNil)) fAnil))))) ρ z := rfl
noncomputable def F__law_of : Fu := fnOf ["_law_m", "_law_some"] b__law_of
theorem F__law_of_eq {x0 x1 : S} {z : Z} : F__law_of [x0, x1] z = (b__law_of [some x0, some x1] z).bind outS := rfl
theorem mem_strs {d : D} {ws : List Str} (h : d ∈ ws.map PyData.str) : ∃ w, d = .str w ∧ w ∈ ws := by
  obtain ⟨w, hw, rfl⟩ := List.mem_map.mp h
  exact ⟨w, rfl, hw⟩
theorem v__law_of {n : Nat} {r z : Z} {x : D} {ds : List D} (m : Mz n r z) (hx : itemsOf x = some ds) (h0 : 0 < ds.length) (h1 : ds.length ≤ 1000) (hn : n < 1000000000) : ∃ (d : D) (z' : Z), F__law_of [.ob 0, .d x] z = .ok (.d d) z' ∧ d ∈ ds ∧ Mz (n + 1) r z' := by
  obtain ⟨v, z1, e, v0, v1, m1⟩ := v__law_draw (L := ((ds.length : Nat) : Int)) m (by omega) (by omega) hn
  have hv : v.toNat < ds.length := by omega
  refine ⟨ds[v.toNat], z1, ?_, List.getElem_mem hv, m1⟩
  rw [F__law_of_eq]
  have e2 : ixD x (.int v) = some ds[v.toNat] := by
    exact DL.ixD_at hx (List.getElem?_eq_getElem hv) (Int.toNat_of_nonneg v0).symm
  simp -implicitDefEqProofs only [b__law_of_ap, ok_bind, bad_bind, ex_bind, ofO_some, ofO_none, okIf_t, choose_t, choose_f, asB_b, asI_i, asS_s, asL_l, asD_d, asOb_ob, asO_o, slotD_0, slotD_s, slotO_0, slotO_s, slotOb_0, slotOb_s, slotA_d, slotA_ob, slotA_r, slotA_sc, slotA_s, slotSc_0, slotSc_s, seqK_nx, seqK_rt, seqK_bk, seqK_ct, loopK_nx, loopK_rt, loopK_bk, loopK_ct, outS_nx, outS_rt, run_ap, gName_ap, gNil_nil, gCons_cons, gTup_t, fmNil_ap, fmStr_s, fmAny_ap, fmEv_t, noEx_ok, unz_ok, view_nil, view_cons, viewO_n, viewO_d, viewO_o, viewO_ob, viewO_r, viewO_s, wipeD_nil, wipeD_cons, List.set_cons_succ, List.set_cons_zero, List.set_nil, List.length_cons, List.length_nil, Nat.reduceAdd, Nat.reduceLeDiff, Nat.reduceEqDiff, Nat.reduceLT, decide_true, decide_false, Bool.not_true, Bool.not_false, Nat.zero_add, itemsAny_l, itemsAny_t, itemsAny_s, enumO_l, enumO_t, if_tt, if_ff, Option.bind_some, Bool.and_true, Bool.true_and, Bool.and_self, ↓reduceIte, fVar_ap, fC_ap, fBin_ap, fUn_ap, fChain_ap, fVal_ap, fbNot_ap, fbAnd_ap, fbOr_ap, fAnd_ap, fOr_ap, fNot_ap, fIf_ap, fNil_ap, fCons_ap, fTup_ap, fLst_ap, fFrz_ap, fCall_ap, fCallL_ap, fONone_ap, fOSome_ap, fSl_ap, fAnil_ap, fAd_ap, fAv_ap, fFn_ap, fFnOb_ap, fVarOb_ap, fSeq_ap, fNext_ap, fRet_ap, fRetN_ap, fRetOb_ap, fIfS_ap, fDrop_ap, fBrk_ap, fCnt_ap, fAsg_ap, fOwn_ap, fSetOb_ap, fFor_ap, fItems_ap, fScr_ap, fLenS_ap, fR1_ap, fR2_ap, fWhile_ap, fYes_ap, fComp_ap, fSetL_ap, fComp2_ap, fvD_ap, fvO_ap, fvB_ap, fSet_ap, fPar_ap, fView_ap, fbView_ap, flView_ap, fAppend_ap, fAppPop_ap, fRev_ap, fExt_ap, fFreeze_ap, fEnum_ap, fJoin_ap, fPut_ap, fListRange_ap, fMatch_ap, fField_ap, fRecPut_ap, fPnil_ap, fPcons_ap, fRec_ap, fNever_ap, DL.le_ii, DL.lt_ii, DL.gt_ii, DL.ge_ii, DL.sub_ii, DL.add_ii, DL.neg_i, DL.eq_ii, DL.ne_ii, DL.len_l, DL.len_t, DL.int1_i, DL.max2_ii, DL.min2_ii, DL.tuple_l, DL.tuple_t, DL.list_l, DL.list_t, DL.revL_l, rev_l, DL.isN_n, DL.isN_t, DL.isN_i, DL.notN_n, DL.notN_t, DL.notN_i, DL.isInt_i, DL.isInt_b, DL.isInt_s, DL.isInt_n, DL.isInt_l, DL.isInt_t, DL.isInt_d, DL.isBool_i, DL.isBool_b, DL.isBool_s, DL.isBool_n, DL.isBool_l, DL.isBool_t, DL.isBool_d, DL.isStr_i, DL.isStr_b, DL.isStr_s, DL.isStr_n, DL.isStr_l, DL.isStr_t, DL.isStr_d, DL.isTup_i, DL.isTup_b, DL.isTup_s, DL.isTup_n, DL.isTup_l, DL.isTup_t, DL.isTup_d, DL.ix_t0, DL.ix_t1, DL.ix_t2, DL.ix_t3, DL.ix_t4, DL.ix_l0, DL.ix_l1, DL.ix_l2, Int.reduceLT, Int.reduceLE, Int.reduceNeg, Int.reduceAdd, Int.reduceSub, Int.reduceMul, Int.reduceToNat, Int.reduceBEq, Int.cast_ofNat_Int, len_items hx, e, e2]
noncomputable def l_law_1 : FS := (fIfS (fVal (fBin DL.neD (fCall DL.reprD (fCons (fFn 2 F_round_of (fAd (fTup (fCons (fVar 9) (fCons (fVar 10) (fCons (fC (.str "x-")) (fCons (fVar 6) (fCons (fVar 7) fNil)))))) (fAd (fVar 8) fAnil))) fNil)) (fCall DL.reprD (fCons (fVar 11) fNil)))) (fRet (fC (.bool false))) fNext)
theorem l_law_1_ap {ρ : Sl} {z : Z} : l_law_1 ρ z = (fIfS (fVal (fBin DL.neD (fCall DL.reprD (fCons (fFn 2 F_round_of (fAd (fTup (fCons (fVar 9) (fCons (fVar 10) (fCons (fC (.str "x-")) (fCons (fVar 6) (fCons (fVar 7) fNil)))))) (fAd (fVar 8) fAnil))) fNil)) (fCall DL.reprD (fCons (fVar 11) fNil)))) (fRet (fC (.bool false))) fNext) ρ z := rfl
noncomputable def l_law_2 : FS := (fIfS (fVal (fBin DL.neD (fFn 2 F_round_of (fAd (fTup (fCons (fVar 9) (fCons (fC (.int 3)) (fCons (fC (.str "x")) (fCons (fVar 6) (fCons (fVar 7) fNil)))))) (fAd (fTup fNil) fAnil))) (fTup fNil))) (fRet (fC (.bool false))) fNext)
theorem l_law_2_ap {ρ : Sl} {z : Z} : l_law_2 ρ z = (fIfS (fVal (fBin DL.neD (fFn 2 F_round_of (fAd (fTup (fCons (fVar 9) (fCons (fC (.int 3)) (fCons (fC (.str "x")) (fCons (fVar 6) (fCons (fVar 7) fNil)))))) (fAd (fTup fNil) fAnil))) (fTup fNil))) (fRet (fC (.bool false))) fNext) ρ z := rfl
noncomputable def l_law_3 : FS := (fSeq (fSet 3 (fvD (fFn 2 F__law_draw (fAv 1 (fAd (fC (.int 70)) fAnil))))) (fSeq (fSet 4 (fvD (fBin DL.addD (fBin DL.addD (fVar 3) (fC (.int 1))) (fFn 2 F__law_draw (fAv 1 (fAd (fC (.int 5)) fAnil)))))) (fSeq (fSet 5 (fvD (fBin DL.addD (fBin DL.addD (fVar 4) (fC (.int 1))) (fFn 2 F__law_draw (fAv 1 (fAd (fC (.int 5)) fAnil)))))) (fSeq (fPar 6 7 (fvD (fFn 2 F__law_of (fAv 1 (fAd (fC (.tuple [(.str "stay"), (.str "again"), (.str "follow")])) fAnil)))) (fvD (fBin DL.eqD (fFn 2 F__law_draw (fAv 1 (fAd (fC (.int 2)) fAnil))) (fC (.int 0))))) (fSeq (fFor (fItems (fFn 3 F__law_rows (fAd (fVar 3) (fAd (fVar 4) (fAd (fVar 5) fAnil))))) (gTup 4 (gCons (gName 8) (gCons (gName 9) (gCons (gName 10) (gCons (gName 11) gNil))))) l_law_1) (fFor (fItems (fC (.tuple [(.str "up"), (.str "down"), (.str "bounce"), (.str "swing"), (.str "outside"), (.str "played")]))) (gName 9) l_law_2))))))
theorem l_law_3_ap {ρ : Sl} {z : Z} : l_law_3 ρ z = (fSeq (fSet 3 (fvD (fFn 2 F__law_draw (fAv 1 (fAd (fC (.int 70)) fAnil))))) (fSeq (fSet 4 (fvD (fBin DL.addD (fBin DL.addD (fVar 3) (fC (.int 1))) (fFn 2 F__law_draw (fAv 1 (fAd (fC (.int 5)) fAnil)))))) (fSeq (fSet 5 (fvD (fBin DL.addD (fBin DL.addD (fVar 4) (fC (.int 1))) (fFn 2 F__law_draw (fAv 1 (fAd (fC (.int 5)) fAnil)))))) (fSeq (fPar 6 7 (fvD (fFn 2 F__law_of (fAv 1 (fAd (fC (.tuple [(.str "stay"), (.str "again"), (.str "follow")])) fAnil)))) (fvD (fBin DL.eqD (fFn 2 F__law_draw (fAv 1 (fAd (fC (.int 2)) fAnil))) (fC (.int 0))))) (fSeq (fFor (fItems (fFn 3 F__law_rows (fAd (fVar 3) (fAd (fVar 4) (fAd (fVar 5) fAnil))))) (gTup 4 (gCons (gName 8) (gCons (gName 9) (gCons (gName 10) (gCons (gName 11) gNil))))) l_law_1) (fFor (fItems (fC (.tuple [(.str "up"), (.str "down"), (.str "bounce"), (.str "swing"), (.str "outside"), (.str "played")]))) (gName 9) l_law_2)))))) ρ z := rfl
noncomputable def e_law_4 : FX := (fFn 2 F_round_of (fAd (fTup (fCons (fVar 9) (fCons (fC (.int 2)) (fCons (fC (.str "x")) (fCons (fC (.str "stay")) (fCons (fC (.bool false)) fNil)))))) (fAd (fTup (fCons (fC (.int 4)) (fCons (fC (.int 0)) fNil))) fAnil)))
theorem e_law_4_ap {ρ : Sl} {z : Z} : e_law_4 ρ z = (fFn 2 F_round_of (fAd (fTup (fCons (fVar 9) (fCons (fC (.int 2)) (fCons (fC (.str "x")) (fCons (fC (.str "stay")) (fCons (fC (.bool false)) fNil)))))) (fAd (fTup (fCons (fC (.int 4)) (fCons (fC (.int 0)) fNil))) fAnil))) ρ z := rfl
noncomputable def b_law : FS := (fSeq (fSet 1 (fvB (fFnOb 1 F__law_begun (fAv 0 fAnil)))) (fSeq (fFor (fR1 (fCons (fBin DL.addD (fC (.int 2)) (fCall DL.min2D (fCons (fC (.int 2)) (fCons (fLenS 0) fNil)))) fNil)) (gName 2) l_law_3) (fSeq (fIfS (fbOr (fVal (fBin DL.neD (fC (.tuple [(.str "up"), (.str "down"), (.str "bounce"), (.str "swing"), (.str "outside"), (.str "played")])) (fTup (fCons (fC (.str "up")) (fCons (fC (.str "down")) (fCons (fC (.str "bounce")) (fCons (fC (.str "swing")) (fCons (fC (.str "outside")) (fCons (fC (.str "played")) fNil))))))))) (fVal (fBin DL.neD (fC (.tuple [(.str "stay"), (.str "again"), (.str "follow")])) (fTup (fCons (fC (.str "stay")) (fCons (fC (.str "again")) (fCons (fC (.str "follow")) fNil))))))) (fRet (fC (.bool false))) fNext) (fSeq (fSetL 12 (fComp (fItems (fC (.tuple [(.str "up"), (.str "down"), (.str "bounce"), (.str "swing"), (.str "outside"), (.str "played")]))) (gName 9) fYes e_law_4 [9])) (fSeq (fSet 11 (fvD (fFrz (fLst (fCons (fTup (fCons (fC (.int 0)) (fCons (fC (.int 4)) (fCons (fC (.int 12)) (fCons (fC (.int 16)) fNil))))) (fCons (fTup (fCons (fC (.int 16)) (fCons (fC (.int 12)) (fCons (fC (.int 4)) (fCons (fC (.int 0)) fNil))))) (fCons (fTup (fCons (fC (.int 0)) (fCons (fC (.int 4)) (fCons (fC (.int 12)) (fCons (fC (.int 16)) (fCons (fC (.int 12)) (fCons (fC (.int 4)) fNil))))))) (fCons (fTup (fCons (fC (.int 0)) (fCons (fC (.int 4)) (fCons (fC (.int 12)) (fCons (fC (.int 16)) (fCons (fC (.int 16)) (fCons (fC (.int 12)) (fCons (fC (.int 4)) (fCons (fC (.int 0)) fNil))))))))) (fCons (fTup (fCons (fC (.int 0)) (fCons (fC (.int 16)) (fCons (fC (.int 4)) (fCons (fC (.int 12)) fNil))))) fNil))))))))) (fRet (fBin DL.eqD (fVar 12) (fBin DL.addD (fVar 11) (fFrz (fLst (fCons (fTup (fCons (fC (.int 4)) (fCons (fC (.int 0)) (fCons (fC (.int 16)) (fCons (fC (.int 12)) fNil))))) fNil)))))))))))
theorem b_law_ap {ρ : Sl} {z : Z} : b_law ρ z = (fSeq (fSet 1 (fvB (fFnOb 1 F__law_begun (fAv 0 fAnil)))) (fSeq (fFor (fR1 (fCons (fBin DL.addD (fC (.int 2)) (fCall DL.min2D (fCons (fC (.int 2)) (fCons (fLenS 0) fNil)))) fNil)) (gName 2) l_law_3) (fSeq (fIfS (fbOr (fVal (fBin DL.neD (fC (.tuple [(.str "up"), (.str "down"), (.str "bounce"), (.str "swing"), (.str "outside"), (.str "played")])) (fTup (fCons (fC (.str "up")) (fCons (fC (.str "down")) (fCons (fC (.str "bounce")) (fCons (fC (.str "swing")) (fCons (fC (.str "outside")) (fCons (fC (.str "played")) fNil))))))))) (fVal (fBin DL.neD (fC (.tuple [(.str "stay"), (.str "again"), (.str "follow")])) (fTup (fCons (fC (.str "stay")) (fCons (fC (.str "again")) (fCons (fC (.str "follow")) fNil))))))) (fRet (fC (.bool false))) fNext) (fSeq (fSetL 12 (fComp (fItems (fC (.tuple [(.str "up"), (.str "down"), (.str "bounce"), (.str "swing"), (.str "outside"), (.str "played")]))) (gName 9) fYes e_law_4 [9])) (fSeq (fSet 11 (fvD (fFrz (fLst (fCons (fTup (fCons (fC (.int 0)) (fCons (fC (.int 4)) (fCons (fC (.int 12)) (fCons (fC (.int 16)) fNil))))) (fCons (fTup (fCons (fC (.int 16)) (fCons (fC (.int 12)) (fCons (fC (.int 4)) (fCons (fC (.int 0)) fNil))))) (fCons (fTup (fCons (fC (.int 0)) (fCons (fC (.int 4)) (fCons (fC (.int 12)) (fCons (fC (.int 16)) (fCons (fC (.int 12)) (fCons (fC (.int 4)) fNil))))))) (fCons (fTup (fCons (fC (.int 0)) (fCons (fC (.int 4)) (fCons (fC (.int 12)) (fCons (fC (.int 16)) (fCons (fC (.int 16)) (fCons (fC (.int 12)) (fCons (fC (.int 4)) (fCons (fC (.int 0)) fNil))))))))) (fCons (fTup (fCons (fC (.int 0)) (fCons (fC (.int 16)) (fCons (fC (.int 4)) (fCons (fC (.int 12)) fNil))))) fNil))))))))) (fRet (fBin DL.eqD (fVar 12) (fBin DL.addD (fVar 11) (fFrz (fLst (fCons (fTup (fCons (fC (.int 4)) (fCons (fC (.int 0)) (fCons (fC (.int 16)) (fCons (fC (.int 12)) fNil))))) fNil))))))))))) ρ z := rfl
noncomputable def F_law : Fu := fnOf ["_law_script", "_law_m", "_law_turn", "_law_a", "_law_b", "_law_c", "_law_change", "_law_latch", "_law_chord", "_law_order", "_law_octaves", "_law_due", "_law_told"] b_law
theorem F_law_eq {x0 : S} {z : Z} : F_law [x0] z = (b_law [some x0, none, none, none, none, none, none, none, none, none, none, none, none] z).bind outS := rfl
theorem rnd_up' {r : List Int} : roundI "up" r = r := by
  unfold roundI
  rw [if_neg (by decide +kernel), if_neg (by decide +kernel), if_neg (by decide +kernel), if_neg (by decide +kernel)]
theorem rnd_played' {r : List Int} : roundI "played" r = r := by
  unfold roundI
  rw [if_neg (by decide +kernel), if_neg (by decide +kernel), if_neg (by decide +kernel), if_neg (by decide +kernel)]
theorem rnd_down' {r : List Int} : roundI "down" r = r.reverse := by
  unfold roundI
  rw [if_pos rfl]
theorem keys_not {o : Str} {ns : List Int} (h : ¬ o = "played") : keysOf o ns = isort ns := by unfold keysOf; rw [if_neg h]
theorem keys_up {ns : List Int} : keysOf "up" ns = isort ns := keys_not (by decide +kernel)
theorem keys_down {ns : List Int} : keysOf "down" ns = isort ns := keys_not (by decide +kernel)
theorem keys_bounce {ns : List Int} : keysOf "bounce" ns = isort ns := keys_not (by decide +kernel)
theorem keys_swing {ns : List Int} : keysOf "swing" ns = isort ns := keys_not (by decide +kernel)
theorem keys_outside {ns : List Int} : keysOf "outside" ns = isort ns := keys_not (by decide +kernel)
theorem keys_played {ns : List Int} : keysOf "played" ns = ns := by unfold keysOf; rw [if_pos rfl]
theorem row_1 {ks : List Int} : rowI 1 ks = ks := by unfold rowI; simp
theorem row_2 {ks : List Int} : rowI 2 ks = ks ++ ks.map (· + 12) := by unfold rowI; simp [List.range_succ]
theorem row_3 {ks : List Int} : rowI 3 ks = ks ++ ks.map (· + 12) ++ ks.map (· + 24) := by unfold rowI; simp [List.range_succ]
theorem rows4_ok {a b c : Int} (h0 : 0 ≤ a) (h1 : a < b) (h2 : b < c) (h3 : c ≤ 80) : ∀ q ∈ rows4 a b c, ChordOk q.1 ∧ q.2.1 ∈ ordersS ∧ (1 ≤ q.2.2.1 ∧ q.2.2.1 ≤ 3) ∧ ∀ rh ch la, rndI ⟨q.2.1, q.2.2.1, rh, ch, la⟩ q.1 = q.2.2.2 := by
  have i1 : isort [b] = [b] := (isort_eq (List.Perm.refl _) (by simp)).symm
  have i2 : isort [c, a] = [a, c] := (isort_eq (List.Perm.swap _ _ _) (by simp; omega)).symm
  have i3 : isort [b, c, a] = [a, b, c] := (isort_eq (List.Perm.symm ((List.Perm.cons b (List.Perm.swap a c [])).trans (List.Perm.swap a b [c]))) (by simp; omega)).symm
  have i4 : isort [c, b, a] = [a, b, c] := (isort_eq (List.reverse_perm [c, b, a]) (by simp; omega)).symm
  have c1 : ChordOk [b] := ⟨by simp; omega, by simp, by simp⟩
  have c2 : ChordOk [c, a] := ⟨by simp; omega, by simp; omega, by simp⟩
  have c3 : ChordOk [b, c, a] := ⟨by simp; omega, by simp; omega, by simp⟩
  have c4 : ChordOk [c, b, a] := ⟨by simp; omega, by simp; omega, by simp⟩
  have o1 : ("up" : Str) ∈ ordersS := by decide +kernel
  have o2 : ("down" : Str) ∈ ordersS := by decide +kernel
  have o3 : ("bounce" : Str) ∈ ordersS := by decide +kernel
  have o4 : ("swing" : Str) ∈ ordersS := by decide +kernel
  have o5 : ("outside" : Str) ∈ ordersS := by decide +kernel
  have o6 : ("played" : Str) ∈ ordersS := by decide +kernel
  simp only [rows4, List.cons_append, List.nil_append, List.forall_mem_cons, c1, c2, c3, c4, o1, o2, o3, o4, o5, o6, rndI, rnd_up', rnd_down', rnd_played', rnd_bounce', rnd_swing', rnd_outside', keys_up, keys_down, keys_bounce, keys_swing, keys_outside, keys_played, row_1, row_2, row_3, i1, i2, i3, i4, List.map_cons, List.map_nil, List.reverse_cons, List.reverse_nil, outI_nil, outI_cons, midI, List.drop_succ_cons, List.drop_zero, List.length_cons, List.length_nil, Nat.reduceAdd, Nat.reduceSub, List.take_succ_cons, List.take_zero, List.append_nil, true_and, and_true, Nat.le_refl, Nat.reduceLeDiff, implies_true]
  intro q hq
  cases hq
theorem k04_rows {x0 x1 x2 x3 x4 x5 x12 : Option S} {ch : Str} {la : Bool} {z : Z} (hc : ch ∈ changesS) : ∀ (qs : List Row4) (x8 x9 x10 x11 : Option S), (∀ q ∈ qs, ChordOk q.1 ∧ q.2.1 ∈ ordersS ∧ (1 ≤ q.2.2.1 ∧ q.2.2.1 ≤ 3) ∧ ∀ rh ch la, rndI ⟨q.2.1, q.2.2.1, rh, ch, la⟩ q.1 = q.2.2.2) →
    ∃ y8 y9 y10 y11, fLoop (gTup 4 (gCons (gName 8) (gCons (gName 9) (gCons (gName 10) (gCons (gName 11) gNil))))) l_law_1 (qs.map row4D) [x0, x1, x2, x3, x4, x5, some (.d (.str ch)), some (.d (.bool la)), x8, x9, x10, x11, x12] z = .ok (.nx [x0, x1, x2, x3, x4, x5, some (.d (.str ch)), some (.d (.bool la)), y8, y9, y10, y11, x12]) z
  | [], x8, x9, x10, x11, _ => ⟨x8, x9, x10, x11, rfl⟩
  | q :: qs, x8, x9, x10, x11, h => by
    obtain ⟨ns, o, oct, due⟩ := q
    obtain ⟨oc, ho, hoct, hr⟩ := h _ List.mem_cons_self
    dsimp only at oc ho hoct hr
    have ok : Stg.Ok ⟨o, oct, "x-", ch, la⟩ := ⟨ho, hoct, (by decide +kernel : goodSigns "x-" = true), hc⟩
    have e := v_round_of (z := z) ok oc
    rw [hr] at e
    replace e : F_round_of [.d (.tuple [.str o, .int (oct : Nat), .str "x-", .str ch, .bool la]), .d (tupI ns)] z = .ok (.d (tupI due)) z := e
    obtain ⟨y8, y9, y10, y11, ih⟩ := k04_rows (x0 := x0) (x1 := x1) (x2 := x2) (x3 := x3) (x4 := x4) (x5 := x5) (x12 := x12) (la := la) (z := z) hc qs (some (.d (tupI ns))) (some (.d (.str o))) (some (.d (.int (oct : Nat)))) (some (.d (tupI due))) fun q hq => h q (List.mem_cons_of_mem _ hq)
    refine ⟨y8, y9, y10, y11, ?_⟩
    have rm := rnd_mem ok oc.key
    have rl := rnd_len ok oc.len
    rw [hr] at rm rl
    have rp := Rp.ints (n := 36) (ns := due) (fun i hi => by have := rm i hi; omega) rl
    have x1 := rp.repr (by omega) (by omega)
    have x2 := rp.ne
    rw [List.map_cons, fLoop_cons]
    simp -implicitDefEqProofs only [row4D, ok_bind, bad_bind, ex_bind, ofO_some, ofO_none, okIf_t, choose_t, choose_f, asB_b, asI_i, asS_s, asL_l, asD_d, asOb_ob, asO_o, slotD_0, slotD_s, slotO_0, slotO_s, slotOb_0, slotOb_s, slotA_d, slotA_ob, slotA_r, slotA_sc, slotA_s, slotSc_0, slotSc_s, seqK_nx, seqK_rt, seqK_bk, seqK_ct, loopK_nx, loopK_rt, loopK_bk, loopK_ct, outS_nx, outS_rt, run_ap, gName_ap, gNil_nil, gCons_cons, gTup_t, fmNil_ap, fmStr_s, fmAny_ap, fmEv_t, noEx_ok, unz_ok, view_nil, view_cons, viewO_n, viewO_d, viewO_o, viewO_ob, viewO_r, viewO_s, wipeD_nil, wipeD_cons, List.set_cons_succ, List.set_cons_zero, List.set_nil, List.length_cons, List.length_nil, Nat.reduceAdd, Nat.reduceLeDiff, Nat.reduceEqDiff, Nat.reduceLT, decide_true, decide_false, Bool.not_true, Bool.not_false, Nat.zero_add, itemsAny_l, itemsAny_t, itemsAny_s, enumO_l, enumO_t, if_tt, if_ff, Option.bind_some, Bool.and_true, Bool.true_and, Bool.and_self, ↓reduceIte, fVar_ap, fC_ap, fBin_ap, fUn_ap, fChain_ap, fVal_ap, fbNot_ap, fbAnd_ap, fbOr_ap, fAnd_ap, fOr_ap, fNot_ap, fIf_ap, fNil_ap, fCons_ap, fTup_ap, fLst_ap, fFrz_ap, fCall_ap, fCallL_ap, fONone_ap, fOSome_ap, fSl_ap, fAnil_ap, fAd_ap, fAv_ap, fFn_ap, fFnOb_ap, fVarOb_ap, fSeq_ap, fNext_ap, fRet_ap, fRetN_ap, fRetOb_ap, fIfS_ap, fDrop_ap, fBrk_ap, fCnt_ap, fAsg_ap, fOwn_ap, fSetOb_ap, fFor_ap, fItems_ap, fScr_ap, fLenS_ap, fR1_ap, fR2_ap, fWhile_ap, fYes_ap, fComp_ap, fSetL_ap, fComp2_ap, fvD_ap, fvO_ap, fvB_ap, fSet_ap, fPar_ap, fView_ap, fbView_ap, flView_ap, fAppend_ap, fAppPop_ap, fRev_ap, fExt_ap, fFreeze_ap, fEnum_ap, fJoin_ap, fPut_ap, fListRange_ap, fMatch_ap, fField_ap, fRecPut_ap, fPnil_ap, fPcons_ap, fRec_ap, fNever_ap, DL.le_ii, DL.lt_ii, DL.gt_ii, DL.ge_ii, DL.sub_ii, DL.add_ii, DL.neg_i, DL.eq_ii, DL.ne_ii, DL.len_l, DL.len_t, DL.int1_i, DL.max2_ii, DL.min2_ii, DL.tuple_l, DL.tuple_t, DL.list_l, DL.list_t, DL.revL_l, rev_l, DL.isN_n, DL.isN_t, DL.isN_i, DL.notN_n, DL.notN_t, DL.notN_i, DL.isInt_i, DL.isInt_b, DL.isInt_s, DL.isInt_n, DL.isInt_l, DL.isInt_t, DL.isInt_d, DL.isBool_i, DL.isBool_b, DL.isBool_s, DL.isBool_n, DL.isBool_l, DL.isBool_t, DL.isBool_d, DL.isStr_i, DL.isStr_b, DL.isStr_s, DL.isStr_n, DL.isStr_l, DL.isStr_t, DL.isStr_d, DL.isTup_i, DL.isTup_b, DL.isTup_s, DL.isTup_n, DL.isTup_l, DL.isTup_t, DL.isTup_d, DL.ix_t0, DL.ix_t1, DL.ix_t2, DL.ix_t3, DL.ix_t4, DL.ix_l0, DL.ix_l1, DL.ix_l2, Int.reduceLT, Int.reduceLE, Int.reduceNeg, Int.reduceAdd, Int.reduceSub, Int.reduceMul, Int.reduceToNat, Int.reduceBEq, Int.cast_ofNat_Int, l_law_1_ap, e, x1, x2, ih]
theorem k04_none {x0 x1 x2 x3 x4 x5 x8 x10 x11 x12 : Option S} {ch : Str} {la : Bool} {z : Z} (hc : ch ∈ changesS) : ∀ (ws : List Str) (x9 : Option S), (∀ w ∈ ws, w ∈ ordersS) →
    ∃ y9, fLoop (gName 9) l_law_2 (ws.map .str) [x0, x1, x2, x3, x4, x5, some (.d (.str ch)), some (.d (.bool la)), x8, x9, x10, x11, x12] z = .ok (.nx [x0, x1, x2, x3, x4, x5, some (.d (.str ch)), some (.d (.bool la)), x8, y9, x10, x11, x12]) z
  | [], x9, _ => ⟨x9, rfl⟩
  | w :: ws, x9, h => by
    have ho := h w List.mem_cons_self
    have ok : Stg.Ok ⟨w, 3, "x", ch, la⟩ := ⟨ho, (by decide : 1 ≤ 3 ∧ 3 ≤ 3), (by decide +kernel : goodSigns "x" = true), hc⟩
    have oc : ChordOk [] := ⟨by simp, by simp, by simp⟩
    have hr : rndI ⟨w, 3, "x", ch, la⟩ [] = [] := by
      have hk : keysOf w [] = [] := by
        unfold keysOf
        split
        · rfl
        · exact (isort_eq (List.Perm.refl _) (by simp)).symm
      have := rnd_len ok oc.len
      unfold rndI
      show roundI w (rowI 3 (keysOf w [])) = []
      rw [hk, row_3]
      unfold roundI
      simp [midI, outI_nil]
    have e := v_round_of (z := z) ok oc
    rw [hr] at e
    replace e : F_round_of [.d (.tuple [.str w, .int 3, .str "x", .str ch, .bool la]), .d (.tuple [])] z = .ok (.d (.tuple [])) z := e
    obtain ⟨y9, ih⟩ := k04_none (x0 := x0) (x1 := x1) (x2 := x2) (x3 := x3) (x4 := x4) (x5 := x5) (x8 := x8) (x10 := x10) (x11 := x11) (x12 := x12) (la := la) (z := z) hc ws (some (.d (.str w))) fun q hq => h q (List.mem_cons_of_mem _ hq)
    have n1 : neD (.tuple []) (.tuple []) = some (.bool false) := by kernel_rfl
    refine ⟨y9, ?_⟩
    rw [List.map_cons, fLoop_cons]
    simp -implicitDefEqProofs only [ok_bind, bad_bind, ex_bind, ofO_some, ofO_none, okIf_t, choose_t, choose_f, asB_b, asI_i, asS_s, asL_l, asD_d, asOb_ob, asO_o, slotD_0, slotD_s, slotO_0, slotO_s, slotOb_0, slotOb_s, slotA_d, slotA_ob, slotA_r, slotA_sc, slotA_s, slotSc_0, slotSc_s, seqK_nx, seqK_rt, seqK_bk, seqK_ct, loopK_nx, loopK_rt, loopK_bk, loopK_ct, outS_nx, outS_rt, run_ap, gName_ap, gNil_nil, gCons_cons, gTup_t, fmNil_ap, fmStr_s, fmAny_ap, fmEv_t, noEx_ok, unz_ok, view_nil, view_cons, viewO_n, viewO_d, viewO_o, viewO_ob, viewO_r, viewO_s, wipeD_nil, wipeD_cons, List.set_cons_succ, List.set_cons_zero, List.set_nil, List.length_cons, List.length_nil, Nat.reduceAdd, Nat.reduceLeDiff, Nat.reduceEqDiff, Nat.reduceLT, decide_true, decide_false, Bool.not_true, Bool.not_false, Nat.zero_add, itemsAny_l, itemsAny_t, itemsAny_s, enumO_l, enumO_t, if_tt, if_ff, Option.bind_some, Bool.and_true, Bool.true_and, Bool.and_self, ↓reduceIte, fVar_ap, fC_ap, fBin_ap, fUn_ap, fChain_ap, fVal_ap, fbNot_ap, fbAnd_ap, fbOr_ap, fAnd_ap, fOr_ap, fNot_ap, fIf_ap, fNil_ap, fCons_ap, fTup_ap, fLst_ap, fFrz_ap, fCall_ap, fCallL_ap, fONone_ap, fOSome_ap, fSl_ap, fAnil_ap, fAd_ap, fAv_ap, fFn_ap, fFnOb_ap, fVarOb_ap, fSeq_ap, fNext_ap, fRet_ap, fRetN_ap, fRetOb_ap, fIfS_ap, fDrop_ap, fBrk_ap, fCnt_ap, fAsg_ap, fOwn_ap, fSetOb_ap, fFor_ap, fItems_ap, fScr_ap, fLenS_ap, fR1_ap, fR2_ap, fWhile_ap, fYes_ap, fComp_ap, fSetL_ap, fComp2_ap, fvD_ap, fvO_ap, fvB_ap, fSet_ap, fPar_ap, fView_ap, fbView_ap, flView_ap, fAppend_ap, fAppPop_ap, fRev_ap, fExt_ap, fFreeze_ap, fEnum_ap, fJoin_ap, fPut_ap, fListRange_ap, fMatch_ap, fField_ap, fRecPut_ap, fPnil_ap, fPcons_ap, fRec_ap, fNever_ap, DL.le_ii, DL.lt_ii, DL.gt_ii, DL.ge_ii, DL.sub_ii, DL.add_ii, DL.neg_i, DL.eq_ii, DL.ne_ii, DL.len_l, DL.len_t, DL.int1_i, DL.max2_ii, DL.min2_ii, DL.tuple_l, DL.tuple_t, DL.list_l, DL.list_t, DL.revL_l, rev_l, DL.isN_n, DL.isN_t, DL.isN_i, DL.notN_n, DL.notN_t, DL.notN_i, DL.isInt_i, DL.isInt_b, DL.isInt_s, DL.isInt_n, DL.isInt_l, DL.isInt_t, DL.isInt_d, DL.isBool_i, DL.isBool_b, DL.isBool_s, DL.isBool_n, DL.isBool_l, DL.isBool_t, DL.isBool_d, DL.isStr_i, DL.isStr_b, DL.isStr_s, DL.isStr_n, DL.isStr_l, DL.isStr_t, DL.isStr_d, DL.isTup_i, DL.isTup_b, DL.isTup_s, DL.isTup_n, DL.isTup_l, DL.isTup_t, DL.isTup_d, DL.ix_t0, DL.ix_t1, DL.ix_t2, DL.ix_t3, DL.ix_t4, DL.ix_l0, DL.ix_l1, DL.ix_l2, Int.reduceLT, Int.reduceLE, Int.reduceNeg, Int.reduceAdd, Int.reduceSub, Int.reduceMul, Int.reduceToNat, Int.reduceBEq, Int.cast_ofNat_Int, l_law_2_ap, e, n1, ih]
theorem k04_turn {ns : List Int} {n : Nat} {z : Z} {s2 s3 s4 s5 s6 s7 s8 s9 s10 s11 s12 : Option S} (m : Mz n [] z) (hn : n ≤ 900000000) : ∃ t3 t4 t5 t6 t7 t8 t9 t10 t11 z', l_law_3 [some (.s ns), some (.ob 0), s2, s3, s4, s5, s6, s7, s8, s9, s10, s11, s12] z = .ok (.nx [some (.s ns), some (.ob 0), s2, t3, t4, t5, t6, t7, t8, t9, t10, t11, s12]) z' ∧ Mz (n + 100) [] z' := by
  obtain ⟨a, z1, e1, a0, a1, m1⟩ := v__law_draw (L := 70) m (by omega) (by omega) (by omega)
  obtain ⟨b, z2, e2, b0, b1, m2⟩ := v__law_draw (L := 5) m1 (by omega) (by omega) (by omega)
  obtain ⟨c, z3, e3, c0, c1, m3⟩ := v__law_draw (L := 5) m2 (by omega) (by omega) (by omega)
  obtain ⟨d4, z4, e4, h4, m4⟩ := v__law_of (x := .tuple (changesS.map .str)) m3 rfl (by decide) (by decide) (by omega)
  obtain ⟨ch, rfl, hc⟩ := mem_strs h4
  obtain ⟨w, z5, e5, w0, w1, m5⟩ := v__law_draw (L := 2) m4 (by omega) (by omega) (by omega)
  obtain ⟨y8, y9, y10, y11, l1⟩ := k04_rows (x0 := some (.s ns)) (x1 := some (.ob 0)) (x2 := s2) (x3 := some (.d (.int a))) (x4 := some (.d (.int (a + 1 + b)))) (x5 := some (.d (.int (a + 1 + b + 1 + c)))) (x12 := s12) (la := w == 0) (z := z5) hc (rows4 a (a + 1 + b) (a + 1 + b + 1 + c)) s8 s9 s10 s11 (rows4_ok a0 (by omega) (by omega) (by omega))
  obtain ⟨y9', l2⟩ := k04_none (x0 := some (.s ns)) (x1 := some (.ob 0)) (x2 := s2) (x3 := some (.d (.int a))) (x4 := some (.d (.int (a + 1 + b)))) (x5 := some (.d (.int (a + 1 + b + 1 + c)))) (x8 := y8) (x10 := y10) (x11 := y11) (x12 := s12) (la := w == 0) (z := z5) hc ordersS y9 fun w h => h
  simp only [List.map_cons, List.map_nil] at e4
  replace l2 : fLoop (gName 9) l_law_2 [.str "up", .str "down", .str "bounce", .str "swing", .str "outside", .str "played"] _ _ = _ := l2
  refine ⟨some (.d (.int a)), some (.d (.int (a + 1 + b))), some (.d (.int (a + 1 + b + 1 + c))), some (.d (.str ch)), some (.d (.bool (w == 0))), y8, y9', y10, y11, z5, ?_, m5.mono (by omega)⟩
  rw [l_law_3_ap]
  simp -implicitDefEqProofs only [ok_bind, bad_bind, ex_bind, ofO_some, ofO_none, okIf_t, choose_t, choose_f, asB_b, asI_i, asS_s, asL_l, asD_d, asOb_ob, asO_o, slotD_0, slotD_s, slotO_0, slotO_s, slotOb_0, slotOb_s, slotA_d, slotA_ob, slotA_r, slotA_sc, slotA_s, slotSc_0, slotSc_s, seqK_nx, seqK_rt, seqK_bk, seqK_ct, loopK_nx, loopK_rt, loopK_bk, loopK_ct, outS_nx, outS_rt, run_ap, gName_ap, gNil_nil, gCons_cons, gTup_t, fmNil_ap, fmStr_s, fmAny_ap, fmEv_t, noEx_ok, unz_ok, view_nil, view_cons, viewO_n, viewO_d, viewO_o, viewO_ob, viewO_r, viewO_s, wipeD_nil, wipeD_cons, List.set_cons_succ, List.set_cons_zero, List.set_nil, List.length_cons, List.length_nil, Nat.reduceAdd, Nat.reduceLeDiff, Nat.reduceEqDiff, Nat.reduceLT, decide_true, decide_false, Bool.not_true, Bool.not_false, Nat.zero_add, itemsAny_l, itemsAny_t, itemsAny_s, enumO_l, enumO_t, if_tt, if_ff, Option.bind_some, Bool.and_true, Bool.true_and, Bool.and_self, ↓reduceIte, fVar_ap, fC_ap, fBin_ap, fUn_ap, fChain_ap, fVal_ap, fbNot_ap, fbAnd_ap, fbOr_ap, fAnd_ap, fOr_ap, fNot_ap, fIf_ap, fNil_ap, fCons_ap, fTup_ap, fLst_ap, fFrz_ap, fCall_ap, fCallL_ap, fONone_ap, fOSome_ap, fSl_ap, fAnil_ap, fAd_ap, fAv_ap, fFn_ap, fFnOb_ap, fVarOb_ap, fSeq_ap, fNext_ap, fRet_ap, fRetN_ap, fRetOb_ap, fIfS_ap, fDrop_ap, fBrk_ap, fCnt_ap, fAsg_ap, fOwn_ap, fSetOb_ap, fFor_ap, fItems_ap, fScr_ap, fLenS_ap, fR1_ap, fR2_ap, fWhile_ap, fYes_ap, fComp_ap, fSetL_ap, fComp2_ap, fvD_ap, fvO_ap, fvB_ap, fSet_ap, fPar_ap, fView_ap, fbView_ap, flView_ap, fAppend_ap, fAppPop_ap, fRev_ap, fExt_ap, fFreeze_ap, fEnum_ap, fJoin_ap, fPut_ap, fListRange_ap, fMatch_ap, fField_ap, fRecPut_ap, fPnil_ap, fPcons_ap, fRec_ap, fNever_ap, DL.le_ii, DL.lt_ii, DL.gt_ii, DL.ge_ii, DL.sub_ii, DL.add_ii, DL.neg_i, DL.eq_ii, DL.ne_ii, DL.len_l, DL.len_t, DL.int1_i, DL.max2_ii, DL.min2_ii, DL.tuple_l, DL.tuple_t, DL.list_l, DL.list_t, DL.revL_l, rev_l, DL.isN_n, DL.isN_t, DL.isN_i, DL.notN_n, DL.notN_t, DL.notN_i, DL.isInt_i, DL.isInt_b, DL.isInt_s, DL.isInt_n, DL.isInt_l, DL.isInt_t, DL.isInt_d, DL.isBool_i, DL.isBool_b, DL.isBool_s, DL.isBool_n, DL.isBool_l, DL.isBool_t, DL.isBool_d, DL.isStr_i, DL.isStr_b, DL.isStr_s, DL.isStr_n, DL.isStr_l, DL.isStr_t, DL.isStr_d, DL.isTup_i, DL.isTup_b, DL.isTup_s, DL.isTup_n, DL.isTup_l, DL.isTup_t, DL.isTup_d, DL.ix_t0, DL.ix_t1, DL.ix_t2, DL.ix_t3, DL.ix_t4, DL.ix_l0, DL.ix_l1, DL.ix_l2, Int.reduceLT, Int.reduceLE, Int.reduceNeg, Int.reduceAdd, Int.reduceSub, Int.reduceMul, Int.reduceToNat, Int.reduceBEq, Int.cast_ofNat_Int, e1, e2, e3, e4, e5, v__law_rows, l1, l2]
theorem told_eq {x0 x1 x2 x3 x4 x5 x6 x7 x8 x10 x11 x12 x9 : Option S} {z : Z} : fCompL [9] (gName 9) fYes e_law_4 [x0, x1, x2, x3, x4, x5, x6, x7, x8, x9, x10, x11, x12] [.str "up", .str "down", .str "bounce", .str "swing", .str "outside", .str "played"] [] z = .ok [tupI [0, 4, 12, 16], tupI [16, 12, 4, 0], tupI [0, 4, 12, 16, 12, 4], tupI [0, 4, 12, 16, 16, 12, 4, 0], tupI [0, 16, 4, 12], tupI [4, 0, 16, 12]] z := by
  rw [comp_map (h := fun d => match d with | .str w => tupI (rndI ⟨w, 2, "x", "stay", false⟩ [4, 0]) | d => d)]
  · rw [List.nil_append]
    have i2 : isort [4, 0] = [0, 4] := (isort_eq (List.Perm.swap _ _ _) (by simp)).symm
    simp only [List.map_cons, List.map_nil, rndI, rnd_up', rnd_down', rnd_played', rnd_bounce', rnd_swing', rnd_outside', keys_up, keys_down, keys_bounce, keys_swing, keys_outside, keys_played, row_2, i2, List.reverse_cons, List.reverse_nil, outI_nil, outI_cons, midI, List.drop_succ_cons, List.drop_zero, List.length_cons, List.length_nil, Nat.reduceAdd, Nat.reduceSub, List.take_succ_cons, List.take_zero, List.append_nil, List.cons_append, List.nil_append, Int.reduceAdd]
  · simp
  · intro d hd
    obtain ⟨w, hw, rfl⟩ : ∃ w ∈ ordersS, d = .str w := by
      have : d ∈ ordersS.map PyData.str := hd
      obtain ⟨w, hw, rfl⟩ := List.mem_map.mp this
      exact ⟨w, hw, rfl⟩
    refine ⟨_, rfl, ?_⟩
    have ok : Stg.Ok ⟨w, 2, "x", "stay", false⟩ := ⟨hw, (by decide : 1 ≤ 2 ∧ 2 ≤ 3), (by decide +kernel : goodSigns "x" = true), (by decide +kernel : ("stay" : Str) ∈ changesS)⟩
    have oc : ChordOk [4, 0] := ⟨by simp, by simp, by simp⟩
    have e := v_round_of (z := z) ok oc
    replace e : F_round_of [.d (.tuple [.str w, .int 2, .str "x", .str "stay", .bool false]), .d (.tuple [.int 4, .int 0])] z = .ok (.d (tupI (rndI ⟨w, 2, "x", "stay", false⟩ [4, 0]))) z := e
    simp -implicitDefEqProofs only [wipeD, ok_bind, bad_bind, ex_bind, ofO_some, ofO_none, okIf_t, choose_t, choose_f, asB_b, asI_i, asS_s, asL_l, asD_d, asOb_ob, asO_o, slotD_0, slotD_s, slotO_0, slotO_s, slotOb_0, slotOb_s, slotA_d, slotA_ob, slotA_r, slotA_sc, slotA_s, slotSc_0, slotSc_s, seqK_nx, seqK_rt, seqK_bk, seqK_ct, loopK_nx, loopK_rt, loopK_bk, loopK_ct, outS_nx, outS_rt, run_ap, gName_ap, gNil_nil, gCons_cons, gTup_t, fmNil_ap, fmStr_s, fmAny_ap, fmEv_t, noEx_ok, unz_ok, view_nil, view_cons, viewO_n, viewO_d, viewO_o, viewO_ob, viewO_r, viewO_s, wipeD_nil, wipeD_cons, List.set_cons_succ, List.set_cons_zero, List.set_nil, List.length_cons, List.length_nil, Nat.reduceAdd, Nat.reduceLeDiff, Nat.reduceEqDiff, Nat.reduceLT, decide_true, decide_false, Bool.not_true, Bool.not_false, Nat.zero_add, itemsAny_l, itemsAny_t, itemsAny_s, enumO_l, enumO_t, if_tt, if_ff, Option.bind_some, Bool.and_true, Bool.true_and, Bool.and_self, ↓reduceIte, fVar_ap, fC_ap, fBin_ap, fUn_ap, fChain_ap, fVal_ap, fbNot_ap, fbAnd_ap, fbOr_ap, fAnd_ap, fOr_ap, fNot_ap, fIf_ap, fNil_ap, fCons_ap, fTup_ap, fLst_ap, fFrz_ap, fCall_ap, fCallL_ap, fONone_ap, fOSome_ap, fSl_ap, fAnil_ap, fAd_ap, fAv_ap, fFn_ap, fFnOb_ap, fVarOb_ap, fSeq_ap, fNext_ap, fRet_ap, fRetN_ap, fRetOb_ap, fIfS_ap, fDrop_ap, fBrk_ap, fCnt_ap, fAsg_ap, fOwn_ap, fSetOb_ap, fFor_ap, fItems_ap, fScr_ap, fLenS_ap, fR1_ap, fR2_ap, fWhile_ap, fYes_ap, fComp_ap, fSetL_ap, fComp2_ap, fvD_ap, fvO_ap, fvB_ap, fSet_ap, fPar_ap, fView_ap, fbView_ap, flView_ap, fAppend_ap, fAppPop_ap, fRev_ap, fExt_ap, fFreeze_ap, fEnum_ap, fJoin_ap, fPut_ap, fListRange_ap, fMatch_ap, fField_ap, fRecPut_ap, fPnil_ap, fPcons_ap, fRec_ap, fNever_ap, DL.le_ii, DL.lt_ii, DL.gt_ii, DL.ge_ii, DL.sub_ii, DL.add_ii, DL.neg_i, DL.eq_ii, DL.ne_ii, DL.len_l, DL.len_t, DL.int1_i, DL.max2_ii, DL.min2_ii, DL.tuple_l, DL.tuple_t, DL.list_l, DL.list_t, DL.revL_l, rev_l, DL.isN_n, DL.isN_t, DL.isN_i, DL.notN_n, DL.notN_t, DL.notN_i, DL.isInt_i, DL.isInt_b, DL.isInt_s, DL.isInt_n, DL.isInt_l, DL.isInt_t, DL.isInt_d, DL.isBool_i, DL.isBool_b, DL.isBool_s, DL.isBool_n, DL.isBool_l, DL.isBool_t, DL.isBool_d, DL.isStr_i, DL.isStr_b, DL.isStr_s, DL.isStr_n, DL.isStr_l, DL.isStr_t, DL.isStr_d, DL.isTup_i, DL.isTup_b, DL.isTup_s, DL.isTup_n, DL.isTup_l, DL.isTup_t, DL.isTup_d, DL.ix_t0, DL.ix_t1, DL.ix_t2, DL.ix_t3, DL.ix_t4, DL.ix_l0, DL.ix_l1, DL.ix_l2, Int.reduceLT, Int.reduceLE, Int.reduceNeg, Int.reduceAdd, Int.reduceSub, Int.reduceMul, Int.reduceToNat, Int.reduceBEq, Int.cast_ofNat_Int, e_law_4_ap, e]
theorem v_law {ns : List Int} (hl : ns.length ≤ 63) : ∃ z, F_law [.s ns] [] = .ok (.d (.bool true)) z := by
  obtain ⟨z1, e1, m1⟩ := v__law_begun hl
  have hm : ∃ k : Nat, k ≤ 4 ∧ (2 + (if ((ns.length : Nat) : Int) < 2 then ((ns.length : Nat) : Int) else 2)) = (k : Int) := by
    by_cases h : ((ns.length : Nat) : Int) < 2
    · rw [if_pos h]; exact ⟨2 + ns.length, by omega, by omega⟩
    · rw [if_neg h]; exact ⟨4, by omega, by omega⟩
  obtain ⟨k, hk, ek⟩ := hm
  obtain ⟨ρ', z2, e2, m2⟩ := loop_st (gf := gName 2) (b := l_law_3) (fun n ρ z => (∃ s2 s3 s4 s5 s6 s7 s8 s9 s10 s11, ρ = [some (.s ns), some (.ob 0), s2, s3, s4, s5, s6, s7, s8, s9, s10, s11, none]) ∧ Mz n [] z) 100 10000 (DL.rangeD 0 k) (fun d _ n ρ z hi hn => by
    obtain ⟨⟨s2, s3, s4, s5, s6, s7, s8, s9, s10, s11, rfl⟩, m⟩ := hi
    obtain ⟨t3, t4, t5, t6, t7, t8, t9, t10, t11, z', e, m'⟩ := k04_turn (ns := ns) (s2 := some (.d d)) (s3 := s3) (s4 := s4) (s5 := s5) (s6 := s6) (s7 := s7) (s8 := s8) (s9 := s9) (s10 := s10) (s11 := s11) (s12 := none) m (by omega)
    exact ⟨_, _, z', rfl, e, ⟨_, t3, t4, t5, t6, t7, t8, t9, t10, t11, rfl⟩, m'⟩) 0 [some (.s ns), some (.ob 0), none, none, none, none, none, none, none, none, none, none, none] z1 ⟨⟨_, _, _, _, _, _, _, _, _, _, rfl⟩, m1⟩ (by rw [range_len]; omega)
  obtain ⟨⟨s2, s3, s4, s5, s6, s7, s8, s9, s10, s11, rfl⟩, _⟩ := m2
  refine ⟨z2, ?_⟩
  rw [F_law_eq]
  have n1 : neD (.tuple [.str "up", .str "down", .str "bounce", .str "swing", .str "outside", .str "played"]) (.tuple [.str "up", .str "down", .str "bounce", .str "swing", .str "outside", .str "played"]) = some (.bool false) := by kernel_rfl
  have n2 : neD (.tuple [.str "stay", .str "again", .str "follow"]) (.tuple [.str "stay", .str "again", .str "follow"]) = some (.bool false) := by kernel_rfl
  have n3 : eqD (.list [tupI [0, 4, 12, 16], tupI [16, 12, 4, 0], tupI [0, 4, 12, 16, 12, 4], tupI [0, 4, 12, 16, 16, 12, 4, 0], tupI [0, 16, 4, 12], tupI [4, 0, 16, 12]]) (.list [tupI [0, 4, 12, 16], tupI [16, 12, 4, 0], tupI [0, 4, 12, 16, 12, 4], tupI [0, 4, 12, 16, 16, 12, 4, 0], tupI [0, 16, 4, 12], tupI [4, 0, 16, 12]]) = some (.bool true) := by kernel_rfl
  simp only [tupI, List.map_cons, List.map_nil] at n3
  simp -implicitDefEqProofs only [b_law_ap, ok_bind, bad_bind, ex_bind, ofO_some, ofO_none, okIf_t, choose_t, choose_f, asB_b, asI_i, asS_s, asL_l, asD_d, asOb_ob, asO_o, slotD_0, slotD_s, slotO_0, slotO_s, slotOb_0, slotOb_s, slotA_d, slotA_ob, slotA_r, slotA_sc, slotA_s, slotSc_0, slotSc_s, seqK_nx, seqK_rt, seqK_bk, seqK_ct, loopK_nx, loopK_rt, loopK_bk, loopK_ct, outS_nx, outS_rt, run_ap, gName_ap, gNil_nil, gCons_cons, gTup_t, fmNil_ap, fmStr_s, fmAny_ap, fmEv_t, noEx_ok, unz_ok, view_nil, view_cons, viewO_n, viewO_d, viewO_o, viewO_ob, viewO_r, viewO_s, wipeD_nil, wipeD_cons, List.set_cons_succ, List.set_cons_zero, List.set_nil, List.length_cons, List.length_nil, Nat.reduceAdd, Nat.reduceLeDiff, Nat.reduceEqDiff, Nat.reduceLT, decide_true, decide_false, Bool.not_true, Bool.not_false, Nat.zero_add, itemsAny_l, itemsAny_t, itemsAny_s, enumO_l, enumO_t, if_tt, if_ff, Option.bind_some, Bool.and_true, Bool.true_and, Bool.and_self, ↓reduceIte, fVar_ap, fC_ap, fBin_ap, fUn_ap, fChain_ap, fVal_ap, fbNot_ap, fbAnd_ap, fbOr_ap, fAnd_ap, fOr_ap, fNot_ap, fIf_ap, fNil_ap, fCons_ap, fTup_ap, fLst_ap, fFrz_ap, fCall_ap, fCallL_ap, fONone_ap, fOSome_ap, fSl_ap, fAnil_ap, fAd_ap, fAv_ap, fFn_ap, fFnOb_ap, fVarOb_ap, fSeq_ap, fNext_ap, fRet_ap, fRetN_ap, fRetOb_ap, fIfS_ap, fDrop_ap, fBrk_ap, fCnt_ap, fAsg_ap, fOwn_ap, fSetOb_ap, fFor_ap, fItems_ap, fScr_ap, fLenS_ap, fR1_ap, fR2_ap, fWhile_ap, fYes_ap, fComp_ap, fSetL_ap, fComp2_ap, fvD_ap, fvO_ap, fvB_ap, fSet_ap, fPar_ap, fView_ap, fbView_ap, flView_ap, fAppend_ap, fAppPop_ap, fRev_ap, fExt_ap, fFreeze_ap, fEnum_ap, fJoin_ap, fPut_ap, fListRange_ap, fMatch_ap, fField_ap, fRecPut_ap, fPnil_ap, fPcons_ap, fRec_ap, fNever_ap, DL.le_ii, DL.lt_ii, DL.gt_ii, DL.ge_ii, DL.sub_ii, DL.add_ii, DL.neg_i, DL.eq_ii, DL.ne_ii, DL.len_l, DL.len_t, DL.int1_i, DL.max2_ii, DL.min2_ii, DL.tuple_l, DL.tuple_t, DL.list_l, DL.list_t, DL.revL_l, rev_l, DL.isN_n, DL.isN_t, DL.isN_i, DL.notN_n, DL.notN_t, DL.notN_i, DL.isInt_i, DL.isInt_b, DL.isInt_s, DL.isInt_n, DL.isInt_l, DL.isInt_t, DL.isInt_d, DL.isBool_i, DL.isBool_b, DL.isBool_s, DL.isBool_n, DL.isBool_l, DL.isBool_t, DL.isBool_d, DL.isStr_i, DL.isStr_b, DL.isStr_s, DL.isStr_n, DL.isStr_l, DL.isStr_t, DL.isStr_d, DL.isTup_i, DL.isTup_b, DL.isTup_s, DL.isTup_n, DL.isTup_l, DL.isTup_t, DL.isTup_d, DL.ix_t0, DL.ix_t1, DL.ix_t2, DL.ix_t3, DL.ix_t4, DL.ix_l0, DL.ix_l1, DL.ix_l2, Int.reduceLT, Int.reduceLE, Int.reduceNeg, Int.reduceAdd, Int.reduceSub, Int.reduceMul, Int.reduceToNat, Int.reduceBEq, Int.cast_ofNat_Int, e1, List.length_map, ek, rng1_nat (show k ≤ 100000 by omega), e2, n1, n2, n3, told_eq, DL.add_ll, tupI, List.map_cons, List.map_nil, List.cons_append, List.nil_append]
end FL

namespace C
open PySem L2 FL
open DL (FunAt FnFact Cst Fg)
def topS (i : Nat) : Stmt := PySem.Challenge.pw_chordsteps_k04_rounds_by_hand.main.body.getD i (.Pass ⟨0, 0, 0, 0⟩)
structure Bn (K : Fg) (mg : Str → Option Value) : Prop where
  all : mg "all" = none
  bool : mg "bool" = none
  enumerate : mg "enumerate" = none
  int : mg "int" = none
  isinstance : mg "isinstance" = none
  len : mg "len" = none
  list : mg "list" = none
  min : mg "min" = none
  range : mg "range" = none
  repr : mg "repr" = none
  sorted : mg "sorted" = none
  str : mg "str" = none
  tuple : mg "tuple" = none
  CHANGES : Cst K mg "CHANGES" (.tuple [(.str "stay"), (.str "again"), (.str "follow")])
  LAST_KEY : Cst K mg "LAST_KEY" (.int 87)
  MOST_KEYS : Cst K mg "MOST_KEYS" (.int 6)
  MOST_OCTAVES : Cst K mg "MOST_OCTAVES" (.int 3)
  MOST_RHYTHM : Cst K mg "MOST_RHYTHM" (.int 8)
  OCTAVE : Cst K mg "OCTAVE" (.int 12)
  ORDERS : Cst K mg "ORDERS" (.tuple [(.str "up"), (.str "down"), (.str "bounce"), (.str "swing"), (.str "outside"), (.str "played")])
section
variable {P : Program} {w : World} {K : Fg} {mg : Str → Option Value} {base : Heap}
abbrev s__law_begun : Stmt := topS 24
theorem sc__law_begun : FnScope ["_law_script", "_law_seed", "_law_cell"] ["_law_script"] (defScope s__law_begun) := ⟨rfl, rfl, rfl, by decide +kernel, rfl, by decide +kernel, by decide +kernel⟩
theorem ok__law_begun (T : Bn K mg) (Fa : FunAt K mg "_law_begun" s__law_begun ["_law_script"]) : Fn P w K mg base 1 "_law_begun" ["_law_script"] F__law_begun :=
  fn_is (body := b__law_begun) Fa sc__law_begun (fun f cdv A outer s H E g tk po hr => (s_cons (st_set 1 (v_d e_int) sc__law_begun.nd) (s_cons (st_for po rfl (i_scr 0) (g_name 2 sc__law_begun.nd) (s_one (st_set 1 (v_d (e_mod (e_intc (by rfl) T.int (d_cons (e_add (e_add (e_mul (e_var 1) e_int) (e_mod (e_intc (by rfl) T.int (d_cons (e_var 2) d_nil)) e_int)) e_int) d_nil)) e_int)) sc__law_begun.nd))) (s_one (st_retOb (o_rec (ps_cons (e_l (l_comp [("_law_cell", 2)] rfl sc__law_begun.nd (i_scr 0) (by kernel_rfl) (fun _ => (g_name 2 sc__law_begun.nd)) (fun _ => (ts_one (b_ge (e_var 2) (e_pow e_int e_int)))) (fun _ => (e_var 2)))) (ps_cons (e_var 1) (ps_cons e_int ps_nil)))))))))
abbrev s__law_draw : Stmt := topS 25
theorem sc__law_draw : FnScope ["_law_m", "_law_limit", "_law_cell", "_law_mixed"] ["_law_m", "_law_limit"] (defScope s__law_draw) := ⟨rfl, rfl, rfl, by decide +kernel, rfl, by decide +kernel, by decide +kernel⟩
theorem ok__law_draw (T : Bn K mg) (Fa : FunAt K mg "_law_draw" s__law_draw ["_law_m", "_law_limit"]) : Fn P w K mg base 1 "_law_draw" ["_law_m", "_law_limit"] F__law_draw :=
  fn_is (body := b__law_draw) Fa sc__law_draw (fun f cdv A outer s H E g tk po hr => (s_cons (st_while po (b_w (w_and (b_ne hr.units (e_rec hr.units (o_var 0)) (e_l (l_lst d_nil))) (w_and1 (b_eq hr.units (e_sub1 (e_rec hr.units (o_var 0)) e_int) e_int)))) (s_one (st_recPut hr.units (o_var 0) (e_slice (e_rec hr.units (o_var 0)) (o_some e_int) o_none)))) (s_cons (st_if (b_ne hr.units (e_rec hr.units (o_var 0)) (e_l (l_lst d_nil))) (s_cons (st_set 2 (v_d (e_sub1 (e_rec hr.units (o_var 0)) e_int)) sc__law_draw.nd) (s_cons (st_recPut hr.units (o_var 0) (e_add (e_l (l_lst (d_cons (e_fdiv (e_var 2) (e_var 1)) d_nil))) (e_slice (e_rec hr.units (o_var 0)) (o_some e_int) o_none))) (s_one (st_ret (e_mod (e_intc (by rfl) T.int (d_cons (e_var 2) d_nil)) (e_var 1)))))) s_nil) (s_cons (st_recPut hr.units (o_var 0) (e_add (e_rec hr.units (o_var 0)) e_int)) (s_cons (st_set 3 (v_d (e_mod (e_intc (by rfl) T.int (d_cons (e_add (e_add (e_mul (e_rec hr.units (o_var 0)) e_int) (e_mul (e_mul (e_rec hr.units (o_var 0)) (e_rec hr.units (o_var 0))) e_int)) (e_rec hr.units (o_var 0))) d_nil)) e_int)) sc__law_draw.nd) (s_cons (st_set 3 (v_d (e_mod (e_intc (by rfl) T.int (d_cons (e_add (e_mul (e_var 3) e_int) e_int) d_nil)) e_int)) sc__law_draw.nd) (s_one (st_ret (e_mod (e_fdiv (e_mod (e_intc (by rfl) T.int (d_cons (e_add (e_mul (e_var 3) e_int) (e_rec hr.units (o_var 0))) d_nil)) e_int) e_int) (e_var 1))))))))))
abbrev s__law_rows : Stmt := topS 27
theorem sc__law_rows : FnScope ["_law_a", "_law_b", "_law_c", "_law_rows_here", "_law_order", "_law_many"] ["_law_a", "_law_b", "_law_c"] (defScope s__law_rows) := ⟨rfl, rfl, rfl, by decide +kernel, rfl, by decide +kernel, by decide +kernel⟩
theorem ok__law_rows (T : Bn K mg) (Fa : FunAt K mg "_law_rows" s__law_rows ["_law_a", "_law_b", "_law_c"]) : Fn P w K mg base 1 "_law_rows" ["_law_a", "_law_b", "_law_c"] F__law_rows :=
  fn_is (body := b__law_rows) Fa sc__law_rows (fun f cdv A outer s H E g tk po hr => (s_cons (st_setComp [("_law_order", 4)] 3 rfl sc__law_rows.nd (sw_true rfl rfl rfl (by decide +kernel)) (i_seq (e_const T.ORDERS (by rfl))) (by kernel_rfl) (fun _ => (g_name 4 sc__law_rows.nd)) (fun _ => ts_nil) (fun _ => (e_tup (d_cons (e_tup (d_cons (e_var 1) d_nil)) (d_cons (e_var 4) (d_cons e_int (d_cons (e_if (b_eq hr.units (e_var 4) e_str) (e_tup (d_cons (e_var 1) (d_cons (e_var 1) d_nil))) (e_tup (d_cons (e_var 1) d_nil))) d_nil))))))) (s_cons (st_set 3 (v_d (e_add (e_var 3) (e_l (l_lst (d_cons (e_tup (d_cons (e_tup (d_cons (e_var 1) d_nil)) (d_cons e_str (d_cons e_int (d_cons (e_tup (d_cons (e_var 1) (d_cons (e_add (e_var 1) e_int) (d_cons (e_add (e_var 1) e_int) d_nil)))) d_nil))))) (d_cons (e_tup (d_cons (e_tup (d_cons (e_var 1) d_nil)) (d_cons e_str (d_cons e_int (d_cons (e_tup (d_cons (e_add (e_var 1) e_int) (d_cons (e_var 1) d_nil))) d_nil))))) d_nil)))))) sc__law_rows.nd) (s_cons (st_set 3 (v_d (e_add (e_var 3) (e_l (l_lst (d_cons (e_tup (d_cons (e_tup (d_cons (e_var 1) d_nil)) (d_cons e_str (d_cons e_int (d_cons (e_tup (d_cons (e_var 1) (d_cons (e_add (e_var 1) e_int) d_nil))) d_nil))))) (d_cons (e_tup (d_cons (e_tup (d_cons (e_var 1) d_nil)) (d_cons e_str (d_cons e_int (d_cons (e_tup (d_cons (e_var 1) (d_cons (e_add (e_var 1) e_int) (d_cons (e_add (e_var 1) e_int) (d_cons (e_add (e_var 1) e_int) d_nil))))) d_nil))))) d_nil)))))) sc__law_rows.nd) (s_cons (st_set 3 (v_d (e_add (e_var 3) (e_l (l_lst (d_cons (e_tup (d_cons (e_tup (d_cons (e_var 1) d_nil)) (d_cons e_str (d_cons e_int (d_cons (e_tup (d_cons (e_var 1) (d_cons (e_add (e_var 1) e_int) (d_cons (e_add (e_var 1) e_int) (d_cons (e_var 1) d_nil))))) d_nil))))) (d_cons (e_tup (d_cons (e_tup (d_cons (e_var 1) d_nil)) (d_cons e_str (d_cons e_int (d_cons (e_tup (d_cons (e_var 1) (d_cons (e_add (e_var 1) e_int) (d_cons (e_add (e_var 1) e_int) d_nil)))) d_nil))))) d_nil)))))) sc__law_rows.nd) (s_cons (st_set 3 (v_d (e_add (e_var 3) (e_l (l_lst (d_cons (e_tup (d_cons (e_tup (d_cons (e_var 2) (d_cons (e_var 0) d_nil))) (d_cons e_str (d_cons e_int (d_cons (e_tup (d_cons (e_var 0) (d_cons (e_var 2) d_nil))) d_nil))))) (d_cons (e_tup (d_cons (e_tup (d_cons (e_var 2) (d_cons (e_var 0) d_nil))) (d_cons e_str (d_cons e_int (d_cons (e_tup (d_cons (e_var 2) (d_cons (e_var 0) d_nil))) d_nil))))) (d_cons (e_tup (d_cons (e_tup (d_cons (e_var 2) (d_cons (e_var 0) d_nil))) (d_cons e_str (d_cons e_int (d_cons (e_tup (d_cons (e_var 2) (d_cons (e_var 0) d_nil))) d_nil))))) d_nil))))))) sc__law_rows.nd) (s_cons (st_set 3 (v_d (e_add (e_var 3) (e_l (l_lst (d_cons (e_tup (d_cons (e_tup (d_cons (e_var 2) (d_cons (e_var 0) d_nil))) (d_cons e_str (d_cons e_int (d_cons (e_tup (d_cons (e_var 0) (d_cons (e_var 2) d_nil))) d_nil))))) (d_cons (e_tup (d_cons (e_tup (d_cons (e_var 2) (d_cons (e_var 0) d_nil))) (d_cons e_str (d_cons e_int (d_cons (e_tup (d_cons (e_var 0) (d_cons (e_var 2) (d_cons (e_var 2) (d_cons (e_var 0) d_nil))))) d_nil))))) (d_cons (e_tup (d_cons (e_tup (d_cons (e_var 2) (d_cons (e_var 0) d_nil))) (d_cons e_str (d_cons e_int (d_cons (e_tup (d_cons (e_var 0) (d_cons (e_var 2) d_nil))) d_nil))))) d_nil))))))) sc__law_rows.nd) (s_cons (st_set 3 (v_d (e_add (e_var 3) (e_l (l_lst (d_cons (e_tup (d_cons (e_tup (d_cons (e_var 2) (d_cons (e_var 0) d_nil))) (d_cons e_str (d_cons e_int (d_cons (e_tup (d_cons (e_var 2) (d_cons (e_var 0) (d_cons (e_add (e_var 2) e_int) (d_cons (e_add (e_var 0) e_int) d_nil))))) d_nil))))) (d_cons (e_tup (d_cons (e_tup (d_cons (e_var 2) (d_cons (e_var 0) d_nil))) (d_cons e_str (d_cons e_int (d_cons (e_tup (d_cons (e_var 0) (d_cons (e_add (e_var 2) e_int) (d_cons (e_var 2) (d_cons (e_add (e_var 0) e_int) d_nil))))) d_nil))))) d_nil)))))) sc__law_rows.nd) (s_cons (st_set 3 (v_d (e_add (e_var 3) (e_l (l_lst (d_cons (e_tup (d_cons (e_tup (d_cons (e_var 1) (d_cons (e_var 2) (d_cons (e_var 0) d_nil)))) (d_cons e_str (d_cons e_int (d_cons (e_tup (d_cons (e_var 0) (d_cons (e_var 1) (d_cons (e_var 2) d_nil)))) d_nil))))) (d_cons (e_tup (d_cons (e_tup (d_cons (e_var 1) (d_cons (e_var 2) (d_cons (e_var 0) d_nil)))) (d_cons e_str (d_cons e_int (d_cons (e_tup (d_cons (e_var 2) (d_cons (e_var 1) (d_cons (e_var 0) d_nil)))) d_nil))))) d_nil)))))) sc__law_rows.nd) (s_cons (st_set 3 (v_d (e_add (e_var 3) (e_l (l_lst (d_cons (e_tup (d_cons (e_tup (d_cons (e_var 1) (d_cons (e_var 2) (d_cons (e_var 0) d_nil)))) (d_cons e_str (d_cons e_int (d_cons (e_tup (d_cons (e_var 0) (d_cons (e_var 1) (d_cons (e_var 2) (d_cons (e_var 1) d_nil))))) d_nil))))) (d_cons (e_tup (d_cons (e_tup (d_cons (e_var 1) (d_cons (e_var 2) (d_cons (e_var 0) d_nil)))) (d_cons e_str (d_cons e_int (d_cons (e_tup (d_cons (e_var 0) (d_cons (e_var 1) (d_cons (e_var 2) (d_cons (e_var 2) (d_cons (e_var 1) (d_cons (e_var 0) d_nil))))))) d_nil))))) d_nil)))))) sc__law_rows.nd) (s_cons (st_set 3 (v_d (e_add (e_var 3) (e_l (l_lst (d_cons (e_tup (d_cons (e_tup (d_cons (e_var 1) (d_cons (e_var 2) (d_cons (e_var 0) d_nil)))) (d_cons e_str (d_cons e_int (d_cons (e_tup (d_cons (e_var 0) (d_cons (e_var 2) (d_cons (e_var 1) d_nil)))) d_nil))))) (d_cons (e_tup (d_cons (e_tup (d_cons (e_var 1) (d_cons (e_var 2) (d_cons (e_var 0) d_nil)))) (d_cons e_str (d_cons e_int (d_cons (e_tup (d_cons (e_var 1) (d_cons (e_var 2) (d_cons (e_var 0) d_nil)))) d_nil))))) d_nil)))))) sc__law_rows.nd) (s_cons (st_set 5 (v_d (e_tup (d_cons (e_var 0) (d_cons (e_var 1) (d_cons (e_var 2) (d_cons (e_add (e_var 0) e_int) (d_cons (e_add (e_var 1) e_int) (d_cons (e_add (e_var 2) e_int) (d_cons (e_add (e_var 1) e_int) (d_cons (e_add (e_var 0) e_int) (d_cons (e_var 2) (d_cons (e_var 1) d_nil)))))))))))) sc__law_rows.nd) (s_one (st_ret (e_add (e_var 3) (e_l (l_lst (d_cons (e_tup (d_cons (e_tup (d_cons (e_var 1) (d_cons (e_var 2) (d_cons (e_var 0) d_nil)))) (d_cons e_str (d_cons e_int (d_cons (e_var 5) d_nil))))) (d_cons (e_tup (d_cons (e_tup (d_cons (e_var 2) (d_cons (e_var 1) (d_cons (e_var 0) d_nil)))) (d_cons e_str (d_cons e_int (d_cons (e_var 5) d_nil))))) d_nil)))))))))))))))))))
abbrev s_is_word_of : Stmt := topS 14
theorem sc_is_word_of : FnScope ["thing", "words"] ["thing", "words"] (defScope s_is_word_of) := ⟨rfl, rfl, rfl, by decide +kernel, rfl, by decide +kernel, by decide +kernel⟩
theorem ok_is_word_of (T : Bn K mg) (Fa : FunAt K mg "is_word_of" s_is_word_of ["thing", "words"]) : Fn P w K mg base 1 "is_word_of" ["thing", "words"] F_is_word_of :=
  fn_is (body := b_is_word_of) Fa sc_is_word_of (fun f cdv A outer s H E g tk po hr => (s_one (st_ret (e_and (e_isStr (by rfl) T.isinstance (e_var 0) (by rfl) T.str) (e_one (e_in (e_var 0) (e_var 1)))))))
abbrev s_is_whole : Stmt := topS 12
theorem sc_is_whole : FnScope ["thing", "least", "most"] ["thing", "least", "most"] (defScope s_is_whole) := ⟨rfl, rfl, rfl, by decide +kernel, rfl, by decide +kernel, by decide +kernel⟩
theorem ok_is_whole (T : Bn K mg) (Fa : FunAt K mg "is_whole" s_is_whole ["thing", "least", "most"]) : Fn P w K mg base 1 "is_whole" ["thing", "least", "most"] F_is_whole :=
  fn_is (body := b_is_whole) Fa sc_is_whole (fun f cdv A outer s H E g tk po hr => (s_one (st_ret (e_and (e_isInt (by rfl) T.isinstance (e_var 0) (by rfl) T.int) (e_and (e_not (e_isBool (by rfl) T.isinstance (e_var 0) (by rfl) T.bool)) (e_one (e_lele (e_var 1) (e_var 0) (e_var 2))))))))
abbrev s_is_rhythm : Stmt := topS 15
theorem sc_is_rhythm : FnScope ["thing", "sign"] ["thing"] (defScope s_is_rhythm) := ⟨rfl, rfl, rfl, by decide +kernel, rfl, by decide +kernel, by decide +kernel⟩
theorem ok_is_rhythm (T : Bn K mg) (Fa : FunAt K mg "is_rhythm" s_is_rhythm ["thing"]) : Fn P w K mg base 1 "is_rhythm" ["thing"] F_is_rhythm :=
  fn_is (body := b_is_rhythm) Fa sc_is_rhythm (fun f cdv A outer s H E g tk po hr => (s_cons (st_if (b_w (w_or (b_not (b_val (e_isStr (by rfl) T.isinstance (e_var 0) (by rfl) T.str))) (w_or1 (b_not (b_lele e_int (e_len (by rfl) T.len (d_cons (e_var 0) d_nil)) (e_const T.MOST_RHYTHM (by rfl))))))) (s_one (st_ret e_bl)) s_nil) (s_one (st_ret (e_and (e_in e_str (e_var 0)) (e_one (e_all rfl (by rfl) T.all (d_cons (e_l (l_comp [("sign", 1)] rfl sc_is_rhythm.nd (i_seq (e_var 0)) (by kernel_rfl) (fun _ => (g_name 1 sc_is_rhythm.nd)) (fun _ => ts_nil) (fun _ => (e_in (e_var 1) e_str)))) d_nil))))))))
abbrev s_setting_fault : Stmt := topS 16
theorem sc_setting_fault : FnScope ["thing", "order", "octaves", "rhythm", "change", "latch", "rows", "wrong", "word", "is_right"] ["thing"] (defScope s_setting_fault) := ⟨rfl, rfl, rfl, by decide +kernel, rfl, by decide +kernel, by decide +kernel⟩
theorem ok_setting_fault (T : Bn K mg) (G_is_word_of : Fn P w K mg base 1 "is_word_of" ["thing", "words"] F_is_word_of) (G_is_whole : Fn P w K mg base 1 "is_whole" ["thing", "least", "most"] F_is_whole) (G_is_rhythm : Fn P w K mg base 1 "is_rhythm" ["thing"] F_is_rhythm) (Fa : FunAt K mg "setting_fault" s_setting_fault ["thing"]) : Fn P w K mg base 2 "setting_fault" ["thing"] F_setting_fault :=
  fn_is (body := b_setting_fault) Fa sc_setting_fault (fun f cdv A outer s H E g tk po hr => (s_cons (st_if (b_w (w_or (b_not (b_val (e_isTup (by rfl) T.isinstance (e_var 0) (by rfl) T.tuple))) (w_or1 (b_ne hr.units (e_len (by rfl) T.len (d_cons (e_var 0) d_nil)) e_int)))) (s_one (st_ret (e_tup d_nil))) s_nil) (s_cons (st_asg (e_var 0) (g_tup rfl (gs_cons (g_name 1 sc_setting_fault.nd) (gs_cons (g_name 2 sc_setting_fault.nd) (gs_cons (g_name 3 sc_setting_fault.nd) (gs_cons (g_name 4 sc_setting_fault.nd) (gs_cons (g_name 5 sc_setting_fault.nd) gs_nil))))))) (s_cons (st_set 6 (v_o (l_lst (d_cons (e_tup (d_cons e_str (d_cons (e_call tk G_is_word_of (hr.mono (by decide)) (by rfl) (a_d (e_var 1) (a_d (e_const T.ORDERS (by rfl)) a_nil))) d_nil))) (d_cons (e_tup (d_cons e_str (d_cons (e_call tk G_is_whole (hr.mono (by decide)) (by rfl) (a_d (e_var 2) (a_d e_int (a_d (e_const T.MOST_OCTAVES (by rfl)) a_nil)))) d_nil))) d_nil)))) sc_setting_fault.nd) (s_cons (st_ext 6 (e_l (l_lst (d_cons (e_tup (d_cons e_str (d_cons (e_call tk G_is_rhythm (hr.mono (by decide)) (by rfl) (a_d (e_var 3) a_nil)) d_nil))) (d_cons (e_tup (d_cons e_str (d_cons (e_call tk G_is_word_of (hr.mono (by decide)) (by rfl) (a_d (e_var 4) (a_d (e_const T.CHANGES (by rfl)) a_nil))) d_nil))) d_nil)))) sc_setting_fault.nd) (s_frz 6 (s_cons (st_setComp [("word", 8), ("is_right", 9)] 7 rfl sc_setting_fault.nd (sw_true rfl rfl rfl (by decide +kernel)) (i_seq (e_add (e_var 6) (e_l (l_lst (d_cons (e_tup (d_cons e_str (d_cons (e_isBool (by rfl) T.isinstance (e_var 5) (by rfl) T.bool) d_nil))) d_nil))))) (by kernel_rfl) (fun _ => (g_tup rfl (gs_cons (g_name 8 sc_setting_fault.nd) (gs_cons (g_name 9 sc_setting_fault.nd) gs_nil)))) (fun _ => (ts_one (b_not (b_val (e_var 9))))) (fun _ => (e_var 8))) (s_one (st_ret (e_if (b_ne hr.units (e_var 7) (e_l (l_lst d_nil))) (e_tup (d_cons (e_sub1 (e_var 7) e_int) d_nil)) e_non))))))))))
abbrev s_need_setting : Stmt := topS 17
theorem sc_need_setting : FnScope ["thing", "place"] ["thing"] (defScope s_need_setting) := ⟨rfl, rfl, rfl, by decide +kernel, rfl, by decide +kernel, by decide +kernel⟩
theorem ok_need_setting (T : Bn K mg) (G_setting_fault : Fn P w K mg base 2 "setting_fault" ["thing"] F_setting_fault) (Fa : FunAt K mg "need_setting" s_need_setting ["thing"]) : Fn P w K mg base 3 "need_setting" ["thing"] F_need_setting :=
  fn_is (body := b_need_setting) Fa sc_need_setting (fun f cdv A outer s H E g tk po hr => (s_cons (st_set 1 (v_d (e_call tk G_setting_fault (hr.mono (by decide)) (by rfl) (a_d (e_var 0) a_nil))) sc_need_setting.nd) (s_cons (st_if (b_isnot (e_var 1) e_non) (s_one st_never) s_nil) (s_one (st_ret (e_var 0))))))
abbrev s_tone_row : Stmt := topS 19
theorem sc_tone_row : FnScope ["setting", "chord", "keys", "octave", "key"] ["setting", "chord"] (defScope s_tone_row) := ⟨rfl, rfl, rfl, by decide +kernel, rfl, by decide +kernel, by decide +kernel⟩
theorem ok_tone_row (T : Bn K mg) (Fa : FunAt K mg "tone_row" s_tone_row ["setting", "chord"]) : Fn P w K mg base 1 "tone_row" ["setting", "chord"] F_tone_row :=
  fn_is (body := b_tone_row) Fa sc_tone_row (fun f cdv A outer s H E g tk po hr => (s_cons (st_set 2 (v_d (e_if (b_eq hr.units (e_sub1 (e_var 0) e_int) e_str) (e_l (l_list (by rfl) T.list (d_cons (e_var 1) d_nil))) (e_l (l_sorted (by rfl) T.sorted (d_cons (e_var 1) d_nil))))) sc_tone_row.nd) (s_one (st_ret (e_l (l_comp2 [("octave", 3), ("key", 4)] [4] rfl sc_tone_row.nd (i_range1 (by rfl) T.range (d_cons (e_sub1 (e_var 0) e_int) d_nil)) (by kernel_rfl) (fun _ => (g_name 3 sc_tone_row.nd)) (fun _ => ts_nil) (fun _ => (i_seq (e_var 2))) (fun _ => (g_name 4 sc_tone_row.nd)) (fun _ => ts_nil) (fun _ => (e_add (e_var 4) (e_mul (e_const T.OCTAVE (by rfl)) (e_var 3))))))))))
abbrev s_from_outside : Stmt := topS 20
theorem sc_from_outside : FnScope ["row", "found", "rest"] ["row"] (defScope s_from_outside) := ⟨rfl, rfl, rfl, by decide +kernel, rfl, by decide +kernel, by decide +kernel⟩
theorem ok_from_outside (T : Bn K mg) (Fa : FunAt K mg "from_outside" s_from_outside ["row"]) : Fn P w K mg base 1 "from_outside" ["row"] F_from_outside :=
  fn_is (body := b_from_outside) Fa sc_from_outside (fun f cdv A outer s H E g tk po hr => (s_cons (st_par 1 2 (v_o (l_lst d_nil)) (v_o (l_list (by rfl) T.list (d_cons (e_var 0) d_nil))) sc_from_outside.nd) (s_cons (st_while po (b_view fun g => (b_ne hr.units (e_var 2) (e_l (l_lst d_nil)))) (s_cons (st_appPop 1 2 e_int) (s_one (st_rev 2)))) (s_one (st_frz 1 (st_ret (e_var 1)))))))
abbrev s_round_in : Stmt := topS 21
theorem sc_round_in : FnScope ["setting", "chord", "row"] ["setting", "chord"] (defScope s_round_in) := ⟨rfl, rfl, rfl, by decide +kernel, rfl, by decide +kernel, by decide +kernel⟩
theorem ok_round_in (T : Bn K mg) (G_tone_row : Fn P w K mg base 1 "tone_row" ["setting", "chord"] F_tone_row) (G_from_outside : Fn P w K mg base 1 "from_outside" ["row"] F_from_outside) (Fa : FunAt K mg "round_in" s_round_in ["setting", "chord"]) : Fn P w K mg base 2 "round_in" ["setting", "chord"] F_round_in :=
  fn_is (body := b_round_in) Fa sc_round_in (fun f cdv A outer s H E g tk po hr => (s_cons (st_set 2 (v_d (e_call tk G_tone_row (hr.mono (by decide)) (by rfl) (a_d (e_var 0) (a_d (e_var 1) a_nil)))) sc_round_in.nd) (s_cons (st_match (e_sub1 (e_var 0) e_int) (m_str (s_one (st_ret (e_tuple (by rfl) T.tuple (d_cons (e_rev (e_var 2)) d_nil)))) (m_str (s_one (st_ret (e_tuple (by rfl) T.tuple (d_cons (e_add (e_var 2) (e_rev (e_slice (e_var 2) (o_some e_int) (o_some (e_neg e_int))))) d_nil)))) (m_str (s_one (st_ret (e_tuple (by rfl) T.tuple (d_cons (e_add (e_var 2) (e_rev (e_var 2))) d_nil)))) (m_str (s_one (st_ret (e_tuple (by rfl) T.tuple (d_cons (e_call tk G_from_outside (hr.mono (by decide)) (by rfl) (a_d (e_var 2) a_nil)) d_nil)))) m_nil))))) (s_one (st_ret (e_tuple (by rfl) T.tuple (d_cons (e_var 2) d_nil)))))))
abbrev s_is_key : Stmt := topS 13
theorem sc_is_key : FnScope ["thing"] ["thing"] (defScope s_is_key) := ⟨rfl, rfl, rfl, by decide +kernel, rfl, by decide +kernel, by decide +kernel⟩
theorem ok_is_key (T : Bn K mg) (G_is_whole : Fn P w K mg base 1 "is_whole" ["thing", "least", "most"] F_is_whole) (Fa : FunAt K mg "is_key" s_is_key ["thing"]) : Fn P w K mg base 2 "is_key" ["thing"] F_is_key :=
  fn_is (body := b_is_key) Fa sc_is_key (fun f cdv A outer s H E g tk po hr => (s_one (st_ret (e_call tk G_is_whole (hr.mono (by decide)) (by rfl) (a_d (e_var 0) (a_d e_int (a_d (e_const T.LAST_KEY (by rfl)) a_nil)))))))
abbrev s_need_chord : Stmt := topS 18
theorem sc_need_chord : FnScope ["thing", "number", "key"] ["thing"] (defScope s_need_chord) := ⟨rfl, rfl, rfl, by decide +kernel, rfl, by decide +kernel, by decide +kernel⟩
theorem ok_need_chord (T : Bn K mg) (G_is_key : Fn P w K mg base 2 "is_key" ["thing"] F_is_key) (Fa : FunAt K mg "need_chord" s_need_chord ["thing"]) : Fn P w K mg base 3 "need_chord" ["thing"] F_need_chord :=
  fn_is (body := b_need_chord) Fa sc_need_chord (fun f cdv A outer s H E g tk po hr => (s_cons (st_if (b_w (w_or (b_not (b_val (e_isTup (by rfl) T.isinstance (e_var 0) (by rfl) T.tuple))) (w_or1 (b_gt (e_len (by rfl) T.len (d_cons (e_var 0) d_nil)) (e_const T.MOST_KEYS (by rfl)))))) (s_one st_never) s_nil) (s_cons (st_for po rfl (i_enum (by rfl) T.enumerate (d_cons (e_var 0) d_nil)) (g_tup rfl (gs_cons (g_name 1 sc_need_chord.nd) (gs_cons (g_name 2 sc_need_chord.nd) gs_nil))) (s_one (st_if (b_w (w_or (b_not (b_val (e_call tk G_is_key (hr.mono (by decide)) (by rfl) (a_d (e_var 2) a_nil)))) (w_or1 (b_in (e_var 2) (e_slice (e_var 0) o_none (o_some (e_var 1))))))) (s_one st_never) s_nil))) (s_one (st_ret (e_var 0))))))
abbrev s_round_of : Stmt := topS 22
theorem sc_round_of : FnScope ["setting", "chord"] ["setting", "chord"] (defScope s_round_of) := ⟨rfl, rfl, rfl, by decide +kernel, rfl, by decide +kernel, by decide +kernel⟩
theorem ok_round_of (T : Bn K mg) (G_need_setting : Fn P w K mg base 3 "need_setting" ["thing"] F_need_setting) (G_round_in : Fn P w K mg base 2 "round_in" ["setting", "chord"] F_round_in) (G_need_chord : Fn P w K mg base 3 "need_chord" ["thing"] F_need_chord) (Fa : FunAt K mg "round_of" s_round_of ["setting", "chord"]) : Fn P w K mg base 4 "round_of" ["setting", "chord"] F_round_of :=
  fn_is (body := b_round_of) Fa sc_round_of (fun f cdv A outer s H E g tk po hr => (s_cons (st_expr (e_call tk G_need_setting (hr.mono (by decide)) (by rfl) (a_d (e_var 0) a_nil))) (s_one (st_ret (e_call tk G_round_in (hr.mono (by decide)) (by rfl) (a_d (e_var 0) (a_d (e_call tk G_need_chord (hr.mono (by decide)) (by rfl) (a_d (e_var 1) a_nil)) a_nil)))))))
abbrev s__law_of : Stmt := topS 26
theorem sc__law_of : FnScope ["_law_m", "_law_some"] ["_law_m", "_law_some"] (defScope s__law_of) := ⟨rfl, rfl, rfl, by decide +kernel, rfl, by decide +kernel, by decide +kernel⟩
theorem ok__law_of (T : Bn K mg) (G__law_draw : Fn P w K mg base 1 "_law_draw" ["_law_m", "_law_limit"] F__law_draw) (Fa : FunAt K mg "_law_of" s__law_of ["_law_m", "_law_some"]) : Fn P w K mg base 2 "_law_of" ["_law_m", "_law_some"] F__law_of :=
  fn_is (body := b__law_of) Fa sc__law_of (fun f cdv A outer s H E g tk po hr => (s_one (st_ret (e_sub1 (e_var 1) (e_call tk G__law_draw (hr.mono (by decide)) (by rfl) (a_v 0 (a_d (e_len (by rfl) T.len (d_cons (e_var 1) d_nil)) a_nil)))))))
abbrev s_law : Stmt := topS 28
theorem sc_law : FnScope ["_law_script", "_law_m", "_law_turn", "_law_a", "_law_b", "_law_c", "_law_change", "_law_latch", "_law_chord", "_law_order", "_law_octaves", "_law_due", "_law_told"] ["_law_script"] (defScope s_law) := ⟨rfl, rfl, rfl, by decide +kernel, rfl, by decide +kernel, by decide +kernel⟩
theorem ok_law (T : Bn K mg) (G__law_begun : Fn P w K mg base 1 "_law_begun" ["_law_script"] F__law_begun) (G__law_draw : Fn P w K mg base 1 "_law_draw" ["_law_m", "_law_limit"] F__law_draw) (G__law_rows : Fn P w K mg base 1 "_law_rows" ["_law_a", "_law_b", "_law_c"] F__law_rows) (G_round_of : Fn P w K mg base 4 "round_of" ["setting", "chord"] F_round_of) (G__law_of : Fn P w K mg base 2 "_law_of" ["_law_m", "_law_some"] F__law_of) {f : Addr} {fd : FuncData} (Fa : Fun K "law" "law" s_law f fd) : FnG P w K mg base 5 f fd ["_law_script"] (spLaw K) :=
  law_is (F := F_law) (fn_okG (body := b_law) Fa sc_law (fun cdv A outer s H E g tk po hr => (s_cons (st_set 1 (v_b (o_call tk G__law_begun (hr.mono (by decide)) (by rfl) (a_v 0 a_nil))) sc_law.nd) (s_cons (st_for po rfl (i_range1 (by rfl) T.range (d_cons (e_add e_int (e_min2 rfl (by rfl) T.min (d_cons e_int (d_cons (e_lenS 0 (by rfl) T.len) d_nil)))) d_nil)) (g_name 2 sc_law.nd) (s_cons (st_set 3 (v_d (e_call tk G__law_draw (hr.mono (by decide)) (by rfl) (a_v 1 (a_d e_int a_nil)))) sc_law.nd) (s_cons (st_set 4 (v_d (e_add (e_add (e_var 3) e_int) (e_call tk G__law_draw (hr.mono (by decide)) (by rfl) (a_v 1 (a_d e_int a_nil))))) sc_law.nd) (s_cons (st_set 5 (v_d (e_add (e_add (e_var 4) e_int) (e_call tk G__law_draw (hr.mono (by decide)) (by rfl) (a_v 1 (a_d e_int a_nil))))) sc_law.nd) (s_cons (st_par 6 7 (v_d (e_call tk G__law_of (hr.mono (by decide)) (by rfl) (a_v 1 (a_d (e_const T.CHANGES (by rfl)) a_nil)))) (v_d (e_eq hr.units (e_call tk G__law_draw (hr.mono (by decide)) (by rfl) (a_v 1 (a_d e_int a_nil))) e_int)) sc_law.nd) (s_cons (st_for po rfl (i_seq (e_call tk G__law_rows (hr.mono (by decide)) (by rfl) (a_d (e_var 3) (a_d (e_var 4) (a_d (e_var 5) a_nil))))) (g_tup rfl (gs_cons (g_name 8 sc_law.nd) (gs_cons (g_name 9 sc_law.nd) (gs_cons (g_name 10 sc_law.nd) (gs_cons (g_name 11 sc_law.nd) gs_nil))))) (s_one (st_if (b_ne hr.units (e_repr hr (by rfl) T.repr (d_cons (e_call tk G_round_of (hr.mono (by decide)) (by rfl) (a_d (e_tup (d_cons (e_var 9) (d_cons (e_var 10) (d_cons e_str (d_cons (e_var 6) (d_cons (e_var 7) d_nil)))))) (a_d (e_var 8) a_nil))) d_nil)) (e_repr hr (by rfl) T.repr (d_cons (e_var 11) d_nil))) (s_one (st_ret e_bl)) s_nil))) (s_one (st_for po rfl (i_seq (e_const T.ORDERS (by rfl))) (g_name 9 sc_law.nd) (s_one (st_if (b_ne hr.units (e_call tk G_round_of (hr.mono (by decide)) (by rfl) (a_d (e_tup (d_cons (e_var 9) (d_cons e_int (d_cons e_str (d_cons (e_var 6) (d_cons (e_var 7) d_nil)))))) (a_d (e_tup d_nil) a_nil))) (e_tup d_nil)) (s_one (st_ret e_bl)) s_nil)))))))))) (s_cons (st_if (b_w (w_or (b_ne hr.units (e_const T.ORDERS (by rfl)) (e_tup (d_cons e_str (d_cons e_str (d_cons e_str (d_cons e_str (d_cons e_str (d_cons e_str d_nil)))))))) (w_or1 (b_ne hr.units (e_const T.CHANGES (by rfl)) (e_tup (d_cons e_str (d_cons e_str (d_cons e_str d_nil)))))))) (s_one (st_ret e_bl)) s_nil) (s_cons (st_setComp [("_law_order", 9)] 12 rfl sc_law.nd (sw_true rfl rfl rfl (by decide +kernel)) (i_seq (e_const T.ORDERS (by rfl))) (by kernel_rfl) (fun _ => (g_name 9 sc_law.nd)) (fun _ => ts_nil) (fun _ => (e_call0 G_round_of (hr.mono (by decide)) (by rfl) (a_d (e_tup (d_cons (e_var 9) (d_cons e_int (d_cons e_str (d_cons e_str (d_cons e_bl d_nil)))))) (a_d (e_tup (d_cons e_int (d_cons e_int d_nil))) a_nil))))) (s_cons (st_set 11 (v_d (e_l (l_lst (d_cons (e_tup (d_cons e_int (d_cons e_int (d_cons e_int (d_cons e_int d_nil))))) (d_cons (e_tup (d_cons e_int (d_cons e_int (d_cons e_int (d_cons e_int d_nil))))) (d_cons (e_tup (d_cons e_int (d_cons e_int (d_cons e_int (d_cons e_int (d_cons e_int (d_cons e_int d_nil))))))) (d_cons (e_tup (d_cons e_int (d_cons e_int (d_cons e_int (d_cons e_int (d_cons e_int (d_cons e_int (d_cons e_int (d_cons e_int d_nil))))))))) (d_cons (e_tup (d_cons e_int (d_cons e_int (d_cons e_int (d_cons e_int d_nil))))) d_nil)))))))) sc_law.nd) (s_one (st_ret (e_eq hr.units (e_var 12) (e_add (e_var 11) (e_l (l_lst (d_cons (e_tup (d_cons e_int (d_cons e_int (d_cons e_int (d_cons e_int d_nil))))) d_nil)))))))))))))) (fun ns hl => v_law hl)
end
theorem all_mk {l : PySem.W.OpenLaw} {w : World} {K : PySem.W.Frag} {h : Heap} {mg : Str → Option Value} {fa : Addr} (X : K.In h) (G : h.Ns mainGlobals mg) (hfa : mg "law" = some (.ref fa)) (T : Bn K mg)
    (F__law_begun : FnFact K "_law_begun" s__law_begun)
    (F__law_draw : FnFact K "_law_draw" s__law_draw)
    (F__law_rows : FnFact K "_law_rows" s__law_rows)
    (F_is_word_of : FnFact K "is_word_of" s_is_word_of)
    (F_is_whole : FnFact K "is_whole" s_is_whole)
    (F_is_rhythm : FnFact K "is_rhythm" s_is_rhythm)
    (F_setting_fault : FnFact K "setting_fault" s_setting_fault)
    (F_need_setting : FnFact K "need_setting" s_need_setting)
    (F_tone_row : FnFact K "tone_row" s_tone_row)
    (F_from_outside : FnFact K "from_outside" s_from_outside)
    (F_round_in : FnFact K "round_in" s_round_in)
    (F_is_key : FnFact K "is_key" s_is_key)
    (F_need_chord : FnFact K "need_chord" s_need_chord)
    (F_round_of : FnFact K "round_of" s_round_of)
    (F__law_of : FnFact K "_law_of" s__law_of)
    (F_law : FnFact K "law" s_law) :
    ∃ fd : FuncData, (∀ (s : Shared) (v : Value), BindsTo s fd ⟨[v], []⟩ [("_law_script", v)]) ∧ ∀ base : Heap, K.In base → base.Ns mainGlobals mg → FnG l.prog w K mg base 5 fa fd ["_law_script"] (spLaw K) := by
  obtain ⟨f, oc, od, an, osl, kV, doc, pm, cdv, ct, a, ll, c, k⟩ := F_law.ok
  have e := hfa.symm.trans (PySem.W.mg_of X G a)
  cases e
  have A__law_begun := F__law_begun.at_ X G ["_law_script"] fun _ _ _ _ _ _ us hl => match us, hl with | [_], _ => rfl
  have A__law_draw := F__law_draw.at_ X G ["_law_m", "_law_limit"] fun _ _ _ _ _ _ us hl => match us, hl with | [_, _], _ => rfl
  have A__law_rows := F__law_rows.at_ X G ["_law_a", "_law_b", "_law_c"] fun _ _ _ _ _ _ us hl => match us, hl with | [_, _, _], _ => rfl
  have A_is_word_of := F_is_word_of.at_ X G ["thing", "words"] fun _ _ _ _ _ _ us hl => match us, hl with | [_, _], _ => rfl
  have A_is_whole := F_is_whole.at_ X G ["thing", "least", "most"] fun _ _ _ _ _ _ us hl => match us, hl with | [_, _, _], _ => rfl
  have A_is_rhythm := F_is_rhythm.at_ X G ["thing"] fun _ _ _ _ _ _ us hl => match us, hl with | [_], _ => rfl
  have A_setting_fault := F_setting_fault.at_ X G ["thing"] fun _ _ _ _ _ _ us hl => match us, hl with | [_], _ => rfl
  have A_need_setting := F_need_setting.at_ X G ["thing"] fun _ _ _ _ _ _ us hl => match us, hl with | [_], _ => rfl
  have A_tone_row := F_tone_row.at_ X G ["setting", "chord"] fun _ _ _ _ _ _ us hl => match us, hl with | [_, _], _ => rfl
  have A_from_outside := F_from_outside.at_ X G ["row"] fun _ _ _ _ _ _ us hl => match us, hl with | [_], _ => rfl
  have A_round_in := F_round_in.at_ X G ["setting", "chord"] fun _ _ _ _ _ _ us hl => match us, hl with | [_, _], _ => rfl
  have A_is_key := F_is_key.at_ X G ["thing"] fun _ _ _ _ _ _ us hl => match us, hl with | [_], _ => rfl
  have A_need_chord := F_need_chord.at_ X G ["thing"] fun _ _ _ _ _ _ us hl => match us, hl with | [_], _ => rfl
  have A_round_of := F_round_of.at_ X G ["setting", "chord"] fun _ _ _ _ _ _ us hl => match us, hl with | [_, _], _ => rfl
  have A__law_of := F__law_of.at_ X G ["_law_m", "_law_some"] fun _ _ _ _ _ _ us hl => match us, hl with | [_, _], _ => rfl
  refine ⟨PySem.W.fnOf "law" "law" (defArgs s_law) (defBody s_law) (defScope s_law) .none kV doc pm an cdv ct, fun s v => .of_eq rfl, fun base _ _ => ?_⟩
  have G__law_begun := ok__law_begun (P := l.prog) (w := w) (base := base) T A__law_begun
  have G__law_draw := ok__law_draw (P := l.prog) (w := w) (base := base) T A__law_draw
  have G__law_rows := ok__law_rows (P := l.prog) (w := w) (base := base) T A__law_rows
  have G_is_word_of := ok_is_word_of (P := l.prog) (w := w) (base := base) T A_is_word_of
  have G_is_whole := ok_is_whole (P := l.prog) (w := w) (base := base) T A_is_whole
  have G_is_rhythm := ok_is_rhythm (P := l.prog) (w := w) (base := base) T A_is_rhythm
  have G_setting_fault := ok_setting_fault (P := l.prog) (w := w) (base := base) T G_is_word_of G_is_whole G_is_rhythm A_setting_fault
  have G_need_setting := ok_need_setting (P := l.prog) (w := w) (base := base) T G_setting_fault A_need_setting
  have G_tone_row := ok_tone_row (P := l.prog) (w := w) (base := base) T A_tone_row
  have G_from_outside := ok_from_outside (P := l.prog) (w := w) (base := base) T A_from_outside
  have G_round_in := ok_round_in (P := l.prog) (w := w) (base := base) T G_tone_row G_from_outside A_round_in
  have G_is_key := ok_is_key (P := l.prog) (w := w) (base := base) T G_is_whole A_is_key
  have G_need_chord := ok_need_chord (P := l.prog) (w := w) (base := base) T G_is_key A_need_chord
  have G_round_of := ok_round_of (P := l.prog) (w := w) (base := base) T G_need_setting G_round_in G_need_chord A_round_of
  have G__law_of := ok__law_of (P := l.prog) (w := w) (base := base) T G__law_draw A__law_of
  exact ok_law T G__law_begun G__law_draw G__law_rows G_round_of G__law_of (fun_mk ll c k)
end C
open PySem PySem.W PyProof.Rows
set_option maxRecDepth 100000 in
set_option maxHeartbeats 0 in
theorem PySem.Challenge.cw_chordsteps_k04_rounds_by_hand_holds : PySem.Challenge.rw_chordsteps_k04_rounds_by_hand.Holds := by
  w_on; o_law; k_head; (case hw => w_witness2)
  k_fill
  refine FL.law_walk (l := PySem.Challenge.rw_chordsteps_k04_rounds_by_hand) 5 ⟨rfl, by decide, by decide⟩ rfl rfl (fun w h Y => PySem.W.kIn_of Y) ?F
  case F =>
    intro w mg fa h KX G hmg
    refine' C.all_mk KX G hmg ?T ?F__law_begun ?F__law_draw ?F__law_rows ?F_is_word_of ?F_is_whole ?F_is_rhythm ?F_setting_fault ?F_need_setting ?F_tone_row ?F_from_outside ?F_round_in ?F_is_key ?F_need_chord ?F_round_of ?F__law_of ?F_law
    case T =>
      refine' C.Bn.mk ?all ?bool ?enumerate ?int ?isinstance ?len ?list ?min ?range ?repr ?sorted ?str ?tuple ?CHANGES ?LAST_KEY ?MOST_KEYS ?MOST_OCTAVES ?MOST_RHYTHM ?OCTAVE ?ORDERS
      (case all => refine PySem.W.mg_none_of KX G ?_; k_is)
      (case bool => refine PySem.W.mg_none_of KX G ?_; k_is)
      (case enumerate => refine PySem.W.mg_none_of KX G ?_; k_is)
      (case int => refine PySem.W.mg_none_of KX G ?_; k_is)
      (case isinstance => refine PySem.W.mg_none_of KX G ?_; k_is)
      (case len => refine PySem.W.mg_none_of KX G ?_; k_is)
      (case list => refine PySem.W.mg_none_of KX G ?_; k_is)
      (case min => refine PySem.W.mg_none_of KX G ?_; k_is)
      (case range => refine PySem.W.mg_none_of KX G ?_; k_is)
      (case repr => refine PySem.W.mg_none_of KX G ?_; k_is)
      (case sorted => refine PySem.W.mg_none_of KX G ?_; k_is)
      (case str => refine PySem.W.mg_none_of KX G ?_; k_is)
      (case tuple => refine PySem.W.mg_none_of KX G ?_; k_is)
      (case CHANGES => refine' DL.cst_strs ["stay", "again", "follow"] KX G ?e_CHANGES ?l_CHANGES ?h1_CHANGES ?h2_CHANGES ?h3_CHANGES ?h4_CHANGES; (case e_CHANGES => k_is); (case l_CHANGES => k_is); (case h1_CHANGES => rfl); (case h2_CHANGES => rfl); (case h3_CHANGES => decide); (case h4_CHANGES => rfl))
      (case LAST_KEY => refine' DL.cst_int KX G ?e_LAST_KEY; (case e_LAST_KEY => k_is))
      (case MOST_KEYS => refine' DL.cst_int KX G ?e_MOST_KEYS; (case e_MOST_KEYS => k_is))
      (case MOST_OCTAVES => refine' DL.cst_int KX G ?e_MOST_OCTAVES; (case e_MOST_OCTAVES => k_is))
      (case MOST_RHYTHM => refine' DL.cst_int KX G ?e_MOST_RHYTHM; (case e_MOST_RHYTHM => k_is))
      (case OCTAVE => refine' DL.cst_int KX G ?e_OCTAVE; (case e_OCTAVE => k_is))
      (case ORDERS => refine' DL.cst_strs ["up", "down", "bounce", "swing", "outside", "played"] KX G ?e_ORDERS ?l_ORDERS ?h1_ORDERS ?h2_ORDERS ?h3_ORDERS ?h4_ORDERS; (case e_ORDERS => k_is); (case l_ORDERS => k_is); (case h1_ORDERS => rfl); (case h2_ORDERS => rfl); (case h3_ORDERS => decide); (case h4_ORDERS => rfl))
    (case F__law_begun => refine' DL.fact_mk ?a__law_begun ?l__law_begun ?c__law_begun ?k__law_begun; (case a__law_begun => k_is); (case l__law_begun => k_is); (case c__law_begun => k_is); (case k__law_begun => k_is))
    (case F__law_draw => refine' DL.fact_mk ?a__law_draw ?l__law_draw ?c__law_draw ?k__law_draw; (case a__law_draw => k_is); (case l__law_draw => k_is); (case c__law_draw => k_is); (case k__law_draw => k_is))
    (case F__law_rows => refine' DL.fact_mk ?a__law_rows ?l__law_rows ?c__law_rows ?k__law_rows; (case a__law_rows => k_is); (case l__law_rows => k_is); (case c__law_rows => k_is); (case k__law_rows => k_is))
    (case F_is_word_of => refine' DL.fact_mk ?a_is_word_of ?l_is_word_of ?c_is_word_of ?k_is_word_of; (case a_is_word_of => k_is); (case l_is_word_of => k_is); (case c_is_word_of => k_is); (case k_is_word_of => k_is))
    (case F_is_whole => refine' DL.fact_mk ?a_is_whole ?l_is_whole ?c_is_whole ?k_is_whole; (case a_is_whole => k_is); (case l_is_whole => k_is); (case c_is_whole => k_is); (case k_is_whole => k_is))
    (case F_is_rhythm => refine' DL.fact_mk ?a_is_rhythm ?l_is_rhythm ?c_is_rhythm ?k_is_rhythm; (case a_is_rhythm => k_is); (case l_is_rhythm => k_is); (case c_is_rhythm => k_is); (case k_is_rhythm => k_is))
    (case F_setting_fault => refine' DL.fact_mk ?a_setting_fault ?l_setting_fault ?c_setting_fault ?k_setting_fault; (case a_setting_fault => k_is); (case l_setting_fault => k_is); (case c_setting_fault => k_is); (case k_setting_fault => k_is))
    (case F_need_setting => refine' DL.fact_mk ?a_need_setting ?l_need_setting ?c_need_setting ?k_need_setting; (case a_need_setting => k_is); (case l_need_setting => k_is); (case c_need_setting => k_is); (case k_need_setting => k_is))
    (case F_tone_row => refine' DL.fact_mk ?a_tone_row ?l_tone_row ?c_tone_row ?k_tone_row; (case a_tone_row => k_is); (case l_tone_row => k_is); (case c_tone_row => k_is); (case k_tone_row => k_is))
    (case F_from_outside => refine' DL.fact_mk ?a_from_outside ?l_from_outside ?c_from_outside ?k_from_outside; (case a_from_outside => k_is); (case l_from_outside => k_is); (case c_from_outside => k_is); (case k_from_outside => k_is))
    (case F_round_in => refine' DL.fact_mk ?a_round_in ?l_round_in ?c_round_in ?k_round_in; (case a_round_in => k_is); (case l_round_in => k_is); (case c_round_in => k_is); (case k_round_in => k_is))
    (case F_is_key => refine' DL.fact_mk ?a_is_key ?l_is_key ?c_is_key ?k_is_key; (case a_is_key => k_is); (case l_is_key => k_is); (case c_is_key => k_is); (case k_is_key => k_is))
    (case F_need_chord => refine' DL.fact_mk ?a_need_chord ?l_need_chord ?c_need_chord ?k_need_chord; (case a_need_chord => k_is); (case l_need_chord => k_is); (case c_need_chord => k_is); (case k_need_chord => k_is))
    (case F_round_of => refine' DL.fact_mk ?a_round_of ?l_round_of ?c_round_of ?k_round_of; (case a_round_of => k_is); (case l_round_of => k_is); (case c_round_of => k_is); (case k_round_of => k_is))
    (case F__law_of => refine' DL.fact_mk ?a__law_of ?l__law_of ?c__law_of ?k__law_of; (case a__law_of => k_is); (case l__law_of => k_is); (case c__law_of => k_is); (case k__law_of => k_is))
    (case F_law => refine' DL.fact_mk ?a_law ?l_law ?c_law ?k_law; (case a_law => k_is); (case l_law => k_is); (case c_law => k_is); (case k_law => k_is))

