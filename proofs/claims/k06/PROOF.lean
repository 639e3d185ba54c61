import PyProof.Rows.All
import HandS.ForMost
import HandS.Flow
import HandS.Style
import HandS.IsInst
import HandS.SortInts
import HandS.TupAny
import HandS.TupLe
import HandS.TupMul
import HandS.Deep
import HandS.Conv
import HandS.Codes
import HandS.Walk
import HandS.Evl
import HandS.Zip
import HandS.SetFor
import PyProof.RulesMatch
import PyProof.RulesMatchSeq
import PyProof.ReprRoads
import PyProof.TupleOfSeq
import HandS.Zip0
import PyProof.EnumMake
import PyProof.Draws
import HandS.Ends
import PySem.Challenge.RW_chordsteps_k06_whole_rounds_beside_one_a
set_option Elab.async false
set_option linter.all false
set_option maxRecDepth 100000
set_option maxHeartbeats 1000000
/-! A layer of data over the hand layer: a def as a transformer of plain data, no heap in sight. -/
namespace DL
open PySem L2
abbrev D := PyData
abbrev Fg := PySem.W.Frag
abbrev Ex := Evl.Ex

/-! ### data and the heap -/
def keyD : Key → D
  | .inl i => .int i
  | .inr x => .str x
mutual
inductive Dp (K : Fg) (F : Hp) : V → D → Prop
  | non : Dp K F .non .none
  | bl (b : Bool) : Dp K F (.bl b) (.bool b)
  | int (i : Int) : Dp K F (.int i) (.int i)
  | str (x : Str) : Dp K F (.str x) (.str x)
  | lst {a : Addr} {xs : List V} {ds : List D} : F a = some (.lst xs) → DpAll K F xs ds → Dp K F (.ref a) (.list ds)
  | tup {a : Addr} {xs : List V} {ds : List D} : SqT K F a xs → DpAll K F xs ds → Dp K F (.ref a) (.tuple ds)
  | dct {a : Addr} {kvs : List (Key × V)} {ds : List (D × D)} : F a = some (.dK kvs) → DpKv K F kvs ds → Dp K F (.ref a) (.dict ds)
inductive DpAll (K : Fg) (F : Hp) : List V → List D → Prop
  | nil : DpAll K F [] []
  | cons {v : V} {vs : List V} {d : D} {ds : List D} : Dp K F v d → DpAll K F vs ds → DpAll K F (v :: vs) (d :: ds)
inductive DpKv (K : Fg) (F : Hp) : List (Key × V) → List (D × D) → Prop
  | nil : DpKv K F [] []
  | cons {k : Key} {v : V} {kvs : List (Key × V)} {d : D} {ds : List (D × D)} : Dp K F v d → DpKv K F kvs ds → DpKv K F ((k, v) :: kvs) ((keyD k, d) :: ds)
end
mutual
theorem dp_ex {K : Fg} {F F' : Hp} (e : Ex F F') : ∀ (d : D) (v : V), Dp K F v d → Dp K F' v d
  | .none, _, .non => .non
  | .bool _, _, .bl b => .bl b
  | .int _, _, .int i => .int i
  | .str _, _, .str x => .str x
  | .list ds, _, .lst h a => .lst (e _ _ h) (dpa_ex e ds _ a)
  | .tuple ds, _, .tup h a => .tup (Evl.ex_t e h) (dpa_ex e ds _ a)
  | .dict ds, _, .dct h a => .dct (e _ _ h) (dpk_ex e ds _ a)
theorem dpa_ex {K : Fg} {F F' : Hp} (e : Ex F F') : ∀ (ds : List D) (vs : List V), DpAll K F vs ds → DpAll K F' vs ds
  | [], _, .nil => .nil
  | d :: ds, _, .cons h t => .cons (dp_ex e d _ h) (dpa_ex e ds _ t)
theorem dpk_ex {K : Fg} {F F' : Hp} (e : Ex F F') : ∀ (ds : List (D × D)) (vs : List (Key × V)), DpKv K F vs ds → DpKv K F' vs ds
  | [], _, .nil => .nil
  | (_, d) :: ds, _, .cons h t => .cons (dp_ex e d _ h) (dpk_ex e ds _ t)
end
mutual
/-- data without dicts is the hand layer's -/
theorem dp_l2 {K : Fg} {F H : Hp} (e : Ex F H) : ∀ (d : D) (v : V), d.canLay0 = true → Dp K F v d → L2.Dp K H v d
  | .none, _, _, .non => .non
  | .bool _, _, _, .bl b => .bl b
  | .int _, _, _, .int i => .int i
  | .str _, _, _, .str x => .str x
  | .list ds, _, c, .lst h a => .lst (SqL.of (e _ _ h)) (dpa_l2 e ds _ (by simpa [PyData.canLay0] using c) a)
  | .tuple ds, _, c, .tup h a => .tup (Evl.ex_t e h) (dpa_l2 e ds _ (by simpa [PyData.canLay0] using c) a)
  | .dict ds, _, c, _ => by simp [PyData.canLay0] at c
theorem dpa_l2 {K : Fg} {F H : Hp} (e : Ex F H) : ∀ (ds : List D) (vs : List V), PyData.canLayAll0 ds = true → DpAll K F vs ds → L2.DpAll K H vs ds
  | [], _, _, .nil => .nil
  | d :: ds, _, c, .cons h t => by
    have c' : d.canLay0 = true ∧ PyData.canLayAll0 ds = true := by simpa [PyData.canLayAll0] using c
    exact .cons (dp_l2 e d _ c'.1 h) (dpa_l2 e ds _ c'.2 t)
end
theorem dpa_len {K : Fg} {F : Hp} : ∀ {ds : List D} {vs : List V}, DpAll K F vs ds → vs.length = ds.length
  | _, _, .nil => rfl
  | _, _, .cons _ t => by simp [dpa_len t]
theorem dpa_get {K : Fg} {F : Hp} : ∀ {ds : List D} {vs : List V} {i : Nat} {v : V}, DpAll K F vs ds → vs[i]? = some v → ∃ d, ds[i]? = some d ∧ Dp K F v d
  | _, _, _, _, .nil, h => by simp at h
  | _, _, 0, _, .cons h _, e => by simp at e; subst e; exact ⟨_, rfl, h⟩
  | _, _, i + 1, _, .cons _ t, e => by
    obtain ⟨d, a, b⟩ := dpa_get (i := i) t (by simpa using e)
    exact ⟨d, by simpa using a, b⟩
theorem dpa_get' {K : Fg} {F : Hp} : ∀ {ds : List D} {vs : List V} {i : Nat} {d : D}, DpAll K F vs ds → ds[i]? = some d → ∃ v, vs[i]? = some v ∧ Dp K F v d
  | _, _, _, _, .nil, h => by simp at h
  | _, _, 0, _, .cons h _, e => by simp at e; subst e; exact ⟨_, rfl, h⟩
  | _, _, i + 1, _, .cons _ t, e => by
    obtain ⟨d, a, b⟩ := dpa_get' (i := i) t (by simpa using e)
    exact ⟨d, by simpa using a, b⟩
theorem dpa_app {K : Fg} {F : Hp} : ∀ {ds es : List D} {vs us : List V}, DpAll K F vs ds → DpAll K F us es → DpAll K F (vs ++ us) (ds ++ es)
  | _, _, _, _, .nil, h => h
  | _, _, _, _, .cons h t, k => .cons h (dpa_app t k)
theorem dpa_take {K : Fg} {F : Hp} : ∀ {ds : List D} {vs : List V} (n : Nat), DpAll K F vs ds → DpAll K F (vs.take n) (ds.take n)
  | _, _, 0, _ => by simpa using DpAll.nil
  | _, _, _ + 1, .nil => .nil
  | _, _, n + 1, .cons h t => .cons h (dpa_take n t)
theorem dpa_drop {K : Fg} {F : Hp} : ∀ {ds : List D} {vs : List V} (n : Nat), DpAll K F vs ds → DpAll K F (vs.drop n) (ds.drop n)
  | _, _, 0, r => r
  | _, _, _ + 1, .nil => .nil
  | _, _, n + 1, .cons _ t => dpa_drop n t
theorem dpa_rev {K : Fg} {F : Hp} : ∀ {ds : List D} {vs : List V}, DpAll K F vs ds → DpAll K F vs.reverse ds.reverse
  | _, _, .nil => .nil
  | _, _, .cons h t => by
    rw [List.reverse_cons, List.reverse_cons]
    exact dpa_app (dpa_rev t) (.cons h .nil)
theorem dpa_erase {K : Fg} {F : Hp} : ∀ {ds : List D} {vs : List V} (n : Nat), DpAll K F vs ds → DpAll K F (vs.eraseIdx n) (ds.eraseIdx n)
  | _, _, _, .nil => by simpa using DpAll.nil
  | _, _, 0, .cons _ t => t
  | _, _, n + 1, .cons h t => .cons h (dpa_erase n t)
/-- ints -/
theorem dpa_ints {K : Fg} {F : Hp} : ∀ (ns : List Int), DpAll K F (ns.map V.int) (ns.map PyData.int)
  | [] => .nil
  | n :: ns => .cons (.int n) (dpa_ints ns)
theorem ints_dpa {K : Fg} {F : Hp} : ∀ {ns : List Int} {vs : List V}, DpAll K F vs (ns.map PyData.int) → vs = ns.map V.int
  | [], _, .nil => rfl
  | n :: ns, _, .cons h t => by
    cases h
    rw [ints_dpa t]
    rfl
theorem bls_dpa {K : Fg} {F : Hp} : ∀ {ns : List Bool} {vs : List V}, DpAll K F vs (ns.map PyData.bool) → vs = ns.map V.bl
  | [], _, .nil => rfl
  | n :: ns, _, .cons h t => by
    cases h
    rw [bls_dpa t]
    rfl
theorem strs_dpa {K : Fg} {F : Hp} : ∀ {ns : List Str} {vs : List V}, DpAll K F vs (ns.map PyData.str) → vs = ns.map V.str
  | [], _, .nil => rfl
  | n :: ns, _, .cons h t => by
    cases h
    rw [strs_dpa t]
    rfl

/-! ### the machine of the draws: a dict that alone may change -/
def kG : Key := .inr "great"
def kS : Key := .inr "seed"
def kT : Key := .inr "turns"
structure MachAt (K : Fg) (F H : Hp) (a : Addr) (t : Nat) : Prop where
  fr : F a = none
  at_ : ∃ (g : Addr) (ns : List Int) (s u : Int), H a = some (.dK [(kG, .ref g), (kS, .int s), (kT, .int u)]) ∧ Dp K F (.ref g) (.list (ns.map .int)) ∧ (∀ n ∈ ns, 0 ≤ n) ∧ ns.length ≤ 64 ∧ 0 ≤ s ∧ s < 2147483647 ∧ 0 ≤ u ∧ u ≤ t
def MachOk (K : Fg) (F H : Hp) (m : Option Addr) (t : Nat) : Prop := ∀ a, m = some a → MachAt K F H a t

/-- how heaps go on: what is frozen, what is there -/
structure Grow (m : Option Addr) (F H F' H' : Hp) : Prop where
  f : Ex F F'
  fh : Ex F' H'
  h : ∀ a o, some a ≠ m → H a = some o → H' a = some o
  dm : ∀ a, H' a = none → H a = none
  fr : ∀ a o, F' a = some o → F a = some o ∨ H a = none
theorem dm_of {H H' : Hp} (h : Ex H H') : ∀ a, H' a = none → H a = none := fun a e => by
  cases q : H a with
  | none => rfl
  | some o => rw [h a o q] at e; cases e
theorem Grow.refl {m : Option Addr} {F H : Hp} (e : Ex F H) : Grow m F H F H := ⟨Evl.Ex.refl F, e, fun _ _ _ h => h, fun _ h => h, fun _ _ h => .inl h⟩
theorem Grow.trans {m : Option Addr} {F H F1 H1 F2 H2 : Hp} (a : Grow m F H F1 H1) (b : Grow m F1 H1 F2 H2) : Grow m F H F2 H2 :=
  ⟨a.f.trans b.f, b.fh, fun c o n h => b.h c o n (a.h c o n h), fun c h => a.dm c (b.dm c h), fun c o h => by
    rcases b.fr c o h with h1 | h1
    · exact a.fr c o h1
    · exact .inr (a.dm c h1)⟩
theorem Grow.hx {F H F' H' : Hp} (g : Grow none F H F' H') : Ex H H' := fun a o h => g.h a o (fun z => by cases z) h
theorem Grow.any {m : Option Addr} {F H F' H' : Hp} (g : Grow none F H F' H') : Grow m F H F' H' := ⟨g.f, g.fh, fun a o _ h => g.hx a o h, g.dm, g.fr⟩
/-- a new object, frozen at once -/
theorem Grow.new {m : Option Addr} {F H : Hp} {p : Addr} {o : HO} (e : Ex F H) (hp : H p = none) : Grow m F H (upd F p o) (upd H p o) := by
  have fp : F p = none := Evl.fresh_back e hp
  refine ⟨Evl.Ex.new fp, fun a u h => ?_, fun a u _ h => Evl.Ex.new hp a u h, dm_of (Evl.Ex.new hp), fun a u h => ?_⟩
  · by_cases c : a = p
    · subst c; rw [upd_same] at h ⊢; exact h
    · rw [upd_ne c] at h ⊢; exact e a u h
  · by_cases c : a = p
    · subst c; exact .inr hp
    · rw [upd_ne c] at h; exact .inl h
/-- a new object, not frozen -/
theorem Grow.raw {m : Option Addr} {F H : Hp} {p : Addr} {o : HO} (e : Ex F H) (hp : H p = none) : Grow m F H F (upd H p o) :=
  ⟨Evl.Ex.refl F, e.trans (Evl.Ex.new hp), fun a u _ h => Evl.Ex.new hp a u h, dm_of (Evl.Ex.new hp), fun _ _ h => .inl h⟩

/-! ### slots, states -/
inductive S where
  | d (d : D) | o (ds : List D) | m | r (v : V) | s (n : Nat)
abbrev Sl := List (Option S)
abbrev XD := Value → D → Nat → Prop
structure G where
  B : Hp
  F0 : Hp
  m : Option Addr
  xp : XD
def SlotOk (K : Fg) (g : G) (F H : Hp) (v : V) : S → Prop
  | .d d => Dp K F v d
  | .o ds => ∃ l xs, v = .ref l ∧ g.B l = none ∧ F l = none ∧ H l = some (.lst xs) ∧ DpAll K F xs ds
  | .m => ∃ a, g.m = some a ∧ v = .ref a
  | .r u => v = u
  | .s n => ∃ a xs, v = .ref a ∧ SqL K g.B a xs ∧ xs.length = n ∧ (Rd g.B a (.lst xs) → some a ≠ g.m)
structure SR (K : Fg) (g : G) (F H : Hp) (σ : L2.St) (ρ : Sl) (t : Nat) : Prop where
  gr : Grow g.m g.F0 g.B F H
  mc : MachOk K F H g.m t
  sl : ∀ (i : Nat) (s : S), ρ[i]? = some (some s) → ∃ v, σ[i]? = some (some v) ∧ SlotOk K g F H v s
  inj : ∀ (i j : Nat) (l : Addr) (ds es : List D), ρ[i]? = some (some (.o ds)) → ρ[j]? = some (some (.o es)) → σ[i]? = some (some (.ref l)) → σ[j]? = some (some (.ref l)) → i = j
  len : ρ.length = σ.length
section
variable {K : Fg} {g : G} {F H F' H' : Hp} {σ : L2.St} {ρ : Sl} {t t' : Nat}
theorem MachOk.grow (h : MachOk K F H g.m t) (gr : Grow none F H F' H') : MachOk K F' H' g.m t := fun a e => by
  obtain ⟨fr, q, ns, s, u, h1, h2, h3⟩ := h a e
  refine ⟨?_, q, ns, s, u, gr.hx _ _ h1, dp_ex gr.f _ _ h2, h3⟩
  cases z : F' a with
  | none => rfl
  | some o =>
    rcases gr.fr a o z with y | y
    · rw [fr] at y; cases y
    · rw [h1] at y; cases y
theorem SR.ex (h : SR K g F H σ ρ t) : Ex F H := h.gr.fh
/-- the heaps have gone on (a machine's turns too) -/
theorem SR.growM (h : SR K g F H σ ρ t) (gr : Grow g.m F H F' H') (mc : MachOk K F' H' g.m t') : SR K g F' H' σ ρ t' := by
  refine ⟨h.gr.trans gr, mc, fun i s e => ?_, h.inj, h.len⟩
  obtain ⟨v, hv, ok⟩ := h.sl i s e
  refine ⟨v, hv, ?_⟩
  cases s with
  | d d => exact dp_ex gr.f _ _ ok
  | m => exact ok
  | r u => exact ok
  | s k => exact ok
  | o ds =>
    obtain ⟨l, xs, rfl, b, f, hl, da⟩ := ok
    have nm : some l ≠ g.m := fun z => by
      obtain ⟨_, _, _, _, _, q, _⟩ := h.mc l z.symm
      rw [q] at hl; cases hl
    refine ⟨l, xs, rfl, b, ?_, gr.h l _ nm hl, dpa_ex gr.f _ _ da⟩
    cases z : F' l with
    | none => rfl
    | some o =>
      rcases gr.fr l o z with y | y
      · rw [f] at y; cases y
      · rw [hl] at y; cases y
theorem SR.grow (h : SR K g F H σ ρ t) (gr : Grow none F H F' H') : SR K g F' H' σ ρ t := h.growM gr.any (h.mc.grow gr)
theorem SR.slot (h : SR K g F H σ ρ t) {i : Nat} {s : S} (e : ρ[i]? = some (some s)) : ∃ v, σ[i]? = some (some v) ∧ SlotOk K g F H v s := h.sl i s e
/-- a slot is given a value -/
theorem SR.set (h : SR K g F H σ ρ t) {i : Nat} {v : V} {s : S} (ok : SlotOk K g F H v s) (ns : ∀ ds l, s = .o ds → v = .ref l → ∀ (j : Nat) (es : List D), j ≠ i → ρ[j]? = some (some (.o es)) → σ[j]? ≠ some (some (.ref l))) :
    SR K g F H (σ.set i (some v)) (ρ.set i (some s)) t := by
  refine ⟨h.gr, h.mc, fun j s' e => ?_, fun j k l ds es e1 e2 f1 f2 => ?_, by rw [List.length_set, List.length_set, h.len]⟩
  · by_cases c : j = i
    · subst c
      by_cases hl : j < ρ.length
      · rw [List.getElem?_set_self hl] at e
        cases e
        exact ⟨v, List.getElem?_set_self (h.len ▸ hl), ok⟩
      · rw [List.getElem?_eq_none (by rw [List.length_set]; omega)] at e; cases e
    · rw [List.getElem?_set_ne (Ne.symm c)] at e
      rw [List.getElem?_set_ne (Ne.symm c)]
      exact h.sl j s' e
  · by_cases cj : j = i <;> by_cases ck : k = i
    · rw [cj, ck]
    · subst cj
      rw [List.getElem?_set_ne (Ne.symm ck)] at e2 f2
      have hl : j < ρ.length := by
        by_cases hl : j < ρ.length
        · exact hl
        · rw [List.getElem?_eq_none (by rw [List.length_set]; omega)] at e1; cases e1
      rw [List.getElem?_set_self hl] at e1
      rw [List.getElem?_set_self (h.len ▸ hl)] at f1
      cases e1; cases f1
      exact absurd f2 (ns ds l rfl rfl k es ck e2)
    · subst ck
      rw [List.getElem?_set_ne (Ne.symm cj)] at e1 f1
      have hl : k < ρ.length := by
        by_cases hl : k < ρ.length
        · exact hl
        · rw [List.getElem?_eq_none (by rw [List.length_set]; omega)] at e2; cases e2
      rw [List.getElem?_set_self hl] at e2
      rw [List.getElem?_set_self (h.len ▸ hl)] at f2
      cases e2; cases f2
      exact absurd f1 (ns es l rfl rfl j ds cj e1)
    · rw [List.getElem?_set_ne (Ne.symm cj)] at e1 f1
      rw [List.getElem?_set_ne (Ne.symm ck)] at e2 f2
      exact h.inj j k l ds es e1 e2 f1 f2
theorem SR.setD (h : SR K g F H σ ρ t) {i : Nat} {v : V} {d : D} (ok : Dp K F v d) : SR K g F H (σ.set i (some v)) (ρ.set i (some (.d d))) t :=
  h.set (s := .d d) ok fun _ _ z => by cases z
/-- a slot is forgotten -/
theorem SR.forget (h : SR K g F H σ ρ t) {i : Nat} {v : Option V} : SR K g F H (σ.set i v) (ρ.set i none) t := by
  have key : ∀ (j : Nat) (s : S), (ρ.set i none)[j]? = some (some s) → j ≠ i ∧ ρ[j]? = some (some s) := fun j s e => by
    by_cases c : j = i
    · subst c
      by_cases hl : j < ρ.length
      · rw [List.getElem?_set_self hl] at e; cases e
      · rw [List.getElem?_eq_none (by rw [List.length_set]; omega)] at e; cases e
    · rw [List.getElem?_set_ne (Ne.symm c)] at e; exact ⟨c, e⟩
  refine ⟨h.gr, h.mc, fun j s' e => ?_, fun j k l ds es e1 e2 f1 f2 => ?_, by rw [List.length_set, List.length_set, h.len]⟩
  · obtain ⟨c, e'⟩ := key j s' e
    rw [List.getElem?_set_ne (Ne.symm c)]
    exact h.sl j s' e'
  · obtain ⟨c1, e1'⟩ := key j _ e1
    obtain ⟨c2, e2'⟩ := key k _ e2
    rw [List.getElem?_set_ne (Ne.symm c1)] at f1
    rw [List.getElem?_set_ne (Ne.symm c2)] at f2
    exact h.inj j k l ds es e1' e2' f1 f2
/-- a list that none knows of is changed -/
theorem SR.updFree (h : SR K g F H σ ρ t) {p : Addr} {xs : List V} {o : HO} (hp : H p = some (.lst xs)) (fp : F p = none) (bp : g.B p = none) (no : ∀ (i : Nat) (ds : List D), ρ[i]? = some (some (.o ds)) → σ[i]? ≠ some (some (.ref p))) : SR K g F (upd H p o) σ ρ t := by
  refine ⟨⟨h.gr.f, fun a u e => ?_, fun a u n e => ?_, fun a e => ?_, h.gr.fr⟩, fun a e => ?_, fun i s e => ?_, h.inj, h.len⟩
  · rw [upd_ne (fun z => by rw [z, fp] at e; cases e)]; exact h.gr.fh a u e
  · rw [upd_ne (fun z => by rw [z, bp] at e; cases e)]; exact h.gr.h a u n e
  · by_cases c : a = p
    · subst c; rw [upd_same] at e; cases e
    · rw [upd_ne c] at e; exact h.gr.dm a e
  · obtain ⟨fr, q, ns, s, u, h1, h2⟩ := h.mc a e
    refine ⟨fr, q, ns, s, u, ?_, h2⟩
    rw [upd_ne (ne_of h1 hp (by intro z; cases z))]; exact h1
  · obtain ⟨v, hv, ok⟩ := h.sl i s e
    refine ⟨v, hv, ?_⟩
    cases s with
    | d d => exact ok
    | m => exact ok
    | r u => exact ok
    | s k => exact ok
    | o ds =>
      obtain ⟨l, ys, rfl, b, f, hl, da⟩ := ok
      refine ⟨l, ys, rfl, b, f, ?_, da⟩
      rw [upd_ne (fun z => no i ds e (by rw [← z]; exact hv))]; exact hl
end
end DL

namespace DL
open PySem L2

/-! ### transformers over data, and what they are sound for -/
abbrev DT := Sl → Nat → (D → Nat → Prop) → Prop
abbrev DB := Sl → Nat → (Bool → Nat → Prop) → Prop
abbrev DL_ := Sl → Nat → (List D → Nat → Prop) → Prop
abbrev DA := Sl → Nat → (List S → Nat → Prop) → Prop
structure DEnds where
  nx : Sl → Nat → Prop
  rt : D → Nat → Prop
  bk : Sl → Nat → Prop := fun _ _ => False
  ct : Sl → Nat → Prop := fun _ _ => False
abbrev DS := DEnds → Sl → Nat → Prop
abbrev DGt := D → Sl → Nat → (Sl → Nat → Prop) → Prop

def SE (K : Fg) (g : G) (te : TE) (t : DT) : Prop := ∀ σ F H ρ n (P : D → Nat → Prop) (Q : VK), SR K g F H σ ρ n → t ρ n P →
  (∀ d n' v F' H', P d n' → Grow g.m F H F' H' → SR K g F' H' σ ρ n' → Dp K F' v d → Q v H') → te σ H Q
def SB (K : Fg) (g : G) (tt : TT) (t : DB) : Prop := ∀ σ F H ρ n (P : Bool → Nat → Prop) (Q : Bool → Hp → Prop), SR K g F H σ ρ n → t ρ n P →
  (∀ b n' F' H', P b n' → Grow g.m F H F' H' → SR K g F' H' σ ρ n' → Q b H') → tt σ H Q
/-- none knows of the object at p but who made it -/
structure Free (g : G) (F : Hp) (σ : L2.St) (ρ : Sl) (p : Addr) : Prop where
  f : F p = none
  b : g.B p = none
  no : ∀ (i : Nat) (ds : List D), ρ[i]? = some (some (.o ds)) → σ[i]? ≠ some (some (.ref p))
theorem Free.of {K : Fg} {g : G} {F H : Hp} {σ : L2.St} {ρ : Sl} {n : Nat} {p : Addr} (sr : SR K g F H σ ρ n) (hp : H p = none) : Free g F σ ρ p :=
  ⟨Evl.fresh_back sr.ex hp, sr.gr.dm p hp, fun i ds e z => by
    obtain ⟨v, hv, l, xs, rfl, _, _, hl, _⟩ := sr.sl i _ e
    rw [hv] at z
    cases z
    rw [hp] at hl
    cases hl⟩
/-- a new list, not yet frozen -/
def SL (K : Fg) (g : G) (te : TE) (t : DL_) : Prop := ∀ σ F H ρ n (P : List D → Nat → Prop) (Q : VK), SR K g F H σ ρ n → t ρ n P →
  (∀ ds n' p xs F' H', P ds n' → Grow g.m F H F' H' → SR K g F' H' σ ρ n' → Free g F' σ ρ p → H p = none → H' p = some (.lst xs) → DpAll K F' xs ds → Q (.ref p) H') → te σ H Q
/-- arguments -/
def argS : S → Bool
  | .o _ => false
  | .s _ => false
  | _ => true
def ArgsOk (K : Fg) (g : G) (F : Hp) : List V → List S → Prop
  | [], [] => True
  | v :: vs, s :: ss => SlotOk K g F F v s ∧ argS s = true ∧ ArgsOk K g F vs ss
  | _, _ => False
def SA (K : Fg) (g : G) (ta : TA) (t : DA) : Prop := ∀ σ F H ρ n (P : List S → Nat → Prop) (Q : List V → Hp → Prop), SR K g F H σ ρ n → t ρ n P →
  (∀ ss n' vs F' H', P ss n' → Grow g.m F H F' H' → SR K g F' H' σ ρ n' → ArgsOk K g F' vs ss → Q vs H') → ta σ H Q
def SS (K : Fg) (g : G) (ts : TS) (t : DS) : Prop := ∀ σ F H ρ n (P : DEnds) (E : Ends), SR K g F H σ ρ n → t P ρ n →
  (∀ ρ' n' σ' F' H', P.nx ρ' n' → Ex F F' → SR K g F' H' σ' ρ' n' → E.nx σ' H') →
  (∀ d n' σ' ρ' v F' H', P.rt d n' → SR K g F' H' σ' ρ' n' → Dp K F' v d → E.rt v H') →
  (∀ ρ' n' σ' F' H', P.bk ρ' n' → Ex F F' → SR K g F' H' σ' ρ' n' → E.bk σ' H') →
  (∀ ρ' n' σ' F' H', P.ct ρ' n' → Ex F F' → SR K g F' H' σ' ρ' n' → E.ct σ' H') → ts E σ H
/-- only the slots of is are changed -/
structure But (is : List Nat) (σ σ' : L2.St) (ρ ρ' : Sl) : Prop where
  len : σ'.length = σ.length
  get : ∀ j : Nat, j ∉ is → σ'[j]? = σ[j]?
  own : ∀ (j : Nat) (ds : List D), ρ'[j]? = some (some (.o ds)) → ρ[j]? = some (some (.o ds)) ∧ σ'[j]? = σ[j]?
theorem But.refl {is : List Nat} {σ : L2.St} {ρ : Sl} : But is σ σ ρ ρ := ⟨rfl, fun _ _ => rfl, fun _ _ h => ⟨h, rfl⟩⟩
theorem But.trans {is js : List Nat} {σ σ1 σ2 : L2.St} {ρ ρ1 ρ2 : Sl} (a : But is σ σ1 ρ ρ1) (b : But js σ1 σ2 ρ1 ρ2) : But (is ++ js) σ σ2 ρ ρ2 :=
  ⟨b.len.trans a.len, fun j h => (b.get j fun z => h (List.mem_append_right _ z)).trans (a.get j fun z => h (List.mem_append_left _ z)), fun j ds h => by
    obtain ⟨h1, h2⟩ := b.own j ds h
    obtain ⟨h3, h4⟩ := a.own j ds h1
    exact ⟨h3, h2.trans h4⟩⟩
theorem But.set {i : Nat} {σ : L2.St} {ρ : Sl} {v : Option V} {d : D} : But [i] σ (σ.set i v) ρ (ρ.set i (some (.d d))) :=
  ⟨List.length_set .., fun j h => List.getElem?_set_ne (fun z => h (by simp [z])), fun j ds h => by
    by_cases c : i = j
    · subst c
      rw [List.getElem?_set_self'] at h
      cases q : ρ[i]? with
      | none => rw [q] at h; cases h
      | some o => rw [q] at h; cases h
    · rw [List.getElem?_set_ne c] at h ⊢
      exact ⟨h, rfl⟩⟩
def SG (K : Fg) (g : G) (is : List Nat) (tg : TG) (t : DGt) : Prop := ∀ v σ F H d ρ n (P : Sl → Nat → Prop) (Q : L2.St → Hp → Prop), SR K g F H σ ρ n → Dp K F v d → t d ρ n P →
  (∀ ρ' σ', P ρ' n → SR K g F H σ' ρ' n → But is σ σ' ρ ρ' → Q σ' H) → tg v σ H Q

structure E (X : Cx) (g : G) (e : Expr) (t : DT) : Prop where
  ok : ∃ te, PE X e te ∧ SE X.K g te t
structure B (X : Cx) (g : G) (e : Expr) (t : DB) : Prop where
  ok : ∃ te, PT X e te ∧ SB X.K g te t
structure W (X : Cx) (g : G) (e : Expr) (t : DB) : Prop where
  ok : ∃ te, PW X e te ∧ SB X.K g te t
structure Ls (X : Cx) (g : G) (e : Expr) (t : DL_) : Prop where
  ok : ∃ te, PE X e te ∧ SL X.K g te t
structure A (X : Cx) (g : G) (es : List Expr) (t : DA) : Prop where
  ok : ∃ te, PA X es te ∧ SA X.K g te t
structure St (X : Cx) (g : G) (s : Stmt) (t : DS) : Prop where
  ok : ∃ te, PS X s te ∧ SS X.K g te t
structure Sts (X : Cx) (g : G) (s : List Stmt) (t : DS) : Prop where
  ok : ∃ te, PSs X s te ∧ SS X.K g te t
structure Gt (X : Cx) (g : G) (e : Expr) (is : List Nat) (t : DGt) : Prop where
  ok : ∃ te, PG X e te ∧ SG X.K g is te t

section
variable {X : Cx} {g : G} {a b c e : Expr} {es : List Expr} {ta tb tc t : DT} {pos : Pos}

/-! ### names, constants -/
def dVar (i : Nat) : DT := fun ρ n P => ∃ d, ρ[i]? = some (some (.d d)) ∧ P d n
def dC (d : D) : DT := fun _ n P => P d n
theorem e_var (i : Nat) {x : Str} (hN : X.N[i]? = some x := by rfl) (hv : Vis X.env.scope x := by first | exact Or.inl rfl | exact Or.inr (Or.inl rfl) | exact Or.inr (Or.inr rfl)) (hd : (x == ("__debug__" : Str)) = false := by decide)
    (hcd : (x == ("__classdict__" : Str)) = false := by decide) : E X g (.Name x pos) (dVar i) :=
  ⟨_, pe_var hN hv hd hcd, fun σ F H ρ n P Q sr ⟨d, e, p⟩ k => by
    obtain ⟨v, hv, ok⟩ := sr.sl i _ e
    exact ⟨v, hv, k d n v F H p (Grow.refl sr.ex) sr ok⟩⟩
theorem e_int {i : Int} {j} : E X g (.Constant (.int i) j pos) (dC (.int i)) := ⟨_, pe_int, fun σ F H ρ n P Q sr p k => k _ n _ F H p (Grow.refl sr.ex) sr (.int i)⟩
theorem e_bl {i : Bool} {j} : E X g (.Constant (.bool i) j pos) (dC (.bool i)) := ⟨_, pe_bl, fun σ F H ρ n P Q sr p k => k _ n _ F H p (Grow.refl sr.ex) sr (.bl i)⟩
theorem e_non {j} : E X g (.Constant .none j pos) (dC .none) := ⟨_, pe_non, fun σ F H ρ n P Q sr p k => k _ n _ F H p (Grow.refl sr.ex) sr .non⟩
theorem e_str {i : Str} {j} : E X g (.Constant (.str i) j pos) (dC (.str i)) := ⟨_, pe_str, fun σ F H ρ n P Q sr p k => k _ n _ F H p (Grow.refl sr.ex) sr (.str i)⟩
/-- a module's constant -/
theorem e_glob {x : Str} {v : V} {u : Value} {d : D} (hg : Gl X x) (hm : X.mg x = some u) (r : RelV v u) (hd : ∀ F, Dp X.K F v d) (hdb : (x == ("__debug__" : Str)) = false := by decide) : E X g (.Name x pos) (dC d) :=
  ⟨_, pe_glob hg hm r hdb, fun σ F H ρ n P Q sr p k => k _ n _ F H p (Grow.refl sr.ex) sr (hd F)⟩

/-! ### operators by data -/
def OpD (K : Fg) (r : R2) (f : D → D → Option D) : Prop := ∀ F H vx vy x y d (Q : VK), Ex F H → Dp K F vx x → Dp K F vy y → f x y = some d →
  (∀ v F' H', Grow none F H F' H' → Dp K F' v d → Q v H') → r vx vy H Q
def UnD (K : Fg) (r : V → Hp → VK → Prop) (f : D → Option D) : Prop := ∀ F H vx x d (Q : VK), Ex F H → Dp K F vx x → f x = some d →
  (∀ v F' H', Grow none F H F' H' → Dp K F' v d → Q v H') → r vx H Q
def CallD (K : Fg) (r : List V → Hp → VK → Prop) (f : List D → Option D) : Prop := ∀ F H vs ds d (Q : VK), Ex F H → DpAll K F vs ds → f ds = some d →
  (∀ v F' H', Grow none F H F' H' → Dp K F' v d → Q v H') → r vs H Q
theorem OpD.or {K : Fg} {r r' : R2} {f f' : D → D → Option D} (h : OpD K r f) (h' : OpD K r' f') : OpD K (fun x y H Q => r x y H Q ∨ r' x y H Q) (fun x y => (f x y).or (f' x y)) := by
  intro F H vx vy x y d Q ex dx dy e k
  replace e : (f x y).or (f' x y) = some d := e
  cases q : f x y with
  | some z =>
    rw [q] at e
    cases e
    exact .inl (h F H vx vy x y _ Q ex dx dy q k)
  | none =>
    rw [q] at e
    exact .inr (h' F H vx vy x y d Q ex dx dy e k)
theorem CallD.or {K : Fg} {r r' : List V → Hp → VK → Prop} {f f' : List D → Option D} (h : CallD K r f) (h' : CallD K r' f') : CallD K (fun x H Q => r x H Q ∨ r' x H Q) (fun x => (f x).or (f' x)) := by
  intro F H vs ds d Q ex da e k
  replace e : (f ds).or (f' ds) = some d := e
  cases q : f ds with
  | some z =>
    rw [q] at e
    cases e
    exact .inl (h F H vs ds _ Q ex da q k)
  | none =>
    rw [q] at e
    exact .inr (h' F H vs ds d Q ex da e k)
def dBin (f : D → D → Option D) (ta tb : DT) : DT := fun ρ n P => ta ρ n fun x n1 => tb ρ n1 fun y n2 => ∃ d, f x y = some d ∧ P d n2
def dUn (f : D → Option D) (ta : DT) : DT := fun ρ n P => ta ρ n fun x n1 => ∃ d, f x = some d ∧ P d n1
theorem se_op {K : Fg} {te te' : TE} {r : R2} {f : D → D → Option D} (h : OpD K r f) (ha : SE K g te ta) (hb : SE K g te' tb) : SE K g (tOp r te te') (dBin f ta tb) :=
  fun σ F H ρ n P Q sr p k => ha σ F H ρ n _ _ sr p fun x n1 vx F1 H1 p1 e1 sr1 dx => hb σ F1 H1 ρ n1 _ _ sr1 p1 fun y n2 vy F2 H2 ⟨d, e, p2⟩ e2 sr2 dy =>
    h F2 H2 vx vy x y d Q sr2.ex (dp_ex e2.f _ _ dx) dy e fun v F3 H3 gr dv => k d n2 v F3 H3 p2 ((e1.trans e2).trans gr.any) (sr2.grow gr) dv
theorem e_op {op : Operator} {r : R2} {f : D → D → Option D} (ho : OpR X (binaryOp op) r) (h : OpD X.K r f) (ha : E X g a ta) (hb : E X g b tb) : E X g (.BinOp a op b pos) (dBin f ta tb) := by
  obtain ⟨te, p1, s1⟩ := ha
  obtain ⟨te', p2, s2⟩ := hb
  exact ⟨_, pe_op ho p1 p2, se_op h s1 s2⟩
theorem e_cmpR {op : CmpOp} {r : R2} {f : D → D → Option D} (ho : OpR X (compareOp op) r) (h : OpD X.K r f) (ha : E X g a ta) (hb : E X g b tb) (hm : behindInMarks op b = false) : E X g (.Compare a [op] [b] pos) (dBin f ta tb) := by
  obtain ⟨te, p1, s1⟩ := ha
  obtain ⟨te', p2, s2⟩ := hb
  exact ⟨_, pe_cmpR ho p1 p2 hm, se_op h s1 s2⟩
theorem e_un {op : UnaryOp} {r : V → Hp → VK → Prop} {f : D → Option D} (ho : UnR X (unaryOp op) r) (h : UnD X.K r f) (ha : E X g a ta) : E X g (.UnaryOp op a pos) (dUn f ta) := by
  obtain ⟨te, p1, s1⟩ := ha
  refine ⟨_, pe_un ho p1, fun σ F H ρ n P Q sr p k => s1 σ F H ρ n _ _ sr p fun x n1 vx F1 H1 ⟨d, e, p1⟩ e1 sr1 dx => ?_⟩
  exact h F1 H1 vx x d Q sr1.ex dx e fun v F3 H3 gr dv => k d n1 v F3 H3 p1 (e1.trans gr.any) (sr1.grow gr) dv
/-- a < b < c -/
def dChain (f f' : D → D → Option D) (ta tb tc : DT) : DT := fun ρ n P => ta ρ n fun x n1 => tb ρ n1 fun y n2 => ∃ z, f x y = some (.bool z) ∧ if z = true then tc ρ n2 fun w n3 => ∃ d, f' y w = some d ∧ P d n3 else P (.bool false) n2
theorem se_chain {K : Fg} {te te' te2 : TE} {r r' : R2} {f f' : D → D → Option D} (h : OpD K r f) (h' : OpD K r' f') (s1 : SE K g te ta) (s2 : SE K g te' tb) (s3 : SE K g te2 tc) : SE K g (tChain r r' te te' te2) (dChain f f' ta tb tc) := by
  refine fun σ F H ρ n P Q sr p k => s1 σ F H ρ n _ _ sr p fun x n1 vx F1 H1 p1 e1 sr1 dx => s2 σ F1 H1 ρ n1 _ _ sr1 p1 fun y n2 vy F2 H2 ⟨z, e, p2⟩ e2 sr2 dy => ?_
  refine h F2 H2 vx vy x y _ _ sr2.ex (dp_ex e2.f _ _ dx) dy e fun v F3 H3 gr dv => ?_
  cases dv
  refine ⟨z, rfl, ?_⟩
  cases z with
  | false =>
    rw [if_neg Bool.false_ne_true] at p2 ⊢
    exact k _ n2 _ F3 H3 p2 ((e1.trans e2).trans gr.any) (sr2.grow gr) (.bl false)
  | true =>
    rw [if_pos rfl] at p2 ⊢
    refine s3 σ F3 H3 ρ n2 _ _ (sr2.grow gr) p2 fun w n3 vw F4 H4 ⟨d, e4, p4⟩ ex4 sr4 dw => ?_
    exact h' F4 H4 vy vw y w d Q sr4.ex (dp_ex (gr.f.trans ex4.f) _ _ dy) dw e4 fun v F5 H5 gr5 dv => k d n3 v F5 H5 p4 ((((e1.trans e2).trans gr.any).trans ex4).trans gr5.any) (sr4.grow gr5) dv
theorem e_chain {op op' : CmpOp} {r r' : R2} {f f' : D → D → Option D} (ho : OpR X (compareOp op) r) (h : OpD X.K r f) (ho' : OpR X (compareOp op') r') (h' : OpD X.K r' f') (ha : E X g a ta) (hb : E X g b tb) (hc : E X g c tc)
    (hm : lastMarks [op, op'] [b, c] = false := by rfl) : E X g (.Compare a [op, op'] [b, c] pos) (dChain f f' ta tb tc) := by
  obtain ⟨te, p1, s1⟩ := ha
  obtain ⟨te', p2, s2⟩ := hb
  obtain ⟨te2, p3, s3⟩ := hc
  exact ⟨_, pe_chain ho ho' p1 p2 p3 hm, se_chain h h' s1 s2 s3⟩

/-! ### tests -/
def bVal (t : DT) : DB := fun ρ n P => t ρ n fun d n' => ∃ b, d = .bool b ∧ P b n'
theorem b_val (h : E X g e t) (hs : ∀ whole, isTrue e X.env whole = (do let v ← whole; standAt e.pos; holding [v] (truthy v)) := by intro _; rfl) : B X g e (bVal t) := by
  obtain ⟨te, p1, s1⟩ := h
  refine ⟨_, pt_val p1 hs, fun σ F H ρ n P Q sr p k => s1 σ F H ρ n _ _ sr p fun d n1 v F1 H1 ⟨b, e, p1⟩ e1 sr1 dx => ?_⟩
  subst e
  cases dx
  exact ⟨b, rfl, k b n1 F1 H1 p1 e1 sr1⟩
theorem b_cmpR {op : CmpOp} {r : R2} {f : D → D → Option D} (ho : OpR X (compareOp op) r) (h : OpD X.K r f) (ha : E X g a ta) (hb : E X g b tb) (hm : behindInMarks op b = false) : B X g (.Compare a [op] [b] pos) (bVal (dBin f ta tb)) := by
  obtain ⟨te, p1, s1⟩ := ha
  obtain ⟨te', p2, s2⟩ := hb
  refine ⟨_, pt_cmpR ho p1 p2 hm, fun σ F H ρ n P Q sr p k => se_op h s1 s2 σ F H ρ n _ _ sr p fun d n1 v F1 H1 ⟨b, e, p1⟩ e1 sr1 dx => ?_⟩
  subst e
  cases dx
  exact ⟨b, rfl, k b n1 F1 H1 p1 e1 sr1⟩
theorem b_chain {op op' : CmpOp} {r r' : R2} {f f' : D → D → Option D} (ho : OpR X (compareOp op) r) (h : OpD X.K r f) (ho' : OpR X (compareOp op') r') (h' : OpD X.K r' f') (ha : E X g a ta) (hb : E X g b tb) (hc : E X g c tc)
    (hm : lastMarks [op, op'] [b, c] = false := by rfl) : B X g (.Compare a [op, op'] [b, c] pos) (bVal (dChain f f' ta tb tc)) := by
  obtain ⟨te, p1, s1⟩ := ha
  obtain ⟨te', p2, s2⟩ := hb
  obtain ⟨te2, p3, s3⟩ := hc
  refine ⟨_, pt_chain ho ho' p1 p2 p3 hm, fun σ F H ρ n P Q sr p k => se_chain h h' s1 s2 s3 σ F H ρ n _ _ sr p fun d n1 v F1 H1 ⟨b, e, p1⟩ e1 sr1 dx => ?_⟩
  subst e
  cases dx
  exact ⟨b, rfl, k b n1 F1 H1 p1 e1 sr1⟩
def bNot (t : DB) : DB := fun ρ n P => t ρ n fun b n' => P (!b) n'
def bAnd (t u : DB) : DB := fun ρ n P => t ρ n fun b n' => if b = true then u ρ n' P else P false n'
def bOr (t u : DB) : DB := fun ρ n P => t ρ n fun b n' => if b = true then P true n' else u ρ n' P
variable {u v : DB} {rest : List Expr}
theorem b_not (h : B X g a u) : B X g (.UnaryOp .Not a pos) (bNot u) := by
  obtain ⟨te, p1, s1⟩ := h
  exact ⟨_, pt_not p1, fun σ F H ρ n P Q sr p k => s1 σ F H ρ n _ _ sr p fun b n1 F1 H1 p1 e1 sr1 => k _ n1 F1 H1 p1 e1 sr1⟩
theorem sb_and {K : Fg} {t1 t2 : TT} (h1 : SB K g t1 u) (h2 : SB K g t2 v) : SB K g (tAnd t1 t2) (bAnd u v) :=
  fun σ F H ρ n P Q sr p k => h1 σ F H ρ n _ _ sr p fun b n1 F1 H1 p1 e1 sr1 => by
    cases b with
    | true =>
      rw [if_pos rfl] at p1 ⊢
      exact h2 σ F1 H1 ρ n1 _ _ sr1 p1 fun b' n2 F2 H2 p2 e2 sr2 => k b' n2 F2 H2 p2 (e1.trans e2) sr2
    | false =>
      rw [if_neg Bool.false_ne_true] at p1 ⊢
      exact k _ n1 F1 H1 p1 e1 sr1
theorem sb_or {K : Fg} {t1 t2 : TT} (h1 : SB K g t1 u) (h2 : SB K g t2 v) : SB K g (tOr t1 t2) (bOr u v) :=
  fun σ F H ρ n P Q sr p k => h1 σ F H ρ n _ _ sr p fun b n1 F1 H1 p1 e1 sr1 => by
    cases b with
    | false =>
      rw [if_neg Bool.false_ne_true] at p1 ⊢
      exact h2 σ F1 H1 ρ n1 _ _ sr1 p1 fun b' n2 F2 H2 p2 e2 sr2 => k b' n2 F2 H2 p2 (e1.trans e2) sr2
    | true =>
      rw [if_pos rfl] at p1 ⊢
      exact k _ n1 F1 H1 p1 e1 sr1
theorem w_and (h : B X g a u) (h2 : W X g (.BoolOp .And (b :: rest) pos) v) : W X g (.BoolOp .And (a :: b :: rest) pos) (bAnd u v) := by
  obtain ⟨te, p1, s1⟩ := h
  obtain ⟨te', p2, s2⟩ := h2
  exact ⟨_, pw_and p1 p2, sb_and s1 s2⟩
theorem w_and1 (h : B X g a u) : W X g (.BoolOp .And [a] pos) u := by
  obtain ⟨te, p1, s1⟩ := h
  exact ⟨_, pw_and1 p1, s1⟩
theorem w_or (h : B X g a u) (h2 : W X g (.BoolOp .Or (b :: rest) pos) v) : W X g (.BoolOp .Or (a :: b :: rest) pos) (bOr u v) := by
  obtain ⟨te, p1, s1⟩ := h
  obtain ⟨te', p2, s2⟩ := h2
  exact ⟨_, pw_or p1 p2, sb_or s1 s2⟩
theorem w_or1 (h : B X g a u) : W X g (.BoolOp .Or [a] pos) u := by
  obtain ⟨te, p1, s1⟩ := h
  exact ⟨_, pw_or1 p1, s1⟩
theorem b_w (h : W X g e u) : B X g e u := by
  obtain ⟨te, p1, s1⟩ := h
  exact ⟨_, p1.pt, s1⟩
/-! ### and, or, not as values; a if t else b -/
def dAnd (ta tb : DT) : DT := fun ρ n P => ta ρ n fun x n1 => ∃ c, x = .bool c ∧ if c = true then tb ρ n1 P else P (.bool false) n1
def dOr (ta tb : DT) : DT := fun ρ n P => ta ρ n fun x n1 => ∃ c, x = .bool c ∧ if c = true then P (.bool true) n1 else tb ρ n1 P
def dNot (ta : DT) : DT := fun ρ n P => ta ρ n fun x n1 => ∃ c, x = .bool c ∧ P (.bool (!c)) n1
theorem e_one {op : BoolOp} (h : E X g a t) : E X g (.BoolOp op [a] pos) t := by
  obtain ⟨te, p1, s1⟩ := h
  exact ⟨_, pe_one p1, s1⟩
theorem e_and (h : E X g a ta) (h2 : E X g (.BoolOp .And (b :: rest) pos) tb) : E X g (.BoolOp .And (a :: b :: rest) pos) (dAnd ta tb) := by
  obtain ⟨te, p1, s1⟩ := h
  obtain ⟨te', p2, s2⟩ := h2
  refine ⟨_, pe_and p1 p2, fun σ F H ρ n P Q sr p k => s1 σ F H ρ n _ _ sr p fun x n1 vx F1 H1 ⟨c, e, p1⟩ e1 sr1 dx => ?_⟩
  subst e
  cases dx
  refine ⟨c, rfl, ?_⟩
  cases c with
  | true =>
    rw [if_pos rfl] at p1 ⊢
    exact s2 σ F1 H1 ρ n1 _ _ sr1 p1 fun d n2 v F2 H2 p2 e2 sr2 dv => k d n2 v F2 H2 p2 (e1.trans e2) sr2 dv
  | false =>
    rw [if_neg Bool.false_ne_true] at p1 ⊢
    exact k _ n1 _ F1 H1 p1 e1 sr1 (.bl false)
theorem e_or (h : E X g a ta) (h2 : E X g (.BoolOp .Or (b :: rest) pos) tb) : E X g (.BoolOp .Or (a :: b :: rest) pos) (dOr ta tb) := by
  obtain ⟨te, p1, s1⟩ := h
  obtain ⟨te', p2, s2⟩ := h2
  refine ⟨_, pe_or p1 p2, fun σ F H ρ n P Q sr p k => s1 σ F H ρ n _ _ sr p fun x n1 vx F1 H1 ⟨c, e, p1⟩ e1 sr1 dx => ?_⟩
  subst e
  cases dx
  refine ⟨c, rfl, ?_⟩
  cases c with
  | false =>
    rw [if_neg Bool.false_ne_true] at p1 ⊢
    exact s2 σ F1 H1 ρ n1 _ _ sr1 p1 fun d n2 v F2 H2 p2 e2 sr2 dv => k d n2 v F2 H2 p2 (e1.trans e2) sr2 dv
  | true =>
    rw [if_pos rfl] at p1 ⊢
    exact k _ n1 _ F1 H1 p1 e1 sr1 (.bl true)
theorem e_not (h : E X g a ta) : E X g (.UnaryOp .Not a pos) (dNot ta) := by
  obtain ⟨te, p1, s1⟩ := h
  refine ⟨_, pe_not p1, fun σ F H ρ n P Q sr p k => s1 σ F H ρ n _ _ sr p fun x n1 vx F1 H1 ⟨c, e, p1⟩ e1 sr1 dx => ?_⟩
  subst e
  cases dx
  exact ⟨c, rfl, k _ n1 _ F1 H1 p1 e1 sr1 (.bl _)⟩
def dIf (u : DB) (ta tb : DT) : DT := fun ρ n P => u ρ n fun c n1 => if c = true then ta ρ n1 P else tb ρ n1 P
theorem e_if (hc : B X g c u) (ha : E X g a ta) (hb : E X g b tb) : E X g (.IfExp c a b pos) (dIf u ta tb) := by
  obtain ⟨te, p1, s1⟩ := hc
  obtain ⟨te1, p2, s2⟩ := ha
  obtain ⟨te2, p3, s3⟩ := hb
  refine ⟨_, pe_ifExp p1 p2 p3, fun σ F H ρ n P Q sr p k => s1 σ F H ρ n _ _ sr p fun c n1 F1 H1 p1 e1 sr1 => ?_⟩
  cases c with
  | true =>
    rw [if_pos rfl] at p1 ⊢
    exact s2 σ F1 H1 ρ n1 _ _ sr1 p1 fun d n2 v F2 H2 p2 e2 sr2 dv => k d n2 v F2 H2 p2 (e1.trans e2) sr2 dv
  | false =>
    rw [if_neg Bool.false_ne_true] at p1 ⊢
    exact s3 σ F1 H1 ρ n1 _ _ sr1 p1 fun d n2 v F2 H2 p2 e2 sr2 dv => k d n2 v F2 H2 p2 (e1.trans e2) sr2 dv
end
end DL

namespace DL
open PySem L2
section
variable {X : Cx} {g : G} {a b c e : Expr} {es : List Expr} {ta tb tc t : DT} {pos : Pos}
/-! ### arguments, tuples, lists -/
theorem slot_ex {K : Fg} {F F' : Hp} {v : V} {s : S} (e : Ex F F') (no : argS s = true) (h : SlotOk K g F F v s) : SlotOk K g F' F' v s := by
  cases s with
  | d d => exact dp_ex e _ _ h
  | m => exact h
  | r u => exact h
  | o ds => cases no
  | s k => cases no
theorem args_ex {K : Fg} {F F' : Hp} (e : Ex F F') : ∀ {vs : List V} {ss : List S}, ArgsOk K g F vs ss → ArgsOk K g F' vs ss
  | [], [], _ => trivial
  | _ :: _, _ :: _, ⟨h, no, r⟩ => ⟨slot_ex e no h, no, args_ex e r⟩
theorem args_len {K : Fg} {F : Hp} : ∀ {vs : List V} {ss : List S}, ArgsOk K g F vs ss → vs.length = ss.length
  | [], [], _ => rfl
  | _ :: _, _ :: _, ⟨_, _, r⟩ => by simp [args_len r]
theorem args_data {K : Fg} {F : Hp} : ∀ {vs : List V} {ds : List D}, ArgsOk K g F vs (ds.map .d) → DpAll K F vs ds
  | [], [], _ => .nil
  | _ :: _, _ :: _, ⟨h, _, r⟩ => .cons h (args_data r)
def aNil : DA := fun _ n P => P [] n
def aCons (t : DT) (u : DA) : DA := fun ρ n P => t ρ n fun d n1 => u ρ n1 fun ss n2 => P (.d d :: ss) n2
/-- the machine as an argument -/
def aM (i : Nat) (u : DA) : DA := fun ρ n P => ρ[i]? = some (some .m) ∧ u ρ n fun ss n2 => P (.m :: ss) n2
/-- a raw value as an argument -/
def aR (v : V) (u : DA) : DA := fun ρ n P => u ρ n fun ss n2 => P (.r v :: ss) n2
variable {u : DA}
theorem a_nil : A X g [] aNil := ⟨_, pa_nil, fun σ F H ρ n P Q sr p k => k [] n [] F H p (Grow.refl sr.ex) sr trivial⟩
theorem a_cons (h : E X g e t) (h2 : A X g es u) (hst : starEach (e :: es) X.env = (false, eval e X.env) :: starEach es X.env := by rfl) : A X g (e :: es) (aCons t u) := by
  obtain ⟨te, p1, s1⟩ := h
  obtain ⟨te', p2, s2⟩ := h2
  refine ⟨_, pa_cons p1 p2 hst, fun σ F H ρ n P Q sr p k => s1 σ F H ρ n _ _ sr p fun d n1 v F1 H1 p1 e1 sr1 dv => ?_⟩
  exact s2 σ F1 H1 ρ n1 _ _ sr1 p1 fun ss n2 vs F2 H2 p2 e2 sr2 dvs => k _ n2 (v :: vs) F2 H2 p2 (e1.trans e2) sr2 ⟨dp_ex e2.f _ _ dv, rfl, dvs⟩
theorem a_m (i : Nat) {x : Str} (h2 : A X g es u) (hN : X.N[i]? = some x := by rfl) (hv : Vis X.env.scope x := by first | exact Or.inl rfl | exact Or.inr (Or.inl rfl) | exact Or.inr (Or.inr rfl)) (hd : (x == ("__debug__" : Str)) = false := by decide)
    (hcd : (x == ("__classdict__" : Str)) = false := by decide) (hst : starEach (.Name x pos :: es) X.env = (false, eval (.Name x pos) X.env) :: starEach es X.env := by rfl) : A X g (.Name x pos :: es) (aM i u) := by
  obtain ⟨te', p2, s2⟩ := h2
  refine ⟨_, pa_cons (pe_var hN hv hd hcd) p2 hst, fun σ F H ρ n P Q sr ⟨hm, p⟩ k => ?_⟩
  obtain ⟨v, hv, ok⟩ := sr.sl i _ hm
  refine ⟨v, hv, ?_⟩
  exact s2 σ F H ρ n _ _ sr p fun ss n2 vs F2 H2 p2 e2 sr2 dvs => k _ n2 (v :: vs) F2 H2 p2 e2 sr2 ⟨ok, rfl, dvs⟩
def unD : List S → Option (List D)
  | [] => some []
  | .d d :: r => (unD r).map (d :: ·)
  | _ => none
theorem unD_eq : ∀ {ss : List S} {ds : List D}, unD ss = some ds → ss = ds.map .d
  | [], ds, h => by cases h; rfl
  | .d d :: r, ds, h => by
    unfold unD at h
    cases q : unD r with
    | none => rw [q] at h; cases h
    | some cs =>
      rw [q] at h
      cases h
      rw [unD_eq q]
      rfl
  | .o _ :: _, _, h => by simp [unD] at h
  | .m :: _, _, h => by simp [unD] at h
  | .r _ :: _, _, h => by simp [unD] at h
  | .s _ :: _, _, h => by simp [unD] at h
def dTup (u : DA) : DT := fun ρ n P => u ρ n fun ss n1 => ∃ ds : List D, unD ss = some ds ∧ ds.length ≤ 100000 ∧ P (.tuple ds) n1
def dLst (u : DA) : DL_ := fun ρ n P => u ρ n fun ss n1 => ∃ ds : List D, unD ss = some ds ∧ ds.length ≤ 100000 ∧ P ds n1
theorem e_tup {x1} (h : A X g es u) : E X g (.Tuple es x1 pos) (dTup u) := by
  obtain ⟨te, p1, s1⟩ := h
  refine ⟨_, pe_tup p1, fun σ F H ρ n P Q sr p k => s1 σ F H ρ n _ _ sr p fun ss n1 vs F1 H1 ⟨ds, e, hl, p1⟩ e1 sr1 da => ?_⟩
  have e := unD_eq e
  subst e
  have da := args_data da
  refine ⟨by rw [dpa_len da]; exact Evl.sz_of hl, fun q hq => ?_⟩
  have gr := Grow.new (m := none) (o := .tup vs) sr1.ex hq
  exact k _ n1 _ _ _ p1 (e1.trans gr.any) (sr1.grow gr) (.tup (SqT.of upd_same) (dpa_ex gr.f _ _ da))
theorem l_lst (h : A X g es u) : Ls X g (.List es pos) (dLst u) := by
  obtain ⟨te, p1, s1⟩ := h
  refine ⟨_, pe_lst p1, fun σ F H ρ n P Q sr p k => s1 σ F H ρ n _ _ sr p fun ss n1 vs F1 H1 ⟨ds, e, hl, p1⟩ e1 sr1 da => ?_⟩
  have e := unD_eq e
  subst e
  have da := args_data da
  refine ⟨by rw [dpa_len da]; exact Evl.sz_of hl, fun q hq => ?_⟩
  have gr := Grow.raw (m := none) (o := .lst vs) sr1.ex hq
  exact k _ n1 _ _ _ _ p1 (e1.trans gr.any) (sr1.grow gr) (Free.of sr1 hq) (e1.dm _ hq) upd_same da
/-- a new list, frozen -/
theorem SR.freeze {K : Fg} {F H : Hp} {σ : L2.St} {ρ : Sl} {n : Nat} {p : Addr} {xs : List V} (sr : SR K g F H σ ρ n) (fr : Free g F σ ρ p) (hp : H p = some (.lst xs)) : SR K g (upd F p (.lst xs)) H σ ρ n := by
  have ef : Ex F (upd F p (.lst xs)) := Evl.Ex.new fr.f
  refine ⟨⟨sr.gr.f.trans ef, fun c o h => ?_, sr.gr.h, sr.gr.dm, fun c o h => ?_⟩, fun c e => ?_, fun i s e => ?_, sr.inj, sr.len⟩
  · by_cases q : c = p
    · subst q; rw [upd_same] at h; rw [hp]; exact h
    · rw [upd_ne q] at h; exact sr.ex c o h
  · by_cases q : c = p
    · subst q; exact .inr fr.b
    · rw [upd_ne q] at h; exact sr.gr.fr c o h
  · obtain ⟨f1, q, ns, s, u, h1, h2, h3⟩ := sr.mc c e
    refine ⟨?_, q, ns, s, u, h1, dp_ex ef _ _ h2, h3⟩
    rw [upd_ne (ne_of h1 hp (by intro z; cases z))]; exact f1
  · obtain ⟨v, hv, ok⟩ := sr.sl i s e
    refine ⟨v, hv, ?_⟩
    cases s with
    | d d => exact dp_ex ef _ _ ok
    | m => exact ok
    | r u => exact ok
    | s k => exact ok
    | o ds =>
      obtain ⟨l, ys, rfl, b1, f1, hl, da⟩ := ok
      refine ⟨l, ys, rfl, b1, ?_, hl, dpa_ex ef _ _ da⟩
      rw [upd_ne (fun z => fr.no i ds e (by rw [← z]; exact hv))]; exact f1
def dFrz (u : DL_) : DT := fun ρ n P => u ρ n fun ds n1 => P (.list ds) n1
theorem e_l {u : DL_} (h : Ls X g e u) : E X g e (dFrz u) := by
  obtain ⟨te, p1, s1⟩ := h
  refine ⟨_, p1, fun σ F H ρ n P Q sr p k => s1 σ F H ρ n _ _ sr p fun ds n1 q xs F1 H1 p1 e1 sr1 fr hn hq da => ?_⟩
  have ef : Ex F1 (upd F1 q (.lst xs)) := Evl.Ex.new fr.f
  exact k _ n1 _ _ H1 p1 ⟨e1.f.trans ef, (sr1.freeze fr hq).ex, e1.h, e1.dm, fun c o h => by
    by_cases z : c = q
    · subst z; exact .inr hn
    · rw [upd_ne z] at h; exact e1.fr c o h⟩ (sr1.freeze fr hq) (.lst upd_same (dpa_ex ef _ _ da))

/-! ### built-ins by data -/
def dCall (f : List D → Option D) (u : DA) : DT := fun ρ n P => u ρ n fun ss n1 => ∃ ds d, unD ss = some ds ∧ f ds = some d ∧ P d n1
theorem se_cb {K : Fg} {ta : TA} {r : List V → Hp → VK → Prop} {f : List D → Option D} (h : CallD K r f) (ha : SA K g ta u) : SE K g (tCB r ta) (dCall f u) :=
  fun σ F H ρ n P Q sr p k => ha σ F H ρ n _ _ sr p fun ss n1 vs F1 H1 ⟨ds, d, e, ef, p1⟩ e1 sr1 da => by
    have e := unD_eq e
    subst e
    exact h F1 H1 vs ds d Q sr1.ex (args_data da) ef fun v F3 H3 gr dv => k d n1 v F3 H3 p1 (e1.trans gr.any) (sr1.grow gr) dv
theorem e_callB {x : Str} {id : String} {p : Pos} {r : List V → Hp → VK → Prop} {f : List D → Option D} (hc : CallR X (.builtin id) r) (h : CallD X.K r f) (hg : Gl X x) (hm : X.mg x = none) (hv : bootBuiltins x = some (.builtin id)) (ha : A X g (e :: es) u)
    (hn : x ≠ "__name__" := by decide) (hd : (x == ("__debug__" : Str)) = false := by decide) (hst : starEach (e :: es) X.env = (false, eval e X.env) :: starEach es X.env := by rfl) (hpl : (backTo pos (starEach es X.env)).any (·.1) = false := by rfl) :
    E X g (.Call (.Name x p) (e :: es) [] pos) (dCall f u) := by
  obtain ⟨te, p1, s1⟩ := ha
  exact ⟨_, pe_callB hc hg hm hv p1 hn hd hst hpl, se_cb h s1⟩
theorem e_callTy {x : Str} {T : String} {p : Pos} {r : List V → Hp → VK → Prop} {f : List D → Option D} (hc : CallR X (.type T) r) (h : CallD X.K r f) (hg : Gl X x) (hm : X.mg x = none) (hv : bootBuiltins x = some (.type T)) (ha : A X g (e :: es) u)
    (hn : x ≠ "__name__" := by decide) (hd : (x == ("__debug__" : Str)) = false := by decide) (hst : starEach (e :: es) X.env = (false, eval e X.env) :: starEach es X.env := by rfl) (hpl : (backTo pos (starEach es X.env)).any (·.1) = false := by rfl) :
    E X g (.Call (.Name x p) (e :: es) [] pos) (dCall f u) := by
  obtain ⟨te, p1, s1⟩ := ha
  exact ⟨_, pe_callTy hc hg hm hv p1 hn hd hst hpl, se_cb h s1⟩
/-- .. that make a new list -/
def CallL (K : Fg) (r : List V → Hp → VK → Prop) (f : List D → Option (List D)) : Prop := ∀ F H vs ds d (Q : VK), Ex F H → DpAll K F vs ds → f ds = some d →
  (∀ p xs, H p = none → DpAll K F xs d → Q (.ref p) (upd H p (.lst xs))) → r vs H Q
def dCallL (f : List D → Option (List D)) (u : DA) : DL_ := fun ρ n P => u ρ n fun ss n1 => ∃ ds d, unD ss = some ds ∧ f ds = some d ∧ P d n1
theorem sl_cb {K : Fg} {ta : TA} {r : List V → Hp → VK → Prop} {f : List D → Option (List D)} (h : CallL K r f) (ha : SA K g ta u) : SL K g (tCB r ta) (dCallL f u) :=
  fun σ F H ρ n P Q sr p k => ha σ F H ρ n _ _ sr p fun ss n1 vs F1 H1 ⟨ds, d, e, ef, p1⟩ e1 sr1 da => by
    have e := unD_eq e
    subst e
    exact h F1 H1 vs ds d Q sr1.ex (args_data da) ef fun q xs hq dx => k d n1 q xs F1 _ p1 (e1.trans (Grow.raw sr1.ex hq)) (sr1.grow (Grow.raw (m := none) sr1.ex hq)) (Free.of sr1 hq) (e1.dm q hq) upd_same dx
theorem l_callB {x : Str} {id : String} {p : Pos} {r : List V → Hp → VK → Prop} {f : List D → Option (List D)} (hc : CallR X (.builtin id) r) (h : CallL X.K r f) (hg : Gl X x) (hm : X.mg x = none) (hv : bootBuiltins x = some (.builtin id)) (ha : A X g (e :: es) u)
    (hn : x ≠ "__name__" := by decide) (hd : (x == ("__debug__" : Str)) = false := by decide) (hst : starEach (e :: es) X.env = (false, eval e X.env) :: starEach es X.env := by rfl) (hpl : (backTo pos (starEach es X.env)).any (·.1) = false := by rfl) :
    Ls X g (.Call (.Name x p) (e :: es) [] pos) (dCallL f u) := by
  obtain ⟨te, p1, s1⟩ := ha
  exact ⟨_, pe_callB hc hg hm hv p1 hn hd hst hpl, sl_cb h s1⟩
theorem l_callTy {x : Str} {T : String} {p : Pos} {r : List V → Hp → VK → Prop} {f : List D → Option (List D)} (hc : CallR X (.type T) r) (h : CallL X.K r f) (hg : Gl X x) (hm : X.mg x = none) (hv : bootBuiltins x = some (.type T)) (ha : A X g (e :: es) u)
    (hn : x ≠ "__name__" := by decide) (hd : (x == ("__debug__" : Str)) = false := by decide) (hst : starEach (e :: es) X.env = (false, eval e X.env) :: starEach es X.env := by rfl) (hpl : (backTo pos (starEach es X.env)).any (·.1) = false := by rfl) :
    Ls X g (.Call (.Name x p) (e :: es) [] pos) (dCallL f u) := by
  obtain ⟨te, p1, s1⟩ := ha
  exact ⟨_, pe_callTy hc hg hm hv p1 hn hd hst hpl, sl_cb h s1⟩

/-! ### subscripts, slices -/
theorem e_ix {r : R2} {f : D → D → Option D} (hr : IxR X r) (h : OpD X.K r f) (ha : E X g a ta) (hb : E X g b tb) (hs : PlainIx b := by exact fun _ _ => rfl) : E X g (.Subscript a b pos) (dBin f ta tb) := by
  obtain ⟨te, p1, s1⟩ := ha
  obtain ⟨te', p2, s2⟩ := hb
  exact ⟨_, pe_ix hr p1 p2 hs, se_op h s1 s2⟩
end


/-! ### a def's promise by data -/
structure Ct where
  α : Type
  pre : α → List S → Nat → Prop
  post : α → Nat → D → Nat → Prop
  exc : α → Nat → Value → D → Nat → Prop := fun _ _ _ _ _ => False
def Ct.wp (c : Ct) (ss : List S) (n : Nat) (P : D → Nat → Prop) (xp : XD) : Prop := ∃ x : c.α, c.pre x ss n ∧ (∀ d n', c.post x n d n' → P d n') ∧ (∀ cls d n', c.exc x n cls d n' → xp cls d n')
theorem Ct.wp.mono {c : Ct} {ss : List S} {n : Nat} {P P' : D → Nat → Prop} {xp xp' : XD} (h : c.wp ss n P xp) (hp : ∀ d n', P d n' → P' d n') (hx : ∀ cls d n', xp cls d n' → xp' cls d n') : c.wp ss n P' xp' := by
  obtain ⟨x, a, b, c⟩ := h
  exact ⟨x, a, fun d n' q => hp _ _ (b d n' q), fun k d n' q => hx _ _ _ (c k d n' q)⟩
/-- a plain function of data -/
def Ct.pure (α : Type) (args : α → List S) (ok : α → Prop) (res : α → D) : Ct := ⟨α, fun x ss _ => ss = args x ∧ ok x, fun x n d n' => d = res x ∧ n' = n, fun _ _ _ _ _ => False⟩
def XOk (K : Fg) (m : Option Addr) (F H : Hp) (xp : XD) : XK := fun cls od H' => ∃ dx f v d n F', od = some dx ∧ H' dx = some (.xd [(f, v)]) ∧ Grow m F H F' H' ∧ MachOk K F' H' m n ∧ Dp K F' v d ∧ xp cls d n
def spD (K : Fg) (c : Ct) : Sp := fun vs H Q E => ∃ (g : G) (F : Hp) (n : Nat) (ss : List S), g.B = H ∧ g.F0 = F ∧ Ex F H ∧ MachOk K F H g.m n ∧ ArgsOk K g F vs ss ∧
  c.wp ss n (fun d n' => ∀ v F' H', Grow g.m F H F' H' → MachOk K F' H' g.m n' → Dp K F' v d → Q v H') g.xp ∧ (∀ cls od H', XOk K g.m F H g.xp cls od H' → E cls od H')
def dFn (c : Ct) (xp : XD) (u : DA) : DT := fun ρ n P => u ρ n fun ss n1 => c.wp ss n1 P xp
def noX : XD := fun _ _ _ => False
theorem args_g {K : Fg} {g g' : G} {F : Hp} (hm : g.m = g'.m) : ∀ {vs : List V} {ss : List S}, ArgsOk K g F vs ss → ArgsOk K g' F vs ss
  | [], [], _ => trivial
  | v :: _, s :: _, ⟨h, no, r⟩ => by
    refine ⟨?_, no, args_g hm r⟩
    cases s with
    | d d => exact h
    | m => obtain ⟨a, e, e'⟩ := h; exact ⟨a, hm ▸ e, e'⟩
    | r u => exact h
    | o ds => cases no
    | s k => cases no
section
variable {X : Cx} {g : G} {a b c e : Expr} {es : List Expr} {ta tb tc t : DT} {pos : Pos} {u : DA}
theorem se_fn {K : Fg} {ct : Ct} {ta : TA} (ha : SA K g ta u) : SE K g (tCall (spD K ct) [] E0 ta) (dFn ct noX u) :=
  fun σ F H ρ n P Q sr p k => ha σ F H ρ n _ _ sr p fun ss n1 vs F1 H1 p1 e1 sr1 da => by
    rw [List.append_nil]
    refine ⟨⟨H1, F1, g.m, noX⟩, F1, n1, ss, rfl, rfl, sr1.ex, sr1.mc, args_g (g := g) (g' := ⟨H1, F1, g.m, noX⟩) rfl da, p1.mono (fun d n' q v F' H' gr mc dv => ?_) fun _ _ _ z => z, fun cls od H' q => ?_⟩
    · exact k d n' v F' H' q (e1.trans gr) (sr1.growM gr mc) dv
    · obtain ⟨_, _, _, _, _, _, _, _, _, _, _, z⟩ := q
      exact z
theorem e_fn {ct : Ct} {k : Nat} {f : Addr} {fd : FuncData} {ps : List Str} {x : Str} {p : Pos} (Fo : FnOk X.prog X.w X.K X.mg X.base CX0 k f fd ps (spD X.K ct)) (hr : Room k X.A) (hg : Gl X x) (hm : X.mg x = some (.ref f)) (hk : PySem.W.keepIn X.K (.ref f) = true) (hb : Binds X.K fd ps [])
    (ha : A X g (e :: es) u) (hdb : (x == ("__debug__" : Str)) = false := by decide) (he : starEach (e :: es) X.env = (false, eval e X.env) :: starEach es X.env := by rfl) (hpl : (backTo pos (starEach es X.env)).any (·.1) = false := by rfl) :
    E X g (.Call (.Name x p) (e :: es) [] pos) (dFn ct noX u) := by
  obtain ⟨te, p1, s1⟩ := ha
  exact ⟨_, pe_call Fo hr hg hm hk hb .nil pass0 p1 hdb he hpl, se_fn s1⟩

/-! ### statements -/
def dSeq (t u : DS) : DS := fun P ρ n => t { P with nx := u P } ρ n
def dNext : DS := fun P ρ n => P.nx ρ n
variable {st : Stmt} {sts : List Stmt} {s1 s2 : DS}
theorem ss_seq {K : Fg} {t1 t2 : TS} (h1 : SS K g t1 s1) (h2 : SS K g t2 s2) : SS K g (tSeq t1 t2) (dSeq s1 s2) :=
  fun σ F H ρ n P E sr p k1 k2 k3 k4 => h1 σ F H ρ n _ _ sr p (fun ρ' n' σ' F' H' p' x sr' => h2 σ' F' H' ρ' n' P E sr' p' (fun _ _ _ _ _ q y => k1 _ _ _ _ _ q (x.trans y)) k2 (fun _ _ _ _ _ q y => k3 _ _ _ _ _ q (x.trans y)) (fun _ _ _ _ _ q y => k4 _ _ _ _ _ q (x.trans y))) k2 k3 k4
theorem s_cons (h1 : St X g st s1) (h2 : Sts X g sts s2) : Sts X g (st :: sts) (dSeq s1 s2) := by
  obtain ⟨te, p1, q1⟩ := h1
  obtain ⟨te', p2, q2⟩ := h2
  exact ⟨_, pss_cons p1 p2, ss_seq q1 q2⟩
theorem s_one (h1 : St X g st s1) : Sts X g [st] s1 := by
  obtain ⟨te, p1, q1⟩ := h1
  exact ⟨_, pss_one p1, q1⟩
theorem s_nil : Sts X g [] dNext := ⟨_, pss_nil, fun σ F H ρ n P E sr p k1 k2 k3 k4 => k1 ρ n σ F H p (Evl.Ex.refl F) sr⟩
def dNever : DS := fun _ _ _ => False
theorem st_never : St X g st dNever := ⟨_, ps_never, fun σ F H ρ n P E sr p _ _ _ _ => p.elim⟩
def dRet (t : DT) : DS := fun P ρ n => t ρ n P.rt
theorem st_ret (h : E X g e t) : St X g (.Return (some e) pos) (dRet t) := by
  obtain ⟨te, p1, q1⟩ := h
  exact ⟨_, ps_ret p1, fun σ F H ρ n P E sr p k1 k2 k3 k4 => q1 σ F H ρ n _ _ sr p fun d n' v F' H' p' _ sr' dv => k2 d n' σ ρ v F' H' p' sr' dv⟩
def dIfS (c : DB) (t u : DS) : DS := fun P ρ n => c ρ n fun b n1 => if b = true then t P ρ n1 else u P ρ n1
theorem st_if {cb : DB} {a b : List Stmt} (hc : B X g c cb) (h1 : Sts X g a s1) (h2 : Sts X g b s2) : St X g (.If c a b pos) (dIfS cb s1 s2) := by
  obtain ⟨te, p1, q1⟩ := hc
  obtain ⟨te1, p2, q2⟩ := h1
  obtain ⟨te2, p3, q3⟩ := h2
  refine ⟨_, ps_if p1 p2 p3, fun σ F H ρ n P E sr p k1 k2 k3 k4 => q1 σ F H ρ n _ _ sr p fun b n' F' H' p' xx sr' => ?_⟩
  have x := xx.f
  cases b with
  | true =>
    rw [if_pos rfl] at p' ⊢
    exact q2 σ F' H' ρ n' P E sr' p' (fun _ _ _ _ _ q y => k1 _ _ _ _ _ q (x.trans y)) k2 (fun _ _ _ _ _ q y => k3 _ _ _ _ _ q (x.trans y)) (fun _ _ _ _ _ q y => k4 _ _ _ _ _ q (x.trans y))
  | false =>
    rw [if_neg Bool.false_ne_true] at p' ⊢
    exact q3 σ F' H' ρ n' P E sr' p' (fun _ _ _ _ _ q y => k1 _ _ _ _ _ q (x.trans y)) k2 (fun _ _ _ _ _ q y => k3 _ _ _ _ _ q (x.trans y)) (fun _ _ _ _ _ q y => k4 _ _ _ _ _ q (x.trans y))
def dDrop (t : DT) : DS := fun P ρ n => t ρ n fun _ n' => P.nx ρ n'
theorem st_expr (h : E X g e t) (hs : swapsWith e none pos.line X.env = pure false := by rfl) : St X g (.Expr e pos) (dDrop t) := by
  obtain ⟨te, p1, q1⟩ := h
  exact ⟨_, ps_expr p1 hs, fun σ F H ρ n P E sr p k1 k2 k3 k4 => q1 σ F H ρ n _ _ sr p fun d n' v F' H' p' x sr' dv => k1 ρ n' σ F' H' p' x.f sr'⟩
theorem st_pass : St X g (.Pass pos) dNext := ⟨_, ps_pass, fun σ F H ρ n P E sr p k1 k2 k3 k4 => k1 ρ n σ F H p (Evl.Ex.refl F) sr⟩
def dBrk : DS := fun P ρ n => P.bk ρ n
def dCnt : DS := fun P ρ n => P.ct ρ n
theorem st_brk : St X g (.Break pos) dBrk := ⟨_, ps_break, fun σ F H ρ n P E sr p k1 k2 k3 k4 => k3 ρ n σ F H p (Evl.Ex.refl F) sr⟩
theorem st_cnt : St X g (.Continue pos) dCnt := ⟨_, ps_continue, fun σ F H ρ n P E sr p k1 k2 k3 k4 => k4 ρ n σ F H p (Evl.Ex.refl F) sr⟩

/-! ### targets, assignment -/
def gtName (i : Nat) : DGt := fun d ρ n P => P (ρ.set i (some (.d d))) n
theorem g_name (i : Nat) {x : Str} (hN : X.N.Nodup) (hi : X.N[i]? = some x := by rfl) (hx : Loc X.env.scope x := by first | exact Or.inl rfl | exact Or.inr rfl) (hf : X.fn x = true ∨ X.env.scope.names.lookup x = some .local := by first | exact .inl rfl | exact .inr rfl) : Gt X g (.Name x pos) [i] (gtName i) :=
  ⟨_, pg_name hN hi hx hf, fun v σ F H d ρ n P Q sr dv p k => k _ _ p (sr.setD dv) But.set⟩
abbrev DGts := List D → Sl → Nat → (Sl → Nat → Prop) → Prop
def SGs (K : Fg) (g : G) (is : List Nat) (tg : TGs) (t : DGts) : Prop := ∀ vs σ F H ds ρ n (P : Sl → Nat → Prop) (Q : L2.St → Hp → Prop), SR K g F H σ ρ n → DpAll K F vs ds → t ds ρ n P →
  (∀ ρ' σ', P ρ' n → SR K g F H σ' ρ' n → But is σ σ' ρ ρ' → Q σ' H) → tg vs σ H Q
structure Gts (X : Cx) (g : G) (es : List Expr) (is : List Nat) (t : DGts) : Prop where
  ok : ∃ te, PGs X es te ∧ SGs X.K g is te t
def gtNil : DGts := fun ds ρ n P => ds = [] ∧ P ρ n
def gtCons (t : DGt) (u : DGts) : DGts := fun ds ρ n P => ∃ d r, ds = d :: r ∧ t d ρ n fun ρ' n' => u r ρ' n' P
variable {gt : DGt} {gts : DGts} {is js : List Nat}
theorem gs_nil : Gts X g [] [] gtNil := ⟨_, pgs_nil, fun vs σ F H ds ρ n P Q sr dv ⟨e, p⟩ k => by subst e; cases dv; exact ⟨rfl, k _ _ p sr But.refl⟩⟩
theorem gs_name {x : Str} (i : Nat) (h2 : Gts X g es is gts) (hN : X.N.Nodup) (hi : X.N[i]? = some x := by rfl) (hx : Loc X.env.scope x := by first | exact Or.inl rfl | exact Or.inr rfl) (hf : X.fn x = true ∨ X.env.scope.names.lookup x = some .local := by first | exact .inl rfl | exact .inr rfl) :
    Gts X g (.Name x pos :: es) (i :: is) (gtCons (gtName i) gts) := by
  obtain ⟨te, p2, q2⟩ := h2
  refine ⟨_, pgs_cons (pg_name hN hi hx hf) p2, fun vs σ F H ds ρ n P Q sr dv p k => ?_⟩
  obtain ⟨d, r, e, p⟩ := p
  subst e
  cases dv with
  | cons h1 h2 => exact ⟨_, _, rfl, q2 _ _ F H r _ n P Q (sr.setD h1) h2 p fun ρ' σ' p' sr' b => k ρ' σ' p' sr' (But.set.trans b)⟩
def gtTup (m : Nat) (u : DGts) : DGt := fun d ρ n P => ∃ ds, d = .tuple ds ∧ ds.length = m ∧ u ds ρ n P
theorem gs_cons (h1 : Gt X g e is gt) (h2 : Gts X g es js gts) (hs : (assignEach (e :: es) X.env).map (·.2) = assign e X.env :: (assignEach es X.env).map (·.2) := by rfl) : Gts X g (e :: es) (is ++ js) (gtCons gt gts) := by
  obtain ⟨te, p1, q1⟩ := h1
  obtain ⟨te, p2, q2⟩ := h2
  refine ⟨_, pgs_cons p1 p2 hs, fun vs σ F H ds ρ n P Q sr dv p k => ?_⟩
  obtain ⟨d, r, e, p⟩ := p
  subst e
  cases dv with
  | cons h1 h2 => exact ⟨_, _, rfl, q1 _ _ F H d _ n _ _ sr h1 p fun ρ' σ' p' sr' b => q2 _ _ F H r _ n P Q sr' h2 p' fun ρ2 σ2 p2 sr2 b2 => k ρ2 σ2 p2 sr2 (b.trans b2)⟩
theorem g_tup {kk m : Nat} (hc : X.calm = true) (h : Gts X g es is gts) (hl : (assignEach es X.env).length = m := by rfl) (hf : (assignEach es X.env).findIdx? (·.1) = none := by rfl) : Gt X g (.Tuple es kk pos) is (gtTup m gts) := by
  obtain ⟨te, p2, q2⟩ := h
  refine ⟨_, pg_tup hc p2 hl hf, fun v σ F H d ρ n P Q sr dv p k => ?_⟩
  obtain ⟨ds, e, hl, p⟩ := p
  subst e
  cases dv with
  | tup h1 h2 => exact ⟨_, _, rfl, Evl.ex_t sr.ex h1, by rw [dpa_len h2, hl], q2 _ _ F H ds _ n P Q sr h2 p k⟩
def dAsg (t : DT) (u : DGt) : DS := fun P ρ n => t ρ n fun d n' => u d ρ n' P.nx
theorem ss_asg {K : Fg} {te : TE} {tg : TG} (h : SE K g te t) (h2 : SG K g is tg gt) : SS K g (tAsg te tg) (dAsg t gt) :=
  fun σ F H ρ n P E sr p k1 k2 k3 k4 => h σ F H ρ n _ _ sr p fun d n' v F' H' p' x sr' dv => h2 v σ F' H' d ρ n' _ _ sr' dv p' fun ρ' σ' p'' sr'' _ => k1 ρ' n' σ' F' H' p'' x.f sr''
theorem st_asg (h : E X g e t) (h2 : Gt X g a is gt) (h1 : swapsWithSole [a] e pos.line X.env = pure false := by rfl) (h3 : swappedStores [a] e X.env = pure none := by rfl) (h4 : (assignEach [a] X.env).map (·.2) = [assign a X.env] := by rfl) : St X g (.Assign [a] e pos) (dAsg t gt) := by
  obtain ⟨te, p1, q1⟩ := h
  obtain ⟨te2, p2, q2⟩ := h2
  exact ⟨_, ps_asg p1 p2 h1 h3 h4, ss_asg q1 q2⟩
/-- a new list of the def's own, to be changed in place -/
def dOwn (i : Nat) (u : DL_) : DS := fun P ρ n => u ρ n fun ds n' => P.nx (ρ.set i (some (.o ds))) n'
theorem SR.setO {K : Fg} {F H : Hp} {σ : L2.St} {ρ : Sl} {n i : Nat} {p : Addr} {xs : List V} {ds : List D} (sr : SR K g F H σ ρ n) (fr : Free g F σ ρ p) (hp : H p = some (.lst xs)) (da : DpAll K F xs ds) : SR K g F H (σ.set i (some (.ref p))) (ρ.set i (some (.o ds))) n :=
  sr.set (s := .o ds) ⟨p, xs, rfl, fr.b, fr.f, hp, da⟩ fun ds' l e1 e2 j es _ e3 => by cases e2; exact fr.no j es e3
theorem ss_own {K : Fg} {te : TE} {i : Nat} {u : DL_} (h : SL K g te u) : SS K g (tAsg te (gName i)) (dOwn i u) :=
  fun σ F H ρ n P E sr p k1 k2 k3 k4 => h σ F H ρ n _ _ sr p fun ds n' q xs F' H' p' x sr' fr _ hq da => k1 _ n' _ F' H' p' x.f (sr'.setO fr hq da)
theorem st_own (i : Nat) {x : Str} {px : Pos} {u : DL_} (h : Ls X g e u) (hN : X.N.Nodup) (hi : X.N[i]? = some x := by rfl) (hx : Loc X.env.scope x := by first | exact Or.inl rfl | exact Or.inr rfl) (hf : X.fn x = true ∨ X.env.scope.names.lookup x = some .local := by first | exact .inl rfl | exact .inr rfl)
    (h1 : swapsWithSole [.Name x px] e pos.line X.env = pure false := by rfl) (h3 : swappedStores [.Name x px] e X.env = pure none := by rfl) (h4 : (assignEach [.Name x px] X.env).map (·.2) = [assign (.Name x px) X.env] := by rfl) : St X g (.Assign [.Name x px] e pos) (dOwn i u) := by
  obtain ⟨te, p1, q1⟩ := h
  exact ⟨_, ps_asg p1 (pg_name hN hi hx hf) h1 h3 h4, ss_own q1⟩
end
end DL

namespace DL
open PySem L2
/-! ### what is walked -/
structure Walks (K : Fg) (J : It) (Fw : Hp) (items : List D) : Prop where
  go : ∀ i F H, Ex Fw F → Ex F H → i < items.length → J.go i H
  yld : ∀ i F H x H', Ex Fw F → Ex F H → i < items.length → J.yld i H x H' → ∃ d F', items[i]? = some d ∧ Grow none F H F' H' ∧ Dp K F' x d
  stop : ∀ F H, Ex Fw F → Ex F H → J.stop items.length H
abbrev DI := Sl → Nat → (List D → Nat → Prop) → Prop
def SI (K : Fg) (g : G) (wi : TI) (t : DI) : Prop := ∀ σ F H ρ n (P : List D → Nat → Prop) (R : It → Hp → Prop), SR K g F H σ ρ n → t ρ n P →
  (∀ items n' J F' H', P items n' → Grow g.m F H F' H' → SR K g F' H' σ ρ n' → Walks K J F' items → R J H') → wi σ H R
structure I (X : Cx) (g : G) (tg iter : Expr) (t : DI) : Prop where
  ok : ∃ wi, PI X tg iter wi ∧ SI X.K g wi t
def dLoop (gt : DGt) (tb : DS) : List D → DEnds → Sl → Nat → Prop
  | [], P, ρ, n => P.nx ρ n
  | d :: r, P, ρ, n => gt d ρ n fun ρ1 n1 => tb { nx := dLoop gt tb r P, rt := P.rt, bk := P.nx, ct := dLoop gt tb r P } ρ1 n1
def dFor (ti : DI) (gt : DGt) (tb : DS) : DS := fun P ρ n => ti ρ n fun items n' => dLoop gt tb items P ρ n'
section
variable {X : Cx} {g : G} {tg iter e : Expr} {body : List Stmt} {ti : DI} {gt : DGt} {tb : DS} {pos : Pos} {t : DT} {is : List Nat}
theorem drop_at {items : List D} {i : Nat} {d : D} (h : items[i]? = some d) : items.drop i = d :: items.drop (i + 1) := by
  obtain ⟨hl, rfl⟩ := List.getElem?_eq_some_iff.mp h
  exact List.drop_eq_getElem_cons hl
theorem ss_for {K : Fg} {wi : TI} {tgt : TG} {tbt : TS} (h1 : SI K g wi ti) (h2 : SG K g is tgt gt) (h3 : SS K g tbt tb) : SS K g (tFor wi tgt tbt) (dFor ti gt tb) := by
  intro σ F H ρ n P E sr p k1 k2 k3 k4
  refine h1 σ F H ρ n _ _ sr p fun items n' J Fw Hw p' x0 sr' wk => ?_
  refine ⟨fun i m σ H => i + m = items.length ∧ ∃ F ρ n, Ex Fw F ∧ SR K g F H σ ρ n ∧ dLoop gt tb (items.drop i) P ρ n, ⟨items.length, by omega, Fw, ρ, n', Evl.Ex.refl _, sr', by simpa using p'⟩, fun i m σ H ⟨em, F, ρ, n, ew, sr, p⟩ => ?_⟩
  by_cases hi : i < items.length
  · refine .inr ⟨wk.go i F H ew sr.ex hi, fun σ' H' => ∃ F ρ n, Ex Fw F ∧ SR K g F H' σ' ρ n ∧ dLoop gt tb (items.drop (i + 1)) P ρ n, fun σ' H' hN => ⟨m - 1, by omega, by omega, hN⟩, fun x H' hy => ?_⟩
    obtain ⟨d, F', hd, gr, dx⟩ := wk.yld i F H x H' ew sr.ex hi hy
    rw [drop_at hd] at p
    refine h2 x σ F' H' d ρ n _ _ (sr.grow gr) dx p fun ρ1 σ1 p1 sr1 _ => ?_
    refine h3 σ1 F' H' ρ1 n _ _ sr1 p1 (fun ρ2 n2 σ2 F2 H2 p2 x2 sr2 => ⟨F2, ρ2, n2, (ew.trans gr.f).trans x2, sr2, p2⟩) k2 (fun ρ2 n2 σ2 F2 H2 p2 x2 sr2 => ?_) (fun ρ2 n2 σ2 F2 H2 p2 x2 sr2 => ⟨F2, ρ2, n2, (ew.trans gr.f).trans x2, sr2, p2⟩)
    exact k1 ρ2 n2 σ2 F2 H2 p2 ((x0.f.trans (ew.trans gr.f)).trans x2) sr2
  · have ei : i = items.length := by omega
    subst ei
    refine .inl ⟨wk.stop F H ew sr.ex, ?_⟩
    rw [List.drop_length] at p
    exact k1 ρ n σ F H p (x0.f.trans ew) sr

theorem st_for (hc : X.calm = true) (h1 : I X g tg iter ti) (h2 : Gt X g tg is gt) (h3 : Sts X g body tb) (hf : ∀ x, foldedSetIterable iter X.env x = pure x := by intro _; rfl) (hp : PassesOwn (model X.prog X.w) X.A X.env X.xe := by exact PassesOwn.never) : St X g (.For tg iter body [] pos) (dFor ti gt tb) := by
  obtain ⟨w, p1, q1⟩ := h1
  obtain ⟨t2, p2, q2⟩ := h2
  obtain ⟨t3, p3, q3⟩ := h3
  exact ⟨_, ps_for hp hc p1 p2 p3 hf, ss_for q1 q2 q3⟩
/-! ### iterables -/
def iSeq (t : DT) : DI := fun ρ n P => t ρ n fun d n' => ∃ ds, (d = .list ds ∨ d = .tuple ds) ∧ P ds n'
def iLs (t : DT) : DI := fun ρ n P => t ρ n fun d n' => ∃ ds, d = .list ds ∧ P ds n'
def iTp (t : DT) : DI := fun ρ n P => t ρ n fun d n' => ∃ ds, d = .tuple ds ∧ P ds n'
theorem i_list (h : E X g e t) : I X g tg e (iLs t) := by
  obtain ⟨te, p1, q1⟩ := h
  refine ⟨_, pi_list p1, fun σ F H ρ n P R sr p k => q1 σ F H ρ n _ _ sr p fun d n' v F' H' ⟨ds, e, p'⟩ gr sr' dv => ?_⟩
  subst e
  cases dv with
  | lst h1 h2 =>
    rename_i a xs
    refine ⟨a, rfl, ⟨xs, SqL.of (sr'.ex _ _ h1)⟩, k ds n' _ F' H' p' gr sr' ⟨fun i F1 H1 e1 e2 hi => ?_, fun i F1 H1 x H2 e1 e2 hi hy => ?_, fun F1 H1 e1 e2 => ?_⟩⟩
    · have hl := dpa_len h2
      exact ⟨xs, _, SqL.of (e2 _ _ (e1 _ _ h1)), List.getElem?_eq_getElem (by omega)⟩
    · obtain ⟨rfl, hx⟩ := hy
      obtain ⟨d, hd, dx⟩ := dpa_get h2 (hx xs (SqL.of (e2 _ _ (e1 _ _ h1))))
      exact ⟨d, F1, hd, Grow.refl e2, dp_ex e1 _ _ dx⟩
    · exact ⟨xs, SqL.of (e2 _ _ (e1 _ _ h1)), by rw [dpa_len h2]; exact Nat.le_refl _⟩
theorem i_tup (h : E X g e t) : I X g tg e (iTp t) := by
  obtain ⟨te, p1, q1⟩ := h
  refine ⟨_, pi_tup p1, fun σ F H ρ n P R sr p k => q1 σ F H ρ n _ _ sr p fun d n' v F' H' ⟨ds, e, p'⟩ gr sr' dv => ?_⟩
  subst e
  cases dv with
  | tup h1 h2 =>
    rename_i a xs
    refine ⟨a, rfl, ⟨xs, Evl.ex_t sr'.ex h1⟩, k ds n' _ F' H' p' gr sr' ⟨fun i F1 H1 e1 e2 hi => ?_, fun i F1 H1 x H2 e1 e2 hi hy => ?_, fun F1 H1 e1 e2 => ?_⟩⟩
    · have hl := dpa_len h2
      exact ⟨xs, _, Evl.ex_t (e1.trans e2) h1, List.getElem?_eq_getElem (by omega)⟩
    · obtain ⟨rfl, hx⟩ := hy
      obtain ⟨d, hd, dx⟩ := dpa_get h2 (hx xs (Evl.ex_t (e1.trans e2) h1))
      exact ⟨d, F1, hd, Grow.refl e2, dp_ex e1 _ _ dx⟩
    · exact ⟨xs, Evl.ex_t (e1.trans e2) h1, by rw [dpa_len h2]; exact Nat.le_refl _⟩
def rangeD (lo : Int) (n : Nat) : List D := (List.range n).map fun i => .int (lo + (i : Nat))
theorem walks_range {K : Fg} {lo : Int} {n : Nat} {Fw : Hp} : Walks K (Itr lo n) Fw (rangeD lo n) := by
  have hl : (rangeD lo n).length = n := by unfold rangeD; rw [List.length_map, List.length_range]
  refine ⟨fun i F H _ _ hi => ?_, fun i F H x H' _ e2 hi hy => ?_, fun F H _ _ => ?_⟩
  · show i < n
    rw [hl] at hi; exact hi
  · obtain ⟨rfl, rfl⟩ := hy
    rw [hl] at hi
    refine ⟨_, F, ?_, Grow.refl e2, .int (lo + (i : Nat))⟩
    unfold rangeD
    rw [List.getElem?_map, List.getElem?_range hi]
    rfl
  · show n ≤ (rangeD lo n).length
    rw [hl]; exact Nat.le_refl _
def iR1 (u : DA) : DI := fun ρ n P => u ρ n fun ss n' => ∃ j : Int, ss = [.d (.int j)] ∧ -(2 ^ 62) ≤ j ∧ j < 2 ^ 62 ∧ P (rangeD 0 j.toNat) n'
def iR2 (u : DA) : DI := fun ρ n P => u ρ n fun ss n' => ∃ i j : Int, ss = [.d (.int i), .d (.int j)] ∧ (-(2 ^ 62) ≤ i ∧ i < 2 ^ 62 ∧ -(2 ^ 62) ≤ j ∧ j < 2 ^ 62) ∧ P (rangeD i (j - i).toNat) n'
theorem i_range1 {u : DA} {a : Expr} {p : Pos} (hg : Gl X "range") (hm : X.mg "range" = none) (h : A X g [a] u) (hs : starEach [a] X.env = [(false, eval a X.env)] := by rfl) : I X g tg (.Call (.Name "range" p) [a] [] pos) (iR1 u) := by
  obtain ⟨te, p1, q1⟩ := h
  refine ⟨_, pi_range1 hg hm p1 hs, fun σ F H ρ n P R sr p k => q1 σ F H ρ n _ _ sr p fun ss n' vs F' H' ⟨j, e, b1, b2, p'⟩ gr sr' da => ?_⟩
  subst e
  have da := args_data (ds := [.int j]) da
  cases da with
  | cons h1 h2 =>
    cases h1; cases h2
    exact ⟨j, rfl, b1, b2, k _ n' _ F' H' p' gr sr' walks_range⟩
theorem i_range2 {u : DA} {a b : Expr} {p : Pos} (hg : Gl X "range") (hm : X.mg "range" = none) (h : A X g [a, b] u) (hs : starEach [a, b] X.env = [(false, eval a X.env), (false, eval b X.env)] := by rfl) (hs2 : starEach [b] X.env = [(false, eval b X.env)] := by rfl) : I X g tg (.Call (.Name "range" p) [a, b] [] pos) (iR2 u) := by
  obtain ⟨te, p1, q1⟩ := h
  refine ⟨_, pi_range2 hg hm p1 hs hs2, fun σ F H ρ n P R sr p k => q1 σ F H ρ n _ _ sr p fun ss n' vs F' H' ⟨i, j, e, b1, p'⟩ gr sr' da => ?_⟩
  subst e
  have da := args_data (ds := [.int i, .int j]) da
  cases da with
  | cons h1 h2 =>
    cases h1
    cases h2 with
    | cons h3 h4 =>
      cases h3; cases h4
      exact ⟨i, j, rfl, b1, k _ n' _ F' H' p' gr sr' walks_range⟩
/-- the signs of a text -/
def signsD (x : Str) : List D := x.cps.toList.map fun c => .str ⟨#[c]⟩
def iSt (t : DT) : DI := fun ρ n P => t ρ n fun d n' => ∃ x, d = .str x ∧ P (signsD x) n'
theorem i_str (h : E X g e t) : I X g tg e (iSt t) := by
  obtain ⟨te, p1, q1⟩ := h
  refine ⟨_, pi_str p1, fun σ F H ρ n P R sr p k => q1 σ F H ρ n _ _ sr p fun d n' v F' H' ⟨x, e, p'⟩ gr sr' dv => ?_⟩
  subst e
  cases dv
  have hl : (signsD x).length = x.cps.size := by unfold signsD; simp
  refine ⟨x, rfl, k _ n' _ F' H' p' gr sr' ⟨fun i F1 H1 _ _ hi => ?_, fun i F1 H1 y H2 _ e2 hi hy => ?_, fun F1 H1 _ _ => ?_⟩⟩
  · show i < x.cps.size
    rw [hl] at hi; exact hi
  · obtain ⟨rfl, c, hc, rfl⟩ := hy
    refine ⟨_, F1, ?_, Grow.refl e2, .str ⟨#[c]⟩⟩
    unfold signsD
    rw [List.getElem?_map, Array.getElem?_toList, hc]
    rfl
  · show x.cps.size ≤ _
    rw [hl]; exact Nat.le_refl _
/-- enumerate of a list -/
def enumD (ds : List D) : List D := ds.mapIdx fun i d => .tuple [.int (i : Nat), d]
/-! ### while -/
def dWhile (c : DB) (tb : DS) : DS := fun P ρ n => ∃ Wv : Nat → Sl → Nat → Prop, (∃ m, Wv m ρ n) ∧ ∀ m ρ n, Wv m ρ n → c ρ n fun b n1 =>
  if b = true then tb { nx := fun ρ' n' => ∃ m', m' < m ∧ Wv m' ρ' n', rt := P.rt, bk := P.nx, ct := fun ρ' n' => ∃ m', m' < m ∧ Wv m' ρ' n' } ρ n1 else P.nx ρ n1
theorem st_while {c : Expr} {cb : DB} (h1 : B X g c cb) (h2 : Sts X g body tb) (hp : PassesOwn (model X.prog X.w) X.A X.env X.xe := by exact PassesOwn.never) : St X g (.While c body [] pos) (dWhile cb tb) := by
  obtain ⟨t1, p1, q1⟩ := h1
  obtain ⟨t2, p2, q2⟩ := h2
  refine ⟨_, ps_while hp p1 p2, fun σ F0 H ρ n P E sr ⟨Wv, w0, p⟩ k1 k2 k3 k4 => ?_⟩
  obtain ⟨m0, w0⟩ := w0
  refine ⟨fun m σ H => ∃ F ρ n, Ex F0 F ∧ SR X.K g F H σ ρ n ∧ Wv m ρ n, ⟨m0, F0, ρ, n, Evl.Ex.refl _, sr, w0⟩, fun m σ H ⟨F, ρ, n, ex, sr, w⟩ => ?_⟩
  refine q1 σ F H ρ n _ _ sr (p m ρ n w) fun b n1 F1 H1 p1 e1 sr1 => ?_
  cases b with
  | true =>
    rw [if_pos rfl] at p1 ⊢
    refine ⟨fun σ' H' => ∃ m', m' < m ∧ ∃ F ρ n, Ex F0 F ∧ SR X.K g F H' σ' ρ n ∧ Wv m' ρ n, fun σ' H' h => h, ?_⟩
    refine q2 σ F1 H1 ρ n1 _ _ sr1 p1 (fun ρ2 n2 σ2 F2 H2 ⟨m', hm, w'⟩ x2 sr2 => ⟨m', hm, F2, ρ2, n2, (ex.trans e1.f).trans x2, sr2, w'⟩) k2 (fun ρ2 n2 σ2 F2 H2 p2 x2 sr2 => k1 ρ2 n2 σ2 F2 H2 p2 ((ex.trans e1.f).trans x2) sr2)
      (fun ρ2 n2 σ2 F2 H2 ⟨m', hm, w'⟩ x2 sr2 => ⟨m', hm, F2, ρ2, n2, (ex.trans e1.f).trans x2, sr2, w'⟩)
  | false =>
    rw [if_neg Bool.false_ne_true] at p1 ⊢
    exact k1 ρ n1 σ F1 H1 p1 (ex.trans e1.f) sr1

/-! ### comprehensions -/
def wipeD (ρ : Sl) : List Nat → Sl
  | [] => ρ
  | v :: vs => (wipeD ρ vs).set v none
theorem SR.wipe {K : Fg} {F H : Hp} {σ : L2.St} {ρ : Sl} {n : Nat} (sr : SR K g F H σ ρ n) : ∀ vs : List Nat, SR K g F H (L2.wipe σ vs) (wipeD ρ vs) n
  | [] => sr
  | v :: vs => (sr.wipe vs).forget
theorem wipe_get {σ : L2.St} : ∀ {vs : List Nat} {j : Nat}, j ∉ vs → (L2.wipe σ vs)[j]? = σ[j]?
  | [], _, _ => rfl
  | v :: vs, j, h => by
    show ((L2.wipe σ vs).set v none)[j]? = _
    rw [List.getElem?_set_ne (fun z => h (by simp [z]))]
    exact wipe_get fun z => h (List.mem_cons_of_mem _ z)
theorem wipe_in {σ : L2.St} : ∀ {vs : List Nat} {j : Nat}, j ∈ vs → (L2.wipe σ vs)[j]? = if j < σ.length then some none else none
  | v :: vs, j, h => by
    show ((L2.wipe σ vs).set v none)[j]? = _
    by_cases e : v = j
    · subst e
      rw [List.getElem?_set_self']
      by_cases hl : v < σ.length
      · have hl2 : v < (L2.wipe σ vs).length := by rw [wipe_length]; exact hl
        rw [if_pos hl, List.getElem?_eq_getElem hl2]; rfl
      · have hl2 : ¬ v < (L2.wipe σ vs).length := by rw [wipe_length]; exact hl
        rw [if_neg hl, List.getElem?_eq_none (by omega)]; rfl
    · rw [List.getElem?_set_ne e]
      exact wipe_in (by
        rcases List.mem_cons.mp h with z | z
        · exact absurd z.symm e
        · exact z)
theorem wipe_but {σ σ' : L2.St} {ρ ρ' : Sl} {is vs : List Nat} (h : But is (L2.wipe σ vs) σ' ρ ρ') (hs : ∀ i ∈ is, i ∈ vs) : L2.wipe σ' vs = L2.wipe σ vs := by
  apply List.ext_getElem?
  intro j
  have hl : σ'.length = σ.length := by rw [h.len, wipe_length]
  by_cases hj : j ∈ vs
  · rw [wipe_in hj, wipe_in hj, hl]
  · rw [wipe_get hj, h.get j fun z => hj (hs j z)]
theorem wipeD_own {σ : L2.St} {ρ : Sl} : ∀ {vs : List Nat} {j : Nat} {ds : List D}, (wipeD ρ vs)[j]? = some (some (.o ds)) → ρ[j]? = some (some (.o ds)) ∧ (L2.wipe σ vs)[j]? = σ[j]?
  | [], _, _, h => ⟨h, rfl⟩
  | v :: vs, j, ds, h => by
    have h' : ((wipeD ρ vs).set v none)[j]? = some (some (.o ds)) := h
    by_cases c : v = j
    · subst c
      rw [List.getElem?_set_self'] at h'
      cases q : (wipeD ρ vs)[v]? with
      | none => rw [q] at h'; cases h'
      | some o => rw [q] at h'; cases h'
    · rw [List.getElem?_set_ne c] at h'
      obtain ⟨h1, h2⟩ := wipeD_own (σ := σ) h'
      refine ⟨h1, ?_⟩
      show ((L2.wipe σ vs).set v none)[j]? = _
      rw [List.getElem?_set_ne c]
      exact h2
/-- one reading for all blocks -/
theorem fam_e {ι : Type} {Xf : ι → Cx} {K : Fg} (hK : ∀ i, (Xf i).K = K) (h : ∀ i, E (Xf i) g e t) : ∃ te, (∀ i, PE (Xf i) e te) ∧ SE K g te t := by
  have h' : ∀ i, ∃ te, PE (Xf i) e te ∧ SE K g te t := fun i => by
    obtain ⟨te, a, b⟩ := h i
    exact ⟨te, a, hK i ▸ b⟩
  refine ⟨fun σ H Q => ∀ i, Classical.choose (h' i) σ H Q, fun i => ?_, fun σ F H ρ n P Q sr p k i => ?_⟩
  · exact ⟨fun pins s σ H Q I hq => (Classical.choose_spec (h' i)).1.run pins s σ H Q I (hq i)⟩
  · exact (Classical.choose_spec (h' i)).2 σ F H ρ n P Q sr p k
theorem fam_b {ι : Type} {Xf : ι → Cx} {K : Fg} {u : DB} (hK : ∀ i, (Xf i).K = K) (h : ∀ i, B (Xf i) g e u) : ∃ te, (∀ i, PT (Xf i) e te) ∧ SB K g te u := by
  have h' : ∀ i, ∃ te, PT (Xf i) e te ∧ SB K g te u := fun i => by
    obtain ⟨te, a, b⟩ := h i
    exact ⟨te, a, hK i ▸ b⟩
  refine ⟨fun σ H Q => ∀ i, Classical.choose (h' i) σ H Q, fun i => ?_, fun σ F H ρ n P Q sr p k i => ?_⟩
  · exact ⟨fun pins s σ H Q I hq => (Classical.choose_spec (h' i)).1.run pins s σ H Q I (hq i)⟩
  · exact (Classical.choose_spec (h' i)).2 σ F H ρ n P Q sr p k
theorem fam_g {ι : Type} {Xf : ι → Cx} {K : Fg} (hK : ∀ i, (Xf i).K = K) (h : ∀ i, Gt (Xf i) g e is gt) : ∃ te, (∀ i, PG (Xf i) e te) ∧ SG K g is te gt := by
  have h' : ∀ i, ∃ te, PG (Xf i) e te ∧ SG K g is te gt := fun i => by
    obtain ⟨te, a, b⟩ := h i
    exact ⟨te, a, hK i ▸ b⟩
  refine ⟨fun v σ H Q => ∀ i, Classical.choose (h' i) v σ H Q, fun i => ?_, fun v σ F H d ρ n P Q sr dv p k i => ?_⟩
  · exact ⟨fun pins s σ H v u Q I r hq => (Classical.choose_spec (h' i)).1.run pins s σ H v u Q I r (hq i)⟩
  · exact (Classical.choose_spec (h' i)).2 v σ F H d ρ n P Q sr dv p k
theorem fam_i {ι : Type} {Xf : ι → Cx} {K : Fg} (hK : ∀ i, (Xf i).K = K) (h : ∀ i, I (Xf i) g tg e ti) : ∃ te, (∀ i, PI (Xf i) tg e te) ∧ SI K g te ti := by
  have h' : ∀ i, ∃ te, PI (Xf i) tg e te ∧ SI K g te ti := fun i => by
    obtain ⟨te, a, b⟩ := h i
    exact ⟨te, a, hK i ▸ b⟩
  refine ⟨fun σ H Q => ∀ i, Classical.choose (h' i) σ H Q, fun i => ?_, fun σ F H ρ n P Q sr p k i => ?_⟩
  · exact ⟨fun pins s σ H Q I hq => (Classical.choose_spec (h' i)).1.run pins s σ H Q I (hq i)⟩
  · exact (Classical.choose_spec (h' i)).2 σ F H ρ n P Q sr p k
abbrev BlkI := Shared × Hp × Addr × List (Str × Addr) × List Addr
abbrev blkX (X : Cx) (scope : Scope) (i : BlkI) : Cx := X.blk i.1 i.2.1 scope (compEnvC scope i.2.2.2.1 i.2.2.1 X.env) i.2.2.2.2
def bYes : DB := fun _ n P => P true n
def dCompL (vs : List Nat) (gt : DGt) (tt : DB) (te : DT) (ρ : Sl) : List D → List D → Nat → (List D → Nat → Prop) → Prop
  | [], acc, n, P => P acc n
  | d :: r, acc, n, P => gt d (wipeD ρ vs) n fun ρ1 n1 => tt ρ1 n1 fun b n2 => if b = true then te ρ1 n2 fun y n3 => acc.length < 100000 ∧ dCompL vs gt tt te ρ r (acc ++ [y]) n3 P else dCompL vs gt tt te ρ r acc n2 P
def dComp (ti : DI) (gt : DGt) (tt : DB) (te : DT) (vs : List Nat) : DL_ := fun ρ n P => ti ρ n fun items n' => dCompL vs gt tt te ρ items [] n' P
theorem sl_comp {K : Fg} {wi : TI} {tgt : TG} {tt : TT} {te : TE} {u : DB} {vs : List Nat} (h1 : SI K g wi ti) (h2 : SG K g is tgt gt) (h3 : SB K g tt u) (h4 : SE K g te t) (hs : ∀ i ∈ is, i ∈ vs) : SL K g (tLc wi tgt tt te vs) (dComp ti gt u t vs) := by
  intro σ F H ρ n P Q sr p k
  refine h1 σ F H ρ n _ _ sr p fun items n' J Fw Hw p' gr0 sr' wk => ?_
  intro D hD
  have fD : Free g Fw σ ρ D := Free.of sr' hD
  have hD0 : H D = none := gr0.dm D hD
  refine ⟨fun i m H2 => i + m = items.length ∧ ∃ F2 n2 xs acc, Ex Fw F2 ∧ Grow g.m F H F2 H2 ∧ SR K g F2 H2 σ ρ n2 ∧ Free g F2 σ ρ D ∧ H2 D = some (.lst xs) ∧ DpAll K F2 xs acc ∧ xs.length ≤ 100000 ∧ dCompL vs gt u t ρ (items.drop i) acc n2 P, ⟨items.length, by omega, Fw, n', [], [], Evl.Ex.refl _, gr0.trans (Grow.raw sr'.ex hD), sr'.grow (Grow.raw sr'.ex hD), fD, upd_same, .nil, by simp, by simpa using p'⟩, fun i m H2 ⟨em, F2, n2, xs, acc, ew, grF, sr2, f2, hDx, da, hl, p2⟩ => ?_⟩
  by_cases hi : i < items.length
  · refine .inr ⟨wk.go i F2 H2 ew sr2.ex hi, fun H' => ∃ F2 n2 xs acc, Ex Fw F2 ∧ Grow g.m F H F2 H' ∧ SR K g F2 H' σ ρ n2 ∧ Free g F2 σ ρ D ∧ H' D = some (.lst xs) ∧ DpAll K F2 xs acc ∧ xs.length ≤ 100000 ∧ dCompL vs gt u t ρ (items.drop (i + 1)) acc n2 P, fun H' hN => ⟨m - 1, by omega, by omega, hN⟩, fun x H3 hy => ?_⟩
    obtain ⟨d, F3, hd, gr3, dx⟩ := wk.yld i F2 H2 x H3 ew sr2.ex hi hy
    rw [drop_at hd] at p2
    have sr3 := sr2.grow gr3
    refine h2 x (L2.wipe σ vs) F3 H3 d (wipeD ρ vs) n2 _ _ (sr3.wipe vs) dx p2 fun ρ1 σ1 p3 sr4 bt => ?_
    refine ⟨wipe_but bt hs, ?_⟩
    refine h3 σ1 F3 H3 ρ1 n2 _ _ sr4 p3 fun b n3 F5 H5 p5 gr5 sr5 => ?_
    have hD3 : H3 D = some (.lst xs) := gr3.hx _ _ hDx
    have nm : some D ≠ g.m := fun z => by
      obtain ⟨_, _, _, _, _, q, _⟩ := sr2.mc D z.symm
      rw [q] at hDx; cases hDx
    have free : ∀ {F6 H6 : Hp}, Grow g.m F3 H3 F6 H6 → Free g F6 σ ρ D := fun {F6 H6} gr6 => by
      refine ⟨?_, f2.b, f2.no⟩
      cases z : F6 D with
      | none => rfl
      | some o =>
        rcases gr6.fr D o z with y | y
        · rcases gr3.fr D o y with w | w
          · rw [f2.f] at w; cases w
          · rw [hDx] at w; cases w
        · rw [hD3] at y; cases y
    have hD5 : H5 D = some (.lst xs) := gr5.h D _ nm hD3
    cases b with
    | true =>
      rw [if_pos rfl] at p5 ⊢
      refine h4 σ1 F5 H5 ρ1 n3 _ _ sr5 p5 fun y n4 v F6 H6 ⟨hacc, p6⟩ gr6 sr6 dv => ?_
      have hD6 : H6 D = some (.lst xs) := gr6.h D _ nm hD5
      have g6 := gr5.trans gr6
      have srA : SR K g F6 H6 σ ρ n4 := sr3.growM g6 sr6.mc
      have fA := free g6
      have la := dpa_len da
      refine ⟨xs, hD6, Evl.sz_lt (by omega), F6, n4, xs ++ [v], acc ++ [y], (ew.trans gr3.f).trans g6.f, ?_, srA.updFree hD6 fA.f fA.b fA.no, fA, upd_same, dpa_app (dpa_ex (gr3.f.trans g6.f) _ _ da) (.cons dv .nil), by rw [List.length_append, List.length_singleton]; omega, p6⟩
      have g7 : Grow g.m F H F6 H6 := (grF.trans gr3.any).trans g6
      refine ⟨g7.f, fun a o h => ?_, fun a o ne h => ?_, fun a h => ?_, g7.fr⟩
      · rw [upd_ne (fun z => by rw [z, fA.f] at h; cases h)]; exact srA.ex a o h
      · rw [upd_ne (fun z => by rw [z, hD0] at h; cases h)]; exact g7.h a o ne h
      · by_cases c : a = D
        · subst c; rw [upd_same] at h; cases h
        · rw [upd_ne c] at h; exact g7.dm a h
    | false =>
      rw [if_neg Bool.false_ne_true] at p5 ⊢
      exact ⟨F5, n3, xs, acc, (ew.trans gr3.f).trans gr5.f, (grF.trans gr3.any).trans gr5, sr3.growM gr5 sr5.mc, free gr5, hD5, dpa_ex (gr3.f.trans gr5.f) _ _ da, hl, p5⟩
  · have ei : i = items.length := by omega
    subst ei
    refine .inl ⟨wk.stop F2 H2 ew sr2.ex, ?_⟩
    rw [List.drop_length] at p2
    exact k acc n2 D xs F2 H2 p2 grF sr2 f2 hD0 hDx da

theorem l_comp {elt : Expr} {scope : Scope} (own : List (Str × Nat)) (hc : X.calm = true) (hN : X.N.Nodup) (h1 : I X g tg iter ti) (ok : blkC X.N X.env.scope scope own = true) (h2 : ∀ i : BlkI, Gt (blkX X scope i) g tg is gt) (h4 : ∀ i : BlkI, E (blkX X scope i) g elt t)
    (hs : is.all (fun i => (own.map (·.2)).contains i) = true := by rfl) (hf : ∀ x, foldedSetIterable iter X.env x = pure x := by intro _; rfl) : Ls X g (.ListComp elt [⟨tg, iter, [], 0⟩] scope pos) (dComp ti gt bYes t (own.map (·.2))) := by
  obtain ⟨w, p1, q1⟩ := h1
  obtain ⟨t2, p2, q2⟩ := fam_g (Xf := blkX X scope) (K := X.K) (fun _ => rfl) h2
  obtain ⟨t4, p4, q4⟩ := fam_e (Xf := blkX X scope) (K := X.K) (fun _ => rfl) h4
  refine ⟨_, pe_lc hc hN p1 (blkOk_by ok) (fun s H C cl fp => p2 (s, H, C, cl, fp)) (fun _ _ _ _ _ => pts_nil) (fun s H C cl fp => p4 (s, H, C, cl, fp)) hf, sl_comp q1 q2 (fun σ F H ρ n P Q sr p k => k true n F H p (Grow.refl sr.ex) sr) q4 fun i hi => ?_⟩
  have := List.all_eq_true.mp hs i hi
  simpa using this
theorem l_compIf {elt cnd : Expr} {u : DB} {scope : Scope} (own : List (Str × Nat)) (hc : X.calm = true) (hN : X.N.Nodup) (h1 : I X g tg iter ti) (ok : blkC X.N X.env.scope scope own = true) (h2 : ∀ i : BlkI, Gt (blkX X scope i) g tg is gt) (h3 : ∀ i : BlkI, B (blkX X scope i) g cnd u) (h4 : ∀ i : BlkI, E (blkX X scope i) g elt t)
    (hs : is.all (fun i => (own.map (·.2)).contains i) = true := by rfl) (hf : ∀ x, foldedSetIterable iter X.env x = pure x := by intro _; rfl) : Ls X g (.ListComp elt [⟨tg, iter, [cnd], 0⟩] scope pos) (dComp ti gt u t (own.map (·.2))) := by
  obtain ⟨w, p1, q1⟩ := h1
  obtain ⟨t2, p2, q2⟩ := fam_g (Xf := blkX X scope) (K := X.K) (fun _ => rfl) h2
  obtain ⟨t3, p3, q3⟩ := fam_b (Xf := blkX X scope) (K := X.K) (fun _ => rfl) h3
  obtain ⟨t4, p4, q4⟩ := fam_e (Xf := blkX X scope) (K := X.K) (fun _ => rfl) h4
  refine ⟨_, pe_lc hc hN p1 (blkOk_by ok) (fun s H C cl fp => p2 (s, H, C, cl, fp)) (fun s H C cl fp => pts_one (p3 (s, H, C, cl, fp))) (fun s H C cl fp => p4 (s, H, C, cl, fp)) hf, sl_comp q1 q2 q3 q4 fun i hi => ?_⟩
  have := List.all_eq_true.mp hs i hi
  simpa using this
/-- y = [..] -/
def dSetL (i : Nat) (u : DL_) : DS := fun P ρ n => dFrz u ρ n fun d n' => P.nx (ρ.set i (some (.d d))) n'
theorem SL.frz {K : Fg} {te : TE} {u : DL_} (h : SL K g te u) : SE K g te (dFrz u) := fun σ F H ρ n P Q sr p k => h σ F H ρ n _ _ sr p fun ds n1 q xs F1 H1 p1 e1 sr1 fr hn hq da => by
  have ef : Ex F1 (upd F1 q (.lst xs)) := Evl.Ex.new fr.f
  exact k _ n1 _ _ H1 p1 ⟨e1.f.trans ef, (sr1.freeze fr hq).ex, e1.h, e1.dm, fun c o h => by
    by_cases z : c = q
    · subst z; exact .inr hn
    · rw [upd_ne z] at h; exact e1.fr c o h⟩ (sr1.freeze fr hq) (.lst upd_same (dpa_ex ef _ _ da))
theorem ss_setL {K : Fg} {te : TE} {i : Nat} {u : DL_} (h : SL K g te u) : SS K g (tAsg te (gName i)) (dSetL i u) :=
  fun σ F H ρ n P E sr p k1 k2 k3 k4 => h.frz σ F H ρ n _ _ sr p fun d n' v F' H' p' x sr' dv => k1 _ n' _ F' H' p' x.f (sr'.setD dv)
theorem st_setComp (i : Nat) {y : Str} {py : Pos} {spos : Pos} {elt : Expr} {scope : Scope} (own : List (Str × Nat)) (hc : X.calm = true) (hN : X.N.Nodup) (sw : swapsWith (.ListComp elt [⟨tg, iter, [], 0⟩] scope pos) (some (.Name y py)) spos.line X.env = pure true) (h1 : I X g tg iter ti) (ok : blkC X.N X.env.scope scope own = true) (h2 : ∀ i : BlkI, Gt (blkX X scope i) g tg is gt) (h4 : ∀ i : BlkI, E (blkX X scope i) g elt t)
    (hi : X.N[i]? = some y := by rfl) (hy : X.env.scope.names.lookup y = some .local := by rfl) (hs : is.all (fun i => (own.map (·.2)).contains i) = true := by rfl) (hf : ∀ x, foldedSetIterable iter X.env x = pure x := by intro _; rfl) :
    St X g (.Assign [.Name y py] (.ListComp elt [⟨tg, iter, [], 0⟩] scope pos) spos) (dSetL i (dComp ti gt bYes t (own.map (·.2)))) := by
  obtain ⟨w, p1, q1⟩ := h1
  obtain ⟨t2, p2, q2⟩ := fam_g (Xf := blkX X scope) (K := X.K) (fun _ => rfl) h2
  obtain ⟨t4, p4, q4⟩ := fam_e (Xf := blkX X scope) (K := X.K) (fun _ => rfl) h4
  refine ⟨_, ps_setLc hc hN hi hy sw p1 (blkOk_by ok) (fun s H C cl fp => p2 (s, H, C, cl, fp)) (fun _ _ _ _ _ => pts_nil) (fun s H C cl fp => p4 (s, H, C, cl, fp)) hf, ss_setL (sl_comp q1 q2 (fun σ F H ρ n P Q sr p k => k true n F H p (Grow.refl sr.ex) sr) q4 fun i hi => ?_)⟩
  have := List.all_eq_true.mp hs i hi
  simpa using this
theorem st_setCompIf (i : Nat) {y : Str} {py : Pos} {spos : Pos} {elt cnd : Expr} {u : DB} {scope : Scope} (own : List (Str × Nat)) (hc : X.calm = true) (hN : X.N.Nodup) (sw : swapsWith (.ListComp elt [⟨tg, iter, [cnd], 0⟩] scope pos) (some (.Name y py)) spos.line X.env = pure true) (h1 : I X g tg iter ti) (ok : blkC X.N X.env.scope scope own = true) (h2 : ∀ i : BlkI, Gt (blkX X scope i) g tg is gt) (h3 : ∀ i : BlkI, B (blkX X scope i) g cnd u) (h4 : ∀ i : BlkI, E (blkX X scope i) g elt t)
    (hi : X.N[i]? = some y := by rfl) (hy : X.env.scope.names.lookup y = some .local := by rfl) (hs : is.all (fun i => (own.map (·.2)).contains i) = true := by rfl) (hf : ∀ x, foldedSetIterable iter X.env x = pure x := by intro _; rfl) :
    St X g (.Assign [.Name y py] (.ListComp elt [⟨tg, iter, [cnd], 0⟩] scope pos) spos) (dSetL i (dComp ti gt u t (own.map (·.2)))) := by
  obtain ⟨w, p1, q1⟩ := h1
  obtain ⟨t2, p2, q2⟩ := fam_g (Xf := blkX X scope) (K := X.K) (fun _ => rfl) h2
  obtain ⟨t3, p3, q3⟩ := fam_b (Xf := blkX X scope) (K := X.K) (fun _ => rfl) h3
  obtain ⟨t4, p4, q4⟩ := fam_e (Xf := blkX X scope) (K := X.K) (fun _ => rfl) h4
  refine ⟨_, ps_setLc hc hN hi hy sw p1 (blkOk_by ok) (fun s H C cl fp => p2 (s, H, C, cl, fp)) (fun s H C cl fp => pts_one (p3 (s, H, C, cl, fp))) (fun s H C cl fp => p4 (s, H, C, cl, fp)) hf, ss_setL (sl_comp q1 q2 q3 q4 fun i hi => ?_)⟩
  have := List.all_eq_true.mp hs i hi
  simpa using this
end
/-! ### a def keeps its promise -/
def startD (N : List Str) (ss : List S) : Sl := ss.map some ++ List.replicate (N.length - ss.length) none
section
variable {P : Program} {w : World} {K : Fg} {mg : Str → Option Value} {base : Heap}
theorem args_get {g : G} {F : Hp} : ∀ {vs : List V} {ss : List S} {i : Nat} {s : S}, ArgsOk K g F vs ss → ss[i]? = some s → ∃ v, vs[i]? = some v ∧ SlotOk K g F F v s ∧ argS s = true
  | [], [], _, _, _, e => by simp at e
  | v :: vs, s :: ss, 0, _, ⟨a, b, c⟩, e => by simp at e; subst e; exact ⟨v, rfl, a, b⟩
  | v :: vs, s :: ss, i + 1, _, ⟨a, b, c⟩, e => by
    obtain ⟨v', h1, h2⟩ := args_get (i := i) c (by simpa using e)
    exact ⟨v', by simpa using h1, h2⟩
theorem fn_ok {x qual : Str} {st : Stmt} {f : Addr} {fd : FuncData} {N ps : List Str} {k : Nat} {c : Ct} {t : DS} (Fn : Fun K x qual st f fd) (S : FnScope N ps (defScope st)) (hlen : ∀ x ss n, c.pre x ss n → ss.length = ps.length)
    (hbody : ∀ (cdv : Value) (A : Around) (outer : List Env) (s : Shared) (H : Hp) (E : XK) (g : G), Room k (A.deeper (PyProof.Rows.envOfC qual (defScope st) s.heap.objs.size f cdv)) →
      Sts (cxOf CX0 P w K mg base N qual (defScope st) f cdv A outer s H E).nox g (defBody st) t)
    (ht : ∀ x ss n, c.pre x ss n → t { nx := fun _ n' => c.post x n .none n', rt := fun d n' => c.post x n d n' } (startD N ss) n) : FnOk P w K mg base CX0 (k + 1) f fd ps (spD K c) := by
  refine Fn.ok S (fun vs H Q E h => ?_) (fun cdv A outer s H vs Q E hr h => ?_)
  · obtain ⟨g, F, n, ss, _, _, _, _, ao, ⟨y, hp, _⟩, _⟩ := h
    rw [args_len ao]
    exact hlen y ss n hp
  · obtain ⟨g, F, n, ss, rfl, rfl, ex, mc, ao, ⟨y, hp, hq, _⟩, _⟩ := h
    obtain ⟨te, p1, q1⟩ := hbody cdv A outer s g.B E g hr
    refine ⟨te, p1, ?_⟩
    have hl : vs.length = ss.length := args_len ao
    have sr : SR K g g.F0 g.B (start N vs) (startD N ss) n := by
      have key : ∀ (i : Nat) (z : DL.S), (startD N ss)[i]? = some (some z) → ss[i]? = some z := fun i z e => by
        unfold startD at e
        by_cases h : i < ss.length
        · rw [List.getElem?_append_left (by simpa using h), List.getElem?_map] at e
          cases q : ss[i]? with
          | none => rw [q] at e; cases e
          | some y => rw [q] at e; cases e; rfl
        · rw [List.getElem?_append_right (by simpa using h), List.getElem?_replicate] at e
          split at e <;> cases e
      refine ⟨Grow.refl ex, mc, fun i z e => ?_, fun i j l ds es e1 _ _ _ => ?_, ?_⟩
      · obtain ⟨v, h1, h2, no⟩ := args_get ao (key i z e)
        refine ⟨v, ?_, ?_⟩
        · unfold L2.start
          have hi : i < vs.length := (List.getElem?_eq_some_iff.mp h1).1
          rw [List.getElem?_append_left (by simpa using hi), List.getElem?_map, h1]
          rfl
        · cases z with
          | d d => exact h2
          | m => exact h2
          | r u => exact h2
          | o ds => cases no
          | s k => cases no
      · obtain ⟨_, _, _, no⟩ := args_get ao (key i _ e1)
        cases no
      · unfold startD L2.start
        simp [hl]
    refine q1 _ g.F0 g.B _ n _ _ sr (ht y ss n hp) (fun ρ' n' σ' F' H' p' x' sr' => ?_) (fun d n' σ' ρ' v F' H' p' sr' dv => ?_) (fun _ _ _ _ _ z => z.elim) (fun _ _ _ _ _ z => z.elim)
    · exact hq _ _ p' _ F' H' sr'.gr sr'.mc .non
    · exact hq _ _ p' _ F' H' sr'.gr sr'.mc dv
theorem fn_ok' {x qual : Str} {st : Stmt} {f : Addr} {fd : FuncData} {N ps : List Str} {k : Nat} {c : Ct} (Fn : Fun K x qual st f fd) (S : FnScope N ps (defScope st)) (hlen : ∀ x ss n, c.pre x ss n → ss.length = ps.length)
    (h : ∃ t, (∀ (cdv : Value) (A : Around) (outer : List Env) (s : Shared) (H : Hp) (E : XK) (g : G), Room k (A.deeper (PyProof.Rows.envOfC qual (defScope st) s.heap.objs.size f cdv)) →
      Sts (cxOf CX0 P w K mg base N qual (defScope st) f cdv A outer s H E).nox g (defBody st) t) ∧
      ∀ x ss n, c.pre x ss n → t { nx := fun _ n' => c.post x n .none n', rt := fun d n' => c.post x n d n' } (startD N ss) n) : FnOk P w K mg base CX0 (k + 1) f fd ps (spD K c) := by
  obtain ⟨t, h1, h2⟩ := h
  exact fn_ok Fn S hlen h1 h2
end
end DL

namespace DL
open PySem L2
section
variable {X : Cx} {g : G} {a b c e : Expr} {es : List Expr} {ta tb tc t : DT} {pos : Pos} {u : DA} {K : Fg}
/-! ### numbers -/
theorem opd_I0 {f : Int → Int → Int} : OpD K (rI0 fun i j => .int (f i j)) (fun x y => match x, y with | .int i, .int j => some (.int (f i j)) | _, _ => none) := by
  intro F H vx vy x y d Q ex dx dy e k
  cases dx <;> cases dy <;> cases e
  rename_i i j
  exact ⟨i, j, rfl, rfl, k _ F H (Grow.refl ex) (.int _)⟩
theorem opd_IB {f : Int → Int → Bool} : OpD K (rI0 fun i j => .bl (f i j)) (fun x y => match x, y with | .int i, .int j => some (.bool (f i j)) | _, _ => none) := by
  intro F H vx vy x y d Q ex dx dy e k
  cases dx <;> cases dy <;> cases e
  rename_i i j
  exact ⟨i, j, rfl, rfl, k _ F H (Grow.refl ex) (.bl _)⟩
theorem opd_I {C : Int → Int → Prop} {p : Int → Int → Bool} {f : Int → Int → Int} (hp : ∀ i j, p i j = true → C i j) : OpD K (rI C fun i j => .int (f i j)) (fun x y => match x, y with | .int i, .int j => if p i j then some (.int (f i j)) else none | _, _ => none) := by
  intro F H vx vy x y d Q ex dx dy e k
  cases dx <;> cases dy <;> try (cases e; done)
  rename_i i j
  dsimp only at e
  split at e
  · rename_i hc
    cases e
    exact ⟨i, j, rfl, rfl, hp i j hc, k _ F H (Grow.refl ex) (.int _)⟩
  · cases e
def subD : D → D → Option D := fun x y => match x, y with | .int i, .int j => some (.int (i - j)) | _, _ => none
def mulOk (i j : Int) : Bool := (decide (-(2 ^ 64) < i) && decide (i < 2 ^ 64)) || (decide (-(2 ^ 64) < j) && decide (j < 2 ^ 64))
def mulD : D → D → Option D := fun x y => match x, y with | .int i, .int j => if mulOk i j then some (.int (i * j)) else none | _, _ => none
def modD : D → D → Option D := fun x y => match x, y with | .int i, .int j => if decide (0 < j) then some (.int (i % j)) else none | _, _ => none
def fdivOk (i j : Int) : Bool := decide (0 < j) && decide (j < 1073741824)
def fdivD : D → D → Option D := fun x y => match x, y with | .int i, .int j => if fdivOk i j then some (.int (i / j)) else none | _, _ => none
def powOk (i j : Int) : Bool := decide (0 ≤ j) && decide (j ≤ 1000000) && decide (i.natAbs < 2 ^ 64)
def powD : D → D → Option D := fun x y => match x, y with | .int i, .int j => if powOk i j then some (.int (i ^ j.toNat)) else none | _, _ => none
def ltD : D → D → Option D := fun x y => match x, y with | .int i, .int j => some (.bool (decide (i < j))) | _, _ => none
def leD : D → D → Option D := fun x y => match x, y with | .int i, .int j => some (.bool (decide (i ≤ j))) | _, _ => none
def gtD : D → D → Option D := fun x y => match x, y with | .int i, .int j => some (.bool (decide (j < i))) | _, _ => none
def geD : D → D → Option D := fun x y => match x, y with | .int i, .int j => some (.bool (decide (j ≤ i))) | _, _ => none
theorem e_sub (ha : E X g a ta) (hb : E X g b tb) : E X g (.BinOp a .Sub b pos) (dBin subD ta tb) := e_op op_sub opd_I0 ha hb
theorem e_mul (ha : E X g a ta) (hb : E X g b tb) : E X g (.BinOp a .Mult b pos) (dBin mulD ta tb) :=
  e_op op_mul (opd_I (p := mulOk) fun i j h => by
    unfold mulOk at h
    unfold CMul
    simpa using h) ha hb
theorem e_mod (ha : E X g a ta) (hb : E X g b tb) : E X g (.BinOp a .Mod b pos) (dBin modD ta tb) := e_op op_mod (opd_I (p := fun _ j => decide (0 < j)) fun i j h => by simpa using h) ha hb
theorem e_fdiv (ha : E X g a ta) (hb : E X g b tb) : E X g (.BinOp a .FloorDiv b pos) (dBin fdivD ta tb) := e_op op_fdiv (opd_I (p := fdivOk) fun i j h => by
    unfold fdivOk at h
    unfold CDiv
    simpa using h) ha hb
theorem e_pow (ha : E X g a ta) (hb : E X g b tb) : E X g (.BinOp a .Pow b pos) (dBin powD ta tb) := e_op op_pow (opd_I (p := powOk) fun i j h => by
    unfold powOk at h
    unfold CPow
    simpa [and_assoc] using h) ha hb
theorem und_neg : UnD K (rU fun i => .int (-i)) (fun x => match x with | .int i => some (.int (-i)) | _ => none) := by
  intro F H vx x d Q ex dx e k
  cases dx <;> cases e
  rename_i i
  exact ⟨i, rfl, k _ F H (Grow.refl ex) (.int _)⟩
def negD : D → Option D := fun x => match x with | .int i => some (.int (-i)) | _ => none
theorem e_neg (ha : E X g a ta) : E X g (.UnaryOp .USub a pos) (dUn negD ta) := e_un un_neg und_neg ha
/-! ### + : numbers, texts, tuples -/
def addI : D → D → Option D := fun x y => match x, y with | .int i, .int j => some (.int (i + j)) | _, _ => none
def addS : D → D → Option D := fun x y => match x, y with | .str i, .str j => if decide (i.length + j.length ≤ 100000) then some (.str (i ++ j)) else none | _, _ => none
def addT : D → D → Option D := fun x y => match x, y with | .tuple xs, .tuple ys => if decide (xs.length + ys.length ≤ 100000) then some (.tuple (xs ++ ys)) else none | _, _ => none
theorem opd_addS : OpD K (fun x y H Q => ∃ i j, x = .str i ∧ y = .str j ∧ i.length + j.length ≤ sizeLine ∧ Q (.str (i ++ j)) H) addS := by
  intro F H vx vy x y d Q ex dx dy e k
  unfold addS at e
  cases dx <;> cases dy <;> try (cases e; done)
  rename_i i j
  dsimp only at e
  split at e
  · rename_i hc
    cases e
    exact ⟨i, j, rfl, rfl, Evl.sz_of (of_decide_eq_true hc), k _ F H (Grow.refl ex) (.str _)⟩
  · cases e
theorem opd_addI : OpD K (rI0 fun i j => .int (i + j)) addI := opd_I0
theorem opd_addT : OpD K (rCatA K) addT := by
  intro F H vx vy x y d Q ex dx dy e k
  unfold addT at e
  cases dx <;> cases dy <;> try (cases e; done)
  rename_i a xs ds h1 h2 b ys es h3 h4
  dsimp only at e
  split at e
  · rename_i hc
    cases e
    have l1 := dpa_len h2
    have l2 := dpa_len h4
    refine ⟨a, b, xs, ys, rfl, rfl, Evl.ex_t ex h1, Evl.ex_t ex h3, Evl.sz_of (by rw [l1, l2]; exact of_decide_eq_true hc), fun z => ?_, fun z z2 => ?_, fun z z2 p hp => ?_⟩
    · subst z
      cases h2
      exact k _ F H (Grow.refl ex) (.tup h3 h4)
    · subst z2
      cases h4
      rw [List.append_nil] at k
      exact k _ F H (Grow.refl ex) (.tup h1 h2)
    · have gr := Grow.new (m := none) (o := .tup (xs ++ ys)) ex hp
      exact k _ _ _ gr (.tup (SqT.of upd_same) (dpa_ex gr.f _ _ (dpa_app h2 h4)))
  · cases e
def addL : D → D → Option D := fun x y => match x, y with | .list xs, .list ys => if decide (xs.length + ys.length ≤ 100000) then some (.list (xs ++ ys)) else none | _, _ => none
theorem opd_addL : OpD K rCat addL := by
  intro F H vx vy x y d Q ex dx dy e k
  unfold addL at e
  cases dx <;> cases dy <;> try (cases e; done)
  rename_i a xs ds h1 h2 b ys es h3 h4
  dsimp only at e
  split at e
  · rename_i hc
    cases e
    have l1 := dpa_len h2
    have l2 := dpa_len h4
    refine ⟨a, b, xs, ys, rfl, rfl, ex _ _ h1, ex _ _ h3, Evl.sz_of (by rw [l1, l2]; exact of_decide_eq_true hc), fun p hp => ?_⟩
    have gr := Grow.new (m := none) (o := .lst (xs ++ ys)) ex hp
    exact k _ _ _ gr (.lst upd_same (dpa_ex gr.f _ _ (dpa_app h2 h4)))
  · cases e
def addD : D → D → Option D := fun x y => (addI x y).or ((addS x y).or ((addT x y).or (addL x y)))
theorem e_add (ha : E X g a ta) (hb : E X g b tb) : E X g (.BinOp a .Add b pos) (dBin addD ta tb) := e_op (op_add.or (op_add_str.or (op_catA.or op_cat))) (opd_addI.or (opd_addS.or (opd_addT.or opd_addL))) ha hb
/-! ### comparisons -/
def shp (x : D) : Bool := SeqAt.shaped x
theorem shp_lay {x : D} (h : shp x = true) : x.canLay0 = true := by
  unfold shp SeqAt.shaped at h
  rw [Bool.and_eq_true] at h
  exact h.1
def eqD : D → D → Option D := fun x y => if shp x && shp y then some (.bool (PyData.eqv x y)) else none
def neD : D → D → Option D := fun x y => if shp x && shp y then some (.bool (!PyData.eqv x y)) else none
theorem opd_eq : OpD K (rEqD K) eqD := by
  intro F H vx vy x y d Q ex dx dy e k
  unfold eqD at e
  split at e
  · rename_i hc
    rw [Bool.and_eq_true] at hc
    cases e
    exact ⟨x, y, dp_l2 ex _ _ (shp_lay hc.1) dx, dp_l2 ex _ _ (shp_lay hc.2) dy, hc.1, hc.2, k _ F H (Grow.refl ex) (.bl _)⟩
  · cases e
theorem opd_ne : OpD K (rNeD K) neD := by
  intro F H vx vy x y d Q ex dx dy e k
  unfold neD at e
  split at e
  · rename_i hc
    rw [Bool.and_eq_true] at hc
    cases e
    exact ⟨x, y, dp_l2 ex _ _ (shp_lay hc.1) dx, dp_l2 ex _ _ (shp_lay hc.2) dy, hc.1, hc.2, k _ F H (Grow.refl ex) (.bl _)⟩
  · cases e
theorem e_eq (hu : X.A.units + 64 < cLine) (ha : E X g a ta) (hb : E X g b tb) : E X g (.Compare a [.Eq] [b] pos) (dBin eqD ta tb) := e_cmpR (op_eqD hu) opd_eq ha hb (nomark _)
theorem e_ne (hu : X.A.units + 64 < cLine) (ha : E X g a ta) (hb : E X g b tb) : E X g (.Compare a [.NotEq] [b] pos) (dBin neD ta tb) := e_cmpR (op_neD hu) opd_ne ha hb (nomark _)
theorem b_eq (hu : X.A.units + 64 < cLine) (ha : E X g a ta) (hb : E X g b tb) : B X g (.Compare a [.Eq] [b] pos) (bVal (dBin eqD ta tb)) := b_cmpR (op_eqD hu) opd_eq ha hb (nomark _)
theorem b_ne (hu : X.A.units + 64 < cLine) (ha : E X g a ta) (hb : E X g b tb) : B X g (.Compare a [.NotEq] [b] pos) (bVal (dBin neD ta tb)) := b_cmpR (op_neD hu) opd_ne ha hb (nomark _)
theorem e_lt (ha : E X g a ta) (hb : E X g b tb) : E X g (.Compare a [.Lt] [b] pos) (dBin ltD ta tb) := e_cmpR op_lt opd_IB ha hb (nomark _)
theorem e_le (ha : E X g a ta) (hb : E X g b tb) : E X g (.Compare a [.LtE] [b] pos) (dBin leD ta tb) := e_cmpR op_le opd_IB ha hb (nomark _)
theorem e_gt (ha : E X g a ta) (hb : E X g b tb) : E X g (.Compare a [.Gt] [b] pos) (dBin gtD ta tb) := e_cmpR op_gt opd_IB ha hb (nomark _)
theorem e_ge (ha : E X g a ta) (hb : E X g b tb) : E X g (.Compare a [.GtE] [b] pos) (dBin geD ta tb) := e_cmpR op_ge opd_IB ha hb (nomark _)
theorem b_lt (ha : E X g a ta) (hb : E X g b tb) : B X g (.Compare a [.Lt] [b] pos) (bVal (dBin ltD ta tb)) := b_cmpR op_lt opd_IB ha hb (nomark _)
theorem b_le (ha : E X g a ta) (hb : E X g b tb) : B X g (.Compare a [.LtE] [b] pos) (bVal (dBin leD ta tb)) := b_cmpR op_le opd_IB ha hb (nomark _)
theorem b_gt (ha : E X g a ta) (hb : E X g b tb) : B X g (.Compare a [.Gt] [b] pos) (bVal (dBin gtD ta tb)) := b_cmpR op_gt opd_IB ha hb (nomark _)
theorem b_ge (ha : E X g a ta) (hb : E X g b tb) : B X g (.Compare a [.GtE] [b] pos) (bVal (dBin geD ta tb)) := b_cmpR op_ge opd_IB ha hb (nomark _)
theorem e_lele (ha : E X g a ta) (hb : E X g b tb) (hc : E X g c tc) (hm : lastMarks [.LtE, .LtE] [b, c] = false := by rfl) : E X g (.Compare a [.LtE, .LtE] [b, c] pos) (dChain leD leD ta tb tc) := e_chain op_le opd_IB op_le opd_IB ha hb hc hm
def isND : D → D → Option D := fun x y => match y with | .none => some (.bool (match x with | .none => true | _ => false)) | _ => none
def notND : D → D → Option D := fun x y => match y with | .none => some (.bool (match x with | .none => false | _ => true)) | _ => none
theorem opd_isN : OpD K (fun x y H Q => y = .non ∧ Q (.bl (decide (x = .non))) H) isND := by
  intro F H vx vy x y d Q ex dx dy e k
  unfold isND at e
  cases dy <;> try (cases e; done)
  cases e
  refine ⟨rfl, k _ F H (Grow.refl ex) ?_⟩
  cases dx <;> exact .bl _
theorem opd_notN : OpD K (fun x y H Q => y = .non ∧ Q (.bl (!decide (x = .non))) H) notND := by
  intro F H vx vy x y d Q ex dx dy e k
  unfold notND at e
  cases dy <;> try (cases e; done)
  cases e
  refine ⟨rfl, k _ F H (Grow.refl ex) ?_⟩
  cases dx <;> exact .bl _
theorem e_is (ha : E X g a ta) (hb : E X g b tb) : E X g (.Compare a [.Is] [b] pos) (dBin isND ta tb) := e_cmpR op_isN opd_isN ha hb (nomark _)
theorem e_isnot (ha : E X g a ta) (hb : E X g b tb) : E X g (.Compare a [.IsNot] [b] pos) (dBin notND ta tb) := e_cmpR op_notN opd_notN ha hb (nomark _)
theorem b_is (ha : E X g a ta) (hb : E X g b tb) : B X g (.Compare a [.Is] [b] pos) (bVal (dBin isND ta tb)) := b_cmpR op_isN opd_isN ha hb (nomark _)
theorem b_isnot (ha : E X g a ta) (hb : E X g b tb) : B X g (.Compare a [.IsNot] [b] pos) (bVal (dBin notND ta tb)) := b_cmpR op_notN opd_notN ha hb (nomark _)
/-! ### in -/
def flatD : D → Bool
  | .none | .bool _ | .int _ | .str _ => true
  | _ => false
theorem flat_of {F : Hp} {v : V} {d : D} (h : Dp K F v d) (hf : flatD d = true) : flatV v = true := by
  cases h <;> first | rfl | cases hf
theorem eqV_of {F : Hp} {v w : V} {d e : D} (h : Dp K F v d) (h' : Dp K F w e) (hf : flatD d = true) (hf' : flatD e = true) : eqV v w = PyData.eqv d e := by
  cases h <;> cases h' <;> first | rfl | (cases hf; done) | (cases hf'; done) | (simp only [eqV, PyData.eqv])
theorem flats_of {F : Hp} : ∀ {vs : List V} {ds : List D}, DpAll K F vs ds → ds.all flatD = true → vs.all flatV = true
  | _, _, .nil, _ => rfl
  | _, _, .cons h t, hf => by
    rw [List.all_cons, Bool.and_eq_true] at hf ⊢
    exact ⟨flat_of h hf.1, flats_of t hf.2⟩
theorem inV_of {F : Hp} {v : V} {d : D} (h : Dp K F v d) (hd : flatD d = true) : ∀ {vs : List V} {ds : List D}, DpAll K F vs ds → ds.all flatD = true → inV v vs = ds.any fun y => PyData.eqv y d
  | _, _, .nil, _ => rfl
  | _, _, .cons h' t, hf => by
    rw [List.all_cons, Bool.and_eq_true] at hf
    have ih := inV_of h hd t hf.2
    unfold inV at ih ⊢
    rw [List.any_cons, List.any_cons, ih, eqV_of h' h hf.1 hd]
def itemsOf : D → Option (List D)
  | .list ds | .tuple ds => some ds
  | _ => none
def inSeq (neg : Bool) : D → D → Option D := fun x y => match itemsOf y with | some ds => if flatD x && ds.all flatD then some (.bool (if neg then !(ds.any fun y => PyData.eqv y x) else ds.any fun y => PyData.eqv y x)) else none | none => none
theorem seq_of {F H : Hp} {v : V} {d : D} {ds : List D} (ex : Ex F H) (h : Dp K F v d) (hi : itemsOf d = some ds) : ∃ p xs, v = .ref p ∧ (SqL K H p xs ∨ SqT K H p xs) ∧ DpAll K F xs ds := by
  cases h <;> cases hi
  · rename_i a xs h1 h2
    exact ⟨a, xs, rfl, .inl (SqL.of (ex _ _ h1)), h2⟩
  · rename_i a xs h1 h2
    exact ⟨a, xs, rfl, .inr (Evl.ex_t ex h1), h2⟩
theorem opd_inSeq {neg : Bool} : OpD K (rIn K neg) (inSeq neg) := by
  intro F H vx vy x y d Q ex dx dy e k
  unfold inSeq at e
  split at e
  · rename_i ds hi
    split at e
    · rename_i hc
      rw [Bool.and_eq_true] at hc
      cases e
      obtain ⟨p, xs, rfl, hs, da⟩ := seq_of ex dy hi
      refine ⟨p, xs, rfl, hs, flat_of dx hc.1, flats_of da hc.2, ?_⟩
      rw [inV_of dx hc.1 da hc.2]
      exact k _ F H (Grow.refl ex) (.bl _)
    · cases e
  · cases e
def inStr (neg : Bool) : D → D → Option D := fun x y => match x, y with | .str c, .str z => (match c.cps.toList with | [n] => some (.bool (if neg then !decide (n ∈ z.cps.toList) else decide (n ∈ z.cps.toList))) | _ => none) | _, _ => none
theorem opd_inStr : OpD K (fun x y H Q => ∃ (c : Nat) (z : Str), x = .str ⟨#[c]⟩ ∧ y = .str z ∧ Q (.bl (decide (c ∈ z.cps.toList))) H) (inStr false) := by
  intro F H vx vy x y d Q ex dx dy e k
  unfold inStr at e
  cases dx <;> cases dy <;> try (cases e; done)
  rename_i c z
  dsimp only at e
  split at e
  · rename_i n hn
    cases e
    refine ⟨n, z, ?_, rfl, k _ F H (Grow.refl ex) (.bl _)⟩
    obtain ⟨cs⟩ := c
    have : cs = #[n] := by
      apply Array.ext'
      exact hn
    rw [this]
  · cases e
theorem opd_notinStr : OpD K (fun x y H Q => ∃ (c : Nat) (z : Str), x = .str ⟨#[c]⟩ ∧ y = .str z ∧ Q (.bl (!decide (c ∈ z.cps.toList))) H) (inStr true) := by
  intro F H vx vy x y d Q ex dx dy e k
  unfold inStr at e
  cases dx <;> cases dy <;> try (cases e; done)
  rename_i c z
  dsimp only at e
  split at e
  · rename_i n hn
    cases e
    refine ⟨n, z, ?_, rfl, k _ F H (Grow.refl ex) (.bl _)⟩
    obtain ⟨cs⟩ := c
    have : cs = #[n] := by
      apply Array.ext'
      exact hn
    rw [this]
  · cases e
def inD : D → D → Option D := fun x y => (inSeq false x y).or (inStr false x y)
def notinD : D → D → Option D := fun x y => (inSeq true x y).or (inStr true x y)
theorem e_in (ha : E X g a ta) (hb : E X g b tb) (hm : behindInMarks .In b = false := by rfl) : E X g (.Compare a [.In] [b] pos) (dBin inD ta tb) := e_cmpR (op_in_seq.or op_in_sign) (opd_inSeq.or opd_inStr) ha hb hm
theorem b_in (ha : E X g a ta) (hb : E X g b tb) (hm : behindInMarks .In b = false := by rfl) : B X g (.Compare a [.In] [b] pos) (bVal (dBin inD ta tb)) := b_cmpR (op_in_seq.or op_in_sign) (opd_inSeq.or opd_inStr) ha hb hm
theorem e_notin (ha : E X g a ta) (hb : E X g b tb) (hm : behindInMarks .NotIn b = false := by rfl) : E X g (.Compare a [.NotIn] [b] pos) (dBin notinD ta tb) := e_cmpR (op_notIn_seq.or op_notIn_sign) (opd_inSeq.or opd_notinStr) ha hb hm
theorem b_notin (ha : E X g a ta) (hb : E X g b tb) (hm : behindInMarks .NotIn b = false := by rfl) : B X g (.Compare a [.NotIn] [b] pos) (bVal (dBin notinD ta tb)) := b_cmpR (op_notIn_seq.or op_notIn_sign) (opd_inSeq.or opd_notinStr) ha hb hm
end
end DL

namespace DL
open PySem L2
section
variable {X : Cx} {g : G} {a b c e : Expr} {es : List Expr} {ta tb tc t : DT} {pos : Pos} {u : DA} {K : Fg}
theorem dp_list {F : Hp} {v : V} {ds : List D} (h : Dp K F v (.list ds)) : ∃ p xs, v = .ref p ∧ F p = some (.lst xs) ∧ DpAll K F xs ds := by
  cases h with | lst h1 h2 => exact ⟨_, _, rfl, h1, h2⟩
theorem dp_tuple {F : Hp} {v : V} {ds : List D} (h : Dp K F v (.tuple ds)) : ∃ p xs, v = .ref p ∧ SqT K F p xs ∧ DpAll K F xs ds := by
  cases h with | tup h1 h2 => exact ⟨_, _, rfl, h1, h2⟩
theorem dp_int {F : Hp} {v : V} {i : Int} (h : Dp K F v (.int i)) : v = .int i := by cases h; rfl
theorem dp_str {F : Hp} {v : V} {i : Str} (h : Dp K F v (.str i)) : v = .str i := by cases h; rfl
theorem dp_bool {F : Hp} {v : V} {i : Bool} (h : Dp K F v (.bool i)) : v = .bl i := by cases h; rfl
/-! ### subscripts -/
def ixSq : D → D → Option D := fun x y => match itemsOf x, y with | some ds, .int i => atI ds i | _, _ => none
def ixSt : D → D → Option D := fun x y => match x, y with | .str z, .int i => if decide (z.length ≤ 100000) then (atI z.cps.toList i).map fun c => .str ⟨#[c]⟩ else none | _, _ => none
def ixD : D → D → Option D := fun x y => (ixSq x y).or (ixSt x y)
theorem atI_of {F : Hp} {vs : List V} {ds : List D} {i : Int} {d : D} (h : DpAll K F vs ds) (e : atI ds i = some d) : ∃ v, atI vs i = some v ∧ Dp K F v d := by
  unfold atI at e ⊢
  rw [dpa_len h]
  cases q : ixN ds.length i with
  | none => rw [q] at e; cases e
  | some j =>
    rw [q] at e
    exact dpa_get' h e
theorem opd_ixSq : OpD K (fun x y H Q => rIxL K x y H Q ∨ rIxT K x y H Q) ixSq := by
  intro F H vx vy x y d Q ex dx dy e k
  unfold ixSq at e
  split at e
  · rename_i ds i hi
    obtain ⟨p, xs, rfl, hs, da⟩ := seq_of ex dx hi
    cases dy
    obtain ⟨v, hv, dv⟩ := atI_of da e
    rcases hs with hs | hs
    · exact .inl ⟨p, xs, _, v, rfl, rfl, hs, hv, k _ F H (Grow.refl ex) dv⟩
    · exact .inr ⟨p, xs, _, v, rfl, rfl, hs, hv, k _ F H (Grow.refl ex) dv⟩
  · cases e
theorem opd_ixSt : OpD K rIxS ixSt := by
  intro F H vx vy x y d Q ex dx dy e k
  unfold ixSt at e
  cases dx <;> cases dy <;> try (cases e; done)
  rename_i z i
  dsimp only at e
  split at e
  · rename_i hc
    cases q : atI z.cps.toList i with
    | none => rw [q] at e; cases e
    | some c =>
      rw [q] at e
      cases e
      exact ⟨z, i, c, rfl, rfl, Evl.sz_of (of_decide_eq_true hc), q, k _ F H (Grow.refl ex) (.str _)⟩
  · cases e
theorem e_sub1 (ha : E X g a ta) (hb : E X g b tb) (hs : PlainIx b := by exact fun _ _ => rfl) : E X g (.Subscript a b pos) (dBin ixD ta tb) := e_ix ((ix_list.or ix_tup).or ix_str) (opd_ixSq.or opd_ixSt) ha hb hs
/-! ### slices -/
abbrev DO := Sl → Nat → (Option Int → Nat → Prop) → Prop
def SO (K : Fg) (g : G) (to : TO) (t : DO) : Prop := ∀ σ F H ρ n (P : Option Int → Nat → Prop) (Q : Option Int → Hp → Prop), SR K g F H σ ρ n → t ρ n P →
  (∀ o n' F' H', P o n' → Grow g.m F H F' H' → SR K g F' H' σ ρ n' → Q o H') → to σ H Q
structure Op (X : Cx) (g : G) (e : Option Expr) (t : DO) : Prop where
  ok : ∃ te, PO X e te ∧ SO X.K g te t
def oNone : DO := fun _ n P => P none n
def oSome (t : DT) : DO := fun ρ n P => t ρ n fun d n' => ∃ i, d = .int i ∧ P (some i) n'
theorem o_none : Op X g none oNone := ⟨_, po_none, fun σ F H ρ n P Q sr p k => k none n F H p (Grow.refl sr.ex) sr⟩
theorem o_some (h : E X g e t) : Op X g (some e) (oSome t) := by
  obtain ⟨te, p1, q1⟩ := h
  refine ⟨_, po_some p1, fun σ F H ρ n P Q sr p k => q1 σ F H ρ n _ _ sr p fun d n' v F' H' ⟨i, e, p'⟩ gr sr' dv => ?_⟩
  subst e
  cases dv
  exact ⟨i, rfl, k _ n' F' H' p' gr sr'⟩
def cutD (ds : List D) (lo hi : Option Int) : List D := (ds.drop (HT.sIx ds.length 0 lo)).take (HT.sIx ds.length ds.length hi - HT.sIx ds.length 0 lo)
theorem cut_of {F : Hp} {vs : List V} {ds : List D} {lo hi : Option Int} (h : DpAll K F vs ds) : DpAll K F (cutV vs lo hi) (cutD ds lo hi) := by
  unfold cutV cutD
  rw [dpa_len h]
  exact dpa_take _ (dpa_drop _ h)
def SlD (K : Fg) (r : V → Option Int → Option Int → Hp → VK → Prop) (f : D → Option Int → Option Int → Option D) : Prop := ∀ F H vx x lo hi d (Q : VK), Ex F H → Dp K F vx x → f x lo hi = some d →
  (∀ v F' H', Grow none F H F' H' → Dp K F' v d → Q v H') → r vx lo hi H Q
def slL : D → Option Int → Option Int → Option D := fun x lo hi => match x with | .list ds => some (.list (cutD ds lo hi)) | _ => none
def slT : D → Option Int → Option Int → Option D := fun x lo hi => match x with | .tuple ds => some (.tuple (cutD ds lo hi)) | _ => none
def slS : D → Option Int → Option Int → Option D := fun x lo hi => match x with | .str z => if decide (z.length ≤ 100000) then some (.str (cutS z lo hi)) else none | _ => none
theorem cut_whole {ds : List D} {lo hi : Option Int} (h : HT.sIx ds.length 0 lo = 0 ∧ HT.sIx ds.length ds.length hi = ds.length) : cutD ds lo hi = ds := by
  unfold cutD
  rw [h.1, h.2]
  simp
theorem sld_L : SlD K (rSlL K) slL := by
  intro F H vx x lo hi d Q ex dx e k
  unfold slL at e
  cases dx <;> try (cases e; done)
  rename_i a xs ds h1 h2
  cases e
  refine ⟨a, xs, rfl, SqL.of (ex _ _ h1), fun p hp => ?_⟩
  have gr := Grow.new (m := none) (o := .lst (cutV xs lo hi)) ex hp
  exact k _ _ _ gr (.lst upd_same (dpa_ex gr.f _ _ (cut_of h2)))
theorem sld_T : SlD K (rSlA K) slT := by
  intro F H vx x lo hi d Q ex dx e k
  unfold slT at e
  cases dx <;> try (cases e; done)
  rename_i a xs ds h1 h2
  cases e
  have hl := dpa_len h2
  refine ⟨a, xs, rfl, Evl.ex_t ex h1, fun z => ?_, fun z p hp => ?_⟩
  · rw [hl] at z
    rw [cut_whole z] at k
    exact k _ F H (Grow.refl ex) (.tup h1 h2)
  · have gr := Grow.new (m := none) (o := .tup (cutV xs lo hi)) ex hp
    exact k _ _ _ gr (.tup (SqT.of upd_same) (dpa_ex gr.f _ _ (cut_of h2)))
theorem sld_S : SlD K rSlS slS := by
  intro F H vx x lo hi d Q ex dx e k
  unfold slS at e
  cases dx <;> try (cases e; done)
  rename_i z
  dsimp only at e
  split at e
  · rename_i hc
    cases e
    exact ⟨z, rfl, Evl.sz_of (of_decide_eq_true hc), k _ F H (Grow.refl ex) (.str _)⟩
  · cases e
theorem SlR.or {r r' : V → Option Int → Option Int → Hp → VK → Prop} (h : SlR X r) (h' : SlR X r') : SlR X (fun x lo hi H Q => r x lo hi H Q ∨ r' x lo hi H Q) := by
  intro pins s σ H x v vl vu lo hi sl Q I rx hs pl pu q
  rcases q with q | q
  · exact h pins s σ H x v vl vu lo hi sl Q I rx hs pl pu q
  · exact h' pins s σ H x v vl vu lo hi sl Q I rx hs pl pu q
theorem SlD.or {r r' : V → Option Int → Option Int → Hp → VK → Prop} {f f' : D → Option Int → Option Int → Option D} (h : SlD K r f) (h' : SlD K r' f') : SlD K (fun x lo hi H Q => r x lo hi H Q ∨ r' x lo hi H Q) (fun x lo hi => (f x lo hi).or (f' x lo hi)) := by
  intro F H vx x lo hi d Q ex dx e k
  replace e : (f x lo hi).or (f' x lo hi) = some d := e
  cases q : f x lo hi with
  | some z =>
    rw [q] at e
    cases e
    exact .inl (h F H vx x lo hi _ Q ex dx q k)
  | none =>
    rw [q] at e
    exact .inr (h' F H vx x lo hi d Q ex dx e k)
def slD : D → Option Int → Option Int → Option D := fun x lo hi => (slL x lo hi).or ((slT x lo hi).or (slS x lo hi))
def dSl (ta : DT) (tl th : DO) : DT := fun ρ n P => ta ρ n fun x n1 => tl ρ n1 fun lo n2 => th ρ n2 fun hi n3 => ∃ d, slD x lo hi = some d ∧ P d n3
theorem e_slice {lo hi : Option Expr} {tl th : DO} {p2 : Pos} (ha : E X g a ta) (hl : Op X g lo tl) (hh : Op X g hi th) : E X g (.Subscript a (.Slice lo hi none p2) pos) (dSl ta tl th) := by
  obtain ⟨te, p1, q1⟩ := ha
  obtain ⟨to1, p2, q2⟩ := hl
  obtain ⟨to2, p3, q3⟩ := hh
  refine ⟨_, pe_slice (SlR.or sl_list (SlR.or sl_tupA sl_str)) p1 p2 p3, fun σ F H ρ n P Q sr p k => q1 σ F H ρ n _ _ sr p fun x n1 vx F1 H1 p1 g1 sr1 dx => q2 σ F1 H1 ρ n1 _ _ sr1 p1 fun l n2 F2 H2 p2 g2 sr2 => q3 σ F2 H2 ρ n2 _ _ sr2 p2 fun h n3 F3 H3 ⟨d, e, p3⟩ g3 sr3 => ?_⟩
  exact SlD.or sld_L (SlD.or sld_T sld_S) F3 H3 vx x l h d Q sr3.ex (dp_ex (g2.f.trans g3.f) _ _ dx) e fun v F4 H4 gr dv => k d n3 v F4 H4 p3 (((g1.trans g2).trans g3).trans gr.any) (sr3.grow gr) dv
/-- xs[::-1] of a list -/
def revL : D → Option D := fun x => match x with | .list ds => some (.list ds.reverse) | _ => none
theorem e_revL {k : Nat} {p1 p2 p3 : Pos} (ha : E X g a ta) : E X g (.Subscript a (.Slice none none (some (.UnaryOp .USub (.Constant (.int 1) k p1) p2)) p3) pos) (dUn revL ta) := by
  obtain ⟨te, p1, q1⟩ := ha
  refine ⟨_, pe_revL p1, fun σ F H ρ n P Q sr p k => q1 σ F H ρ n _ _ sr p fun x n1 vx F1 H1 ⟨d, e, p1⟩ g1 sr1 dx => ?_⟩
  unfold revL at e
  split at e
  · cases e
    obtain ⟨q, xs, rfl, h1, h2⟩ := dp_list dx
    refine ⟨q, xs, rfl, SqL.of (sr1.ex _ _ h1), fun p hp => ?_⟩
    have gr := Grow.new (m := none) (o := .lst xs.reverse) sr1.ex hp
    exact k _ n1 _ _ _ p1 (g1.trans gr.any) (sr1.grow gr) (.lst upd_same (dpa_ex gr.f _ _ (dpa_rev h2)))
  · cases e
/-! ### built-ins -/
def lenD : List D → Option D := fun ds => match ds with | [.list xs] | [.tuple xs] => some (.int (xs.length : Nat)) | [.str z] => if decide (z.length ≤ 100000) then some (.int (z.length : Nat)) else none | _ => none
theorem cd_len : CallD K (fun xs H Q => ∃ x n, xs = [x] ∧ LenV K x H n ∧ Q (.int n) H) lenD := by
  intro F H vs ds d Q ex da e k
  unfold lenD at e
  split at e
  · cases e
    cases da with | cons h1 h2 => cases h2; cases h1; rename_i xs a ys h3 h4; exact ⟨_, _, rfl, .inl ⟨ys, SqL.of (ex _ _ h3), dpa_len h4 ▸ rfl⟩, k _ F H (Grow.refl ex) (.int _)⟩
  · cases e
    cases da with | cons h1 h2 => cases h2; cases h1; rename_i xs a ys h3 h4; exact ⟨_, _, rfl, .inr ⟨ys, Evl.ex_t ex h3, dpa_len h4 ▸ rfl⟩, k _ F H (Grow.refl ex) (.int _)⟩
  · split at e
    · rename_i hc
      cases e
      cases da with | cons h1 h2 => cases h2; cases h1; exact ⟨_, _, rfl, ⟨Evl.sz_of (of_decide_eq_true hc), rfl⟩, k _ F H (Grow.refl ex) (.int _)⟩
    · cases e
  · cases e
theorem e_len {p : Pos} (hg : Gl X "len") (hm : X.mg "len" = none) (ha : A X g (e :: es) u) (hst : starEach (e :: es) X.env = (false, eval e X.env) :: starEach es X.env := by rfl) (hpl : (backTo pos (starEach es X.env)).any (·.1) = false := by rfl) : E X g (.Call (.Name "len" p) (e :: es) [] pos) (dCall lenD u) :=
  e_callB call_len cd_len hg hm PySem.boot_len ha (by decide) (by decide) hst hpl

def int1D : List D → Option D := fun ds => match ds with | [.int i] => some (.int i) | [.bool k] => some (.int (if k then 1 else 0)) | _ => none
theorem cd_int : CallD K (fun xs H Q => (∃ i, xs = [.int i] ∧ Q (.int i) H) ∨ ∃ k, xs = [.bl k] ∧ Q (.int (if k then 1 else 0)) H) int1D := by
  intro F H vs ds d Q ex da e k
  unfold int1D at e
  split at e
  · cases e
    cases da with | cons h1 h2 => cases h2; cases h1; exact .inl ⟨_, rfl, k _ F H (Grow.refl ex) (.int _)⟩
  · cases e
    cases da with | cons h1 h2 => cases h2; cases h1; exact .inr ⟨_, rfl, k _ F H (Grow.refl ex) (.int _)⟩
  · cases e
theorem e_intc {p : Pos} (hg : Gl X "int") (hm : X.mg "int" = none) (ha : A X g (e :: es) u) (hst : starEach (e :: es) X.env = (false, eval e X.env) :: starEach es X.env := by rfl) (hpl : (backTo pos (starEach es X.env)).any (·.1) = false := by rfl) : E X g (.Call (.Name "int" p) (e :: es) [] pos) (dCall int1D u) :=
  e_callTy call_int1 cd_int hg hm (by decide +kernel) ha (by decide) (by decide) hst hpl
def max2D : List D → Option D := fun ds => match ds with | [.int i, .int j] => some (.int (if j > i then j else i)) | _ => none
def min2D : List D → Option D := fun ds => match ds with | [.int i, .int j] => some (.int (if j < i then j else i)) | _ => none
theorem cd_max2 : CallD K (fun xs H Q => ∃ i j, xs = [.int i, .int j] ∧ Q (.int (if j > i then j else i)) H) max2D := by
  intro F H vs ds d Q ex da e k
  unfold max2D at e
  split at e
  · cases e
    cases da with | cons h1 h2 => cases h2 with | cons h3 h4 => cases h4; cases h1; cases h3; exact ⟨_, _, rfl, k _ F H (Grow.refl ex) (.int _)⟩
  · cases e
theorem cd_min2 : CallD K (fun xs H Q => ∃ i j, xs = [.int i, .int j] ∧ Q (.int (if j < i then j else i)) H) min2D := by
  intro F H vs ds d Q ex da e k
  unfold min2D at e
  split at e
  · cases e
    cases da with | cons h1 h2 => cases h2 with | cons h3 h4 => cases h4; cases h1; cases h3; exact ⟨_, _, rfl, k _ F H (Grow.refl ex) (.int _)⟩
  · cases e
theorem e_max2 {p : Pos} (hc : X.calm = true) (hg : Gl X "max") (hm : X.mg "max" = none) (ha : A X g (e :: es) u) (hst : starEach (e :: es) X.env = (false, eval e X.env) :: starEach es X.env := by rfl) (hpl : (backTo pos (starEach es X.env)).any (·.1) = false := by rfl) : E X g (.Call (.Name "max" p) (e :: es) [] pos) (dCall max2D u) :=
  e_callB (call_max2 hc) cd_max2 hg hm (by decide +kernel) ha (by decide) (by decide) hst hpl
theorem e_min2 {p : Pos} (hc : X.calm = true) (hg : Gl X "min") (hm : X.mg "min" = none) (ha : A X g (e :: es) u) (hst : starEach (e :: es) X.env = (false, eval e X.env) :: starEach es X.env := by rfl) (hpl : (backTo pos (starEach es X.env)).any (·.1) = false := by rfl) : E X g (.Call (.Name "min" p) (e :: es) [] pos) (dCall min2D u) :=
  e_callB (call_min2 hc) cd_min2 hg hm (by decide +kernel) ha (by decide) (by decide) hst hpl
def boolsOf : List D → Option (List Bool)
  | [] => some []
  | .bool b :: r => (boolsOf r).map (b :: ·)
  | _ => none
theorem boolsOf_eq : ∀ {ds : List D} {bs : List Bool}, boolsOf ds = some bs → ds = bs.map .bool
  | [], bs, h => by cases h; rfl
  | .bool b :: r, bs, h => by
    unfold boolsOf at h
    cases q : boolsOf r with
    | none => rw [q] at h; cases h
    | some cs =>
      rw [q] at h
      cases h
      rw [boolsOf_eq q]
      rfl
  | .none :: _, _, h => by simp [boolsOf] at h
  | .int _ :: _, _, h => by simp [boolsOf] at h
  | .str _ :: _, _, h => by simp [boolsOf] at h
  | .list _ :: _, _, h => by simp [boolsOf] at h
  | .tuple _ :: _, _, h => by simp [boolsOf] at h
  | .dict _ :: _, _, h => by simp [boolsOf] at h
theorem boolsOf_map (bs : List Bool) : boolsOf (bs.map .bool) = some bs := by
  induction bs with
  | nil => rfl
  | cons b r ih => rw [List.map_cons, boolsOf, ih]; rfl
def allD : List D → Option D := fun ds => match ds with | [.list xs] => (boolsOf xs).map fun bs => .bool (bs.all id) | _ => none
def anyD : List D → Option D := fun ds => match ds with | [.list xs] => (boolsOf xs).map fun bs => .bool (bs.any id) | _ => none
theorem cd_all : CallD K (rAll K) allD := by
  intro F H vs ds d Q ex da e k
  unfold allD at e
  split at e
  · rename_i xs
    cases q : boolsOf xs with
    | none => rw [q] at e; cases e
    | some bs =>
      rw [q] at e
      cases e
      have := boolsOf_eq q
      subst this
      cases da with
      | cons h1 h2 =>
        cases h2
        obtain ⟨p, ys, rfl, h3, h4⟩ := dp_list h1
        have := bls_dpa h4
        subst this
        exact ⟨p, bs, rfl, SqL.of (ex _ _ h3), k _ F H (Grow.refl ex) (.bl _)⟩
  · cases e
theorem cd_any : CallD K (rAny K) anyD := by
  intro F H vs ds d Q ex da e k
  unfold anyD at e
  split at e
  · rename_i xs
    cases q : boolsOf xs with
    | none => rw [q] at e; cases e
    | some bs =>
      rw [q] at e
      cases e
      have := boolsOf_eq q
      subst this
      cases da with
      | cons h1 h2 =>
        cases h2
        obtain ⟨p, ys, rfl, h3, h4⟩ := dp_list h1
        have := bls_dpa h4
        subst this
        exact ⟨p, bs, rfl, SqL.of (ex _ _ h3), k _ F H (Grow.refl ex) (.bl _)⟩
  · cases e
theorem e_all {p : Pos} (hc : X.calm = true) (hg : Gl X "all") (hm : X.mg "all" = none) (ha : A X g (e :: es) u) (hst : starEach (e :: es) X.env = (false, eval e X.env) :: starEach es X.env := by rfl) (hpl : (backTo pos (starEach es X.env)).any (·.1) = false := by rfl) : E X g (.Call (.Name "all" p) (e :: es) [] pos) (dCall allD u) :=
  e_callB (cr_all hc) cd_all hg hm (by decide +kernel) ha (by decide) (by decide) hst hpl
theorem e_any {p : Pos} (hc : X.calm = true) (hg : Gl X "any") (hm : X.mg "any" = none) (ha : A X g (e :: es) u) (hst : starEach (e :: es) X.env = (false, eval e X.env) :: starEach es X.env := by rfl) (hpl : (backTo pos (starEach es X.env)).any (·.1) = false := by rfl) : E X g (.Call (.Name "any" p) (e :: es) [] pos) (dCall anyD u) :=
  e_callB (cr_any hc) cd_any hg hm (by decide +kernel) ha (by decide) (by decide) hst hpl
/-- tuple(xs), list(xs) -/
def tupleD : List D → Option D := fun ds => match ds with | [.list xs] | [.tuple xs] => some (.tuple xs) | _ => none
theorem cd_tuple : CallD K (fun xs H Q => ∃ p ys, xs = [.ref p] ∧ ((SqL K H p ys ∧ ∀ l, H l = none → Q (.ref l) (upd H l (.tup ys))) ∨ (SqT K H p ys ∧ Q (.ref p) H))) tupleD := by
  intro F H vs ds d Q ex da e k
  unfold tupleD at e
  split at e
  · cases e
    cases da with
    | cons h1 h2 =>
      cases h2
      obtain ⟨p, ys, rfl, h3, h4⟩ := dp_list h1
      refine ⟨p, ys, rfl, .inl ⟨SqL.of (ex _ _ h3), fun l hl => ?_⟩⟩
      have gr := Grow.new (m := none) (o := .tup ys) ex hl
      exact k _ _ _ gr (.tup (SqT.of upd_same) (dpa_ex gr.f _ _ h4))
  · cases e
    cases da with
    | cons h1 h2 =>
      cases h2
      obtain ⟨p, ys, rfl, h3, h4⟩ := dp_tuple h1
      exact ⟨p, ys, rfl, .inr ⟨Evl.ex_t ex h3, k _ F H (Grow.refl ex) (.tup h3 h4)⟩⟩
  · cases e
theorem e_tuple {p : Pos} (hg : Gl X "tuple") (hm : X.mg "tuple" = none) (ha : A X g (e :: es) u) (hst : starEach (e :: es) X.env = (false, eval e X.env) :: starEach es X.env := by rfl) (hpl : (backTo pos (starEach es X.env)).any (·.1) = false := by rfl) : E X g (.Call (.Name "tuple" p) (e :: es) [] pos) (dCall tupleD u) :=
  e_callTy call_tuple_of cd_tuple hg hm (by decide +kernel) ha (by decide) (by decide) hst hpl
def listD : List D → Option (List D) := fun ds => match ds with | [.list xs] | [.tuple xs] => some xs | _ => none
theorem cl_list : CallL K (fun xs H Q => ∃ p ys, xs = [.ref p] ∧ (SqL K H p ys ∨ SqT K H p ys) ∧ ∀ l, H l = none → Q (.ref l) (upd H l (.lst ys))) listD := by
  intro F H vs ds d Q ex da e k
  unfold listD at e
  split at e
  · cases e
    cases da with
    | cons h1 h2 =>
      cases h2
      obtain ⟨p, ys, rfl, h3, h4⟩ := dp_list h1
      exact ⟨p, ys, rfl, .inl (SqL.of (ex _ _ h3)), fun l hl => k l ys hl h4⟩
  · cases e
    cases da with
    | cons h1 h2 =>
      cases h2
      obtain ⟨p, ys, rfl, h3, h4⟩ := dp_tuple h1
      exact ⟨p, ys, rfl, .inr (Evl.ex_t ex h3), fun l hl => k l ys hl h4⟩
  · cases e
theorem l_list {p : Pos} (hg : Gl X "list") (hm : X.mg "list" = none) (ha : A X g (e :: es) u) (hst : starEach (e :: es) X.env = (false, eval e X.env) :: starEach es X.env := by rfl) (hpl : (backTo pos (starEach es X.env)).any (·.1) = false := by rfl) : Ls X g (.Call (.Name "list" p) (e :: es) [] pos) (dCallL listD u) :=
  l_callTy call_list_of cl_list hg hm (by decide +kernel) ha (by decide) (by decide) hst hpl
/-! ### isinstance -/
def tyD : D → String
  | .none => "NoneType"
  | .bool _ => "bool"
  | .int _ => "int"
  | .str _ => "str"
  | .list _ => "list"
  | .tuple _ => "tuple"
  | .dict _ => "dict"
def isiD (T : String) : D → Option D := fun d => (kitB (tyD d) T).map .bool
theorem ty_of {F H : Hp} {v : V} {d : D} (ex : Ex F H) (h : Dp K F v d) : TyX K H v (.type (tyD d)) := by
  cases h with
  | non => exact .base .non
  | bl b => exact .base (.bl b)
  | int i => exact .base (.int i)
  | str x => exact .base (.str x)
  | lst h1 h2 => exact .base (.lst (ex _ _ h1))
  | dct h1 h2 => exact .base (.dK (ex _ _ h1))
  | tup h1 h2 =>
    rcases h1 with (h1 | ⟨o, h1⟩) | ⟨o, its, n, h1, h3, h4, _⟩
    · exact .base (.tup (ex _ _ h1))
    · exact .fTuple (ex _ _ h1)
    · exact .kTuple h1 h3
theorem e_isi (T : String) {x : Str} {p px : Pos} (hg : Gl X "isinstance") (hm : X.mg "isinstance" = none) (hg2 : Gl X x) (hm2 : X.mg x = none) (hv : bootBuiltins x = some (.type T)) (ha : E X g a ta) (hn : x ≠ "__name__" := by decide) (hd : (x == ("__debug__" : Str)) = false := by decide)
    (hst : starEach [a, .Name x px] X.env = (false, eval a X.env) :: starEach [.Name x px] X.env := by rfl) (hst2 : starEach [.Name x px] X.env = (false, eval (.Name x px) X.env) :: starEach [] X.env := by rfl) (hpl : (backTo pos (starEach [.Name x px] X.env)).any (·.1) = false := by rfl) :
    E X g (.Call (.Name "isinstance" p) [a, .Name x px] [] pos) (dUn (isiD T) ta) := by
  obtain ⟨te, p1, q1⟩ := ha
  refine ⟨_, pe_callB call_isi hg hm (by decide +kernel) (pa_cons p1 (pa_cons (pe_bltn (v := .ty T) hg2 hm2 hv rfl hn hd) pa_nil hst2) hst) (by decide) (by decide) hst hpl, fun σ F H ρ n P Q sr p k => q1 σ F H ρ n _ _ sr p fun x n1 vx F1 H1 ⟨d, e, p1⟩ g1 sr1 dx => ?_⟩
  unfold isiD at e
  cases q : kitB (tyD x) T with
  | none => rw [q] at e; cases e
  | some r =>
    rw [q] at e
    cases e
    exact ⟨vx, .ty T, .type (tyD x), .type T, r, rfl, .ty T, ty_of sr1.ex dx, kit_ty q, k _ n1 _ F1 H1 p1 g1 sr1 (.bl r)⟩

def isIntD : D → Option D := fun d => some (.bool (match d with | .int _ => true | .bool _ => true | _ => false))
def isBoolD : D → Option D := fun d => some (.bool (match d with | .bool _ => true | _ => false))
def isStrD : D → Option D := fun d => some (.bool (match d with | .str _ => true | _ => false))
def isTupD : D → Option D := fun d => some (.bool (match d with | .tuple _ => true | _ => false))
def isLstD : D → Option D := fun d => some (.bool (match d with | .list _ => true | _ => false))
theorem isi_int : isiD "int" = isIntD := by funext d; cases d <;> (unfold isiD isIntD tyD; kernel_rfl)
theorem isi_bool : isiD "bool" = isBoolD := by funext d; cases d <;> (unfold isiD isBoolD tyD; kernel_rfl)
theorem isi_str : isiD "str" = isStrD := by funext d; cases d <;> (unfold isiD isStrD tyD; kernel_rfl)
theorem isi_tup : isiD "tuple" = isTupD := by funext d; cases d <;> (unfold isiD isTupD tyD; kernel_rfl)
theorem isi_lst : isiD "list" = isLstD := by funext d; cases d <;> (unfold isiD isLstD tyD; kernel_rfl)
section
variable {p px : Pos} (hg : Gl X "isinstance") (hm : X.mg "isinstance" = none) (ha : E X g a ta)
include hg hm ha
theorem e_isInt (hg2 : Gl X "int") (hm2 : X.mg "int" = none) (hst : starEach [a, .Name "int" px] X.env = (false, eval a X.env) :: starEach [.Name "int" px] X.env := by rfl) : E X g (.Call (.Name "isinstance" p) [a, .Name "int" px] [] pos) (dUn isIntD ta) := isi_int ▸ e_isi "int" hg hm hg2 hm2 (by decide +kernel) ha (by decide) (by decide) hst
theorem e_isBool (hg2 : Gl X "bool") (hm2 : X.mg "bool" = none) (hst : starEach [a, .Name "bool" px] X.env = (false, eval a X.env) :: starEach [.Name "bool" px] X.env := by rfl) : E X g (.Call (.Name "isinstance" p) [a, .Name "bool" px] [] pos) (dUn isBoolD ta) := isi_bool ▸ e_isi "bool" hg hm hg2 hm2 (by decide +kernel) ha (by decide) (by decide) hst
theorem e_isStr (hg2 : Gl X "str") (hm2 : X.mg "str" = none) (hst : starEach [a, .Name "str" px] X.env = (false, eval a X.env) :: starEach [.Name "str" px] X.env := by rfl) : E X g (.Call (.Name "isinstance" p) [a, .Name "str" px] [] pos) (dUn isStrD ta) := isi_str ▸ e_isi "str" hg hm hg2 hm2 (by decide +kernel) ha (by decide) (by decide) hst
theorem e_isTup (hg2 : Gl X "tuple") (hm2 : X.mg "tuple" = none) (hst : starEach [a, .Name "tuple" px] X.env = (false, eval a X.env) :: starEach [.Name "tuple" px] X.env := by rfl) : E X g (.Call (.Name "isinstance" p) [a, .Name "tuple" px] [] pos) (dUn isTupD ta) := isi_tup ▸ e_isi "tuple" hg hm hg2 hm2 (by decide +kernel) ha (by decide) (by decide) hst
end
end
end DL

namespace DL
open PySem L2
/-! ### constants of the module, defs by name -/
def Cst (K : Fg) (mg : Str → Option Value) (x : Str) (d : D) : Prop := ∃ v u, mg x = some u ∧ RelV v u ∧ ∀ F, Dp K F v d
structure FnIs (P : Program) (w : World) (K : Fg) (mg : Str → Option Value) (base : Heap) (k : Nat) (x : Str) (ps : List Str) (c : Ct) : Prop where
  ok : ∃ f fd, FnOk P w K mg base CX0 k f fd ps (spD K c) ∧ mg x = some (.ref f) ∧ PySem.W.keepIn K (.ref f) = true ∧ Binds K fd ps []
structure FunAt (K : Fg) (mg : Str → Option Value) (x : Str) (st : Stmt) (ps : List Str) : Prop where
  ok : ∃ f fd, Fun K x x st f fd ∧ mg x = some (.ref f) ∧ Binds K fd ps []
section
variable {X : Cx} {g : G} {a b c e : Expr} {es : List Expr} {ta tb tc t : DT} {pos : Pos} {u : DA} {K : Fg}
theorem e_const {x : Str} {d : D} (h : Cst X.K X.mg x d) (hg : Gl X x) (hdb : (x == ("__debug__" : Str)) = false := by decide) : E X g (.Name x pos) (dC d) := by
  obtain ⟨v, u, hm, r, hd⟩ := h
  exact e_glob hg hm r hd hdb
theorem e_call {ct : Ct} {k : Nat} {ps : List Str} {x : Str} {p : Pos} (h : FnIs X.prog X.w X.K X.mg X.base k x ps ct) (hr : Room k X.A) (hg : Gl X x)
    (ha : A X g (e :: es) u) (hdb : (x == ("__debug__" : Str)) = false := by decide) (he : starEach (e :: es) X.env = (false, eval e X.env) :: starEach es X.env := by rfl) (hpl : (backTo pos (starEach es X.env)).any (·.1) = false := by rfl) :
    E X g (.Call (.Name x p) (e :: es) [] pos) (dFn ct noX u) := by
  obtain ⟨f, fd, h1, h2, h3, h4⟩ := h
  exact e_fn h1 hr hg h2 h3 h4 ha hdb he hpl
theorem fn_is {P : Program} {w : World} {K : Fg} {mg : Str → Option Value} {base : Heap} {x : Str} {st : Stmt} {N ps : List Str} {k : Nat} {c : Ct} {t : DS} (Fn : FunAt K mg x st ps) (S : FnScope N ps (defScope st)) (hlen : ∀ x ss n, c.pre x ss n → ss.length = ps.length)
    (hbody : ∀ (f : Addr) (cdv : Value) (A : Around) (outer : List Env) (s : Shared) (H : Hp) (E : XK) (g : G), Room k (A.deeper (PyProof.Rows.envOfC x (defScope st) s.heap.objs.size f cdv)) →
      Sts (cxOf CX0 P w K mg base N x (defScope st) f cdv A outer s H E).nox g (defBody st) t)
    (ht : ∀ x ss n, c.pre x ss n → t { nx := fun _ n' => c.post x n .none n', rt := fun d n' => c.post x n d n' } (startD N ss) n) : FnIs P w K mg base (k + 1) x ps c := by
  obtain ⟨f, fd, h1, h2, h3⟩ := Fn
  exact ⟨f, fd, fn_ok h1 S hlen (fun cdv A outer s H E g => hbody f cdv A outer s H E g) ht, h2, h1.kp, h3⟩
theorem b_lele (ha : E X g a ta) (hb : E X g b tb) (hc : E X g c tc) (hm : lastMarks [.LtE, .LtE] [b, c] = false := by rfl) : B X g (.Compare a [.LtE, .LtE] [b, c] pos) (bVal (dChain leD leD ta tb tc)) := b_chain op_le opd_IB op_le opd_IB ha hb hc hm

/-! ### own lists seen as data for a while -/
mutual
def noL : D → Bool
  | .none | .bool _ | .int _ | .str _ => true
  | .tuple xs => noLs xs
  | .list _ | .dict _ => false
def noLs : List D → Bool
  | [] => true
  | x :: xs => noL x && noLs xs
end
def viewS : S → Option S
  | .o ds => some (.d (.list ds))
  | .m => none
  | .s _ => none
  | s => some s
def view (ρ : Sl) : Sl := ρ.map fun o => o.bind viewS
def Owned (σ : L2.St) (ρ : Sl) (l : Addr) : Prop := ∃ (i : Nat) (ds : List D), ρ[i]? = some (some (.o ds)) ∧ σ[i]? = some (some (.ref l))
open Classical in
noncomputable def Fup (F H : Hp) (σ : L2.St) (ρ : Sl) : Hp := fun l => if Owned σ ρ l then H l else F l
open Classical in
noncomputable def Fdn (F : Hp) (σ : L2.St) (ρ : Sl) : Hp := fun l => if Owned σ ρ l then none else F l
section
variable {F H : Hp} {σ : L2.St} {ρ : Sl} {n : Nat}
theorem fup_own {l : Addr} (h : Owned σ ρ l) : Fup F H σ ρ l = H l := if_pos h
theorem fup_not {l : Addr} (h : ¬ Owned σ ρ l) : Fup F H σ ρ l = F l := if_neg h
theorem fdn_own {l : Addr} (h : Owned σ ρ l) : Fdn F σ ρ l = none := if_pos h
theorem fdn_not {l : Addr} (h : ¬ Owned σ ρ l) : Fdn F σ ρ l = F l := if_neg h
theorem SR.owned (sr : SR K g F H σ ρ n) {l : Addr} (h : Owned σ ρ l) : ∃ xs, H l = some (.lst xs) ∧ F l = none ∧ g.B l = none := by
  obtain ⟨i, ds, e1, e2⟩ := h
  obtain ⟨v, hv, l', xs, rfl, b, f, hl, _⟩ := sr.sl i _ e1
  rw [e2] at hv
  cases hv
  exact ⟨xs, hl, f, b⟩
theorem SR.exUp (sr : SR K g F H σ ρ n) : Ex F (Fup F H σ ρ) := fun a o h => by
  have : ¬ Owned σ ρ a := fun z => by
    obtain ⟨_, _, f, _⟩ := sr.owned z
    rw [f] at h; cases h
  rw [fup_not this]; exact h
theorem view_get {i : Nat} {s : S} (h : (view ρ)[i]? = some (some s)) : ∃ s0, ρ[i]? = some (some s0) ∧ viewS s0 = some s := by
  unfold view at h
  rw [List.getElem?_map] at h
  cases q : ρ[i]? with
  | none => rw [q] at h; cases h
  | some o =>
    rw [q] at h
    cases o with
    | none => cases h
    | some s0 => exact ⟨s0, rfl, Option.some.inj h⟩
theorem SR.up (sr : SR K g F H σ ρ n) : SR K ⟨H, Fup F H σ ρ, none, g.xp⟩ (Fup F H σ ρ) H σ (view ρ) n := by
  have ex : Ex (Fup F H σ ρ) H := fun a o h => by
    by_cases z : Owned σ ρ a
    · rw [fup_own z] at h; exact h
    · rw [fup_not z] at h; exact sr.ex a o h
  refine ⟨Grow.refl ex, fun a e => (by cases e), fun i s e => ?_, fun i j l ds es e1 _ _ _ => ?_, ?_⟩
  · obtain ⟨s0, e0, ev⟩ := view_get e
    obtain ⟨v, hv, ok⟩ := sr.sl i s0 e0
    refine ⟨v, hv, ?_⟩
    cases s0 with
    | d d => cases ev; exact dp_ex sr.exUp _ _ ok
    | m => cases ev
    | r u => cases ev; exact ok
    | s k => cases ev
    | o ds =>
      cases ev
      obtain ⟨l, xs, rfl, b, f, hl, da⟩ := ok
      exact .lst (by rw [fup_own ⟨i, ds, e0, hv⟩]; exact hl) (dpa_ex sr.exUp _ _ da)
  · obtain ⟨s0, e0, e2⟩ := view_get e1
    cases s0 <;> cases e2
  · unfold view; rw [List.length_map, sr.len]
/-- back again -/
theorem SR.down {F' H' : Hp} (sr : SR K g F H σ ρ n) (gr : Grow none (Fup F H σ ρ) H F' H') : Grow none F H (Fdn F' σ ρ) H' := by
  refine ⟨fun a o h => ?_, fun a o h => ?_, gr.h, gr.dm, fun a o h => ?_⟩
  · have nz : ¬ Owned σ ρ a := fun z => by
      obtain ⟨_, _, f, _⟩ := sr.owned z
      rw [f] at h; cases h
    rw [fdn_not nz]
    exact gr.f a o (sr.exUp a o h)
  · by_cases z : Owned σ ρ a
    · rw [fdn_own z] at h; cases h
    · rw [fdn_not z] at h; exact gr.fh a o h
  · by_cases z : Owned σ ρ a
    · rw [fdn_own z] at h; cases h
    · rw [fdn_not z] at h
      rcases gr.fr a o h with y | y
      · rw [fup_not z] at y; exact .inl y
      · exact .inr y
mutual
theorem dp_noL {F : Hp} {O : Addr → Prop} {F' : Hp} (h : ∀ a, ¬ O a → F' a = F a) (hl : ∀ a, O a → ∃ xs, F a = some (.lst xs)) : ∀ (d : D) (v : V), noL d = true → Dp K F v d → Dp K F' v d
  | .none, _, _, .non => .non
  | .bool _, _, _, .bl b => .bl b
  | .int _, _, _, .int i => .int i
  | .str _, _, _, .str x => .str x
  | .tuple ds, _, c, .tup (a := a) (xs := xs) h1 h2 => by
    refine .tup (xs := xs) ?_ (dpa_noL h hl ds _ (by simpa [noL] using c) h2)
    rcases h1 with h1 | h1
    · have no : ¬ O a := fun z => by
        obtain ⟨ys, hy⟩ := hl a z
        rcases h1 with h1 | ⟨o, h1⟩ <;> (rw [hy] at h1; cases h1)
      rcases h1 with h1 | ⟨o, h1⟩
      · exact .inl (.inl (by rw [h a no]; exact h1))
      · exact .inl (.inr ⟨o, by rw [h a no]; exact h1⟩)
    · exact .inr h1
  | .list ds, _, c, _ => by simp [noL] at c
  | .dict ds, _, c, _ => by simp [noL] at c
theorem dpa_noL {F : Hp} {O : Addr → Prop} {F' : Hp} (h : ∀ a, ¬ O a → F' a = F a) (hl : ∀ a, O a → ∃ xs, F a = some (.lst xs)) : ∀ (ds : List D) (vs : List V), noLs ds = true → DpAll K F vs ds → DpAll K F' vs ds
  | [], _, _, .nil => .nil
  | d :: ds, _, c, .cons h1 h2 => by
    have c' : noL d = true ∧ noLs ds = true := by simpa [noLs] using c
    exact .cons (dp_noL h hl d _ c'.1 h1) (dpa_noL h hl ds _ c'.2 h2)
end
theorem SR.dnl {F' H' : Hp} (sr : SR K g F H σ ρ n) (gr : Grow none (Fup F H σ ρ) H F' H') : ∀ a, Owned σ ρ a → ∃ xs, F' a = some (.lst xs) := fun a z => by
  obtain ⟨xs, h1, _, _⟩ := sr.owned z
  exact ⟨xs, gr.f a _ (by rw [fup_own z]; exact h1)⟩
end
def dView (t : DT) : DT := fun ρ n P => t (view ρ) n fun d n' => noL d = true ∧ n' = n ∧ P d n
def bView (t : DB) : DB := fun ρ n P => t (view ρ) n fun b n' => n' = n ∧ P b n
def lView (t : DL_) : DL_ := fun ρ n P => t (view ρ) n fun ds n' => noLs ds = true ∧ n' = n ∧ P ds n
theorem e_view (h : ∀ g', E X g' e t) : E X g e (dView t) := by
  refine ⟨fun σ H Q => ∃ g', Classical.choose (h g').ok σ H Q, ⟨fun pins s σ H Q I ⟨g', hq⟩ => (Classical.choose_spec (h g').ok).1.run pins s σ H Q I hq⟩, fun σ F H ρ n P Q sr p k => ?_⟩
  refine ⟨⟨H, Fup F H σ ρ, none, g.xp⟩, (Classical.choose_spec (h ⟨H, Fup F H σ ρ, none, g.xp⟩).ok).2 σ _ H (view ρ) n _ Q sr.up p fun d n' v F' H' ⟨hd, en, p'⟩ gr sr' dv => ?_⟩
  have gd := sr.down gr
  exact k d n v _ H' p' gd.any (sr.grow gd) (dp_noL (O := Owned σ ρ) (fun a z => fdn_not z) (sr.dnl gr) d v hd dv)
theorem b_view {u : DB} (h : ∀ g', B X g' e u) : B X g e (bView u) := by
  refine ⟨fun σ H Q => ∃ g', Classical.choose (h g').ok σ H Q, ⟨fun pins s σ H Q I ⟨g', hq⟩ => (Classical.choose_spec (h g').ok).1.run pins s σ H Q I hq⟩, fun σ F H ρ n P Q sr p k => ?_⟩
  refine ⟨⟨H, Fup F H σ ρ, none, g.xp⟩, (Classical.choose_spec (h ⟨H, Fup F H σ ρ, none, g.xp⟩).ok).2 σ _ H (view ρ) n _ Q sr.up p fun b n' F' H' ⟨en, p'⟩ gr sr' => ?_⟩
  have gd := sr.down gr
  exact k b n _ H' p' gd.any (sr.grow gd)
theorem l_view {u : DL_} (h : ∀ g', Ls X g' e u) : Ls X g e (lView u) := by
  refine ⟨fun σ H Q => ∃ g', Classical.choose (h g').ok σ H Q, ⟨fun pins s σ H Q I ⟨g', hq⟩ => (Classical.choose_spec (h g').ok).1.run pins s σ H Q I hq⟩, fun σ F H ρ n P Q sr p k => ?_⟩
  refine ⟨⟨H, Fup F H σ ρ, none, g.xp⟩, (Classical.choose_spec (h ⟨H, Fup F H σ ρ, none, g.xp⟩).ok).2 σ _ H (view ρ) n _ Q sr.up p fun ds n' q xs F' H' ⟨hd, en, p'⟩ gr sr' fr hn hq da => ?_⟩
  have gd := sr.down gr
  have no : ¬ Owned σ ρ q := fun z => by
    obtain ⟨ys, hy, _, _⟩ := sr.owned z
    rw [hn] at hy; cases hy
  refine k ds n q xs _ H' p' gd.any (sr.grow gd) ⟨by rw [fdn_not no]; exact fr.f, sr.gr.dm q hn, fun i ds e z => no ⟨i, ds, e, z⟩⟩ hn hq (dpa_noL (O := Owned σ ρ) (fun a z => fdn_not z) (sr.dnl gr) ds xs hd da)
/-! ### own lists changed -/
theorem SR.setOwn {F H : Hp} {σ : L2.St} {ρ : Sl} {n i : Nat} {ds es : List D} {l : Addr} {xs ys : List V} (sr : SR K g F H σ ρ n) (hi : ρ[i]? = some (some (.o ds))) (hs : σ[i]? = some (some (.ref l))) (hl : H l = some (.lst xs)) (da : DpAll K F ys es) : SR K g F (upd H l (.lst ys)) σ (ρ.set i (some (.o es))) n := by
  obtain ⟨v, hv, l', xs', rfl, b, f, hl', da'⟩ := sr.sl i _ hi
  rw [hs] at hv
  cases hv
  have hir : i < ρ.length := (List.getElem?_eq_some_iff.mp hi).1
  -- forget slot i, change the list, set it again
  have s1 : SR K g F H σ (ρ.set i none) n := by
    have := sr.forget (i := i) (v := some (.ref l))
    have e : σ.set i (some (.ref l)) = σ := by
      apply List.ext_getElem?
      intro j
      by_cases c : j = i
      · subst c; rw [List.getElem?_set_self (by rw [← sr.len]; exact hir), hs]
      · rw [List.getElem?_set_ne (Ne.symm c)]
    rw [e] at this
    exact this
  have no : ∀ (j : Nat) (es : List D), (ρ.set i none)[j]? = some (some (.o es)) → σ[j]? ≠ some (some (.ref l)) := fun j es e z => by
    by_cases c : j = i
    · subst c; rw [List.getElem?_set_self hir] at e; cases e
    · rw [List.getElem?_set_ne (Ne.symm c)] at e
      exact c (sr.inj j i l es ds e hi z hs)
  have s2 := s1.updFree (o := .lst ys) hl f b no
  have s3 := s2.set (i := i) (v := .ref l) (s := .o es) ⟨l, ys, rfl, b, f, upd_same, da⟩ fun ds' l2 _ e2 j es' _ e3 => by cases e2; exact no j es' e3
  have e : σ.set i (some (.ref l)) = σ := by
    apply List.ext_getElem?
    intro j
    by_cases c : j = i
    · subst c; rw [List.getElem?_set_self (by rw [← sr.len]; exact hir), hs]
    · rw [List.getElem?_set_ne (Ne.symm c)]
  rw [e, List.set_set] at s3
  exact s3
def dAppend (i : Nat) (t : DT) : DS := fun P ρ n => ∃ ds, ρ[i]? = some (some (.o ds)) ∧ ds.length < 100000 ∧ t ρ n fun d n' => P.nx (ρ.set i (some (.o (ds ++ [d])))) n'

theorem SR.own {F H : Hp} {σ : L2.St} {ρ : Sl} {n i : Nat} {ds : List D} (sr : SR K g F H σ ρ n) (hi : ρ[i]? = some (some (.o ds))) : ∃ l xs, σ[i]? = some (some (.ref l)) ∧ H l = some (.lst xs) ∧ DpAll K F xs ds := by
  obtain ⟨v, hv, l, xs, rfl, _, _, hl, da⟩ := sr.sl i _ hi
  exact ⟨l, xs, hv, hl, da⟩
/-- x.append(e): first x, then e, then the change -/
theorem st_append (i : Nat) {x : Str} {px ap cp : Pos} (h : E X g e t) (hN : X.N[i]? = some x := by rfl) (hv : Vis X.env.scope x := by first | exact Or.inl rfl | exact Or.inr (Or.inl rfl) | exact Or.inr (Or.inr rfl)) (hd : (x == ("__debug__" : Str)) = false := by decide)
    (hcd : (x == ("__classdict__" : Str)) = false := by decide) (h1 : attributeBase (.Name x px) "append" X.env (eval (.Name x px) X.env) = eval (.Name x px) X.env := by rfl)
    (h2 : ((((backTo cp (starEach [e] X.env)).all fun x => !x.fst) && (backToKw cp (keywordEach [] X.env)).all fun x => x.fst.isSome) && decide (([e].length + ([] : List Keyword).length + if ([] : List Keyword).isEmpty = true then 0 else 1) < 30)) = true := by rfl)
    (h3 : (ap.endLine == cp.line) = true := by rfl) (h4 : starEach [e] X.env = (false, eval e X.env) :: starEach [] X.env := by rfl) (h5 : ((backTo cp (starEach [] X.env)).any fun x => x.fst) = false := by rfl)
    (hs : swapsWith (.Call (.Attribute (.Name x px) "append" ap) [e] [] cp) none pos.line X.env = pure false := by rfl) : St X g (.Expr (.Call (.Attribute (.Name x px) "append" ap) [e] [] cp) pos) (dAppend i t) := by
  obtain ⟨te, p1, q1⟩ := h
  refine ⟨_, ps_expr (pe_bm PySem.F.plainAttrs_list PySem.F.slot_list_append PySem.F.type_list_append mt_append (pe_var hN hv hd hcd) (pa_cons p1 pa_nil h4) h1 h2 h3 h4 h5) hs, fun σ F H ρ n P E sr p k1 k2 k3 k4 => ?_⟩
  obtain ⟨ds, hi, hl, p⟩ := p
  obtain ⟨l, xs, hσ, hx, da⟩ := sr.own hi
  refine ⟨_, hσ, .inl ⟨rfl, xs, SqL.of hx⟩, q1 σ F H ρ n _ _ sr p fun d n' v F' H' p' gr sr' dv => ?_⟩
  obtain ⟨l', xs', hσ', hx', da'⟩ := sr'.own hi
  rw [hσ] at hσ'
  cases hσ'
  refine ⟨l, xs', v, rfl, rfl, hx', by rw [dpa_len da']; exact Evl.sz_lt hl, ?_⟩
  exact k1 _ n' σ F' _ p' gr.f (sr'.setOwn hi hσ hx' (dpa_app da' (.cons dv .nil)))
/-- y.pop(e) as a value -/
def PopAt (ds : List D) (i : Int) (d : D) (es : List D) : Prop := ∃ k, -(2 ^ 63) ≤ i ∧ i < 2 ^ 63 ∧ seqIndex? i ds.length = some k ∧ ds[k]? = some d ∧ es = ds.eraseIdx k
/-- x.append(y.pop(e)) -/
def dAppPop (i j : Nat) (t : DT) : DS := fun P ρ n => ∃ ds es, ρ[i]? = some (some (.o ds)) ∧ ds.length < 100000 ∧ i ≠ j ∧ ρ[j]? = some (some (.o es)) ∧ t ρ n fun d n' => ∃ z y es', d = .int z ∧ PopAt es z y es' ∧ P.nx ((ρ.set j (some (.o es'))).set i (some (.o (ds ++ [y])))) n'
theorem st_appPop (i j : Nat) {x y : Str} {px ap cp py ap2 cp2 : Pos} (h : E X g e t) (hN : X.N[i]? = some x := by rfl) (hv : Vis X.env.scope x := by first | exact Or.inl rfl | exact Or.inr (Or.inl rfl) | exact Or.inr (Or.inr rfl)) (hd : (x == ("__debug__" : Str)) = false := by decide)
    (hcd : (x == ("__classdict__" : Str)) = false := by decide) (hN2 : X.N[j]? = some y := by rfl) (hv2 : Vis X.env.scope y := by first | exact Or.inl rfl | exact Or.inr (Or.inl rfl) | exact Or.inr (Or.inr rfl)) (hd2 : (y == ("__debug__" : Str)) = false := by decide) (hcd2 : (y == ("__classdict__" : Str)) = false := by decide)
    (h1 : attributeBase (.Name x px) "append" X.env (eval (.Name x px) X.env) = eval (.Name x px) X.env := by rfl)
    (h2 : ((((backTo cp (starEach [.Call (.Attribute (.Name y py) "pop" ap2) [e] [] cp2] X.env)).all fun x => !x.fst) && (backToKw cp (keywordEach [] X.env)).all fun x => x.fst.isSome) && decide (([Expr.Call (.Attribute (.Name y py) "pop" ap2) [e] [] cp2].length + ([] : List Keyword).length + if ([] : List Keyword).isEmpty = true then 0 else 1) < 30)) = true := by rfl)
    (h3 : (ap.endLine == cp.line) = true := by rfl) (h4 : starEach [.Call (.Attribute (.Name y py) "pop" ap2) [e] [] cp2] X.env = (false, eval (.Call (.Attribute (.Name y py) "pop" ap2) [e] [] cp2) X.env) :: starEach [] X.env := by rfl) (h5 : ((backTo cp (starEach [] X.env)).any fun x => x.fst) = false := by rfl)
    (h21 : attributeBase (.Name y py) "pop" X.env (eval (.Name y py) X.env) = eval (.Name y py) X.env := by rfl)
    (h22 : ((((backTo cp2 (starEach [e] X.env)).all fun x => !x.fst) && (backToKw cp2 (keywordEach [] X.env)).all fun x => x.fst.isSome) && decide (([e].length + ([] : List Keyword).length + if ([] : List Keyword).isEmpty = true then 0 else 1) < 30)) = true := by rfl)
    (h23 : (ap2.endLine == cp2.line) = true := by rfl) (h24 : starEach [e] X.env = (false, eval e X.env) :: starEach [] X.env := by rfl) (h25 : ((backTo cp2 (starEach [] X.env)).any fun x => x.fst) = false := by rfl)
    (hs : swapsWith (.Call (.Attribute (.Name x px) "append" ap) [.Call (.Attribute (.Name y py) "pop" ap2) [e] [] cp2] [] cp) none pos.line X.env = pure false := by rfl) : St X g (.Expr (.Call (.Attribute (.Name x px) "append" ap) [.Call (.Attribute (.Name y py) "pop" ap2) [e] [] cp2] [] cp) pos) (dAppPop i j t) := by
  obtain ⟨te, p1, q1⟩ := h
  refine ⟨_, ps_expr (pe_bm PySem.F.plainAttrs_list PySem.F.slot_list_append PySem.F.type_list_append mt_append (pe_var hN hv hd hcd) (pa_cons (pe_bm PySem.F.plainAttrs_list PySem.F.slot_list_pop PySem.F.type_list_pop mt_popAt (pe_var hN2 hv2 hd2 hcd2) (pa_cons p1 pa_nil h24) h21 h22 h23 h24 h25) pa_nil h4) h1 h2 h3 h4 h5) hs, fun σ F H ρ n P E sr p k1 k2 k3 k4 => ?_⟩
  obtain ⟨ds, es, hi, hl, ij, hj, p⟩ := p
  obtain ⟨l, xs, hσ, hx, da⟩ := sr.own hi
  obtain ⟨l2, xs2, hσ2, hx2, da2⟩ := sr.own hj
  refine ⟨_, hσ, .inl ⟨rfl, xs, SqL.of hx⟩, _, hσ2, .inl ⟨rfl, xs2, SqL.of hx2⟩, q1 σ F H ρ n _ _ sr p fun d n' v F' H' ⟨z, yd, es', ed, ⟨kk, b1, b2, b3, b4, b5⟩, p'⟩ gr sr' dv => ?_⟩
  subst ed
  cases dv
  obtain ⟨l', xs', hσ', hx', da'⟩ := sr'.own hi
  rw [hσ] at hσ'
  cases hσ'
  obtain ⟨l2', xs2', hσ2', hx2', da2'⟩ := sr'.own hj
  rw [hσ2] at hσ2'
  cases hσ2'
  obtain ⟨yv, hyv, dy⟩ := dpa_get' da2' b4
  have ne : l ≠ l2 := fun q => ij (sr'.inj i j l ds es hi hj hσ (by rw [q]; exact hσ2))
  refine ⟨l2, xs2', z, kk, yv, rfl, rfl, hx2', b1, b2, by rw [dpa_len da2']; exact b3, hyv, ?_⟩
  have s2 := sr'.setOwn hj hσ2 hx2' (dpa_erase kk da2')
  rw [← b5] at s2
  have hx3 : (upd H' l2 (.lst (xs2'.eraseIdx kk))) l = some (.lst xs') := by rw [upd_ne ne]; exact hx'
  refine ⟨l, xs', yv, rfl, rfl, hx3, by rw [dpa_len da']; exact Evl.sz_lt hl, ?_⟩
  have hi2 : (ρ.set j (some (.o es')))[i]? = some (some (.o ds)) := by rw [List.getElem?_set_ne (Ne.symm ij)]; exact hi
  exact k1 _ n' σ F' _ p' gr.f (s2.setOwn hi2 hσ hx3 (dpa_app da' (.cons dy .nil)))
/-- x.reverse() -/
def dRev (i : Nat) : DS := fun P ρ n => ∃ ds, ρ[i]? = some (some (.o ds)) ∧ P.nx (ρ.set i (some (.o ds.reverse))) n
theorem st_rev (i : Nat) {x : Str} {px ap cp : Pos} (hN : X.N[i]? = some x := by rfl) (hv : Vis X.env.scope x := by first | exact Or.inl rfl | exact Or.inr (Or.inl rfl) | exact Or.inr (Or.inr rfl)) (hd : (x == ("__debug__" : Str)) = false := by decide)
    (hcd : (x == ("__classdict__" : Str)) = false := by decide) (hpe : ∀ {r : V → List V → Hp → VK → Prop}, MtR X "list.reverse" r → PE X (.Name x px) (tVar i) → PE X (.Call (.Attribute (.Name x px) "reverse" ap) [] [] cp) (tBM0 X.K "list" r (tVar i)) := by exact fun hm ho => pe_bm0 PySem.F.plainAttrs_list PySem.F.slot_list_reverse PySem.F.type_list_reverse hm ho)
    (hs : swapsWith (.Call (.Attribute (.Name x px) "reverse" ap) [] [] cp) none pos.line X.env = pure false := by rfl) : St X g (.Expr (.Call (.Attribute (.Name x px) "reverse" ap) [] [] cp) pos) (dRev i) := by
  refine ⟨_, ps_expr (hpe mt_reverse (pe_var hN hv hd hcd)) hs, fun σ F H ρ n P E sr p k1 k2 k3 k4 => ?_⟩
  obtain ⟨ds, hi, p⟩ := p
  obtain ⟨l, xs, hσ, hx, da⟩ := sr.own hi
  exact ⟨_, hσ, .inl ⟨rfl, xs, SqL.of hx⟩, l, xs, rfl, rfl, hx, k1 _ n σ F _ p (Evl.Ex.refl F) (sr.setOwn hi hσ hx (dpa_rev da))⟩
/-- x += e, a list of the def's own -/
def dExt (i : Nat) (t : DT) : DS := fun P ρ n => ∃ ds, ρ[i]? = some (some (.o ds)) ∧ t ρ n fun d n' => ∃ es, d = .list es ∧ ds.length + es.length ≤ 100000 ∧ P.nx (ρ.set i (some (.o (ds ++ es)))) n'
theorem st_ext (i : Nat) {x : Str} {px : Pos} (h : E X g e t) (hN : X.N.Nodup) (hi : X.N[i]? = some x := by rfl) (hx : Loc X.env.scope x := by first | exact Or.inl rfl | exact Or.inr rfl) (hf : X.fn x = true ∨ X.env.scope.names.lookup x = some .local := by first | exact .inl rfl | exact .inr rfl) :
    St X g (.AugAssign (.Name x px) .Add e pos) (dExt i t) := by
  obtain ⟨te, p1, q1⟩ := h
  refine ⟨_, ps_aug hN hi hx p1 iop_ext hf, fun σ F H ρ n P E sr p k1 k2 k3 k4 => ?_⟩
  obtain ⟨ds, hi, p⟩ := p
  obtain ⟨l, xs, hσ, hx, da⟩ := sr.own hi
  refine ⟨_, hσ, q1 σ F H ρ n _ _ sr p fun d n' v F' H' ⟨es, ed, hl, p'⟩ gr sr' dv => ?_⟩
  subst ed
  obtain ⟨q, ys, rfl, h3, h4⟩ := dp_list dv
  obtain ⟨l', xs', hσ', hx', da'⟩ := sr'.own hi
  rw [hσ] at hσ'
  cases hσ'
  refine ⟨l, q, xs', ys, rfl, rfl, hx', sr'.ex _ _ h3, by rw [dpa_len da', dpa_len h4]; exact Evl.sz_of hl, ?_⟩
  have e : σ.set i (some (.ref l)) = σ := by
    apply List.ext_getElem?
    intro j
    by_cases c : j = i
    · subst c; rw [List.getElem?_set_self ((List.getElem?_eq_some_iff.mp hσ).1), hσ]
    · rw [List.getElem?_set_ne (Ne.symm c)]
  show E.nx (σ.set i (some (.ref l))) _
  rw [e]
  exact k1 _ n' σ F' _ p' gr.f (sr'.setOwn hi hσ hx' (dpa_app da' h4))
/-- x[i] = e, a list of the def's own -/
def dPut (i : Nat) (ti te : DT) : DS := fun P ρ n => te ρ n fun d n1 => ∃ ds, ρ[i]? = some (some (.o ds)) ∧ ti ρ n1 fun z n2 => ∃ k j, z = .int k ∧ ixN ds.length k = some j ∧ P.nx (ρ.set i (some (.o (ds.set j d)))) n2
theorem dpa_set {F : Hp} {v : V} {d : D} (hv : Dp K F v d) : ∀ {vs : List V} {ds : List D} (j : Nat), DpAll K F vs ds → DpAll K F (vs.set j v) (ds.set j d)
  | _, _, _, .nil => by simpa using DpAll.nil
  | _, _, 0, .cons _ t => .cons hv t
  | _, _, j + 1, .cons h t => .cons h (dpa_set hv j t)
/-- own list number i is frozen for good -/
def dFreeze (i : Nat) (t : DS) : DS := fun P ρ n => ∃ ds, ρ[i]? = some (some (.o ds)) ∧ t P (ρ.set i (some (.d (.list ds)))) n
theorem ss_freeze {i : Nat} {ts : TS} {t : DS} (h : SS K g ts t) : SS K g ts (dFreeze i t) := fun σ F H ρ n P E sr ⟨ds, hi, p⟩ k1 k2 k3 k4 => by
  obtain ⟨v, hv, l, xs, rfl, b, f, hl, da⟩ := sr.sl i _ hi
  have hir : i < ρ.length := (List.getElem?_eq_some_iff.mp hi).1
  have e : σ.set i (some (.ref l)) = σ := by
    apply List.ext_getElem?
    intro j
    by_cases c : j = i
    · subst c; rw [List.getElem?_set_self (by rw [← sr.len]; exact hir), hv]
    · rw [List.getElem?_set_ne (Ne.symm c)]
  have s1 : SR K g F H σ (ρ.set i none) n := by
    have := sr.forget (i := i) (v := some (.ref l))
    rw [e] at this
    exact this
  have fr : Free g F σ (ρ.set i none) l := ⟨f, b, fun j es e1 z => by
    by_cases c : j = i
    · subst c; rw [List.getElem?_set_self hir] at e1; cases e1
    · rw [List.getElem?_set_ne (Ne.symm c)] at e1
      exact c (sr.inj j i l es ds e1 hi z hv)⟩
  have ef : Ex F (upd F l (.lst xs)) := Evl.Ex.new f
  have s2 := (s1.freeze fr hl).setD (i := i) (v := .ref l) (d := .list ds) (.lst upd_same (dpa_ex ef _ _ da))
  rw [e, List.set_set] at s2
  exact h σ _ H _ n P E s2 p (fun _ _ _ _ _ q y => k1 _ _ _ _ _ q (ef.trans y)) k2 (fun _ _ _ _ _ q y => k3 _ _ _ _ _ q (ef.trans y)) (fun _ _ _ _ _ q y => k4 _ _ _ _ _ q (ef.trans y))
theorem st_frz {st : Stmt} {t : DS} (i : Nat) (h : St X g st t) : St X g st (dFreeze i t) := by
  obtain ⟨te, p1, q1⟩ := h
  exact ⟨_, p1, ss_freeze q1⟩
theorem s_frz {st : List Stmt} {t : DS} (i : Nat) (h : Sts X g st t) : Sts X g st (dFreeze i t) := by
  obtain ⟨te, p1, q1⟩ := h
  exact ⟨_, p1, ss_freeze q1⟩
end
end DL

namespace DL
open PySem L2
section
variable {X : Cx} {g : G} {a b c e : Expr} {es : List Expr} {ta tb tc t : DT} {pos : Pos} {u : DA} {K : Fg}
/-! ### match on a text -/
abbrev DM := Str → DEnds → Sl → Nat → Prop
structure Ms (X : Cx) (g : G) (cs : List MatchCase) (t : DM) : Prop where
  ok : ∀ (first : Bool) (pins : List (Addr × Obj)) (s : Shared) (σ : L2.St) (F0 F H : Hp) (ρ : Sl) (n : Nat) (z : Str) (tk : Tok) (P : DEnds) (E : Ends), Ex F0 F → Inv X pins σ H s → SR X.K g F H σ ρ n → t z P ρ n →
    (∀ ρ' n' σ' F' H', P.nx ρ' n' → Ex F0 F' → SR X.K g F' H' σ' ρ' n' → E.nx σ' H') →
    (∀ d n' σ' ρ' v F' H', P.rt d n' → SR X.K g F' H' σ' ρ' n' → Dp X.K F' v d → E.rt v H') →
    (∀ ρ' n' σ' F' H', P.bk ρ' n' → Ex F0 F' → SR X.K g F' H' σ' ρ' n' → E.bk σ' H') →
    (∀ ρ' n' σ' F' H', P.ct ρ' n' → Ex F0 F' → SR X.K g F' H' σ' ρ' n' → E.ct σ' H') →
    wpAny (model X.prog X.w) X.A (matchCases cs X.env (.str z tk) first) (SP X pins E) X.xe s
def mNil : DM := fun _ P ρ n => P.nx ρ n
def mStr (k : Str) (b : DS) (r : DM) : DM := fun z P ρ n => if z = k then b P ρ n else r z P ρ n
def mAny (b : DS) : DM := fun _ P ρ n => b P ρ n
variable {body : List Stmt} {tb' : DS} {rest : List MatchCase} {tr : DM}
theorem m_nil : Ms X g [] mNil := ⟨fun _ pins s σ F0 F H ρ n z tk P E x I sr p k1 _ _ _ => wpAny_matchCases_nil ⟨σ, H, I, k1 ρ n σ F H p x sr⟩⟩
theorem m_str {k : Str} {j : Nat} {p1 p2 : Pos} (hb : Sts X g body tb') (hr : Ms X g rest tr) : Ms X g (⟨.MatchValue (.Constant (.str k) j p1) p2, none, body⟩ :: rest) (mStr k tb' tr) := by
  refine ⟨fun first pins s σ F0 F H ρ n z tk P E x I sr p k1 k2 k3 k4 => wpAny_matchCases_cons (wpAny_matchPattern_Value ?_)⟩
  refine Calls.Constant_str ?_
  refine PyProof.Rows.eq_str ?_
  refine wpAny_truthy_bool ?_
  obtain ⟨te, p1, q1⟩ := hb
  have I' := I.tok (s.toks + 1)
  by_cases hz : z = k
  · unfold mStr at p
    rw [if_pos hz] at p
    subst hz
    rw [if_pos (by simp)]
    refine wpAny_assignInOrder_none ?_
    exact p1.run pins _ σ H E I' (q1 σ F H ρ n P E sr p (fun _ _ _ _ _ q y => k1 _ _ _ _ _ q (x.trans y)) k2 (fun _ _ _ _ _ q y => k3 _ _ _ _ _ q (x.trans y)) (fun _ _ _ _ _ q y => k4 _ _ _ _ _ q (x.trans y)))
  · unfold mStr at p
    rw [if_neg hz] at p
    rw [if_neg (by simpa using hz)]
    exact hr.ok false pins _ σ F0 F H ρ n z tk P E x I' sr p k1 k2 k3 k4
theorem m_any {p2 : Pos} (hb : Sts X g body tb') : Ms X g (⟨.MatchAs none none p2, none, body⟩ :: rest) (mAny tb') := by
  refine ⟨fun first pins s σ F0 F H ρ n z tk P E x I sr p k1 k2 k3 k4 => wpAny_matchCases_cons (wpAny_matchPattern_Capture ?_)⟩
  obtain ⟨te, p1, q1⟩ := hb
  refine wpAny_assignInOrder_none ?_
  exact p1.run pins _ σ H E I (q1 σ F H ρ n P E sr p (fun _ _ _ _ _ q y => k1 _ _ _ _ _ q (x.trans y)) k2 (fun _ _ _ _ _ q y => k3 _ _ _ _ _ q (x.trans y)) (fun _ _ _ _ _ q y => k4 _ _ _ _ _ q (x.trans y)))
def dMatch (t : DT) (m : DM) : DS := fun P ρ n => t ρ n fun d n1 => ∃ z, d = .str z ∧ m z P ρ n1
theorem st_match {cs : List MatchCase} {m : DM} (h : E X g e t) (hm : Ms X g cs m) : St X g (.Match e cs pos) (dMatch t m) := by
  obtain ⟨te, p1, q1⟩ := h
  refine ⟨fun D σ H => ∃ (F0 F : Hp) (ρ : Sl) (n : Nat) (P : DEnds), F0 = F ∧ SR X.K g F H σ ρ n ∧ dMatch t m P ρ n ∧
    (∀ ρ' n' σ' F' H', P.nx ρ' n' → Ex F0 F' → SR X.K g F' H' σ' ρ' n' → D.nx σ' H') ∧ (∀ d n' σ' ρ' v F' H', P.rt d n' → SR X.K g F' H' σ' ρ' n' → Dp X.K F' v d → D.rt v H') ∧
    (∀ ρ' n' σ' F' H', P.bk ρ' n' → Ex F0 F' → SR X.K g F' H' σ' ρ' n' → D.bk σ' H') ∧ (∀ ρ' n' σ' F' H', P.ct ρ' n' → Ex F0 F' → SR X.K g F' H' σ' ρ' n' → D.ct σ' H'), ⟨fun pins s σ H D I h => ?_⟩, fun σ F H ρ n P E sr p k1 k2 k3 k4 => ⟨F, F, ρ, n, P, rfl, sr, p, k1, k2, k3, k4⟩⟩
  obtain ⟨F0, F, ρ, n, P, rfl, sr, p, k1, k2, k3, k4⟩ := h
  refine wpAny_Match (thn (p1.run pins s σ H (fun v H' => ∃ z n' F', v = .str z ∧ Ex F0 F' ∧ SR X.K g F' H' σ ρ n' ∧ m z P ρ n') I (q1 σ F0 H ρ n _ _ sr p fun d n' v F' H' ⟨z, ez, pz⟩ gr sr' dv => ?_)) fun v s1 hv => ?_)
  · subst ez
    cases dv
    exact ⟨z, n', F', rfl, gr.f, sr', pz⟩
  · obtain ⟨x, H1, I1, rx, z, n', F', rfl, ex, sr', pz⟩ := hv
    obtain ⟨tk, rfl⟩ := rx
    exact hm.ok true pins s1 σ F0 F' H1 ρ n' z tk P D ex I1 sr' pz k1 k2 k3 k4
end
end DL

namespace DL
open PySem L2
section
variable {X : Cx} {g : G} {a b c e : Expr} {es : List Expr} {ta tb tc t : DT} {pos : Pos} {u : DA} {K : Fg}
/-! ### a, b = e1, e2 -/
theorem set2 {K : Fg} {F H : Hp} {σ : L2.St} {ρ : Sl} {n i j : Nat} {v w : V} {d e : D} (sr : SR K g F H σ ρ n) (dv : Dp K F v d) (dw : Dp K F w e) : SR K g F H ((σ.set i (some v)).set j (some w)) ((ρ.set i (some (.d d))).set j (some (.d e))) n := (sr.setD dv).setD dw
section
variable {i j : Nat} {x y : Str} {px py pt pt2 : Pos} {kt k2 : Nat}
def dParDD (i j : Nat) (ta tb : DT) : DS := fun P ρ n => ta ρ n fun d n1 => tb ρ n1 fun e n2 => P.nx ((ρ.set i (some (.d d))).set j (some (.d e))) n2
def dParLL (i j : Nat) (ta tb : DL_) : DS := fun P ρ n => ta ρ n fun d n1 => tb ρ n1 fun e n2 => P.nx ((ρ.set i (some (.o d))).set j (some (.o e))) n2
def dParLD (i j : Nat) (ta : DL_) (tb : DT) : DS := fun P ρ n => ta ρ n fun d n1 => tb ρ n1 fun e n2 => P.nx ((ρ.set i (some (.o d))).set j (some (.d e))) n2
def dParDL (i j : Nat) (ta : DT) (tb : DL_) : DS := fun P ρ n => ta ρ n fun d n1 => tb ρ n1 fun e n2 => P.nx ((ρ.set i (some (.d d))).set j (some (.o e))) n2
theorem st_parDD (i j : Nat) (ha : E X g a ta) (hb : E X g b tb) (hN : X.N.Nodup) (hc : X.calm = true := by rfl) (hi : X.N[i]? = some x := by rfl) (hj : X.N[j]? = some y := by rfl) (hij : i ≠ j := by decide) (hx : X.env.scope.names.lookup x = some .local := by rfl) (hy : X.env.scope.names.lookup y = some .local := by rfl)
    (hs : swappedStores [.Tuple [.Name x px, .Name y py] kt pt] (.Tuple [a, b] k2 pt2) X.env = pure (some [x, y]) := by rfl) (hs2 : swapsWithSole [.Tuple [.Name x px, .Name y py] kt pt] (.Tuple [a, b] k2 pt2) pos.line X.env = pure false := by rfl)
    (h1 : starEach [a, b] X.env = (false, eval a X.env) :: starEach [b] X.env := by rfl) (h2 : starEach [b] X.env = (false, eval b X.env) :: starEach [] X.env := by rfl) :
    St X g (.Assign [.Tuple [.Name x px, .Name y py] kt pt] (.Tuple [a, b] k2 pt2) pos) (dParDD i j ta tb) := by
  obtain ⟨te, p1, q1⟩ := ha
  obtain ⟨te', p2, q2⟩ := hb
  refine ⟨_, ps_par hc hN hi hj hij hx hy (pa_cons p1 (pa_cons p2 pa_nil h2) h1) hs hs2, fun σ F H ρ n P E sr p k1 k2 k3 k4 => ?_⟩
  refine q1 σ F H ρ n _ _ sr p fun d n1 v F1 H1 p1 g1 sr1 dv => q2 σ F1 H1 ρ n1 _ _ sr1 p1 fun e n2 w F2 H2 p2 g2 sr2 dw => ⟨v, w, rfl, ?_⟩
  exact k1 _ n2 _ F2 H2 p2 (g1.trans g2).f ((sr2.setD (dp_ex g2.f _ _ dv)).setD dw)
theorem own_kept {K : Fg} {F1 H1 F2 H2 : Hp} {σ : L2.St} {ρ : Sl} {n : Nat} {p : Addr} {xs : List V} (sr : SR K g F1 H1 σ ρ n) (fr : Free g F1 σ ρ p) (hp : H1 p = some (.lst xs)) (gr : Grow g.m F1 H1 F2 H2) : Free g F2 σ ρ p ∧ H2 p = some (.lst xs) := by
  have nm : some p ≠ g.m := fun z => by
    obtain ⟨_, _, _, _, _, q, _⟩ := sr.mc p z.symm
    rw [q] at hp; cases hp
  refine ⟨⟨?_, fr.b, fr.no⟩, gr.h p _ nm hp⟩
  cases z : F2 p with
  | none => rfl
  | some o =>
    rcases gr.fr p o z with w | w
    · rw [fr.f] at w; cases w
    · rw [hp] at w; cases w
theorem Free.set {K : Fg} {F H : Hp} {σ : L2.St} {ρ : Sl} {n i : Nat} {p q : Addr} {xs : List V} {v : V} {s : S} (sr : SR K g F H σ ρ n) (fr : Free g F σ ρ q) (ne : ∀ ds, s = .o ds → v ≠ .ref q) : Free g F (σ.set i (some v)) (ρ.set i (some s)) q := by
  refine ⟨fr.f, fr.b, fun j ds e z => ?_⟩
  by_cases c : j = i
  · subst c
    have hl : j < ρ.length := by
      by_cases hl : j < ρ.length
      · exact hl
      · rw [List.getElem?_eq_none (by rw [List.length_set]; omega)] at e; cases e
    rw [List.getElem?_set_self hl] at e
    rw [List.getElem?_set_self (sr.len ▸ hl)] at z
    cases e
    exact ne ds rfl (Option.some.inj (Option.some.inj z))
  · rw [List.getElem?_set_ne (Ne.symm c)] at e z
    exact fr.no j ds e z
theorem st_parLL (i j : Nat) {ta tb : DL_} (ha : Ls X g a ta) (hb : Ls X g b tb) (hN : X.N.Nodup) (hc : X.calm = true := by rfl) (hi : X.N[i]? = some x := by rfl) (hj : X.N[j]? = some y := by rfl) (hij : i ≠ j := by decide) (hx : X.env.scope.names.lookup x = some .local := by rfl) (hy : X.env.scope.names.lookup y = some .local := by rfl)
    (hs : swappedStores [.Tuple [.Name x px, .Name y py] kt pt] (.Tuple [a, b] k2 pt2) X.env = pure (some [x, y]) := by rfl) (hs2 : swapsWithSole [.Tuple [.Name x px, .Name y py] kt pt] (.Tuple [a, b] k2 pt2) pos.line X.env = pure false := by rfl)
    (h1 : starEach [a, b] X.env = (false, eval a X.env) :: starEach [b] X.env := by rfl) (h2 : starEach [b] X.env = (false, eval b X.env) :: starEach [] X.env := by rfl) :
    St X g (.Assign [.Tuple [.Name x px, .Name y py] kt pt] (.Tuple [a, b] k2 pt2) pos) (dParLL i j ta tb) := by
  obtain ⟨te, p1, q1⟩ := ha
  obtain ⟨te', p2, q2⟩ := hb
  refine ⟨_, ps_par hc hN hi hj hij hx hy (pa_cons p1 (pa_cons p2 pa_nil h2) h1) hs hs2, fun σ F H ρ n P E sr p k1 k2 k3 k4 => ?_⟩
  refine q1 σ F H ρ n _ _ sr p fun d n1 l xs F1 H1 p1 g1 sr1 fr1 hn1 hl1 da1 => q2 σ F1 H1 ρ n1 _ _ sr1 p1 fun e n2 l2 ys F2 H2 p2 g2 sr2 fr2 hn2 hl2 da2 => ⟨.ref l, .ref l2, rfl, ?_⟩
  obtain ⟨fr1', hl1'⟩ := own_kept sr1 fr1 hl1 g2
  have ne : l ≠ l2 := fun z => by rw [z, hn2] at hl1; cases hl1
  have s3 := sr2.setO (i := i) fr1' hl1' (dpa_ex g2.f _ _ da1)
  have fr2' : Free g F2 (σ.set i (some (.ref l))) (ρ.set i (some (.o d))) l2 := Free.set (p := l) (xs := xs) sr2 fr2 fun _ _ z => ne (V.ref.inj z)
  exact k1 _ n2 _ F2 H2 p2 (g1.trans g2).f (s3.setO (i := j) fr2' hl2 da2)
theorem st_parLD (i j : Nat) {ta : DL_} (ha : Ls X g a ta) (hb : E X g b tb) (hN : X.N.Nodup) (hc : X.calm = true := by rfl) (hi : X.N[i]? = some x := by rfl) (hj : X.N[j]? = some y := by rfl) (hij : i ≠ j := by decide) (hx : X.env.scope.names.lookup x = some .local := by rfl) (hy : X.env.scope.names.lookup y = some .local := by rfl)
    (hs : swappedStores [.Tuple [.Name x px, .Name y py] kt pt] (.Tuple [a, b] k2 pt2) X.env = pure (some [x, y]) := by rfl) (hs2 : swapsWithSole [.Tuple [.Name x px, .Name y py] kt pt] (.Tuple [a, b] k2 pt2) pos.line X.env = pure false := by rfl)
    (h1 : starEach [a, b] X.env = (false, eval a X.env) :: starEach [b] X.env := by rfl) (h2 : starEach [b] X.env = (false, eval b X.env) :: starEach [] X.env := by rfl) :
    St X g (.Assign [.Tuple [.Name x px, .Name y py] kt pt] (.Tuple [a, b] k2 pt2) pos) (dParLD i j ta tb) := by
  obtain ⟨te, p1, q1⟩ := ha
  obtain ⟨te', p2, q2⟩ := hb
  refine ⟨_, ps_par hc hN hi hj hij hx hy (pa_cons p1 (pa_cons p2 pa_nil h2) h1) hs hs2, fun σ F H ρ n P E sr p k1 k2 k3 k4 => ?_⟩
  refine q1 σ F H ρ n _ _ sr p fun d n1 l xs F1 H1 p1 g1 sr1 fr1 hn1 hl1 da1 => q2 σ F1 H1 ρ n1 _ _ sr1 p1 fun e n2 w F2 H2 p2 g2 sr2 dw => ⟨.ref l, w, rfl, ?_⟩
  obtain ⟨fr1', hl1'⟩ := own_kept sr1 fr1 hl1 g2
  exact k1 _ n2 _ F2 H2 p2 (g1.trans g2).f ((sr2.setO (i := i) fr1' hl1' (dpa_ex g2.f _ _ da1)).setD dw)
end
/-! ### two fors in one comprehension -/
def dComp2L (vs vs1 : List Nat) (gt1 : DGt) (te : DT) (ρ1 : Sl) : List D → List D → Nat → (List D → Nat → Prop) → Prop
  | [], acc, n, P => P acc n
  | d :: r, acc, n, P => gt1 d (wipeD ρ1 vs1) n fun ρ2 n2 => te ρ2 n2 fun y n3 => acc.length < 100000 ∧ dComp2L vs vs1 gt1 te ρ1 r (acc ++ [y]) n3 P
def dComp1L (vs vs1 : List Nat) (gt : DGt) (ti1 : DI) (gt1 : DGt) (te : DT) (ρ : Sl) : List D → List D → Nat → (List D → Nat → Prop) → Prop
  | [], acc, n, P => P acc n
  | d :: r, acc, n, P => gt d (wipeD ρ vs) n fun ρ1 n1 => ti1 ρ1 n1 fun items1 n2 => dComp2L vs vs1 gt1 te ρ1 items1 acc n2 fun acc' n3 => dComp1L vs vs1 gt ti1 gt1 te ρ r acc' n3 P
def dComp2 (ti : DI) (gt : DGt) (ti1 : DI) (gt1 : DGt) (te : DT) (vs vs1 : List Nat) : DL_ := fun ρ n P => ti ρ n fun items n' => dComp1L vs vs1 gt ti1 gt1 te ρ items [] n' P

/-- the list at D is being made -/
structure Mk (K : Fg) (g : G) (F H : Hp) (D : Addr) (σ : L2.St) (ρ : Sl) (F2 H2 : Hp) (n : Nat) (acc : List DL.D) : Prop where
  gr : Grow g.m F H F2 H2
  sr : SR K g F2 H2 σ ρ n
  fr : Free g F2 σ ρ D
  d0 : H D = none
  at_ : ∃ xs, H2 D = some (.lst xs) ∧ DpAll K F2 xs acc ∧ xs.length ≤ 100000
theorem Mk.grow {K : Fg} {F H F2 H2 F3 H3 : Hp} {D : Addr} {σ : L2.St} {ρ : Sl} {n n' : Nat} {acc : List DL.D} (m : Mk K g F H D σ ρ F2 H2 n acc) (gr : Grow g.m F2 H2 F3 H3) (mc : MachOk K F3 H3 g.m n') : Mk K g F H D σ ρ F3 H3 n' acc := by
  obtain ⟨xs, h1, h2, h3⟩ := m.at_
  obtain ⟨f, h4⟩ := own_kept m.sr m.fr h1 gr
  exact ⟨m.gr.trans gr, m.sr.growM gr mc, f, m.d0, xs, h4, dpa_ex gr.f _ _ h2, h3⟩
theorem Mk.push {K : Fg} {F H F2 H2 : Hp} {D : Addr} {σ : L2.St} {ρ : Sl} {n : Nat} {acc : List DL.D} {v : V} {y : DL.D} (m : Mk K g F H D σ ρ F2 H2 n acc) (dv : Dp K F2 v y) (hl : acc.length < 100000) :
    ∃ xs, H2 D = some (.lst xs) ∧ xs.length < sizeLine ∧ Mk K g F H D σ ρ F2 (upd H2 D (.lst (xs ++ [v]))) n (acc ++ [y]) := by
  obtain ⟨xs, h1, h2, h3⟩ := m.at_
  have la := dpa_len h2
  refine ⟨xs, h1, Evl.sz_lt (by omega), ⟨m.gr.f, fun a o h => ?_, fun a o ne h => ?_, fun a h => ?_, m.gr.fr⟩, m.sr.updFree h1 m.fr.f m.fr.b m.fr.no, m.fr, m.d0, xs ++ [v], upd_same, dpa_app h2 (.cons dv .nil), by rw [List.length_append, List.length_singleton]; omega⟩
  · rw [upd_ne (fun z => by rw [z, m.fr.f] at h; cases h)]; exact m.sr.ex a o h
  · rw [upd_ne (fun z => by rw [z, m.d0] at h; cases h)]; exact m.gr.h a o ne h
  · by_cases c : a = D
    · subst c; rw [upd_same] at h; cases h
    · rw [upd_ne c] at h; exact m.gr.dm a h
/-- seen from other slots that own no more -/
theorem Mk.other {K : Fg} {F H F2 H2 : Hp} {D : Addr} {σ σ1 : L2.St} {ρ ρ1 : Sl} {n n1 : Nat} {acc : List DL.D} (m : Mk K g F H D σ ρ F2 H2 n acc) (sr : SR K g F2 H2 σ1 ρ1 n1) (h : ∀ (j : Nat) (ds : List DL.D), ρ1[j]? = some (some (.o ds)) → ρ[j]? = some (some (.o ds)) ∧ σ1[j]? = σ[j]?) : Mk K g F H D σ1 ρ1 F2 H2 n1 acc :=
  ⟨m.gr, sr, ⟨m.fr.f, m.fr.b, fun j ds e z => by
    obtain ⟨h1, h2⟩ := h j ds e
    exact m.fr.no j ds h1 (h2 ▸ z)⟩, m.d0, m.at_⟩
theorem sl_comp2 {K : Fg} {ti ti1 : DI} {gt gt1 : DGt} {wi wi1 : TI} {tgt tgt1 : TG} {te : TE} {is is1 vs vs1 : List Nat} (h1 : SI K g wi ti) (h2 : SG K g is tgt gt) (h3 : SI K g wi1 ti1) (h4 : SG K g is1 tgt1 gt1) (h5 : SE K g te t) (hs : ∀ i ∈ is, i ∈ vs) (hs1 : ∀ i ∈ is1, i ∈ vs1) :
    SL K g (tLc2 wi tgt tYes wi1 tgt1 tYes te vs vs1) (dComp2 ti gt ti1 gt1 t vs vs1) := by
  intro σ F H ρ n P Q sr p k
  refine h1 σ F H ρ n _ _ sr p fun items n' J Fw Hw p' gr0 sr' wk => ?_
  intro D hD
  have hD0 : H D = none := gr0.dm D hD
  have m0 : Mk K g F H D σ ρ Fw (upd Hw D (.lst [])) n' [] := ⟨gr0.trans (Grow.raw sr'.ex hD), sr'.grow (Grow.raw sr'.ex hD), Free.of sr' hD, hD0, [], upd_same, .nil, by simp⟩
  refine ⟨fun i m H2 => i + m = items.length ∧ ∃ F2 n2 acc, Ex Fw F2 ∧ Mk K g F H D σ ρ F2 H2 n2 acc ∧ dComp1L vs vs1 gt ti1 gt1 t ρ (items.drop i) acc n2 P, ⟨items.length, by omega, Fw, n', [], Evl.Ex.refl _, m0, by simpa using p'⟩, fun i m H2 ⟨em, F2, n2, acc, ew, mk, p2⟩ => ?_⟩
  by_cases hi : i < items.length
  · refine .inr ⟨wk.go i F2 H2 ew mk.sr.ex hi, fun H' => ∃ F2 n2 acc, Ex Fw F2 ∧ Mk K g F H D σ ρ F2 H' n2 acc ∧ dComp1L vs vs1 gt ti1 gt1 t ρ (items.drop (i + 1)) acc n2 P, fun H' hN => ⟨m - 1, by omega, by omega, hN⟩, fun x H3 hy => ?_⟩
    obtain ⟨d, F3, hd, gr3, dx⟩ := wk.yld i F2 H2 x H3 ew mk.sr.ex hi hy
    rw [drop_at hd] at p2
    have mk3 := mk.grow gr3.any (mk.sr.mc.grow gr3)
    refine h2 x (L2.wipe σ vs) F3 H3 d (wipeD ρ vs) n2 _ _ (mk3.sr.wipe vs) dx p2 fun ρ1 σ1 p3 sr4 bt => ?_
    refine ⟨wipe_but bt hs, ?_⟩
    simp only [tYes, ↓reduceIte]
    refine h3 σ1 F3 H3 ρ1 n2 _ _ sr4 p3 fun items1 n5 J1 F5 H5 p5 gr5 sr5 wk1 => ?_
    have mk5 := mk3.grow gr5 sr5.mc
    refine ⟨fun j kk H6 => j + kk = items1.length ∧ ∃ F6 n6 acc6, Ex F5 F6 ∧ Mk K g F H D σ ρ F6 H6 n6 acc6 ∧ SR K g F6 H6 σ1 ρ1 n6 ∧ dComp2L vs vs1 gt1 t ρ1 (items1.drop j) acc6 n6 fun acc' n3 => dComp1L vs vs1 gt ti1 gt1 t ρ (items.drop (i + 1)) acc' n3 P, ⟨items1.length, by omega, F5, n5, acc, Evl.Ex.refl _, mk5, sr5, by simpa using p5⟩, fun j kk H6 ⟨ek, F6, n6, acc6, ew6, mk6, sr6, p6⟩ => ?_⟩
    have lk : ∀ (j : Nat) (ds : List DL.D), ρ1[j]? = some (some (.o ds)) → ρ[j]? = some (some (.o ds)) ∧ σ1[j]? = σ[j]? := fun j ds h => by
      obtain ⟨h1, h2⟩ := bt.own j ds h
      obtain ⟨h3, h4⟩ := wipeD_own (σ := σ) h1
      exact ⟨h3, h2.trans h4⟩
    by_cases hj : j < items1.length
    · refine .inr ⟨wk1.go j F6 H6 ew6 mk6.sr.ex hj, fun H' => ∃ F6 n6 acc6, Ex F5 F6 ∧ Mk K g F H D σ ρ F6 H' n6 acc6 ∧ SR K g F6 H' σ1 ρ1 n6 ∧ dComp2L vs vs1 gt1 t ρ1 (items1.drop (j + 1)) acc6 n6 fun acc' n3 => dComp1L vs vs1 gt ti1 gt1 t ρ (items.drop (i + 1)) acc' n3 P, fun H' hN => ⟨kk - 1, by omega, by omega, hN⟩, fun x7 H7 hy7 => ?_⟩
      obtain ⟨d7, F7, hd7, gr7, dx7⟩ := wk1.yld j F6 H6 x7 H7 ew6 mk6.sr.ex hj hy7
      rw [drop_at hd7] at p6
      have sr7 := sr6.grow gr7
      have mk7 := mk6.grow gr7.any (mk6.sr.mc.grow gr7)
      refine h4 x7 (L2.wipe σ1 vs1) F7 H7 d7 (wipeD ρ1 vs1) n6 _ _ (sr7.wipe vs1) dx7 p6 fun ρ2 σ2 p8 sr8 bt8 => ?_
      refine ⟨wipe_but bt8 hs1, ?_⟩
      simp only [tYes, ↓reduceIte]
      refine h5 σ2 F7 H7 ρ2 n6 _ _ sr8 p8 fun y n9 v F9 H9 ⟨hacc, p9⟩ gr9 sr9 dv => ?_
      have mk9 := mk7.grow gr9 sr9.mc
      have sr10 := sr7.growM gr9 sr9.mc
      obtain ⟨xs, hx, hl, mkP⟩ := mk9.push dv hacc
      obtain ⟨xs', hx', _, mkQ⟩ := (mk9.other sr10 lk).push dv hacc
      have : xs' = xs := by rw [hx] at hx'; cases hx'; rfl
      subst this
      exact ⟨xs', hx, hl, F9, n9, acc6 ++ [y], (ew6.trans gr7.f).trans gr9.f, mkP, mkQ.sr, p9⟩
    · have ej : j = items1.length := by omega
      subst ej
      refine .inl ⟨wk1.stop F6 H6 ew6 mk6.sr.ex, F6, n6, acc6, ((ew.trans gr3.f).trans gr5.f).trans ew6, mk6, ?_⟩
      rw [List.drop_length] at p6
      exact p6
  · have ei : i = items.length := by omega
    subst ei
    refine .inl ⟨wk.stop F2 H2 ew mk.sr.ex, ?_⟩
    rw [List.drop_length] at p2
    obtain ⟨xs, hx, da, hl⟩ := mk.at_
    exact k acc n2 D xs F2 H2 p2 mk.gr mk.sr mk.fr hD0 hx da
theorem l_comp2 {elt tg iter tg1 iter1 : Expr} {ti ti1 : DI} {gt gt1 : DGt} {is is1 : List Nat} {scope : Scope} (own : List (Str × Nat)) (vs1 : List Nat) (hc : X.calm = true) (hN : X.N.Nodup) (h1 : I X g tg iter ti) (ok : blkC X.N X.env.scope scope own = true) (h2 : ∀ i : BlkI, Gt (blkX X scope i) g tg is gt) (h3 : ∀ i : BlkI, I (blkX X scope i) g tg1 iter1 ti1) (h4 : ∀ i : BlkI, Gt (blkX X scope i) g tg1 is1 gt1) (h5 : ∀ i : BlkI, E (blkX X scope i) g elt t)
    (hs : is.all (fun i => (own.map (·.2)).contains i) = true := by rfl) (hs1 : is1.all (fun i => vs1.contains i) = true := by rfl) (hv : vs1.all (fun i => (own.map (·.2)).contains i) = true := by rfl) (hf : ∀ x, foldedSetIterable iter X.env x = pure x := by intro _; rfl) (hf1 : ∀ env x, foldedSetIterable iter1 env x = pure x := by intro _ _; rfl) :
    Ls X g (.ListComp elt [⟨tg, iter, [], 0⟩, ⟨tg1, iter1, [], 0⟩] scope pos) (dComp2 ti gt ti1 gt1 t (own.map (·.2)) vs1) := by
  obtain ⟨w, p1, q1⟩ := h1
  obtain ⟨t2, p2, q2⟩ := fam_g (Xf := blkX X scope) (K := X.K) (fun _ => rfl) h2
  obtain ⟨t3, p3, q3⟩ := fam_i (Xf := blkX X scope) (K := X.K) (fun _ => rfl) h3
  obtain ⟨t4, p4, q4⟩ := fam_g (Xf := blkX X scope) (K := X.K) (fun _ => rfl) h4
  obtain ⟨t5, p5, q5⟩ := fam_e (Xf := blkX X scope) (K := X.K) (fun _ => rfl) h5
  refine ⟨_, pe_lc2 hc hN p1 (blkOk_by ok) (fun i hi => by simpa using List.all_eq_true.mp hv i hi) (fun s H C cl fp => p2 (s, H, C, cl, fp)) (fun _ _ _ _ _ => pts_nil) (fun s H C cl fp => p3 (s, H, C, cl, fp)) (fun s H C cl fp => p4 (s, H, C, cl, fp)) (fun _ _ _ _ _ => pts_nil) (fun s H C cl fp => p5 (s, H, C, cl, fp)) hf hf1,
    sl_comp2 q1 q2 q3 q4 q5 (fun i hi => by simpa using List.all_eq_true.mp hs i hi) (fun i hi => by simpa using List.all_eq_true.mp hs1 i hi)⟩
end
end DL

namespace DL
open PySem L2
section
variable {X : Cx} {g : G} {a b c e : Expr} {es : List Expr} {ta tb tc t : DT} {pos : Pos} {u : DA} {K : Fg}
/-! ### sorted of ints, in a list or a tuple -/
def isort : List Int → List Int
  | [] => []
  | x :: xs => ins x (isort xs)
where ins (x : Int) : List Int → List Int
  | [] => [x]
  | y :: ys => if x ≤ y then x :: y :: ys else y :: ins x ys
theorem ins_perm (x : Int) : ∀ ys : List Int, (isort.ins x ys).Perm (x :: ys)
  | [] => List.Perm.refl _
  | y :: ys => by
    unfold isort.ins
    split
    · exact List.Perm.refl _
    · exact ((ins_perm x ys).cons y).trans (List.Perm.swap x y ys)
theorem isort_perm : ∀ xs : List Int, (isort xs).Perm xs
  | [] => List.Perm.refl _
  | x :: xs => (ins_perm x _).trans ((isort_perm xs).cons x)
theorem ins_pw (x : Int) : ∀ ys : List Int, ys.Pairwise (· ≤ ·) → (isort.ins x ys).Pairwise (· ≤ ·)
  | [], _ => by simp [isort.ins]
  | y :: ys, h => by
    rw [List.pairwise_cons] at h
    unfold isort.ins
    split
    · rename_i hc
      refine List.pairwise_cons.mpr ⟨fun z hz => ?_, List.pairwise_cons.mpr h⟩
      rcases List.mem_cons.mp hz with rfl | hz
      · exact hc
      · exact Int.le_trans hc (h.1 z hz)
    · rename_i hc
      refine List.pairwise_cons.mpr ⟨fun z hz => ?_, ins_pw x ys h.2⟩
      rcases List.mem_cons.mp ((ins_perm x ys).mem_iff.mp hz) with rfl | hz
      · omega
      · exact h.1 z hz
theorem isort_pw : ∀ xs : List Int, (isort xs).Pairwise (· ≤ ·)
  | [] => List.Pairwise.nil
  | x :: xs => ins_pw x _ (isort_pw xs)
theorem sorted_same : ∀ {xs ys : List Int}, xs.Perm ys → xs.Pairwise (· ≤ ·) → ys.Pairwise (· ≤ ·) → xs = ys
  | [], ys, p, _, _ => (List.Perm.nil_eq p)
  | x :: xs, [], p, _, _ => absurd p.symm (by simp)
  | x :: xs, y :: ys, p, h1, h2 => by
    rw [List.pairwise_cons] at h1 h2
    have exy : x = y := by
      have a1 : y ∈ x :: xs := p.mem_iff.mpr (by simp)
      have a2 : x ∈ y :: ys := p.mem_iff.mp (by simp)
      rcases List.mem_cons.mp a1 with q | q
      · exact q.symm
      · rcases List.mem_cons.mp a2 with r | r
        · exact r
        · exact Int.le_antisymm (h1.1 y q) (h2.1 x r)
    subst exy
    rw [sorted_same (List.Perm.cons_inv p) h1.2 h2.2]
theorem isort_eq {xs ys : List Int} (p : ys.Perm xs) (h : ys.Pairwise (· ≤ ·)) : ys = isort xs := sorted_same (p.trans (isort_perm xs).symm) h (isort_pw xs)
theorem cr_sortedTup : CallR X (.builtin "sorted") (fun vs H Q => ∃ (a : Addr) (ns : List Int), vs = [V.ref a] ∧ SqT X.K H a (ns.map V.int) ∧ ∀ (p : Addr), H p = none → Q (.ref p) (upd H p (.lst ((isort ns).map V.int)))) := by
  intro pins s σ H vs us Q I r h
  obtain ⟨a, ns, rfl, hs, q⟩ := h
  obtain ⟨its, rv, ⟨o, ho, hc, n, hd⟩, hz⟩ := I.tuple hs
  rw [Vals.ref1 r]
  have hi := rv.ints
  have hlen : its.length ≤ sizeLine := by rw [← rv.length]; exact hz
  refine Calls.call_function_entry PyProof.Rows.kind_sorted PyProof.Rows.plain_sorted PyProof.Rows.entry_sorted (PyProof.Rows.args_sorted1 _) ?_
  unfold Builtin.«sorted»
  refine wpAny_bind (m := checkCount "sorted" 1 1 _) (wpAny_pure ?_)
  refine wpAny_bind (wpAny_collect_seq a (.inr rfl) ho hc hd (fun h1 hk => ?_) (by simpa using hlen))
  refine wpAny_bind (wpAny_newList ?_ (by simpa using hlen))
  have hN : (h1.push (PyProof.Rows.seqObj "list" its.toArray 0)).get? h1.objs.size = some (PyProof.Rows.seqObj "list" its.toArray 0) := Heap.get?_push_size _ rfl
  have hk2 : ∀ b ob, s.heap.get? b = some ob → (h1.push (PyProof.Rows.seqObj "list" its.toArray 0)).get? b = some ob := fun b ob z => Heap.get?_push_of_some _ (hk b ob z)
  refine wpAny_bind (wpAny_holding (wpAny_call_entry (s := { s with heap := h1.push (PyProof.Rows.seqObj "list" its.toArray 0) }) PyProof.Rows.slot_list_sort ⟨_, hN, rfl⟩ PyProof.Rows.entry_list_sort
    (SrtO.list_sort_ord (s := { s with heap := h1.push (PyProof.Rows.seqObj "list" its.toArray 0) }) SrtO.swo_int hN hlen (fun h2 => SrtO.ints_sortable hi h2) fun out o1 o2 => ⟨_, rfl, ?_⟩) (PyProof.Rows.args_list_sort _)))
  obtain ⟨k1, k2, k3⟩ := SrtO.ints_out hi o1 o2
  obtain ⟨ep, he'⟩ := PyProof.Rows.sortedHeap_at (vs := its) (out := out.toArray) hN
  have e : out.map SrtO.iv = isort ns := isort_eq k2 k3
  have I1 : Inv X pins σ H { s with heap := h1 } := I.kept (t' := s.toks) hk
  have hl2 : ((isort ns).map V.int).length ≤ sizeLine := by
    rw [List.length_map, (isort_perm ns).length_eq]
    rw [List.length_map] at hz
    exact hz
  have hold : ∀ b ob, h1.get? b = some ob → (PyProof.Rows.sortedHeap (h1.push (PyProof.Rows.seqObj "list" its.toArray 0)) h1.objs.size its out.toArray).get? b = some ob := fun b ob z => by
    have hb : b < h1.objs.size := Heap.lt_size z
    rw [PyProof.Rows.sortedHeap_old (Nat.ne_of_lt hb) (by rw [PyProof.Rows.size_push']; exact Nat.lt_succ_of_lt hb)]
    exact Heap.get?_push_of_some _ z
  have kv : Vals ((isort ns).map V.int) out := by
    rw [← e]
    exact vals_of_ints k1
  refine wpAny_pure ⟨_, rfl, .ref h1.objs.size, upd H h1.objs.size (.lst ((isort ns).map V.int)), I1.laid (t' := s.toks) hold (Nat.le_refl _) ⟨hl2, out, ep, kv, he'⟩, rfl, q _ (I1.hok.fresh (Nat.le_refl _))⟩
def intsOf : List D → Option (List Int)
  | [] => some []
  | .int b :: r => (intsOf r).map (b :: ·)
  | _ => none
theorem intsOf_eq : ∀ {ds : List D} {bs : List Int}, intsOf ds = some bs → ds = bs.map .int
  | [], bs, h => by cases h; rfl
  | .int b :: r, bs, h => by
    unfold intsOf at h
    cases q : intsOf r with
    | none => rw [q] at h; cases h
    | some cs =>
      rw [q] at h
      cases h
      rw [intsOf_eq q]
      rfl
  | .none :: _, _, h => by simp [intsOf] at h
  | .bool _ :: _, _, h => by simp [intsOf] at h
  | .str _ :: _, _, h => by simp [intsOf] at h
  | .list _ :: _, _, h => by simp [intsOf] at h
  | .tuple _ :: _, _, h => by simp [intsOf] at h
  | .dict _ :: _, _, h => by simp [intsOf] at h
theorem intsOf_map (bs : List Int) : intsOf (bs.map .int) = some bs := by
  induction bs with
  | nil => rfl
  | cons b r ih => rw [List.map_cons, intsOf, ih]; rfl
def sortedD : List D → Option (List D) := fun ds => match ds with | [x] => (itemsOf x).bind fun xs => (intsOf xs).map fun ns => (isort ns).map .int | _ => none
theorem cl_sorted : CallL K (fun vs H Q => rSortedI K vs H Q ∨ ∃ (a : Addr) (ns : List Int), vs = [V.ref a] ∧ SqT K H a (ns.map V.int) ∧ ∀ (p : Addr), H p = none → Q (.ref p) (upd H p (.lst ((isort ns).map V.int)))) sortedD := by
  intro F H vs ds d Q ex da e k
  unfold sortedD at e
  split at e
  · rename_i x
    cases q1 : itemsOf x with
    | none => rw [q1] at e; cases e
    | some xs =>
      rw [q1] at e
      cases q2 : intsOf xs with
      | none => simp [q2] at e
      | some ns =>
        simp only [Option.bind_some, q2, Option.map_some, Option.some.injEq] at e
        subst e
        have := intsOf_eq q2
        subst this
        cases da with
        | cons h1 h2 =>
          cases h2
          obtain ⟨p, ys, rfl, hs, da2⟩ := seq_of ex h1 q1
          have := ints_dpa da2
          subst this
          rcases hs with hs | hs
          · refine .inl ⟨p, ns, rfl, hs, fun ns' p' hp hw hn => ?_⟩
            rw [isort_eq hp hw]
            exact k p' _ hn (dpa_ints _)
          · exact .inr ⟨p, ns, rfl, hs, fun p' hn => k p' _ hn (dpa_ints _)⟩
  · cases e
theorem CallR.or {f : Value} {r r' : List V → Hp → VK → Prop} (h : CallR X f r) (h' : CallR X f r') : CallR X f (fun x H Q => r x H Q ∨ r' x H Q) := by
  intro pins s σ H xs us Q I rx q
  rcases q with q | q
  · exact h pins s σ H xs us Q I rx q
  · exact h' pins s σ H xs us Q I rx q
theorem l_sorted {p : Pos} (hg : Gl X "sorted") (hm : X.mg "sorted" = none) (ha : A X g (e :: es) u) (hst : starEach (e :: es) X.env = (false, eval e X.env) :: starEach es X.env := by rfl) (hpl : (backTo pos (starEach es X.env)).any (·.1) = false := by rfl) : Ls X g (.Call (.Name "sorted" p) (e :: es) [] pos) (dCallL sortedD u) :=
  l_callB (CallR.or cr_sortedI cr_sortedTup) cl_sorted hg hm PyProof.Rows.boot_sorted ha (by decide) (by decide) hst hpl
end
end DL

namespace DL
open PySem L2
/-! ### enumerate of a tuple -/
abbrev itO (l : Addr) : Obj := { cls := .type "tuple_iterator", data := .fields #[.ref l, .int 0 0] }
abbrev enO (it : Addr) : Obj := { cls := .type "enumerate", data := .fields #[.none, .bool false, .ref it, rawInt 0, .none, .none] }
theorem enumT_meets (l : Addr) (items : Array Value) (n : Nat) (dct : Option Addr) (sl : Array (Option Value)) :
    Meets (Builtin.«enumerate.__new__» ⟨[.type "enumerate", .ref l], []⟩) (fun _ R s => s.heap.get? l = some { cls := .type "tuple", dict := dct, data := .seq items n, slots := sl } ∧
      R (.ok (.ret (.ref (s.heap.push (itO l)).objs.size))) { s with heap := (s.heap.push (itO l)).push (enO s.heap.objs.size) }) :=
  Meets.of_wp fun prog w A R s h => by
    obtain ⟨hp, gs, dr, tk, os⟩ := s
    obtain ⟨hl, h⟩ := h
    have isub := sub_enumerate
    have hT : Heap.IsTuple (Shared.heap ⟨hp, gs, dr, tk, os⟩) l items := ⟨_, hl, rfl, n, rfl⟩
    wp_walk using AutoSeq1.wpAny_loadPart' hl
    refine wpAny_stack_any fun st => wpAny_pure ?_
    split
    · rename_i c _ _ _ _ _
      cases (c == Value.type "enumerate") <;> (wp_walk using AutoSeq1.wpAny_loadPart' hl, wpAny_pyIter_tuple hT; exact ⟨_, rfl, h⟩)
    · wp_walk using AutoSeq1.wpAny_loadPart' hl, wpAny_pyIter_tuple hT
      exact ⟨_, rfl, h⟩
section
variable {prog : Program} {w : World} {A : Around} {E : Value → Shared → Prop} {s : Shared}
theorem enumT_call {l : Addr} {items : Array Value} {Q : Value → Shared → Prop} (hT : s.heap.IsTuple l items)
    (h : ∀ h', IsEnum h' (s.heap.objs.size + 1) s.heap.objs.size 0 .none → h'.IsTupleIter s.heap.objs.size l 0 → h'.objs.size = s.heap.objs.size + 2 → (∀ b o, s.heap.get? b = some o → h'.get? b = some o) → Q (.ref (s.heap.objs.size + 1)) { s with heap := h' }) :
    wpAny (model prog w) A (call (.type "enumerate") [.ref l]) Q E s := by
  obtain ⟨⟨c, dct, dt, sl⟩, hl, hc, n, hd⟩ := hT
  have e1 : c = .type "tuple" := hc
  have e2 : dt = .seq items n := hd
  subst e1
  subst e2
  refine callType_new F.called_enumerate (by decide) (F.typeCall_enumerate_1 _) (F.newCall_enumerate_1 _) (fun ob => F.args_object_init_2 ob _) F.entry_enumerate_new (enumT_meets l items n dct sl) ⟨hl, ?_⟩
  have hz : (s.heap.push (itO l)).objs.size = s.heap.objs.size + 1 := Heap.size_push ..
  show _ ∧ _
  rw [hz]
  have he : IsEnum ((s.heap.push (itO l)).push (enO s.heap.objs.size)) (s.heap.objs.size + 1) s.heap.objs.size 0 .none := by
    have q := Heap.get?_push_size (s.heap.push (itO l)) (o := enO s.heap.objs.size) rfl
    rw [hz] at q
    exact q
  exact ⟨⟨_, he, rfl⟩, h _ he ⟨_, Heap.get?_push_of_some _ (Heap.get?_push_size _ rfl), rfl, rfl⟩ (by rw [Heap.size_push, hz]) fun b o x => Heap.get?_push_of_some _ (Heap.get?_push_of_some _ x)⟩
theorem drawsT (hh : A.handled = none) (it l : Addr) (hne : l ≠ it) (items : Array Value) : Draws prog w A it [it, l] items.size (fun i x => items[i]? = some x) (fun i h => h.IsTupleIter it l i ∧ h.IsTuple l items) where
  live := fun i h st => by obtain ⟨⟨o, q, _⟩, _⟩ := st; exact ⟨o, q⟩
  frame := fun i h h' st k => by
    obtain ⟨⟨o, q, r⟩, ⟨o2, q2, r2⟩⟩ := st
    exact ⟨⟨o, k it (by simp) o q, r⟩, ⟨o2, k l (by simp) o2 q2, r2⟩⟩
  item := fun i s Q E hi st hQ => by
    obtain ⟨h1, h2⟩ := st
    refine RZ.nextOf_tuple_item h1 h2 (x := items[i]) (by simp [hi]) fun h' i1 sb => ?_
    obtain ⟨o2, q2, r2⟩ := h2
    exact hQ _ h' s.toks (by simp [hi]) ⟨i1, ⟨o2, (sb.2 l hne).trans q2, r2⟩⟩ sb
  done := fun s Q E st hE => by
    obtain ⟨h1, h2⟩ := st
    exact RZ.nextOf_tuple_end hh h1 h2 (by simp) hE
end
def ItEn (K : Fg) (a : Addr) : It :=
  ⟨fun i H => ∃ (xs : List V) (x : V), SqT K H a xs ∧ xs[i]? = some x, fun i H v H' => ∃ T x, v = .ref T ∧ H T = none ∧ H' = upd H T (.tup [.int (i : Nat), x]) ∧ ∀ xs, SqT K H a xs → xs[i]? = some x, fun i H => ∃ xs : List V, SqT K H a xs ∧ xs.length = i⟩
theorem turn_enT {P : Program} {w : World} {K : Fg} {elts : List Expr} {kk : Nat} {tpos : Pos} (a e it : Addr) (hai : a ≠ it) (hae : a ≠ e) :
    Turn P w K (.Tuple elts kk tpos) (ItEn K a) [e, it] e (fun i h => (∃ old, IsEnum h e it ((i : Nat) : Int) old) ∧ h.IsTupleIter it a i ∧ e ≠ it) where
  mem := by simp
  obj := fun i h st b hb => by
    obtain ⟨⟨old, he⟩, ⟨o, ho, hc, hd⟩, _⟩ := st
    rcases (by simpa using hb : b = e ∨ b = it) with z | z
    · exact ⟨_, z ▸ he, fun v q => by cases q⟩
    · exact ⟨o, z ▸ ho, fun v q => by rw [hd] at q; cases q⟩
  keep := fun i h h' st k => by
    obtain ⟨⟨old, he⟩, ⟨o, ho, r⟩, hne⟩ := st
    exact ⟨⟨old, k e (by simp) _ he⟩, ⟨o, k it (by simp) o ho, r⟩, hne⟩
  item := by
    intro X hP hw hK hc i pins s σ H E I hf st hg
    subst hP hw hK
    obtain ⟨⟨old, he⟩, hit, hne⟩ := st
    obtain ⟨xs, x, hq, hx⟩ := hg
    obtain ⟨its, rv, pT, hz⟩ := I.tuple hq
    obtain ⟨v, hv, ru⟩ := rv.get hx
    have hel : e < s.heap.objs.size := Heap.lt_size he
    have hil : it < s.heap.objs.size := by obtain ⟨_, q, _⟩ := hit; exact Heap.lt_size q
    have hin : i < its.length := (List.getElem?_eq_some_iff.mp hv).1
    refine wpAny_pyNext_enum_itemD (drawsT (A := X.A.in1) (I.ok.hd hc) it a hai its.toArray) he ⟨hit, pT⟩ (by simpa using hin) hne (by simp [hne, Ne.symm hae]) fun y h' tk hy ho hit' hT hsz hk => ?_
    have ey : y = v := by
      have q : its.toArray[i]? = some y := hy
      rw [List.getElem?_toArray, hv] at q
      exact (Option.some.inj q).symm
    subst ey
    refine ⟨_, rfl, wpAny_letOwnedTupleGo_enum (s := { s with heap := h', toks := tk + 1 }) ho fun h2 he' sb => ?_⟩
    have hT2 : h2.get? s.heap.objs.size = some { cls := .type "tuple", data := .seq #[.int i tk, y] } := (sb.2 _ (Nat.ne_of_gt hel)).trans hT
    have new : ObjOk X.prog X.w (upd H s.heap.objs.size (.tup [.int (i : Nat), x])) h2 s.heap.objs.size (.tup [.int (i : Nat), x]) :=
      ⟨Evl.sz_of (by show 2 ≤ 100000; decide), [.int i tk, y], .cons ⟨_, rfl⟩ (.cons ru .nil), ⟨_, hT2, rfl, _, rfl⟩⟩
    have I1 : Inv X pins σ (upd H s.heap.objs.size (.tup [.int (i : Nat), x])) { s with heap := h2, toks := tk + 1 } :=
      I.turnedNew (ch := [e, it]) (fun b ob hb q => (sb.2 b (fun z => hb (by simp [z]))).trans (hk b ob (fun z => hb (by simp [z])) (fun z => hb (by simp [z])) q)) hf (Nat.le_refl _) new
    refine ⟨.ref s.heap.objs.size, _, I1, rfl, ⟨_, x, rfl, I.hok.fresh (Nat.le_refl _), rfl, fun ys hy => by rw [I.tuple_inj hy hq]; exact hx⟩, ⟨⟨y, ?_⟩, ?_, hne⟩, fun b hb => ?_⟩
    · have e1 : ((i + 1 : Nat) : Int) = (i : Int) + 1 := by omega
      rw [e1]
      exact he'
    · obtain ⟨⟨o, q, r⟩, _⟩ := hit'
      exact ⟨o, (sb.2 it (Ne.symm hne)).trans q, r⟩
    · have hb' : b < s.heap.objs.size := by
        rcases (by simpa using hb : b = e ∨ b = it) with z | z
        · exact z ▸ hel
        · exact z ▸ hil
      rw [upd_ne (Nat.ne_of_lt hb')]
      exact (hf b hb).1
  done := by
    intro X hP hw hK hc i pins s σ H E I hf st hg
    subst hP hw hK
    obtain ⟨⟨old, he⟩, hit, hne⟩ := st
    obtain ⟨xs, hq, hx⟩ := hg
    obtain ⟨its, rv, pT, hz⟩ := I.tuple hq
    obtain ⟨f0, f1, f2, f3, f4, f5⟩ := hf it (by simp)
    have hl := rv.length
    have ei : i = its.toArray.size := by rw [List.size_toArray]; omega
    refine wpAny_pyNext_enum_endD (drawsT (A := X.A.in1) (I.ok.hd hc) it a hai its.toArray) he (ei ▸ ⟨hit, pT⟩) fun h' eb => ⟨rfl, I.turned (t' := s.toks) (fun b o hb q => eb b o hb q) f0 f1 f3 f4 f5⟩
  self := fun A i s Q E st h => by
    obtain ⟨⟨_, he⟩, _⟩ := st
    exact wpAny_pyIter_enum he h
section
variable {X : Cx} {g : G} {tg iter a b e : Expr} {es : List Expr} {t ta tb : DT} {u : DA} {pos : Pos} {K : Fg}
def iEnumTv (K : Fg) (ta : TA) : TI := fun σ H R => ta σ H fun vs H1 => ∃ a xs, vs = [.ref a] ∧ SqT K H1 a xs ∧ R (ItEn K a) H1
theorem pi_enumT {ta : TA} {p tpos : Pos} {elts : List Expr} {kk : Nat} (hg : Gl X "enumerate") (hm : X.mg "enumerate" = none) (ha : PA X [e] ta) (hs : starEach [e] X.env = [(false, eval e X.env)] := by rfl) :
    PI X (.Tuple elts kk tpos) (.Call (.Name "enumerate" p) [e] [] pos) (iEnumTv X.K ta) := by
  refine ⟨fun pins s σ H R I h => PyProof.Rows.Call_ (ld_blt (u := .type "enumerate") I hg hm (by decide +kernel) (PyProof.Rows.callWith_type1 (thn (ha.run pos pins s σ H _ I h) fun us s1 ⟨vs, H1, I1, r1, q1⟩ => ?_) hs rfl))⟩
  obtain ⟨a, xs, ex, hq, q⟩ := q1
  subst ex
  rw [Vals.ref1 r1]
  obtain ⟨its, rv, pT, hz⟩ := I1.tuple hq
  have hal : a < s1.heap.objs.size := pT.lt
  refine enumT_call pT fun h' he hit hsz hk => wpAny_pyIter_enum he ?_
  have I2 : Inv X pins σ H1 { s1 with heap := h' } := I1.kept (t' := s1.toks) hk
  refine ⟨s1.heap.objs.size + 1, [s1.heap.objs.size + 1, s1.heap.objs.size], _, _, H1, rfl, I2, turn_enT a (s1.heap.objs.size + 1) s1.heap.objs.size (Nat.ne_of_lt hal) (Nat.ne_of_lt (Nat.lt_succ_of_lt hal)), ⟨⟨.none, he⟩, hit, Nat.succ_ne_self _⟩, fun b hb => ?_, q⟩
  have hle : s1.heap.objs.size ≤ b := by
    rcases (by simpa using hb : b = s1.heap.objs.size + 1 ∨ b = s1.heap.objs.size) with z | z
    · exact z ▸ Nat.le_add_right _ _
    · exact z ▸ Nat.le_refl _
  exact I1.fpOk hle (I1.hok.fresh hle)
theorem enumD_get {ds : List D} {i : Nat} {d : D} (h : ds[i]? = some d) : (enumD ds)[i]? = some (.tuple [.int (i : Nat), d]) := by
  unfold enumD
  rw [List.getElem?_mapIdx, h]
  rfl
def iEnT (u : DA) : DI := fun ρ n P => u ρ n fun ss n' => ∃ ds, ss = [.d (.tuple ds)] ∧ P (enumD ds) n'
def iEnL (u : DA) : DI := fun ρ n P => u ρ n fun ss n' => ∃ ds, ss = [.d (.list ds)] ∧ P (enumD ds) n'
theorem i_enumT {p tpos : Pos} {elts : List Expr} {kk : Nat} (hg : Gl X "enumerate") (hm : X.mg "enumerate" = none) (h : A X g [e] u) (hs : starEach [e] X.env = [(false, eval e X.env)] := by rfl) : I X g (.Tuple elts kk tpos) (.Call (.Name "enumerate" p) [e] [] pos) (iEnT u) := by
  obtain ⟨te, p1, q1⟩ := h
  refine ⟨_, pi_enumT hg hm p1 hs, fun σ F H ρ n P R sr p k => q1 σ F H ρ n _ _ sr p fun ss n' vs F' H' ⟨ds, e, p'⟩ gr sr' da => ?_⟩
  subst e
  have da := args_data (ds := [.tuple ds]) da
  cases da with
  | cons h1 h2 =>
    cases h2
    obtain ⟨a, xs, rfl, h3, h4⟩ := dp_tuple h1
    have hl := dpa_len h4
    have hle : (enumD ds).length = ds.length := by unfold enumD; rw [List.length_mapIdx]
    refine ⟨a, xs, rfl, Evl.ex_t sr'.ex h3, k _ n' _ F' H' p' gr sr' ⟨fun i F1 H1 e1 e2 hi => ?_, fun i F1 H1 x H2 e1 e2 hi hy => ?_, fun F1 H1 e1 e2 => ?_⟩⟩
    · exact ⟨xs, _, Evl.ex_t (e1.trans e2) h3, List.getElem?_eq_getElem (by omega)⟩
    · obtain ⟨T, y, rfl, hT, rfl, hx⟩ := hy
      obtain ⟨d, hd, dx⟩ := dpa_get h4 (hx xs (Evl.ex_t (e1.trans e2) h3))
      have g2 := Grow.new (m := none) (o := .tup [.int (i : Nat), y]) e2 hT
      exact ⟨_, _, enumD_get hd, g2, .tup (SqT.of upd_same) (.cons (.int _) (.cons (dp_ex (e1.trans g2.f) _ _ dx) .nil))⟩
    · exact ⟨xs, Evl.ex_t (e1.trans e2) h3, by omega⟩
theorem i_enumL {p tpos : Pos} {elts : List Expr} {kk : Nat} (hg : Gl X "enumerate") (hm : X.mg "enumerate" = none) (h : A X g [e] u) (hs : starEach [e] X.env = [(false, eval e X.env)] := by rfl) : I X g (.Tuple elts kk tpos) (.Call (.Name "enumerate" p) [e] [] pos) (iEnL u) := by
  obtain ⟨te, p1, q1⟩ := h
  refine ⟨_, pi_enum hg hm p1 hs, fun σ F H ρ n P R sr p k => q1 σ F H ρ n _ _ sr p fun ss n' vs F' H' ⟨ds, e, p'⟩ gr sr' da => ?_⟩
  subst e
  have da := args_data (ds := [.list ds]) da
  cases da with
  | cons h1 h2 =>
    cases h2
    obtain ⟨a, xs, rfl, h3, h4⟩ := dp_list h1
    have hl := dpa_len h4
    have hle : (enumD ds).length = ds.length := by unfold enumD; rw [List.length_mapIdx]
    refine ⟨a, xs, rfl, SqL.of (sr'.ex _ _ h3), k _ n' _ F' H' p' gr sr' ⟨fun i F1 H1 e1 e2 hi => ?_, fun i F1 H1 x H2 e1 e2 hi hy => ?_, fun F1 H1 e1 e2 => ?_⟩⟩
    · exact ⟨xs, _, SqL.of (e2 _ _ (e1 _ _ h3)), List.getElem?_eq_getElem (by omega)⟩
    · obtain ⟨T, y, rfl, hT, rfl, hx⟩ := hy
      obtain ⟨d, hd, dx⟩ := dpa_get h4 (hx xs (SqL.of (e2 _ _ (e1 _ _ h3))))
      have g2 := Grow.new (m := none) (o := .tup [.int (i : Nat), y]) e2 hT
      exact ⟨_, _, enumD_get hd, g2, .tup (SqT.of upd_same) (.cons (.int _) (.cons (dp_ex (e1.trans g2.f) _ _ dx) .nil))⟩
    · exact ⟨xs, SqL.of (e2 _ _ (e1 _ _ h3)), by omega⟩
end
end DL

namespace DL
open PySem L2
/-! ### slices of tuples by a step -/
def stepV {α : Type} (xs : List α) (lo hi : Option Int) (c : Int) : List α :=
  (List.range (Builtin.Slice.slicePlaces (Builtin.Slice.sliceAdjust lo hi c (xs.length : Nat)).1 (Builtin.Slice.sliceAdjust lo hi c (xs.length : Nat)).2 c)).filterMap fun k => xs[((Builtin.Slice.sliceAdjust lo hi c (xs.length : Nat)).1 + (k : Nat) * c).toNat]?
section
variable {prog : Program} {w : World} {A : Around} {E : Value → Shared → Prop} {s : Shared}
theorem sliceApplied_step {sl : Addr} {vl vu vc : Value} {lo hi : Option Int} {c : Int} {n : Nat} {Q : Int × Int × Nat → Shared → Prop} (hs : s.heap.IsSliceOf sl vl vu vc) (pl : IsPart vl lo) (pu : IsPart vu hi) (pc : IsPart vc (some c)) (h0 : c ≠ 0)
    (h : Q ((Builtin.Slice.sliceAdjust lo hi c (n : Int)).1, c, Builtin.Slice.slicePlaces (Builtin.Slice.sliceAdjust lo hi c (n : Int)).1 (Builtin.Slice.sliceAdjust lo hi c (n : Int)).2 c) s) : wpAny (model prog w) A (Builtin.Slice.sliceApplied (.ref sl) (pure (n : Int))) Q E s := by
  obtain ⟨os, hos, hcs, hds⟩ := id hs
  unfold Builtin.Slice.sliceApplied Builtin.Slice.sliceFields
  refine wpAny_bind (wpAny_bind (wpAny_field hos hds (x := vl) rfl (wpAny_bind (wpAny_field hos hds (x := vu) rfl (wpAny_bind (wpAny_field hos hds (x := vc) rfl (wpAny_pure ?_)))))))
  refine wpAny_bind (HT.slicePart_ pc ?_)
  show wpAny _ _ (if (c == 0) = true then _ else _) _ _ s
  rw [if_neg (by simpa using h0)]
  refine wpAny_bind (HT.slicePart_ pl (wpAny_bind (HT.slicePart_ pu (wpAny_bind (wpAny_pure ?_)))))
  exact wpAny_pure h
theorem getItem_tuple_step {t sl : Addr} {items : List Value} {vl vu vc : Value} {lo hi : Option Int} {c : Int} {Q : Value → Shared → Prop} (ht : PyProof.Rows.IsTup s.heap t items.toArray) (hs : s.heap.IsSliceOf sl vl vu vc) (pl : IsPart vl lo) (pu : IsPart vu hi) (pc : IsPart vc (some c)) (h0 : c ≠ 0) (h1 : c ≠ 1)
    (hsz : (stepV items lo hi c).length ≤ sizeLine) (h : Q (.ref s.heap.objs.size) { s with heap := s.heap.push { cls := .type "tuple", data := .seq (stepV items lo hi c).toArray } }) : wpAny (model prog w) A (getItem (.ref t) (.ref sl)) Q E s := by
  obtain ⟨os, hos, hcs, hds⟩ := id hs
  have hTs : s.TypeIs (.ref sl) "slice" := ⟨os, hos, hcs⟩
  unfold getItem
  try with_reducible refine wpAny_holding ?_
  first | refine wpAny_bind (wpAny_pure ?_) | skip
  refine wpAny_bind (wpAny_sequenceKey ht.typeIs (by decide) ?_)
  refine wpAny_bind (wpAny_callSpecial?_slot (name := Str.ofString "__getitem__") ht.typeIs PyProof.Rows.slot_tuple_getitem (wpAny_call_entry PyProof.Rows.slot_tuple_getitem ht.typeIs PyProof.Rows.entry_tuple_getitem ?_ (PyProof.Rows.args_tuple_getitem _ _)))
  show wpAny _ _ (Builtin.Tuple.tupleItemsOf (.ref t) >>= _) _ _ s
  refine wpAny_bind (PyProof.Rows.tupleItemsOf_ ht (wpAny_bind (wpAny_typeOf hTs ?_)))
  rw [if_pos (by decide)]
  refine wpAny_bind (sliceApplied_step hs pl pu pc h0 ?_)
  have no : ¬ (((Builtin.Slice.sliceAdjust lo hi c (items.toArray.size : Int)).1 == 0 && c == 1 && Builtin.Slice.slicePlaces (Builtin.Slice.sliceAdjust lo hi c (items.toArray.size : Int)).1 (Builtin.Slice.sliceAdjust lo hi c (items.toArray.size : Int)).2 c == items.toArray.size) = true) := fun q => by
    rw [Bool.and_eq_true, Bool.and_eq_true] at q
    exact h1 (eq_of_beq q.1.2)
  show wpAny _ _ (if (((Builtin.Slice.sliceAdjust lo hi c (items.toArray.size : Int)).1 == 0 && c == 1 && Builtin.Slice.slicePlaces (Builtin.Slice.sliceAdjust lo hi c (items.toArray.size : Int)).1 (Builtin.Slice.sliceAdjust lo hi c (items.toArray.size : Int)).2 c == items.toArray.size) = true) then _ else _) _ _ s
  rw [if_neg no]
  have eq : ((List.range (Builtin.Slice.slicePlaces (Builtin.Slice.sliceAdjust lo hi c (items.toArray.size : Int)).1 (Builtin.Slice.sliceAdjust lo hi c (items.toArray.size : Int)).2 c)).filterMap fun (k : Nat) => items.toArray[((Builtin.Slice.sliceAdjust lo hi c (items.toArray.size : Int)).1 + (k : Int) * c).toNat]?) = stepV items lo hi c := by
    unfold stepV
    simp only [List.size_toArray, List.getElem?_toArray]
  rw [eq]
  have sz : sizeOk (.seq (stepV items lo hi c).toArray) := by
    show (stepV items lo hi c).toArray.size ≤ sizeLine
    rw [List.size_toArray]
    exact hsz
  first
    | exact wpAny_bind (m := Builtin.Tuple.tupleExact _) (wpAny_newObj_type (wpAny_pure ⟨_, rfl, wpAny_pure h⟩) sz)
    | exact wpAny_bind (m := Builtin.Tuple.tupleExact _) (wpAny_newObj_type (wpAny_bind (wpAny_pure (wpAny_pure ⟨_, rfl, wpAny_pure h⟩))) sz)
    | exact wpAny_bind (wpAny_bind (m := Builtin.Tuple.tupleExact _) (wpAny_newObj_type (wpAny_pure (wpAny_pure ⟨_, rfl, wpAny_pure h⟩)) sz))
    | exact wpAny_bind (wpAny_bind (m := Builtin.Tuple.tupleExact _) (wpAny_newObj_type (wpAny_pure ⟨_, rfl, wpAny_pure h⟩) sz))
end
theorem stepV_vals {xs : List V} {us : List Value} (r : Vals xs us) (lo hi : Option Int) (c : Int) : Vals (stepV xs lo hi c) (stepV us lo hi c) := by
  unfold stepV
  rw [r.length]
  generalize (List.range _) = ks
  induction ks with
  | nil => exact .nil
  | cons k ks ih =>
    rw [List.filterMap_cons, List.filterMap_cons]
    cases q : xs[((Builtin.Slice.sliceAdjust lo hi c (us.length : Nat)).1 + (k : Nat) * c).toNat]? with
    | none =>
      rw [Vals.none_of r q]
      exact ih
    | some v =>
      obtain ⟨w, hw, rw'⟩ := r.get q
      rw [hw]
      exact .cons rw' ih
theorem stepV_dpa {K : Fg} {F : Hp} {xs : List V} {ds : List D} (r : DpAll K F xs ds) (lo hi : Option Int) (c : Int) : DpAll K F (stepV xs lo hi c) (stepV ds lo hi c) := by
  unfold stepV
  rw [dpa_len r]
  generalize (List.range _) = ks
  induction ks with
  | nil => exact .nil
  | cons k ks ih =>
    rw [List.filterMap_cons, List.filterMap_cons]
    cases q : xs[((Builtin.Slice.sliceAdjust lo hi c (ds.length : Nat)).1 + (k : Nat) * c).toNat]? with
    | none =>
      have q2 : ds[((Builtin.Slice.sliceAdjust lo hi c (ds.length : Nat)).1 + (k : Nat) * c).toNat]? = none := by
        rw [List.getElem?_eq_none_iff] at q ⊢
        have := dpa_len r
        omega
      rw [q2]
      exact ih
    | some v =>
      obtain ⟨w, hw, rw'⟩ := dpa_get r q
      rw [hw]
      exact .cons rw' ih
section
variable {X : Cx} {g : G} {a b e : Expr} {ta tb : DT} {pos : Pos} {K : Fg}
def tStep (K : Fg) (c : Int) (te : TE) (tl th : TO) : TE := fun σ H Q => te σ H fun x H1 => tl σ H1 fun lo H2 => th σ H2 fun hi H3 => ∃ p xs, x = .ref p ∧ SqT K H3 p xs ∧ (stepV xs lo hi c).length ≤ sizeLine ∧ ∀ q, H3 q = none → Q (.ref q) (upd H3 q (.tup (stepV xs lo hi c)))
theorem pe_step {te : TE} {tl th : TO} {lo hi : Option Expr} {st : Expr} {c : Int} {p3 : Pos} (he : PE X e te) (hl : PO X lo tl) (hh : PO X hi th) (hs : PO X (some st) (fun _ H Q => Q (some c) H)) (h0 : c ≠ 0) (h1 : c ≠ 1) : PE X (.Subscript e (.Slice lo hi (some st) p3) pos) (tStep X.K c te tl th) := by
  refine ⟨fun pins s σ H Q I h => PyProof.Rows.Subscript_ (thn (he.run pins s σ H _ I h) fun v s1 ⟨x, H1, I1, r1, q1⟩ => ?_)⟩
  refine wpAny_Slice (thn (hl.run pins s1 σ H1 _ I1 q1) fun vl s2 ⟨l, H2, I2, pl, q2⟩ => ?_)
  refine thn (hh.run pins s2 σ H2 _ I2 q2) fun vu s3 ⟨h, H3, I3, pu, q3⟩ => ?_
  refine thn (hs.run pins s3 σ H3 (fun o H4 => o = some c ∧ H4 = H3) I3 ⟨rfl, rfl⟩) fun vc s4 ⟨o, H4, I4, pc, eo, e4⟩ => ?_
  subst eo
  subst e4
  obtain ⟨p, xs, rfl, hT, hz, q⟩ := q3
  cases r1
  have I5 : Inv X pins σ H4 { s4 with heap := s4.heap.push { cls := .type "slice", data := .fields #[vl, vu, vc] } } := I4.kept (t' := s4.toks) fun b ob z => Heap.get?_push_of_some _ z
  obtain ⟨its, r, ht, hz2⟩ := I5.tuple hT
  have rv := stepV_vals r l h c
  show wpAny (model X.prog X.w) X.A (PyProof.Rows.subscriptTail e (.Slice lo hi (some st) p3) (.ref p) (.ref s4.heap.objs.size)) (EP X pins σ Q) X.xe { s4 with heap := s4.heap.push { cls := .type "slice", data := .fields #[vl, vu, vc] } }
  refine PyProof.Rows.tail_any (ops := [.ref p, .ref s4.heap.objs.size]) ht.typeIs (PyProof.Rows.slot_tuple_getitem.lookup) ?_ (by with_unfolding_all rfl)
  refine getItem_tuple_step ht (Heap.IsSliceOf.new _ vl vu vc) pl pu pc h0 h1 (by rw [← rv.length]; exact hz) ?_
  refine ⟨.ref _, _, I5.laid (t' := s4.toks) (o := .tup (stepV xs l h c)) (fun b ob z => Heap.get?_push_of_some _ z) (Nat.le_refl _) ?_, rfl, q _ (I5.hok.fresh (Nat.le_refl _))⟩
  exact ⟨hz, _, rv, ⟨_, Heap.get?_push_size _ rfl, rfl, _, rfl⟩⟩
def stepD (c : Int) : D → Option Int → Option Int → Option D := fun x lo hi => match x with | .tuple ds => if decide ((stepV ds lo hi c).length ≤ 100000) then some (.tuple (stepV ds lo hi c)) else none | _ => none
def dStep (c : Int) (ta : DT) (tl th : DO) : DT := fun ρ n P => ta ρ n fun x n1 => tl ρ n1 fun lo n2 => th ρ n2 fun hi n3 => ∃ d, stepD c x lo hi = some d ∧ P d n3
theorem se_step {te : TE} {to1 to2 : TO} {tl th : DO} {c : Int} (q1 : SE K g te ta) (q2 : SO K g to1 tl) (q3 : SO K g to2 th) : SE K g (tStep K c te to1 to2) (dStep c ta tl th) := fun σ F H ρ n P Q sr p k => q1 σ F H ρ n _ _ sr p fun x n1 vx F1 H1 p1 g1 sr1 dx => q2 σ F1 H1 ρ n1 _ _ sr1 p1 fun l n2 F2 H2 p2 g2 sr2 => q3 σ F2 H2 ρ n2 _ _ sr2 p2 fun h n3 F3 H3 ⟨d, e, p3⟩ g3 sr3 => by
  unfold stepD at e
  split at e
  · rename_i ds
    split at e
    · rename_i hc
      cases e
      obtain ⟨q, xs, rfl, h1, h2⟩ := dp_tuple (dp_ex (g2.f.trans g3.f) _ _ dx)
      have da := stepV_dpa h2 l h c
      refine ⟨q, xs, rfl, Evl.ex_t sr3.ex h1, by rw [dpa_len da]; exact Evl.sz_of (of_decide_eq_true hc), fun q' hq' => ?_⟩
      have gr := Grow.new (m := none) (o := .tup (stepV xs l h c)) sr3.ex hq'
      exact k _ n3 _ _ _ p3 (((g1.trans g2).trans g3).trans gr.any) (sr3.grow gr) (.tup (SqT.of upd_same) (dpa_ex gr.f _ _ da))
    · cases e
  · cases e
theorem po_m1 {k : Nat} {p1 p2 : Pos} : PO X (some (.UnaryOp .USub (.Constant (.int 1) k p1) p2)) (fun _ H Q => Q (some (-1)) H) := by
  have h : PO X (some (.UnaryOp .USub (.Constant (.int 1) k p1) p2)) (tPart (tUn (rU fun i => .int (-i)) (tC (.int 1)))) := po_some (pe_un un_neg pe_int)
  exact ⟨fun pins s σ H Q I q => h.run pins s σ H Q I ⟨1, rfl, -1, rfl, q⟩⟩
theorem po_c {k : Nat} {c : Int} {p1 : Pos} : PO X (some (.Constant (.int c) k p1)) (fun _ H Q => Q (some c) H) := by
  have h : PO X (some (.Constant (.int c) k p1)) (tPart (tC (.int c))) := po_some pe_int
  exact ⟨fun pins s σ H Q I q => h.run pins s σ H Q I ⟨c, rfl, q⟩⟩
theorem e_revT {lo hi : Option Expr} {tl th : DO} {k : Nat} {p1 p2 p3 : Pos} (ha : E X g a ta) (hl : Op X g lo tl) (hh : Op X g hi th) : E X g (.Subscript a (.Slice lo hi (some (.UnaryOp .USub (.Constant (.int 1) k p1) p2)) p3) pos) (dStep (-1) ta tl th) := by
  obtain ⟨te, p1, q1⟩ := ha
  obtain ⟨to1, p2, q2⟩ := hl
  obtain ⟨to2, p3, q3⟩ := hh
  exact ⟨_, pe_step p1 p2 p3 po_m1 (by decide) (by decide), se_step q1 q2 q3⟩
theorem e_stepT {lo hi : Option Expr} {tl th : DO} {k : Nat} {c : Int} {p1 p3 : Pos} (ha : E X g a ta) (hl : Op X g lo tl) (hh : Op X g hi th) (h0 : c ≠ 0 := by decide) (h1 : c ≠ 1 := by decide) : E X g (.Subscript a (.Slice lo hi (some (.Constant (.int c) k p1)) p3) pos) (dStep c ta tl th) := by
  obtain ⟨te, p1, q1⟩ := ha
  obtain ⟨to1, p2, q2⟩ := hl
  obtain ⟨to2, p3, q3⟩ := hh
  exact ⟨_, pe_step p1 p2 p3 po_c h0 h1, se_step q1 q2 q3⟩
end
end DL

namespace DL
open PySem L2
/-! ### the machine of the draws -/
def mK (q : Addr) (s u : Int) : List (Key × V) := [(kG, .ref q), (kS, .int s), (kT, .int u)]
theorem mK_g {q : Addr} {s u : Int} : valV (mK q s u) (Sum.inr "great" : Key) = some (.ref q) := by unfold mK kG kS kT; kernel_rfl
theorem mK_s {q : Addr} {s u : Int} : valV (mK q s u) (Sum.inr "seed" : Key) = some (.int s) := by unfold mK kG kS kT; kernel_rfl
theorem mK_t {q : Addr} {s u : Int} : valV (mK q s u) (Sum.inr "turns" : Key) = some (.int u) := by unfold mK kG kS kT; kernel_rfl
theorem mK_pg {q r : Addr} {s u : Int} : putK (mK q s u) (Sum.inr "great" : Key) (.ref r) = mK r s u := by unfold mK kG kS kT; kernel_rfl
theorem mK_pt {q : Addr} {s u v : Int} : putK (mK q s u) (Sum.inr "turns" : Key) (.int v) = mK q s v := by unfold mK kG kS kT; kernel_rfl
/-- while a draw is under way -/
structure DrawSt (m : Addr) (F0 H0 : Hp) (s u : Int) (H : Hp) (ns : List Int) : Prop where
  ok : ∃ F q, Grow (some m) F0 H0 F H ∧ F m = none ∧ H m = some (.dK (mK q s u)) ∧ F q = some (.lst (ns.map V.int))
section
variable {m : Addr} {F0 H0 H : Hp} {s u : Int} {ns : List Int} {K : Fg}
theorem DrawSt.new (d : DrawSt m F0 H0 s u H ns) {p : Addr} {o : HO} (hp : H p = none) : DrawSt m F0 H0 s u (upd H p o) ns := by
  obtain ⟨F, q, g, fm, hm, fq⟩ := d
  refine ⟨F, q, g.trans (Grow.raw g.fh hp), fm, ?_, fq⟩
  rw [upd_ne (ne_of_none hm hp)]
  exact hm
theorem DrawSt.at_ (d : DrawSt m F0 H0 s u H ns) : ∃ q, H m = some (.dK (mK q s u)) ∧ H q = some (.lst (ns.map V.int)) := by
  obtain ⟨F, q, g, fm, hm, fq⟩ := d
  exact ⟨q, hm, g.fh _ _ fq⟩
/-- a list that was laid since is the machine's -/
theorem DrawSt.put (d : DrawSt m F0 H0 s u H ns) {p : Addr} {ks : List Int} (hp : H p = none) : DrawSt m F0 H0 s u (upd (upd H p (.lst (ks.map V.int))) m (.dK (mK p s u))) ks := by
  obtain ⟨F, q, g, fm, hm, fq⟩ := d
  have pm : p ≠ m := (ne_of_none hm hp).symm
  have fp : F p = none := Evl.fresh_back g.fh hp
  refine ⟨upd F p (.lst (ks.map V.int)), p, ⟨g.f.trans (Evl.Ex.new fp), fun a o h => ?_, fun a o ne h => ?_, fun a h => ?_, fun a o h => ?_⟩, by rw [upd_ne pm.symm]; exact fm, upd_same, upd_same⟩
  · by_cases c : a = p
    · subst c; rw [upd_same] at h; rw [upd_ne pm, upd_same]; exact h
    · rw [upd_ne c] at h
      rw [upd_ne (fun z => by rw [z, fm] at h; cases h), upd_ne c]
      exact g.fh a o h
  · have am : a ≠ m := fun z => ne (by rw [z])
    have := g.h a o ne h
    rw [upd_ne am, upd_ne (ne_of_none this hp)]
    exact this
  · by_cases c : a = m
    · subst c; rw [upd_same] at h; cases h
    · rw [upd_ne c] at h
      by_cases c2 : a = p
      · subst c2; rw [upd_same] at h; cases h
      · rw [upd_ne c2] at h; exact g.dm a h
  · by_cases c : a = p
    · subst c; exact .inr (g.dm a hp)
    · rw [upd_ne c] at h; exact g.fr a o h
theorem DrawSt.turn (d : DrawSt m F0 H0 s u H ns) {v : Int} {q : Addr} (hq : H m = some (.dK (mK q s u))) : DrawSt m F0 H0 s v (upd H m (.dK (mK q s v))) ns := by
  obtain ⟨F, q', g, fm, hm, fq⟩ := d
  rw [hq] at hm
  have e : q = q' := by
    have := (Option.some.inj hm)
    simp only [mK, HO.dK.injEq, List.cons.injEq, Prod.mk.injEq, V.ref.injEq] at this
    exact this.1.2
  subst e
  refine ⟨F, q, ⟨g.f, fun a o h => ?_, fun a o ne h => ?_, fun a h => ?_, g.fr⟩, fm, upd_same, fq⟩
  · rw [upd_ne (fun z => by rw [z, fm] at h; cases h)]; exact g.fh a o h
  · rw [upd_ne (fun z => ne (by rw [z]))]; exact g.h a o ne h
  · by_cases c : a = m
    · subst c; rw [upd_same] at h; cases h
    · rw [upd_ne c] at h; exact g.dm a h
theorem DrawSt.fin (d : DrawSt m F0 H0 s u H ns) {t : Nat} (h0 : ∀ n ∈ ns, 0 ≤ n) (hl : ns.length ≤ 64) (s0 : 0 ≤ s) (s1 : s < 2147483647) (u0 : 0 ≤ u) (u1 : u ≤ t) : ∃ F, Grow (some m) F0 H0 F H ∧ MachOk K F H (some m) t := by
  obtain ⟨F, q, g, fm, hm, fq⟩ := d
  refine ⟨F, g, fun a e => ?_⟩
  cases e
  exact ⟨fm, q, ns, s, u, hm, .lst fq (dpa_ints ns), h0, hl, s0, s1, u0, u1⟩
end
def c__law_draw : Ct := ⟨Int, fun L ss n => ss = [.m, .d (.int L)] ∧ 0 < L ∧ L < 1073741824 ∧ n < 1000000000, fun L n d n' => ∃ r, d = .int r ∧ 0 ≤ r ∧ r < L ∧ n' = n + 1, fun _ _ _ _ _ => False⟩
theorem depthAll_ints : ∀ ns : List Int, PyData.depthAll (ns.map .int) ≤ 1
  | [] => by decide
  | n :: ns => by
    have := depthAll_ints ns
    simp only [List.map_cons, PyData.depthAll, PyData.depth]
    omega
theorem lay_ints : ∀ ns : List Int, PyData.canLayAll0 (ns.map .int) = true
  | [] => rfl
  | n :: ns => by simp only [List.map_cons, PyData.canLayAll0, PyData.canLay0, lay_ints ns, Bool.and_self]
theorem shp_ints (ns : List Int) : SeqAt.shaped (.list (ns.map .int)) = true := by
  have := depthAll_ints ns
  unfold SeqAt.shaped
  rw [Bool.and_eq_true]
  refine ⟨by simp only [PyData.canLay0, lay_ints], decide_eq_true ?_⟩
  simp only [PyData.depth]
  omega
theorem shpT_ints (ns : List Int) : SeqAt.shaped (.tuple (ns.map .int)) = true := by
  have := depthAll_ints ns
  unfold SeqAt.shaped
  rw [Bool.and_eq_true]
  refine ⟨by simp only [PyData.canLay0, lay_ints], decide_eq_true ?_⟩
  simp only [PyData.depth]
  omega
theorem l2_ints {K : Fg} {H : Hp} : ∀ ns : List Int, L2.DpAll K H (ns.map V.int) (ns.map PyData.int)
  | [] => .nil
  | n :: ns => .cons (.int n) (l2_ints ns)
theorem cutV_1 {n : Int} {ns : List Int} : cutV ((n :: ns).map V.int) (some 1) none = ns.map V.int := by
  unfold cutV
  rw [show HT.sIx ((n :: ns).map V.int).length 0 (some 1) = 1 from by
    rw [show (some (1 : Int)) = some ((1 : Nat) : Int) from rfl, HT.sIx_nat]
    simp, HT.sIx_none]
  simp only [List.map_cons, List.length_cons, List.length_map, List.drop_succ_cons, List.drop_zero, Nat.add_sub_cancel]
  rw [show ns.length = (ns.map V.int).length from (List.length_map ..).symm, List.take_length]
theorem if_t {c : Bool} {A B : Prop} (e : c = true) (h : A) : if c = true then A else B := by rw [if_pos e]; exact h
theorem if_f {c : Bool} {A B : Prop} (e : c = false) (h : B) : if c = true then A else B := by rw [if_neg (by rw [e]; decide)]; exact h
end DL

namespace DL
open PySem L2
section
variable {X : Cx} {g : G} {a b e : Expr} {es : List Expr} {ta tb t : DT} {u : DA} {pos : Pos} {K : Fg}
/-! ### the script's length -/
def dLenS (i : Nat) : DT := fun ρ n P => ∃ k, ρ[i]? = some (some (.s k)) ∧ P (.int (k : Nat)) n
theorem SR.script {F H : Hp} {σ : L2.St} {ρ : Sl} {n i k : Nat} (sr : SR K g F H σ ρ n) (h : ρ[i]? = some (some (.s k))) : ∃ q xs, σ[i]? = some (some (.ref q)) ∧ SqL K H q xs ∧ xs.length = k := by
  obtain ⟨v, hv, q, xs, rfl, h1, h2, h3⟩ := sr.sl i _ h
  refine ⟨q, xs, hv, ?_, h2⟩
  rcases h1 with h1 | h1
  · have hm := h3 h1
    rcases h1 with h1 | ⟨o, h1⟩
    · exact .inl (.inl (sr.gr.h q _ hm h1))
    · exact .inl (.inr ⟨o, sr.gr.h q _ hm h1⟩)
  · exact .inr h1
theorem e_lenS (i : Nat) {x : Str} {p px : Pos} (hg : Gl X "len") (hm : X.mg "len" = none) (hN : X.N[i]? = some x := by rfl) (hv : Vis X.env.scope x := by first | exact Or.inl rfl | exact Or.inr (Or.inl rfl) | exact Or.inr (Or.inr rfl)) (hd : (x == ("__debug__" : Str)) = false := by decide)
    (hcd : (x == ("__classdict__" : Str)) = false := by decide) (hst : starEach [.Name x px] X.env = (false, eval (.Name x px) X.env) :: starEach [] X.env := by rfl) (hpl : (backTo pos (starEach [] X.env)).any (·.1) = false := by rfl) : E X g (.Call (.Name "len" p) [.Name x px] [] pos) (dLenS i) :=
  ⟨_, pe_callB call_len_seq hg hm PySem.boot_len (pa_cons (pe_var hN hv hd hcd) pa_nil hst) (by decide) (by decide) hst hpl, fun σ F H ρ n P Q sr ⟨k, hk, p⟩ kk => by
    obtain ⟨q, xs, hv, hq, hl⟩ := sr.script hk
    subst hl
    exact ⟨_, hv, q, xs, rfl, .inl hq, kk _ n _ F H p (Grow.refl sr.ex) sr (.int _)⟩⟩
/-! ### one reading for all ghosts -/
theorem sts_any {sts : List Stmt} {t : DS} (h : ∀ g, Sts X g sts t) : ∃ te, PSs X sts te ∧ ∀ g, SS X.K g te t := by
  refine ⟨fun D σ H => ∃ g', Classical.choose (h g').ok D σ H, ⟨fun pins s σ H D I ⟨g', hq⟩ => (Classical.choose_spec (h g').ok).1.run pins s σ H D I hq⟩, fun g σ F H ρ n P E sr p k1 k2 k3 k4 => ⟨g, ?_⟩⟩
  exact (Classical.choose_spec (h g).ok).2 σ F H ρ n P E sr p k1 k2 k3 k4
end
/-! ### the law's own beginning -/
def spBegun (K : Fg) : Sp := fun vs H Q _ => ∃ (a : Addr) (ns : List Int), vs = [.ref a] ∧ SqL K H a (ns.map V.int) ∧ ns.length ≤ 63 ∧
  ∀ (m q : Addr) (ks : List Int) (s : Int) (H' : Hp), H m = none → Ex H H' → H' m = some (.dK (mK q s 0)) → H' q = some (.lst (ks.map V.int)) → (∀ k ∈ ks, 0 ≤ k) → ks.length ≤ 63 → 0 ≤ s → s < 2147483647 → Q (.ref m) H'
def spLaw (K : Fg) : Sp := fun vs H Q _ => ∃ (a : Addr) (ns : List Int), vs = [.ref a] ∧ SqL K H a (ns.map V.int) ∧ ns.length ≤ 63 ∧ ∀ H', Q (.bl true) H'
theorem law_start {K : Fg} {H H' : Hp} {a m q : Addr} {ns ks : List Int} {s : Int} {x0 x1 : Str} {N : List Str} (hS : SqL K H a (ns.map V.int)) (h1 : Ex H H') (h2 : H' m = some (.dK (mK q s 0))) (h3 : H' q = some (.lst (ks.map V.int))) (h4 : ∀ k ∈ ks, 0 ≤ k) (h5 : ks.length ≤ 63) (h6 : 0 ≤ s) (h7 : s < 2147483647) :
    SR K ⟨H', upd (fun _ => none) q (.lst (ks.map V.int)), some m, noX⟩ (upd (fun _ => none) q (.lst (ks.map V.int))) H' ((L2.start (x0 :: x1 :: N) [.ref a]).set 1 (some (.ref m))) (startD (x0 :: x1 :: N) [.s ns.length, .m]) 0 := by
  have mq : m ≠ q := ne_of h2 h3 (by intro z; cases z)
  have ex : Ex (upd (fun _ => none) q (.lst (ks.map V.int))) H' := fun b o e => by
    by_cases c : b = q
    · subst c; rw [upd_same] at e; rw [h3]; exact e
    · rw [upd_ne c] at e; cases e
  refine ⟨Grow.refl ex, fun b e => ?_, fun i z e => ?_, fun i j l ds es e1 _ _ _ => ?_, ?_⟩
  · cases e
    exact ⟨by rw [upd_ne mq], q, ks, s, 0, h2, .lst upd_same (dpa_ints ks), h4, by omega, h6, h7, Int.le_refl _, by omega⟩
  · match i, e with
    | 0, e =>
      have : z = .s ns.length := by simpa [startD] using e.symm
      subst this
      refine ⟨.ref a, rfl, a, ns.map V.int, rfl, Evl.ex_l h1 hS, by rw [List.length_map], fun r z => ?_⟩
      cases z
      rcases r with r | ⟨o, r⟩
      · have r' : H' a = _ := r
        rw [h2] at r'; cases r'
      · have r' : H' a = _ := r
        rw [h2] at r'; cases r'
    | 1, e =>
      have : z = .m := by simpa [startD] using e.symm
      subst this
      exact ⟨.ref m, rfl, m, rfl, rfl⟩
    | i + 2, e =>
      exfalso
      have e' : (List.replicate N.length (none : Option S))[i]? = some (some z) := by simpa [startD] using e
      rw [List.getElem?_replicate] at e'
      split at e' <;> cases e'
  · match i, e1 with
    | 0, e => simp [startD] at e
    | 1, e => simp [startD] at e
    | i + 2, e =>
      exfalso
      have e' : (List.replicate N.length (none : Option S))[i]? = some (some (.o ds)) := by simpa [startD] using e
      rw [List.getElem?_replicate] at e'
      split at e' <;> cases e'
  · simp [startD, L2.start]
theorem merge_m {D : Addr} {z : Int} : mergeK [] [((Sum.inr "great" : Key), V.ref D), (Sum.inr "seed", .int z), (Sum.inr "turns", .int 0)] = mK D z 0 := by unfold mK kG kS kT; kernel_rfl
end DL

namespace DL
open PySem L2
section
variable {X : Cx} {g : G} {a b e : Expr} {es : List Expr} {ta tb t : DT} {u : DA} {pos : Pos} {K : Fg}
def rangeL (j : Nat) : List Int := (List.range j).map fun i => ((i : Nat) : Int)
def dListRange (t : DT) : DL_ := fun ρ n P => t ρ n fun d n' => ∃ j : Nat, d = .int ((j : Nat) : Int) ∧ j ≤ 10000 ∧ P ((rangeL j).map .int) n'
theorem rgV_nat (j : Nat) : rgV 0 ((j : Nat) : Int) = (rangeL j).map V.int := by
  unfold rgV rangeL
  rw [Int.sub_zero, Int.toNat_natCast, List.map_map]
  congr 1
  funext i
  simp
theorem l_listRange {p p2 pos2 : Pos} (hc : X.calm = true) (hg : Gl X "list") (hm : X.mg "list" = none) (hg2 : Gl X "range") (hm2 : X.mg "range" = none) (ha : E X g a t) (na : starEach [a] X.env = (false, eval a X.env) :: starEach [] X.env := by rfl)
    (nb : starEach [.Call (.Name "range" p2) [a] [] pos2] X.env = (false, eval (.Call (.Name "range" p2) [a] [] pos2) X.env) :: starEach [] X.env := by rfl) : Ls X g (.Call (.Name "list" p) [.Call (.Name "range" p2) [a] [] pos2] [] pos) (dListRange t) := by
  obtain ⟨te, p1, s1⟩ := ha
  refine ⟨_, pe_listRg hc hg hm (prg_1 hg2 hm2 p1 na) nb, fun σ F H ρ n P Q sr p k => s1 σ F H ρ n _ _ sr p fun d n1 v F1 H1 ⟨j, e, hj, p1⟩ e1 sr1 da => ?_⟩
  subst e
  cases da
  refine ⟨_, rfl, RgOk.of_le (by omega) (by omega) (by omega) (by omega), fun q hq => ?_⟩
  rw [rgV_nat]
  have gr := Grow.raw (m := none) (o := .lst ((rangeL j).map V.int)) sr1.ex hq
  exact k _ n1 _ _ _ _ p1 (e1.trans gr.any) (sr1.grow gr) (Free.of sr1 hq) (e1.dm _ hq) upd_same (dpa_ints _)
end
end DL

namespace DL
open PySem L2
section
variable {K : Fg} {h : Heap} {mg : Str → Option Value}
/-! ### what the module's top has written -/
theorem cst_int (X : K.In h) (Gm : h.Ns mainGlobals mg) {x : Str} {i : Int} {t : Tok} (e : PySem.W.nsIn K mainGlobals x = some (some (.int i t))) : Cst K mg x (.int i) := ⟨.int i, _, PySem.W.mg_of X Gm e, ⟨t, rfl⟩, fun F => .int i⟩
theorem vals_strs : ∀ (us : List Value) (ws : List Str), us.map absV = ws.map (fun w => some (V.str w)) → Vals (ws.map V.str) us
  | [], [], _ => .nil
  | [], _ :: _, h => by simp at h
  | _ :: _, [], h => by simp at h
  | u :: us, w :: ws, h => by
    rw [List.map_cons, List.map_cons, List.cons.injEq] at h
    refine .cons ?_ (vals_strs us ws h.2)
    have h1 := h.1
    cases u <;> simp [absV] at h1
    subst h1
    exact ⟨_, rfl⟩
theorem dpa_strs {F : Hp} : ∀ (ns : List Str), DpAll K F (ns.map V.str) (ns.map PyData.str)
  | [] => .nil
  | n :: ns => .cons (.str n) (dpa_strs ns)
theorem cst_strs (ws : List Str) (X : K.In h) (Gm : h.Ns mainGlobals mg) {x : Str} {a : Addr} {o : Obj} {its : Array Value} {n : Nat} (e : PySem.W.nsIn K mainGlobals x = some (some (.ref a))) (l : K.lookup a = some o) (h1 : o.cls = .type "tuple") (h2 : o.data = .seq its n)
    (h3 : its.size ≤ 1000) (h4 : its.toList.map absV = ws.map fun w => some (V.str w)) : Cst K mg x (.tuple (ws.map .str)) := by
  refine ⟨.ref a, _, PySem.W.mg_of X Gm e, rfl, fun F => .tup (xs := ws.map V.str) (.inr ⟨o, its, n, l, h1, h2, Evl.sz_of (by omega), vals_strs _ _ h4⟩) (dpa_strs ws)⟩
structure FnFact (K : Fg) (x : Str) (st : Stmt) : Prop where
  ok : ∃ (f : Addr) (oc : Value) (od an : Option Addr) (osl : Array (Option Value)) (kV doc pm cdv ct : Value), PySem.W.nsIn K mainGlobals x = some (some (.ref f)) ∧ K.lookup f = some ⟨oc, od, .func (PySem.W.fnOf x x (defArgs st) (defBody st) (defScope st) .none kV doc pm an cdv ct), osl⟩ ∧ PySem.W.codeIn K cdv x = true ∧ PySem.W.keepIn K (.ref f) = true
theorem fact_mk {x : Str} {st : Stmt} {f : Addr} {oc : Value} {od an : Option Addr} {osl : Array (Option Value)} {kV doc pm cdv ct : Value} (a : PySem.W.nsIn K mainGlobals x = some (some (.ref f))) (l : K.lookup f = some ⟨oc, od, .func (PySem.W.fnOf x x (defArgs st) (defBody st) (defScope st) .none kV doc pm an cdv ct), osl⟩)
    (c : PySem.W.codeIn K cdv x = true) (k : PySem.W.keepIn K (.ref f) = true) : FnFact K x st := ⟨⟨f, oc, od, an, osl, kV, doc, pm, cdv, ct, a, l, c, k⟩⟩
theorem FnFact.at_ {x : Str} {st : Stmt} (F : FnFact K x st) (X : K.In h) (Gm : h.Ns mainGlobals mg) (ps : List Str)
    (hb : ∀ (kV doc pm : Value) (an : Option Addr) (cdv ct : Value) (us : List Value), us.length = ps.length → bindArgs (PySem.W.fnOf x x (defArgs st) (defBody st) (defScope st) .none kV doc pm an cdv ct) ⟨us, []⟩ = pure (ps.zip us)) : FunAt K mg x st ps := by
  obtain ⟨f, oc, od, an, osl, kV, doc, pm, cdv, ct, a, l, c, k⟩ := F.ok
  have Fn := fun_mk (x := x) (qual := x) (st := st) l c k
  exact ⟨f, _, Fn, PySem.W.mg_of X Gm a, Fn.binds hb⟩
/-- the draws' machine is begun -/
structure BegunIs (P : Program) (w : World) (K : Fg) (mg : Str → Option Value) (base : Heap) : Prop where
  ok : ∃ f fd, FnOk P w K mg base CX0 1 f fd ["_law_script"] (spBegun K) ∧ mg "_law_begun" = some (.ref f) ∧ PySem.W.keepIn K (.ref f) = true ∧ Binds K fd ["_law_script"] []
theorem law_done {te : TS} {t : DS} {H H' : Hp} {a m q : Addr} {ns ks : List Int} {s : Int} {x0 x1 : Str} {N : List Str} {Q : VK} (q2 : ∀ g, SS K g te t) (hS : SqL K H a (ns.map V.int)) (h1 : Ex H H') (h2 : H' m = some (.dK (mK q s 0))) (h3 : H' q = some (.lst (ks.map V.int))) (h4 : ∀ k ∈ ks, 0 ≤ k) (h5 : ks.length ≤ 63) (h6 : 0 ≤ s) (h7 : s < 2147483647)
    (ht : t { nx := fun _ _ => False, rt := fun d _ => d = .bool true } (startD (x0 :: x1 :: N) [.s ns.length, .m]) 0) (hq : ∀ H', Q (.bl true) H') : te { nx := fun _ H' => Q .non H', rt := Q } ((L2.start (x0 :: x1 :: N) [.ref a]).set 1 (some (.ref m))) H' := by
  refine q2 _ _ _ _ _ _ _ _ (law_start hS h1 h2 h3 h4 h5 h6 h7) ht (fun _ _ _ _ _ z => z.elim) (fun d n' σ' ρ' v F' H' e sr dv => ?_) (fun _ _ _ _ _ z => z.elim) (fun _ _ _ _ _ z => z.elim)
  subst e
  cases dv
  exact hq H'
theorem law_walk {l : PySem.W.OpenLaw} {q : Program} {loose : List Str} {XP : (Str → Option Value) → Heap → Prop} {YP : World → Heap → Prop} {d : DefRec} {K : Params → PySem.W.Frag} (k : Nat) (hk : Room k callerA) (hn : l.most = some 63) (hdf : d.params.defaults = [])
    (hY : ∀ (w : World) (h : Heap), YP w h → (K w.params).In h)
    (F : ∀ (w : World) (mg : Str → Option Value) (fa : Addr) (h : Heap), (K w.params).In h → h.Ns mainGlobals mg → mg d.name = some (.ref fa) →
      ∃ fd : FuncData, (∀ (s : Shared) (u : Value), BindsTo s fd ⟨[u], []⟩ [("_law_script", u)]) ∧ ∀ base : Heap, (K w.params).In base → base.Ns mainGlobals mg → FnOk l.prog w (K w.params) mg base CX0 k fa fd ["_law_script"] (spLaw (K w.params))) :
    PySem.W.WalkO q loose XP YP l.row.toRowW d [] (fun f vs => PySem.call f vs) :=
  L2.walk_of (n := 63) (k := k) (x := "_law_script") (CX := fun _ => CX0) (sp := fun w => spLaw (K w.params)) hn (by decide) hdf hk hY F (fun _ _ a ns hl _ hS => ⟨a, ns, rfl, hS, hl, fun _ => rfl⟩) fun _ _ _ _ _ z => z
end
end DL

namespace DL
open PySem L2
theorem dCompL_nil {vs : List Nat} {gt : DGt} {tt : DB} {te : DT} {ρ : Sl} {acc : List D} {n : Nat} {P : List D → Nat → Prop} : dCompL vs gt tt te ρ [] acc n P = P acc n := rfl
theorem dCompL_cons {vs : List Nat} {gt : DGt} {tt : DB} {te : DT} {ρ : Sl} {d : D} {r acc : List D} {n : Nat} {P : List D → Nat → Prop} : dCompL vs gt tt te ρ (d :: r) acc n P = gt d (wipeD ρ vs) n fun ρ1 n1 => tt ρ1 n1 fun b n2 => if b = true then te ρ1 n2 fun y n3 => acc.length < 100000 ∧ dCompL vs gt tt te ρ r (acc ++ [y]) n3 P else dCompL vs gt tt te ρ r acc n2 P := rfl
theorem dLoop_nil {gt : DGt} {tb : DS} {P : DEnds} {ρ : Sl} {n : Nat} : dLoop gt tb [] P ρ n = P.nx ρ n := rfl
theorem dLoop_cons {gt : DGt} {tb : DS} {d : D} {r : List D} {P : DEnds} {ρ : Sl} {n : Nat} : dLoop gt tb (d :: r) P ρ n = gt d ρ n fun ρ1 n1 => tb { nx := dLoop gt tb r P, rt := P.rt, bk := P.nx, ct := dLoop gt tb r P } ρ1 n1 := rfl
theorem le5 {a b : Nat} (h : Nat.ble a b = true) : a ≤ b := Nat.le_of_ble_eq_true h
/-! ### what the program's defs do, as data -/
def isWhole (d : D) (a b : Int) : Bool := match d with | .int i => decide (a ≤ i) && decide (i ≤ b) | _ => false
def c_is_whole : Ct := Ct.pure (D × Int × Int) (fun x => [.d x.1, .d (.int x.2.1), .d (.int x.2.2)]) (fun _ => True) (fun x => .bool (isWhole x.1 x.2.1 x.2.2))
abbrev N_is_whole : List Str := ["thing", "least", "most"]
def t_is_whole : DS := (dRet (dAnd (dUn isIntD (dVar 0)) (dAnd (dNot (dUn isBoolD (dVar 0))) (dChain leD leD (dVar 1) (dVar 0) (dVar 2)))))
theorem h_is_whole : ∀ x ss n, c_is_whole.pre x ss n → t_is_whole { nx := fun _ n' => c_is_whole.post x n .none n', rt := fun d n' => c_is_whole.post x n d n' } (startD N_is_whole ss) n := by
  rintro ⟨d, a, b⟩ ss n ⟨rfl, _⟩
  cases d with
  | int i =>
    refine ⟨_, rfl, _, rfl, _, rfl, ?_⟩
    refine L2.iteT ?_
    refine ⟨_, rfl, _, rfl, _, rfl, _, rfl, ?_⟩
    refine L2.iteT ?_
    refine ⟨_, rfl, _, rfl, _, rfl, ?_⟩
    by_cases h : a ≤ i
    · refine if_t (decide_eq_true h) ?_
      refine ⟨_, rfl, _, rfl, ?_, rfl⟩
      show PyData.bool (decide (i ≤ b)) = PyData.bool (decide (a ≤ i) && decide (i ≤ b))
      rw [decide_eq_true h]
      rfl
    · refine if_f (decide_eq_false h) ⟨?_, rfl⟩
      show PyData.bool false = PyData.bool (decide (a ≤ i) && decide (i ≤ b))
      rw [decide_eq_false h]
      rfl
  | bool i =>
    refine ⟨_, rfl, _, rfl, _, rfl, ?_⟩
    refine L2.iteT ?_
    refine ⟨_, rfl, _, rfl, _, rfl, _, rfl, ?_⟩
    exact L2.iteF ⟨rfl, rfl⟩
  | _ => exact ⟨_, rfl, _, rfl, _, rfl, L2.iteF ⟨rfl, rfl⟩⟩
def c_is_key : Ct := Ct.pure D (fun x => [.d x]) (fun _ => True) (fun x => .bool (isWhole x 0 87))
abbrev N_is_key : List Str := ["thing"]
def t_is_key : DS := (dRet (dFn c_is_whole noX (aCons (dVar 0) (aCons (dC (.int 0)) (aCons (dC (.int 87)) aNil)))))
theorem h_is_key : ∀ x ss n, c_is_key.pre x ss n → t_is_key { nx := fun _ n' => c_is_key.post x n .none n', rt := fun d n' => c_is_key.post x n d n' } (startD N_is_key ss) n := by
  rintro d ss n ⟨rfl, _⟩
  exact ⟨_, rfl, (d, 0, 87), ⟨rfl, trivial⟩, fun _ _ h => h, fun _ _ _ h => h.elim⟩
def isWord (d : D) (ws : List Str) : Bool := match d with | .str s => ws.any fun w => w == s | _ => false
def c_is_word_of : Ct := Ct.pure (D × List Str) (fun x => [.d x.1, .d (.tuple (x.2.map .str))]) (fun _ => True) (fun x => .bool (isWord x.1 x.2))
abbrev N_is_word_of : List Str := ["thing", "words"]
def t_is_word_of : DS := (dRet (dAnd (dUn isStrD (dVar 0)) (dBin inD (dVar 0) (dVar 1))))
theorem flats_strs : ∀ ws : List Str, (ws.map PyData.str).all flatD = true
  | [] => rfl
  | _ :: r => by rw [List.map_cons, List.all_cons, flats_strs r]; rfl
theorem any_strs (s : Str) : ∀ ws : List Str, ((ws.map PyData.str).any fun y => PyData.eqv y (.str s)) = ws.any fun w => w == s
  | [] => rfl
  | _ :: r => by rw [List.map_cons, List.any_cons, List.any_cons, any_strs s r]; rfl
theorem in_strs {s : Str} {ws : List Str} : inD (.str s) (.tuple (ws.map .str)) = some (.bool (ws.any fun w => w == s)) := by
  unfold inD inSeq
  simp only [itemsOf, flatD, flats_strs, Bool.and_self, if_true, any_strs]
  rfl
theorem h_is_word_of : ∀ x ss n, c_is_word_of.pre x ss n → t_is_word_of { nx := fun _ n' => c_is_word_of.post x n .none n', rt := fun d n' => c_is_word_of.post x n d n' } (startD N_is_word_of ss) n := by
  rintro ⟨d, ws⟩ ss n ⟨rfl, _⟩
  cases d with
  | str s => exact ⟨_, rfl, _, rfl, _, rfl, L2.iteT ⟨_, rfl, _, rfl, _, in_strs, rfl, rfl⟩⟩
  | _ => exact ⟨_, rfl, _, rfl, _, rfl, L2.iteF ⟨rfl, rfl⟩⟩
def goodSigns (z : Str) : Bool := decide (1 ≤ z.length) && decide (z.length ≤ 8) && decide (120 ∈ z.cps.toList) && z.cps.toList.all fun c => decide (c = 120) || decide (c = 45)
def isRhythm (d : D) : Bool := match d with | .str z => goodSigns z | _ => false
def c_is_rhythm : Ct := Ct.pure D (fun x => [.d x]) (fun x => match x with | .str z => z.length ≤ 100000 | _ => True) (fun x => .bool (isRhythm x))
abbrev N_is_rhythm : List Str := ["thing", "sign"]
def t_is_rhythm : DS := (dSeq (dIfS (bOr (bNot (bVal (dUn isStrD (dVar 0)))) (bNot (bVal (dChain leD leD (dC (.int 1)) (dCall lenD (aCons (dVar 0) aNil)) (dC (.int 8)))))) (dRet (dC (.bool false))) dNext) (dRet (dAnd (dBin inD (dC (.str "x")) (dVar 0)) (dCall allD (aCons (dFrz (dComp (iSt (dVar 0)) (gtName 1) bYes (dBin inD (dVar 1) (dC (.str "x-"))) [1])) aNil)))))
theorem in_x : ∀ c : Nat, inD (.str ⟨#[c]⟩) (.str "x-") = some (.bool (decide (c = 120) || decide (c = 45))) := by
  intro c
  have e : (("x-" : Str).cps.toList) = [120, 45] := by decide +kernel
  unfold inD inSeq inStr
  simp only [itemsOf, Option.or, e, List.mem_cons, List.not_mem_nil, or_false, Bool.false_eq_true, if_false]
  congr 2
  exact Bool.decide_or _ _
theorem comp_signs {ρ : Sl} {n : Nat} {P : List D → Nat → Prop} (hρ : ρ.length = 2) : ∀ (cs : List Nat) (acc : List D), acc.length + cs.length < 100000 → P (acc ++ cs.map fun c => .bool (decide (c = 120) || decide (c = 45))) n →
    dCompL [1] (gtName 1) bYes (dBin inD (dVar 1) (dC (.str "x-"))) ρ (cs.map fun c => .str ⟨#[c]⟩) acc n P
  | [], acc, _, h => by rw [List.map_nil, dCompL_nil]; simpa using h
  | c :: cs, acc, hl, h => by
    rw [List.map_cons, dCompL_cons]
    simp only [gtName, bYes, ↓reduceIte]
    refine ⟨.str ⟨#[c]⟩, ?_, _, in_x c, by simp at hl; omega, ?_⟩
    · have : ((wipeD ρ [1]).set 1 (some (.d (.str ⟨#[c]⟩))))[1]? = some (some (.d (.str ⟨#[c]⟩))) := by
        rw [List.getElem?_set_self]
        show 1 < (ρ.set 1 none).length
        rw [List.length_set, hρ]
        decide
      exact this
    · refine comp_signs hρ cs (acc ++ [.bool (decide (c = 120) || decide (c = 45))]) (by simp at hl ⊢; omega) ?_
      simpa using h
theorem in_str1 {c : Nat} {w z : Str} (e : w.cps.toList = [c]) : inD (.str w) (.str z) = some (.bool (decide (c ∈ z.cps.toList))) := by
  unfold inD inSeq inStr
  simp [itemsOf, e]
theorem h_is_rhythm : ∀ x ss n, c_is_rhythm.pre x ss n → t_is_rhythm { nx := fun _ n' => c_is_rhythm.post x n .none n', rt := fun d n' => c_is_rhythm.post x n d n' } (startD N_is_rhythm ss) n := by
  rintro d ss n ⟨rfl, hz⟩
  cases d with
  | str z =>
    have hz : z.length ≤ 100000 := hz
    have el : lenD [.str z] = some (.int (z.length : Nat)) := by
      show (if decide (z.length ≤ 100000) then some (PyData.int (z.length : Nat)) else none) = _
      rw [if_pos (decide_eq_true hz)]
    refine ⟨_, rfl, _, rfl, _, rfl, ?_⟩
    refine L2.iteF ?_
    refine ⟨_, rfl, _, _, rfl, el, _, rfl, ?_⟩
    by_cases h1 : (1 : Int) ≤ (z.length : Nat)
    · refine if_t (decide_eq_true h1) ⟨_, rfl, _, rfl, ?_⟩
      by_cases h2 : ((z.length : Nat) : Int) ≤ 8
      · rw [decide_eq_true h2]
        refine L2.iteF ?_
        refine ⟨_, rfl, _, in_str1 (c := 120) (by decide +kernel), _, rfl, ?_⟩
        have fin : ∀ b1 b2 : Bool, (decide (120 ∈ z.cps.toList) = b1) → (z.cps.toList.all (fun c => decide (c = 120) || decide (c = 45)) = b2) → isRhythm (.str z) = (b1 && b2) := by
          intro b1 b2 e1 e2
          show goodSigns z = _
          unfold goodSigns
          rw [e1, e2, decide_eq_true (show 1 ≤ z.length by omega), decide_eq_true (show z.length ≤ 8 by omega)]
          rfl
        by_cases h3 : 120 ∈ z.cps.toList
        · refine if_t (decide_eq_true h3) ?_
          refine ⟨_, rfl, z, rfl, ?_⟩
          have hcs : z.cps.toList.length = z.length := by simp [Str.length]
          refine comp_signs (ρ := startD N_is_rhythm [.d (.str z)]) rfl z.cps.toList [] (by simp only [List.length_nil]; omega) ?_
          refine ⟨_, _, rfl, ?_, rfl, rfl⟩
          show (boolsOf ([] ++ List.map (fun c => PyData.bool (decide (c = 120) || decide (c = 45))) z.cps.toList)).map _ = _
          have e : ([] ++ List.map (fun c => PyData.bool (decide (c = 120) || decide (c = 45))) z.cps.toList) = (z.cps.toList.map fun c => (decide (c = 120) || decide (c = 45))).map .bool := by simp
          rw [e, boolsOf_map]
          show some (PyData.bool _) = some (PyData.bool (isRhythm (.str z)))
          rw [fin true _ (decide_eq_true h3) rfl]
          simp [List.all_map]
        · refine if_f (decide_eq_false h3) ⟨?_, rfl⟩
          show PyData.bool false = PyData.bool (isRhythm (.str z))
          rw [fin false _ (decide_eq_false h3) rfl]
          rfl
      · rw [decide_eq_false h2]
        refine L2.iteT ⟨?_, rfl⟩
        show PyData.bool false = PyData.bool (goodSigns z)
        unfold goodSigns
        rw [decide_eq_false (show ¬ z.length ≤ 8 by omega), Bool.and_false, Bool.false_and, Bool.false_and]
    · refine if_f (decide_eq_false h1) ⟨_, rfl, ?_⟩
      refine L2.iteT ⟨?_, rfl⟩
      show PyData.bool false = PyData.bool (goodSigns z)
      unfold goodSigns
      rw [decide_eq_false (show ¬ 1 ≤ z.length by omega), Bool.false_and, Bool.false_and, Bool.false_and]
  | _ => exact ⟨_, rfl, _, rfl, _, rfl, L2.iteT ⟨rfl, rfl⟩⟩
theorem ixD_at {x : D} {ds : List D} {j : Nat} {d : D} {i : Int} (hx : itemsOf x = some ds) (h : ds[j]? = some d) (hi : i = (j : Nat)) : ixD x (.int i) = some d := by
  subst hi
  unfold ixD ixSq
  rw [hx]
  show (atI ds ((j : Nat) : Int)).or _ = _
  rw [atI_nat h]
  rfl
/-! ### settings -/
abbrev ordersS : List Str := ["up", "down", "bounce", "swing", "outside", "played"]
abbrev changesS : List Str := ["stay", "again", "follow"]
def isB : D → Bool
  | .bool _ => true
  | _ => false
def rowsOf (o oc r c l : D) : List (Str × Bool) := [("order", isWord o ordersS), ("octaves", isWhole oc 1 3), ("rhythm", isRhythm r), ("change", isWord c changesS), ("latch", isB l)]
def wrongs (rows : List (Str × Bool)) : List Str := (rows.filter fun r => !r.2).map (·.1)
def faultOf (o oc r c l : D) : D := match wrongs (rowsOf o oc r c l) with | [] => .none | w :: _ => .tuple [.str w]
def faultD : D → D
  | .tuple [o, oc, r, c, l] => faultOf o oc r c l
  | _ => .tuple []
def shortD : D → Prop
  | .str z => z.length ≤ 100000
  | _ => True
def c_setting_fault : Ct := Ct.pure D (fun x => [.d x]) (fun x => match x with | .tuple [_, _, r, _, _] => shortD r | .str z => z.length ≤ 100000 | _ => True) faultD
abbrev N_setting_fault : List Str := ["thing", "order", "octaves", "rhythm", "change", "latch", "rows", "wrong", "word", "is_right"]
def t_setting_fault : DS := (dSeq (dIfS (bOr (bNot (bVal (dUn isTupD (dVar 0)))) (bVal (dBin neD (dCall lenD (aCons (dVar 0) aNil)) (dC (.int 5))))) (dRet (dTup aNil)) dNext) (dSeq (dAsg (dVar 0) (gtTup 5 (gtCons (gtName 1) (gtCons (gtName 2) (gtCons (gtName 3) (gtCons (gtName 4) (gtCons (gtName 5) gtNil))))))) (dSeq (dOwn 6 (dLst (aCons (dTup (aCons (dC (.str "order")) (aCons (dFn c_is_word_of noX (aCons (dVar 1) (aCons (dC (.tuple [(.str "up"), (.str "down"), (.str "bounce"), (.str "swing"), (.str "outside"), (.str "played")])) aNil))) aNil))) (aCons (dTup (aCons (dC (.str "octaves")) (aCons (dFn c_is_whole noX (aCons (dVar 2) (aCons (dC (.int 1)) (aCons (dC (.int 3)) aNil)))) aNil))) aNil)))) (dSeq (dExt 6 (dFrz (dLst (aCons (dTup (aCons (dC (.str "rhythm")) (aCons (dFn c_is_rhythm noX (aCons (dVar 3) aNil)) aNil))) (aCons (dTup (aCons (dC (.str "change")) (aCons (dFn c_is_word_of noX (aCons (dVar 4) (aCons (dC (.tuple [(.str "stay"), (.str "again"), (.str "follow")])) aNil))) aNil))) aNil))))) (dFreeze 6 (dSeq (dSetL 7 (dComp (iLs (dBin addD (dVar 6) (dFrz (dLst (aCons (dTup (aCons (dC (.str "latch")) (aCons (dUn isBoolD (dVar 5)) aNil))) aNil))))) (gtTup 2 (gtCons (gtName 8) (gtCons (gtName 9) gtNil))) (bNot (bVal (dVar 9))) (dVar 8) [8, 9])) (dRet (dIf (bVal (dBin neD (dVar 7) (dFrz (dLst aNil)))) (dTup (aCons (dBin ixD (dVar 7) (dC (.int 0))) aNil)) (dC .none)))))))))
def rowD (r : Str × Bool) : D := .tuple [.str r.1, .bool r.2]
theorem comp_rows {ρ : Sl} {n : Nat} {P : List D → Nat → Prop} (hρ : ρ.length = 10) : ∀ (rows : List (Str × Bool)) (acc : List D), acc.length + rows.length < 100000 → P (acc ++ (wrongs rows).map .str) n →
    dCompL [8, 9] (gtTup 2 (gtCons (gtName 8) (gtCons (gtName 9) gtNil))) (bNot (bVal (dVar 9))) (dVar 8) ρ (rows.map rowD) acc n P
  | [], acc, _, h => by rw [List.map_nil, dCompL_nil]; simpa [wrongs] using h
  | (w, b) :: rows, acc, hl, h => by
    rw [List.map_cons, dCompL_cons]
    refine ⟨[.str w, .bool b], rfl, rfl, _, _, rfl, _, _, rfl, rfl, ?_⟩
    have l2 : (wipeD ρ [8, 9]).length = 10 := by
      show ((ρ.set 9 none).set 8 none).length = 10
      rw [List.length_set, List.length_set, hρ]
    have g9 : (((wipeD ρ [8, 9]).set 8 (some (.d (.str w)))).set 9 (some (.d (.bool b))))[9]? = some (some (.d (.bool b))) := by
      rw [List.getElem?_set_self (by rw [List.length_set, l2]; decide)]
    have g8 : (((wipeD ρ [8, 9]).set 8 (some (.d (.str w)))).set 9 (some (.d (.bool b))))[8]? = some (some (.d (.str w))) := by
      rw [List.getElem?_set_ne (by decide), List.getElem?_set_self (by rw [l2]; decide)]
    refine ⟨_, g9, b, rfl, ?_⟩
    cases b with
    | true =>
      refine L2.iteF (comp_rows hρ rows acc (by simp at hl; omega) ?_)
      simpa [wrongs] using h
    | false =>
      refine L2.iteT ⟨_, g8, by simp at hl; omega, comp_rows hρ rows (acc ++ [.str w]) (by simp at hl ⊢; omega) ?_⟩
      simpa [wrongs] using h
theorem ne_wrongs (b1 b2 b3 b4 b5 : Bool) : neD (.list ((wrongs [("order", b1), ("octaves", b2), ("rhythm", b3), ("change", b4), ("latch", b5)]).map .str)) (.list []) = some (.bool (!(wrongs [("order", b1), ("octaves", b2), ("rhythm", b3), ("change", b4), ("latch", b5)]).isEmpty)) := by
  cases b1 <;> cases b2 <;> cases b3 <;> cases b4 <;> cases b5 <;> kernel_rfl
theorem h_setting_fault : ∀ x ss n, c_setting_fault.pre x ss n → t_setting_fault { nx := fun _ n' => c_setting_fault.post x n .none n', rt := fun d n' => c_setting_fault.post x n d n' } (startD N_setting_fault ss) n := by
  rintro d ss n ⟨rfl, hd⟩
  cases d with
  | tuple ds =>
    refine ⟨_, rfl, _, rfl, _, rfl, ?_⟩
    refine L2.iteF ?_
    refine ⟨_, rfl, _, _, rfl, rfl, _, rfl, _, rfl, ?_⟩
    match ds, hd with
    | [o, oc, r, c, l], hd =>
      refine L2.iteF ?_
      refine ⟨_, rfl, _, rfl, rfl, _, _, rfl, _, _, rfl, _, _, rfl, _, _, rfl, _, _, rfl, rfl, ?_⟩
      -- rows = [..]
      refine ⟨_, rfl, (o, ordersS), ⟨rfl, trivial⟩, ?_, fun _ _ _ z => z.elim⟩
      rintro _ _ ⟨rfl, rfl⟩
      refine ⟨_, rfl, le5 rfl, _, rfl, (oc, 1, 3), ⟨rfl, trivial⟩, ?_, fun _ _ _ z => z.elim⟩
      rintro _ _ ⟨rfl, rfl⟩
      refine ⟨_, rfl, le5 rfl, _, rfl, le5 rfl, ?_⟩
      -- rows += [..]
      refine ⟨_, rfl, _, rfl, r, ⟨rfl, hd⟩, ?_, fun _ _ _ z => z.elim⟩
      rintro _ _ ⟨rfl, rfl⟩
      refine ⟨_, rfl, le5 rfl, _, rfl, (c, changesS), ⟨rfl, trivial⟩, ?_, fun _ _ _ z => z.elim⟩
      rintro _ _ ⟨rfl, rfl⟩
      refine ⟨_, rfl, le5 rfl, _, rfl, le5 rfl, _, rfl, le5 rfl, ?_⟩
      refine ⟨_, rfl, ?_⟩
      refine ⟨_, rfl, _, rfl, _, rfl, _, rfl, le5 rfl, _, rfl, le5 rfl, _, rfl, _, rfl, ?_⟩
      refine comp_rows rfl (rowsOf o oc r c l) [] (by simp [rowsOf]) ?_
      refine ⟨_, rfl, _, rfl, le5 rfl, _, ne_wrongs _ _ _ _ _, _, rfl, ?_⟩
      cases hw : wrongs (rowsOf o oc r c l) with
      | nil =>
        rw [show wrongs [("order", isWord o ordersS), ("octaves", isWhole oc 1 3), ("rhythm", isRhythm r), ("change", isWord c changesS), ("latch", isB l)] = [] from hw]
        refine L2.iteF ⟨?_, rfl⟩
        show PyData.none = faultOf o oc r c l
        unfold faultOf
        rw [hw]
      | cons w ws =>
        rw [show wrongs [("order", isWord o ordersS), ("octaves", isWhole oc 1 3), ("rhythm", isRhythm r), ("change", isWord c changesS), ("latch", isB l)] = w :: ws from hw]
        refine L2.iteT ⟨_, rfl, .str w, ?_, _, rfl, le5 rfl, ?_, rfl⟩
        · exact ixD_at (j := 0) rfl rfl rfl
        · show PyData.tuple [.str w] = faultOf o oc r c l
          unfold faultOf
          rw [hw]
    | [], _ => exact L2.iteT ⟨_, rfl, le5 rfl, rfl, rfl⟩
    | [_], _ => exact L2.iteT ⟨_, rfl, le5 rfl, rfl, rfl⟩
    | [_, _], _ => exact L2.iteT ⟨_, rfl, le5 rfl, rfl, rfl⟩
    | [_, _, _], _ => exact L2.iteT ⟨_, rfl, le5 rfl, rfl, rfl⟩
    | [_, _, _, _], _ => exact L2.iteT ⟨_, rfl, le5 rfl, rfl, rfl⟩
    | a1 :: a2 :: a3 :: a4 :: a5 :: a6 :: r, _ =>
      refine if_t ?_ ⟨_, rfl, le5 rfl, rfl, rfl⟩
      have : ¬ (((a1 :: a2 :: a3 :: a4 :: a5 :: a6 :: r).length : Nat) : Int) = 5 := by simp only [List.length_cons]; omega
      show (!((((a1 :: a2 :: a3 :: a4 :: a5 :: a6 :: r).length : Nat) : Int) == 5)) = true
      rw [beq_eq_false_iff_ne.mpr this]
      rfl
  | _ => exact ⟨_, rfl, _, rfl, _, rfl, L2.iteT ⟨_, rfl, le5 rfl, rfl, rfl⟩⟩
def c_need_setting : Ct := Ct.pure D (fun x => [.d x]) (fun x => (match x with | .tuple [_, _, r, _, _] => shortD r | .str z => z.length ≤ 100000 | _ => True) ∧ faultD x = .none) (fun x => x)
abbrev N_need_setting : List Str := ["thing", "place"]
def t_need_setting : DS := (dSeq (dAsg (dFn c_setting_fault noX (aCons (dVar 0) aNil)) (gtName 1)) (dSeq (dIfS (bVal (dBin notND (dVar 1) (dC .none))) dNever dNext) (dRet (dVar 0))))
theorem h_need_setting : ∀ x ss n, c_need_setting.pre x ss n → t_need_setting { nx := fun _ n' => c_need_setting.post x n .none n', rt := fun d n' => c_need_setting.post x n d n' } (startD N_need_setting ss) n := by
  rintro d ss n ⟨rfl, hd, hf⟩
  refine ⟨_, rfl, d, ⟨rfl, hd⟩, ?_, fun _ _ _ z => z.elim⟩
  rintro _ _ ⟨rfl, rfl⟩
  rw [hf]
  refine ⟨_, rfl, _, rfl, _, rfl, ?_⟩
  exact L2.iteF ⟨_, rfl, rfl, rfl⟩
/-! ### chords -/
structure ChordOk (ns : List Int) : Prop where
  key : ∀ k ∈ ns, 0 ≤ k ∧ k ≤ 87
  nd : ns.Nodup
  len : ns.length ≤ 6
abbrev tupI (ns : List Int) : D := .tuple (ns.map .int)
def c_need_chord : Ct := Ct.pure (List Int) (fun x => [.d (tupI x)]) ChordOk tupI
abbrev N_need_chord : List Str := ["thing", "number", "key"]
def t_need_chord : DS := (dSeq (dIfS (bOr (bNot (bVal (dUn isTupD (dVar 0)))) (bVal (dBin gtD (dCall lenD (aCons (dVar 0) aNil)) (dC (.int 6))))) dNever dNext) (dSeq (dFor (iEnT (aCons (dVar 0) aNil)) (gtTup 2 (gtCons (gtName 1) (gtCons (gtName 2) gtNil))) (dIfS (bOr (bNot (bVal (dFn c_is_key noX (aCons (dVar 2) aNil)))) (bVal (dBin inD (dVar 2) (dSl (dVar 0) oNone (oSome (dVar 1)))))) dNever dNext)) (dRet (dVar 0))))
theorem flats_ints : ∀ ws : List Int, (ws.map PyData.int).all flatD = true
  | [] => rfl
  | _ :: r => by rw [List.map_cons, List.all_cons, flats_ints r]; rfl
theorem any_ints (s : Int) : ∀ ws : List Int, ((ws.map PyData.int).any fun y => PyData.eqv y (.int s)) = ws.contains s
  | [] => rfl
  | a :: r => by
    rw [List.map_cons, List.any_cons, any_ints s r, List.contains_cons]
    show ((a == s) || _) = _
    rw [show (a == s) = (s == a) from Bool.beq_comm ..]
theorem in_ints {s : Int} {ws : List Int} : inD (.int s) (tupI ws) = some (.bool (ws.contains s)) := by
  unfold inD inSeq
  simp only [itemsOf, flatD, flats_ints, Bool.and_self, if_true, any_ints]
  rfl
theorem cutD_to {ds : List D} {k : Nat} : cutD ds none (some (k : Int)) = ds.take k := by
  unfold cutD
  rw [HT.sIx_none, HT.sIx_nat, Nat.sub_zero, List.drop_zero]
  by_cases h : k ≤ ds.length
  · rw [Nat.min_eq_left h]
  · rw [Nat.min_eq_right (by omega), List.take_of_length_le (Nat.le_refl _), List.take_of_length_le (by omega)]
theorem loop_chord {ns : List Int} (ok : ChordOk ns) {P : DEnds} {n : Nat} : ∀ (j : Nat) (ρ : Sl), ρ.length = 3 → ρ[0]? = some (some (.d (tupI ns))) → (∀ ρ', ρ'.length = 3 → ρ'[0]? = some (some (.d (tupI ns))) → P.nx ρ' n) →
    dLoop (gtTup 2 (gtCons (gtName 1) (gtCons (gtName 2) gtNil))) (dIfS (bOr (bNot (bVal (dFn c_is_key noX (aCons (dVar 2) aNil)))) (bVal (dBin inD (dVar 2) (dSl (dVar 0) oNone (oSome (dVar 1)))))) dNever dNext) ((enumD (ns.map .int)).drop j) P ρ n := by
  intro j
  induction h : ns.length - j generalizing j with
  | zero =>
    intro ρ h1 h2 h3
    rw [List.drop_of_length_le (by unfold enumD; simp; omega), dLoop_nil]
    exact h3 ρ h1 h2
  | succ m ih =>
    intro ρ h1 h2 h3
    have hj : j < ns.length := by omega
    have e : (enumD (ns.map .int)).drop j = .tuple [.int (j : Nat), .int ns[j]] :: (enumD (ns.map .int)).drop (j + 1) := by
      apply drop_at
      apply enumD_get
      rw [List.getElem?_map, List.getElem?_eq_getElem hj]
      rfl
    rw [e, dLoop_cons]
    refine ⟨[.int (j : Nat), .int ns[j]], rfl, rfl, _, _, rfl, _, _, rfl, rfl, ?_⟩
    have g0 : ((ρ.set 1 (some (.d (.int (j : Nat))))).set 2 (some (.d (.int ns[j]))))[0]? = some (some (.d (tupI ns))) := by
      rw [List.getElem?_set_ne (by decide), List.getElem?_set_ne (by decide)]; exact h2
    have g1 : ((ρ.set 1 (some (.d (.int (j : Nat))))).set 2 (some (.d (.int ns[j]))))[1]? = some (some (.d (.int (j : Nat)))) := by
      rw [List.getElem?_set_ne (by decide), List.getElem?_set_self (by omega)]
    have g2 : ((ρ.set 1 (some (.d (.int (j : Nat))))).set 2 (some (.d (.int ns[j]))))[2]? = some (some (.d (.int ns[j]))) := by
      rw [List.getElem?_set_self (by rw [List.length_set]; omega)]
    refine ⟨_, g2, PyData.int ns[j], ⟨rfl, trivial⟩, ?_, fun _ _ _ z => z.elim⟩
    rintro _ _ ⟨rfl, rfl⟩
    have hk := ok.key ns[j] (List.getElem_mem hj)
    refine ⟨true, ?_, ?_⟩
    · show PyData.bool (decide (0 ≤ ns[j]) && decide (ns[j] ≤ 87)) = PyData.bool true
      rw [decide_eq_true hk.1, decide_eq_true hk.2]
      rfl
    · refine L2.iteF ?_
      refine ⟨_, g2, _, g0, _, g1, _, rfl, .tuple ((ns.take j).map .int), ?_, _, in_ints, false, ?_, L2.iteF ?_⟩
      · show some (PyData.tuple (cutD (ns.map .int) none (some ((j : Nat) : Int)))) = _
        rw [cutD_to, List.map_take]
      · have : ns[j] ∉ ns.take j := fun z => by
          have nd := ok.nd
          rw [← List.take_append_drop j ns, List.nodup_append] at nd
          refine nd.2.2 _ z ns[j] ?_ rfl
          rw [List.drop_eq_getElem_cons hj]
          exact List.mem_cons_self
        show PyData.bool ((ns.take j).contains ns[j]) = PyData.bool false
        rw [show (ns.take j).contains ns[j] = false from by simpa using this]
      · exact ih (j + 1) (by omega) _ (by rw [List.length_set, List.length_set]; exact h1) g0 h3
theorem h_need_chord : ∀ x ss n, c_need_chord.pre x ss n → t_need_chord { nx := fun _ n' => c_need_chord.post x n .none n', rt := fun d n' => c_need_chord.post x n d n' } (startD N_need_chord ss) n := by
  rintro (ns : List Int) ss n ⟨rfl, ok⟩
  refine ⟨_, rfl, _, rfl, _, rfl, ?_⟩
  refine L2.iteF ?_
  have hl := ok.len
  refine ⟨_, rfl, _, _, rfl, rfl, _, rfl, false, ?_, ?_⟩
  · have : ¬ (6 : Int) < (((ns.map PyData.int).length : Nat) : Int) := by rw [List.length_map]; omega
    show PyData.bool (decide ((6 : Int) < (((ns.map PyData.int).length : Nat) : Int))) = _
    rw [decide_eq_false this]
  · refine L2.iteF ?_
    refine ⟨_, rfl, _, rfl, ?_⟩
    have := loop_chord ok (n := n) (P := { nx := dRet (dVar 0) { nx := fun _ n' => c_need_chord.post ns n .none n', rt := fun d n' => c_need_chord.post ns n d n' }, rt := fun d n' => c_need_chord.post ns n d n' }) 0 (startD N_need_chord [.d (tupI ns)]) rfl rfl (fun ρ' _ h => ⟨_, h, rfl, rfl⟩)
    exact this
/-! ### rounds -/
def keysOf (o : Str) (ns : List Int) : List Int := if o = "played" then ns else isort ns
def rowI (oct : Nat) (ks : List Int) : List Int := (List.range oct).flatMap fun j => ks.map fun k => k + 12 * (j : Nat)
structure StgOk (o : Str) (oct : Nat) (rh ch : Str) : Prop where
  o : o ∈ ordersS
  oct : 1 ≤ oct ∧ oct ≤ 3
  rh : goodSigns rh = true
  ch : ch ∈ changesS
abbrev stgD (o : Str) (oct : Nat) (rh ch : Str) (la : Bool) : D := .tuple [.str o, .int (oct : Nat), .str rh, .str ch, .bool la]
structure Stg where
  o : Str
  oct : Nat
  rh : Str
  ch : Str
  la : Bool
abbrev Stg.d (s : Stg) : D := stgD s.o s.oct s.rh s.ch s.la
abbrev Stg.Ok (s : Stg) : Prop := StgOk s.o s.oct s.rh s.ch
def c_tone_row : Ct := Ct.pure (Stg × List Int) (fun x => [.d x.1.d, .d (tupI x.2)]) (fun x => x.1.Ok ∧ ChordOk x.2) (fun x => .list ((rowI x.1.oct (keysOf x.1.o x.2)).map .int))
abbrev N_tone_row : List Str := ["setting", "chord", "keys", "octave", "key"]
def t_tone_row : DS := (dSeq (dAsg (dIf (bVal (dBin eqD (dBin ixD (dVar 0) (dC (.int 0))) (dC (.str "played")))) (dFrz (dCallL listD (aCons (dVar 1) aNil))) (dFrz (dCallL sortedD (aCons (dVar 1) aNil)))) (gtName 2)) (dRet (dFrz (dComp2 (iR1 (aCons (dBin ixD (dVar 0) (dC (.int 1))) aNil)) (gtName 3) (iLs (dVar 2)) (gtName 4) (dBin addD (dVar 4) (dBin mulD (dC (.int 12)) (dVar 3))) [3, 4] [4]))))
def outI : List Int → List Int
  | [] => []
  | x :: xs => x :: outI xs.reverse
termination_by xs => xs.length
decreasing_by simp
def c_from_outside : Ct := Ct.pure (List Int) (fun x => [.d (.list (x.map .int))]) (fun x => x.length ≤ 1000) (fun x => .list ((outI x).map .int))
abbrev N_from_outside : List Str := ["row", "found", "rest"]
def t_from_outside : DS := (dSeq (dParLL 1 2 (dLst aNil) (dCallL listD (aCons (dVar 0) aNil))) (dSeq (dWhile (bView (bVal (dBin neD (dVar 2) (dFrz (dLst aNil))))) (dSeq (dAppPop 1 2 (dC (.int 0))) (dRev 2))) (dFreeze 1 (dRet (dVar 1)))))
def midI (row : List Int) : List Int := ((row.drop 1).take (row.length - 2))
def roundI (o : Str) (row : List Int) : List Int :=
  if o = "down" then row.reverse else if o = "bounce" then row ++ (midI row).reverse else if o = "swing" then row ++ row.reverse else if o = "outside" then outI row else row
def rndI (s : Stg) (ns : List Int) : List Int := roundI s.o (rowI s.oct (keysOf s.o ns))
def c_round_in : Ct := Ct.pure (Stg × List Int) (fun x => [.d x.1.d, .d (tupI x.2)]) (fun x => x.1.Ok ∧ ChordOk x.2) (fun x => tupI (rndI x.1 x.2))
abbrev N_round_in : List Str := ["setting", "chord", "row"]
def t_round_in : DS := (dSeq (dAsg (dFn c_tone_row noX (aCons (dVar 0) (aCons (dVar 1) aNil))) (gtName 2)) (dSeq (dMatch (dBin ixD (dVar 0) (dC (.int 0))) (mStr "down" (dRet (dCall tupleD (aCons (dUn revL (dVar 2)) aNil))) (mStr "bounce" (dRet (dCall tupleD (aCons (dBin addD (dVar 2) (dUn revL (dSl (dVar 2) (oSome (dC (.int 1))) (oSome (dUn negD (dC (.int 1))))))) aNil))) (mStr "swing" (dRet (dCall tupleD (aCons (dBin addD (dVar 2) (dUn revL (dVar 2))) aNil))) (mStr "outside" (dRet (dCall tupleD (aCons (dFn c_from_outside noX (aCons (dVar 2) aNil)) aNil))) mNil))))) (dRet (dCall tupleD (aCons (dVar 2) aNil)))))
def c_round_of : Ct := Ct.pure (Stg × List Int) (fun x => [.d x.1.d, .d (tupI x.2)]) (fun x => x.1.Ok ∧ ChordOk x.2) (fun x => tupI (rndI x.1 x.2))
abbrev N_round_of : List Str := ["setting", "chord"]
def t_round_of : DS := (dSeq (dDrop (dFn c_need_setting noX (aCons (dVar 0) aNil))) (dRet (dFn c_round_in noX (aCons (dVar 0) (aCons (dFn c_need_chord noX (aCons (dVar 1) aNil)) aNil)))))
theorem fault_ok {s : Stg} (ok : s.Ok) : faultD s.d = .none := by
  have h1 : isWord (.str s.o) ordersS = true := by
    show (ordersS.any fun w => w == s.o) = true
    exact List.any_eq_true.mpr ⟨s.o, ok.o, by simp⟩
  have h2 : isWord (.str s.ch) changesS = true := by
    show (changesS.any fun w => w == s.ch) = true
    exact List.any_eq_true.mpr ⟨s.ch, ok.ch, by simp⟩
  have h3 : isWhole (.int (s.oct : Nat)) 1 3 = true := by
    have := ok.oct
    show (decide ((1 : Int) ≤ (s.oct : Nat)) && decide (((s.oct : Nat) : Int) ≤ 3)) = true
    rw [decide_eq_true (by omega), decide_eq_true (by omega)]
    rfl
  show faultOf _ _ _ _ _ = _
  unfold faultOf rowsOf
  rw [h1, h2, h3, show isRhythm (.str s.rh) = true from ok.rh]
  rfl
theorem short_ok {s : Stg} (ok : s.Ok) : shortD (.str s.rh) := by
  have := ok.rh
  unfold goodSigns at this
  simp only [Bool.and_eq_true, decide_eq_true_eq] at this
  show s.rh.length ≤ 100000
  omega
theorem h_round_of : ∀ x ss n, c_round_of.pre x ss n → t_round_of { nx := fun _ n' => c_round_of.post x n .none n', rt := fun d n' => c_round_of.post x n d n' } (startD N_round_of ss) n := by
  rintro ⟨s, ns⟩ ss n ⟨rfl, ok, oc⟩
  refine ⟨_, rfl, s.d, ⟨rfl, short_ok ok, fault_ok ok⟩, ?_, fun _ _ _ z => z.elim⟩
  rintro _ _ ⟨rfl, rfl⟩
  refine ⟨_, rfl, _, rfl, ns, ⟨rfl, oc⟩, ?_, fun _ _ _ z => z.elim⟩
  rintro _ _ ⟨rfl, rfl⟩
  refine ⟨(s, ns), ⟨rfl, ok, oc⟩, ?_, fun _ _ _ z => z.elim⟩
  rintro _ _ ⟨rfl, rfl⟩
  exact ⟨rfl, rfl⟩
end DL

namespace DL
open PySem L2
theorem shp_str {x : Str} (h : PyData.strOk x = true) : shp (.str x) = true := by
  unfold shp SeqAt.shaped
  rw [Bool.and_eq_true]
  exact ⟨h, rfl⟩
theorem eq_str {x y : Str} (hx : PyData.strOk x = true) (hy : PyData.strOk y = true) : eqD (.str x) (.str y) = some (.bool (decide (x = y))) := by
  unfold eqD
  rw [shp_str hx, shp_str hy]
  show some (PyData.bool (x == y)) = _
  rfl
theorem ord_ok {o : Str} (h : o ∈ ordersS) : PyData.strOk o = true := by
  simp only [ordersS, List.mem_cons, List.not_mem_nil, or_false] at h
  rcases h with h | h | h | h | h | h <;> (subst h; kernel_rfl)
theorem dComp2L_nil {vs vs1 : List Nat} {gt1 : DGt} {te : DT} {ρ1 : Sl} {acc : List D} {n : Nat} {P : List D → Nat → Prop} : dComp2L vs vs1 gt1 te ρ1 [] acc n P = P acc n := rfl
theorem dComp2L_cons {vs vs1 : List Nat} {gt1 : DGt} {te : DT} {ρ1 : Sl} {d : D} {r acc : List D} {n : Nat} {P : List D → Nat → Prop} : dComp2L vs vs1 gt1 te ρ1 (d :: r) acc n P = gt1 d (wipeD ρ1 vs1) n fun ρ2 n2 => te ρ2 n2 fun y n3 => acc.length < 100000 ∧ dComp2L vs vs1 gt1 te ρ1 r (acc ++ [y]) n3 P := rfl
theorem dComp1L_nil {vs vs1 : List Nat} {gt : DGt} {ti1 : DI} {gt1 : DGt} {te : DT} {ρ : Sl} {acc : List D} {n : Nat} {P : List D → Nat → Prop} : dComp1L vs vs1 gt ti1 gt1 te ρ [] acc n P = P acc n := rfl
theorem dComp1L_cons {vs vs1 : List Nat} {gt : DGt} {ti1 : DI} {gt1 : DGt} {te : DT} {ρ : Sl} {d : D} {r acc : List D} {n : Nat} {P : List D → Nat → Prop} : dComp1L vs vs1 gt ti1 gt1 te ρ (d :: r) acc n P = gt d (wipeD ρ vs) n fun ρ1 n1 => ti1 ρ1 n1 fun items1 n2 => dComp2L vs vs1 gt1 te ρ1 items1 acc n2 fun acc' n3 => dComp1L vs vs1 gt ti1 gt1 te ρ r acc' n3 P := rfl
theorem mul_small {i j : Int} (h : -1000 ≤ i ∧ i ≤ 1000) : mulD (.int i) (.int j) = some (.int (i * j)) := by
  show (if mulOk i j then some (PyData.int (i * j)) else none) = _
  rw [if_pos]
  unfold mulOk
  rw [Bool.or_eq_true]
  exact .inl (by rw [Bool.and_eq_true]; exact ⟨decide_eq_true (by omega), decide_eq_true (by omega)⟩)
theorem comp_row2 {s c : Option S} {k0 : List Int} {j : Nat} {n : Nat} {P : List D → Nat → Prop} : ∀ (ks : List Int) (acc : List D), acc.length + ks.length < 100000 → P (acc ++ ks.map fun k => .int (k + 12 * (j : Nat))) n →
    dComp2L [3, 4] [4] (gtName 4) (dBin addD (dVar 4) (dBin mulD (dC (.int 12)) (dVar 3))) [s, c, some (.d (.list (k0.map .int))), some (.d (.int (0 + (j : Nat)))), none] (ks.map .int) acc n P
  | [], acc, _, h => by rw [List.map_nil, dComp2L_nil]; simpa using h
  | k :: ks, acc, hl, h => by
    rw [List.map_cons, dComp2L_cons]
    refine ⟨_, rfl, _, rfl, _, mul_small (by decide), _, rfl, by simp at hl; omega, ?_⟩
    refine comp_row2 ks (acc ++ [.int (k + 12 * (0 + (j : Nat)))]) (by simp at hl ⊢; omega) ?_
    simpa using h
theorem comp_row1 {s c : Option S} {k0 : List Int} {n : Nat} {P : List D → Nat → Prop} : ∀ (js : List Nat) (acc : List D), acc.length + js.length * k0.length < 90000 → k0.length < 1000 → P (acc ++ (js.flatMap fun (j : Nat) => k0.map fun (k : Int) => k + 12 * ((j : Nat) : Int)).map .int) n →
    dComp1L [3, 4] [4] (gtName 3) (iLs (dVar 2)) (gtName 4) (dBin addD (dVar 4) (dBin mulD (dC (.int 12)) (dVar 3))) [s, c, some (.d (.list (k0.map .int))), none, none] (js.map fun i => .int (0 + (i : Nat))) acc n P
  | [], acc, _, _, h => by rw [List.map_nil, dComp1L_nil]; simpa using h
  | j :: js, acc, hl, hk, h => by
    rw [List.map_cons, dComp1L_cons]
    refine ⟨_, rfl, _, rfl, ?_⟩
    have hl' : acc.length + (js.length * k0.length + k0.length) < 90000 := by
      simpa [Nat.add_mul] using hl
    refine comp_row2 (k0 := k0) k0 acc (by omega) ?_
    refine comp_row1 (k0 := k0) js _ (by rw [List.length_append, List.length_map]; omega) hk ?_
    simpa [Function.comp_def] using h
theorem keys_len {o : Str} {ns : List Int} : (keysOf o ns).length = ns.length := by
  unfold keysOf
  split
  · rfl
  · exact (isort_perm ns).length_eq
theorem h_tone_row : ∀ x ss n, c_tone_row.pre x ss n → t_tone_row { nx := fun _ n' => c_tone_row.post x n .none n', rt := fun d n' => c_tone_row.post x n d n' } (startD N_tone_row ss) n := by
  rintro ⟨s, ns⟩ ss n ⟨rfl, ok, oc⟩
  have hoct : 1 ≤ s.oct ∧ s.oct ≤ 3 := ok.oct
  have hlen : ns.length ≤ 6 := oc.len
  have rest : ∀ ks : List Int, ks = keysOf s.o ns → dRet (dFrz (dComp2 (iR1 (aCons (dBin ixD (dVar 0) (dC (.int 1))) aNil)) (gtName 3) (iLs (dVar 2)) (gtName 4) (dBin addD (dVar 4) (dBin mulD (dC (.int 12)) (dVar 3))) [3, 4] [4])) { nx := fun _ n' => c_tone_row.post (s, ns) n .none n', rt := fun d n' => c_tone_row.post (s, ns) n d n' } [some (.d s.d), some (.d (tupI ns)), some (.d (.list (ks.map .int))), none, none] n := by
    rintro ks rfl
    refine ⟨_, rfl, _, ixD_at (j := 1) rfl rfl rfl, ((s.oct : Nat) : Int), rfl, by omega, by omega, ?_⟩
    rw [Int.toNat_natCast]
    refine comp_row1 (List.range s.oct) [] (by rw [keys_len, List.length_range]; simp only [List.length_nil]; have := Nat.mul_le_mul hoct.2 hlen; omega) (by rw [keys_len]; omega) ?_
    exact ⟨rfl, rfl⟩
  refine ⟨_, rfl, _, ixD_at (j := 0) rfl rfl rfl, _, eq_str (ord_ok ok.o) (by kernel_rfl), _, rfl, ?_⟩
  by_cases hp : s.o = "played"
  · refine if_t (decide_eq_true hp) ⟨_, rfl, _, _, rfl, rfl, ?_⟩
    exact rest ns (by unfold keysOf; rw [if_pos hp])
  · refine if_f (decide_eq_false hp) ⟨_, rfl, _, (isort ns).map .int, rfl, ?_, ?_⟩
    · show ((intsOf (ns.map .int)).map fun ns => (isort ns).map PyData.int) = _
      rw [intsOf_map]
      rfl
    · exact rest (isort ns) (by unfold keysOf; rw [if_neg hp])
theorem outI_nil : outI [] = [] := by rw [outI]
theorem outI_cons {x : Int} {xs : List Int} : outI (x :: xs) = x :: outI xs.reverse := by rw [outI]
theorem h_from_outside : ∀ x ss n, c_from_outside.pre x ss n → t_from_outside { nx := fun _ n' => c_from_outside.post x n .none n', rt := fun d n' => c_from_outside.post x n d n' } (startD N_from_outside ss) n := by
  rintro (xs : List Int) ss n ⟨rfl, hl⟩
  refine ⟨_, rfl, le5 rfl, _, rfl, _, _, rfl, rfl, ?_⟩
  refine ⟨fun j ρ n' => ∃ fs rs : List Int, j = rs.length ∧ n' = n ∧ ρ = [some (.d (.list (xs.map .int))), some (.o (fs.map .int)), some (.o (rs.map .int))] ∧ fs.length + rs.length ≤ 1000 ∧ fs ++ outI rs = outI xs, ⟨_, [], xs, rfl, rfl, rfl, by simpa using hl, rfl⟩, ?_⟩
  rintro j ρ n' ⟨fs, rs, rfl, rfl, rfl, hlen, he⟩
  refine ⟨_, rfl, _, rfl, le5 rfl, .bool (!rs.isEmpty), ?_, _, rfl, rfl, ?_⟩
  · show (if shp (.list (rs.map .int)) && shp (.list []) then some (PyData.bool (!PyData.eqv (.list (rs.map .int)) (.list []))) else none) = _
    rw [show shp (.list (rs.map .int)) = true from shp_ints rs, show shp (.list []) = true from rfl]
    cases rs <;> rfl
  · cases rs with
    | nil =>
      refine L2.iteF ?_
      refine ⟨_, rfl, _, rfl, ?_, rfl⟩
      show PyData.list (fs.map .int) = PyData.list ((outI xs).map .int)
      rw [← he, outI_nil, List.append_nil]
    | cons r rs =>
      refine L2.iteT ?_
      refine ⟨_, _, rfl, by rw [List.length_map]; omega, by decide, rfl, 0, .int r, rs.map .int, rfl, ⟨0, by decide, by decide, ?_, rfl, rfl⟩, ?_⟩
      · rw [List.length_map, List.length_cons]
        unfold seqIndex?
        simp
      · refine ⟨_, rfl, ?_⟩
        refine ⟨rs.length, by simp, fs ++ [r], rs.reverse, by simp, rfl, ?_, ?_, ?_⟩
        · rw [List.map_append, List.map_reverse]; rfl
        · simp only [List.length_append, List.length_cons, List.length_nil, List.length_reverse] at hlen ⊢; omega
        · rw [← he, outI_cons]; simp
theorem cut_mid (ds : List D) : cutD ds (some 1) (some (-1)) = (ds.drop 1).take (ds.length - 2) := by
  unfold cutD
  rw [show HT.sIx ds.length 0 (some 1) = min 1 ds.length from HT.sIx_nat ds.length 0 1]
  rw [show HT.sIx ds.length ds.length (some (-1)) = ds.length - 1 from by
    have h : ((-1 : Int) < 0) := by decide
    unfold HT.sIx
    simp only [h, if_true]
    omega]
  cases ds with
  | nil => rfl
  | cons d r =>
    rw [Nat.min_eq_left (by simp)]
    rw [show (d :: r).length - 1 - 1 = (d :: r).length - 2 from by omega]
theorem row_len {oct : Nat} {ks : List Int} : (rowI oct ks).length = oct * ks.length := by
  unfold rowI
  rw [List.length_flatMap]
  simp [List.map_const', Nat.mul_comm]
theorem add_lists {xs ys : List D} (h : xs.length + ys.length ≤ 100000) : addD (.list xs) (.list ys) = some (.list (xs ++ ys)) := by
  unfold addD
  show (Option.none).or ((Option.none).or ((Option.none).or (if decide (xs.length + ys.length ≤ 100000) then some (PyData.list (xs ++ ys)) else none))) = _
  rw [if_pos (decide_eq_true h)]
  rfl
theorem add_tups {xs ys : List D} (h : xs.length + ys.length ≤ 100000) : addD (.tuple xs) (.tuple ys) = some (.tuple (xs ++ ys)) := by
  unfold addD
  show (Option.none).or ((Option.none).or ((if decide (xs.length + ys.length ≤ 100000) then some (PyData.tuple (xs ++ ys)) else none).or (Option.none))) = _
  rw [if_pos (decide_eq_true h)]
  rfl
theorem h_round_in : ∀ x ss n, c_round_in.pre x ss n → t_round_in { nx := fun _ n' => c_round_in.post x n .none n', rt := fun d n' => c_round_in.post x n d n' } (startD N_round_in ss) n := by
  rintro ⟨s, ns⟩ ss n ⟨rfl, ok, oc⟩
  have hoct : 1 ≤ s.oct ∧ s.oct ≤ 3 := ok.oct
  have hlen : ns.length ≤ 6 := oc.len
  have hl : (rowI s.oct (keysOf s.o ns)).length ≤ 18 := by
    rw [row_len, keys_len]
    have := Nat.mul_le_mul hoct.2 hlen
    omega
  obtain ⟨row, hrow⟩ : ∃ row, rowI s.oct (keysOf s.o ns) = row := ⟨_, rfl⟩
  rw [hrow] at hl
  refine ⟨_, rfl, _, rfl, (s, ns), ⟨rfl, ok, oc⟩, ?_, fun _ _ _ z => z.elim⟩
  rintro dd _ ⟨e, rfl⟩
  replace e : dd = PyData.list (row.map .int) := by rw [← hrow]; exact e
  subst e
  have fin : ∀ xs : List Int, xs = roundI s.o row → tupI xs = tupI (rndI s ns) := by
    rintro xs rfl
    unfold rndI
    rw [hrow]
  refine ⟨_, rfl, _, ixD_at (j := 0) rfl rfl rfl, s.o, rfl, ?_⟩
  show mStr "down" _ _ s.o _ _ _
  unfold mStr
  split
  · rename_i h
    refine ⟨_, rfl, _, rfl, _, _, rfl, rfl, ?_, rfl⟩
    show PyData.tuple ((row.map PyData.int).reverse) = _
    rw [← List.map_reverse]
    exact fin _ (by unfold roundI; rw [if_pos h])
  · rename_i h1
    split
    · rename_i h
      refine ⟨_, rfl, _, rfl, _, rfl, _, rfl, _, rfl, _, rfl, _, rfl, _, add_lists ?_, _, _, rfl, rfl, ?_, rfl⟩
      · rw [List.length_reverse, cut_mid, List.length_take, List.length_drop, List.length_map]
        omega
      · show PyData.tuple (row.map PyData.int ++ (cutD (row.map PyData.int) (some 1) (some (-1))).reverse) = _
        rw [cut_mid]
        have e : row.map PyData.int ++ (((row.map PyData.int).drop 1).take ((row.map PyData.int).length - 2)).reverse = (row ++ (midI row).reverse).map .int := by
          unfold midI
          simp [List.map_take, List.map_drop]
        rw [e]
        exact fin _ (by unfold roundI; rw [if_neg h1, if_pos h])
    · rename_i h2
      split
      · rename_i h
        refine ⟨_, rfl, _, rfl, _, rfl, _, add_lists (by rw [List.length_reverse, List.length_map]; omega), _, _, rfl, rfl, ?_, rfl⟩
        rw [← List.map_reverse, ← List.map_append]
        exact fin _ (by unfold roundI; rw [if_neg h1, if_neg h2, if_pos h])
      · rename_i h3
        split
        · rename_i h
          refine ⟨_, rfl, row, ⟨rfl, by omega⟩, ?_, fun _ _ _ z => z.elim⟩
          rintro _ _ ⟨rfl, rfl⟩
          refine ⟨_, _, rfl, rfl, ?_, rfl⟩
          exact fin _ (by unfold roundI; rw [if_neg h1, if_neg h2, if_neg h3, if_pos h])
        · rename_i h4
          refine ⟨_, rfl, _, _, rfl, rfl, ?_, rfl⟩
          exact fin _ (by unfold roundI; rw [if_neg h1, if_neg h2, if_neg h3, if_neg h4])
end DL

namespace DL
open PySem L2
/-! ### steps -/
theorem fm_congr {α β : Type} {f g : α → Option β} : ∀ {l : List α}, (∀ x ∈ l, f x = g x) → l.filterMap f = l.filterMap g
  | [], _ => rfl
  | x :: l, h => by
    rw [List.filterMap_cons, List.filterMap_cons, h x List.mem_cons_self, fm_congr fun y hy => h y (List.mem_cons_of_mem _ hy)]
theorem erase_map {α β : Type} (f : α → β) : ∀ (xs : List α) (i : Nat), (xs.map f).eraseIdx i = (xs.eraseIdx i).map f
  | [], _ => rfl
  | _ :: _, 0 => rfl
  | x :: xs, i + 1 => by show f x :: (xs.map f).eraseIdx i = _; rw [erase_map f xs i]; rfl
theorem perm_erase {α : Type} : ∀ (xs : List α) (i : Nat) (h : i < xs.length), ([xs[i]] ++ xs.eraseIdx i).Perm xs
  | [], _, h => by simp at h
  | x :: xs, 0, _ => List.Perm.refl _
  | x :: xs, i + 1, h => by
    have hi : i < xs.length := by simpa using h
    have := perm_erase xs i hi
    show (xs[i] :: x :: xs.eraseIdx i).Perm (x :: xs)
    exact (List.Perm.swap _ _ _).trans (this.cons x)
def evens {α : Type} : List α → List α
  | [] => []
  | [x] => [x]
  | x :: _ :: r => x :: evens r
def odds {α : Type} : List α → List α
  | [] => []
  | [_] => []
  | _ :: y :: r => y :: odds r
theorem fm_even {α : Type} : ∀ (xs : List α) (k : Nat), 2 * k = xs.length ∨ 2 * k = xs.length + 1 → ((List.range k).filterMap fun j => xs[2 * j]?) = evens xs
  | [], k, h => by
    obtain rfl : k = 0 := by simp at h; omega
    rfl
  | [x], k, h => by
    obtain rfl : k = 1 := by simp at h; omega
    rfl
  | x :: y :: r, k, h => by
    obtain ⟨j, rfl⟩ : ∃ j, k = j + 1 := ⟨k - 1, by simp at h; omega⟩
    rw [List.range_succ_eq_map, List.filterMap_cons]
    show x :: List.filterMap _ (List.map Nat.succ (List.range j)) = x :: evens r
    rw [List.filterMap_map]
    congr 1
    rw [← fm_even r j (by simp at h; omega)]
    congr 1
theorem fm_odd {α : Type} : ∀ (xs : List α) (k : Nat), 2 * k = xs.length ∨ 2 * k + 1 = xs.length → ((List.range k).filterMap fun j => xs[1 + 2 * j]?) = odds xs
  | [], k, h => by
    obtain rfl : k = 0 := by simp at h; omega
    rfl
  | [x], k, h => by
    obtain rfl : k = 0 := by simp at h; omega
    rfl
  | x :: y :: r, k, h => by
    obtain ⟨j, rfl⟩ : ∃ j, k = j + 1 := ⟨k - 1, by simp at h; omega⟩
    rw [List.range_succ_eq_map, List.filterMap_cons]
    show y :: List.filterMap _ (List.map Nat.succ (List.range j)) = y :: odds r
    rw [List.filterMap_map]
    congr 1
    rw [← fm_odd r j (by simp at h; omega)]
    refine fm_congr fun i _ => ?_
    show (x :: y :: r)[1 + 2 * (i + 1)]? = r[1 + 2 * i]?
    rw [show 1 + 2 * (i + 1) = (1 + 2 * i) + 1 + 1 from by omega]
    rfl
theorem fm_rev {α : Type} : ∀ (xs : List α) (n : Nat), n = xs.length → ((List.range n).filterMap fun j => xs[n - 1 - j]?) = xs.reverse := by
  intro xs n h
  subst h
  have e : ∀ j, j ∈ List.range xs.length → xs[xs.length - 1 - j]? = xs.reverse[j]? := fun j hj => by
    rw [List.mem_range] at hj
    rw [List.getElem?_reverse hj]
  rw [fm_congr e]
  rw [← List.length_reverse (as := xs)]
  generalize xs.reverse = ys
  induction ys with
  | nil => rfl
  | cons y ys ih =>
    rw [List.length_cons, List.range_succ_eq_map, List.filterMap_cons, List.filterMap_map]
    show y :: _ = _
    congr 1
theorem step_rev {α : Type} (xs : List α) : stepV xs none none (-1) = xs.reverse := by
  unfold stepV
  have e1 : Builtin.Slice.sliceAdjust none none (-1) (xs.length : Nat) = ((xs.length : Int) - 1, -1) := by
    unfold Builtin.Slice.sliceAdjust
    simp
  rw [e1]
  have e2 : Builtin.Slice.slicePlaces ((xs.length : Int) - 1) (-1) (-1) = xs.length := by
    unfold Builtin.Slice.slicePlaces
    simp
    split <;> omega
  simp only [e2]
  rw [← fm_rev xs xs.length rfl]
  refine fm_congr fun j hj => ?_
  rw [List.mem_range] at hj
  congr 1
  omega
theorem step_even {α : Type} (xs : List α) : stepV xs none none 2 = evens xs := by
  unfold stepV
  have e1 : Builtin.Slice.sliceAdjust none none 2 (xs.length : Nat) = (0, (xs.length : Int)) := by
    unfold Builtin.Slice.sliceAdjust
    simp
  rw [e1]
  have e2 : Builtin.Slice.slicePlaces 0 (xs.length : Int) 2 = (xs.length + 1) / 2 := by
    unfold Builtin.Slice.slicePlaces
    simp
    split <;> omega
  simp only [e2]
  rw [← fm_even xs ((xs.length + 1) / 2) (by omega)]
  refine fm_congr fun j hj => ?_
  congr 1
  omega
theorem step_odd {α : Type} (xs : List α) : stepV xs (some 1) none 2 = odds xs := by
  unfold stepV
  have e1 : Builtin.Slice.sliceAdjust (some 1) none 2 (xs.length : Nat) = (min 1 (xs.length : Int), (xs.length : Int)) := by
    unfold Builtin.Slice.sliceAdjust
    simp
  rw [e1]
  have e2 : Builtin.Slice.slicePlaces (min 1 (xs.length : Int)) (xs.length : Int) 2 = xs.length / 2 := by
    unfold Builtin.Slice.slicePlaces
    simp
    split <;> omega
  simp only [e2]
  rw [← fm_odd xs (xs.length / 2) (by omega)]
  refine fm_congr fun j hj => ?_
  rw [List.mem_range] at hj
  congr 1
  omega
theorem evens_map {α β : Type} (f : α → β) : ∀ xs : List α, evens (xs.map f) = (evens xs).map f
  | [] => rfl
  | [_] => rfl
  | x :: _ :: r => by show f x :: evens (r.map f) = _; rw [evens_map f r]; rfl
theorem odds_map {α β : Type} (f : α → β) : ∀ xs : List α, odds (xs.map f) = (odds xs).map f
  | [] => rfl
  | [_] => rfl
  | x :: y :: r => by show f y :: odds (r.map f) = _; rw [odds_map f r]; rfl
theorem out_two (x z : Int) (ys : List Int) : outI (x :: (ys ++ [z])) = x :: z :: outI ys := by
  rw [outI_cons, List.reverse_append, List.reverse_singleton, List.singleton_append, outI_cons, List.reverse_reverse]
theorem ends_cases (xs : List Int) : xs = [] ∨ (∃ x, xs = [x]) ∨ ∃ x ys z, xs = x :: (ys ++ [z]) := by
  cases xs with
  | nil => exact .inl rfl
  | cons x r =>
    rcases List.eq_nil_or_concat r with h | ⟨ys, z, h⟩
    · exact .inr (.inl ⟨x, by rw [h]⟩)
    · exact .inr (.inr ⟨x, ys, z, by rw [h]; simp⟩)
theorem out_back : ∀ (n : Nat) (xs : List Int), xs.length ≤ n → evens (outI xs) ++ (odds (outI xs)).reverse = xs := by
  intro n
  induction n using Nat.strongRecOn with
  | ind n ih =>
    intro xs h
    rcases ends_cases xs with rfl | ⟨x, rfl⟩ | ⟨x, ys, z, rfl⟩
    · rw [outI_nil]; rfl
    · rw [outI_cons, List.reverse_nil, outI_nil]; rfl
    · rw [out_two]
      show x :: evens (outI ys) ++ (z :: odds (outI ys)).reverse = _
      have hl : ys.length < n := by simp at h; omega
      have := ih ys.length hl ys (Nat.le_refl _)
      rw [List.reverse_cons, List.cons_append, ← List.append_assoc, this]
theorem out_perm : ∀ (n : Nat) (xs : List Int), xs.length ≤ n → (outI xs).Perm xs
  | n, [], _ => by rw [outI_nil]
  | 0, x :: xs, h => by simp at h
  | n + 1, x :: xs, h => by
    rw [outI_cons]
    exact ((out_perm n xs.reverse (by simpa using h)).trans (List.reverse_perm xs)).cons x
theorem isort_perms {xs ys : List Int} (h : xs.Perm ys) : isort xs = isort ys := isort_eq ((isort_perm xs).trans h) (isort_pw xs)
/-! ### equal data -/
theorem eqva_ints : ∀ xs ys : List Int, PyData.eqvAll (xs.map .int) (ys.map .int) = decide (xs = ys)
  | [], [] => rfl
  | [], _ :: _ => rfl
  | _ :: _, [] => rfl
  | x :: xs, y :: ys => by
    rw [List.map_cons, List.map_cons, PyData.eqvAll, eqva_ints xs ys]
    show (x == y && _) = _
    by_cases h : x = y <;> by_cases h2 : xs = ys <;> simp [h, h2]
theorem eq_tupI {xs ys : List Int} : eqD (tupI xs) (tupI ys) = some (.bool (decide (xs = ys))) := by
  unfold eqD
  rw [show shp (tupI xs) = true from shpT_ints xs, show shp (tupI ys) = true from shpT_ints ys, ← eqva_ints]
  rfl
theorem ne_tupI {xs ys : List Int} : neD (tupI xs) (tupI ys) = some (.bool (!decide (xs = ys))) := by
  unfold neD
  rw [show shp (tupI xs) = true from shpT_ints xs, show shp (tupI ys) = true from shpT_ints ys, ← eqva_ints]
  rfl
theorem eq_lstI {xs ys : List Int} : eqD (.list (xs.map .int)) (.list (ys.map .int)) = some (.bool (decide (xs = ys))) := by
  unfold eqD
  rw [show shp (.list (xs.map .int)) = true from shp_ints xs, show shp (.list (ys.map .int)) = true from shp_ints ys, ← eqva_ints]
  rfl
theorem ne_lstI {xs ys : List Int} : neD (.list (xs.map .int)) (.list (ys.map .int)) = some (.bool (!decide (xs = ys))) := by
  unfold neD
  rw [show shp (.list (xs.map .int)) = true from shp_ints xs, show shp (.list (ys.map .int)) = true from shp_ints ys, ← eqva_ints]
  rfl
theorem sorted_tupI {ns : List Int} : sortedD [tupI ns] = some ((isort ns).map .int) := by
  show ((intsOf (ns.map .int)).map fun ns => (isort ns).map PyData.int) = _
  rw [intsOf_map]
  rfl
theorem sorted_lstI {ns : List Int} : sortedD [.list (ns.map .int)] = some ((isort ns).map .int) := by
  show ((intsOf (ns.map .int)).map fun ns => (isort ns).map PyData.int) = _
  rw [intsOf_map]
  rfl
theorem step_tupI {c : Int} {ns ms : List Int} {lo hi : Option Int} (hl : ns.length ≤ 1000) (h : stepV (ns.map PyData.int) lo hi c = ms.map .int) (hm : ms.length ≤ 1000) : stepD c (tupI ns) lo hi = some (tupI ms) := by
  show (if decide ((stepV (ns.map PyData.int) lo hi c).length ≤ 100000) then some (PyData.tuple (stepV (ns.map PyData.int) lo hi c)) else none) = _
  rw [h, if_pos (decide_eq_true (by rw [List.length_map]; omega))]
theorem len_lst {ns : List Int} : lenD [.list (ns.map .int)] = some (.int (ns.length : Nat)) := by
  show some (PyData.int ((ns.map PyData.int).length : Nat)) = _
  rw [List.length_map]
theorem len_tupI {ns : List Int} : lenD [tupI ns] = some (.int (ns.length : Nat)) := by
  show some (PyData.int ((ns.map PyData.int).length : Nat)) = _
  rw [List.length_map]
/-! ### a chord is drawn -/
def c__law_chord : Ct := ⟨Nat × Nat, fun x ss n => ss = [.m, .d (.int (x.1 : Nat)), .d (.int (x.2 : Nat))] ∧ x.1 ≤ 1000 ∧ x.2 ≤ 1000 ∧ n < 999000000, fun x n d n' => ∃ ns : List Int, d = tupI ns ∧ ns.length ≤ x.1 ∧ ns.length ≤ x.2 ∧ ns.Nodup ∧ (∀ k ∈ ns, 0 ≤ k ∧ k < x.2) ∧ n' ≤ n + 1 + x.1, fun _ _ _ _ _ => False⟩
abbrev N__law_chord : List Str := ["_law_m", "_law_most", "_law_wide", "_law_some", "_law_found", "_law_k"]
def t__law_chord : DS := (dSeq (dParLL 3 4 (dListRange (dVar 2)) (dLst aNil)) (dSeq (dFor (iR1 (aCons (dCall min2D (aCons (dVar 2) (aCons (dFn c__law_draw noX (aM 0 (aCons (dBin addD (dVar 1) (dC (.int 1))) aNil))) aNil))) aNil)) (gtName 5) (dAppPop 4 3 (dFn c__law_draw noX (aM 0 (aCons (dView (dCall lenD (aCons (dVar 3) aNil))) aNil))))) (dRet (dView (dCall tupleD (aCons (dVar 4) aNil))))))
theorem noLs_ints : ∀ ns : List Int, noLs (ns.map .int) = true
  | [] => rfl
  | n :: ns => by rw [List.map_cons, noLs, noLs_ints ns]; rfl
theorem loop_draw {m w : Nat} {P : DEnds} {b N : Nat} (hP : ∀ (fs rest : List Int) (y : Option S) (n' : Nat), fs.length ≤ b → fs.Nodup → (∀ k ∈ fs, 0 ≤ k ∧ k < (w : Int)) → n' ≤ N → P.nx [some .m, some (.d (.int (m : Nat))), some (.d (.int (w : Nat))), some (.o (rest.map .int)), some (.o (fs.map .int)), y] n') :
    ∀ (items : List D) (fs rest : List Int) (y : Option S) (n : Nat), items.length ≤ rest.length → fs.length + items.length ≤ b → (fs ++ rest).Nodup → (∀ k ∈ fs ++ rest, 0 ≤ k ∧ k < (w : Int)) → n + items.length ≤ N → N < 1000000000 → b ≤ 1000 → rest.length ≤ 1000 →
    dLoop (gtName 5) (dAppPop 4 3 (dFn c__law_draw noX (aM 0 (aCons (dView (dCall lenD (aCons (dVar 3) aNil))) aNil)))) items P [some .m, some (.d (.int (m : Nat))), some (.d (.int (w : Nat))), some (.o (rest.map .int)), some (.o (fs.map .int)), y] n
  | [], fs, rest, y, n, _, h2, h3, h4, h5, _, _, _ => by
    rw [dLoop_nil]
    exact hP fs rest y n (by simpa using h2) (List.nodup_append.mp h3).1 (fun k hk => h4 k (List.mem_append_left _ hk)) (by simpa using h5)
  | d :: items, fs, rest, y, n, h1, h2, h3, h4, h5, h6, h7, h8 => by
    rw [dLoop_cons]
    have hr : 0 < rest.length := by rw [List.length_cons] at h1; omega
    rw [List.length_cons] at h1 h2 h5
    refine ⟨_, _, rfl, by rw [List.length_map]; omega, by decide, rfl, rfl, _, rfl, _, _, rfl, len_lst (ns := rest), rfl, rfl, ((rest.length : Nat) : Int), ⟨rfl, by omega, by omega, by omega⟩, ?_, fun _ _ _ z => z.elim⟩
    rintro _ _ ⟨r, rfl, r0, r1, rfl⟩
    have hj : r.toNat < rest.length := by omega
    refine ⟨r, .int rest[r.toNat], (rest.eraseIdx r.toNat).map .int, rfl, ⟨r.toNat, by omega, by omega, ?_, by rw [List.getElem?_map, List.getElem?_eq_getElem hj]; rfl, (erase_map _ _ _).symm⟩, ?_⟩
    · rw [List.length_map]
      unfold seqIndex?
      have h1 : ¬ r < 0 := by omega
      simp [h1, r0, r1]
    · have e : ((fs.map PyData.int) ++ [.int rest[r.toNat]]) = (fs ++ [rest[r.toNat]]).map .int := by simp
      have pm : (fs ++ [rest[r.toNat]] ++ rest.eraseIdx r.toNat).Perm (fs ++ rest) := by
        rw [List.append_assoc]
        exact List.Perm.append_left _ (perm_erase rest r.toNat hj)
      have := loop_draw hP items (fs ++ [rest[r.toNat]]) (rest.eraseIdx r.toNat) (some (.d d)) (n + 1) (by rw [List.length_eraseIdx_of_lt hj]; omega) (by rw [List.length_append, List.length_singleton]; omega) (pm.nodup_iff.mpr h3) (fun k hk => h4 k (pm.mem_iff.mp hk)) (by omega) h6 h7 (by rw [List.length_eraseIdx_of_lt hj]; omega)
      rw [← e] at this
      exact this
theorem h__law_chord : ∀ x ss n, c__law_chord.pre x ss n → t__law_chord { nx := fun _ n' => c__law_chord.post x n .none n', rt := fun d n' => c__law_chord.post x n d n' } (startD N__law_chord ss) n := by
  rintro ⟨m, w⟩ ss n ⟨rfl, hm, hw, hn⟩
  have hm : m ≤ 1000 := hm
  have hw : w ≤ 1000 := hw
  refine ⟨_, rfl, w, rfl, by omega, _, rfl, le5 rfl, ?_⟩
  refine ⟨_, rfl, rfl, _, rfl, _, rfl, ((m : Nat) : Int) + 1, ⟨rfl, by omega, by omega, by omega⟩, ?_, fun _ _ _ z => z.elim⟩
  rintro _ _ ⟨r, rfl, r0, r1, rfl⟩
  refine ⟨_, _, rfl, rfl, (if r < ((w : Nat) : Int) then r else (w : Nat)), rfl, ?_, ?_, ?_⟩
  · split <;> omega
  · split <;> omega
  have hk : (if r < ((w : Nat) : Int) then r else ((w : Nat) : Int)).toNat ≤ m ∧ (if r < ((w : Nat) : Int) then r else ((w : Nat) : Int)).toNat ≤ w := by split <;> omega
  generalize (if r < ((w : Nat) : Int) then r else ((w : Nat) : Int)).toNat = j at hk
  have hlen : (rangeD 0 j).length = j := by unfold rangeD; rw [List.length_map, List.length_range]
  have hr : (rangeL w).length = w := by unfold rangeL; rw [List.length_map, List.length_range]
  refine loop_draw (m := m) (w := w) (b := j) (N := n + 1 + j) ?_ (rangeD 0 j) [] (rangeL w) none (n + 1) (by omega) (by simp [hlen]) ?_ ?_ (by omega) (by omega) (by omega) (by omega)
  · intro fs rest y n' h1 h2 h3 h4
    refine ⟨_, rfl, _, _, rfl, rfl, ?_, rfl, fs, rfl, by show fs.length ≤ m; omega, by show fs.length ≤ w; omega, h2, h3, by show n' ≤ n + 1 + m; omega⟩
    exact noLs_ints fs
  · rw [List.nil_append]
    unfold rangeL
    exact List.Pairwise.map _ (fun a b (h : a ≠ b) => by omega) List.nodup_range
  · intro k hk
    rw [List.nil_append] at hk
    unfold rangeL at hk
    rw [List.mem_map] at hk
    obtain ⟨i, hi, rfl⟩ := hk
    rw [List.mem_range] at hi
    omega
end DL

namespace DL
open PySem L2
theorem rnd_up {r : List Int} : roundI "up" r = r := by
  unfold roundI
  rw [if_neg (by decide +kernel), if_neg (by decide +kernel), if_neg (by decide +kernel), if_neg (by decide +kernel)]
theorem rnd_played {r : List Int} : roundI "played" r = r := by
  unfold roundI
  rw [if_neg (by decide +kernel), if_neg (by decide +kernel), if_neg (by decide +kernel), if_neg (by decide +kernel)]
theorem rnd_down {r : List Int} : roundI "down" r = r.reverse := by
  unfold roundI
  rw [if_pos rfl]
theorem rnd_bounce {r : List Int} : roundI "bounce" r = r ++ (midI r).reverse := by
  unfold roundI
  rw [if_neg (by decide +kernel), if_pos rfl]
theorem rnd_swing {r : List Int} : roundI "swing" r = r ++ r.reverse := by
  unfold roundI
  rw [if_neg (by decide +kernel), if_neg (by decide +kernel), if_pos rfl]
theorem rnd_outside {r : List Int} : roundI "outside" r = outI r := by
  unfold roundI
  rw [if_neg (by decide +kernel), if_neg (by decide +kernel), if_neg (by decide +kernel), if_pos rfl]
theorem keys_not {o : Str} {ns : List Int} (h : o ≠ "played") : keysOf o ns = isort ns := by
  unfold keysOf; rw [if_neg h]
theorem keys_played {ns : List Int} : keysOf "played" ns = ns := by
  unfold keysOf; rw [if_pos rfl]
theorem mid_rev (xs : List Int) : (midI xs).reverse = midI xs.reverse := by
  rcases ends_cases xs with rfl | ⟨x, rfl⟩ | ⟨x, ys, z, rfl⟩
  · rfl
  · rfl
  · have e : ∀ (a b : Int) (l : List Int), midI (a :: (l ++ [b])) = l := fun a b l => by
      unfold midI
      simp
    rw [e, List.reverse_cons, List.reverse_append, List.reverse_singleton, List.singleton_append, List.cons_append, e]
theorem row_succ {oct : Nat} {ks : List Int} : rowI (oct + 1) ks = rowI oct ks ++ ks.map fun k => k + 12 * ((oct : Nat) : Int) := by
  unfold rowI
  rw [List.range_succ, List.flatMap_append]
  simp
theorem row_zero {ks : List Int} : rowI 0 ks = [] := rfl
theorem row_one {ks : List Int} : rowI 1 ks = ks := by
  rw [row_succ, row_zero]
  simp
theorem row_perm {oct : Nat} {ks ls : List Int} (h : ks.Perm ls) : (rowI oct ks).Perm (rowI oct ls) := by
  induction oct with
  | zero => exact List.Perm.refl _
  | succ j ih =>
    rw [row_succ, row_succ]
    exact ih.append (h.map _)
theorem ne_tup_same {xs ys : List Int} (h : xs = ys) : neD (tupI xs) (tupI ys) = some (.bool false) := by rw [ne_tupI, decide_eq_true h]; rfl
theorem ne_lst_same {xs ys : List Int} (h : xs = ys) : neD (.list (xs.map .int)) (.list (ys.map .int)) = some (.bool false) := by rw [ne_lstI, decide_eq_true h]; rfl
theorem eq_tup_same {xs ys : List Int} (h : xs = ys) : eqD (tupI xs) (tupI ys) = some (.bool true) := by rw [eq_tupI, decide_eq_true h]
theorem add_tupI {xs ys : List Int} (h : xs.length + ys.length ≤ 100000) : addD (tupI xs) (tupI ys) = some (tupI (xs ++ ys)) := by
  rw [add_tups (by rw [List.length_map, List.length_map]; exact h), ← List.map_append]
theorem add_lstI {xs ys : List Int} (h : xs.length + ys.length ≤ 100000) : addD (.list (xs.map .int)) (.list (ys.map .int)) = some (.list ((xs ++ ys).map .int)) := by
  rw [add_lists (by rw [List.length_map, List.length_map]; exact h), List.map_append]
theorem again_ok : ("again" : Str) ∈ changesS := by simp [changesS]
def c__law_by : Ct := Ct.pure (Str × Nat × List Int) (fun x => [.d (.str x.1), .d (.int (x.2.1 : Nat)), .d (tupI x.2.2)]) (fun x => x.1 ∈ ordersS ∧ (1 ≤ x.2.1 ∧ x.2.1 ≤ 3) ∧ ChordOk x.2.2) (fun x => tupI (roundI x.1 (rowI x.2.1 (keysOf x.1 x.2.2))))
abbrev N__law_by : List Str := ["_law_order", "_law_octaves", "_law_chord_here"]
def t__law_by : DS := (dRet (dFn c_round_of noX (aCons (dTup (aCons (dVar 0) (aCons (dVar 1) (aCons (dC (.str "x")) (aCons (dC (.str "again")) (aCons (dC (.bool true)) aNil)))))) (aCons (dVar 2) aNil))))
theorem h__law_by : ∀ x ss n, c__law_by.pre x ss n → t__law_by { nx := fun _ n' => c__law_by.post x n .none n', rt := fun d n' => c__law_by.post x n d n' } (startD N__law_by ss) n := by
  rintro ⟨o, oct, ns⟩ ss n ⟨rfl, ho, h1, oc⟩
  refine ⟨_, rfl, _, rfl, _, rfl, le5 rfl, _, rfl, ((⟨o, oct, "x", "again", true⟩ : Stg), ns), ⟨rfl, ⟨ho, h1, (by decide +kernel : goodSigns "x" = true), again_ok⟩, oc⟩, ?_, fun _ _ _ z => z.elim⟩
  rintro _ _ ⟨rfl, rfl⟩
  exact ⟨rfl, rfl⟩
theorem by_ {o : Str} {oct : Nat} {ns xs : List Int} {n : Nat} {P : D → Nat → Prop} {i : Int} (ho : o ∈ ordersS) (h1 : 1 ≤ oct ∧ oct ≤ 3) (oc : ChordOk ns) (e : roundI o (rowI oct (keysOf o ns)) = xs) (hi : i = (oct : Nat)) (k : P (tupI xs) n) : c__law_by.wp [.d (.str o), .d (.int i), .d (tupI ns)] n P noX := by
  subst hi
  refine ⟨(o, oct, ns), ⟨rfl, ho, h1, oc⟩, ?_, fun _ _ _ z => z.elim⟩
  intro d n' h
  have e1 : d = tupI (roundI o (rowI oct (keysOf o ns))) := h.1
  have e2 : n' = n := h.2
  rw [e1, e2, e]
  exact k
def c__law_right : Ct := Ct.pure (List Int × Nat) (fun x => [.d (tupI x.1), .d (.int (x.2 : Nat))]) (fun x => ChordOk x.1 ∧ 1 ≤ x.2 ∧ x.2 ≤ 3) (fun _ => .bool true)
abbrev N__law_right : List Str := ["_law_chord_here", "_law_octaves", "_law_up", "_law_down", "_law_bounce", "_law_outside", "_law_tones", "_law_key", "_law_row", "_law_order", "_law_less"]
def t__law_right : DS := (dSeq (dParDD 2 3 (dFn c__law_by noX (aCons (dC (.str "up")) (aCons (dVar 1) (aCons (dVar 0) aNil)))) (dFn c__law_by noX (aCons (dC (.str "down")) (aCons (dVar 1) (aCons (dVar 0) aNil))))) (dSeq (dIfS (bOr (bVal (dBin neD (dVar 2) (dStep (-1) (dVar 3) oNone oNone))) (bVal (dBin neD (dFn c__law_by noX (aCons (dC (.str "swing")) (aCons (dVar 1) (aCons (dVar 0) aNil)))) (dBin addD (dVar 2) (dVar 3))))) (dRet (dC (.bool false))) dNext) (dSeq (dParDD 4 5 (dFn c__law_by noX (aCons (dC (.str "bounce")) (aCons (dVar 1) (aCons (dVar 0) aNil)))) (dFn c__law_by noX (aCons (dC (.str "outside")) (aCons (dVar 1) (aCons (dVar 0) aNil))))) (dSeq (dIfS (bOr (bVal (dBin neD (dVar 4) (dBin addD (dVar 2) (dSl (dVar 3) (oSome (dC (.int 1))) (oSome (dUn negD (dC (.int 1)))))))) (bVal (dBin neD (dBin addD (dStep 2 (dVar 5) oNone oNone) (dStep (-1) (dStep 2 (dVar 5) (oSome (dC (.int 1))) oNone) oNone oNone)) (dVar 2)))) (dRet (dC (.bool false))) dNext) (dSeq (dAsg (dBin addD (dBin addD (dFrz (dCallL listD (aCons (dVar 0) aNil))) (dFrz (dComp (iTp (dVar 0)) (gtName 7) (bVal (dBin gtD (dVar 1) (dC (.int 1)))) (dBin addD (dVar 7) (dC (.int 12))) [7]))) (dFrz (dComp (iTp (dVar 0)) (gtName 7) (bVal (dBin gtD (dVar 1) (dC (.int 2)))) (dBin addD (dVar 7) (dC (.int 24))) [7]))) (gtName 6)) (dSeq (dAsg (dFrz (dCallL sortedD (aCons (dVar 6) aNil))) (gtName 6)) (dSeq (dFor (iTp (dTup (aCons (dVar 2) (aCons (dVar 5) (aCons (dFn c__law_by noX (aCons (dC (.str "played")) (aCons (dVar 1) (aCons (dVar 0) aNil)))) aNil))))) (gtName 8) (dIfS (bVal (dBin neD (dFrz (dCallL sortedD (aCons (dVar 8) aNil))) (dVar 6))) (dRet (dC (.bool false))) dNext)) (dSeq (dIfS (bVal (dBin gtD (dVar 1) (dC (.int 1)))) (dFor (iTp (dTup (aCons (dC (.str "up")) (aCons (dC (.str "played")) aNil)))) (gtName 9) (dSeq (dAsg (dFn c__law_by noX (aCons (dVar 9) (aCons (dBin subD (dVar 1) (dC (.int 1))) (aCons (dVar 0) aNil)))) (gtName 10)) (dIfS (bVal (dBin neD (dSl (dFn c__law_by noX (aCons (dVar 9) (aCons (dVar 1) (aCons (dVar 0) aNil)))) oNone (oSome (dCall lenD (aCons (dVar 10) aNil)))) (dVar 10))) (dRet (dC (.bool false))) dNext))) dNext) (dRet (dAnd (dBin eqD (dCall lenD (aCons (dVar 2) aNil)) (dBin mulD (dVar 1) (dCall lenD (aCons (dVar 0) aNil)))) (dBin eqD (dFn c__law_by noX (aCons (dC (.str "played")) (aCons (dC (.int 1)) (aCons (dVar 0) aNil)))) (dVar 0))))))))))))
theorem comp_more {c a : Int} {s0 s2 s3 s4 s5 s6 s8 s9 s10 : Option S} {oct n : Nat} {P : List D → Nat → Prop} : ∀ (ks : List Int) (acc : List D), acc.length + ks.length < 100000 → P (acc ++ (if c < (oct : Nat) then ks.map fun k => k + a else []).map .int) n →
    dCompL [7] (gtName 7) (bVal (dBin gtD (dVar 1) (dC (.int c)))) (dBin addD (dVar 7) (dC (.int a))) [s0, some (.d (.int (oct : Nat))), s2, s3, s4, s5, s6, none, s8, s9, s10] (ks.map .int) acc n P
  | [], acc, _, h => by
    rw [List.map_nil, dCompL_nil]
    split at h <;> simpa using h
  | k :: ks, acc, hl, h => by
    rw [List.map_cons, dCompL_cons]
    refine ⟨_, rfl, _, rfl, _, rfl, ?_⟩
    by_cases hc : c < (oct : Nat)
    · rw [if_pos hc] at h
      refine if_t (decide_eq_true hc) ⟨_, rfl, _, rfl, by simp at hl; omega, comp_more ks (acc ++ [.int (k + a)]) (by simp at hl ⊢; omega) ?_⟩
      rw [if_pos hc]
      simpa using h
    · rw [if_neg hc] at h
      refine if_f (decide_eq_false hc) (comp_more ks acc (by simp at hl ⊢; omega) ?_)
      rw [if_neg hc]
      exact h
theorem row_tones (oct : Nat) (h1 : 1 ≤ oct ∧ oct ≤ 3) (ns : List Int) : rowI oct ns = (ns ++ (if (1 : Int) < (oct : Nat) then ns.map fun k => k + 12 else [])) ++ (if (2 : Int) < (oct : Nat) then ns.map fun k => k + 24 else []) := by
  have : oct = 1 ∨ oct = 2 ∨ oct = 3 := by omega
  rcases this with rfl | rfl | rfl
  · rw [row_one]; simp
  · rw [row_succ, row_one]; simp
  · rw [row_succ, row_succ, row_one]; simp
theorem mem_ord {o : Str} (h : (ordersS.any fun w => w == o) = true) : o ∈ ordersS := by
  obtain ⟨w, h1, h2⟩ := List.any_eq_true.mp h
  have : w = o := by simpa using h2
  exact this ▸ h1
theorem h__law_right : ∀ x ss n, c__law_right.pre x ss n → t__law_right { nx := fun _ n' => c__law_right.post x n .none n', rt := fun d n' => c__law_right.post x n d n' } (startD N__law_right ss) n := by
  rintro ⟨ns, oct⟩ ss n ⟨rfl, oc, h1⟩
  have oc : ChordOk ns := oc
  have h1 : 1 ≤ oct ∧ oct ≤ 3 := h1
  show t__law_right { nx := fun _ n' => c__law_right.post (ns, oct) n .none n', rt := fun d n' => c__law_right.post (ns, oct) n d n' } [some (.d (tupI ns)), some (.d (.int (oct : Nat))), none, none, none, none, none, none, none, none, none] n
  have hl : (rowI oct (isort ns)).length ≤ 18 := by
    rw [row_len, (isort_perm ns).length_eq]
    have := Nat.mul_le_mul h1.2 oc.len
    omega
  have hl6 := oc.len
  obtain ⟨up, hup⟩ : ∃ up, rowI oct (isort ns) = up := ⟨_, rfl⟩
  have kU : keysOf "up" ns = isort ns := keys_not (by decide +kernel)
  have kD : keysOf "down" ns = isort ns := keys_not (by decide +kernel)
  have kS : keysOf "swing" ns = isort ns := keys_not (by decide +kernel)
  have kB : keysOf "bounce" ns = isort ns := keys_not (by decide +kernel)
  have kO : keysOf "outside" ns = isort ns := keys_not (by decide +kernel)
  have rU : roundI "up" (rowI oct (keysOf "up" ns)) = up := by rw [kU, rnd_up, hup]
  have rD : roundI "down" (rowI oct (keysOf "down" ns)) = up.reverse := by rw [kD, rnd_down, hup]
  have rS : roundI "swing" (rowI oct (keysOf "swing" ns)) = up ++ up.reverse := by rw [kS, rnd_swing, hup]
  have rB : roundI "bounce" (rowI oct (keysOf "bounce" ns)) = up ++ (midI up).reverse := by rw [kB, rnd_bounce, hup]
  have rO : roundI "outside" (rowI oct (keysOf "outside" ns)) = outI up := by rw [kO, rnd_outside, hup]
  have rP : roundI "played" (rowI oct (keysOf "played" ns)) = rowI oct ns := by rw [keys_played, rnd_played]
  have oU : ("up" : Str) ∈ ordersS := mem_ord (by decide +kernel)
  have oD : ("down" : Str) ∈ ordersS := mem_ord (by decide +kernel)
  have oS : ("swing" : Str) ∈ ordersS := mem_ord (by decide +kernel)
  have oB : ("bounce" : Str) ∈ ordersS := mem_ord (by decide +kernel)
  have oO : ("outside" : Str) ∈ ordersS := mem_ord (by decide +kernel)
  have oP : ("played" : Str) ∈ ordersS := mem_ord (by decide +kernel)
  rw [hup] at hl
  have hlo : (outI up).length = up.length := (out_perm _ up (Nat.le_refl _)).length_eq
  have hback := out_back _ up (Nat.le_refl _)
  have hbl : (evens (outI up)).length + (odds (outI up)).length = up.length := by
    have := congrArg List.length hback
    simpa using this
  -- up, down
  refine ⟨_, rfl, _, rfl, by_ oU h1 oc rU rfl ?_⟩
  refine ⟨_, rfl, _, rfl, by_ oD h1 oc rD rfl ?_⟩
  simp only [List.set_cons_succ, List.set_cons_zero]
  -- if
  refine ⟨_, rfl, _, rfl, _, step_tupI (ms := up) (by rw [List.length_reverse]; omega) (by rw [step_rev, ← List.map_reverse, List.reverse_reverse]) (by omega), _, ne_tup_same rfl, _, rfl, L2.iteF ?_⟩
  refine ⟨_, rfl, _, rfl, by_ oS h1 oc rS rfl ?_⟩
  refine ⟨_, rfl, _, rfl, _, add_tupI (by rw [List.length_reverse]; omega), _, ne_tup_same rfl, _, rfl, L2.iteF ?_⟩
  -- bounce, outside
  refine ⟨_, rfl, _, rfl, by_ oB h1 oc rB rfl ?_⟩
  refine ⟨_, rfl, _, rfl, by_ oO h1 oc rO rfl ?_⟩
  simp only [List.set_cons_succ, List.set_cons_zero]
  have cut : slD (tupI up.reverse) (some 1) (some (-1)) = some (tupI (midI up).reverse) := by
    show some (PyData.tuple (cutD (up.reverse.map PyData.int) (some 1) (some (-1)))) = _
    rw [cut_mid, mid_rev]
    unfold midI
    rw [List.length_map, tupI, List.map_take, List.map_drop]
  have hml : (midI up).length ≤ 18 := by unfold midI; rw [List.length_take, List.length_drop]; omega
  refine ⟨_, rfl, _, rfl, _, rfl, _, rfl, _, rfl, _, rfl, _, cut, _, add_tupI (by rw [List.length_reverse]; omega), _, ne_tup_same rfl, _, rfl, L2.iteF ?_⟩
  refine ⟨_, rfl, _, step_tupI (ms := evens (outI up)) (by omega) (by rw [step_even, evens_map]) (by omega), _, rfl, _, rfl, _, step_tupI (ms := odds (outI up)) (by omega) (by rw [step_odd, odds_map]) (by omega), _, step_tupI (ms := (odds (outI up)).reverse) (by omega) (by rw [step_rev, ← List.map_reverse]) (by rw [List.length_reverse]; omega), _, add_tupI (by rw [List.length_reverse]; omega), _, rfl, _, ne_tup_same hback, _, rfl, L2.iteF ?_⟩
  -- tones
  have tl := row_tones oct h1 ns
  refine ⟨_, rfl, _, _, rfl, rfl, _, rfl, _, rfl, comp_more ns [] (by simp; omega) ?_⟩
  have l12 : (if (1 : Int) < (oct : Nat) then ns.map fun k => k + 12 else []).length ≤ 6 := by split <;> simp <;> omega
  have l24 : (if (2 : Int) < (oct : Nat) then ns.map fun k => k + 24 else []).length ≤ 6 := by split <;> simp <;> omega
  refine ⟨_, add_lstI (by omega), _, rfl, _, rfl, comp_more ns [] (by simp; omega) ?_⟩
  refine ⟨_, add_lstI (by rw [List.length_append]; omega), ?_⟩
  rw [← tl]
  simp only [List.set_cons_succ, List.set_cons_zero]
  refine ⟨_, rfl, _, _, rfl, sorted_lstI, ?_⟩
  simp only [List.set_cons_succ, List.set_cons_zero]
  have pU : isort up = isort (rowI oct ns) := isort_perms (hup ▸ row_perm (isort_perm ns))
  have pO : isort (outI up) = isort (rowI oct ns) := (isort_perms (out_perm _ up (Nat.le_refl _))).trans pU
  refine ⟨_, rfl, _, rfl, _, rfl, _, rfl, by_ oP h1 oc rP rfl ⟨_, rfl, le5 rfl, _, rfl, ?_⟩⟩
  refine ⟨_, rfl, _, _, rfl, sorted_tupI, _, rfl, _, ne_lst_same pU, _, rfl, L2.iteF ?_⟩
  simp only [List.set_cons_succ, List.set_cons_zero]
  refine ⟨_, rfl, _, _, rfl, sorted_tupI, _, rfl, _, ne_lst_same pO, _, rfl, L2.iteF ?_⟩
  simp only [List.set_cons_succ, List.set_cons_zero]
  refine ⟨_, rfl, _, _, rfl, sorted_tupI, _, rfl, _, ne_lst_same rfl, _, rfl, L2.iteF ?_⟩
  simp only [List.set_cons_succ, List.set_cons_zero]
  have fin : ∀ s3 s4 s5 s6 s7 s8 s9 s10, dRet (dAnd (dBin eqD (dCall lenD (aCons (dVar 2) aNil)) (dBin mulD (dVar 1) (dCall lenD (aCons (dVar 0) aNil)))) (dBin eqD (dFn c__law_by noX (aCons (dC (.str "played")) (aCons (dC (.int 1)) (aCons (dVar 0) aNil)))) (dVar 0))) { nx := fun _ n' => c__law_right.post (ns, oct) n .none n', rt := fun d n' => c__law_right.post (ns, oct) n d n' } [some (.d (tupI ns)), some (.d (.int (oct : Nat))), some (.d (tupI up)), s3, s4, s5, s6, s7, s8, s9, s10] n := by
    intro s3 s4 s5 s6 s7 s8 s9 s10
    refine ⟨_, rfl, _, _, rfl, len_tupI, _, rfl, _, rfl, _, _, rfl, len_tupI, _, mul_small (by omega), _, rfl, true, ?_, L2.iteT ?_⟩
    · have : ((up.length : Nat) : Int) = ((oct : Nat) : Int) * ((ns.length : Nat) : Int) := by
        rw [← hup, row_len, (isort_perm ns).length_eq, Int.natCast_mul]
      show PyData.bool (((up.length : Nat) : Int) == ((oct : Nat) : Int) * ((ns.length : Nat) : Int)) = _
      rw [this, beq_self_eq_true]
    · refine ⟨_, rfl, by_ (oct := 1) oP (by omega) oc (by rw [keys_played, rnd_played, row_one]) rfl ⟨_, rfl, _, eq_tup_same rfl, rfl, rfl⟩⟩
  refine ⟨_, rfl, _, rfl, _, rfl, ?_⟩
  by_cases h2 : (1 : Int) < (oct : Nat)
  · refine if_t (decide_eq_true h2) ?_
    obtain ⟨j, rfl⟩ : ∃ j, oct = j + 1 := ⟨oct - 1, by omega⟩
    have hj : 1 ≤ j ∧ j ≤ 3 := by omega
    have lessCut : ∀ ks : List Int, slD (tupI (rowI (j + 1) ks)) none (some ((rowI j ks).length : Nat)) = some (tupI (rowI j ks)) := fun ks => by
      show some (PyData.tuple (cutD ((rowI (j + 1) ks).map PyData.int) none (some ((rowI j ks).length : Nat)))) = _
      rw [cutD_to, ← List.map_take, row_succ, List.take_left]
    refine ⟨_, rfl, le5 rfl, _, rfl, ?_⟩
    refine ⟨_, rfl, _, rfl, _, rfl, _, rfl, by_ (oct := j) oU hj oc (by rw [kU, rnd_up]) (by omega) ?_⟩
    refine ⟨_, rfl, _, rfl, _, rfl, by_ oU h1 oc (by rw [kU, rnd_up]) rfl ?_⟩
    refine ⟨_, rfl, _, _, rfl, len_tupI, _, rfl, _, lessCut _, _, rfl, _, ne_tup_same rfl, _, rfl, L2.iteF ?_⟩
    refine ⟨_, rfl, _, rfl, _, rfl, _, rfl, by_ (oct := j) oP hj oc (by rw [keys_played, rnd_played]) (by omega) ?_⟩
    refine ⟨_, rfl, _, rfl, _, rfl, by_ oP h1 oc (by rw [keys_played, rnd_played]) rfl ?_⟩
    refine ⟨_, rfl, _, _, rfl, len_tupI, _, rfl, _, lessCut _, _, rfl, _, ne_tup_same rfl, _, rfl, L2.iteF ?_⟩
    exact fin _ _ _ _ _ _ _ _
  · exact if_f (decide_eq_false h2) (fin _ _ _ _ _ _ _ _)
abbrev N_law : List Str := ["_law_script", "_law_m", "_law_turn", "_law_chord_here", "_law_octaves"]
def t_law : DS := (dSeq (dFor (iR1 (aCons (dBin addD (dC (.int 6)) (dCall min2D (aCons (dC (.int 10)) (aCons (dLenS 0) aNil)))) aNil)) (gtName 2) (dSeq (dAsg (dFn c__law_chord noX (aM 1 (aCons (dC (.int 6)) (aCons (dBin ixD (dFrz (dLst (aCons (dC (.int 6)) (aCons (dC (.int 30)) (aCons (dC (.int 88)) aNil))))) (dFn c__law_draw noX (aM 1 (aCons (dC (.int 3)) aNil)))) aNil)))) (gtName 3)) (dFor (iTp (dTup (aCons (dC (.int 1)) (aCons (dC (.int 2)) (aCons (dC (.int 3)) aNil))))) (gtName 4) (dIfS (bNot (bVal (dFn c__law_right noX (aCons (dVar 3) (aCons (dVar 4) aNil))))) (dRet (dC (.bool false))) dNext)))) (dRet (dC (.bool true))))
theorem wide3 {r : Int} (h0 : 0 ≤ r) (h1 : r < 3) : ∃ w : Nat, ixD (.list [.int 6, .int 30, .int 88]) (.int r) = some (.int (w : Nat)) ∧ w ≤ 88 := by
  have : r = 0 ∨ r = 1 ∨ r = 2 := by omega
  rcases this with rfl | rfl | rfl
  · exact ⟨6, ixD_at (j := 0) rfl rfl rfl, by omega⟩
  · exact ⟨30, ixD_at (j := 1) rfl rfl rfl, by omega⟩
  · exact ⟨88, ixD_at (j := 2) rfl rfl rfl, by omega⟩
theorem right_ {ns : List Int} {oct : Nat} {n : Nat} {P : D → Nat → Prop} {i : Int} (oc : ChordOk ns) (h1 : 1 ≤ oct ∧ oct ≤ 3) (hi : i = (oct : Nat)) (k : P (.bool true) n) : c__law_right.wp [.d (tupI ns), .d (.int i)] n P noX := by
  subst hi
  refine ⟨(ns, oct), ⟨rfl, oc, h1⟩, ?_, fun _ _ _ z => z.elim⟩
  intro d n' h
  have e1 : d = .bool true := h.1
  have e2 : n' = n := h.2
  rw [e1, e2]
  exact k
theorem loop_law {L : Nat} {P : DEnds} (hP : ∀ s2 s3 s4 n, P.nx [some (.s L), some .m, s2, s3, s4] n) : ∀ (items : List D) (s2 s3 s4 : Option S) (n : Nat), n + 10 * items.length ≤ 1000000 →
    dLoop (gtName 2) (dSeq (dAsg (dFn c__law_chord noX (aM 1 (aCons (dC (.int 6)) (aCons (dBin ixD (dFrz (dLst (aCons (dC (.int 6)) (aCons (dC (.int 30)) (aCons (dC (.int 88)) aNil))))) (dFn c__law_draw noX (aM 1 (aCons (dC (.int 3)) aNil)))) aNil)))) (gtName 3)) (dFor (iTp (dTup (aCons (dC (.int 1)) (aCons (dC (.int 2)) (aCons (dC (.int 3)) aNil))))) (gtName 4) (dIfS (bNot (bVal (dFn c__law_right noX (aCons (dVar 3) (aCons (dVar 4) aNil))))) (dRet (dC (.bool false))) dNext))) items P [some (.s L), some .m, s2, s3, s4] n
  | [], s2, s3, s4, n, _ => by rw [dLoop_nil]; exact hP s2 s3 s4 n
  | d :: items, s2, s3, s4, n, hn => by
    rw [dLoop_cons]
    rw [List.length_cons] at hn
    refine ⟨rfl, _, rfl, le5 rfl, rfl, (3 : Int), ⟨rfl, by decide, by decide, by omega⟩, ?_, fun _ _ _ z => z.elim⟩
    rintro _ _ ⟨r, rfl, r0, r1, rfl⟩
    obtain ⟨w, e, hw⟩ := wide3 r0 r1
    refine ⟨_, e, (6, w), ⟨rfl, (by show 6 ≤ 1000; decide), (by show w ≤ 1000; omega), by omega⟩, ?_, fun _ _ _ z => z.elim⟩
    rintro _ n' ⟨ns, rfl, l1, l2, nd, hk, hn'⟩
    have hn' : n' ≤ n + 1 + 1 + 6 := hn'
    have oc : ChordOk ns := ⟨fun k hk' => by have := hk k hk'; have : (0 : Int) ≤ k ∧ k < (w : Nat) := this; omega, nd, l1⟩
    refine ⟨_, rfl, le5 rfl, _, rfl, ?_⟩
    simp only [gtName, List.set_cons_succ, List.set_cons_zero]
    refine ⟨_, rfl, _, rfl, right_ (oct := 1) oc (by omega) rfl ⟨_, rfl, L2.iteF ?_⟩⟩
    simp only [gtName, List.set_cons_succ, List.set_cons_zero]
    refine ⟨_, rfl, _, rfl, right_ (oct := 2) oc (by omega) rfl ⟨_, rfl, L2.iteF ?_⟩⟩
    simp only [gtName, List.set_cons_succ, List.set_cons_zero]
    refine ⟨_, rfl, _, rfl, right_ (oct := 3) oc (by omega) rfl ⟨_, rfl, L2.iteF ?_⟩⟩
    exact loop_law hP items _ _ _ n' (by omega)
theorem h_law (L : Nat) (hL : L ≤ 63) : t_law { nx := fun _ _ => False, rt := fun d _ => d = .bool true } (startD N_law [.s L, .m]) 0 := by
  refine ⟨L, rfl, _, _, rfl, rfl, _, rfl, 6 + (if ((L : Nat) : Int) < 10 then ((L : Nat) : Int) else 10), rfl, by split <;> omega, by split <;> omega, ?_⟩
  refine loop_law (fun s2 s3 s4 n => rfl) _ _ _ _ _ ?_
  unfold rangeD
  rw [List.length_map, List.length_range]
  split <;> omega
end DL

namespace C
open PySem L2 DL
def topS (i : Nat) : Stmt := PySem.Challenge.pw_chordsteps_k06_whole_rounds_beside_one_a.main.body.getD i (.Pass ⟨0, 0, 0, 0⟩)
structure Bn (K : Fg) (mg : Str → Option Value) : Prop where
  all : mg "all" = none
  bool : mg "bool" = none
  enumerate : mg "enumerate" = none
  int : mg "int" = none
  isinstance : mg "isinstance" = none
  len : mg "len" = none
  list : mg "list" = none
  min : mg "min" = none
  range : mg "range" = none
  sorted : mg "sorted" = none
  str : mg "str" = none
  tuple : mg "tuple" = none
  CHANGES : Cst K mg "CHANGES" (.tuple [(.str "stay"), (.str "again"), (.str "follow")])
  LAST_KEY : Cst K mg "LAST_KEY" (.int 87)
  MOST_KEYS : Cst K mg "MOST_KEYS" (.int 6)
  MOST_OCTAVES : Cst K mg "MOST_OCTAVES" (.int 3)
  MOST_RHYTHM : Cst K mg "MOST_RHYTHM" (.int 8)
  OCTAVE : Cst K mg "OCTAVE" (.int 12)
  ORDERS : Cst K mg "ORDERS" (.tuple [(.str "up"), (.str "down"), (.str "bounce"), (.str "swing"), (.str "outside"), (.str "played")])
abbrev s__law_draw : Stmt := topS 25
theorem sc__law_draw : FnScope ["_law_m", "_law_limit", "_law_cell", "_law_mixed"] ["_law_m", "_law_limit"] (defScope s__law_draw) := ⟨rfl, rfl, rfl, by decide +kernel, rfl, by decide +kernel, by decide +kernel⟩
section
variable {P : Program} {w : World} {K : Fg} {mg : Str → Option Value} {base : Heap}
theorem ok__law_draw (T : Bn K mg) (Fn : FunAt K mg "_law_draw" s__law_draw ["_law_m", "_law_limit"]) : FnIs P w K mg base 1 "_law_draw" ["_law_m", "_law_limit"] c__law_draw := by
  obtain ⟨f, fd, F, h2, h3⟩ := Fn
  refine ⟨f, fd, F.ok sc__law_draw (fun vs H Q E h => ?_) (fun cdv A outer s H vs Q E hr h => ?_), h2, F.kp, h3⟩
  · obtain ⟨g, F, n, ss, _, _, _, _, ao, ⟨y, ⟨rfl, _⟩, _⟩, _⟩ := h
    rw [args_len ao]; rfl
  · obtain ⟨g, F0, n, ss, rfl, rfl, ex, mc, ao, ⟨(L : Int), ⟨rfl, l0, l1, ln⟩, hq, _⟩, _⟩ := h
    have hu := hu_of hr
    match vs, ao with
    | [v0, v1], ⟨⟨m, gm, e0⟩, _, d1, _, _⟩ =>
      subst e0
      cases d1
      rw [gm] at mc hq
      obtain ⟨fr, q0, ns, s0, u0, hm, hd, hn0, hlen, a1, a2, a3, a4⟩ := mc m rfl
      refine ⟨_, pss_cons (ps_while PassesOwn.never (PW.pt (pw_and (pt_cmpR (op_neD hr.units) (pe_dget hu (pv 0) pe_str (fun _ _ => rfl)) (pe_lst pa_nil) (nomark _)) (pw_and1 (pt_cmpR op_eq (pe_ix ix_list (pe_dget hu (pv 0) pe_str (fun _ _ => rfl)) pe_int (fun _ _ => rfl)) pe_int (nomark _)))))
          (pss_one (ps_dput hu (pv 0) pe_str (pe_slice sl_list (pe_dget hu (pv 0) pe_str (fun _ _ => rfl)) (po_some pe_int) po_none) rfl)))
        (pss_cons (ps_if (pt_cmpR (op_neD hr.units) (pe_dget hu (pv 0) pe_str (fun _ _ => rfl)) (pe_lst pa_nil) (nomark _))
          (pss_cons (ps_set (i := 2) sc__law_draw.nd rfl (.inl rfl) (pe_ix ix_list (pe_dget hu (pv 0) pe_str (fun _ _ => rfl)) pe_int (fun _ _ => rfl)))
          (pss_cons (ps_dput hu (pv 0) pe_str (pe_op op_cat (pe_lst (pa_cons (pe_op op_fdiv (pv 2) (pv 1)) pa_nil)) (pe_slice sl_list (pe_dget hu (pv 0) pe_str (fun _ _ => rfl)) (po_some pe_int) po_none)) rfl)
          (pss_one (ps_ret (pe_op op_mod (pe_callTy call_int1 (by rfl) T.int (by decide +kernel) (pa_cons (pv 2) pa_nil)) (pv 1)))))) pss_nil)
        (pss_cons (ps_dput hu (pv 0) pe_str (pe_op op_add (pe_dget hu (pv 0) pe_str (fun _ _ => rfl)) pe_int) rfl)
        (pss_cons (ps_set (i := 3) sc__law_draw.nd rfl (.inl rfl) (pe_op op_mod (pe_callTy call_int1 (by rfl) T.int (by decide +kernel) (pa_cons (pe_op op_add (pe_op op_add (pe_op op_mul (pe_dget hu (pv 0) pe_str (fun _ _ => rfl)) pe_int) (pe_op op_mul (pe_op op_mul (pe_dget hu (pv 0) pe_str (fun _ _ => rfl)) (pe_dget hu (pv 0) pe_str (fun _ _ => rfl))) pe_int)) (pe_dget hu (pv 0) pe_str (fun _ _ => rfl))) pa_nil)) pe_int))
        (pss_cons (ps_set (i := 3) sc__law_draw.nd rfl (.inl rfl) (pe_op op_mod (pe_callTy call_int1 (by rfl) T.int (by decide +kernel) (pa_cons (pe_op op_add (pe_op op_mul (pv 3) pe_int) pe_int) pa_nil)) pe_int))
        (pss_one (ps_ret (pe_op op_mod (pe_op op_fdiv (pe_op op_mod (pe_callTy call_int1 (by rfl) T.int (by decide +kernel) (pa_cons (pe_op op_add (pe_op op_mul (pv 3) pe_int) (pe_dget hu (pv 0) pe_str (fun _ _ => rfl))) pa_nil)) pe_int) pe_int) (pv 1)))))))), ?_⟩
      have d0 : DrawSt m g.F0 g.B s0 u0 g.B ns := ⟨g.F0, q0, Grow.refl ex, fr, hm, by cases hd with | lst z1 z2 => have := ints_dpa z2; subst this; exact z1⟩
      refine ⟨fun j σ H => ∃ ks : List Int, j = ks.length ∧ ks.length ≤ 64 ∧ (∀ n ∈ ks, 0 ≤ n) ∧ σ = [some (.ref m), some (.int L), none, none] ∧ DrawSt m g.F0 g.B s0 u0 H ks, ⟨_, ns, rfl, hlen, hn0, rfl, d0⟩, ?_⟩
      rintro j σ H ⟨ks, rfl, kl, k0, rfl, d⟩
      obtain ⟨q, h1, h2⟩ := d.at_
      refine ⟨_, rfl, m, _, rfl, mK_g ▸ DGet.k (k := Sum.inr "great") h1, Nat.zero_le _, fun p hp => ?_⟩
      have d' := d.new (o := .lst []) hp
      have h2' : (upd H p (.lst [])) q = some (.lst (ks.map V.int)) := by rw [upd_ne (ne_of_none h2 hp)]; exact h2
      have h1' : (upd H p (.lst [])) m = some (.dK (mK q s0 u0)) := by rw [upd_ne (ne_of_none h1 hp)]; exact h1
      refine ⟨.list (ks.map .int), .list [], .lst (SqL.of h2') (l2_ints ks), .lst (SqL.of upd_same) .nil, shp_ints ks, rfl, _, rfl, ?_⟩
      cases ks with
      | nil =>
        refine L2.iteF ?_
        refine L2.iteF ?_
        -- no great number: the seed
        obtain ⟨q, h1, h2⟩ := d'.at_
        refine ⟨_, rfl, m, _, rfl, mK_g ▸ DGet.k (k := Sum.inr "great") h1, Nat.zero_le _, fun p2 hp2 => ?_⟩
        have d2 := d'.new (o := .lst []) hp2
        obtain ⟨q', h1', h2'⟩ := d2.at_
        have h2a : (upd (upd H p (.lst [])) p2 (.lst [])) q = some (.lst []) := by rw [upd_ne (ne_of_none h2 hp2)]; exact h2
        refine ⟨.list [], .list [], .lst (SqL.of h2a) .nil, .lst (SqL.of upd_same) .nil, rfl, rfl, _, rfl, ?_⟩
        refine L2.iteF ?_
        -- m['turns'] = m['turns'] + 1
        refine ⟨_, rfl, m, _, rfl, mK_t ▸ DGet.k (k := Sum.inr "turns") h1', _, _, rfl, rfl, _, rfl, m, _, rfl, DPut.k (k := Sum.inr "turns") h1' (by show 3 < sizeLine; decide), ?_⟩
        rw [mK_pt]
        have d3 := d2.turn (v := u0 + 1) h1'
        have h3 : (upd (upd (upd H p (.lst [])) p2 (.lst [])) m (.dK (mK q' s0 (u0 + 1)))) m = some (.dK (mK q' s0 (u0 + 1))) := upd_same
        have hT : DGet (upd (upd (upd H p (.lst [])) p2 (.lst [])) m (.dK (mK q' s0 (u0 + 1)))) m (.str "turns") (some (.int (u0 + 1))) := mK_t ▸ DGet.k (k := Sum.inr "turns") h3
        have hS : DGet (upd (upd (upd H p (.lst [])) p2 (.lst [])) m (.dK (mK q' s0 (u0 + 1)))) m (.str "seed") (some (.int s0)) := mK_s ▸ DGet.k (k := Sum.inr "seed") h3
        generalize (upd (upd (upd H p (.lst [])) p2 (.lst [])) m (.dK (mK q' s0 (u0 + 1)))) = H9 at d3 hT hS ⊢
        have ub : u0 + 1 ≤ 1000000000 := by omega
        have bigU : -(2 ^ 64) < (u0 + 1) ∧ (u0 + 1) < 2 ^ 64 := by constructor <;> omega
        refine ⟨_, rfl, m, _, rfl, hS, _, _, rfl, rfl, .inr ⟨by decide, by decide⟩, _, rfl, m, _, rfl, hT, _, rfl, m, _, rfl, hT, _, _, rfl, rfl, .inl bigU, _, _, rfl, rfl, .inr ⟨by decide, by decide⟩, _, _, rfl, rfl, _, rfl, m, _, rfl, hT, _, _, rfl, rfl, .inl ⟨_, rfl, _, _, rfl, rfl, (by show (0 : Int) < 2147483647; decide), ?_⟩⟩
        refine ⟨_, rfl, _, _, rfl, rfl, .inr ⟨by decide, by decide⟩, _, _, rfl, rfl, .inl ⟨_, rfl, _, _, rfl, rfl, (by show (0 : Int) < 2147483629; decide), ?_⟩⟩
        refine ⟨_, rfl, _, _, rfl, rfl, .inr ⟨by decide, by decide⟩, _, rfl, m, _, rfl, hT, _, _, rfl, rfl, .inl ⟨_, rfl, _, _, rfl, rfl, (by show (0 : Int) < 2147483563; decide), _, _, rfl, rfl, ⟨by decide, by decide⟩, _, rfl, _, _, rfl, rfl, l0, ?_⟩⟩
        obtain ⟨F', gr, mc'⟩ := d3.fin (K := K) (t := n + 1) (by simp) (by simp) a1 a2 (by omega) (by omega)
        exact hq _ (n + 1) ⟨_, rfl, Int.emod_nonneg _ (by omega), Int.emod_lt_of_pos _ l0, rfl⟩ _ F' _ gr mc' (.int _)
      | cons k ks =>
        refine L2.iteT ?_
        refine ⟨_, rfl, m, _, rfl, mK_g ▸ DGet.k (k := Sum.inr "great") h1', q, _, 0, .int k, rfl, rfl, SqL.of h2', atI_nat (j := 0) rfl, rfl, _, rfl, ?_⟩
        by_cases hk : k = 0
        · subst hk
          refine if_t (decide_eq_true rfl) ?_
          refine ⟨_, fun σ' H' hN => hN, ?_⟩
          -- m['great'] = m['great'][1:]
          refine ⟨_, rfl, m, _, rfl, mK_g ▸ DGet.k (k := Sum.inr "great") h1', 1, rfl, q, _, rfl, SqL.of h2', fun r hr' => ?_⟩
          rw [cutV_1]
          have rm : r ≠ m := (ne_of_none h1' hr').symm
          refine ⟨_, rfl, m, _, rfl, DPut.k (k := Sum.inr "great") (by rw [upd_ne rm.symm]; exact h1') (by show 3 < sizeLine; decide), ?_⟩
          rw [mK_pg]
          exact ⟨ks.length, by simp, ks, rfl, by simp at kl; omega, fun n hn => k0 n (by simp [hn]), rfl, d'.put hr'⟩
        · refine if_f (decide_eq_false fun z => hk (V.int.inj z)) ?_
          -- a great number
          refine ⟨_, rfl, m, _, rfl, mK_g ▸ DGet.k (k := Sum.inr "great") h1', Nat.zero_le _, fun p2 hp2 => ?_⟩
          have d2 := d'.new (o := .lst []) hp2
          have h2a : (upd (upd H p (.lst [])) p2 (.lst [])) q = some (.lst ((k :: ks).map V.int)) := by rw [upd_ne (ne_of_none h2' hp2)]; exact h2'
          have h1a : (upd (upd H p (.lst [])) p2 (.lst [])) m = some (.dK (mK q s0 u0)) := by rw [upd_ne (ne_of_none h1' hp2)]; exact h1'
          refine ⟨.list ((k :: ks).map .int), .list [], .lst (SqL.of h2a) (l2_ints _), .lst (SqL.of upd_same) .nil, shp_ints _, rfl, _, rfl, ?_⟩
          refine L2.iteT ?_
          refine ⟨_, rfl, m, _, rfl, mK_g ▸ DGet.k (k := Sum.inr "great") h1a, q, _, 0, .int k, rfl, rfl, SqL.of h2a, atI_nat (j := 0) rfl, ?_⟩
          -- m['great'] = [cell // limit] + m['great'][1:]
          refine ⟨_, rfl, _, rfl, _, _, rfl, rfl, ⟨l0, l1⟩, by show 1 ≤ sizeLine; decide, fun r1 hr1 => ?_⟩
          have h1b : (upd (upd (upd H p (.lst [])) p2 (.lst [])) r1 (.lst [.int (k / L)])) m = some (.dK (mK q s0 u0)) := by rw [upd_ne (ne_of_none h1a hr1)]; exact h1a
          have h2b : (upd (upd (upd H p (.lst [])) p2 (.lst [])) r1 (.lst [.int (k / L)])) q = some (.lst ((k :: ks).map V.int)) := by rw [upd_ne (ne_of_none h2a hr1)]; exact h2a
          have d3 := d2.new (o := .lst [.int (k / L)]) hr1
          refine ⟨_, rfl, m, _, rfl, mK_g ▸ DGet.k (k := Sum.inr "great") h1b, 1, rfl, q, _, rfl, SqL.of h2b, fun r2 hr2 => ?_⟩
          rw [cutV_1]
          have d4 := d3.new (o := .lst (ks.map V.int)) hr2
          have n21 : r1 ≠ r2 := ne_of_none (upd_same (H := upd (upd H p (.lst [])) p2 (.lst [])) (a := r1) (o := .lst [.int (k / L)])) hr2
          have h1c := (by rw [upd_ne (ne_of_none h1b hr2)]; exact h1b : (upd (upd (upd (upd H p (.lst [])) p2 (.lst [])) r1 (.lst [.int (k / L)])) r2 (.lst (ks.map V.int))) m = some (.dK (mK q s0 u0)))
          refine ⟨r1, r2, [.int (k / L)], ks.map V.int, rfl, rfl, by rw [upd_ne n21, upd_same], upd_same, by rw [List.length_map]; simp at kl ⊢; exact Evl.sz_of (by omega), fun r3 hr3 => ?_⟩
          have rm : r3 ≠ m := (ne_of_none h1c hr3).symm
          refine ⟨_, rfl, m, _, rfl, DPut.k (k := Sum.inr "great") (by rw [upd_ne rm.symm]; exact h1c) (by show 3 < sizeLine; decide), ?_⟩
          rw [mK_pg]
          have d5 := d4.put (ks := (k / L) :: ks) hr3
          refine ⟨_, rfl, .inl ⟨_, rfl, _, rfl, _, _, rfl, rfl, l0, ?_⟩⟩
          have k1 : 0 ≤ k := k0 k (by simp)
          have nn : ∀ z ∈ (k / L) :: ks, 0 ≤ z := fun z hz => by
            rcases List.mem_cons.mp hz with z1 | z1
            · rw [z1]; exact Int.ediv_nonneg k1 (by omega)
            · exact k0 z (by simp [z1])
          obtain ⟨F', gr, mc'⟩ := d5.fin (K := K) (t := n + 1) nn (by simpa using kl) a1 a2 a3 (by omega)
          exact hq _ (n + 1) ⟨_, rfl, Int.emod_nonneg _ (by omega), Int.emod_lt_of_pos _ l0, rfl⟩ _ F' _ gr mc' (.int _)
end
abbrev s__law_begun : Stmt := topS 24
theorem sc__law_begun : FnScope ["_law_script", "_law_seed", "_law_cell"] ["_law_script"] (defScope s__law_begun) := ⟨rfl, rfl, rfl, by decide +kernel, rfl, by decide +kernel, by decide +kernel⟩
section
variable {P : Program} {w : World} {K : Fg} {mg : Str → Option Value} {base : Heap}
theorem ok__law_begun (T : Bn K mg) {f : Addr} {fd : FuncData} (F : Fun K "_law_begun" "_law_begun" s__law_begun f fd) : FnOk P w K mg base CX0 1 f fd ["_law_script"] (spBegun K) := by
  refine F.ok sc__law_begun (fun vs H Q E h => ?_) (fun cdv A outer s H vs Q E hr h => ?_)
  · obtain ⟨a, ns, rfl, _⟩ := h; rfl
  · obtain ⟨a, ns, rfl, hS, hl, q⟩ := h
    have hu := hu_of hr
    refine ⟨_, pss_cons (ps_set (i := 1) sc__law_begun.nd rfl (.inl rfl) pe_int)
      (pss_cons (ps_for PassesOwn.never rfl (pi_list (pv 0)) (pg_name (i := 2) sc__law_begun.nd rfl (.inl rfl))
        (pss_one (ps_set (i := 1) sc__law_begun.nd rfl (.inl rfl) (pe_op op_mod (pe_callTy call_int1 (by rfl) T.int (by decide +kernel) (pa_cons (pe_op op_add (pe_op op_add (pe_op op_mul (pv 1) pe_int) (pe_op op_mod (pe_callTy call_int1 (by rfl) T.int (by decide +kernel) (pa_cons (pv 2) pa_nil)) pe_int)) pe_int) pa_nil)) pe_int))))
      (pss_one (ps_ret (pe_disp (pps_cons pe_str (pe_lc (own := [("_law_cell", 2)]) (g := gName 2) (by rfl) sc__law_begun.nd (pi_list (pv 0)) (blkOk_by (own := [("_law_cell", 2)]) (N := ["_law_script", "_law_seed", "_law_cell"]) (sc := defScope s__law_begun) (by decide +kernel)) (fun _ _ _ _ _ => pg_name (i := 2) sc__law_begun.nd rfl (.inl rfl)) (fun _ _ _ _ _ => pts_one (pt_cmpR op_ge (pv 2) (pe_op op_pow pe_int pe_int) (nomark _))) (fun _ _ _ _ _ => pv 2)) (pps_cons pe_str (pv 1) (pps_cons pe_str pe_int pps_nil))) (by rfl) (by rfl) (fun z => by cases z) (by decide))))), ?_⟩
    refine ⟨_, rfl, a, rfl, ⟨_, hS⟩, for_list (K := K) (a := a) (xs := ns.map V.int) (fun i σ H' => ∃ (z : Int) (y : Option V), σ = [some (.ref a), some (.int z), y] ∧ 0 ≤ z ∧ z < 2147483647 ∧ H' = H) ⟨11, none, rfl, by decide, by decide, rfl⟩ (fun i σ H' _ ⟨_, _, _, _, _, e⟩ => e ▸ hS) ?_ ?_⟩
    · rintro i y σ H' hi ⟨z, y0, rfl, z0, z1, rfl⟩
      obtain ⟨v, rfl⟩ : ∃ v, y = V.int v := by
        rw [List.getElem?_map] at hi
        cases e : ns[i]? with
        | none => rw [e] at hi; cases hi
        | some v => rw [e] at hi; exact ⟨v, (Option.some.inj hi).symm⟩
      refine ⟨_, rfl, _, _, rfl, rfl, .inr ⟨by decide, by decide⟩, _, rfl, .inl ⟨_, rfl, _, _, rfl, rfl, (by show (0 : Int) < 2147483629; decide), _, _, rfl, rfl, _, _, rfl, rfl, .inl ⟨_, rfl, _, _, rfl, rfl, (by show (0 : Int) < 2147483647; decide), ?_⟩⟩⟩
      exact ⟨_, some (.int v), rfl, Int.emod_nonneg _ (by decide), Int.emod_lt_of_pos _ (by decide), rfl⟩
    · rintro σ H' ⟨z, y0, rfl, z0, z1, rfl⟩
      intro m hm
      refine ⟨_, rfl, a, rfl, ⟨_, Evl.ex_l (Evl.Ex.new hm) hS⟩, ?_⟩
      intro D hD
      have mD : m ≠ D := fun e => by rw [← e, upd_same] at hD; cases hD
      have exD : Ex (upd H' m (.dK [])) (upd (upd H' m (.dK [])) D (.lst [])) := Evl.Ex.new hD
      refine lc_list (K := K) (a := a) (xs := ns.map V.int) (fun i H2 => ∃ ks : List Int, H2 = upd (upd H' m (.dK [])) D (.lst (ks.map V.int)) ∧ ks.length ≤ i ∧ ∀ k ∈ ks, 0 ≤ k) ⟨[], rfl, Nat.le_refl _, by simp⟩ (fun i H2 _ ⟨ks, e, _⟩ => e ▸ Evl.ex_l ((Evl.Ex.new hm).trans (Evl.Ex.new hD)) hS) ?_ ?_
      · rintro i y H2 hi ⟨ks, rfl, kl, k0⟩
        obtain ⟨v, rfl⟩ : ∃ v, y = V.int v := by
          rw [List.getElem?_map] at hi
          cases e : ns[i]? with
          | none => rw [e] at hi; cases hi
          | some v => rw [e] at hi; exact ⟨v, (Option.some.inj hi).symm⟩
        have hil : i < ns.length := by
          have := (List.getElem?_eq_some_iff.mp hi).1
          rwa [List.length_map] at this
        refine ⟨rfl, _, rfl, _, _, rfl, rfl, ⟨by decide, by decide, by decide⟩, _, _, rfl, rfl, _, rfl, ?_⟩
        refine ite2 (fun hc => ?_) (fun hc => ?_)
        · have hv : (10 : Int) ^ (18 : Int).toNat ≤ v := of_decide_eq_true hc
          have h10 : (0 : Int) ≤ (10 : Int) ^ (18 : Int).toNat := by decide
          refine ⟨_, rfl, ks.map V.int, upd_same, by rw [List.length_map]; exact Evl.sz_lt (by omega), ks ++ [v], by rw [upd_upd, List.map_append]; rfl, by rw [List.length_append, List.length_singleton]; omega, fun k hk => ?_⟩
          rcases List.mem_append.mp hk with z | z
          · exact k0 k z
          · have : k = v := by simpa using z
            omega
        · exact ⟨ks, rfl, by omega, k0⟩
      · rintro H2 ⟨ks, rfl, kl, k0⟩
        rw [List.length_map] at kl
        refine ⟨_, rfl, ?_⟩
        refine ⟨by rw [upd_ne mD, upd_same], [(Sum.inr "great", .ref D), (Sum.inr "seed", .int z), (Sum.inr "turns", .int 0)], rfl, by show 3 ≤ 15; decide, ?_⟩
        rw [merge_m]
        refine q m D ks z _ hm (fun b o e => ?_) upd_same (by rw [upd_ne mD.symm, upd_same]) k0 (by omega) z0 z1
        have bm : b ≠ m := ne_of_none e hm
        have bD : b ≠ D := fun c => by
          have : (upd H' m (.dK [])) b = some o := by rw [upd_ne bm]; exact e
          rw [c, hD] at this
          cases this
        rw [upd_ne bm, upd_ne bD, upd_ne bm]
        exact e
end
section
variable {P : Program} {w : World} {K : Fg} {mg : Str → Option Value} {base : Heap}
abbrev s__law_chord : Stmt := topS 26
theorem sc__law_chord : FnScope ["_law_m", "_law_most", "_law_wide", "_law_some", "_law_found", "_law_k"] ["_law_m", "_law_most", "_law_wide"] (defScope s__law_chord) := ⟨rfl, rfl, rfl, by decide +kernel, rfl, by decide +kernel, by decide +kernel⟩
theorem ok__law_chord (T : Bn K mg) (G__law_draw : FnIs P w K mg base 1 "_law_draw" ["_law_m", "_law_limit"] c__law_draw) (Fn : FunAt K mg "_law_chord" s__law_chord ["_law_m", "_law_most", "_law_wide"]) : FnIs P w K mg base 2 "_law_chord" ["_law_m", "_law_most", "_law_wide"] c__law_chord :=
  fn_is Fn sc__law_chord (by rintro x ss n ⟨rfl, _⟩; rfl) (fun f cdv A outer s H E g hr => (s_cons (st_parLL 3 4 (l_listRange rfl (by rfl) T.list (by rfl) T.range (e_var 2)) (l_lst a_nil) sc__law_chord.nd) (s_cons (st_for rfl (i_range1 (by rfl) T.range (a_cons (e_min2 rfl (by rfl) T.min (a_cons (e_var 2) (a_cons (e_call G__law_draw (hr.mono (by decide)) (by rfl) (a_m 0 (a_cons (e_add (e_var 1) e_int) a_nil))) a_nil))) a_nil)) (g_name 5 sc__law_chord.nd) (s_one (st_appPop 4 3 (e_call G__law_draw (hr.mono (by decide)) (by rfl) (a_m 0 (a_cons (e_view fun g => (e_len (by rfl) T.len (a_cons (e_var 3) a_nil))) a_nil)))))) (s_one (st_ret (e_view fun g => (e_tuple (by rfl) T.tuple (a_cons (e_var 4) a_nil)))))))) h__law_chord
abbrev s_is_word_of : Stmt := topS 14
theorem sc_is_word_of : FnScope ["thing", "words"] ["thing", "words"] (defScope s_is_word_of) := ⟨rfl, rfl, rfl, by decide +kernel, rfl, by decide +kernel, by decide +kernel⟩
theorem ok_is_word_of (T : Bn K mg) (Fn : FunAt K mg "is_word_of" s_is_word_of ["thing", "words"]) : FnIs P w K mg base 1 "is_word_of" ["thing", "words"] c_is_word_of :=
  fn_is Fn sc_is_word_of (by rintro x ss n ⟨rfl, _⟩; rfl) (fun f cdv A outer s H E g hr => (s_one (st_ret (e_and (e_isStr (by rfl) T.isinstance (e_var 0) (by rfl) T.str) (e_one (e_in (e_var 0) (e_var 1))))))) h_is_word_of
abbrev s_is_whole : Stmt := topS 12
theorem sc_is_whole : FnScope ["thing", "least", "most"] ["thing", "least", "most"] (defScope s_is_whole) := ⟨rfl, rfl, rfl, by decide +kernel, rfl, by decide +kernel, by decide +kernel⟩
theorem ok_is_whole (T : Bn K mg) (Fn : FunAt K mg "is_whole" s_is_whole ["thing", "least", "most"]) : FnIs P w K mg base 1 "is_whole" ["thing", "least", "most"] c_is_whole :=
  fn_is Fn sc_is_whole (by rintro x ss n ⟨rfl, _⟩; rfl) (fun f cdv A outer s H E g hr => (s_one (st_ret (e_and (e_isInt (by rfl) T.isinstance (e_var 0) (by rfl) T.int) (e_and (e_not (e_isBool (by rfl) T.isinstance (e_var 0) (by rfl) T.bool)) (e_one (e_lele (e_var 1) (e_var 0) (e_var 2)))))))) h_is_whole
abbrev s_is_rhythm : Stmt := topS 15
theorem sc_is_rhythm : FnScope ["thing", "sign"] ["thing"] (defScope s_is_rhythm) := ⟨rfl, rfl, rfl, by decide +kernel, rfl, by decide +kernel, by decide +kernel⟩
theorem ok_is_rhythm (T : Bn K mg) (Fn : FunAt K mg "is_rhythm" s_is_rhythm ["thing"]) : FnIs P w K mg base 1 "is_rhythm" ["thing"] c_is_rhythm :=
  fn_is Fn sc_is_rhythm (by rintro x ss n ⟨rfl, _⟩; rfl) (fun f cdv A outer s H E g hr => (s_cons (st_if (b_w (w_or (b_not (b_val (e_isStr (by rfl) T.isinstance (e_var 0) (by rfl) T.str))) (w_or1 (b_not (b_lele e_int (e_len (by rfl) T.len (a_cons (e_var 0) a_nil)) (e_const T.MOST_RHYTHM (by rfl))))))) (s_one (st_ret e_bl)) s_nil) (s_one (st_ret (e_and (e_in e_str (e_var 0)) (e_one (e_all rfl (by rfl) T.all (a_cons (e_l (l_comp [("sign", 1)] rfl sc_is_rhythm.nd (i_str (e_var 0)) (by kernel_rfl) (fun _ => (g_name 1 sc_is_rhythm.nd)) (fun _ => (e_in (e_var 1) e_str)))) a_nil)))))))) h_is_rhythm
abbrev s_setting_fault : Stmt := topS 16
theorem sc_setting_fault : FnScope ["thing", "order", "octaves", "rhythm", "change", "latch", "rows", "wrong", "word", "is_right"] ["thing"] (defScope s_setting_fault) := ⟨rfl, rfl, rfl, by decide +kernel, rfl, by decide +kernel, by decide +kernel⟩
theorem ok_setting_fault (T : Bn K mg) (G_is_word_of : FnIs P w K mg base 1 "is_word_of" ["thing", "words"] c_is_word_of) (G_is_whole : FnIs P w K mg base 1 "is_whole" ["thing", "least", "most"] c_is_whole) (G_is_rhythm : FnIs P w K mg base 1 "is_rhythm" ["thing"] c_is_rhythm) (Fn : FunAt K mg "setting_fault" s_setting_fault ["thing"]) : FnIs P w K mg base 2 "setting_fault" ["thing"] c_setting_fault :=
  fn_is Fn sc_setting_fault (by rintro x ss n ⟨rfl, _⟩; rfl) (fun f cdv A outer s H E g hr => (s_cons (st_if (b_w (w_or (b_not (b_val (e_isTup (by rfl) T.isinstance (e_var 0) (by rfl) T.tuple))) (w_or1 (b_ne hr.units (e_len (by rfl) T.len (a_cons (e_var 0) a_nil)) e_int)))) (s_one (st_ret (e_tup a_nil))) s_nil) (s_cons (st_asg (e_var 0) (g_tup rfl (gs_name 1 (gs_name 2 (gs_name 3 (gs_name 4 (gs_name 5 gs_nil sc_setting_fault.nd) sc_setting_fault.nd) sc_setting_fault.nd) sc_setting_fault.nd) sc_setting_fault.nd))) (s_cons (st_own 6 (l_lst (a_cons (e_tup (a_cons e_str (a_cons (e_call G_is_word_of (hr.mono (by decide)) (by rfl) (a_cons (e_var 1) (a_cons (e_const T.ORDERS (by rfl)) a_nil))) a_nil))) (a_cons (e_tup (a_cons e_str (a_cons (e_call G_is_whole (hr.mono (by decide)) (by rfl) (a_cons (e_var 2) (a_cons e_int (a_cons (e_const T.MOST_OCTAVES (by rfl)) a_nil)))) a_nil))) a_nil))) sc_setting_fault.nd) (s_cons (st_ext 6 (e_l (l_lst (a_cons (e_tup (a_cons e_str (a_cons (e_call G_is_rhythm (hr.mono (by decide)) (by rfl) (a_cons (e_var 3) a_nil)) a_nil))) (a_cons (e_tup (a_cons e_str (a_cons (e_call G_is_word_of (hr.mono (by decide)) (by rfl) (a_cons (e_var 4) (a_cons (e_const T.CHANGES (by rfl)) a_nil))) a_nil))) a_nil)))) sc_setting_fault.nd) (s_frz 6 (s_cons (st_setCompIf 7 [("word", 8), ("is_right", 9)] rfl sc_setting_fault.nd (sw_true rfl rfl rfl (by decide +kernel)) (i_list (e_add (e_var 6) (e_l (l_lst (a_cons (e_tup (a_cons e_str (a_cons (e_isBool (by rfl) T.isinstance (e_var 5) (by rfl) T.bool) a_nil))) a_nil))))) (by kernel_rfl) (fun _ => (g_tup rfl (gs_name 8 (gs_name 9 gs_nil sc_setting_fault.nd) sc_setting_fault.nd))) (fun _ => (b_not (b_val (e_var 9)))) (fun _ => (e_var 8))) (s_one (st_ret (e_if (b_ne hr.units (e_var 7) (e_l (l_lst a_nil))) (e_tup (a_cons (e_sub1 (e_var 7) e_int) a_nil)) e_non)))))))))) h_setting_fault
abbrev s_need_setting : Stmt := topS 17
theorem sc_need_setting : FnScope ["thing", "place"] ["thing"] (defScope s_need_setting) := ⟨rfl, rfl, rfl, by decide +kernel, rfl, by decide +kernel, by decide +kernel⟩
theorem ok_need_setting (T : Bn K mg) (G_setting_fault : FnIs P w K mg base 2 "setting_fault" ["thing"] c_setting_fault) (Fn : FunAt K mg "need_setting" s_need_setting ["thing"]) : FnIs P w K mg base 3 "need_setting" ["thing"] c_need_setting :=
  fn_is Fn sc_need_setting (by rintro x ss n ⟨rfl, _⟩; rfl) (fun f cdv A outer s H E g hr => (s_cons (st_asg (e_call G_setting_fault (hr.mono (by decide)) (by rfl) (a_cons (e_var 0) a_nil)) (g_name 1 sc_need_setting.nd)) (s_cons (st_if (b_isnot (e_var 1) e_non) (s_one st_never) s_nil) (s_one (st_ret (e_var 0)))))) h_need_setting
abbrev s_tone_row : Stmt := topS 19
theorem sc_tone_row : FnScope ["setting", "chord", "keys", "octave", "key"] ["setting", "chord"] (defScope s_tone_row) := ⟨rfl, rfl, rfl, by decide +kernel, rfl, by decide +kernel, by decide +kernel⟩
theorem ok_tone_row (T : Bn K mg) (Fn : FunAt K mg "tone_row" s_tone_row ["setting", "chord"]) : FnIs P w K mg base 1 "tone_row" ["setting", "chord"] c_tone_row :=
  fn_is Fn sc_tone_row (by rintro x ss n ⟨rfl, _⟩; rfl) (fun f cdv A outer s H E g hr => (s_cons (st_asg (e_if (b_eq hr.units (e_sub1 (e_var 0) e_int) e_str) (e_l (l_list (by rfl) T.list (a_cons (e_var 1) a_nil))) (e_l (l_sorted (by rfl) T.sorted (a_cons (e_var 1) a_nil)))) (g_name 2 sc_tone_row.nd)) (s_one (st_ret (e_l (l_comp2 [("octave", 3), ("key", 4)] [4] rfl sc_tone_row.nd (i_range1 (by rfl) T.range (a_cons (e_sub1 (e_var 0) e_int) a_nil)) (by kernel_rfl) (fun _ => (g_name 3 sc_tone_row.nd)) (fun _ => (i_list (e_var 2))) (fun _ => (g_name 4 sc_tone_row.nd)) (fun _ => (e_add (e_var 4) (e_mul (e_const T.OCTAVE (by rfl)) (e_var 3)))))))))) h_tone_row
abbrev s_from_outside : Stmt := topS 20
theorem sc_from_outside : FnScope ["row", "found", "rest"] ["row"] (defScope s_from_outside) := ⟨rfl, rfl, rfl, by decide +kernel, rfl, by decide +kernel, by decide +kernel⟩
theorem ok_from_outside (T : Bn K mg) (Fn : FunAt K mg "from_outside" s_from_outside ["row"]) : FnIs P w K mg base 1 "from_outside" ["row"] c_from_outside :=
  fn_is Fn sc_from_outside (by rintro x ss n ⟨rfl, _⟩; rfl) (fun f cdv A outer s H E g hr => (s_cons (st_parLL 1 2 (l_lst a_nil) (l_list (by rfl) T.list (a_cons (e_var 0) a_nil)) sc_from_outside.nd) (s_cons (st_while (b_view fun g => (b_ne hr.units (e_var 2) (e_l (l_lst a_nil)))) (s_cons (st_appPop 1 2 e_int) (s_one (st_rev 2)))) (s_one (st_frz 1 (st_ret (e_var 1))))))) h_from_outside
abbrev s_round_in : Stmt := topS 21
theorem sc_round_in : FnScope ["setting", "chord", "row"] ["setting", "chord"] (defScope s_round_in) := ⟨rfl, rfl, rfl, by decide +kernel, rfl, by decide +kernel, by decide +kernel⟩
theorem ok_round_in (T : Bn K mg) (G_tone_row : FnIs P w K mg base 1 "tone_row" ["setting", "chord"] c_tone_row) (G_from_outside : FnIs P w K mg base 1 "from_outside" ["row"] c_from_outside) (Fn : FunAt K mg "round_in" s_round_in ["setting", "chord"]) : FnIs P w K mg base 2 "round_in" ["setting", "chord"] c_round_in :=
  fn_is Fn sc_round_in (by rintro x ss n ⟨rfl, _⟩; rfl) (fun f cdv A outer s H E g hr => (s_cons (st_asg (e_call G_tone_row (hr.mono (by decide)) (by rfl) (a_cons (e_var 0) (a_cons (e_var 1) a_nil))) (g_name 2 sc_round_in.nd)) (s_cons (st_match (e_sub1 (e_var 0) e_int) (m_str (s_one (st_ret (e_tuple (by rfl) T.tuple (a_cons (e_revL (e_var 2)) a_nil)))) (m_str (s_one (st_ret (e_tuple (by rfl) T.tuple (a_cons (e_add (e_var 2) (e_revL (e_slice (e_var 2) (o_some e_int) (o_some (e_neg e_int))))) a_nil)))) (m_str (s_one (st_ret (e_tuple (by rfl) T.tuple (a_cons (e_add (e_var 2) (e_revL (e_var 2))) a_nil)))) (m_str (s_one (st_ret (e_tuple (by rfl) T.tuple (a_cons (e_call G_from_outside (hr.mono (by decide)) (by rfl) (a_cons (e_var 2) a_nil)) a_nil)))) m_nil))))) (s_one (st_ret (e_tuple (by rfl) T.tuple (a_cons (e_var 2) a_nil))))))) h_round_in
abbrev s_is_key : Stmt := topS 13
theorem sc_is_key : FnScope ["thing"] ["thing"] (defScope s_is_key) := ⟨rfl, rfl, rfl, by decide +kernel, rfl, by decide +kernel, by decide +kernel⟩
theorem ok_is_key (T : Bn K mg) (G_is_whole : FnIs P w K mg base 1 "is_whole" ["thing", "least", "most"] c_is_whole) (Fn : FunAt K mg "is_key" s_is_key ["thing"]) : FnIs P w K mg base 2 "is_key" ["thing"] c_is_key :=
  fn_is Fn sc_is_key (by rintro x ss n ⟨rfl, _⟩; rfl) (fun f cdv A outer s H E g hr => (s_one (st_ret (e_call G_is_whole (hr.mono (by decide)) (by rfl) (a_cons (e_var 0) (a_cons e_int (a_cons (e_const T.LAST_KEY (by rfl)) a_nil))))))) h_is_key
abbrev s_need_chord : Stmt := topS 18
theorem sc_need_chord : FnScope ["thing", "number", "key"] ["thing"] (defScope s_need_chord) := ⟨rfl, rfl, rfl, by decide +kernel, rfl, by decide +kernel, by decide +kernel⟩
theorem ok_need_chord (T : Bn K mg) (G_is_key : FnIs P w K mg base 2 "is_key" ["thing"] c_is_key) (Fn : FunAt K mg "need_chord" s_need_chord ["thing"]) : FnIs P w K mg base 3 "need_chord" ["thing"] c_need_chord :=
  fn_is Fn sc_need_chord (by rintro x ss n ⟨rfl, _⟩; rfl) (fun f cdv A outer s H E g hr => (s_cons (st_if (b_w (w_or (b_not (b_val (e_isTup (by rfl) T.isinstance (e_var 0) (by rfl) T.tuple))) (w_or1 (b_gt (e_len (by rfl) T.len (a_cons (e_var 0) a_nil)) (e_const T.MOST_KEYS (by rfl)))))) (s_one st_never) s_nil) (s_cons (st_for rfl (i_enumT (by rfl) T.enumerate (a_cons (e_var 0) a_nil)) (g_tup rfl (gs_name 1 (gs_name 2 gs_nil sc_need_chord.nd) sc_need_chord.nd)) (s_one (st_if (b_w (w_or (b_not (b_val (e_call G_is_key (hr.mono (by decide)) (by rfl) (a_cons (e_var 2) a_nil)))) (w_or1 (b_in (e_var 2) (e_slice (e_var 0) o_none (o_some (e_var 1))))))) (s_one st_never) s_nil))) (s_one (st_ret (e_var 0)))))) h_need_chord
abbrev s_round_of : Stmt := topS 22
theorem sc_round_of : FnScope ["setting", "chord"] ["setting", "chord"] (defScope s_round_of) := ⟨rfl, rfl, rfl, by decide +kernel, rfl, by decide +kernel, by decide +kernel⟩
theorem ok_round_of (T : Bn K mg) (G_need_setting : FnIs P w K mg base 3 "need_setting" ["thing"] c_need_setting) (G_round_in : FnIs P w K mg base 2 "round_in" ["setting", "chord"] c_round_in) (G_need_chord : FnIs P w K mg base 3 "need_chord" ["thing"] c_need_chord) (Fn : FunAt K mg "round_of" s_round_of ["setting", "chord"]) : FnIs P w K mg base 4 "round_of" ["setting", "chord"] c_round_of :=
  fn_is Fn sc_round_of (by rintro x ss n ⟨rfl, _⟩; rfl) (fun f cdv A outer s H E g hr => (s_cons (st_expr (e_call G_need_setting (hr.mono (by decide)) (by rfl) (a_cons (e_var 0) a_nil))) (s_one (st_ret (e_call G_round_in (hr.mono (by decide)) (by rfl) (a_cons (e_var 0) (a_cons (e_call G_need_chord (hr.mono (by decide)) (by rfl) (a_cons (e_var 1) a_nil)) a_nil))))))) h_round_of
abbrev s__law_by : Stmt := topS 27
theorem sc__law_by : FnScope ["_law_order", "_law_octaves", "_law_chord_here"] ["_law_order", "_law_octaves", "_law_chord_here"] (defScope s__law_by) := ⟨rfl, rfl, rfl, by decide +kernel, rfl, by decide +kernel, by decide +kernel⟩
theorem ok__law_by (T : Bn K mg) (G_round_of : FnIs P w K mg base 4 "round_of" ["setting", "chord"] c_round_of) (Fn : FunAt K mg "_law_by" s__law_by ["_law_order", "_law_octaves", "_law_chord_here"]) : FnIs P w K mg base 5 "_law_by" ["_law_order", "_law_octaves", "_law_chord_here"] c__law_by :=
  fn_is Fn sc__law_by (by rintro x ss n ⟨rfl, _⟩; rfl) (fun f cdv A outer s H E g hr => (s_one (st_ret (e_call G_round_of (hr.mono (by decide)) (by rfl) (a_cons (e_tup (a_cons (e_var 0) (a_cons (e_var 1) (a_cons e_str (a_cons e_str (a_cons e_bl a_nil)))))) (a_cons (e_var 2) a_nil)))))) h__law_by
abbrev s__law_right : Stmt := topS 28
theorem sc__law_right : FnScope ["_law_chord_here", "_law_octaves", "_law_up", "_law_down", "_law_bounce", "_law_outside", "_law_tones", "_law_key", "_law_row", "_law_order", "_law_less"] ["_law_chord_here", "_law_octaves"] (defScope s__law_right) := ⟨rfl, rfl, rfl, by decide +kernel, rfl, by decide +kernel, by decide +kernel⟩
theorem ok__law_right (T : Bn K mg) (G__law_by : FnIs P w K mg base 5 "_law_by" ["_law_order", "_law_octaves", "_law_chord_here"] c__law_by) (Fn : FunAt K mg "_law_right" s__law_right ["_law_chord_here", "_law_octaves"]) : FnIs P w K mg base 6 "_law_right" ["_law_chord_here", "_law_octaves"] c__law_right :=
  fn_is Fn sc__law_right (by rintro x ss n ⟨rfl, _⟩; rfl) (fun f cdv A outer s H E g hr => (s_cons (st_parDD 2 3 (e_call G__law_by (hr.mono (by decide)) (by rfl) (a_cons e_str (a_cons (e_var 1) (a_cons (e_var 0) a_nil)))) (e_call G__law_by (hr.mono (by decide)) (by rfl) (a_cons e_str (a_cons (e_var 1) (a_cons (e_var 0) a_nil)))) sc__law_right.nd) (s_cons (st_if (b_w (w_or (b_ne hr.units (e_var 2) (e_revT (e_var 3) o_none o_none)) (w_or1 (b_ne hr.units (e_call G__law_by (hr.mono (by decide)) (by rfl) (a_cons e_str (a_cons (e_var 1) (a_cons (e_var 0) a_nil)))) (e_add (e_var 2) (e_var 3)))))) (s_one (st_ret e_bl)) s_nil) (s_cons (st_parDD 4 5 (e_call G__law_by (hr.mono (by decide)) (by rfl) (a_cons e_str (a_cons (e_var 1) (a_cons (e_var 0) a_nil)))) (e_call G__law_by (hr.mono (by decide)) (by rfl) (a_cons e_str (a_cons (e_var 1) (a_cons (e_var 0) a_nil)))) sc__law_right.nd) (s_cons (st_if (b_w (w_or (b_ne hr.units (e_var 4) (e_add (e_var 2) (e_slice (e_var 3) (o_some e_int) (o_some (e_neg e_int))))) (w_or1 (b_ne hr.units (e_add (e_stepT (e_var 5) o_none o_none) (e_revT (e_stepT (e_var 5) (o_some e_int) o_none) o_none o_none)) (e_var 2))))) (s_one (st_ret e_bl)) s_nil) (s_cons (st_asg (e_add (e_add (e_l (l_list (by rfl) T.list (a_cons (e_var 0) a_nil))) (e_l (l_compIf [("_law_key", 7)] rfl sc__law_right.nd (i_tup (e_var 0)) (by kernel_rfl) (fun _ => (g_name 7 sc__law_right.nd)) (fun _ => (b_gt (e_var 1) e_int)) (fun _ => (e_add (e_var 7) e_int))))) (e_l (l_compIf [("_law_key", 7)] rfl sc__law_right.nd (i_tup (e_var 0)) (by kernel_rfl) (fun _ => (g_name 7 sc__law_right.nd)) (fun _ => (b_gt (e_var 1) e_int)) (fun _ => (e_add (e_var 7) e_int))))) (g_name 6 sc__law_right.nd)) (s_cons (st_asg (e_l (l_sorted (by rfl) T.sorted (a_cons (e_var 6) a_nil))) (g_name 6 sc__law_right.nd)) (s_cons (st_for rfl (i_tup (e_tup (a_cons (e_var 2) (a_cons (e_var 5) (a_cons (e_call G__law_by (hr.mono (by decide)) (by rfl) (a_cons e_str (a_cons (e_var 1) (a_cons (e_var 0) a_nil)))) a_nil))))) (g_name 8 sc__law_right.nd) (s_one (st_if (b_ne hr.units (e_l (l_sorted (by rfl) T.sorted (a_cons (e_var 8) a_nil))) (e_var 6)) (s_one (st_ret e_bl)) s_nil))) (s_cons (st_if (b_gt (e_var 1) e_int) (s_one (st_for rfl (i_tup (e_tup (a_cons e_str (a_cons e_str a_nil)))) (g_name 9 sc__law_right.nd) (s_cons (st_asg (e_call G__law_by (hr.mono (by decide)) (by rfl) (a_cons (e_var 9) (a_cons (e_sub (e_var 1) e_int) (a_cons (e_var 0) a_nil)))) (g_name 10 sc__law_right.nd)) (s_one (st_if (b_ne hr.units (e_slice (e_call G__law_by (hr.mono (by decide)) (by rfl) (a_cons (e_var 9) (a_cons (e_var 1) (a_cons (e_var 0) a_nil)))) o_none (o_some (e_len (by rfl) T.len (a_cons (e_var 10) a_nil)))) (e_var 10)) (s_one (st_ret e_bl)) s_nil))))) s_nil) (s_one (st_ret (e_and (e_eq hr.units (e_len (by rfl) T.len (a_cons (e_var 2) a_nil)) (e_mul (e_var 1) (e_len (by rfl) T.len (a_cons (e_var 0) a_nil)))) (e_one (e_eq hr.units (e_call G__law_by (hr.mono (by decide)) (by rfl) (a_cons e_str (a_cons e_int (a_cons (e_var 0) a_nil)))) (e_var 0))))))))))))))) h__law_right
abbrev s_law : Stmt := topS 29
theorem sc_law : FnScope ["_law_script", "_law_m", "_law_turn", "_law_chord_here", "_law_octaves"] ["_law_script"] (defScope s_law) := ⟨rfl, rfl, rfl, by decide +kernel, rfl, by decide +kernel, by decide +kernel⟩
theorem ok_law (T : Bn K mg) (Bg : BegunIs P w K mg base) (G__law_chord : FnIs P w K mg base 2 "_law_chord" ["_law_m", "_law_most", "_law_wide"] c__law_chord) (G__law_draw : FnIs P w K mg base 1 "_law_draw" ["_law_m", "_law_limit"] c__law_draw) (G__law_right : FnIs P w K mg base 6 "_law_right" ["_law_chord_here", "_law_octaves"] c__law_right) {f : Addr} {fd : FuncData} (F : Fun K "law" "law" s_law f fd) : FnOk P w K mg base CX0 7 f fd ["_law_script"] (spLaw K) := by
  obtain ⟨fb, fbd, Fo, hm, hk, hb⟩ := Bg
  refine F.ok sc_law (fun vs H Q E h => ?_) (fun cdv A outer s H vs Q E hr h => ?_)
  · obtain ⟨a, ns, rfl, _⟩ := h; rfl
  · obtain ⟨a, ns, rfl, hS, hl, q⟩ := h
    have hd : ∀ g, Sts (cxOf CX0 P w K mg base ["_law_script", "_law_m", "_law_turn", "_law_chord_here", "_law_octaves"] "law" (defScope s_law) f cdv A outer s H E).nox g (defBody s_law).tail t_law := fun g => (s_cons (st_for rfl (i_range1 (by rfl) T.range (a_cons (e_add e_int (e_min2 rfl (by rfl) T.min (a_cons e_int (a_cons (e_lenS 0 (by rfl) T.len) a_nil)))) a_nil)) (g_name 2 sc_law.nd) (s_cons (st_asg (e_call G__law_chord (hr.mono (by decide)) (by rfl) (a_m 1 (a_cons e_int (a_cons (e_sub1 (e_l (l_lst (a_cons e_int (a_cons e_int (a_cons e_int a_nil))))) (e_call G__law_draw (hr.mono (by decide)) (by rfl) (a_m 1 (a_cons e_int a_nil)))) a_nil)))) (g_name 3 sc_law.nd)) (s_one (st_for rfl (i_tup (e_tup (a_cons e_int (a_cons e_int (a_cons e_int a_nil))))) (g_name 4 sc_law.nd) (s_one (st_if (b_not (b_val (e_call G__law_right (hr.mono (by decide)) (by rfl) (a_cons (e_var 3) (a_cons (e_var 4) a_nil))))) (s_one (st_ret e_bl)) s_nil)))))) (s_one (st_ret e_bl)))
    obtain ⟨te, p2, q2⟩ := sts_any hd
    refine ⟨_, pss_cons (ps_set (i := 1) sc_law.nd rfl (.inl rfl) (pe_call Fo (hr.mono (by decide)) (by rfl) hm hk hb .nil pass0 (pa_cons (pv 0) pa_nil) (by decide) (by rfl) (by rfl))) p2, ?_⟩
    refine ⟨_, rfl, a, ns, rfl, hS, hl, fun m q' ks z H' h1 h2 h3 h4 h5 h6 h7 h8 => ?_⟩
    exact law_done q2 hS h2 h3 h4 h5 h6 h7 h8 (h_law ns.length hl) q
end
theorem all_mk {l : PySem.W.OpenLaw} {w : World} {K : PySem.W.Frag} {h : Heap} {mg : Str → Option Value} {fa : Addr} (X : K.In h) (G : h.Ns mainGlobals mg) (hfa : mg "law" = some (.ref fa)) (T : Bn K mg)
    (F__law_begun : FnFact K "_law_begun" s__law_begun)
    (F__law_draw : FnFact K "_law_draw" s__law_draw)
    (F__law_chord : FnFact K "_law_chord" s__law_chord)
    (F_is_word_of : FnFact K "is_word_of" s_is_word_of)
    (F_is_whole : FnFact K "is_whole" s_is_whole)
    (F_is_rhythm : FnFact K "is_rhythm" s_is_rhythm)
    (F_setting_fault : FnFact K "setting_fault" s_setting_fault)
    (F_need_setting : FnFact K "need_setting" s_need_setting)
    (F_tone_row : FnFact K "tone_row" s_tone_row)
    (F_from_outside : FnFact K "from_outside" s_from_outside)
    (F_round_in : FnFact K "round_in" s_round_in)
    (F_is_key : FnFact K "is_key" s_is_key)
    (F_need_chord : FnFact K "need_chord" s_need_chord)
    (F_round_of : FnFact K "round_of" s_round_of)
    (F__law_by : FnFact K "_law_by" s__law_by)
    (F__law_right : FnFact K "_law_right" s__law_right)
    (F_law : FnFact K "law" s_law) :
    ∃ fd : FuncData, (∀ (s : Shared) (v : Value), BindsTo s fd ⟨[v], []⟩ [("_law_script", v)]) ∧ ∀ base : Heap, K.In base → base.Ns mainGlobals mg → FnOk l.prog w K mg base CX0 7 fa fd ["_law_script"] (spLaw K) := by
  obtain ⟨f, oc, od, an, osl, kV, doc, pm, cdv, ct, a, ll, c, k⟩ := F_law.ok
  have e := hfa.symm.trans (PySem.W.mg_of X G a)
  cases e
  have A__law_begun := F__law_begun.at_ X G ["_law_script"] fun _ _ _ _ _ _ us hl => match us, hl with | [_], _ => rfl
  have A__law_draw := F__law_draw.at_ X G ["_law_m", "_law_limit"] fun _ _ _ _ _ _ us hl => match us, hl with | [_, _], _ => rfl
  have A__law_chord := F__law_chord.at_ X G ["_law_m", "_law_most", "_law_wide"] fun _ _ _ _ _ _ us hl => match us, hl with | [_, _, _], _ => rfl
  have A_is_word_of := F_is_word_of.at_ X G ["thing", "words"] fun _ _ _ _ _ _ us hl => match us, hl with | [_, _], _ => rfl
  have A_is_whole := F_is_whole.at_ X G ["thing", "least", "most"] fun _ _ _ _ _ _ us hl => match us, hl with | [_, _, _], _ => rfl
  have A_is_rhythm := F_is_rhythm.at_ X G ["thing"] fun _ _ _ _ _ _ us hl => match us, hl with | [_], _ => rfl
  have A_setting_fault := F_setting_fault.at_ X G ["thing"] fun _ _ _ _ _ _ us hl => match us, hl with | [_], _ => rfl
  have A_need_setting := F_need_setting.at_ X G ["thing"] fun _ _ _ _ _ _ us hl => match us, hl with | [_], _ => rfl
  have A_tone_row := F_tone_row.at_ X G ["setting", "chord"] fun _ _ _ _ _ _ us hl => match us, hl with | [_, _], _ => rfl
  have A_from_outside := F_from_outside.at_ X G ["row"] fun _ _ _ _ _ _ us hl => match us, hl with | [_], _ => rfl
  have A_round_in := F_round_in.at_ X G ["setting", "chord"] fun _ _ _ _ _ _ us hl => match us, hl with | [_, _], _ => rfl
  have A_is_key := F_is_key.at_ X G ["thing"] fun _ _ _ _ _ _ us hl => match us, hl with | [_], _ => rfl
  have A_need_chord := F_need_chord.at_ X G ["thing"] fun _ _ _ _ _ _ us hl => match us, hl with | [_], _ => rfl
  have A_round_of := F_round_of.at_ X G ["setting", "chord"] fun _ _ _ _ _ _ us hl => match us, hl with | [_, _], _ => rfl
  have A__law_by := F__law_by.at_ X G ["_law_order", "_law_octaves", "_law_chord_here"] fun _ _ _ _ _ _ us hl => match us, hl with | [_, _, _], _ => rfl
  have A__law_right := F__law_right.at_ X G ["_law_chord_here", "_law_octaves"] fun _ _ _ _ _ _ us hl => match us, hl with | [_, _], _ => rfl
  refine ⟨PySem.W.fnOf "law" "law" (defArgs s_law) (defBody s_law) (defScope s_law) .none kV doc pm an cdv ct, fun s v => .of_eq rfl, fun base _ _ => ?_⟩
  obtain ⟨fb, fbd, hF, hM, hB⟩ := A__law_begun
  have Bg : BegunIs l.prog w K mg base := ⟨fb, fbd, ok__law_begun T hF, hM, hF.kp, hB⟩
  have G__law_draw := ok__law_draw (P := l.prog) (w := w) (base := base) T A__law_draw
  have G__law_chord := ok__law_chord (P := l.prog) (w := w) (base := base) T G__law_draw A__law_chord
  have G_is_word_of := ok_is_word_of (P := l.prog) (w := w) (base := base) T A_is_word_of
  have G_is_whole := ok_is_whole (P := l.prog) (w := w) (base := base) T A_is_whole
  have G_is_rhythm := ok_is_rhythm (P := l.prog) (w := w) (base := base) T A_is_rhythm
  have G_setting_fault := ok_setting_fault (P := l.prog) (w := w) (base := base) T G_is_word_of G_is_whole G_is_rhythm A_setting_fault
  have G_need_setting := ok_need_setting (P := l.prog) (w := w) (base := base) T G_setting_fault A_need_setting
  have G_tone_row := ok_tone_row (P := l.prog) (w := w) (base := base) T A_tone_row
  have G_from_outside := ok_from_outside (P := l.prog) (w := w) (base := base) T A_from_outside
  have G_round_in := ok_round_in (P := l.prog) (w := w) (base := base) T G_tone_row G_from_outside A_round_in
  have G_is_key := ok_is_key (P := l.prog) (w := w) (base := base) T G_is_whole A_is_key
  have G_need_chord := ok_need_chord (P := l.prog) (w := w) (base := base) T G_is_key A_need_chord
  have G_round_of := ok_round_of (P := l.prog) (w := w) (base := base) T G_need_setting G_round_in G_need_chord A_round_of
  have G__law_by := ok__law_by (P := l.prog) (w := w) (base := base) T G_round_of A__law_by
  have G__law_right := ok__law_right (P := l.prog) (w := w) (base := base) T G__law_by A__law_right
  exact ok_law T Bg G__law_chord G__law_draw G__law_right (fun_mk ll c k)
end C
open PySem PySem.W PyProof.Rows
set_option maxRecDepth 100000 in
set_option maxHeartbeats 0 in
theorem PySem.Challenge.cw_chordsteps_k06_whole_rounds_beside_one_a_holds : PySem.Challenge.rw_chordsteps_k06_whole_rounds_beside_one_a.Holds := by
  w_on; o_law; k_head; (case hw => w_witness2)
  k_fill
  refine DL.law_walk (l := PySem.Challenge.rw_chordsteps_k06_whole_rounds_beside_one_a) 7 ⟨rfl, by decide, by decide⟩ rfl rfl (fun w h Y => PySem.W.kIn_of Y) ?F
  case F =>
    intro w mg fa h KX G hmg
    refine' C.all_mk KX G hmg ?T ?F__law_begun ?F__law_draw ?F__law_chord ?F_is_word_of ?F_is_whole ?F_is_rhythm ?F_setting_fault ?F_need_setting ?F_tone_row ?F_from_outside ?F_round_in ?F_is_key ?F_need_chord ?F_round_of ?F__law_by ?F__law_right ?F_law
    case T =>
      refine' C.Bn.mk ?all ?bool ?enumerate ?int ?isinstance ?len ?list ?min ?range ?sorted ?str ?tuple ?CHANGES ?LAST_KEY ?MOST_KEYS ?MOST_OCTAVES ?MOST_RHYTHM ?OCTAVE ?ORDERS
      (case all => refine PySem.W.mg_none_of KX G ?_; k_is)
      (case bool => refine PySem.W.mg_none_of KX G ?_; k_is)
      (case enumerate => refine PySem.W.mg_none_of KX G ?_; k_is)
      (case int => refine PySem.W.mg_none_of KX G ?_; k_is)
      (case isinstance => refine PySem.W.mg_none_of KX G ?_; k_is)
      (case len => refine PySem.W.mg_none_of KX G ?_; k_is)
      (case list => refine PySem.W.mg_none_of KX G ?_; k_is)
      (case min => refine PySem.W.mg_none_of KX G ?_; k_is)
      (case range => refine PySem.W.mg_none_of KX G ?_; k_is)
      (case sorted => refine PySem.W.mg_none_of KX G ?_; k_is)
      (case str => refine PySem.W.mg_none_of KX G ?_; k_is)
      (case tuple => refine PySem.W.mg_none_of KX G ?_; k_is)
      (case CHANGES => refine' DL.cst_strs ["stay", "again", "follow"] KX G ?e_CHANGES ?l_CHANGES ?h1_CHANGES ?h2_CHANGES ?h3_CHANGES ?h4_CHANGES; (case e_CHANGES => k_is); (case l_CHANGES => k_is); (case h1_CHANGES => rfl); (case h2_CHANGES => rfl); (case h3_CHANGES => decide); (case h4_CHANGES => rfl))
      (case LAST_KEY => refine' DL.cst_int KX G ?e_LAST_KEY; (case e_LAST_KEY => k_is))
      (case MOST_KEYS => refine' DL.cst_int KX G ?e_MOST_KEYS; (case e_MOST_KEYS => k_is))
      (case MOST_OCTAVES => refine' DL.cst_int KX G ?e_MOST_OCTAVES; (case e_MOST_OCTAVES => k_is))
      (case MOST_RHYTHM => refine' DL.cst_int KX G ?e_MOST_RHYTHM; (case e_MOST_RHYTHM => k_is))
      (case OCTAVE => refine' DL.cst_int KX G ?e_OCTAVE; (case e_OCTAVE => k_is))
      (case ORDERS => refine' DL.cst_strs ["up", "down", "bounce", "swing", "outside", "played"] KX G ?e_ORDERS ?l_ORDERS ?h1_ORDERS ?h2_ORDERS ?h3_ORDERS ?h4_ORDERS; (case e_ORDERS => k_is); (case l_ORDERS => k_is); (case h1_ORDERS => rfl); (case h2_ORDERS => rfl); (case h3_ORDERS => decide); (case h4_ORDERS => rfl))
    (case F__law_begun => refine' DL.fact_mk ?a__law_begun ?l__law_begun ?c__law_begun ?k__law_begun; (case a__law_begun => k_is); (case l__law_begun => k_is); (case c__law_begun => k_is); (case k__law_begun => k_is))
    (case F__law_draw => refine' DL.fact_mk ?a__law_draw ?l__law_draw ?c__law_draw ?k__law_draw; (case a__law_draw => k_is); (case l__law_draw => k_is); (case c__law_draw => k_is); (case k__law_draw => k_is))
    (case F__law_chord => refine' DL.fact_mk ?a__law_chord ?l__law_chord ?c__law_chord ?k__law_chord; (case a__law_chord => k_is); (case l__law_chord => k_is); (case c__law_chord => k_is); (case k__law_chord => k_is))
    (case F_is_word_of => refine' DL.fact_mk ?a_is_word_of ?l_is_word_of ?c_is_word_of ?k_is_word_of; (case a_is_word_of => k_is); (case l_is_word_of => k_is); (case c_is_word_of => k_is); (case k_is_word_of => k_is))
    (case F_is_whole => refine' DL.fact_mk ?a_is_whole ?l_is_whole ?c_is_whole ?k_is_whole; (case a_is_whole => k_is); (case l_is_whole => k_is); (case c_is_whole => k_is); (case k_is_whole => k_is))
    (case F_is_rhythm => refine' DL.fact_mk ?a_is_rhythm ?l_is_rhythm ?c_is_rhythm ?k_is_rhythm; (case a_is_rhythm => k_is); (case l_is_rhythm => k_is); (case c_is_rhythm => k_is); (case k_is_rhythm => k_is))
    (case F_setting_fault => refine' DL.fact_mk ?a_setting_fault ?l_setting_fault ?c_setting_fault ?k_setting_fault; (case a_setting_fault => k_is); (case l_setting_fault => k_is); (case c_setting_fault => k_is); (case k_setting_fault => k_is))
    (case F_need_setting => refine' DL.fact_mk ?a_need_setting ?l_need_setting ?c_need_setting ?k_need_setting; (case a_need_setting => k_is); (case l_need_setting => k_is); (case c_need_setting => k_is); (case k_need_setting => k_is))
    (case F_tone_row => refine' DL.fact_mk ?a_tone_row ?l_tone_row ?c_tone_row ?k_tone_row; (case a_tone_row => k_is); (case l_tone_row => k_is); (case c_tone_row => k_is); (case k_tone_row => k_is))
    (case F_from_outside => refine' DL.fact_mk ?a_from_outside ?l_from_outside ?c_from_outside ?k_from_outside; (case a_from_outside => k_is); (case l_from_outside => k_is); (case c_from_outside => k_is); (case k_from_outside => k_is))
    (case F_round_in => refine' DL.fact_mk ?a_round_in ?l_round_in ?c_round_in ?k_round_in; (case a_round_in => k_is); (case l_round_in => k_is); (case c_round_in => k_is); (case k_round_in => k_is))
    (case F_is_key => refine' DL.fact_mk ?a_is_key ?l_is_key ?c_is_key ?k_is_key; (case a_is_key => k_is); (case l_is_key => k_is); (case c_is_key => k_is); (case k_is_key => k_is))
    (case F_need_chord => refine' DL.fact_mk ?a_need_chord ?l_need_chord ?c_need_chord ?k_need_chord; (case a_need_chord => k_is); (case l_need_chord => k_is); (case c_need_chord => k_is); (case k_need_chord => k_is))
    (case F_round_of => refine' DL.fact_mk ?a_round_of ?l_round_of ?c_round_of ?k_round_of; (case a_round_of => k_is); (case l_round_of => k_is); (case c_round_of => k_is); (case k_round_of => k_is))
    (case F__law_by => refine' DL.fact_mk ?a__law_by ?l__law_by ?c__law_by ?k__law_by; (case a__law_by => k_is); (case l__law_by => k_is); (case c__law_by => k_is); (case k__law_by => k_is))
    (case F__law_right => refine' DL.fact_mk ?a__law_right ?l__law_right ?c__law_right ?k__law_right; (case a__law_right => k_is); (case l__law_right => k_is); (case c__law_right => k_is); (case k__law_right => k_is))
    (case F_law => refine' DL.fact_mk ?a_law ?l_law ?c_law ?k_law; (case a_law => k_is); (case l_law => k_is); (case c_law => k_is); (case k_law => k_is))

