import PyProof.Rows.All
import Wide.All
import OpenK.AllK
import Wide.FinOn
import HandS.ForMost
import HandS.Wide
import HandS.WideMore
import HandS.Gcd
import HandS.AnyAll
import HandS.IsInst
import HandS.SortInts
import HandS.Style
import HandS.TupAny
import HandS.Deep
import HandS.TupLe
import HandS.TupMul
import HandS.SetFor
import HandS.Strs
import HandS.More
import HandS.WordsDict
import HandS.TupLen
import HandS.Flt
import PyProof.GenQ
import HandS.GenOver
import HandS.EndTab
import HandS.EndOwn
import HandS.StrMore
import PyProof.StrLawsIn
import PyProof.ListStr
import PyProof.SliceStr2
import HandS.Codes
import PyProof.StrOps2
import HandS.RepeatKit
import HandS.Conv
import HandS.Zip
import KE.GoesMore
import KE.KUnpack
import HandS.SortRule
import PyProof.ListIndexNeg
import PyProof.Rows.SortShellAny
import HandS.Replace
import KE.GoesZip
import KE.SortData
import HandS.List
import KE.DataMinMax
import HandS.WideBits
import PySem.Challenge.RW_gearwright_k10_whole_figures_of_counters
set_option Elab.async false
set_option linter.all false
set_option maxRecDepth 100000
set_option maxHeartbeats 4000000
set_option autoImplicit false
namespace Pl
open PySem PySem.Spec PyProof.Rows L2
abbrev D := PyData

/-! ### data over a part of the heap: tuples stand in the part itself -/
def keyD : Key → D
  | .inl i => .int i
  | .inr x => .str x
mutual
inductive Dp (K : PySem.W.Frag) (H : Hp) : V → PyData → Prop
  | non : Dp K H .non .none
  | bl (b : Bool) : Dp K H (.bl b) (.bool b)
  | int (i : Int) : Dp K H (.int i) (.int i)
  | str (x : Str) : Dp K H (.str x) (.str x)
  | lst {a : Addr} {xs : List V} {ds : List PyData} : SqL K H a xs → DpAll K H xs ds → Dp K H (.ref a) (.list ds)
  | tup {a : Addr} {xs : List V} {ds : List PyData} : H a = some (.tup xs) → DpAll K H xs ds → Dp K H (.ref a) (.tuple ds)
  | dk {a : Addr} {ws : List (Key × V)} {kvs : List (Key × PyData)} : H a = some (.dK ws) → ws.map (·.1) = kvs.map (·.1) → DpAll K H (ws.map (·.2)) (kvs.map (·.2)) → Dp K H (.ref a) (.dict ((.int 0, .none) :: kvs.map fun p => (keyD p.1, p.2)))
  | dt {a : Addr} {ws : List (List Key × V)} {kvs : List (List Key × PyData)} : H a = some (.dT ws) → ws.map (·.1) = kvs.map (·.1) → DpAll K H (ws.map (·.2)) (kvs.map (·.2)) → Dp K H (.ref a) (.dict ((.int 1, .none) :: kvs.map fun p => (.tuple (p.1.map keyD), p.2)))
inductive DpAll (K : PySem.W.Frag) (H : Hp) : List V → List PyData → Prop
  | nil : DpAll K H [] []
  | cons {v : V} {vs : List V} {d : PyData} {ds : List PyData} : Dp K H v d → DpAll K H vs ds → DpAll K H (v :: vs) (d :: ds)
end
mutual
theorem Dp.kit {K : PySem.W.Frag} {F : Hp} : ∀ {v : V} {d : D}, Dp K F v d → d.canLay0 = true → L2.Dp K F v d
  | _, _, .non, _ => .non
  | _, _, .bl b, _ => .bl b
  | _, _, .int i, _ => .int i
  | _, _, .str x, _ => .str x
  | _, _, .lst hs ha, h => .lst hs (DpAll.kit ha (by simpa only [PyData.canLay0] using h))
  | _, _, .tup hs ha, h => .tup (.inl (.inl hs)) (DpAll.kit ha (by simpa only [PyData.canLay0] using h))
  | _, _, .dk _ _ _, h => by simp only [PyData.canLay0] at h; cases h
  | _, _, .dt _ _ _, h => by simp only [PyData.canLay0] at h; cases h
theorem DpAll.kit {K : PySem.W.Frag} {F : Hp} : ∀ {vs : List V} {ds : List D}, DpAll K F vs ds → PyData.canLayAll0 ds = true → L2.DpAll K F vs ds
  | _, _, .nil, _ => .nil
  | _, _, .cons h1 h2, h => by
    simp only [PyData.canLayAll0, Bool.and_eq_true] at h
    exact .cons (Dp.kit h1 h.1) (DpAll.kit h2 h.2)
end
/-! ### what stays: all but the tables of code objects, which may grow -/
def SmO : HO → Option HO → Prop
  | .tbl ps, y => ∃ qs : Array Value, y = some (.tbl qs) ∧ (TriplesOk ps.toList → TriplesOk qs.toList)
  | o, y => y = some o
def Same (H H' : Hp) : Prop := ∀ b o, H b = some o → SmO o (H' b)
theorem SmO.of {o : HO} {y : Option HO} (h : y = some o) : SmO o y := by
  cases o with
  | tbl ps => exact ⟨ps, h, id⟩
  | _ => exact h
theorem SmO.some {o : HO} {y : Option HO} (h : SmO o y) : ∃ u, y = some u := by
  cases o with
  | tbl ps => obtain ⟨qs, e, _⟩ := h; exact ⟨_, e⟩
  | _ => exact ⟨_, h⟩
theorem Same.refl (H : Hp) : Same H H := fun _ _ h => .of h
theorem Same.trans {H H1 H2 : Hp} (a : Same H H1) (b : Same H1 H2) : Same H H2 := fun c o h => by
  have h1 := a c o h
  cases o with
  | tbl ps =>
    obtain ⟨qs, e, k⟩ := h1
    obtain ⟨rs, e2, k2⟩ := b c _ e
    exact ⟨rs, e2, fun z => k2 (k z)⟩
  | _ => exact b c _ h1
theorem Same.free {H H' : Hp} (e : Same H H') {l : Addr} (h : H' l = Option.none) : H l = Option.none := by
  cases q : H l with
  | none => rfl
  | some o =>
    obtain ⟨u, z⟩ := (e l o q).some
    rw [h] at z; cases z
theorem Same.seq {K : PySem.W.Frag} {H H' : Hp} {a : Addr} {xs : List V} (e : Same H H') (h : SqL K H a xs) : SqL K H' a xs := by
  rcases h with (h | ⟨o, h⟩) | h
  · exact .inl (.inl (e _ _ h))
  · exact .inl (.inr ⟨o, e _ _ h⟩)
  · exact .inr h
/-! ### values over a part of the heap -/
theorem rd_mono {F F' : Hp} {a : Addr} {xs : List V} (e : Same F F') (h : Rd F a (.tup xs)) : Rd F' a (.tup xs) := by
  rcases h with h | ⟨o, h⟩
  · exact .inl (e _ _ h)
  · exact .inr ⟨o, e _ _ h⟩
theorem rd_monoL {F F' : Hp} {a : Addr} {xs : List V} (e : Same F F') (h : Rd F a (.lst xs)) : Rd F' a (.lst xs) := by
  rcases h with h | ⟨o, h⟩
  · exact .inl (e _ _ h)
  · exact .inr ⟨o, e _ _ h⟩
theorem sqT_mono {K : PySem.W.Frag} {F F' : Hp} {a : Addr} {xs : List V} (e : Same F F') (h : F a = some (.tup xs)) : SqT K F' a xs := .inl (.inl (e _ _ h))
theorem tp_mono {F F' : Hp} {a : Addr} {xs : List V} (e : Same F F') (h : F a = some (.tup xs)) : F' a = some (.tup xs) := e _ _ h
mutual
theorem dp_mono' {K : PySem.W.Frag} {F F' : Hp} (e : Same F F') : ∀ {v : V} {d : D}, Dp K F v d → Dp K F' v d
  | _, _, .non => .non
  | _, _, .bl b => .bl b
  | _, _, .int i => .int i
  | _, _, .str x => .str x
  | _, _, .lst hs ha => .lst (e.seq hs) (dpAll_mono' e ha)
  | _, _, .tup hs ha => .tup (tp_mono e hs) (dpAll_mono' e ha)
  | _, _, .dk hs hk ha => .dk (e _ _ hs) hk (dpAll_mono' e ha)
  | _, _, .dt hs hk ha => .dt (e _ _ hs) hk (dpAll_mono' e ha)
theorem dpAll_mono' {K : PySem.W.Frag} {F F' : Hp} (e : Same F F') : ∀ {vs : List V} {ds : List D}, DpAll K F vs ds → DpAll K F' vs ds
  | _, _, .nil => .nil
  | _, _, .cons h1 h2 => .cons (dp_mono' e h1) (dpAll_mono' e h2)
end
theorem dp_mono {K : PySem.W.Frag} {F F' : Hp} (e : Same F F') (d : D) (v : V) (h : Dp K F v d) : Dp K F' v d := dp_mono' e h
theorem dpAll_mono {K : PySem.W.Frag} {F F' : Hp} (e : Same F F') (ds : List D) (vs : List V) (h : DpAll K F vs ds) : DpAll K F' vs ds := dpAll_mono' e h
theorem dpAll_len {K : PySem.W.Frag} {F : Hp} : ∀ {ds : List D} {vs : List V}, DpAll K F vs ds → vs.length = ds.length
  | [], _, h => by cases h; rfl
  | d :: ds, _, h => by
    cases h with
    | cons h1 h2 => rw [List.length_cons, List.length_cons, dpAll_len h2]
theorem dpAll_get {K : PySem.W.Frag} {F : Hp} : ∀ {ds : List D} {vs : List V} {i : Nat} {v : V}, DpAll K F vs ds → vs[i]? = some v → ∃ d, ds[i]? = some d ∧ Dp K F v d
  | [], _, _, _, h, e => by cases h; simp at e
  | d :: ds, _, 0, v, h, e => by
    cases h with
    | cons h1 h2 =>
      simp at e; subst e
      exact ⟨d, rfl, h1⟩
  | d :: ds, _, i + 1, v, h, e => by
    cases h with
    | cons h1 h2 => exact dpAll_get (i := i) h2 (by simpa using e)
theorem dpAll_get' {K : PySem.W.Frag} {F : Hp} : ∀ {ds : List D} {vs : List V} {i : Nat} {d : D}, DpAll K F vs ds → ds[i]? = some d → ∃ v, vs[i]? = some v ∧ Dp K F v d
  | [], _, _, _, h, e => by simp at e
  | d :: ds, _, 0, v, h, e => by
    cases h with
    | cons h1 h2 =>
      simp at e; subst e
      exact ⟨_, rfl, h1⟩
  | d :: ds, _, i + 1, v, h, e => by
    cases h with
    | cons h1 h2 => exact dpAll_get' (i := i) h2 (by simpa using e)
theorem dpAll_append {K : PySem.W.Frag} {F : Hp} : ∀ {ds es : List D} {vs ws : List V}, DpAll K F vs ds → DpAll K F ws es → DpAll K F (vs ++ ws) (ds ++ es)
  | [], _, _, _, h, g => by cases h; exact g
  | d :: ds, _, _, _, h, g => by
    cases h with
    | cons h1 h2 => exact .cons h1 (dpAll_append h2 g)
theorem dpAll_take {K : PySem.W.Frag} {F : Hp} : ∀ (n : Nat) {ds : List D} {vs : List V}, DpAll K F vs ds → DpAll K F (vs.take n) (ds.take n)
  | 0, _, _, _ => by simp; exact .nil
  | n + 1, [], _, h => by cases h; exact .nil
  | n + 1, d :: ds, _, h => by
    cases h with
    | cons h1 h2 => exact .cons h1 (dpAll_take n h2)
theorem dpAll_drop {K : PySem.W.Frag} {F : Hp} : ∀ (n : Nat) {ds : List D} {vs : List V}, DpAll K F vs ds → DpAll K F (vs.drop n) (ds.drop n)
  | 0, _, _, h => by simpa using h
  | n + 1, [], _, h => by cases h; exact .nil
  | n + 1, d :: ds, _, h => by
    cases h with
    | cons h1 h2 => exact dpAll_drop n h2
theorem dpAll_set {K : PySem.W.Frag} {F : Hp} : ∀ (n : Nat) {ds : List D} {vs : List V} {v : V} {d : D}, DpAll K F vs ds → Dp K F v d → DpAll K F (vs.set n v) (ds.set n d)
  | _, [], _, _, _, h, _ => by cases h; exact .nil
  | 0, d :: ds, _, _, _, h, g => by
    cases h with
    | cons h1 h2 => exact .cons g h2
  | n + 1, d :: ds, _, _, _, h, g => by
    cases h with
    | cons h1 h2 => exact .cons h1 (dpAll_set n h2 g)
theorem dp_int {K : PySem.W.Frag} {F : Hp} {v : V} {i : Int} (h : Dp K F v (.int i)) : v = .int i := by cases h; rfl
theorem dp_bl {K : PySem.W.Frag} {F : Hp} {v : V} {b : Bool} (h : Dp K F v (.bool b)) : v = .bl b := by cases h; rfl
theorem dp_str {K : PySem.W.Frag} {F : Hp} {v : V} {x : Str} (h : Dp K F v (.str x)) : v = .str x := by cases h; rfl
theorem dp_non {K : PySem.W.Frag} {F : Hp} {v : V} (h : Dp K F v .none) : v = .non := by cases h; rfl
theorem dp_list {K : PySem.W.Frag} {F : Hp} {v : V} {ds : List D} (h : Dp K F v (.list ds)) : ∃ a vs, v = .ref a ∧ SqL K F a vs ∧ DpAll K F vs ds := by
  cases h with
  | lst h1 h2 => exact ⟨_, _, rfl, h1, h2⟩
theorem dp_tuple {K : PySem.W.Frag} {F : Hp} {v : V} {ds : List D} (h : Dp K F v (.tuple ds)) : ∃ a vs, v = .ref a ∧ F a = some (.tup vs) ∧ DpAll K F vs ds := by
  cases h with
  | tup h1 h2 => exact ⟨_, _, rfl, h1, h2⟩
theorem dpAll_ints {K : PySem.W.Frag} {F : Hp} : ∀ {ns : List Int} {vs : List V}, DpAll K F vs (ns.map PyData.int) → vs = ns.map V.int
  | [], _, h => by cases h; rfl
  | n :: ns, _, h => by
    cases h with
    | cons h1 h2 => rw [dp_int h1, dpAll_ints h2]; rfl
theorem dpAll_of_ints {K : PySem.W.Frag} {F : Hp} : ∀ (ns : List Int), DpAll K F (ns.map V.int) (ns.map PyData.int)
  | [] => .nil
  | n :: ns => .cons (.int n) (dpAll_of_ints ns)
theorem dpAll_strs {K : PySem.W.Frag} {F : Hp} : ∀ {ns : List Str} {vs : List V}, DpAll K F vs (ns.map PyData.str) → vs = ns.map V.str
  | [], _, h => by cases h; rfl
  | n :: ns, _, h => by
    cases h with
    | cons h1 h2 => rw [dp_str h1, dpAll_strs h2]; rfl
theorem dpAll_bls {K : PySem.W.Frag} {F : Hp} : ∀ {ns : List Bool} {vs : List V}, DpAll K F vs (ns.map PyData.bool) → vs = ns.map V.bl
  | [], _, h => by cases h; rfl
  | n :: ns, _, h => by
    cases h with
    | cons h1 h2 => rw [dp_bl h1, dpAll_bls h2]; rfl

/-! ### the heap grows -/
/-- no tuple is locked -/
def NoFrz (F : Hp) : Prop := ∀ a o xs, F a ≠ some (.frz o (.tup xs))
def notFrz : HO → Bool
  | .frz _ (.tup _) => false
  | _ => true
theorem NoFrz.upd {F : Hp} {p : Addr} {o : HO} (h : NoFrz F) (ho : notFrz o = true) : NoFrz (upd F p o) := fun a u xs e => by
  by_cases ha : a = p
  · subst ha
    rw [upd_same] at e
    have e' := Option.some.inj e
    rw [e'] at ho
    cases ho
  · rw [upd_ne ha] at e
    exact h a u xs e
structure Grow (F H F' H' : Hp) : Prop where
  f : Same F F'
  fh : Same F' H'
  h : Same H H'
  new : ∀ a, F a = none → F' a ≠ none → H a = none
  nf : NoFrz F → NoFrz F'
theorem Grow.refl {F H : Hp} (s : Same F H) : Grow F H F H := ⟨Same.refl _, s, Same.refl _, fun a h1 h2 => absurd h1 h2, id⟩
theorem Grow.trans {F H F1 H1 F2 H2 : Hp} (a : Grow F H F1 H1) (b : Grow F1 H1 F2 H2) : Grow F H F2 H2 := by
  refine ⟨a.f.trans b.f, b.fh, a.h.trans b.h, fun x h1 h2 => ?_, fun z => b.nf (a.nf z)⟩
  cases h : F1 x with
  | some o => exact a.new x h1 (by rw [h]; exact fun z => by cases z)
  | none => exact a.h.free (b.new x h h2)
theorem same_upd {H : Hp} {p : Addr} {o : HO} (h : H p = none) : Same H (upd H p o) := fun b x e => by
  rw [upd_ne (ne_of_none e h)]
  exact .of e
/-- a new object that is known to the part too -/
theorem Grow.new_ {F H : Hp} (s : Same F H) {p : Addr} {o : HO} (h : H p = none) (ho : notFrz o = true := by rfl) : Grow F H (upd F p o) (upd H p o) := by
  have hf : F p = none := s.free h
  refine ⟨same_upd hf, fun b x e => ?_, same_upd h, fun a h1 h2 => ?_, fun z => z.upd ho⟩
  · by_cases hb : b = p
    · subst hb; rw [upd_same] at e ⊢; exact .of e
    · rw [upd_ne hb] at e ⊢; exact s _ _ e
  · by_cases ha : a = p
    · subst ha; exact h
    · rw [upd_ne ha] at h2; exact absurd h1 h2
/-- a new object, left out of the part -/
theorem Grow.out {F H : Hp} (s : Same F H) {p : Addr} {o : HO} (h : H p = none) : Grow F H F (upd H p o) :=
  ⟨Same.refl _, s.trans (same_upd h), same_upd h, fun a h1 h2 => absurd h1 h2, id⟩

/-! ### slots -/
inductive Sl where
  | un
  | v (d : D)
  | l (ds : List D)
  | dk (kvs : List (Key × D))
  | dt (kvs : List (List Key × D))
def PairedD (K : PySem.W.Frag) (F : Hp) {κ : Type} : List (κ × V) → List (κ × D) → Prop := Paired fun (p : κ × V) (q : κ × D) => p.1 = q.1 ∧ Dp K F p.2 q.2
def ObOk (K : PySem.W.Frag) (F : Hp) : Sl → HO → Prop
  | .l ds, o => ∃ vs, o = .lst vs ∧ DpAll K F vs ds
  | .dk kvs, o => ∃ ws, o = .dK ws ∧ PairedD K F ws kvs
  | .dt kvs, o => ∃ ws, o = .dT ws ∧ PairedD K F ws kvs
  | _, _ => False
def Sl.own : Sl → Bool
  | .un => false
  | .v _ => false
  | _ => true
theorem pairedD_mono {K : PySem.W.Frag} {F F' : Hp} {κ : Type} {ws : List (κ × V)} {kvs : List (κ × D)} (e : Same F F') (h : PairedD K F ws kvs) : PairedD K F' ws kvs :=
  Paired.mapP h fun _ _ q => ⟨q.1, dp_mono e _ _ q.2⟩
theorem obOk_mono {K : PySem.W.Frag} {F F' : Hp} (e : Same F F') : ∀ {s : Sl} {o : HO}, ObOk K F s o → ObOk K F' s o
  | .l _, _, ⟨vs, h1, h2⟩ => ⟨vs, h1, dpAll_mono e _ _ h2⟩
  | .dk _, _, ⟨vs, h1, h2⟩ => ⟨vs, h1, pairedD_mono e h2⟩
  | .dt _, _, ⟨vs, h1, h2⟩ => ⟨vs, h1, pairedD_mono e h2⟩
  | .un, _, h => h.elim
  | .v _, _, h => h.elim
theorem obOk_keep {K : PySem.W.Frag} {F : Hp} : ∀ {s : Sl} {o : HO} {y : Option HO}, ObOk K F s o → SmO o y → y = some o
  | .l _, _, _, ⟨vs, h1, _⟩, k => by subst h1; exact k
  | .dk _, _, _, ⟨vs, h1, _⟩, k => by subst h1; exact k
  | .dt _, _, _, ⟨vs, h1, _⟩, k => by subst h1; exact k
  | .un, _, _, h, _ => h.elim
  | .v _, _, _, h, _ => h.elim
def SlOk (K : PySem.W.Frag) (G F H : Hp) (s : Sl) (x : Option V) : Prop :=
  match s with
  | .un => True
  | .v d => ∃ v, x = some v ∧ Dp K F v d
  | s => ∃ a o, x = some (.ref a) ∧ H a = some o ∧ F a = none ∧ G a = none ∧ ObOk K F s o
theorem slOk_own {K : PySem.W.Frag} {G F H : Hp} {s : Sl} {x : Option V} (hs : s.own = true) : SlOk K G F H s x ↔ ∃ a o, x = some (.ref a) ∧ H a = some o ∧ F a = none ∧ G a = none ∧ ObOk K F s o := by
  cases s with
  | un => cases hs
  | v d => cases hs
  | l ds => exact Iff.rfl
  | dk ds => exact Iff.rfl
  | dt ds => exact Iff.rfl
/-- the tables of code objects, as tracked -/
def TabF (T : Addr → Prop) (F : Hp) : Prop := NoFrz F ∧ ∀ P, T P → ∃ ps : Array Value, F P = some (.tbl ps) ∧ TriplesOk ps.toList
theorem TabF.mono {T : Addr → Prop} {F F' : Hp} (h : TabF T F) (e : Same F F') (n : NoFrz F → NoFrz F') : TabF T F' := ⟨n h.1, fun P hP => by
  obtain ⟨ps, a, b⟩ := h.2 P hP
  obtain ⟨qs, c, d⟩ := e P _ a
  exact ⟨qs, c, d b⟩⟩
/-- the state: G stands as it stood, F is the part that may be read, known from F0 on -/
structure SR (T : Addr → Prop) (K : PySem.W.Frag) (G F0 F H : Hp) (sp : List Sl) (σ : L2.St) : Prop where
  sf : Same F H
  f0 : Same F0 F
  g : Same G H
  fr : ∀ a, F0 a = none → F a ≠ none → G a = none
  len : sp.length = σ.length
  sl : ∀ (i : Nat) (s : Sl) (x : Option V), sp[i]? = some s → σ[i]? = some x → SlOk K G F H s x
  inj : ∀ (i j : Nat) (s t : Sl) (a : Addr), i ≠ j → sp[i]? = some s → sp[j]? = some t → s.own = true → t.own = true → σ[i]? = some (some (V.ref a)) → σ[j]? ≠ some (some (V.ref a))
  tab : TabF T F
theorem slOk_grow {K : PySem.W.Frag} {G F H F' H' : Hp} {s : Sl} {x : Option V} (g : Grow F H F' H') (h : SlOk K G F H s x) : SlOk K G F' H' s x := by
  cases e : s.own with
  | true =>
    rw [slOk_own e] at h ⊢
    obtain ⟨a, o, h1, h2, h3, h4, h5⟩ := h
    refine ⟨a, o, h1, obOk_keep h5 (g.h _ _ h2), ?_, h4, obOk_mono g.f h5⟩
    cases q : F' a with
    | none => rfl
    | some u =>
      have := g.new a h3 (by rw [q]; exact fun z => by cases z)
      rw [h2] at this; cases this
  | false =>
    cases s with
    | un => trivial
    | v d => obtain ⟨v, h1, h2⟩ := h; exact ⟨v, h1, dp_mono g.f _ _ h2⟩
    | l ds => cases e
    | dk ds => cases e
    | dt ds => cases e
theorem SR.grow {T : Addr → Prop} {K : PySem.W.Frag} {G F0 F H F' H' : Hp} {sp : List Sl} {σ : L2.St} (r : SR T K G F0 F H sp σ) (g : Grow F H F' H') : SR T K G F0 F' H' sp σ := by
  refine ⟨g.fh, r.f0.trans g.f, r.g.trans g.h, fun a h1 h2 => ?_, r.len, fun i s x h1 h2 => slOk_grow g (r.sl i s x h1 h2), r.inj, r.tab.mono g.f g.nf⟩
  cases q : F a with
  | some o => exact r.fr a h1 (by rw [q]; exact fun z => by cases z)
  | none => exact r.g.free (g.new a q h2)
/-- from a later part on -/
theorem SR.rebase {T : Addr → Prop} {K : PySem.W.Frag} {G F0 F1 F H : Hp} {sp : List Sl} {σ : L2.St} (r : SR T K G F0 F H sp σ) (h0 : Same F0 F1) (h1 : Same F1 F) : SR T K G F1 F H sp σ :=
  ⟨r.sf, h1, r.g, fun a q1 q2 => r.fr a (h0.free q1) q2, r.len, r.sl, r.inj, r.tab⟩
theorem SR.unbase {T : Addr → Prop} {K : PySem.W.Frag} {G F0 F1 F H : Hp} {sp : List Sl} {σ : L2.St} (r : SR T K G F1 F H sp σ) (h0 : Same F0 F1) (fr : ∀ a, F0 a = none → F1 a ≠ none → G a = none) : SR T K G F0 F H sp σ :=
  ⟨r.sf, h0.trans r.f0, r.g, fun a q1 q2 => by
    cases q : F1 a with
    | some o => exact fr a q1 (by rw [q]; exact fun z => by cases z)
    | none => exact r.fr a q q2, r.len, r.sl, r.inj, r.tab⟩
end Pl
set_option Elab.async false
set_option linter.all false
set_option maxRecDepth 100000
set_option maxHeartbeats 4000000
set_option autoImplicit false
namespace Pl
open PySem PySem.Spec PyProof.Rows L2
/-- a judgement, kept shut -/
structure Sealed (p : Prop) : Prop where of ::
  run : p
instance {p : Prop} : CoeFun (Sealed p) (fun _ => p) := ⟨Sealed.run⟩

/-- the module -/
structure Md where
  T : Addr → Prop
  P : Program
  w : World
  K : PySem.W.Frag
  mg : Str → Option Value
  base : Heap
/-- where a piece of a body stands -/
structure Cc where
  m : Md
  N : List Str
  sc : Scope
  fn : Str → Bool
  k : Nat
  tb : Bool
structure Cc.Has (c : Cc) (X : Cx) : Prop where
  prog : X.prog = c.m.P
  w : X.w = c.m.w
  K : X.K = c.m.K
  mg : X.mg = c.m.mg
  base : X.base = c.m.base
  N : X.N = c.N
  sc : X.env.scope = c.sc
  fn : X.fn = c.fn
  calm : X.calm = true
  room : Room c.k X.A
  xe : X.xe = fun _ _ => False
  tab : c.tb = true → ∃ cc P : Addr, X.env.code = .ref cc ∧ GxR.TabB c.m.base c.m.mg cc P ∧ c.m.T P
theorem Cc.Has.own {c : Cc} {X : Cx} (h : c.Has X) : PassesOwn (model X.prog X.w) X.A X.env X.xe := by
  rw [h.xe]; exact PassesOwn.never

/-! ### the readings that say what is wanted -/
def tE (X : Cx) (e : Expr) : TE := fun σ H Q => ∀ (pins : List (Addr × Obj)) (s : Shared), Inv X pins σ H s → wpAny (model X.prog X.w) X.A (eval e X.env) (EP X pins σ Q) X.xe s
def tT (X : Cx) (e : Expr) : TT := fun σ H Q => ∀ (pins : List (Addr × Obj)) (s : Shared), Inv X pins σ H s → wpAny (model X.prog X.w) X.A (isTrue e X.env (eval e X.env)) (TP X pins σ Q) X.xe s
def tW (X : Cx) (e : Expr) : TT := fun σ H Q => ∀ (whole : Sem Value) (pins : List (Addr × Obj)) (s : Shared), Inv X pins σ H s → wpAny (model X.prog X.w) X.A (isTrue e X.env whole) (TP X pins σ Q) X.xe s
def tA (X : Cx) (es : List Expr) : TA := fun σ H Q => ∀ (pos : Pos) (pins : List (Addr × Obj)) (s : Shared), Inv X pins σ H s → wpAny (model X.prog X.w) X.A (spliced (backTo pos (starEach es X.env))) (AP X pins σ Q) X.xe s
theorem pe_tE {X : Cx} {e : Expr} : PE X e (tE X e) := ⟨fun pins s σ H Q I h => h pins s I⟩
theorem pt_tT {X : Cx} {e : Expr} : PT X e (tT X e) := ⟨fun pins s σ H Q I h => h pins s I⟩
theorem pw_tW {X : Cx} {e : Expr} : PW X e (tW X e) := ⟨fun whole pins s σ H Q I h => h whole pins s I⟩
theorem pa_tA {X : Cx} {es : List Expr} : PA X es (tA X es) := ⟨fun pos pins s σ H Q I h => h pos pins s I⟩
theorem PE_tE {X : Cx} {e : Expr} {t : TE} {σ : L2.St} {H : Hp} {Q : VK} (h : PE X e t) (q : t σ H Q) : tE X e σ H Q := fun pins s I => h.run pins s σ H Q I q
theorem PT_tT {X : Cx} {e : Expr} {t : TT} {σ : L2.St} {H : Hp} {Q : Bool → Hp → Prop} (h : PT X e t) (q : t σ H Q) : tT X e σ H Q := fun pins s I => h.run pins s σ H Q I q
theorem PW_tW {X : Cx} {e : Expr} {t : TT} {σ : L2.St} {H : Hp} {Q : Bool → Hp → Prop} (h : PW X e t) (q : t σ H Q) : tW X e σ H Q := fun whole pins s I => h.run whole pins s σ H Q I q
theorem PA_tA {X : Cx} {es : List Expr} {t : TA} {σ : L2.St} {H : Hp} {Q : List V → Hp → Prop} (h : PA X es t) (q : t σ H Q) : tA X es σ H Q := fun pos pins s I => h.run pos pins s σ H Q I q

/-- an expression gives data d of which Q d holds -/
abbrev E (c : Cc) (e : Expr) (sp : List Sl) (Q : D → Prop) : Prop := Sealed (∀ (X : Cx), c.Has X → ∀ (G F0 F H : Hp) (σ : L2.St), SR c.m.T c.m.K G F0 F H sp σ → ∀ R : VK,
  (∀ d v F' H', Q d → Grow F H F' H' → Dp c.m.K F' v d → R v H') → tE X e σ H R)
abbrev T (c : Cc) (e : Expr) (sp : List Sl) (Q : Bool → Prop) : Prop := Sealed (∀ (X : Cx), c.Has X → ∀ (G F0 F H : Hp) (σ : L2.St), SR c.m.T c.m.K G F0 F H sp σ → ∀ R : Bool → Hp → Prop,
  (∀ b F' H', Q b → Grow F H F' H' → R b H') → tT X e σ H R)
abbrev Wt (c : Cc) (e : Expr) (sp : List Sl) (Q : Bool → Prop) : Prop := Sealed (∀ (X : Cx), c.Has X → ∀ (G F0 F H : Hp) (σ : L2.St), SR c.m.T c.m.K G F0 F H sp σ → ∀ R : Bool → Hp → Prop,
  (∀ b F' H', Q b → Grow F H F' H' → R b H') → tW X e σ H R)
abbrev A (c : Cc) (es : List Expr) (sp : List Sl) (Q : List D → Prop) : Prop := Sealed (∀ (X : Cx), c.Has X → ∀ (G F0 F H : Hp) (σ : L2.St), SR c.m.T c.m.K G F0 F H sp σ → ∀ R : List V → Hp → Prop,
  (∀ ds vs F' H', Q ds → Grow F H F' H' → DpAll c.m.K F' vs ds → R vs H') → tA X es σ H R)

section
variable {c : Cc} {sp : List Sl} {Q Q' : D → Prop} {e a b : Expr} {pos : Pos}
theorem E.mono (h : E c e sp Q) (hq : ∀ d, Q d → Q' d) : E c e sp Q' := Sealed.of fun X hX G F0 F H σ r R k => h X hX G F0 F H σ r R fun d v F' H' q => k d v F' H' (hq d q)
theorem T.mono {Q Q' : Bool → Prop} (h : T c e sp Q) (hq : ∀ d, Q d → Q' d) : T c e sp Q' := Sealed.of fun X hX G F0 F H σ r R k => h X hX G F0 F H σ r R fun d F' H' q => k d F' H' (hq d q)
/-- a constant -/
theorem E_c {v : V} {d : D} (hp : ∀ X : Cx, PE X e (tC v)) (hd : ∀ K F, Dp K F v d) (q : Q d) : E c e sp Q := Sealed.of fun X _ G F0 F H σ r R k =>
  PE_tE (hp X) (k d v F H q (Grow.refl r.sf) (hd _ _))
theorem E_int {i : Int} {j : Nat} (q : Q (.int i)) : E c (.Constant (.int i) j pos) sp Q := E_c (fun _ => pe_int) (fun _ _ => .int i) q
theorem E_bool {i : Bool} {j : Nat} (q : Q (.bool i)) : E c (.Constant (.bool i) j pos) sp Q := E_c (fun _ => pe_bl) (fun _ _ => .bl i) q
theorem E_none {j : Nat} (q : Q .none) : E c (.Constant .none j pos) sp Q := E_c (fun _ => pe_non) (fun _ _ => .non) q
theorem E_str {x : Str} {j : Nat} (q : Q (.str x)) : E c (.Constant (.str x) j pos) sp Q := E_c (fun _ => pe_str) (fun _ _ => .str x) q
/-- a name whose slot holds data -/
theorem E_var (i : Nat) {x : Str} {d : D} (q : Q d) (hs : sp[i]? = some (.v d) := by rfl) (hN : c.N[i]? = some x := by rfl) (hv : Vis c.sc x := by first | exact Or.inl rfl | exact Or.inr (Or.inl rfl) | exact Or.inr (Or.inr rfl))
    (hd : (x == ("__debug__" : Str)) = false := by decide) (hcd : (x == ("__classdict__" : Str)) = false := by decide) : E c (.Name x pos) sp Q := by
  refine Sealed.of ?_
  intro X hX G F0 F H σ r R k
  refine PE_tE (pe_var (i := i) (by rw [hX.N]; exact hN) (by rw [hX.sc]; exact hv) hd hcd) ?_
  cases hx : σ[i]? with
  | none =>
    have h1 := List.getElem?_eq_none_iff.mp hx
    have h2 := (List.getElem?_eq_some_iff.mp hs).1
    rw [r.len] at h2
    omega
  | some y =>
    obtain ⟨v, e1, e2⟩ := r.sl i _ y hs hx
    subst e1
    exact ⟨v, hx, k d v F H q (Grow.refl r.sf) e2⟩

/-! ### operators -/
def rS (X : Cx) (f : Value → Value → Sem Value) : R2 := fun x y H Q => ∀ (pins : List (Addr × Obj)) (s : Shared) (σ : L2.St) (v u : Value), Inv X pins σ H s → RelV x v → RelV y u → wpAny (model X.prog X.w) X.A (f v u) (EP X pins σ Q) X.xe s
theorem or_rS {X : Cx} {f : Value → Value → Sem Value} : OpR X f (rS X f) := fun pins s σ H x y v u Q I rx ry h => h pins s σ v u I rx ry
/-- f of the data d and g gives what Q holds of -/
def OpP (c : Cc) (f : Value → Value → Sem Value) (d g : D) (Q : D → Prop) : Prop := ∀ (X : Cx), c.Has X → ∀ (F H : Hp) (x y : V) (R : VK), Same F H → Dp c.m.K F x d → Dp c.m.K F y g →
  (∀ d' v F' H', Q d' → Grow F H F' H' → Dp c.m.K F' v d' → R v H') → rS X f x y H R
theorem OpP.of {f : Value → Value → Sem Value} {d g : D} (h : ∀ X : Cx, c.Has X → ∃ r : R2, OpR X f r ∧ ∀ (F H : Hp) (x y : V) (R : VK), Same F H → Dp c.m.K F x d → Dp c.m.K F y g → (∀ d' v F' H', Q d' → Grow F H F' H' → Dp c.m.K F' v d' → R v H') → r x y H R) :
    OpP c f d g Q := fun X hX F H x y R s h1 h2 k pins st σ v u I rx ry => by
  obtain ⟨r, ho, q⟩ := h X hX
  exact ho pins st σ H x y v u R I rx ry (q F H x y R s h1 h2 k)
theorem E_two {op : Value → Value → Sem Value} {X : Cx} (hX : c.Has X) {G F0 F H : Hp} {σ : L2.St} (r : SR c.m.T c.m.K G F0 F H sp σ) {R : VK} (k : ∀ d v F' H', Q d → Grow F H F' H' → Dp c.m.K F' v d → R v H')
    (h : E c a sp fun d => E c b sp fun g => OpP c op d g Q) : tOp (rS X op) (tE X a) (tE X b) σ H R := by
  refine h X hX G F0 F H σ r _ fun d v F1 H1 hb g1 d1 => ?_
  refine hb X hX G F0 F1 H1 σ (r.grow g1) _ fun g u F2 H2 ho g2 d2 => ?_
  exact ho X hX F2 H2 v u R g2.fh (dp_mono g2.f _ _ d1) d2 fun d' w F3 H3 q g3 d3 => k d' w F3 H3 q ((g1.trans g2).trans g3) d3
theorem E_bin {op : Operator} (h : E c a sp fun d => E c b sp fun g => OpP c (binaryOp op) d g Q) : E c (.BinOp a op b pos) sp Q := Sealed.of fun X hX G F0 F H σ r R k =>
  PE_tE (pe_op or_rS pe_tE pe_tE) (E_two hX r k h)
theorem E_cmp {op : CmpOp} (h : E c a sp fun d => E c b sp fun g => OpP c (compareOp op) d g Q) (hm : behindInMarks op b = false := by first | exact nomark _ | rfl) : E c (.Compare a [op] [b] pos) sp Q := Sealed.of fun X hX G F0 F H σ r R k =>
  PE_tE (pe_cmpR or_rS pe_tE pe_tE hm) (E_two hX r k h)
/-- a < b < x -/
theorem E_chain {op op' : CmpOp} {x : Expr} (h : E c a sp fun d => E c b sp fun g => OpP c (compareOp op) d g fun z => ∃ k, z = .bool k ∧ (if k = true then E c x sp fun y => OpP c (compareOp op') g y Q else Q (.bool false)))
    (hm : lastMarks [op, op'] [b, x] = false := by with_unfolding_all rfl) : E c (.Compare a [op, op'] [b, x] pos) sp Q := Sealed.of fun X hX G F0 F H σ r R k => by
  refine PE_tE (pe_chain or_rS or_rS pe_tE pe_tE pe_tE hm) ?_
  refine h X hX G F0 F H σ r _ fun d v F1 H1 hb g1 d1 => ?_
  refine hb X hX G F0 F1 H1 σ (r.grow g1) _ fun g u F2 H2 ho g2 d2 => ?_
  refine ho X hX F2 H2 v u _ g2.fh (dp_mono g2.f _ _ d1) d2 fun z w F3 H3 q g3 d3 => ?_
  obtain ⟨b', rfl, q⟩ := q
  cases d3
  refine ⟨b', rfl, ?_⟩
  cases b' with
  | false => exact k _ _ F3 H3 q ((g1.trans g2).trans g3) (.bl false)
  | true =>
    refine Sealed.run q X hX G F0 F3 H3 σ (((r.grow g1).grow g2).grow g3) _ fun y u' F4 H4 ho' g4 d4 => ?_
    exact ho' X hX F4 H4 u u' R g4.fh (dp_mono (g3.f.trans g4.f) _ _ d2) d4 fun d' w' F5 H5 q' g5 d5 => k d' w' F5 H5 q' ((((g1.trans g2).trans g3).trans g4).trans g5) d5

/-! operators by values -/
theorem opp_rI {f : Value → Value → Sem Value} {C : Int → Int → Prop} {g : Int → Int → V} {i j : Int} {z : D} (ho : ∀ X : Cx, OpR X f (rI C g)) (hz : ∀ K F, Dp K F (g i j) z) (hC : C i j) (q : Q z) : OpP c f (.int i) (.int j) Q :=
  .of fun X hX => ⟨_, ho X, fun F H x y R s h1 h2 k => ⟨i, j, dp_int h1, dp_int h2, hC, k z _ F H q (Grow.refl s) (hz _ _)⟩⟩
theorem opp_rI0 {f : Value → Value → Sem Value} {g : Int → Int → V} {i j : Int} {z : D} (ho : ∀ X : Cx, OpR X f (rI0 g)) (hz : ∀ K F, Dp K F (g i j) z) (q : Q z) : OpP c f (.int i) (.int j) Q :=
  .of fun X hX => ⟨_, ho X, fun F H x y R s h1 h2 k => ⟨i, j, dp_int h1, dp_int h2, k z _ F H q (Grow.refl s) (hz _ _)⟩⟩
theorem opp_add {i j : Int} (q : Q (.int (i + j))) : OpP c (binaryOp .Add) (.int i) (.int j) Q := opp_rI0 (fun _ => op_add) (fun _ _ => .int _) q
theorem opp_sub {i j : Int} (q : Q (.int (i - j))) : OpP c (binaryOp .Sub) (.int i) (.int j) Q := opp_rI0 (fun _ => op_sub) (fun _ _ => .int _) q
theorem opp_mul {i j : Int} (h : CMul i j) (q : Q (.int (i * j))) : OpP c (binaryOp .Mult) (.int i) (.int j) Q := opp_rI (fun _ => op_mul) (fun _ _ => .int _) h q
theorem opp_mulW {i j : Int} (h : CMulW i j) (q : Q (.int (i * j))) : OpP c (binaryOp .Mult) (.int i) (.int j) Q := opp_rI (fun _ => op_mulW) (fun _ _ => .int _) h q
theorem opp_mod {i j : Int} (h : 0 < j) (q : Q (.int (i % j))) : OpP c (binaryOp .Mod) (.int i) (.int j) Q := opp_rI (fun _ => op_mod) (fun _ _ => .int _) h q
theorem opp_div {i j : Int} (h : 0 < j ∧ j < 1073741824) (q : Q (.int (i / j))) : OpP c (binaryOp .FloorDiv) (.int i) (.int j) Q := opp_rI (fun _ => op_fdiv) (fun _ _ => .int _) h q
theorem opp_divW {i j : Int} (h : CDivW i j) (q : Q (.int (i / j))) : OpP c (binaryOp .FloorDiv) (.int i) (.int j) Q := opp_rI (fun _ => op_fdivW) (fun _ _ => .int _) h q
theorem opp_pow {i j : Int} (h : CPow i j) (q : Q (.int (i ^ j.toNat))) : OpP c (binaryOp .Pow) (.int i) (.int j) Q := opp_rI (fun _ => op_pow) (fun _ _ => .int _) h q
theorem opp_shl {i j : Int} (h : CPow i j) (q : Q (.int (i * 2 ^ j.toNat))) : OpP c (binaryOp .LShift) (.int i) (.int j) Q := opp_rI (fun _ => op_shl) (fun _ _ => .int _) h q
theorem opp_shr {i j : Int} (h : 0 ≤ j) (q : Q (.int (i / 2 ^ j.toNat))) : OpP c (binaryOp .RShift) (.int i) (.int j) Q := opp_rI (fun _ => op_shr) (fun _ _ => .int _) h q
theorem opp_lt {i j : Int} (q : Q (.bool (decide (i < j)))) : OpP c (compareOp .Lt) (.int i) (.int j) Q := opp_rI0 (fun _ => op_lt) (fun _ _ => .bl _) q
theorem opp_le {i j : Int} (q : Q (.bool (decide (i ≤ j)))) : OpP c (compareOp .LtE) (.int i) (.int j) Q := opp_rI0 (fun _ => op_le) (fun _ _ => .bl _) q
theorem opp_gt {i j : Int} (q : Q (.bool (decide (j < i)))) : OpP c (compareOp .Gt) (.int i) (.int j) Q := opp_rI0 (fun _ => op_gt) (fun _ _ => .bl _) q
theorem opp_ge {i j : Int} (q : Q (.bool (decide (j ≤ i)))) : OpP c (compareOp .GtE) (.int i) (.int j) Q := opp_rI0 (fun _ => op_ge) (fun _ _ => .bl _) q
/-- == and != of any data -/
theorem Cc.Has.u64 {X : Cx} (h : c.Has X) : X.A.units + 64 < cLine := h.room.units
theorem opp_eq {d g : D} (h1 : SeqAt.shaped d = true) (h2 : SeqAt.shaped g = true) (q : Q (.bool (PyData.eqv d g))) : OpP c (compareOp .Eq) d g Q :=
  .of fun X hX => ⟨_, op_eqD hX.u64, fun F H x y R s q1 q2 k => ⟨d, g, (dp_mono s _ _ (hX.K ▸ q1)).kit (SeqAt.canLay_of_shaped h1), (dp_mono s _ _ (hX.K ▸ q2)).kit (SeqAt.canLay_of_shaped h2), h1, h2, k _ _ F H q (Grow.refl s) (.bl _)⟩⟩
theorem opp_ne {d g : D} (h1 : SeqAt.shaped d = true) (h2 : SeqAt.shaped g = true) (q : Q (.bool (!PyData.eqv d g))) : OpP c (compareOp .NotEq) d g Q :=
  .of fun X hX => ⟨_, op_neD hX.u64, fun F H x y R s q1 q2 k => ⟨d, g, (dp_mono s _ _ (hX.K ▸ q1)).kit (SeqAt.canLay_of_shaped h1), (dp_mono s _ _ (hX.K ▸ q2)).kit (SeqAt.canLay_of_shaped h2), h1, h2, k _ _ F H q (Grow.refl s) (.bl _)⟩⟩
theorem opp_eqI {i j : Int} (q : Q (.bool (decide (i = j)))) : OpP c (compareOp .Eq) (.int i) (.int j) Q :=
  .of fun X hX => ⟨_, op_eq, fun F H x y R s q1 q2 k => by
    cases dp_int q1; cases dp_int q2
    refine ⟨rfl, ?_⟩
    have e : decide (V.int i = V.int j) = decide (i = j) := by
      by_cases h : i = j
      · subst h; simp
      · rw [decide_eq_false h, decide_eq_false fun z => h (V.int.inj z)]
    rw [e]
    exact k _ _ F H q (Grow.refl s) (.bl _)⟩
theorem opp_neI {i j : Int} (q : Q (.bool (!decide (i = j)))) : OpP c (compareOp .NotEq) (.int i) (.int j) Q :=
  .of fun X hX => ⟨_, op_ne, fun F H x y R s q1 q2 k => by
    cases dp_int q1; cases dp_int q2
    refine ⟨rfl, ?_⟩
    have e : decide (V.int i = V.int j) = decide (i = j) := by
      by_cases h : i = j
      · subst h; simp
      · rw [decide_eq_false h, decide_eq_false fun z => h (V.int.inj z)]
    rw [e]
    exact k _ _ F H q (Grow.refl s) (.bl _)⟩
theorem opp_eqS {i j : Str} (q : Q (.bool (decide (i = j)))) : OpP c (compareOp .Eq) (.str i) (.str j) Q :=
  .of fun X hX => ⟨_, op_eq, fun F H x y R s q1 q2 k => by
    cases dp_str q1; cases dp_str q2
    refine ⟨rfl, ?_⟩
    have e : decide (V.str i = V.str j) = decide (i = j) := by
      by_cases h : i = j
      · subst h; simp
      · rw [decide_eq_false h, decide_eq_false fun z => h (V.str.inj z)]
    rw [e]
    exact k _ _ F H q (Grow.refl s) (.bl _)⟩
theorem opp_neS {i j : Str} (q : Q (.bool (!decide (i = j)))) : OpP c (compareOp .NotEq) (.str i) (.str j) Q :=
  .of fun X hX => ⟨_, op_ne, fun F H x y R s q1 q2 k => by
    cases dp_str q1; cases dp_str q2
    refine ⟨rfl, ?_⟩
    have e : decide (V.str i = V.str j) = decide (i = j) := by
      by_cases h : i = j
      · subst h; simp
      · rw [decide_eq_false h, decide_eq_false fun z => h (V.str.inj z)]
    rw [e]
    exact k _ _ F H q (Grow.refl s) (.bl _)⟩
theorem opp_eqB {i j : Bool} (q : Q (.bool (i == j))) : OpP c (compareOp .Eq) (.bool i) (.bool j) Q :=
  .of fun X hX => ⟨_, op_eq, fun F H x y R s q1 q2 k => by
    cases dp_bl q1; cases dp_bl q2
    refine ⟨rfl, ?_⟩
    have e : decide (V.bl i = V.bl j) = (i == j) := by cases i <;> cases j <;> rfl
    rw [e]
    exact k _ _ F H q (Grow.refl s) (.bl _)⟩
theorem opp_neB {i j : Bool} (q : Q (.bool (i != j))) : OpP c (compareOp .NotEq) (.bool i) (.bool j) Q :=
  .of fun X hX => ⟨_, op_ne, fun F H x y R s q1 q2 k => by
    cases dp_bl q1; cases dp_bl q2
    refine ⟨rfl, ?_⟩
    have e : (!decide (V.bl i = V.bl j)) = (i != j) := by cases i <;> cases j <;> rfl
    rw [e]
    exact k _ _ F H q (Grow.refl s) (.bl _)⟩
def isNon : D → Bool
  | .none => true
  | _ => false
theorem dp_isNon {K : PySem.W.Frag} {F : Hp} {v : V} {d : D} (h : Dp K F v d) : decide (v = .non) = isNon d := by
  cases h <;> rfl
theorem opp_is {d : D} (q : Q (.bool (isNon d))) : OpP c (compareOp .Is) d .none Q :=
  .of fun X hX => ⟨_, op_isN, fun F H x y R s q1 q2 k => ⟨dp_non q2, by rw [dp_isNon q1]; exact k _ _ F H q (Grow.refl s) (.bl _)⟩⟩
theorem opp_isnot {d : D} (q : Q (.bool (!isNon d))) : OpP c (compareOp .IsNot) d .none Q :=
  .of fun X hX => ⟨_, op_notN, fun F H x y R s q1 q2 k => ⟨dp_non q2, by rw [dp_isNon q1]; exact k _ _ F H q (Grow.refl s) (.bl _)⟩⟩
theorem opp_catS {i j : Str} (h : i.length + j.length ≤ sizeLine) (q : Q (.str (i ++ j))) : OpP c (binaryOp .Add) (.str i) (.str j) Q :=
  .of fun X hX => ⟨_, op_add_str, fun F H x y R s q1 q2 k => ⟨i, j, dp_str q1, dp_str q2, h, k _ _ F H q (Grow.refl s) (.str _)⟩⟩
theorem opp_catT {xs ys : List D} (h0 : xs ≠ []) (h : xs.length + ys.length ≤ sizeLine) (q : Q (.tuple (xs ++ ys))) : OpP c (binaryOp .Add) (.tuple xs) (.tuple ys) Q :=
  .of fun X hX => ⟨_, op_catT, fun F H x y R s q1 q2 k => by
    obtain ⟨a, vs, rfl, h1, h2⟩ := dp_tuple q1
    obtain ⟨b, ws, rfl, h3, h4⟩ := dp_tuple q2
    rw [hX.K]
    have l1 := dpAll_len h2
    have l2 := dpAll_len h4
    refine ⟨a, b, vs, ws, rfl, rfl, sqT_mono s h1, sqT_mono s h3, ?_, by rw [l1, l2]; exact h, ?_⟩
    · intro z; subst z; apply h0; simpa using l1.symm
    · refine ⟨fun z => ?_, fun z p hp => ?_⟩
      · subst z
        have : ys = [] := by simpa using l2.symm
        subst this
        rw [List.append_nil] at q
        exact k _ _ F H q (Grow.refl s) (.tup h1 h2)
      · have g := Grow.new_ (o := .tup (vs ++ ws)) s hp
        exact k _ _ _ _ q g (.tup upd_same (dpAll_append (dpAll_mono g.f _ _ h2) (dpAll_mono g.f _ _ h4)))⟩
end
end Pl
set_option Elab.async false
set_option linter.all false
set_option maxRecDepth 100000
set_option maxHeartbeats 4000000
set_option autoImplicit false
namespace Pl
open PySem PySem.Spec PyProof.Rows L2
section
variable {c : Cc} {sp : List Sl} {Q Q' : D → Prop} {QT : Bool → Prop} {e a b : Expr} {es : List Expr} {pos p apos : Pos}
/-! ### tests -/
theorem T_val (h : E c e sp fun d => ∃ k, d = .bool k ∧ QT k) (he : ∀ env whole, isTrue e env whole = (do let v ← whole; standAt e.pos; holding [v] (truthy v)) := by intro _ _; rfl) : T c e sp QT := Sealed.of fun X hX G F0 F H σ r R k => by
  refine PT_tT (pt_val pe_tE fun w => he _ w) ?_
  refine h X hX G F0 F H σ r _ fun d v F' H' q g d1 => ?_
  obtain ⟨b, rfl, q⟩ := q
  cases d1
  exact ⟨b, rfl, k b F' H' q g⟩
/-- truth of data -/
def truD : D → Bool
  | .none => false
  | .bool b => b
  | .int i => i != 0
  | .str y => (y.length : Int) != 0
  | .list xs => !xs.isEmpty
  | .tuple xs => !xs.isEmpty
  | .dict _ => false
def truOk : D → Prop
  | .str y => y.length ≤ sizeLine
  | .dict _ => False
  | _ => True
theorem dpAll_isEmpty {K : PySem.W.Frag} {F : Hp} {ds : List D} {vs : List V} (h : DpAll K F vs ds) : vs.isEmpty = ds.isEmpty := by cases h <;> rfl
theorem T_tru (h : E c e sp fun d => truOk d ∧ QT (truD d)) (he : ∀ env whole, isTrue e env whole = (do let v ← whole; standAt e.pos; holding [v] (truthy v)) := by intro _ _; rfl) : T c e sp QT := Sealed.of fun X hX G F0 F H σ r R k => by
  refine PT_tT (pt_truth pe_tE fun w => he _ w) ?_
  refine h X hX G F0 F H σ r _ fun d v F' H' q g d1 => ?_
  refine ⟨truD d, ?_, k _ F' H' q.2 g⟩
  rw [hX.K]
  have q1 := q.1
  cases d1 with
  | non => rfl
  | bl b => rfl
  | int i => rfl
  | str x => exact ⟨q1, rfl⟩
  | lst h1 h2 => exact .inl ⟨_, g.fh.seq h1, by unfold truD; rw [dpAll_isEmpty h2]⟩
  | tup h1 h2 => exact .inr (.inl ⟨_, sqT_mono g.fh h1, by unfold truD; rw [dpAll_isEmpty h2]⟩)
  | dk h1 h2 h3 => exact q1.elim
  | dt h1 h2 h3 => exact q1.elim
theorem T_not (h : T c a sp fun k => QT (!k)) : T c (.UnaryOp .Not a pos) sp QT := Sealed.of fun X hX G F0 F H σ r R k => by
  refine PT_tT (pt_not pt_tT) ?_
  exact h X hX G F0 F H σ r _ fun b F' H' q g => k _ F' H' q g
theorem Wt_T (h : Wt c e sp QT) : T c e sp QT := Sealed.of fun X hX G F0 F H σ r R k => PT_tT pw_tW.pt (h X hX G F0 F H σ r R k)
theorem Wt_and1 (h : T c a sp QT) : Wt c (.BoolOp .And [a] pos) sp QT := Sealed.of fun X hX G F0 F H σ r R k => PW_tW (pw_and1 pt_tT) (h X hX G F0 F H σ r R k)
theorem Wt_or1 (h : T c a sp QT) : Wt c (.BoolOp .Or [a] pos) sp QT := Sealed.of fun X hX G F0 F H σ r R k => PW_tW (pw_or1 pt_tT) (h X hX G F0 F H σ r R k)
theorem Wt_and {rest : List Expr} (h : T c a sp fun k => if k = true then Wt c (.BoolOp .And (b :: rest) pos) sp QT else QT false) : Wt c (.BoolOp .And (a :: b :: rest) pos) sp QT := Sealed.of fun X hX G F0 F H σ r R k => by
  refine PW_tW (pw_and pt_tT pw_tW) ?_
  refine h X hX G F0 F H σ r _ fun z F1 H1 q g => ?_
  cases z with
  | true => exact Sealed.run q X hX G F0 F1 H1 σ (r.grow g) _ fun y F2 H2 q2 g2 => k y F2 H2 q2 (g.trans g2)
  | false => exact k _ F1 H1 q g
theorem Wt_or {rest : List Expr} (h : T c a sp fun k => if k = true then QT true else Wt c (.BoolOp .Or (b :: rest) pos) sp QT) : Wt c (.BoolOp .Or (a :: b :: rest) pos) sp QT := Sealed.of fun X hX G F0 F H σ r R k => by
  refine PW_tW (pw_or pt_tT pw_tW) ?_
  refine h X hX G F0 F H σ r _ fun z F1 H1 q g => ?_
  cases z with
  | false => exact Sealed.run q X hX G F0 F1 H1 σ (r.grow g) _ fun y F2 H2 q2 g2 => k y F2 H2 q2 (g.trans g2)
  | true => exact k _ F1 H1 q g
/-! as values -/
theorem E_one {op : BoolOp} (h : E c a sp Q) : E c (.BoolOp op [a] pos) sp Q := Sealed.of fun X hX G F0 F H σ r R k => PE_tE (pe_one pe_tE) (h X hX G F0 F H σ r R k)
theorem E_and {rest : List Expr} (h : E c a sp fun d => ∃ k, d = .bool k ∧ (if k = true then E c (.BoolOp .And (b :: rest) pos) sp Q else Q (.bool false))) : E c (.BoolOp .And (a :: b :: rest) pos) sp Q := Sealed.of fun X hX G F0 F H σ r R k => by
  refine PE_tE (pe_and pe_tE pe_tE) ?_
  refine h X hX G F0 F H σ r _ fun d v F1 H1 q g d1 => ?_
  obtain ⟨z, rfl, q⟩ := q
  cases d1
  refine ⟨z, rfl, ?_⟩
  cases z with
  | true => exact Sealed.run q X hX G F0 F1 H1 σ (r.grow g) _ fun y v F2 H2 q2 g2 d2 => k y v F2 H2 q2 (g.trans g2) d2
  | false => exact k _ _ F1 H1 q g (.bl false)
theorem E_or {rest : List Expr} (h : E c a sp fun d => ∃ k, d = .bool k ∧ (if k = true then Q (.bool true) else E c (.BoolOp .Or (b :: rest) pos) sp Q)) : E c (.BoolOp .Or (a :: b :: rest) pos) sp Q := Sealed.of fun X hX G F0 F H σ r R k => by
  refine PE_tE (pe_or pe_tE pe_tE) ?_
  refine h X hX G F0 F H σ r _ fun d v F1 H1 q g d1 => ?_
  obtain ⟨z, rfl, q⟩ := q
  cases d1
  refine ⟨z, rfl, ?_⟩
  cases z with
  | false => exact Sealed.run q X hX G F0 F1 H1 σ (r.grow g) _ fun y v F2 H2 q2 g2 d2 => k y v F2 H2 q2 (g.trans g2) d2
  | true => exact k _ _ F1 H1 q g (.bl true)
theorem E_not (h : E c a sp fun d => ∃ k, d = .bool k ∧ Q (.bool (!k))) : E c (.UnaryOp .Not a pos) sp Q := Sealed.of fun X hX G F0 F H σ r R k => by
  refine PE_tE (pe_not pe_tE) ?_
  refine h X hX G F0 F H σ r _ fun d v F1 H1 q g d1 => ?_
  obtain ⟨z, rfl, q⟩ := q
  cases d1
  exact ⟨z, rfl, k _ _ F1 H1 q g (.bl _)⟩
theorem E_neg (h : E c a sp fun d => ∃ i, d = .int i ∧ Q (.int (-i))) : E c (.UnaryOp .USub a pos) sp Q := Sealed.of fun X hX G F0 F H σ r R k => by
  refine PE_tE (pe_un un_neg pe_tE) ?_
  refine h X hX G F0 F H σ r _ fun d v F1 H1 q g d1 => ?_
  obtain ⟨z, rfl, q⟩ := q
  cases d1
  exact ⟨z, rfl, k _ _ F1 H1 q g (.int _)⟩
theorem E_if {t : Expr} (h : T c t sp fun k => if k = true then E c a sp Q else E c b sp Q) : E c (.IfExp t a b pos) sp Q := Sealed.of fun X hX G F0 F H σ r R k => by
  refine PE_tE (pe_ifExp pt_tT pe_tE pe_tE) ?_
  refine h X hX G F0 F H σ r _ fun z F1 H1 q g => ?_
  cases z with
  | true => exact Sealed.run q X hX G F0 F1 H1 σ (r.grow g) _ fun y v F2 H2 q2 g2 d2 => k y v F2 H2 q2 (g.trans g2) d2
  | false => exact Sealed.run q X hX G F0 F1 H1 σ (r.grow g) _ fun y v F2 H2 q2 g2 d2 => k y v F2 H2 q2 (g.trans g2) d2

/-! ### arguments, displays -/
theorem A_nil {QA : List D → Prop} (q : QA []) : A c [] sp QA := Sealed.of fun X hX G F0 F H σ r R k => PA_tA pa_nil (k _ _ F H q (Grow.refl r.sf) .nil)
theorem A_cons {QA : List D → Prop} (h : E c e sp fun d => A c es sp fun ds => QA (d :: ds)) (hs : ∀ env, starEach (e :: es) env = (false, eval e env) :: starEach es env := by intro _; rfl) : A c (e :: es) sp QA := Sealed.of fun X hX G F0 F H σ r R k => by
  refine PA_tA (pa_cons pe_tE pa_tA (hs _)) ?_
  refine h X hX G F0 F H σ r _ fun d v F1 H1 q g d1 => ?_
  exact Sealed.run q X hX G F0 F1 H1 σ (r.grow g) _ fun ds vs F2 H2 q2 g2 d2 => k _ _ F2 H2 q2 (g.trans g2) (.cons (dp_mono g2.f _ _ d1) d2)
theorem E_tup {ctx : Nat} (h : A c es sp fun ds => ds.length ≤ sizeLine ∧ Q (.tuple ds)) : E c (.Tuple es ctx pos) sp Q := Sealed.of fun X hX G F0 F H σ r R k => by
  refine PE_tE (pe_tup pa_tA) ?_
  refine h X hX G F0 F H σ r _ fun ds vs F1 H1 q g d1 => ?_
  refine ⟨by rw [dpAll_len d1]; exact q.1, fun p hp => ?_⟩
  have g2 := Grow.new_ (o := .tup vs) g.fh hp
  exact k _ _ _ _ q.2 (g.trans g2) (.tup upd_same (dpAll_mono g2.f _ _ d1))
theorem E_lst (h : A c es sp fun ds => ds.length ≤ sizeLine ∧ Q (.list ds)) : E c (.List es pos) sp Q := Sealed.of fun X hX G F0 F H σ r R k => by
  refine PE_tE (pe_lst pa_tA) ?_
  refine h X hX G F0 F H σ r _ fun ds vs F1 H1 q g d1 => ?_
  refine ⟨by rw [dpAll_len d1]; exact q.1, fun p hp => ?_⟩
  have g2 := Grow.new_ (o := .lst vs) g.fh hp
  exact k _ _ _ _ q.2 (g.trans g2) (.lst (.inl (.inl upd_same)) (dpAll_mono g2.f _ _ d1))

/-! ### a def of the module -/
def spOf (T : Addr → Prop) (K : PySem.W.Frag) (n : Nat) (S : List D → (D → Prop) → Prop) : L2.Sp := fun vs H Q _ => ∃ F ds, (Same F H ∧ TabF T F) ∧ DpAll K F vs ds ∧ vs.length = n ∧ S ds fun d => ∀ v F' H', Grow F H F' H' → Dp K F' v d → Q v H'
structure Fd (m : Md) (x : Str) (k n : Nat) (S : List D → (D → Prop) → Prop) : Prop where
  ex : ∃ f fd ps, FnOk m.P m.w m.K m.mg m.base CX0 k f fd ps (spOf m.T m.K n S) ∧ m.mg x = some (.ref f) ∧ PySem.W.keepIn m.K (.ref f) = true ∧ Binds m.K fd ps []
  mono : ∀ ds (Q Q' : D → Prop), (∀ d, Q d → Q' d) → S ds Q → S ds Q'
  len : ∀ ds (Q : D → Prop), S ds Q → ds.length = n
/-- a name of the module or a built-in -/
def GlS (sc : Scope) (x : Str) : Prop := sc.names.lookup x = some .globalImplicit
theorem GlS.gl {X : Cx} (hX : c.Has X) {x : Str} (h : GlS c.sc x) : Gl X x := by
  show X.env.scope.names.lookup x = _
  rw [hX.sc]; exact h
theorem E_call {x : Str} {k n : Nat} {S : List D → (D → Prop) → Prop} (Fn : Fd c.m x k n S) (hk : k ≤ c.k) (h : A c (e :: es) sp fun ds => S ds Q) (hg : GlS c.sc x := by rfl) (hdb : (x == ("__debug__" : Str)) = false := by decide)
    (he : ∀ env, starEach (e :: es) env = (false, eval e env) :: starEach es env := by intro _; rfl) (hpl : ∀ env, (backTo pos (starEach es env)).any (·.1) = false := by intro _; rfl) : E c (.Call (.Name x p) (e :: es) [] pos) sp Q := Sealed.of fun X hX G F0 F H σ r R kk => by
  obtain ⟨f, fd, ps, hf, hm, hkp, hb⟩ := Fn.ex
  refine PE_tE (pe_call (CX := CX0) (E := E0) (sp := spOf c.m.T c.m.K n S) (k := k) (f := f) (fd := fd) (ps := ps) (by rw [hX.prog, hX.w, hX.K, hX.mg, hX.base]; exact hf) (hX.room.mono hk) (hg.gl hX) (by rw [hX.mg]; exact hm) (by rw [hX.K]; exact hkp) (by rw [hX.K]; exact hb) .nil pass0 pa_tA hdb (he _) (hpl _)) ?_
  refine h X hX G F0 F H σ r _ fun ds vs F1 H1 q g d1 => ?_
  refine ⟨F1, ds, ⟨g.fh, r.tab.mono g.f g.nf⟩, by rw [List.append_nil]; exact d1, by rw [List.append_nil, dpAll_len d1]; exact Fn.len _ _ q, Fn.mono _ _ _ (fun d qd v F2 H2 g2 d2 => kk d v F2 H2 qd (g.trans g2) d2) q⟩

/-! ### a built-in by its name -/
def cS (X : Cx) (f : Value) : List V → Hp → VK → Prop := fun xs H Q => ∀ (pins : List (Addr × Obj)) (s : Shared) (σ : L2.St) (us : List Value), Inv X pins σ H s → Vals xs us → wpAny (model X.prog X.w) X.A (call f us) (EP X pins σ Q) X.xe s
theorem cr_cS {X : Cx} {f : Value} : CallR X f (cS X f) := fun pins s σ H xs us Q I r h => h pins s σ us I r
def CallP (c : Cc) (f : Value) (ds : List D) (Q : D → Prop) : Prop := ∀ (X : Cx), c.Has X → ∀ (F H : Hp) (xs : List V) (R : VK), Same F H → DpAll c.m.K F xs ds →
  (∀ d' v F' H', Q d' → Grow F H F' H' → Dp c.m.K F' v d' → R v H') → cS X f xs H R
theorem CallP.of {f : Value} {ds : List D} (h : ∀ X : Cx, c.Has X → ∃ r, CallR X f r ∧ ∀ (F H : Hp) (xs : List V) (R : VK), Same F H → DpAll c.m.K F xs ds → (∀ d' v F' H', Q d' → Grow F H F' H' → Dp c.m.K F' v d' → R v H') → r xs H R) :
    CallP c f ds Q := fun X hX F H xs R s h1 k pins st σ us I rx => by
  obtain ⟨r, ho, q⟩ := h X hX
  exact ho pins st σ H xs us R I rx (q F H xs R s h1 k)
theorem E_callB {x : Str} {id : String} (h : A c (e :: es) sp fun ds => CallP c (.builtin id) ds Q) (hm : c.m.mg x = none) (hv : bootBuiltins x = some (.builtin id)) (hg : GlS c.sc x := by rfl) (hn : x ≠ "__name__" := by decide) (hdb : (x == ("__debug__" : Str)) = false := by decide)
    (he : ∀ env, starEach (e :: es) env = (false, eval e env) :: starEach es env := by intro _; rfl) (hpl : ∀ env, (backTo pos (starEach es env)).any (·.1) = false := by intro _; rfl) : E c (.Call (.Name x p) (e :: es) [] pos) sp Q := Sealed.of fun X hX G F0 F H σ r R kk => by
  refine PE_tE (pe_callB cr_cS (hg.gl hX) (by rw [hX.mg]; exact hm) hv pa_tA hn hdb (he _) (hpl _)) ?_
  refine h X hX G F0 F H σ r _ fun ds vs F1 H1 q g d1 => ?_
  exact q X hX F1 H1 vs R g.fh d1 fun d v F2 H2 qd g2 d2 => kk d v F2 H2 qd (g.trans g2) d2
theorem E_callTy {x : Str} {id : String} (h : A c (e :: es) sp fun ds => CallP c (.type id) ds Q) (hm : c.m.mg x = none) (hv : bootBuiltins x = some (.type id)) (hg : GlS c.sc x := by rfl) (hn : x ≠ "__name__" := by decide) (hdb : (x == ("__debug__" : Str)) = false := by decide)
    (he : ∀ env, starEach (e :: es) env = (false, eval e env) :: starEach es env := by intro _; rfl) (hpl : ∀ env, (backTo pos (starEach es env)).any (·.1) = false := by intro _; rfl) : E c (.Call (.Name x p) (e :: es) [] pos) sp Q := Sealed.of fun X hX G F0 F H σ r R kk => by
  refine PE_tE (pe_callTy cr_cS (hg.gl hX) (by rw [hX.mg]; exact hm) hv pa_tA hn hdb (he _) (hpl _)) ?_
  refine h X hX G F0 F H σ r _ fun ds vs F1 H1 q g d1 => ?_
  exact q X hX F1 H1 vs R g.fh d1 fun d v F2 H2 qd g2 d2 => kk d v F2 H2 qd (g.trans g2) d2
/-- a name of the module that holds a built-in function (gcd) -/
theorem E_callF {x : Str} {id : String} (h : A c (e :: es) sp fun ds => CallP c (.builtin id) ds Q) (hm : c.m.mg x = some (.builtin id)) (hg : GlS c.sc x := by rfl) (hdb : (x == ("__debug__" : Str)) = false := by decide)
    (he : ∀ env, starEach (e :: es) env = (false, eval e env) :: starEach es env := by intro _; rfl) (hpl : ∀ env, (backTo pos (starEach es env)).any (·.1) = false := by intro _; rfl) : E c (.Call (.Name x p) (e :: es) [] pos) sp Q := Sealed.of fun X hX G F0 F H σ r R kk => by
  refine PE_tE (pe_callBfun cr_cS (hg.gl hX) (by rw [hX.mg]; exact hm) pa_tA hdb (he _) (hpl _)) ?_
  refine h X hX G F0 F H σ r _ fun ds vs F1 H1 q g d1 => ?_
  exact q X hX F1 H1 vs R g.fh d1 fun d v F2 H2 qd g2 d2 => kk d v F2 H2 qd (g.trans g2) d2
theorem dp1 {K : PySem.W.Frag} {F : Hp} {xs : List V} {d : D} (h : DpAll K F xs [d]) : ∃ v, xs = [v] ∧ Dp K F v d := by
  cases h with
  | cons h1 h2 => cases h2; exact ⟨_, rfl, h1⟩
theorem dp2 {K : PySem.W.Frag} {F : Hp} {xs : List V} {d g : D} (h : DpAll K F xs [d, g]) : ∃ v u, xs = [v, u] ∧ Dp K F v d ∧ Dp K F u g := by
  cases h with
  | cons h1 h2 => obtain ⟨u, rfl, h3⟩ := dp1 h2; exact ⟨_, _, rfl, h1, h3⟩
theorem cp_int {i : Int} (q : Q (.int i)) : CallP c (.type "int") [.int i] Q := .of fun X hX => ⟨_, call_int1, fun F H xs R s h k => by
  obtain ⟨v, rfl, z⟩ := dp1 h
  cases z
  exact .inl ⟨i, rfl, k _ _ F H q (Grow.refl s) (.int i)⟩⟩
theorem cp_abs {i : Int} (q : Q (.int (i.natAbs : Int))) : CallP c (.builtin "abs") [.int i] Q := .of fun X hX => ⟨_, call_abs, fun F H xs R s h k => by
  obtain ⟨v, rfl, z⟩ := dp1 h
  cases z
  refine ⟨i, rfl, k _ _ F H q (Grow.refl s) ?_⟩
  have e : (if i < 0 then -i else i) = (i.natAbs : Int) := by split <;> omega
  rw [e]
  exact .int _⟩
theorem cp_max {i j : Int} (q : Q (.int (max i j))) : CallP c (.builtin "max") [.int i, .int j] Q := .of fun X hX => ⟨_, call_max2 hX.calm, fun F H xs R s h k => by
  obtain ⟨v, u, rfl, z, z'⟩ := dp2 h
  cases z; cases z'
  refine ⟨i, j, rfl, k _ _ F H q (Grow.refl s) ?_⟩
  have e : (if j > i then j else i) = max i j := by split <;> omega
  rw [e]
  exact .int _⟩
theorem cp_min {i j : Int} (q : Q (.int (min i j))) : CallP c (.builtin "min") [.int i, .int j] Q := .of fun X hX => ⟨_, call_min2 hX.calm, fun F H xs R s h k => by
  obtain ⟨v, u, rfl, z, z'⟩ := dp2 h
  cases z; cases z'
  refine ⟨i, j, rfl, k _ _ F H q (Grow.refl s) ?_⟩
  have e : (if j < i then j else i) = min i j := by split <;> omega
  rw [e]
  exact .int _⟩
theorem cp_gcd {i j : Int} (q : Q (.int ((Nat.gcd i.natAbs j.natAbs : Nat) : Int))) : CallP c (.builtin "math.gcd") [.int i, .int j] Q := .of fun X hX => ⟨_, cr_gcd, fun F H xs R s h k => by
  obtain ⟨v, u, rfl, z, z'⟩ := dp2 h
  cases z; cases z'
  exact ⟨i, j, rfl, k _ _ F H q (Grow.refl s) (.int _)⟩⟩
theorem cp_lenL {ds : List D} (q : Q (.int ds.length)) : CallP c (.builtin "len") [.list ds] Q := .of fun X hX => ⟨_, call_len_seq, fun F H xs R s h k => by
  obtain ⟨v, rfl, z⟩ := dp1 h
  obtain ⟨a, vs, rfl, h1, h2⟩ := dp_list z
  rw [hX.K]
  exact ⟨a, vs, rfl, .inl (s.seq h1), by rw [dpAll_len h2]; exact k _ _ F H q (Grow.refl s) (.int _)⟩⟩
theorem cp_lenT {ds : List D} (q : Q (.int ds.length)) : CallP c (.builtin "len") [.tuple ds] Q := .of fun X hX => ⟨_, call_len_seq, fun F H xs R s h k => by
  obtain ⟨v, rfl, z⟩ := dp1 h
  obtain ⟨a, vs, rfl, h1, h2⟩ := dp_tuple z
  rw [hX.K]
  exact ⟨a, vs, rfl, .inr (sqT_mono s h1), by rw [dpAll_len h2]; exact k _ _ F H q (Grow.refl s) (.int _)⟩⟩
theorem cp_lenS {x : Str} (hl : x.length ≤ sizeLine) (q : Q (.int x.length)) : CallP c (.builtin "len") [.str x] Q := .of fun X hX => ⟨_, call_len_str, fun F H xs R s h k => by
  obtain ⟨v, rfl, z⟩ := dp1 h
  cases z
  exact ⟨x, rfl, hl, k _ _ F H q (Grow.refl s) (.int _)⟩⟩
theorem cp_tuple {ds : List D} (q : Q (.tuple ds)) : CallP c (.type "tuple") [.list ds] Q := .of fun X hX => ⟨_, call_tuple_of, fun F H xs R s h k => by
  obtain ⟨v, rfl, z⟩ := dp1 h
  obtain ⟨a, vs, rfl, h1, h2⟩ := dp_list z
  rw [hX.K]
  refine ⟨a, vs, rfl, .inl ⟨s.seq h1, fun l hl => ?_⟩⟩
  have g := Grow.new_ (o := .tup vs) s hl
  exact k _ _ _ _ q g (.tup upd_same (dpAll_mono g.f _ _ h2))⟩
theorem cp_tupleT {ds : List D} (q : Q (.tuple ds)) : CallP c (.type "tuple") [.tuple ds] Q := .of fun X hX => ⟨_, call_tuple_of, fun F H xs R s h k => by
  obtain ⟨v, rfl, z⟩ := dp1 h
  obtain ⟨a, vs, rfl, h1, h2⟩ := dp_tuple z
  rw [hX.K]
  exact ⟨a, vs, rfl, .inr ⟨sqT_mono s h1, k _ _ _ _ q (Grow.refl s) (.tup h1 h2)⟩⟩⟩
theorem cp_listL {ds : List D} (q : Q (.list ds)) : CallP c (.type "list") [.list ds] Q := .of fun X hX => ⟨_, call_list_of, fun F H xs R s h k => by
  obtain ⟨v, rfl, z⟩ := dp1 h
  obtain ⟨a, vs, rfl, h1, h2⟩ := dp_list z
  rw [hX.K]
  refine ⟨a, vs, rfl, .inl (s.seq h1), fun l hl => ?_⟩
  have g := Grow.new_ (o := .lst vs) s hl
  exact k _ _ _ _ q g (.lst (.inl (.inl upd_same)) (dpAll_mono g.f _ _ h2))⟩
theorem cp_listT {ds : List D} (q : Q (.list ds)) : CallP c (.type "list") [.tuple ds] Q := .of fun X hX => ⟨_, call_list_of, fun F H xs R s h k => by
  obtain ⟨v, rfl, z⟩ := dp1 h
  obtain ⟨a, vs, rfl, h1, h2⟩ := dp_tuple z
  rw [hX.K]
  refine ⟨a, vs, rfl, .inr (sqT_mono s h1), fun l hl => ?_⟩
  have g := Grow.new_ (o := .lst vs) s hl
  exact k _ _ _ _ q g (.lst (.inl (.inl upd_same)) (dpAll_mono g.f _ _ h2))⟩
theorem cp_sum {ns : List Int} (q : Q (.int ns.sum)) : CallP c (.builtin "sum") [.list (ns.map .int)] Q := .of fun X hX => ⟨_, cr_sum hX.calm, fun F H xs R s h k => by
  obtain ⟨v, rfl, z⟩ := dp1 h
  obtain ⟨a, vs, rfl, h1, h2⟩ := dp_list z
  cases dpAll_ints h2
  rw [hX.K]
  exact ⟨a, ns, rfl, s.seq h1, k _ _ F H q (Grow.refl s) (.int _)⟩⟩
theorem cp_all {bs : List Bool} (q : Q (.bool (bs.all id))) : CallP c (.builtin "all") [.list (bs.map .bool)] Q := .of fun X hX => ⟨_, cr_all hX.calm, fun F H xs R s h k => by
  obtain ⟨v, rfl, z⟩ := dp1 h
  obtain ⟨a, vs, rfl, h1, h2⟩ := dp_list z
  cases dpAll_bls h2
  rw [hX.K]
  exact ⟨a, bs, rfl, s.seq h1, k _ _ F H q (Grow.refl s) (.bl _)⟩⟩
theorem cp_any {bs : List Bool} (q : Q (.bool (bs.any id))) : CallP c (.builtin "any") [.list (bs.map .bool)] Q := .of fun X hX => ⟨_, cr_any hX.calm, fun F H xs R s h k => by
  obtain ⟨v, rfl, z⟩ := dp1 h
  obtain ⟨a, vs, rfl, h1, h2⟩ := dp_list z
  cases dpAll_bls h2
  rw [hX.K]
  exact ⟨a, bs, rfl, s.seq h1, k _ _ F H q (Grow.refl s) (.bl _)⟩⟩
theorem cp_maxL {ns : List Int} (h0 : 0 < ns.length) (q : ∀ m, m ∈ ns → (∀ y, y ∈ ns → y ≤ m) → Q (.int m)) : CallP c (.builtin "max") [.list (ns.map .int)] Q := .of fun X hX => ⟨_, cr_max hX.calm, fun F H xs R s h k => by
  obtain ⟨v, rfl, z⟩ := dp1 h
  obtain ⟨a, vs, rfl, h1, h2⟩ := dp_list z
  cases dpAll_ints h2
  rw [hX.K]
  exact ⟨a, ns, rfl, s.seq h1, h0, fun m hm hy => k _ _ F H (q m hm hy) (Grow.refl s) (.int _)⟩⟩
theorem cp_minL {ns : List Int} (h0 : 0 < ns.length) (q : ∀ m, m ∈ ns → (∀ y, y ∈ ns → m ≤ y) → Q (.int m)) : CallP c (.builtin "min") [.list (ns.map .int)] Q := .of fun X hX => ⟨_, cr_min hX.calm, fun F H xs R s h k => by
  obtain ⟨v, rfl, z⟩ := dp1 h
  obtain ⟨a, vs, rfl, h1, h2⟩ := dp_list z
  cases dpAll_ints h2
  rw [hX.K]
  exact ⟨a, ns, rfl, s.seq h1, h0, fun m hm hy => k _ _ F H (q m hm hy) (Grow.refl s) (.int _)⟩⟩
end
end Pl
set_option Elab.async false
set_option linter.all false
set_option maxRecDepth 100000
set_option maxHeartbeats 4000000
set_option autoImplicit false
namespace Pl
open PySem PySem.Spec PyProof.Rows L2

/-! ### statements -/
structure Pn where
  nx : List Sl → Prop
  rt : D → Prop
  bk : List Sl → Prop := fun _ => False
  ct : List Sl → Prop := fun _ => False
structure Kept (G F0 F H : Hp) : Prop where
  f0 : Same F0 F
  fh : Same F H
  g : Same G H
  fr : ∀ a, F0 a = none → F a ≠ none → G a = none
  nf : NoFrz F
theorem SR.kept {T : Addr → Prop} {K : PySem.W.Frag} {G F0 F H : Hp} {sp : List Sl} {σ : L2.St} (r : SR T K G F0 F H sp σ) : Kept G F0 F H := ⟨r.f0, r.sf, r.g, r.fr, r.tab.1⟩
theorem Kept.grow {G F0 F H F' H' : Hp} (r : Kept G F0 F H) (g : Grow F H F' H') : Kept G F0 F' H' := by
  refine ⟨r.f0.trans g.f, g.fh, r.g.trans g.h, fun a h1 h2 => ?_, g.nf r.nf⟩
  cases q : F a with
  | some o => exact r.fr a h1 (by rw [q]; exact fun z => by cases z)
  | none => exact r.g.free (g.new a q h2)
theorem Kept.unbase {G F0 F1 F H : Hp} (r : Kept G F1 F H) (h0 : Same F0 F1) (fr : ∀ a, F0 a = none → F1 a ≠ none → G a = none) : Kept G F0 F H :=
  ⟨h0.trans r.f0, r.fh, r.g, fun a q1 q2 => by
    cases q : F1 a with
    | some o => exact fr a q1 (by rw [q]; exact fun z => by cases z)
    | none => exact r.fr a q q2, r.nf⟩
structure EndsOk (T : Addr → Prop) (K : PySem.W.Frag) (G F0 : Hp) (P : Pn) (D0 : Ends) : Prop where
  nx : ∀ (sp : List Sl) (F H : Hp) (σ : L2.St), P.nx sp → SR T K G F0 F H sp σ → D0.nx σ H
  rt : ∀ (d : D) (v : V) (F H : Hp), P.rt d → Kept G F0 F H → Dp K F v d → D0.rt v H
  bk : ∀ (sp : List Sl) (F H : Hp) (σ : L2.St), P.bk sp → SR T K G F0 F H sp σ → D0.bk σ H
  ct : ∀ (sp : List Sl) (F H : Hp) (σ : L2.St), P.ct sp → SR T K G F0 F H sp σ → D0.ct σ H
def tSs (X : Cx) (ss : List Stmt) : TS := fun D0 σ H => ∀ (pins : List (Addr × Obj)) (s : Shared), Inv X pins σ H s → wpAny (model X.prog X.w) X.A (execs ss X.env) (SP X pins D0) X.xe s
def tS1 (X : Cx) (st : Stmt) : TS := fun D0 σ H => ∀ (pins : List (Addr × Obj)) (s : Shared), Inv X pins σ H s → wpAny (model X.prog X.w) X.A (exec st X.env) (SP X pins D0) X.xe s
theorem pss_t {X : Cx} {ss : List Stmt} : PSs X ss (tSs X ss) := ⟨fun pins s σ H D0 I h => h pins s I⟩
theorem ps_t {X : Cx} {st : Stmt} : PS X st (tS1 X st) := ⟨fun pins s σ H D0 I h => h pins s I⟩
theorem PSs_t {X : Cx} {ss : List Stmt} {t : TS} {D0 : Ends} {σ : L2.St} {H : Hp} (h : PSs X ss t) (q : t D0 σ H) : tSs X ss D0 σ H := fun pins s I => h.run pins s σ H D0 I q
theorem PS_t {X : Cx} {st : Stmt} {t : TS} {D0 : Ends} {σ : L2.St} {H : Hp} (h : PS X st t) (q : t D0 σ H) : tS1 X st D0 σ H := fun pins s I => h.run pins s σ H D0 I q
abbrev S (c : Cc) (ss : List Stmt) (sp : List Sl) (P : Pn) : Prop := Sealed (∀ (X : Cx), c.Has X → ∀ (G F0 F H : Hp) (σ : L2.St), SR c.m.T c.m.K G F0 F H sp σ → ∀ D0 : Ends, EndsOk c.m.T c.m.K G F0 P D0 → tSs X ss D0 σ H)
abbrev S1 (c : Cc) (st : Stmt) (sp : List Sl) (P : Pn) : Prop := Sealed (∀ (X : Cx), c.Has X → ∀ (G F0 F H : Hp) (σ : L2.St), SR c.m.T c.m.K G F0 F H sp σ → ∀ D0 : Ends, EndsOk c.m.T c.m.K G F0 P D0 → tS1 X st D0 σ H)

section
variable {c : Cc} {sp : List Sl} {P P' : Pn} {Q : D → Prop} {e a b : Expr} {st : Stmt} {rest ss : List Stmt} {pos p apos : Pos}
theorem S_nil (h : P.nx sp) : S c [] sp P := Sealed.of fun X hX G F0 F H σ r D0 k => PSs_t pss_nil (k.nx sp F H σ h r)
theorem S_cons (h : S1 c st sp { P with nx := fun sp' => S c rest sp' P }) : S c (st :: rest) sp P := Sealed.of fun X hX G F0 F H σ r D0 k =>
  PSs_t (pss_cons ps_t pss_t) (h X hX G F0 F H σ r _ ⟨fun sp' F' H' σ' q r' => q X hX G F0 F' H' σ' r' D0 k, k.rt, k.bk, k.ct⟩)
/-- with a word in between -/
theorem S_mid (M : List Sl → Prop) (h : S1 c st sp { P with nx := M }) (h2 : ∀ sp', M sp' → S c rest sp' P) : S c (st :: rest) sp P :=
  S_cons <| Sealed.of fun X hX G F0 F H σ r D0 k => h X hX G F0 F H σ r D0 ⟨fun sp' F' H' σ' q r' => k.nx sp' F' H' σ' (h2 sp' q) r', k.rt, k.bk, k.ct⟩
theorem EndsOk.mono {T : Addr → Prop} {K : PySem.W.Frag} {G F0 : Hp} {D0 : Ends} (k : EndsOk T K G F0 P' D0) (h1 : ∀ sp, P.nx sp → P'.nx sp) (h2 : ∀ d, P.rt d → P'.rt d) (h3 : ∀ sp, P.bk sp → P'.bk sp) (h4 : ∀ sp, P.ct sp → P'.ct sp) : EndsOk T K G F0 P D0 :=
  ⟨fun sp F H σ q => k.nx sp F H σ (h1 sp q), fun d v F H q => k.rt d v F H (h2 d q), fun sp F H σ q => k.bk sp F H σ (h3 sp q), fun sp F H σ q => k.ct sp F H σ (h4 sp q)⟩
theorem S.mono (h : S c ss sp P) (h1 : ∀ sp, P.nx sp → P'.nx sp) (h2 : ∀ d, P.rt d → P'.rt d) (h3 : ∀ sp, P.bk sp → P'.bk sp) (h4 : ∀ sp, P.ct sp → P'.ct sp) : S c ss sp P' :=
  Sealed.of fun X hX G F0 F H σ r D0 k => h X hX G F0 F H σ r D0 (k.mono h1 h2 h3 h4)

/-! ### slots -/
theorem getElem_set {α : Type} {xs : List α} {i j : Nat} {y z : α} (h : (xs.set i y)[j]? = some z) : (i = j ∧ z = y ∧ i < xs.length) ∨ (i ≠ j ∧ xs[j]? = some z) := by
  by_cases e : i = j
  · subst e
    by_cases hl : i < xs.length
    · rw [List.getElem?_set_self hl] at h
      exact .inl ⟨rfl, (Option.some.inj h).symm, hl⟩
    · rw [List.getElem?_eq_none (by simpa using hl)] at h; cases h
  · rw [List.getElem?_set_ne e] at h
    exact .inr ⟨e, h⟩
theorem SR.set_v {T : Addr → Prop} {K : PySem.W.Frag} {G F0 F H : Hp} {σ : L2.St} (r : SR T K G F0 F H sp σ) (i : Nat) {d : D} {v : V} (h : Dp K F v d) : SR T K G F0 F H (sp.set i (.v d)) (σ.set i (some v)) := by
  refine ⟨r.sf, r.f0, r.g, r.fr, by rw [List.length_set, List.length_set, r.len], fun j s x h1 h2 => ?_, fun j k s t a hjk h1 h2 hs ht h3 h4 => ?_, r.tab⟩
  · rcases getElem_set h1 with ⟨e, es, hl⟩ | ⟨e, h1⟩
    · subst e; subst es
      rw [List.getElem?_set_self (by rw [← r.len]; exact hl)] at h2
      cases h2
      exact ⟨v, rfl, h⟩
    · rw [List.getElem?_set_ne e] at h2
      exact r.sl j s x h1 h2
  · rcases getElem_set h1 with ⟨e, es, _⟩ | ⟨e, h1⟩
    · subst es; cases hs
    · rcases getElem_set h2 with ⟨e', es, _⟩ | ⟨e', h2⟩
      · subst es; cases ht
      · rw [List.getElem?_set_ne e] at h3
        rw [List.getElem?_set_ne e'] at h4
        exact r.inj j k s t a hjk h1 h2 hs ht h3 h4
/-- a slot gets an object of its own -/
theorem SR.set_o {T : Addr → Prop} {K : PySem.W.Frag} {G F0 F H : Hp} {σ : L2.St} (r : SR T K G F0 F H sp σ) (i : Nat) {s : Sl} {a : Addr} {o : HO} (h : H a = some o) (hF : F a = none) (hG : G a = none) (ho : ObOk K F s o) (hs : s.own = true)
    (hn : ∀ (j : Nat) (t : Sl), i ≠ j → sp[j]? = some t → t.own = true → σ[j]? ≠ some (some (V.ref a))) : SR T K G F0 F H (sp.set i s) (σ.set i (some (.ref a))) := by
  refine ⟨r.sf, r.f0, r.g, r.fr, by rw [List.length_set, List.length_set, r.len], fun j t x h1 h2 => ?_, fun j k t u b hjk h1 h2 ht hu h3 h4 => ?_, r.tab⟩
  · rcases getElem_set h1 with ⟨e, es, hl⟩ | ⟨e, h1⟩
    · subst e; subst es
      rw [List.getElem?_set_self (by rw [← r.len]; exact hl)] at h2
      cases h2
      exact (slOk_own hs).mpr ⟨a, o, rfl, h, hF, hG, ho⟩
    · rw [List.getElem?_set_ne e] at h2
      exact r.sl j t x h1 h2
  · rcases getElem_set h3 with ⟨e, ex, _⟩ | ⟨e, h3'⟩
    · rcases getElem_set h4 with ⟨e', _, _⟩ | ⟨e', h4'⟩
      · exact hjk (e.symm.trans e')
      · have eb : b = a := by
          have := Option.some.inj ex
          exact V.ref.inj this
        subst eb
        rw [List.getElem?_set_ne e'] at h2
        exact hn k u e' h2 hu h4'
    · rw [List.getElem?_set_ne e] at h1
      rcases getElem_set h4 with ⟨e', ex, _⟩ | ⟨e', h4'⟩
      · have eb : b = a := by
          have := Option.some.inj ex
          exact V.ref.inj this
        subst eb
        exact hn j t e h1 ht h3'
      · rw [List.getElem?_set_ne e'] at h2
        exact r.inj j k t u b hjk h1 h2 ht hu h3' h4'
/-- a new object goes to a slot -/
theorem SR.set_new {T : Addr → Prop} {K : PySem.W.Frag} {G F0 F H : Hp} {σ : L2.St} (r : SR T K G F0 F H sp σ) (i : Nat) {s : Sl} {a : Addr} {o : HO} {F' H' : Hp} (g : Grow F H F' H') (hn : H a = none) (h : H' a = some o) (hF : F' a = none) (ho : ObOk K F' s o) (hs : s.own = true) :
    SR T K G F0 F' H' (sp.set i s) (σ.set i (some (.ref a))) := by
  refine (r.grow g).set_o i h hF (r.g.free hn) ho hs fun j t hj h1 ht h2 => ?_
  obtain ⟨b, o', e1, e2, _⟩ := (slOk_own ht).mp (r.sl j t _ h1 h2)
  cases e1
  rw [hn] at e2; cases e2
/-- a slot's own object changes -/
theorem SR.upd_o {T : Addr → Prop} {K : PySem.W.Frag} {G F0 F H : Hp} {σ : L2.St} (r : SR T K G F0 F H sp σ) (i : Nat) {s s' : Sl} {a : Addr} {o : HO} (h1 : sp[i]? = some s) (hs : s.own = true) (h2 : σ[i]? = some (some (.ref a))) (ho : ObOk K F s' o) (hs' : s'.own = true) :
    SR T K G F0 F (upd H a o) (sp.set i s') σ := by
  obtain ⟨b, o0, eb, e2, e3, e4, _⟩ := (slOk_own hs).mp (r.sl i s _ h1 h2)
  cases eb
  have hlen : i < σ.length := (List.getElem?_eq_some_iff.mp h2).1
  have hself : σ.set i (some (.ref a)) = σ := by
    apply List.ext_getElem?
    intro j
    by_cases e : i = j
    · subst e; rw [List.getElem?_set_self hlen, h2]
    · rw [List.getElem?_set_ne e]
  have hFu : Same F (upd H a o) := fun x u e => by
    rw [upd_ne (ne_of_none e e3)]; exact r.sf _ _ e
  have hGu : Same G (upd H a o) := fun x u e => by
    rw [upd_ne (ne_of_none e e4)]; exact r.g _ _ e
  refine ⟨hFu, r.f0, hGu, r.fr, by rw [List.length_set]; exact r.len, fun j t x q1 q2 => ?_, fun j k t u b hjk q1 q2 ht hu q3 q4 => ?_, r.tab⟩
  · rcases getElem_set q1 with ⟨e, es, hl⟩ | ⟨e, q1⟩
    · subst e; subst es
      rw [h2] at q2; cases q2
      exact (slOk_own hs').mpr ⟨a, o, rfl, upd_same, e3, e4, ho⟩
    · cases et : t.own with
      | false =>
        have := r.sl j t x q1 q2
        cases t with
        | un => trivial
        | v d => exact this
        | l ds => cases et
        | dk ds => cases et
        | dt ds => cases et
      | true =>
        obtain ⟨b, o', e1, e2', e3', e4', e5'⟩ := (slOk_own et).mp (r.sl j t x q1 q2)
        subst e1
        have : b ≠ a := fun z => by
          subst z
          exact r.inj i j s t b e h1 q1 hs et h2 q2
        exact (slOk_own et).mpr ⟨b, o', rfl, by rw [upd_ne this]; exact e2', e3', e4', e5'⟩
  · have own_ : ∀ {m : Nat} {y : Sl}, (sp.set i s')[m]? = some y → y.own = true → ∃ y', sp[m]? = some y' ∧ y'.own = true := fun {m y} z zo => by
      rcases getElem_set z with ⟨e, _, _⟩ | ⟨_, z⟩
      · subst e; exact ⟨s, h1, hs⟩
      · exact ⟨y, z, zo⟩
    obtain ⟨t', z1, z2⟩ := own_ q1 ht
    obtain ⟨u', z3, z4⟩ := own_ q2 hu
    exact r.inj j k t' u' b hjk z1 z3 z2 z4 q3 q4
theorem SR.slot {T : Addr → Prop} {K : PySem.W.Frag} {G F0 F H : Hp} {σ : L2.St} (r : SR T K G F0 F H sp σ) {i : Nat} {s : Sl} (h : sp[i]? = some s) : ∃ x, σ[i]? = some x ∧ SlOk K G F H s x := by
  have h2 := (List.getElem?_eq_some_iff.mp h).1
  rw [r.len] at h2
  exact ⟨σ[i], List.getElem?_eq_getElem h2, r.sl i s _ h (List.getElem?_eq_getElem h2)⟩
/-- a list of its own becomes one that is only read -/
theorem SR.freeze {T : Addr → Prop} {K : PySem.W.Frag} {G F0 F H : Hp} {σ : L2.St} (r : SR T K G F0 F H sp σ) {i : Nat} {ds : List D} (h : sp[i]? = some (.l ds)) :
    ∃ a vs, H a = some (.lst vs) ∧ F a = none ∧ SR T K G F0 (upd F a (.lst vs)) H (sp.set i (.v (.list ds))) σ := by
  obtain ⟨x, hx, ok⟩ := r.slot h
  obtain ⟨a, o, rfl, h1, h2, h3, vs, rfl, h4⟩ := (slOk_own rfl).mp ok
  have sF : Same F (upd F a (.lst vs)) := same_upd h2
  have sH : Same (upd F a (.lst vs)) H := fun b u e => by
    by_cases hb : b = a
    · subst hb; rw [upd_same] at e; exact .of (h1.trans e)
    · rw [upd_ne hb] at e; exact r.sf _ _ e
  refine ⟨a, vs, h1, h2, sH, r.f0.trans sF, r.g, fun b q1 q2 => ?_, by rw [List.length_set]; exact r.len, fun j t y q1 q2 => ?_, fun j k t u b hjk q1 q2 ht hu q3 q4 => ?_, r.tab.mono sF fun z => z.upd rfl⟩
  · by_cases hb : b = a
    · subst hb; exact h3
    · rw [upd_ne hb] at q2; exact r.fr b q1 q2
  · rcases getElem_set q1 with ⟨e, es, hl⟩ | ⟨e, q1⟩
    · subst e; subst es
      rw [hx] at q2; cases q2
      exact ⟨.ref a, rfl, .lst (.inl (.inl upd_same)) (dpAll_mono sF _ _ h4)⟩
    · cases et : t.own with
      | false =>
        have := r.sl j t y q1 q2
        cases t with
        | un => trivial
        | v d => obtain ⟨v, z1, z2⟩ := this; exact ⟨v, z1, dp_mono sF _ _ z2⟩
        | l ds => cases et
        | dk ds => cases et
        | dt ds => cases et
      | true =>
        obtain ⟨b, o', e1, e2', e3', e4', e5'⟩ := (slOk_own et).mp (r.sl j t y q1 q2)
        subst e1
        have : b ≠ a := fun z => by
          subst z
          exact r.inj i j _ t b e h q1 rfl et hx q2
        exact (slOk_own et).mpr ⟨b, o', rfl, e2', by rw [upd_ne this]; exact e3', e4', obOk_mono sF e5'⟩
  · rcases getElem_set q1 with ⟨_, es, _⟩ | ⟨e, q1⟩
    · subst es; cases ht
    · rcases getElem_set q2 with ⟨_, es, _⟩ | ⟨e', q2⟩
      · subst es; cases hu
      · exact r.inj j k t u b hjk q1 q2 ht hu q3 q4
theorem S_freeze (i : Nat) {ds : List D} (h : sp[i]? = some (.l ds)) (q : S c ss (sp.set i (.v (.list ds))) P) : S c ss sp P := Sealed.of fun X hX G F0 F H σ r D0 k => by
  obtain ⟨a, vs, h1, h2, r'⟩ := r.freeze h
  exact Sealed.run q X hX G F0 _ H σ r' D0 k
theorem S1_freeze (i : Nat) {ds : List D} (h : sp[i]? = some (.l ds)) (q : S1 c st (sp.set i (.v (.list ds))) P) : S1 c st sp P := Sealed.of fun X hX G F0 F H σ r D0 k => by
  obtain ⟨a, vs, h1, h2, r'⟩ := r.freeze h
  exact Sealed.run q X hX G F0 _ H σ r' D0 k

/-! ### a new list of its own -/
abbrev EF (c : Cc) (e : Expr) (sp : List Sl) (Q : List D → Prop) : Prop := Sealed (∀ (X : Cx), c.Has X → ∀ (G F0 F H : Hp) (σ : L2.St), SR c.m.T c.m.K G F0 F H sp σ → ∀ R : VK,
  (∀ ds vs p F' H', Q ds → Grow F H F' H' → H p = none → F' p = none → H' p = some (.lst vs) → DpAll c.m.K F' vs ds → R (.ref p) H') → tE X e σ H R)
theorem E_EF (h : EF c e sp fun ds => Q (.list ds)) : E c e sp Q := Sealed.of fun X hX G F0 F H σ r R k =>
  h X hX G F0 F H σ r R fun ds vs p F' H' q g hn hF hH hd => by
    have sF : Same F' (upd F' p (.lst vs)) := same_upd hF
    refine k _ _ (upd F' p (.lst vs)) H' q ⟨g.f.trans sF, fun b u e => ?_, g.h, fun b q1 q2 => ?_, fun z => (g.nf z).upd rfl⟩ (.lst (.inl (.inl upd_same)) (dpAll_mono sF _ _ hd))
    · by_cases hb : b = p
      · subst hb; rw [upd_same] at e; exact .of (hH.trans e)
      · rw [upd_ne hb] at e; exact g.fh _ _ e
    · by_cases hb : b = p
      · subst hb; exact hn
      · rw [upd_ne hb] at q2; exact g.new b q1 q2
theorem EF.mono {Q Q' : List D → Prop} (h : EF c e sp Q) (hq : ∀ d, Q d → Q' d) : EF c e sp Q' := Sealed.of fun X hX G F0 F H σ r R k => h X hX G F0 F H σ r R fun ds vs p F' H' q => k ds vs p F' H' (hq ds q)
theorem EF_lst {es : List Expr} {QL : List D → Prop} (h : A c es sp fun ds => ds.length ≤ sizeLine ∧ QL ds) : EF c (.List es pos) sp QL := Sealed.of fun X hX G F0 F H σ r R k => by
  refine PE_tE (pe_lst pa_tA) ?_
  refine h X hX G F0 F H σ r _ fun ds vs F1 H1 q g d1 => ?_
  refine ⟨by rw [dpAll_len d1]; exact q.1, fun p hp => ?_⟩
  have g2 := Grow.out (o := .lst vs) g.fh hp
  exact k ds vs p _ _ q.2 (g.trans g2) (g.h.free hp) (g.fh.free hp) upd_same d1

/-! ### simple statements -/
theorem S1_ret (h : E c e sp P.rt) : S1 c (.Return (some e) pos) sp P := Sealed.of fun X hX G F0 F H σ r D0 k => by
  refine PS_t (ps_ret pe_tE) ?_
  exact h X hX G F0 F H σ r _ fun d v F' H' q g d1 => k.rt d v F' H' q (r.kept.grow g) d1
theorem S1_retN (h : P.rt .none) : S1 c (.Return none pos) sp P := Sealed.of fun X hX G F0 F H σ r D0 k => PS_t ps_retN (k.rt _ _ F H h r.kept .non)
theorem S1_pass (h : P.nx sp) : S1 c (.Pass pos) sp P := Sealed.of fun X hX G F0 F H σ r D0 k => PS_t ps_pass (k.nx sp F H σ h r)
theorem S1_break (h : P.bk sp) : S1 c (.Break pos) sp P := Sealed.of fun X hX G F0 F H σ r D0 k => PS_t ps_break (k.bk sp F H σ h r)
theorem S1_continue (h : P.ct sp) : S1 c (.Continue pos) sp P := Sealed.of fun X hX G F0 F H σ r D0 k => PS_t ps_continue (k.ct sp F H σ h r)
theorem S1_if {t : Expr} (h : T c t sp fun k => if k = true then S c ss sp P else S c rest sp P) : S1 c (.If t ss rest pos) sp P := Sealed.of fun X hX G F0 F H σ r D0 k => by
  refine PS_t (ps_if pt_tT pss_t pss_t) ?_
  refine h X hX G F0 F H σ r _ fun z F1 H1 q g => ?_
  cases z with
  | true => exact Sealed.run q X hX G F0 F1 H1 σ (r.grow g) D0 k
  | false => exact Sealed.run q X hX G F0 F1 H1 σ (r.grow g) D0 k
def LocS (sc : Scope) (x : Str) : Prop := sc.names.lookup x = some .local ∨ sc.names.lookup x = some .cell
theorem LocS.loc {X : Cx} (hX : c.Has X) {x : Str} (h : LocS c.sc x) : Loc X.env.scope x := by
  rw [hX.sc]; exact h
def FnS (c : Cc) (x : Str) : Prop := c.fn x = true ∨ c.sc.names.lookup x = some .local
theorem FnS.fn {X : Cx} (hX : c.Has X) {x : Str} (h : FnS c x) : X.fn x = true ∨ X.env.scope.names.lookup x = some .local := by
  rw [hX.sc, hX.fn]; exact h
theorem S1_set (i : Nat) {x : Str} {pos' : Pos} (hN : c.N.Nodup) (h : E c e sp fun d => P.nx (sp.set i (.v d))) (hi : c.N[i]? = some x := by rfl) (hx : LocS c.sc x := by first | exact Or.inl rfl | exact Or.inr rfl)
    (hf : FnS c x := by first | exact Or.inl rfl | exact Or.inr rfl) (hs : ∀ env : Env, env.scope = c.sc → swapsWith e (some (.Name x pos')) pos.line env = pure false := by intro env he; first | rfl | (cases env; subst he; rfl)) : S1 c (.Assign [.Name x pos'] e pos) sp P := Sealed.of fun X hX G F0 F H σ r D0 k => by
  refine PS_t (ps_set (i := i) (by rw [hX.N]; exact hN) (by rw [hX.N]; exact hi) (hx.loc hX) pe_tE (hs _ hX.sc) (hf.fn hX)) ?_
  refine h X hX G F0 F H σ r _ fun d v F1 H1 q g d1 => ?_
  exact k.nx _ F1 H1 _ q ((r.grow g).set_v i d1)
theorem S1_setL (i : Nat) {x : Str} {pos' : Pos} (hN : c.N.Nodup) (h : EF c e sp fun ds => P.nx (sp.set i (.l ds))) (hi : c.N[i]? = some x := by rfl) (hx : LocS c.sc x := by first | exact Or.inl rfl | exact Or.inr rfl)
    (hf : FnS c x := by first | exact Or.inl rfl | exact Or.inr rfl) (hs : ∀ env : Env, env.scope = c.sc → swapsWith e (some (.Name x pos')) pos.line env = pure false := by intro env he; first | rfl | (cases env; subst he; rfl)) : S1 c (.Assign [.Name x pos'] e pos) sp P := Sealed.of fun X hX G F0 F H σ r D0 k => by
  refine PS_t (ps_set (i := i) (by rw [hX.N]; exact hN) (by rw [hX.N]; exact hi) (hx.loc hX) pe_tE (hs _ hX.sc) (hf.fn hX)) ?_
  refine h X hX G F0 F H σ r _ fun ds vs p F1 H1 q g hn hF hH hd => ?_
  exact k.nx _ F1 H1 _ q (r.set_new (s := .l ds) i g hn hH hF ⟨vs, rfl, hd⟩ rfl)
/-- xs.append(e) of a list of its own -/
theorem S1_append (i : Nat) {x : Str} {ds : List D} {pos' cpos spos : Pos} (hsl : sp[i]? = some (.l ds)) (h : E c e sp fun d => ds.length < sizeLine ∧ P.nx (sp.set i (.l (ds ++ [d])))) (hi : c.N[i]? = some x := by rfl)
    (hv : Vis c.sc x := by first | exact Or.inl rfl | exact Or.inr (Or.inl rfl) | exact Or.inr (Or.inr rfl)) (hd : (x == ("__debug__" : Str)) = false := by decide) (hcd : (x == ("__classdict__" : Str)) = false := by decide)
    (hst : ∀ env, starEach [e] env = [(false, eval e env)] := by intro _; rfl)
    (hfew : ∀ env, ((backTo cpos (starEach [e] env)).all (fun x => !x.1) && (backToKw cpos (keywordEach [] env)).all (fun x => x.1.isSome) && decide ([e].length + ([] : List Keyword).length + (if ([] : List Keyword).isEmpty then 0 else 1) < 30)) = true := by intro _; rfl)
    (hline : (apos.endLine == cpos.line) = true := by rfl) :
    S1 c (.Expr (.Call (.Attribute (.Name x pos') "append" apos) [e] [] cpos) spos) sp P := Sealed.of fun X hX G F0 F H σ r D0 k => by
  obtain ⟨y, hy, ok⟩ := r.slot hsl
  obtain ⟨l, o, rfl, h1, h2, h3, vs, rfl, h4⟩ := (slOk_own rfl).mp ok
  have hv' : PE X (.Name x pos') (tVar i) := pe_var (i := i) (by rw [hX.N]; exact hi) (by rw [hX.sc]; exact hv) hd hcd
  refine PS_t (ps_expr (pe_bm PySem.F.plainAttrs_list PySem.F.slot_list_append PySem.F.type_list_append mt_append hv' (pa_cons pe_tE pa_nil (hst _)) rfl (hfew _) hline (hst _) rfl) rfl) ?_
  refine ⟨.ref l, hy, .inl ⟨rfl, vs, .inl (.inl h1)⟩, ?_⟩
  refine h X hX G F0 F H σ r _ fun d v F1 H1 q g d1 => ?_
  have hl := g.h _ _ h1
  refine ⟨l, vs, v, rfl, rfl, hl, by rw [dpAll_len h4]; exact q.1, ?_⟩
  exact k.nx _ F1 _ σ q.2 ((r.grow g).upd_o i hsl rfl hy ⟨_, rfl, dpAll_append (dpAll_mono g.f _ _ h4) (.cons d1 .nil)⟩ rfl)
/-- xs[j] = e of a list of its own -/
theorem S1_store (i : Nat) {x : Str} {ds : List D} {pos' tpos spos : Pos} {ix : Expr} (hsl : sp[i]? = some (.l ds)) (h : E c e sp fun d => E c ix sp fun g => ∃ n j, g = .int n ∧ ixN ds.length n = some j ∧ P.nx (sp.set i (.l (ds.set j d)))) (hi : c.N[i]? = some x := by rfl)
    (hv : Vis c.sc x := by first | exact Or.inl rfl | exact Or.inr (Or.inl rfl) | exact Or.inr (Or.inr rfl)) (hd : (x == ("__debug__" : Str)) = false := by decide) (hcd : (x == ("__classdict__" : Str)) = false := by decide)
    (ha : ∀ env v, assign (.Subscript (.Name x pos') ix tpos) env v = (do
      let ov ← holding [v] (eval (.Name x pos') env)
      let iv ← holding [v, ov] (eval ix env)
      standAt tpos
      holding [v, ov, iv] (setItem ov iv v)
      release [v, ov, iv] []) := by intro _ _; rfl)
    (hs : ∀ env, swapsWithSole [.Subscript (.Name x pos') ix tpos] e spos.line env = pure false := by intro _; rfl) (hw : ∀ env, swappedStores [.Subscript (.Name x pos') ix tpos] e env = pure none := by intro _; rfl) :
    S1 c (.Assign [.Subscript (.Name x pos') ix tpos] e spos) sp P := Sealed.of fun X hX G F0 F H σ r D0 k => by
  obtain ⟨y, hy, ok⟩ := r.slot hsl
  obtain ⟨l, o, rfl, h1, h2, h3, vs, rfl, h4⟩ := (slOk_own rfl).mp ok
  have hv' : PE X (.Name x pos') (tVar i) := pe_var (i := i) (by rw [hX.N]; exact hi) (by rw [hX.sc]; exact hv) hd hcd
  refine PS_t (ps_asg pe_tE (pg_sub hv' pe_tE set_list (ha _)) (hs _) (hw _) rfl) ?_
  refine h X hX G F0 F H σ r _ fun d v F1 H1 q g d1 => ?_
  refine ⟨.ref l, hy, ?_⟩
  refine Sealed.run q X hX G F0 F1 H1 σ (r.grow g) _ fun gi vi F2 H2 q2 g2 d2 => ?_
  obtain ⟨n, j, rfl, hj, q3⟩ := q2
  cases d2
  have hl := g2.h _ _ (g.h _ _ h1)
  refine ⟨l, vs, n, j, rfl, rfl, hl, by rw [dpAll_len h4]; exact hj, ?_⟩
  exact k.nx _ F2 _ σ q3 (((r.grow g).grow g2).upd_o i hsl rfl hy ⟨_, rfl, dpAll_set j (dpAll_mono (g.f.trans g2.f) _ _ h4) (dp_mono g2.f _ _ d1)⟩ rfl)
/-- x op= e -/
theorem S1_aug (i : Nat) {x : Str} {d : D} {pos' : Pos} {op : Operator} (hN : c.N.Nodup) (hsl : sp[i]? = some (.v d)) (h : E c e sp fun g => OpP c (inplaceOp op) d g fun z => P.nx (sp.set i (.v z))) (hi : c.N[i]? = some x := by rfl) (hx : LocS c.sc x := by first | exact Or.inl rfl | exact Or.inr rfl)
    (hf : FnS c x := by first | exact Or.inl rfl | exact Or.inr rfl) : S1 c (.AugAssign (.Name x pos') op e pos) sp P := Sealed.of fun X hX G F0 F H σ r D0 k => by
  obtain ⟨y, hy, ok⟩ := r.slot hsl
  obtain ⟨v, rfl, dv⟩ := ok
  have hip : PIp X op (rS X (inplaceOp op)) := fun pins s σ H x y v u Q I rx ry h => h pins s σ v u I rx ry
  refine PS_t (ps_aug (i := i) (by rw [hX.N]; exact hN) (by rw [hX.N]; exact hi) (hx.loc hX) pe_tE hip (hf.fn hX)) ?_
  refine ⟨v, hy, ?_⟩
  refine h X hX G F0 F H σ r _ fun g u F1 H1 q g1 d1 => ?_
  refine q X hX F1 H1 v u _ g1.fh (dp_mono g1.f _ _ dv) d1 fun z w F2 H2 q2 g2 d2 => ?_
  exact k.nx _ F2 H2 _ q2 (((r.grow g1).grow g2).set_v i d2)
theorem ipp_add {i j : Int} (q : Q (.int (i + j))) : OpP c (inplaceOp .Add) (.int i) (.int j) Q := opp_rI0 (fun _ => iop_add) (fun _ _ => .int _) q
theorem ipp_sub {i j : Int} (q : Q (.int (i - j))) : OpP c (inplaceOp .Sub) (.int i) (.int j) Q := opp_rI0 (fun _ => iop_sub) (fun _ _ => .int _) q
theorem ipp_mul {i j : Int} (h : CMul i j) (q : Q (.int (i * j))) : OpP c (inplaceOp .Mult) (.int i) (.int j) Q := opp_rI (fun _ => iop_mul) (fun _ _ => .int _) h q
theorem ipp_divW {i j : Int} (h : CDivW i j) (q : Q (.int (i / j))) : OpP c (inplaceOp .FloorDiv) (.int i) (.int j) Q := opp_rI (fun _ => iop_fdivW) (fun _ _ => .int _) h q
theorem ipp_addS {i j : Str} (h : i.length + j.length ≤ sizeLine) (q : Q (.str (i ++ j))) : OpP c (inplaceOp .Add) (.str i) (.str j) Q :=
  .of fun X hX => ⟨_, iop_add_str, fun F H x y R s q1 q2 k => ⟨i, j, dp_str q1, dp_str q2, h, k _ _ F H q (Grow.refl s) (.str _)⟩⟩

/-! ### targets -/
def tG (X : Cx) (tg : Expr) : TG := fun v σ H Q => ∀ (pins : List (Addr × Obj)) (s : Shared) (u : Value), Inv X pins σ H s → RelV v u → wpAny (model X.prog X.w) X.A (assign tg X.env u) (fun _ s' => ∃ σ' H', Inv X pins σ' H' s' ∧ Q σ' H') X.xe s
theorem pg_tG {X : Cx} {tg : Expr} : PG X tg (tG X tg) := ⟨fun pins s σ H v u Q I r h => h pins s u I r⟩
theorem PG_tG {X : Cx} {tg : Expr} {t : TG} {v : V} {σ : L2.St} {H : Hp} {Q : L2.St → Hp → Prop} (h : PG X tg t) (q : t v σ H Q) : tG X tg v σ H Q := fun pins s u I r => h.run pins s σ H v u Q I r q
/-- σ' is σ but at ws -/
def Off (ws : List Nat) (σ σ' : L2.St) : Prop := (∀ j, j ∉ ws → σ'[j]? = σ[j]?) ∧ σ'.length = σ.length
/-- the target tg gets the data d; ws: the slots that it stores to -/
abbrev Asg (c : Cc) (tg : Expr) (ws : List Nat) (d : D) (sp : List Sl) (Q : List Sl → Prop) : Prop := Sealed (∀ (X : Cx), c.Has X → ∀ (G F0 F H : Hp) (σ : L2.St) (v : V), SR c.m.T c.m.K G F0 F H sp σ → Dp c.m.K F v d → ∀ R : L2.St → Hp → Prop,
  (∀ sp' F' H' σ', Q sp' → Grow F H F' H' → SR c.m.T c.m.K G F0 F' H' sp' σ' → Off ws σ σ' → R σ' H') → tG X tg v σ H R)
theorem Asg_name (i : Nat) {x : Str} {d : D} {Q : List Sl → Prop} (hN : c.N.Nodup) (h : Q (sp.set i (.v d))) (hi : c.N[i]? = some x := by rfl) (hx : LocS c.sc x := by first | exact Or.inl rfl | exact Or.inr rfl)
    (hf : FnS c x := by first | exact Or.inl rfl | exact Or.inr rfl) : Asg c (.Name x pos) [i] d sp Q := Sealed.of fun X hX G F0 F H σ v r hd R k =>
  PG_tG (pg_name (i := i) (by rw [hX.N]; exact hN) (by rw [hX.N]; exact hi) (hx.loc hX) (hf.fn hX)) (k _ F H _ h (Grow.refl r.sf) (r.set_v i hd) ⟨fun j hj => List.getElem?_set_ne fun e => hj (by simp [e]), List.length_set⟩)
end
end Pl
set_option Elab.async false
set_option linter.all false
set_option maxRecDepth 100000
set_option maxHeartbeats 4000000
set_option autoImplicit false
namespace Pl
open PySem PySem.Spec PyProof.Rows L2
section
variable {c : Cc} {sp : List Sl} {P P' : Pn} {Q : D → Prop} {e a b : Expr} {st : Stmt} {rest ss body : List Stmt} {pos p apos : Pos}
/-! ### several targets -/
def tGs (X : Cx) (tgs : List Expr) : TGs := fun vs σ H Q => ∀ (pins : List (Addr × Obj)) (s : Shared) (us : List Value), Inv X pins σ H s → Vals vs us →
  wpAny (model X.prog X.w) X.A (assignInOrder ((assignEach tgs X.env).map (·.2)) us) (fun _ s' => ∃ σ' H', Inv X pins σ' H' s' ∧ Q σ' H') X.xe s
theorem pgs_tG {X : Cx} {tgs : List Expr} : PGs X tgs (tGs X tgs) := ⟨fun pins s σ H v u Q I r h => h pins s u I r⟩
theorem PGs_tG {X : Cx} {tgs : List Expr} {t : TGs} {v : List V} {σ : L2.St} {H : Hp} {Q : L2.St → Hp → Prop} (h : PGs X tgs t) (q : t v σ H Q) : tGs X tgs v σ H Q := fun pins s u I r => h.run pins s σ H v u Q I r q
abbrev AsgL (c : Cc) (tgs : List Expr) (ws : List Nat) (ds : List D) (sp : List Sl) (Q : List Sl → Prop) : Prop := Sealed (∀ (X : Cx), c.Has X → ∀ (G F0 F H : Hp) (σ : L2.St) (vs : List V), SR c.m.T c.m.K G F0 F H sp σ → DpAll c.m.K F vs ds → ∀ R : L2.St → Hp → Prop,
  (∀ sp' F' H' σ', Q sp' → Grow F H F' H' → SR c.m.T c.m.K G F0 F' H' sp' σ' → Off ws σ σ' → R σ' H') → tGs X tgs vs σ H R)
theorem AsgL_nil {Q : List Sl → Prop} (q : Q sp) : AsgL c [] [] [] sp Q := Sealed.of fun X hX G F0 F H σ vs r hd R k => by
  cases hd
  exact PGs_tG pgs_nil ⟨rfl, k _ F H σ q (Grow.refl r.sf) r ⟨fun _ _ => rfl, rfl⟩⟩
theorem AsgL_cons {tg : Expr} {tgs : List Expr} {ws ws' : List Nat} {d : D} {ds : List D} {Q : List Sl → Prop} (h : Asg c tg ws d sp fun sp' => AsgL c tgs ws' ds sp' Q) (hs : ∀ env, (assignEach (tg :: tgs) env).map (·.2) = assign tg env :: (assignEach tgs env).map (·.2) := by intro _; rfl) : AsgL c (tg :: tgs) (ws ++ ws') (d :: ds) sp Q := Sealed.of fun X hX G F0 F H σ vs r hd R k => by
  cases hd with
  | cons h1 h2 =>
    refine PGs_tG (pgs_cons pg_tG pgs_tG (hs _)) ⟨_, _, rfl, ?_⟩
    refine h X hX G F0 F H σ _ r h1 _ fun sp' F' H' σ' q g r' o => ?_
    exact Sealed.run q X hX G F0 F' H' σ' _ r' (dpAll_mono g.f _ _ h2) R fun sp2 F2 H2 σ2 q2 g2 r2 o2 => k sp2 F2 H2 σ2 q2 (g.trans g2) r2 ⟨fun j hj =>
      (o2.1 j fun z => hj (List.mem_append_right _ z)).trans (o.1 j fun z => hj (List.mem_append_left _ z)), o2.2.trans o.2⟩
theorem Asg_tup {tgs : List Expr} {ws : List Nat} {ds : List D} {kk : Nat} {Q : List Sl → Prop} (h : AsgL c tgs ws ds sp Q) (hn : ∀ env, (assignEach tgs env).length = ds.length := by intro _; rfl) (hst : ∀ env, (assignEach tgs env).findIdx? (·.1) = none := by intro _; rfl) :
    Asg c (.Tuple tgs kk pos) ws (.tuple ds) sp Q := Sealed.of fun X hX G F0 F H σ v r hd R k => by
  obtain ⟨a, vs, rfl, h1, h2⟩ := dp_tuple hd
  refine PG_tG (pg_tup hX.calm pgs_tG (hn _) (hst _)) ⟨a, vs, rfl, by rw [hX.K]; exact sqT_mono r.sf h1, dpAll_len h2, ?_⟩
  exact h X hX G F0 F H σ vs r h2 R k
theorem S1_asg {tg : Expr} {ws : List Nat} (h : E c e sp fun d => Asg c tg ws d sp P.nx) (hs : ∀ env, swapsWithSole [tg] e pos.line env = pure false := by intro _; rfl)
    (hw : ∀ env : Env, env.scope = c.sc → swappedStores [tg] e env = pure none := by intro env he; first | rfl | (cases env; subst he; rfl)) (h1 : ∀ env, (assignEach [tg] env).map (·.2) = [assign tg env] := by intro _; rfl) : S1 c (.Assign [tg] e pos) sp P := Sealed.of fun X hX G F0 F H σ r D0 k => by
  refine PS_t (ps_asg pe_tE pg_tG (hs _) (hw _ hX.sc) (h1 _)) ?_
  refine h X hX G F0 F H σ r _ fun d v F1 H1 q g d1 => ?_
  exact Sealed.run q X hX G F0 F1 H1 σ v (r.grow g) d1 _ fun sp' F' H' σ' q' g' r' _ => k.nx sp' F' H' σ' q' r'
theorem S1_par (i j : Nat) {x y : Str} {px py pt : Pos} {kt k2 : Nat} {pt2 : Pos} (hN : c.N.Nodup) (h : E c a sp fun d => E c b sp fun g => P.nx ((sp.set i (.v d)).set j (.v g))) (hi : c.N[i]? = some x := by rfl) (hj : c.N[j]? = some y := by rfl) (hij : i ≠ j := by decide)
    (hx : c.sc.names.lookup x = some .local := by rfl) (hy : c.sc.names.lookup y = some .local := by rfl)
    (hst : ∀ env, starEach [a, b] env = (false, eval a env) :: starEach [b] env := by intro _; rfl) (hst2 : ∀ env, starEach [b] env = (false, eval b env) :: starEach [] env := by intro _; rfl)
    (hw : ∀ env : Env, env.scope = c.sc → swappedStores [.Tuple [.Name x px, .Name y py] kt pt] (.Tuple [a, b] k2 pt2) env = pure (some [x, y]) := by intro env he; cases env; subst he; rfl)
    (hs : ∀ env, swapsWithSole [.Tuple [.Name x px, .Name y py] kt pt] (.Tuple [a, b] k2 pt2) pos.line env = pure false := by intro _; rfl) :
    S1 c (.Assign [.Tuple [.Name x px, .Name y py] kt pt] (.Tuple [a, b] k2 pt2) pos) sp P := Sealed.of fun X hX G F0 F H σ r D0 k => by
  refine PS_t (ps_par (i := i) (j := j) hX.calm (by rw [hX.N]; exact hN) (by rw [hX.N]; exact hi) (by rw [hX.N]; exact hj) hij (by rw [hX.sc]; exact hx) (by rw [hX.sc]; exact hy) (pa_cons pe_tE (pa_cons pe_tE pa_nil (hst2 _)) (hst _)) (hw _ hX.sc) (hs _)) ?_
  refine h X hX G F0 F H σ r _ fun d v F1 H1 q g d1 => ?_
  refine Sealed.run q X hX G F0 F1 H1 σ (r.grow g) _ fun d2 v2 F2 H2 q2 g2 dd2 => ?_
  exact ⟨v, v2, rfl, k.nx _ F2 H2 _ q2 ((((r.grow g).grow g2).set_v i (dp_mono g2.f _ _ d1)).set_v j dd2)⟩

/-! ### what is walked -/
structure WOk (K : PySem.W.Frag) (J : It) (F : Hp) (ds : List D) : Prop where
  go : ∀ (F' H' : Hp) (i : Nat) (d : D), Same F F' → Same F' H' → ds[i]? = some d → J.go i H' ∧ ∀ x H'', J.yld i H' x H'' → ∃ F'', Grow F' H' F'' H'' ∧ Dp K F'' x d
  stop : ∀ (F' H' : Hp) (i : Nat), Same F F' → Same F' H' → ds.length ≤ i → J.stop i H'
def tI (X : Cx) (tg it : Expr) : TI := fun σ H R => ∀ (pins : List (Addr × Obj)) (s : Shared), Inv X pins σ H s → wpAny (model X.prog X.w) X.A (eval it X.env) (fun v s1 => wpAny (model X.prog X.w) X.A (pyIter v) (PIE X pins σ tg R) X.xe s1) X.xe s
theorem pi_tI {X : Cx} {tg it : Expr} : PI X tg it (tI X tg it) := ⟨fun pins s σ H R I h => h pins s I⟩
theorem PI_tI {X : Cx} {tg it : Expr} {t : TI} {σ : L2.St} {H : Hp} {R : It → Hp → Prop} (h : PI X tg it t) (q : t σ H R) : tI X tg it σ H R := fun pins s I => h.run pins s σ H R I q
abbrev W (c : Cc) (tg it : Expr) (sp : List Sl) (Q : List D → Prop) : Prop := Sealed (∀ (X : Cx), c.Has X → ∀ (G F0 F H : Hp) (σ : L2.St), SR c.m.T c.m.K G F0 F H sp σ → ∀ R : It → Hp → Prop,
  (∀ J ds F' H', Q ds → Grow F H F' H' → WOk c.m.K J F' ds → R J H') → tI X tg it σ H R)
theorem wok_list {K : PySem.W.Frag} {F : Hp} {l : Addr} {vs : List V} {ds : List D} (h1 : SqL K F l vs) (h2 : DpAll K F vs ds) : WOk K (Itl K l) F ds := by
  refine ⟨fun F' H' i d s1 s2 e => ?_, fun F' H' i s1 s2 e => ⟨vs, (s1.trans s2).seq h1, by rw [dpAll_len h2]; exact e⟩⟩
  obtain ⟨v, q1, q2⟩ := dpAll_get' h2 e
  refine ⟨⟨vs, v, (s1.trans s2).seq h1, q1⟩, fun x H'' q => ?_⟩
  obtain ⟨rfl, q⟩ := q
  have := q vs ((s1.trans s2).seq h1)
  rw [q1] at this; cases this
  exact ⟨F', Grow.refl s2, dp_mono s1 _ _ q2⟩
theorem wok_tup {K : PySem.W.Frag} {F : Hp} {l : Addr} {vs : List V} {ds : List D} (h1 : F l = some (.tup vs)) (h2 : DpAll K F vs ds) : WOk K (Itt K l) F ds := by
  refine ⟨fun F' H' i d s1 s2 e => ?_, fun F' H' i s1 s2 e => ⟨vs, sqT_mono (s1.trans s2) h1, by rw [dpAll_len h2]; exact e⟩⟩
  obtain ⟨v, q1, q2⟩ := dpAll_get' h2 e
  refine ⟨⟨vs, v, sqT_mono (s1.trans s2) h1, q1⟩, fun x H'' q => ?_⟩
  obtain ⟨rfl, q⟩ := q
  have := q vs (sqT_mono (s1.trans s2) h1)
  rw [q1] at this; cases this
  exact ⟨F', Grow.refl s2, dp_mono s1 _ _ q2⟩
theorem W_list {tg : Expr} {QL : List D → Prop} (h : E c e sp fun d => ∃ ds, d = .list ds ∧ QL ds) : W c tg e sp QL := Sealed.of fun X hX G F0 F H σ r R k => by
  refine PI_tI (pi_list pe_tE) ?_
  refine h X hX G F0 F H σ r _ fun d v F1 H1 q g d1 => ?_
  obtain ⟨ds, rfl, q⟩ := q
  obtain ⟨l, vs, rfl, h1, h2⟩ := dp_list d1
  rw [hX.K]
  exact ⟨l, rfl, ⟨vs, g.fh.seq h1⟩, k _ ds F1 H1 q g (wok_list h1 h2)⟩
theorem W_tup {tg : Expr} {QL : List D → Prop} (h : E c e sp fun d => ∃ ds, d = .tuple ds ∧ QL ds) : W c tg e sp QL := Sealed.of fun X hX G F0 F H σ r R k => by
  refine PI_tI (pi_tup pe_tE) ?_
  refine h X hX G F0 F H σ r _ fun d v F1 H1 q g d1 => ?_
  obtain ⟨ds, rfl, q⟩ := q
  obtain ⟨l, vs, rfl, h1, h2⟩ := dp_tuple d1
  rw [hX.K]
  exact ⟨l, rfl, ⟨vs, sqT_mono g.fh h1⟩, k _ ds F1 H1 q g (wok_tup h1 h2)⟩
/-- lo, lo + 1, .., n of them -/
def rangeD (lo : Int) (n : Nat) : List D := (List.range n).map fun (i : Nat) => PyData.int (lo + (i : Int))
theorem rangeD_len (lo : Int) (n : Nat) : (rangeD lo n).length = n := by unfold rangeD; simp
theorem rangeD_get {lo : Int} {n i : Nat} {d : D} : (rangeD lo n)[i]? = some d ↔ i < n ∧ d = .int (lo + (i : Int)) := by
  unfold rangeD
  rw [List.getElem?_map]
  by_cases h : i < n
  · rw [List.getElem?_range h]
    exact ⟨fun e => ⟨h, (Option.some.inj e).symm⟩, fun e => by rw [e.2]; rfl⟩
  · rw [List.getElem?_eq_none (by simpa using h)]
    exact ⟨fun e => absurd e (by simp), fun e => absurd e.1 h⟩
theorem wok_range {K : PySem.W.Frag} {F : Hp} (lo : Int) (n : Nat) : WOk K (Itr lo n) F (rangeD lo n) := by
  refine ⟨fun F' H' i d s1 s2 e => ?_, fun F' H' i s1 s2 e => by rw [rangeD_len] at e; exact e⟩
  obtain ⟨h1, rfl⟩ := rangeD_get.mp e
  refine ⟨h1, fun x H'' q => ?_⟩
  obtain ⟨rfl, rfl⟩ := q
  exact ⟨F', Grow.refl s2, .int _⟩
theorem W_range1 {tg : Expr} {QL : List D → Prop} (h : E c e sp fun d => ∃ j : Int, d = .int j ∧ (-(2 ^ 62) ≤ j ∧ j < 2 ^ 62) ∧ QL (rangeD 0 j.toNat)) (hm : c.m.mg "range" = none) (hg : GlS c.sc "range" := by rfl) (hs : ∀ env, starEach [e] env = [(false, eval e env)] := by intro _; rfl) :
    W c tg (.Call (.Name "range" p) [e] [] pos) sp QL := Sealed.of fun X hX G F0 F H σ r R k => by
  refine PI_tI (pi_range1 (hg.gl hX) (by rw [hX.mg]; exact hm) (pa_cons pe_tE pa_nil (hs _)) (hs _)) ?_
  refine h X hX G F0 F H σ r _ fun d v F1 H1 q g d1 => ?_
  obtain ⟨j, rfl, hb, q⟩ := q
  cases d1
  exact ⟨j, rfl, hb.1, hb.2, k _ _ F1 H1 q g (wok_range 0 _)⟩
theorem W_range2 {tg : Expr} {QL : List D → Prop} (h : E c a sp fun d => E c b sp fun g => ∃ i j : Int, d = .int i ∧ g = .int j ∧ (-(2 ^ 62) ≤ i ∧ i < 2 ^ 62 ∧ -(2 ^ 62) ≤ j ∧ j < 2 ^ 62) ∧ QL (rangeD i (j - i).toNat)) (hm : c.m.mg "range" = none) (hg : GlS c.sc "range" := by rfl)
    (hs : ∀ env, starEach [a, b] env = [(false, eval a env), (false, eval b env)] := by intro _; rfl) (hs2 : ∀ env, starEach [b] env = [(false, eval b env)] := by intro _; rfl) :
    W c tg (.Call (.Name "range" p) [a, b] [] pos) sp QL := Sealed.of fun X hX G F0 F H σ r R k => by
  refine PI_tI (pi_range2 (hg.gl hX) (by rw [hX.mg]; exact hm) (pa_cons pe_tE (pa_cons pe_tE pa_nil (hs2 _)) (by rw [hs, hs2])) (hs _) (hs2 _)) ?_
  refine h X hX G F0 F H σ r _ fun d v F1 H1 q g d1 => ?_
  refine Sealed.run q X hX G F0 F1 H1 σ (r.grow g) _ fun d2 v2 F2 H2 q2 g2 dd2 => ?_
  obtain ⟨i, j, rfl, rfl, hb, q3⟩ := q2
  cases d1; cases dd2
  exact ⟨i, j, rfl, hb, k _ _ F2 H2 q3 (g.trans g2) (wok_range i _)⟩
/-- the signs of a text -/
def signsD (x : Str) : List D := x.cps.toList.map fun cp => .str ⟨#[cp]⟩
theorem W_str {tg : Expr} {QL : List D → Prop} (h : E c e sp fun d => ∃ x, d = .str x ∧ QL (signsD x)) : W c tg e sp QL := Sealed.of fun X hX G F0 F H σ r R k => by
  refine PI_tI (pi_str pe_tE) ?_
  refine h X hX G F0 F H σ r _ fun d v F1 H1 q g d1 => ?_
  obtain ⟨x, rfl, q⟩ := q
  cases d1
  refine ⟨x, rfl, k _ _ F1 H1 q g ⟨fun F' H' i d s1 s2 e => ?_, fun F' H' i s1 s2 e => ?_⟩⟩
  · unfold signsD at e
    rw [List.getElem?_map] at e
    cases hc : x.cps.toList[i]? with
    | none => rw [hc] at e; cases e
    | some cp =>
      rw [hc] at e
      have e' : PyData.str ⟨#[cp]⟩ = d := Option.some.inj e
      subst e'
      have hi := (List.getElem?_eq_some_iff.mp hc).1
      refine ⟨(by simpa using hi : i < x.cps.size), fun y H'' q => ?_⟩
      obtain ⟨rfl, cp', h1, rfl⟩ := q
      rw [← Array.getElem?_toList, hc] at h1
      cases h1
      exact ⟨F', Grow.refl s2, .str _⟩
  · unfold signsD at e
    rw [List.length_map] at e
    show x.cps.size ≤ i
    simpa using e
/-- for a, b in enumerate(a list) -/
def enumD (ds : List D) : List D := ds.mapIdx fun i d => .tuple [.int (i : Int), d]
theorem W_enum {elts : List Expr} {kk : Nat} {tpos : Pos} {QL : List D → Prop} (h : E c e sp fun d => ∃ ds, d = .list ds ∧ QL (enumD ds)) (hm : c.m.mg "enumerate" = none) (hg : GlS c.sc "enumerate" := by rfl) (hs : ∀ env, starEach [e] env = [(false, eval e env)] := by intro _; rfl) :
    W c (.Tuple elts kk tpos) (.Call (.Name "enumerate" p) [e] [] pos) sp QL := Sealed.of fun X hX G F0 F H σ r R k => by
  refine PI_tI (pi_enum (hg.gl hX) (by rw [hX.mg]; exact hm) (pa_cons pe_tE pa_nil (hs _)) (hs _)) ?_
  refine h X hX G F0 F H σ r _ fun d v F1 H1 q g d1 => ?_
  obtain ⟨ds, rfl, q⟩ := q
  obtain ⟨l, vs, rfl, h1, h2⟩ := dp_list d1
  rw [hX.K]
  refine ⟨l, vs, rfl, g.fh.seq h1, k _ _ F1 H1 q g ⟨fun F' H' i d s1 s2 e => ?_, fun F' H' i s1 s2 e => ?_⟩⟩
  · unfold enumD at e
    rw [List.getElem?_mapIdx] at e
    cases hc : ds[i]? with
    | none => rw [hc] at e; cases e
    | some d0 =>
      rw [hc] at e
      have e' : PyData.tuple [.int (i : Int), d0] = d := Option.some.inj e
      subst e'
      obtain ⟨v, q1, q2⟩ := dpAll_get' h2 hc
      refine ⟨⟨vs, v, (s1.trans s2).seq h1, q1⟩, fun x H'' q => ?_⟩
      obtain ⟨t, y, rfl, hn, rfl, q⟩ := q
      have := q vs ((s1.trans s2).seq h1)
      rw [q1] at this; cases this
      have g3 := Grow.new_ (o := .tup [.int (i : Nat), v]) s2 hn
      exact ⟨_, g3, .tup upd_same (.cons (.int _) (.cons (dp_mono (s1.trans g3.f) _ _ q2) .nil))⟩
  · unfold enumD at e
    rw [List.length_mapIdx] at e
    exact ⟨vs, (s1.trans s2).seq h1, by rw [dpAll_len h2]; exact e⟩
/-- for a, b in zip(two lists) -/
def zipD (ds gs : List D) : List D := List.zipWith (fun d g => .tuple [d, g]) ds gs
theorem W_zip {elts : List Expr} {kk : Nat} {tpos : Pos} {QL : List D → Prop} (h : E c a sp fun d => E c b sp fun g => ∃ ds gs, d = .list ds ∧ g = .list gs ∧ QL (zipD ds gs)) (hm : c.m.mg "zip" = none) (hg : GlS c.sc "zip" := by rfl)
    (hs : ∀ env, starEach [a, b] env = (false, eval a env) :: starEach [b] env := by intro _; rfl) (hs2 : ∀ env, starEach [b] env = (false, eval b env) :: starEach [] env := by intro _; rfl) (hpl : ∀ env, (backTo pos (starEach [b] env)).any (·.1) = false := by intro _; rfl) :
    W c (.Tuple elts kk tpos) (.Call (.Name "zip" p) [a, b] [] pos) sp QL := Sealed.of fun X hX G F0 F H σ r R k => by
  refine PI_tI (pi_zip (hg.gl hX) (by rw [hX.mg]; exact hm) (pa_cons pe_tE (pa_cons pe_tE pa_nil (hs2 _)) (hs _)) (hs _) (hpl _)) ?_
  refine h X hX G F0 F H σ r _ fun d v F1 H1 q g d1 => ?_
  refine Sealed.run q X hX G F0 F1 H1 σ (r.grow g) _ fun d2 v2 F2 H2 q2 g2 dd2 => ?_
  obtain ⟨ds, gs, rfl, rfl, q3⟩ := q2
  obtain ⟨l, vs, rfl, h1, h2⟩ := dp_list (dp_mono g2.f _ _ d1)
  obtain ⟨l', vs', rfl, h1', h2'⟩ := dp_list dd2
  rw [hX.K]
  refine ⟨l, l', vs, vs', rfl, g2.fh.seq h1, g2.fh.seq h1', k _ _ F2 H2 q3 (g.trans g2) ⟨fun F' H' i d s1 s2 e => ?_, fun F' H' i s1 s2 e => ?_⟩⟩
  · unfold zipD at e
    rw [List.getElem?_zipWith] at e
    cases hc : ds[i]? with
    | none => rw [hc] at e; cases e
    | some d0 =>
      cases hc' : gs[i]? with
      | none => rw [hc, hc'] at e; cases e
      | some g0 =>
        rw [hc, hc'] at e
        have e' : PyData.tuple [d0, g0] = d := Option.some.inj e
        subst e'
        obtain ⟨v, q1, q2⟩ := dpAll_get' h2 hc
        obtain ⟨v', q1', q2'⟩ := dpAll_get' h2' hc'
        refine ⟨⟨vs, vs', v, v', (s1.trans s2).seq h1, (s1.trans s2).seq h1', q1, q1'⟩, fun x H'' q => ?_⟩
        obtain ⟨t, y, z, rfl, hn, rfl, qa, qb⟩ := q
        have := qa vs ((s1.trans s2).seq h1)
        rw [q1] at this; cases this
        have := qb vs' ((s1.trans s2).seq h1')
        rw [q1'] at this; cases this
        have g3 := Grow.new_ (o := .tup [v, v']) s2 hn
        exact ⟨_, g3, .tup upd_same (.cons (dp_mono (s1.trans g3.f) _ _ q2) (.cons (dp_mono (s1.trans g3.f) _ _ q2') .nil))⟩
  · unfold zipD at e
    rw [List.length_zipWith] at e
    refine ⟨vs, vs', (s1.trans s2).seq h1, (s1.trans s2).seq h1', ?_⟩
    rw [dpAll_len h2, dpAll_len h2']
    omega

/-! ### loops -/
def ForQ (c : Cc) (tg : Expr) (ws : List Nat) (body : List Stmt) (sp : List Sl) (P : Pn) (ds : List D) : Prop :=
  ∃ I : Nat → List Sl → Prop, I 0 sp ∧ (∀ i d sp', ds[i]? = some d → I i sp' → Asg c tg ws d sp' fun sp2 => S c body sp2 { nx := I (i + 1), ct := I (i + 1), bk := P.nx, rt := P.rt }) ∧ ∀ sp', I ds.length sp' → P.nx sp'
theorem S1_for {tg it : Expr} {ws : List Nat} (h : W c tg it sp fun ds => ForQ c tg ws body sp P ds)
    (hs : ∀ env x, foldedSetIterable it env x = pure x := by intro _ _; rfl) : S1 c (.For tg it body [] pos) sp P := Sealed.of fun X hX G F0 F H σ r D0 k => by
  refine PS_t (ps_for hX.own hX.calm pi_tI pg_tG pss_t (hs _)) ?_
  refine h X hX G F0 F H σ r _ fun J ds F1 H1 q g w => ?_
  obtain ⟨I, i0, turn, fin⟩ := q
  have r1 := r.grow g
  have sF : Same F0 F1 := r1.f0
  have fr := r1.fr
  refine ⟨fun i m σ' H' => i + m = ds.length ∧ ∃ sp' F', I i sp' ∧ SR c.m.T c.m.K G F1 F' H' sp' σ', ⟨ds.length, by omega, sp, F1, i0, r1.rebase sF (Same.refl _)⟩, ?_⟩
  rintro i m σ' H' ⟨hm, sp', F', hi, r'⟩
  by_cases hlt : i < ds.length
  · have hd : ds[i]? = some ds[i] := List.getElem?_eq_getElem hlt
    obtain ⟨g1, g2⟩ := w.go F' H' i _ r'.f0 r'.sf hd
    refine .inr ⟨g1, fun σ2 H2 => ∃ sp2 F2, I (i + 1) sp2 ∧ SR c.m.T c.m.K G F1 F2 H2 sp2 σ2, fun σ2 H2 ⟨sp2, F2, q1, q2⟩ => ⟨m - 1, by omega, by omega, sp2, F2, q1, q2⟩, fun x H'' y => ?_⟩
    obtain ⟨F'', g3, dx⟩ := g2 x H'' y
    refine turn i _ sp' hd hi X hX G F1 F'' H'' σ' x (r'.grow g3) dx _ fun sp2 F2 H2 σ2 q2 g4 r2 _ => ?_
    refine Sealed.run q2 X hX G F1 F2 H2 σ2 r2 _ ⟨fun sp3 F3 H3 σ3 z1 z2 => ⟨sp3, F3, z1, z2⟩, fun d v F3 H3 z1 z2 z3 => k.rt d v F3 H3 z1 (z2.unbase sF fr) z3, fun sp3 F3 H3 σ3 z1 z2 => k.nx sp3 F3 H3 σ3 z1 (z2.unbase sF fr), fun sp3 F3 H3 σ3 z1 z2 => ⟨sp3, F3, z1, z2⟩⟩
  · refine .inl ⟨w.stop F' H' i r'.f0 r'.sf (by omega), k.nx sp' F' H' σ' (fin sp' ?_) (r'.unbase sF fr)⟩
    have : i = ds.length := by omega
    rw [← this]; exact hi
theorem S1_while {t : Expr} (I : Nat → List Sl → Prop) (h0 : ∃ m, I m sp) (h : ∀ m sp', I m sp' → T c t sp' fun k => if k = true then S c body sp' { nx := fun sp2 => ∃ m', m' < m ∧ I m' sp2, ct := fun sp2 => ∃ m', m' < m ∧ I m' sp2, bk := P.nx, rt := P.rt } else P.nx sp') :
    S1 c (.While t body [] pos) sp P := Sealed.of fun X hX G F0 F H σ r D0 k => by
  refine PS_t (ps_while hX.own pt_tT pss_t) ?_
  obtain ⟨m0, i0⟩ := h0
  refine ⟨fun m σ' H' => ∃ sp' F', I m sp' ∧ SR c.m.T c.m.K G F0 F' H' sp' σ', ⟨m0, sp, F, i0, r⟩, ?_⟩
  rintro m σ' H' ⟨sp', F', hi, r'⟩
  refine h m sp' hi X hX G F0 F' H' σ' r' _ fun z F1 H1 q g => ?_
  cases z with
  | true =>
    refine ⟨fun σ2 H2 => ∃ m', m' < m ∧ ∃ sp2 F2, I m' sp2 ∧ SR c.m.T c.m.K G F0 F2 H2 sp2 σ2, fun σ2 H2 q => q, ?_⟩
    exact Sealed.run q X hX G F0 F1 H1 σ' (r'.grow g) _ ⟨fun sp3 F3 H3 σ3 ⟨m', z1, z2⟩ z3 => ⟨m', z1, sp3, F3, z2, z3⟩, k.rt, k.nx, fun sp3 F3 H3 σ3 ⟨m', z1, z2⟩ z3 => ⟨m', z1, sp3, F3, z2, z3⟩⟩
  | false => exact k.nx sp' F1 H1 σ' q (r'.grow g)
end
end Pl
set_option Elab.async false
set_option linter.all false
set_option maxRecDepth 100000
set_option maxHeartbeats 4000000
set_option autoImplicit false
namespace Pl
open PySem PySem.Spec PyProof.Rows L2

/-! ### a comprehension's block -/
def Cc.blk (c : Cc) (scope : Scope) : Cc := { c with sc := relS scope c.sc, fn := fun x => scope.names.lookup x == some .cell }
theorem Cc.Has.blk {c : Cc} {X : Cx} (hX : c.Has X) (s : Shared) (H : Hp) (scope : Scope) (cl : List (Str × Addr)) (C : Addr) (fp : List Addr) : (c.blk scope).Has (X.blk s H scope (compEnvC scope cl C X.env) fp) where
  prog := hX.prog
  w := hX.w
  K := hX.K
  mg := hX.mg
  base := hX.base
  N := hX.N
  sc := by show relS scope X.env.scope = relS scope c.sc; rw [hX.sc]
  fn := rfl
  calm := hX.calm
  room := hX.room
  xe := rfl
  tab := hX.tab
def wipeS (sp : List Sl) : List Nat → List Sl
  | [] => sp
  | v :: vs => (wipeS sp vs).set v .un
theorem wipeS_len (sp : List Sl) : ∀ vs : List Nat, (wipeS sp vs).length = sp.length
  | [] => rfl
  | v :: vs => by unfold wipeS; rw [List.length_set, wipeS_len sp vs]
theorem wipe_in {σ : L2.St} {i : Nat} : ∀ {vs : List Nat}, i ∈ vs → i < σ.length → (wipe σ vs)[i]? = some none
  | v :: vs, h, hl => by
    unfold wipe
    by_cases e : v = i
    · subst e
      rw [List.getElem?_set_self (by rw [wipe_length]; exact hl)]
    · rw [List.getElem?_set_ne e]
      rcases List.mem_cons.mp h with h | h
      · exact absurd h.symm e
      · exact wipe_in h hl
theorem wipeS_get {sp : List Sl} {i : Nat} {s : Sl} : ∀ {vs : List Nat}, (wipeS sp vs)[i]? = some s → s = .un ∨ (sp[i]? = some s ∧ i ∉ vs)
  | [], h => .inr ⟨h, by simp⟩
  | v :: vs, h => by
    unfold wipeS at h
    by_cases e : v = i
    · subst e
      by_cases hv : v < (wipeS sp vs).length
      · rw [List.getElem?_set_self hv] at h; cases h; exact .inl rfl
      · rw [List.getElem?_eq_none (by simpa using hv)] at h; cases h
    · rw [List.getElem?_set_ne e] at h
      rcases wipeS_get h with h | ⟨h, hn⟩
      · exact .inl h
      · exact .inr ⟨h, by simp only [List.mem_cons, not_or]; exact ⟨fun z => e z.symm, hn⟩⟩
theorem SR.wipe {T : Addr → Prop} {K : PySem.W.Frag} {G F0 F H : Hp} {sp : List Sl} {σ : L2.St} (r : SR T K G F0 F H sp σ) (vs : List Nat) : SR T K G F0 F H (wipeS sp vs) (L2.wipe σ vs) := by
  refine ⟨r.sf, r.f0, r.g, r.fr, by rw [wipeS_len, wipe_length]; exact r.len, fun i s x h1 h2 => ?_, fun i j s t a hij h1 h2 hs ht h3 h4 => ?_, r.tab⟩
  · rcases wipeS_get h1 with e | ⟨h1, hn⟩
    · subst e; trivial
    · rw [wipe_out hn] at h2
      exact r.sl i s x h1 h2
  · rcases wipeS_get h1 with e | ⟨h1, hn⟩
    · subst e; cases hs
    · rcases wipeS_get h2 with e | ⟨h2, hm⟩
      · subst e; cases ht
      · rw [wipe_out hn] at h3
        rw [wipe_out hm] at h4
        exact r.inj i j s t a hij h1 h2 hs ht h3 h4
theorem wipe_eq {σ σ2 : L2.St} {ws vs : List Nat} (h : ∀ j, j ∉ ws → σ2[j]? = (wipe σ vs)[j]?) (hw : ∀ j, j ∈ ws → j ∈ vs) (hl : σ2.length = σ.length) : wipe σ2 vs = wipe σ vs := by
  apply List.ext_getElem?
  intro j
  by_cases e : j ∈ vs
  · by_cases hj : j < σ.length
    · rw [wipe_in e hj, wipe_in e (by rw [hl]; exact hj)]
    · rw [List.getElem?_eq_none (by rw [wipe_length]; omega), List.getElem?_eq_none (by rw [wipe_length]; omega)]
  · rw [wipe_out e]
    exact h j fun z => e (hw j z)
theorem SR.out_upd {T : Addr → Prop} {K : PySem.W.Frag} {G F0 F H : Hp} {sp : List Sl} {σ : L2.St} (r : SR T K G F0 F H sp σ) {d : Addr} {o : HO} (hF : F d = none) (hG : G d = none) (hn : ∀ (j : Nat) (t : Sl), sp[j]? = some t → t.own = true → σ[j]? ≠ some (some (V.ref d))) : SR T K G F0 F (upd H d o) sp σ := by
  refine ⟨fun x u e => by rw [upd_ne (ne_of_none e hF)]; exact r.sf _ _ e, r.f0, fun x u e => by rw [upd_ne (ne_of_none e hG)]; exact r.g _ _ e, r.fr, r.len, fun i s x h1 h2 => ?_, r.inj, r.tab⟩
  have ok := r.sl i s x h1 h2
  cases et : s.own with
  | false =>
    cases s with
    | un => trivial
    | v d => exact ok
    | l ds => cases et
    | dk ds => cases et
    | dt ds => cases et
  | true =>
    obtain ⟨b, o', e1, e2', e3', e4', e5'⟩ := (slOk_own et).mp ok
    subst e1
    have hb : b ≠ d := fun z => by subst z; exact hn i s h1 et h2
    exact (slOk_own et).mpr ⟨b, o', rfl, by rw [upd_ne hb]; exact e2', e3', e4', e5'⟩

/-! ### a clause's tests -/
def tTs (X : Cx) (ifs : List Expr) : TT := fun σ H Q => ∀ (pins : List (Addr × Obj)) (s : Shared), Inv X pins σ H s →
  wpAny (model X.prog X.w) X.A (forIn ifs true fun c r => if r = true then do let ok ← isTrue c X.env (eval c X.env); pure (ForInStep.yield ok) else pure (ForInStep.yield r)) (TP X pins σ Q) X.xe s
theorem pts_tTs {X : Cx} {ifs : List Expr} : PTs X ifs (tTs X ifs) := ⟨fun pins s σ H Q I h => h pins s I⟩
theorem PTs_tTs {X : Cx} {ifs : List Expr} {t : TT} {σ : L2.St} {H : Hp} {Q : Bool → Hp → Prop} (h : PTs X ifs t) (q : t σ H Q) : tTs X ifs σ H Q := fun pins s I => h.run pins s σ H Q I q
abbrev Ts (c : Cc) (ifs : List Expr) (sp : List Sl) (Q : Bool → Prop) : Prop := Sealed (∀ (X : Cx), c.Has X → ∀ (G F0 F H : Hp) (σ : L2.St), SR c.m.T c.m.K G F0 F H sp σ → ∀ R : Bool → Hp → Prop,
  (∀ b F' H', Q b → Grow F H F' H' → R b H') → tTs X ifs σ H R)
section
variable {c : Cc} {sp : List Sl} {P P' : Pn} {Q : D → Prop} {e a b : Expr} {st : Stmt} {rest ss body : List Stmt} {pos p apos : Pos}
theorem Ts_nil {QT : Bool → Prop} (h : QT true) : Ts c [] sp QT := Sealed.of fun X hX G F0 F H σ r R k => PTs_tTs pts_nil (k true F H h (Grow.refl r.sf))
theorem Ts_one {QT : Bool → Prop} (h : T c e sp QT) : Ts c [e] sp QT := Sealed.of fun X hX G F0 F H σ r R k => PTs_tTs (pts_one pt_tT) (h X hX G F0 F H σ r R k)

def LcQ (c' : Cc) (tg elt : Expr) (ifs : List Expr) (ws : List Nat) (sp' : List Sl) (QL : List D → Prop) (ds : List D) : Prop :=
  ∃ g : Nat → Option D, ds.length ≤ sizeLine ∧ (∀ i d, ds[i]? = some d → Asg c' tg ws d sp' fun sp2 => Ts c' ifs sp2 fun t => (t = true ∧ ∃ y, g i = some y ∧ E c' elt sp2 fun z => z = y) ∨ (t = false ∧ g i = none)) ∧ QL ((List.range ds.length).filterMap g)
/-- what is asked of [elt for tg in it if ..]; g tells by the turn what is put in -/
def LcP (c : Cc) (elt tg it : Expr) (ifs : List Expr) (scope : Scope) (own : List (Str × Nat)) (ws : List Nat) (sp : List Sl) (QL : List D → Prop) : Prop :=
  W c tg it sp fun ds => LcQ (c.blk scope) tg elt ifs ws (wipeS sp (own.map (·.2))) QL ds
def gB (X : Cx) (scope : Scope) (tg : Expr) : TG := fun v σ H Q => ∀ (s0 : Shared) (H0 : Hp) (C : Addr) (cl : List (Str × Addr)) (fp : List Addr), tG (X.blk s0 H0 scope (compEnvC scope cl C X.env) fp) tg v σ H Q
def ttB (X : Cx) (scope : Scope) (ifs : List Expr) : TT := fun σ H Q => ∀ (s0 : Shared) (H0 : Hp) (C : Addr) (cl : List (Str × Addr)) (fp : List Addr), tTs (X.blk s0 H0 scope (compEnvC scope cl C X.env) fp) ifs σ H Q
def teB (X : Cx) (scope : Scope) (elt : Expr) : TE := fun σ H Q => ∀ (s0 : Shared) (H0 : Hp) (C : Addr) (cl : List (Str × Addr)) (fp : List Addr), tE (X.blk s0 H0 scope (compEnvC scope cl C X.env) fp) elt σ H Q
theorem lc_read {elt tg it : Expr} {ifs : List Expr} {scope : Scope} {own : List (Str × Nat)} {ws : List Nat} {QL : List D → Prop} (hw : ∀ j ∈ ws, j ∈ own.map (·.2)) (h : LcP c elt tg it ifs scope own ws sp QL)
    {X : Cx} (hX : c.Has X) {G F0 F H : Hp} {σ : L2.St} (r : SR c.m.T c.m.K G F0 F H sp σ) {R : VK} (k : ∀ ds vs p F' H', QL ds → Grow F H F' H' → H p = none → F' p = none → H' p = some (.lst vs) → DpAll c.m.K F' vs ds → R (.ref p) H') :
    tLc (tI X tg it) (gB X scope tg) (ttB X scope ifs) (teB X scope elt) (own.map (·.2)) σ H R := by
  refine Sealed.run h X hX G F0 F H σ r _ fun J ds F1 H1 q g1 w => ?_
  obtain ⟨g, hz, step, fin⟩ := q
  intro Dn hD
  have r1 := r.grow g1
  have hF1 : F1 Dn = none := g1.fh.free hD
  have hG1 : G Dn = none := r1.g.free hD
  have hown : ∀ (j : Nat) (t : Sl), (wipeS sp (own.map (·.2)))[j]? = some t → t.own = true → (wipe σ (own.map (·.2)))[j]? ≠ some (some (V.ref Dn)) := fun j t h1 h2 h3 => by
    obtain ⟨b, o, e1, e2, _⟩ := (slOk_own h2).mp ((r1.wipe (own.map (·.2))).sl j t _ h1 h3)
    cases e1
    rw [hD] at e2; cases e2
  have len_le : ∀ n : Nat, ((List.range n).filterMap g).length ≤ n := fun n => Nat.le_trans (List.length_filterMap_le _ _) (by simp)
  refine ⟨fun i m H' => i + m = ds.length ∧ ∃ F' acc, Grow F1 H1 F' H' ∧ F' Dn = none ∧ H' Dn = some (.lst acc) ∧ DpAll c.m.K F' acc ((List.range i).filterMap g) ∧ SR c.m.T c.m.K G F0 F' H' (wipeS sp (own.map (·.2))) (wipe σ (own.map (·.2))),
    ⟨ds.length, by omega, F1, [], Grow.out g1.fh hD, hF1, upd_same, .nil, (r1.wipe _).out_upd hF1 hG1 hown⟩, ?_⟩
  rintro i m H' ⟨hm, F', acc, gr, hF', hH', hacc, r'⟩
  by_cases hlt : i < ds.length
  · have hd : ds[i]? = some ds[i] := List.getElem?_eq_getElem hlt
    obtain ⟨q1, q2⟩ := w.go F' H' i _ gr.f gr.fh hd
    refine .inr ⟨q1, fun H2 => ∃ F2 acc2, Grow F1 H1 F2 H2 ∧ F2 Dn = none ∧ H2 Dn = some (.lst acc2) ∧ DpAll c.m.K F2 acc2 ((List.range (i + 1)).filterMap g) ∧ SR c.m.T c.m.K G F0 F2 H2 (wipeS sp (own.map (·.2))) (wipe σ (own.map (·.2))),
      fun H2 z => ⟨m - 1, by omega, by omega, z⟩, fun x H'' y => ?_⟩
    obtain ⟨F'', g3, dx⟩ := q2 x H'' y
    intro s0 H0 C cl fp
    refine step i _ hd _ (hX.blk s0 H0 scope cl C fp) G F0 F'' H'' _ x (r'.grow g3) dx _ fun sp2 F2 H2 σ2 q3 g4 r2 off => ?_
    refine ⟨wipe_eq off.1 hw (off.2.trans (wipe_length _ _)), fun s1 H1' C1 cl1 fp1 => ?_⟩
    refine q3 _ (hX.blk s1 H1' scope cl1 C1 fp1) G F0 F2 H2 σ2 r2 _ fun t F3 H3 q4 g5 => ?_
    have r3 : SR c.m.T c.m.K G F0 F3 H3 (wipeS sp (own.map (·.2))) (L2.wipe σ (own.map (·.2))) := ((r'.grow g3).grow g4).grow g5
    have grow3 : Grow F1 H1 F3 H3 := ((gr.trans g3).trans g4).trans g5
    have keepD : ∀ {F4 H4 : Hp}, Grow F' H' F4 H4 → F4 Dn = none ∧ H4 Dn = some (.lst acc) := fun {F4 H4} gg => by
      refine ⟨?_, gg.h _ _ hH'⟩
      cases qf : F4 Dn with
      | none => rfl
      | some u =>
        have := gg.new Dn hF' (by rw [qf]; exact fun z => by cases z)
        rw [hH'] at this; cases this
    have outD : ∀ {F4 H4 : Hp} {o : HO}, Grow F1 H1 F4 H4 → F4 Dn = none → Grow F1 H1 F4 (upd H4 Dn o) := fun {F4 H4 o} gg hf =>
      ⟨gg.f, fun b u e => by rw [upd_ne (ne_of_none e hf)]; exact gg.fh _ _ e, fun b u e => by rw [upd_ne (ne_of_none e hD)]; exact gg.h _ _ e, gg.new, gg.nf⟩
    rcases q4 with ⟨rfl, y, gy, ey⟩ | ⟨rfl, gn⟩
    · rw [if_pos rfl]
      intro s2 H2' C2 cl2 fp2
      refine ey _ (hX.blk s2 H2' scope cl2 C2 fp2) G F0 F3 H3 σ2 (r2.grow g5) _ fun z vz F4 H4 qz g6 dz => ?_
      subst qz
      have gall : Grow F' H' F4 H4 := ((g3.trans g4).trans g5).trans g6
      obtain ⟨hf4, hh4⟩ := keepD gall
      have hlen : acc.length = ((List.range i).filterMap g).length := dpAll_len hacc
      have := len_le i
      refine ⟨acc, hh4, by omega, F4, acc ++ [vz], outD (gr.trans gall) hf4, hf4, upd_same, ?_, (r3.grow g6).out_upd hf4 hG1 hown⟩
      rw [List.range_succ, List.filterMap_append]
      refine dpAll_append (dpAll_mono gall.f _ _ hacc) ?_
      show DpAll _ _ _ (List.filterMap g [i])
      rw [List.filterMap_cons, gy]
      exact .cons dz .nil
    · rw [if_neg Bool.false_ne_true]
      obtain ⟨hf4, hh4⟩ := keepD ((g3.trans g4).trans g5)
      refine ⟨F3, acc, grow3, hf4, hh4, ?_, r3⟩
      rw [List.range_succ, List.filterMap_append]
      show DpAll _ _ _ (_ ++ List.filterMap g [i])
      rw [List.filterMap_cons, gn]
      show DpAll _ _ _ (_ ++ [])
      rw [List.append_nil]
      exact dpAll_mono ((g3.trans g4).trans g5).f _ _ hacc
  · have e : i = ds.length := by omega
    subst e
    exact .inl ⟨w.stop F' H' _ gr.f gr.fh (Nat.le_refl _), k _ acc Dn F' H' fin (g1.trans gr) (g1.h.free hD) hF' hH' hacc⟩
theorem EF_lc {elt tg it : Expr} {ifs : List Expr} {scope : Scope} {own : List (Str × Nat)} {ws : List Nat} {QL : List D → Prop} (hN : c.N.Nodup) (ok : blkC c.N c.sc scope own = true) (hw : ∀ j ∈ ws, j ∈ own.map (·.2))
    (h : LcP c elt tg it ifs scope own ws sp QL) (hs : ∀ env x, foldedSetIterable it env x = pure x := by intro _ _; rfl) : EF c (.ListComp elt [⟨tg, it, ifs, 0⟩] scope pos) sp QL := Sealed.of fun X hX G F0 F H σ r R k =>
  PE_tE (pe_lc (own := own) hX.calm (by rw [hX.N]; exact hN) pi_tI (by rw [hX.N, hX.sc]; exact blkOk_by ok)
    (fun s0 H0 C cl fp => ⟨fun pins s σ H v u Q I r h => h s0 H0 C cl fp pins s u I r⟩) (fun s0 H0 C cl fp => ⟨fun pins s σ H Q I h => h s0 H0 C cl fp pins s I⟩) (fun s0 H0 C cl fp => ⟨fun pins s σ H Q I h => h s0 H0 C cl fp pins s I⟩) (hs _)) (lc_read hw h hX r k)
/-- x = [..] on one line, x a local: a list of its own -/
theorem S1_setLc (i : Nat) {x : Str} {py spos : Pos} {elt tg it : Expr} {ifs : List Expr} {scope : Scope} {own : List (Str × Nat)} {ws : List Nat} (hN : c.N.Nodup) (ok : blkC c.N c.sc scope own = true) (hw : ∀ j ∈ ws, j ∈ own.map (·.2))
    (h : LcP c elt tg it ifs scope own ws sp fun ds => P.nx (sp.set i (.l ds))) (hi : c.N[i]? = some x := by rfl) (hx : c.sc.names.lookup x = some .local := by rfl)
    (hsw : ∀ env : Env, env.scope = c.sc → swapsWith (.ListComp elt [⟨tg, it, ifs, 0⟩] scope pos) (some (.Name x py)) spos.line env = pure true := by intro env he; cases env; subst he; rfl)
    (hs : ∀ env x, foldedSetIterable it env x = pure x := by intro _ _; rfl) : S1 c (.Assign [.Name x py] (.ListComp elt [⟨tg, it, ifs, 0⟩] scope pos) spos) sp P := Sealed.of fun X hX G F0 F H σ r D0 k =>
  PS_t (ps_setLc (i := i) (own := own) hX.calm (by rw [hX.N]; exact hN) (by rw [hX.N]; exact hi) (by rw [hX.sc]; exact hx) (hsw _ hX.sc) pi_tI (by rw [hX.N, hX.sc]; exact blkOk_by ok)
    (fun s0 H0 C cl fp => ⟨fun pins s σ H v u Q I r h => h s0 H0 C cl fp pins s u I r⟩) (fun s0 H0 C cl fp => ⟨fun pins s σ H Q I h => h s0 H0 C cl fp pins s I⟩) (fun s0 H0 C cl fp => ⟨fun pins s σ H Q I h => h s0 H0 C cl fp pins s I⟩) (hs _))
    (show tLc (tI X tg it) (gB X scope tg) (ttB X scope ifs) (teB X scope elt) (own.map (·.2)) σ H _ from
      lc_read hw h hX r fun ds vs p F1 H1 q g hn hF hH hd => k.nx _ F1 H1 _ q (r.set_new (s := .l ds) i g hn hH hF ⟨vs, rfl, hd⟩ rfl))
end
end Pl
set_option Elab.async false
set_option linter.all false
set_option maxRecDepth 100000
set_option maxHeartbeats 4000000
set_option autoImplicit false
namespace Pl
open PySem PySem.Spec PyProof.Rows L2

/-! ### a def of the text keeps its promise -/
def start0 (N : List Str) (ds : List D) : List Sl := ds.map Sl.v ++ List.replicate (N.length - ds.length) Sl.un
theorem sr_start {T : Addr → Prop} {K : PySem.W.Frag} {N : List Str} {F H : Hp} {vs : List V} {ds : List D} (s : Same F H) (htb : TabF T F) (hd : DpAll K F vs ds) : SR T K H F F H (start0 N ds) (L2.start N vs) := by
  have hl := dpAll_len hd
  refine ⟨s, Same.refl _, Same.refl _, fun a h1 h2 => absurd h1 h2, ?_, fun i t x h1 h2 => ?_, fun i j t u a hij h1 h2 ht hu => ?_, htb⟩
  · unfold start0 L2.start
    simp [hl]
  · unfold start0 at h1
    unfold L2.start at h2
    by_cases hi : i < ds.length
    · rw [List.getElem?_append_left (by simpa using hi), List.getElem?_map] at h1
      rw [List.getElem?_append_left (by simpa [hl] using hi), List.getElem?_map] at h2
      cases hc : ds[i]? with
      | none => rw [hc] at h1; cases h1
      | some d =>
        rw [hc] at h1
        cases h1
        obtain ⟨v, q1, q2⟩ := dpAll_get' hd hc
        rw [q1] at h2
        cases h2
        exact ⟨v, rfl, q2⟩
    · rw [List.getElem?_append_right (by simpa using hi), List.getElem?_replicate] at h1
      split at h1
      · cases h1; trivial
      · cases h1
  · unfold start0 at h1
    by_cases hi : i < ds.length
    · rw [List.getElem?_append_left (by simpa using hi), List.getElem?_map] at h1
      cases hc : ds[i]? with
      | none => rw [hc] at h1; cases h1
      | some d => rw [hc] at h1; cases h1; cases ht
    · rw [List.getElem?_append_right (by simpa using hi), List.getElem?_replicate] at h1
      split at h1
      · cases h1; cases ht
      · cases h1
theorem Fd.mk' {m : Md} {x qual : Str} {st : Stmt} {f : Addr} {fd : FuncData} {N ps : List Str} {k n : Nat} {Sp : List D → (D → Prop) → Prop} (Fn : Fun m.K x qual st f fd) (hm : m.mg x = some (.ref f)) (Sc : FnScope N ps (defScope st)) (hb : Binds m.K fd ps []) (hn : ps.length = n)
    (mono : ∀ ds (Q Q' : D → Prop), (∀ d, Q d → Q' d) → Sp ds Q → Sp ds Q') (len : ∀ ds (Q : D → Prop), Sp ds Q → ds.length = n)
    (body : ∀ ds (Q : D → Prop), Sp ds Q → S ⟨m, N, defScope st, fun _ => true, k, false⟩ (defBody st) (start0 N ds) { nx := fun _ => Q .none, rt := Q }) : Fd m x (k + 1) n Sp := by
  refine ⟨⟨f, fd, ps, ?_, hm, Fn.kp, hb⟩, mono, len⟩
  refine Fn.ok Sc (fun vs H Q E h => ?_) (fun cdv A outer s H vs Q E hr h => ?_)
  · obtain ⟨F, ds, _, _, h3, _⟩ := h
    rw [h3, hn]
  · obtain ⟨F, ds, h1, h2, h3, h4⟩ := h
    have hX : Cc.Has ⟨m, N, defScope st, fun _ => true, k, false⟩ ((cxOf CX0 m.P m.w m.K m.mg m.base N qual (defScope st) f cdv A outer s H E).nox) :=
      ⟨rfl, rfl, rfl, rfl, rfl, rfl, rfl, rfl, rfl, hr, rfl, fun h => by cases h⟩
    refine ⟨_, pss_t, body ds _ h4 _ hX H F F H _ (sr_start h1.1 h1.2 h2) _ ⟨fun sp F' H' σ q r => ?_, fun d v F' H' q kp hd => ?_, fun _ _ _ _ q => q.elim, fun _ _ _ _ q => q.elim⟩⟩
    · exact q .non F' H' ⟨r.f0, r.sf, r.g, r.fr, fun _ => r.tab.1⟩ .non
    · exact q v F' H' ⟨kp.f0, kp.fh, kp.g, kp.fr, fun _ => kp.nf⟩ hd
/-- a promise by a family: arguments, premise, value -/
def spc {ι : Type} (args : ι → List D) (pre : ι → Prop) (val : ι → D) : List D → (D → Prop) → Prop := fun ds Q => ∃ i, ds = args i ∧ pre i ∧ Q (val i)
theorem spc_mono {ι : Type} {args : ι → List D} {pre : ι → Prop} {val : ι → D} : ∀ ds (Q Q' : D → Prop), (∀ d, Q d → Q' d) → spc args pre val ds Q → spc args pre val ds Q' := fun ds Q Q' h ⟨i, h1, h2, h3⟩ => ⟨i, h1, h2, h _ h3⟩

section
variable {c : Cc} {sp : List Sl} {P P' : Pn} {Q : D → Prop} {e a b : Expr} {st : Stmt} {rest ss body : List Stmt} {pos p apos : Pos}
/-! ### subscripts -/
def ixS (X : Cx) : R2 := fun x y H Q => ∀ (value slice : Expr) (pins : List (Addr × Obj)) (s : Shared) (σ : L2.St) (v u : Value), Inv X pins σ H s → RelV x v → RelV y u →
    subscripted slice false v u = operate [v, u] (getItem v u) → wpAny (model X.prog X.w) X.A (subscriptTail value slice v u) (EP X pins σ Q) X.xe s
theorem ix_ixS {X : Cx} : IxR X (ixS X) := fun value slice pins s σ H x y v u Q I rx ry h hs => h value slice pins s σ v u I rx ry hs
def IxP (c : Cc) (d g : D) (Q : D → Prop) : Prop := ∀ (X : Cx), c.Has X → ∀ (F H : Hp) (x y : V) (R : VK), Same F H → Dp c.m.K F x d → Dp c.m.K F y g →
  (∀ d' v F' H', Q d' → Grow F H F' H' → Dp c.m.K F' v d' → R v H') → ixS X x y H R
theorem IxP.of {d g : D} (h : ∀ X : Cx, c.Has X → ∃ r : R2, IxR X r ∧ ∀ (F H : Hp) (x y : V) (R : VK), Same F H → Dp c.m.K F x d → Dp c.m.K F y g → (∀ d' v F' H', Q d' → Grow F H F' H' → Dp c.m.K F' v d' → R v H') → r x y H R) :
    IxP c d g Q := fun X hX F H x y R s h1 h2 k value slice pins st σ v u I rx ry hs => by
  obtain ⟨r, ho, q⟩ := h X hX
  exact ho value slice pins st σ H x y v u R I rx ry (q F H x y R s h1 h2 k) hs
theorem E_ix (h : E c a sp fun d => E c b sp fun g => IxP c d g Q) (hs : PlainIx b := by intro _ _; rfl) : E c (.Subscript a b pos) sp Q := Sealed.of fun X hX G F0 F H σ r R k => by
  refine PE_tE (pe_ix ix_ixS pe_tE pe_tE hs) ?_
  refine h X hX G F0 F H σ r _ fun d v F1 H1 hb g1 d1 => ?_
  refine hb X hX G F0 F1 H1 σ (r.grow g1) _ fun g u F2 H2 ho g2 d2 => ?_
  exact ho X hX F2 H2 v u R g2.fh (dp_mono g2.f _ _ d1) d2 fun d' w F3 H3 q g3 d3 => k d' w F3 H3 q ((g1.trans g2).trans g3) d3
theorem dpAll_at {K : PySem.W.Frag} {F : Hp} {ds : List D} {vs : List V} {i : Int} {d : D} (h : DpAll K F vs ds) (e : atI ds i = some d) : ∃ v, atI vs i = some v ∧ Dp K F v d := by
  unfold atI at e ⊢
  rw [dpAll_len h]
  cases q : ixN ds.length i with
  | none => rw [q] at e; cases e
  | some j =>
    rw [q] at e
    obtain ⟨v, q1, q2⟩ := dpAll_get' h (show ds[j]? = some d from e)
    exact ⟨v, q1, q2⟩
theorem ixp_list {ds : List D} {i : Int} {d : D} (e : atI ds i = some d) (q : Q d) : IxP c (.list ds) (.int i) Q := .of fun X hX => ⟨_, ix_list, fun F H x y R s h1 h2 k => by
  obtain ⟨l, vs, rfl, q1, q2⟩ := dp_list h1
  cases dp_int h2
  obtain ⟨v, q3, q4⟩ := dpAll_at q2 e
  rw [hX.K]
  exact ⟨l, vs, i, v, rfl, rfl, s.seq q1, q3, k d v F H q (Grow.refl s) q4⟩⟩
theorem ixp_tup {ds : List D} {i : Int} {d : D} (e : atI ds i = some d) (q : Q d) : IxP c (.tuple ds) (.int i) Q := .of fun X hX => ⟨_, ix_tup, fun F H x y R s h1 h2 k => by
  obtain ⟨l, vs, rfl, q1, q2⟩ := dp_tuple h1
  cases dp_int h2
  obtain ⟨v, q3, q4⟩ := dpAll_at q2 e
  rw [hX.K]
  exact ⟨l, vs, i, v, rfl, rfl, sqT_mono s q1, q3, k d v F H q (Grow.refl s) q4⟩⟩
theorem ixp_str {x : Str} {i : Int} {cp : Nat} (hl : x.length ≤ sizeLine) (e : atI x.cps.toList i = some cp) (q : Q (.str ⟨#[cp]⟩)) : IxP c (.str x) (.int i) Q := .of fun X hX => ⟨_, ix_str, fun F H x' y R s h1 h2 k => by
  cases dp_str h1
  cases dp_int h2
  exact ⟨x, i, cp, rfl, rfl, hl, e, k _ _ F H q (Grow.refl s) (.str _)⟩⟩
theorem atI_of {α : Type} {xs : List α} {i : Int} {n : Nat} {x : α} (h : i = (n : Int)) (e : xs[n]? = some x) : atI xs i = some x := by
  subst h; exact atI_nat e
theorem atI_of_nonneg {α : Type} {xs : List α} {i : Int} (h : 0 ≤ i) : atI xs i = xs[i.toNat]? := by
  obtain ⟨n, rfl⟩ := Int.eq_ofNat_of_zero_le h
  unfold atI ixN
  rw [if_pos h]
  by_cases h2 : (n : Int) < (xs.length : Int)
  · rw [if_pos h2]; rfl
  · rw [if_neg h2]
    show none = _
    rw [List.getElem?_eq_none (by simp; omega)]
theorem atI_map {α β : Type} {f : α → β} {xs : List α} {i : Int} : atI (xs.map f) i = (atI xs i).map f := by
  unfold atI
  rw [List.length_map]
  cases ixN xs.length i with
  | none => rfl
  | some j => simp

/-! ### slices -/
def tO (X : Cx) (e : Option Expr) : TO := fun σ H Q => ∀ (pins : List (Addr × Obj)) (s : Shared), Inv X pins σ H s → wpAny (model X.prog X.w) X.A (evalPart e X.env) (fun u s' => ∃ o H', Inv X pins σ H' s' ∧ IsPart u o ∧ Q o H') X.xe s
theorem po_tO {X : Cx} {e : Option Expr} : PO X e (tO X e) := ⟨fun pins s σ H Q I h => h pins s I⟩
abbrev O (c : Cc) (e : Option Expr) (sp : List Sl) (Q : Option Int → Prop) : Prop := Sealed (∀ (X : Cx), c.Has X → ∀ (G F0 F H : Hp) (σ : L2.St), SR c.m.T c.m.K G F0 F H sp σ → ∀ R : Option Int → Hp → Prop,
  (∀ o F' H', Q o → Grow F H F' H' → R o H') → tO X e σ H R)
theorem O_none {QO : Option Int → Prop} (q : QO none) : O c none sp QO := Sealed.of fun X hX G F0 F H σ r R k pins s I => po_none.run pins s σ H R I (k none F H q (Grow.refl r.sf))
theorem O_some {QO : Option Int → Prop} (h : E c e sp fun d => ∃ i, d = .int i ∧ QO (some i)) : O c (some e) sp QO := Sealed.of fun X hX G F0 F H σ r R k pins s I => (po_some pe_tE).run pins s σ H R I (by
  refine h X hX G F0 F H σ r _ fun d v F1 H1 q g d1 => ?_
  obtain ⟨i, rfl, q⟩ := q
  cases d1
  exact ⟨i, rfl, k _ F1 H1 q g⟩)
def SlP (c : Cc) (d : D) (lo hi : Option Int) (Q : D → Prop) : Prop := ∀ (X : Cx), c.Has X → ∃ r, SlR X r ∧ ∀ (F H : Hp) (x : V) (R : VK), Same F H → Dp c.m.K F x d →
  (∀ d' v F' H', Q d' → Grow F H F' H' → Dp c.m.K F' v d' → R v H') → r x lo hi H R
def slS (X : Cx) : V → Option Int → Option Int → Hp → VK → Prop := fun x lo hi H Q => ∃ r, SlR X r ∧ r x lo hi H Q
theorem sl_slS {X : Cx} : SlR X (slS X) := fun pins s σ H x v vl vu lo hi sl Q I rx hs pl pu ⟨r, hr, q⟩ => hr pins s σ H x v vl vu lo hi sl Q I rx hs pl pu q
theorem E_slice {lo hi : Option Expr} {p2 : Pos} (h : E c e sp fun d => O c lo sp fun l => O c hi sp fun u => SlP c d l u Q) : E c (.Subscript e (.Slice lo hi none p2) pos) sp Q := Sealed.of fun X hX G F0 F H σ r R k => by
  refine PE_tE (pe_slice sl_slS pe_tE po_tO po_tO) ?_
  refine h X hX G F0 F H σ r _ fun d v F1 H1 q1 g1 d1 => ?_
  refine q1 X hX G F0 F1 H1 σ (r.grow g1) _ fun l F2 H2 q2 g2 => ?_
  refine Sealed.run q2 X hX G F0 F2 H2 σ ((r.grow g1).grow g2) _ fun u F3 H3 q3 g3 => ?_
  obtain ⟨rr, hr, q4⟩ := q3 X hX
  exact ⟨rr, hr, q4 F3 H3 v R g3.fh (dp_mono (g2.f.trans g3.f) _ _ d1) fun d' w F4 H4 q g4 d4 => k d' w F4 H4 q (((g1.trans g2).trans g3).trans g4) d4⟩
def cutD (xs : List D) (lo hi : Option Int) : List D := (xs.drop (HT.sIx xs.length 0 lo)).take (HT.sIx xs.length xs.length hi - HT.sIx xs.length 0 lo)
theorem dpAll_cut {K : PySem.W.Frag} {F : Hp} {ds : List D} {vs : List V} {lo hi : Option Int} (h : DpAll K F vs ds) : DpAll K F (cutV vs lo hi) (cutD ds lo hi) := by
  unfold cutV cutD
  rw [dpAll_len h]
  exact dpAll_take _ (dpAll_drop _ h)
theorem slp_list {ds : List D} {lo hi : Option Int} (q : Q (.list (cutD ds lo hi))) : SlP c (.list ds) lo hi Q := fun X hX => ⟨_, sl_list, fun F H x R s h k => by
  obtain ⟨l, vs, rfl, q1, q2⟩ := dp_list h
  rw [hX.K]
  refine ⟨l, vs, rfl, s.seq q1, fun p hp => ?_⟩
  have g := Grow.new_ (o := .lst (cutV vs lo hi)) s hp
  exact k _ _ _ _ q g (.lst (.inl (.inl upd_same)) (dpAll_mono g.f _ _ (dpAll_cut q2)))⟩
theorem slp_str {z : Str} {lo hi : Option Int} (hl : z.length ≤ sizeLine) (q : Q (.str (cutS z lo hi))) : SlP c (.str z) lo hi Q := fun X hX => ⟨_, sl_str, fun F H x R s h k => by
  cases dp_str h
  exact ⟨z, rfl, hl, k _ _ F H q (Grow.refl s) (.str _)⟩⟩

/-! ### isinstance of a built-in class -/
def isiD : D → String → Bool
  | .none, T => T == "NoneType"
  | .bool _, T => T == "bool" || T == "int"
  | .int _, T => T == "int"
  | .str _, T => T == "str"
  | .list _, T => T == "list"
  | .tuple _, T => T == "tuple"
  | .dict _, T => T == "dict"
def kitTab (a T : String) : Bool := kitB a T == some (match a with
  | "bool" => T == "bool" || T == "int"
  | a => a == T)
theorem kit_tab : (["NoneType", "bool", "int", "str", "list", "tuple", "dict"].all fun a => ["int", "bool", "str", "list", "tuple"].all fun T => kitTab a T) = true := by decide +kernel
theorem dp_isi {K : PySem.W.Frag} {F H : Hp} {v : V} {d : D} {T : String} (s : Same F H) (h : Dp K F v d) (hT : T ∈ ["int", "bool", "str", "list", "tuple"]) : ∃ t, TyX K H v t ∧ PySem.W.kitOne K t (.type T) = some (isiD d T) := by
  have tab : ∀ a, a ∈ ["NoneType", "bool", "int", "str", "list", "tuple", "dict"] → kitB a T = some (match a with | "bool" => T == "bool" || T == "int" | a => a == T) := fun a ha => by
    have := List.all_eq_true.mp (List.all_eq_true.mp kit_tab a ha) T hT
    unfold kitTab at this
    exact eq_of_beq this
  have sw : ∀ a b : String, (a == b) = (b == a) := fun a b => by
    by_cases e : a = b
    · subst e; rfl
    · rw [beq_eq_false_iff_ne.mpr e, beq_eq_false_iff_ne.mpr fun z => e z.symm]
  cases h with
  | non => exact ⟨_, .base .non, by have := kit_ty (K := K) (tab "NoneType" (by decide)); rw [this]; show some ("NoneType" == T) = some (T == "NoneType"); rw [sw]⟩
  | bl b => exact ⟨_, .base (.bl b), kit_ty (K := K) (tab "bool" (by decide))⟩
  | int b => exact ⟨_, .base (.int b), by have := kit_ty (K := K) (tab "int" (by decide)); rw [this]; show some ("int" == T) = some (T == "int"); rw [sw]⟩
  | str b => exact ⟨_, .base (.str b), by have := kit_ty (K := K) (tab "str" (by decide)); rw [this]; show some ("str" == T) = some (T == "str"); rw [sw]⟩
  | lst h1 h2 =>
    refine ⟨.type "list", ?_, by have := kit_ty (K := K) (tab "list" (by decide)); rw [this]; show some ("list" == T) = some (T == "list"); rw [sw]⟩
    rcases h1 with (h1 | ⟨o, h1⟩) | ⟨o, its, n, h1, h3, _⟩
    · exact .base (.lst (s _ _ h1))
    · exact .base (.frz (s _ _ h1))
    · exact .kList h1 h3
  | tup h1 h2 =>
    refine ⟨.type "tuple", ?_, by have := kit_ty (K := K) (tab "tuple" (by decide)); rw [this]; show some ("tuple" == T) = some (T == "tuple"); rw [sw]⟩
    exact .base (.tup (s _ _ h1))
  | dk h1 _ _ => exact ⟨.type "dict", .base (.dK (s _ _ h1)), by have := kit_ty (K := K) (tab "dict" (by decide)); rw [this]; show some ("dict" == T) = some (T == "dict"); rw [sw]⟩
  | dt h1 _ _ => exact ⟨.type "dict", .base (.dT (s _ _ h1)), by have := kit_ty (K := K) (tab "dict" (by decide)); rw [this]; show some ("dict" == T) = some (T == "dict"); rw [sw]⟩
theorem E_isi {x : Str} {T : String} {p2 : Pos} (h : E c e sp fun d => Q (.bool (isiD d T))) (hm : c.m.mg "isinstance" = none) (hmT : c.m.mg x = none) (hT : T ∈ ["int", "bool", "str", "list", "tuple"] := by decide) (hv : bootBuiltins x = some (.type T) := by decide +kernel) (hvi : bootBuiltins "isinstance" = some (.builtin "isinstance") := by decide +kernel) (hg : GlS c.sc "isinstance" := by rfl) (hgT : GlS c.sc x := by rfl)
    (hn : x ≠ "__name__" := by decide) (hd : (x == ("__debug__" : Str)) = false := by decide)
    (he : ∀ env, starEach [e, .Name x p2] env = (false, eval e env) :: starEach [.Name x p2] env := by intro _; rfl) : E c (.Call (.Name "isinstance" p) [e, .Name x p2] [] pos) sp Q := Sealed.of fun X hX G F0 F H σ r R k => by
  have h2 : PE X (.Name x p2) (tC (.ty T)) := pe_bltn (hgT.gl hX) (by rw [hX.mg]; exact hmT) hv rfl hn hd
  refine PE_tE (pe_callB call_isi (hg.gl hX) (by rw [hX.mg]; exact hm) hvi (pa_cons pe_tE (pa_cons h2 pa_nil) (he _)) (by decide) (by decide) (he _) rfl) ?_
  refine h X hX G F0 F H σ r _ fun d v F1 H1 q g d1 => ?_
  obtain ⟨t, t1, t2⟩ := dp_isi g.fh d1 hT
  rw [hX.K]
  exact ⟨v, .ty T, t, _, _, rfl, .ty T, t1, t2, k _ _ F1 H1 q g (.bl _)⟩

/-! ### sorted of ints, join -/
theorem cp_sorted {ns : List Int} (q : ∀ ns' : List Int, ns'.Perm ns → ns'.Pairwise (· ≤ ·) → Q (.list (ns'.map .int))) : CallP c (.builtin "sorted") [.list (ns.map .int)] Q := .of fun X hX => ⟨_, cr_sortedI, fun F H xs R s h k => by
  obtain ⟨v, rfl, z⟩ := dp1 h
  obtain ⟨l, vs, rfl, h1, h2⟩ := dp_list z
  cases dpAll_ints h2
  rw [hX.K]
  refine ⟨l, ns, rfl, s.seq h1, fun ns' p h3 h4 hp => ?_⟩
  have g := Grow.new_ (o := .lst (ns'.map V.int)) s hp
  exact k _ _ _ _ (q ns' h3 h4) g (.lst (.inl (.inl upd_same)) (dpAll_of_ints _))⟩
/-- sep.join(e), e a list of texts -/
theorem E_joinL {sep : Str} {j : Nat} {p2 cpos : Pos} (h : E c e sp fun d => ∃ ys : List Str, d = .list (ys.map .str) ∧ (ys.map (·.length)).sum + ys.length * sep.length ≤ 16777216 ∧ Q (.str (Txt.join sep ys)))
    (hbase : ∀ env, attributeBase (.Constant (.str sep) j p2) "join" env (eval (.Constant (.str sep) j p2) env) = eval (.Constant (.str sep) j p2) env := by intro _; rfl)
    (hst : ∀ env, starEach [e] env = [(false, eval e env)] := by intro _; rfl)
    (hfew : ∀ env, ((backTo cpos (starEach [e] env)).all (fun x => !x.1) && (backToKw cpos (keywordEach [] env)).all (fun x => x.1.isSome) && decide ([e].length + ([] : List Keyword).length + (if ([] : List Keyword).isEmpty then 0 else 1) < 30)) = true := by intro _; rfl)
    (hline : (apos.endLine == cpos.line) = true := by rfl) : E c (.Call (.Attribute (.Constant (.str sep) j p2) "join" apos) [e] [] cpos) sp Q := Sealed.of fun X hX G F0 F H σ r R k => by
  refine PE_tE (pe_bm PySem.F.plainAttrs_str PySem.F.slot_str_join PySem.F.type_str_join mt_join pe_str (pa_cons pe_tE pa_nil (hst _)) (hbase _) (hfew _) hline (hst _) rfl) ?_
  refine ⟨rfl, ?_⟩
  refine h X hX G F0 F H σ r _ fun d v F1 H1 q g d1 => ?_
  obtain ⟨ys, rfl, hl, q⟩ := q
  obtain ⟨l, vs, rfl, h1, h2⟩ := dp_list d1
  cases dpAll_strs h2
  rw [hX.K]
  exact ⟨sep, l, ys, rfl, rfl, .inl (g.fh.seq h1), hl, k _ _ F1 H1 q g (.str _)⟩
end
end Pl
set_option Elab.async false
set_option linter.all false
set_option maxRecDepth 100000
set_option maxHeartbeats 4000000
set_option autoImplicit false
namespace Pl
open PySem PySem.Spec PyProof.Rows L2
theorem iteB {A B : Prop} {b : Bool} (h1 : b = true → A) (h2 : b = false → B) : if b = true then A else B := by
  cases b with
  | true => rw [if_pos rfl]; exact h1 rfl
  | false => rw [if_neg Bool.false_ne_true]; exact h2 rfl
theorem iteD {A B C : Prop} [Decidable C] (h1 : C → A) (h2 : ¬ C → B) : if decide C = true then A else B :=
  iteB (fun h => h1 (of_decide_eq_true h)) (fun h => h2 (of_decide_eq_false h))
theorem iteN {A B C : Prop} [Decidable C] (h1 : ¬ C → A) (h2 : C → B) : if (!decide C) = true then A else B :=
  iteB (fun h => h1 (by simpa using h)) (fun h => h2 (by simpa using h))

section
variable {c : Cc} {sp : List Sl} {P P' : Pn} {Q : D → Prop} {e a b : Expr} {st : Stmt} {rest ss body : List Stmt} {pos p apos : Pos}
/-! ### a list of its own, read -/
def noL : D → Prop
  | .none => True
  | .bool _ => True
  | .int _ => True
  | .str _ => True
  | _ => False
theorem SR.unfreeze_grow {F H : Hp} {a : Addr} {vs : List V} {F' H' : Hp} (h1 : H a = some (.lst vs)) (h2 : F a = none) (g : Grow (upd F a (.lst vs)) H F' H') : Grow F H (fun b => if b = a then none else F' b) H' := by
  refine ⟨fun b u e => ?_, fun b u e => ?_, g.h, fun b q1 q2 => ?_, fun z b o xs e => ?_⟩
  · have hb : b ≠ a := ne_of_none e h2
    show SmO u (if b = a then none else F' b)
    rw [if_neg hb]
    exact g.f b u (by rw [upd_ne hb]; exact e)
  · have e' : (if b = a then none else F' b) = some u := e
    by_cases hb : b = a
    · rw [if_pos hb] at e'; cases e'
    · rw [if_neg hb] at e'; exact g.fh _ _ e'
  · have q2' : (if b = a then none else F' b) ≠ none := q2
    by_cases hb : b = a
    · rw [if_pos hb] at q2'; exact absurd rfl q2'
    · rw [if_neg hb] at q2'
      exact g.new b (by rw [upd_ne hb]; exact q1) q2'
  · have e' : (if b = a then none else F' b) = some (.frz o (.tup xs)) := e
    by_cases hb : b = a
    · rw [if_pos hb] at e'; cases e'
    · rw [if_neg hb] at e'
      exact g.nf (z.upd rfl) b o xs e'
theorem E_borrow (i : Nat) {ds : List D} (h : E c e (sp.set i (.v (.list ds))) fun d => noL d ∧ Q d) (hsl : sp[i]? = some (.l ds) := by rfl) : E c e sp Q := Sealed.of fun X hX G F0 F H σ r R k => by
  obtain ⟨a, vs, h1, h2, r'⟩ := r.freeze hsl
  refine h X hX G F0 _ H σ r' R fun d v F' H' q g hd => ?_
  refine k d v _ H' q.2 (SR.unfreeze_grow h1 h2 g) ?_
  have := q.1
  cases hd with
  | non => exact .non
  | bl b => exact .bl b
  | int b => exact .int b
  | str b => exact .str b
  | lst _ _ => exact this.elim
  | tup _ _ => exact this.elim
  | dk _ _ _ => exact this.elim
  | dt _ _ _ => exact this.elim
theorem T_borrow (i : Nat) {t : Expr} {ds : List D} {QT : Bool → Prop} (h : T c t (sp.set i (.v (.list ds))) QT) (hsl : sp[i]? = some (.l ds) := by rfl) : T c t sp QT := Sealed.of fun X hX G F0 F H σ r R k => by
  obtain ⟨a, vs, h1, h2, r'⟩ := r.freeze hsl
  exact h X hX G F0 _ H σ r' R fun d F' H' q g => k d _ H' q (SR.unfreeze_grow h1 h2 g)

/-! ### ranges as lists of ints -/
def rangeI (lo : Int) (n : Nat) : List Int := (List.range n).map fun (i : Nat) => lo + (i : Int)
theorem rangeD_eq (lo : Int) (n : Nat) : rangeD lo n = (rangeI lo n).map PyData.int := by
  unfold rangeD rangeI
  rw [List.map_map]; rfl
theorem rangeI_len (lo : Int) (n : Nat) : (rangeI lo n).length = n := by unfold rangeI; simp
theorem mem_rangeI {lo j : Int} {n : Nat} : j ∈ rangeI lo n ↔ lo ≤ j ∧ j < lo + n := by
  unfold rangeI
  rw [List.mem_map]
  constructor
  · rintro ⟨i, hi, rfl⟩
    have := List.mem_range.mp hi
    omega
  · rintro ⟨h1, h2⟩
    exact ⟨(j - lo).toNat, List.mem_range.mpr (by omega), by omega⟩
theorem rangeI_get {lo j : Int} {n i : Nat} : (rangeI lo n)[i]? = some j ↔ i < n ∧ j = lo + (i : Int) := by
  unfold rangeI
  rw [List.getElem?_map]
  by_cases h : i < n
  · rw [List.getElem?_range h]
    exact ⟨fun e => ⟨h, (Option.some.inj e).symm⟩, fun e => by rw [e.2]; rfl⟩
  · rw [List.getElem?_eq_none (by simpa using h)]
    exact ⟨fun e => absurd e (by simp), fun e => absurd e.1 h⟩

/-! ### comprehensions over encoded items -/
section
variable {α : Type} {ds : List D} {c' : Cc} {tg elt cond : Expr} {ifs : List Expr} {ws : List Nat} {sp' : List Sl} {QL : List D → Prop}
theorem range_bind {β : Type} (g : α → Option β) : ∀ xs : List α, (List.range xs.length).filterMap (fun i => (xs[i]?).bind g) = xs.filterMap g
  | [] => rfl
  | x :: xs => by
    rw [List.length_cons, List.range_succ_eq_map, List.filterMap_cons, List.filterMap_map]
    have e : ((fun i => ((x :: xs)[i]?).bind g) ∘ Nat.succ) = fun i => (xs[i]?).bind g := by
      funext i; simp
    rw [e, range_bind g xs, List.filterMap_cons]
    rfl
theorem filterMap_if {β : Type} (pr : α → Bool) (f : α → β) : ∀ xs : List α, xs.filterMap (fun x => if pr x = true then some (f x) else none) = (xs.filter pr).map f
  | [] => rfl
  | x :: xs => by
    rw [List.filterMap_cons, List.filter_cons]
    cases e : pr x with
    | true => simp [filterMap_if pr f xs]
    | false => simp [filterMap_if pr f xs]
theorem Lc_any (xs : List α) (enc : α → D) (g : α → Option D) (hds : ds = xs.map enc) (hz : xs.length ≤ sizeLine)
    (step : ∀ x ∈ xs, Asg c' tg ws (enc x) sp' fun sp2 => Ts c' ifs sp2 fun t => (t = true ∧ ∃ y, g x = some y ∧ E c' elt sp2 fun z => z = y) ∨ (t = false ∧ g x = none)) (q : QL (xs.filterMap g)) : LcQ c' tg elt ifs ws sp' QL ds := by
  subst hds
  refine ⟨fun i => (xs[i]?).bind g, by rw [List.length_map]; exact hz, fun i d hd => ?_, ?_⟩
  · rw [List.getElem?_map] at hd
    cases hx : xs[i]? with
    | none => rw [hx] at hd; cases hd
    | some x =>
      rw [hx] at hd
      cases hd
      show Asg c' tg ws (enc x) sp' fun sp2 => Ts c' ifs sp2 fun t => (t = true ∧ ∃ y, (xs[i]?).bind g = some y ∧ E c' elt sp2 fun z => z = y) ∨ (t = false ∧ (xs[i]?).bind g = none)
      rw [hx]
      exact step x (List.mem_of_getElem? hx)
  · rw [List.length_map]
    rw [range_bind]
    exact q
/-- [elt for tg in xs] -/
theorem Lc_map (xs : List α) (enc : α → D) (f : α → D) (hds : ds = xs.map enc) (hz : xs.length ≤ sizeLine) (step : ∀ x ∈ xs, Asg c' tg ws (enc x) sp' fun sp2 => E c' elt sp2 fun z => z = f x) (q : QL (xs.map f)) : LcQ c' tg elt [] ws sp' QL ds := by
  refine Lc_any xs enc (fun x => some (f x)) hds hz (fun x hx => ?_) (by rw [← List.filterMap_eq_map] at q; exact q)
  refine Sealed.of ?_
  intro X hX G F0 F H σ v r hd R k
  exact step x hx X hX G F0 F H σ v r hd R fun sp2 F' H' σ' q => k sp2 F' H' σ' (Ts_nil (.inl ⟨rfl, _, rfl, q⟩))
/-- [elt for tg in xs if cond] -/
theorem Lc_fil (xs : List α) (enc : α → D) (pr : α → Bool) (f : α → D) (hds : ds = xs.map enc) (hz : xs.length ≤ sizeLine) (step : ∀ x ∈ xs, Asg c' tg ws (enc x) sp' fun sp2 => T c' cond sp2 fun t => t = pr x ∧ (pr x = true → E c' elt sp2 fun z => z = f x)) (q : QL ((xs.filter pr).map f)) : LcQ c' tg elt [cond] ws sp' QL ds := by
  refine Lc_any xs enc (fun x => if pr x = true then some (f x) else none) hds hz (fun x hx => ?_) ?_
  · refine Sealed.of ?_; intro X hX G F0 F H σ v r hd R k
    refine step x hx X hX G F0 F H σ v r hd R fun sp2 F' H' σ' q => k sp2 F' H' σ' (Ts_one (q.mono fun t ht => ?_))
    obtain ⟨rfl, h⟩ := ht
    cases e : pr x with
    | true => exact .inl ⟨rfl, f x, by simp, h e⟩
    | false => exact .inr ⟨rfl, by simp⟩
  · rw [filterMap_if]
    exact q
end
end
end Pl
set_option Elab.async false
set_option linter.all false
set_option maxRecDepth 100000
set_option maxHeartbeats 4000000
set_option autoImplicit false
namespace Pl
open PySem PySem.Spec PyProof.Rows L2
section
variable {c : Cc} {sp : List Sl} {P P' : Pn} {Q : D → Prop} {e a b : Expr} {st : Stmt} {rest ss body : List Stmt} {pos p apos : Pos}
/-- over range: I by the number of turns done -/
theorem For_range {tg : Expr} {ws : List Nat} {lo : Int} {n : Nat} (I : Nat → List Sl → Prop) (h0 : I 0 sp)
    (step : ∀ i sp', i < n → I i sp' → Asg c tg ws (.int (lo + (i : Int))) sp' fun sp2 => S c body sp2 { nx := I (i + 1), ct := I (i + 1), bk := P.nx, rt := P.rt }) (fin : ∀ sp', I n sp' → P.nx sp') : ForQ c tg ws body sp P (rangeD lo n) :=
  ⟨I, h0, fun i d sp' hd hi => by
    obtain ⟨h1, rfl⟩ := rangeD_get.mp hd
    exact step i sp' h1 hi, fun sp' h => fin sp' (by rw [rangeD_len] at h; exact h)⟩
theorem For_list {α : Type} {tg : Expr} {ws : List Nat} {ds : List D} (xs : List α) (enc : α → D) (hds : ds = xs.map enc) (I : Nat → List Sl → Prop) (h0 : I 0 sp)
    (step : ∀ i x sp', xs[i]? = some x → I i sp' → Asg c tg ws (enc x) sp' fun sp2 => S c body sp2 { nx := I (i + 1), ct := I (i + 1), bk := P.nx, rt := P.rt }) (fin : ∀ sp', I xs.length sp' → P.nx sp') : ForQ c tg ws body sp P ds := by
  subst hds
  refine ⟨I, h0, fun i d sp' hd hi => ?_, fun sp' h => fin sp' (by rw [List.length_map] at h; exact h)⟩
  rw [List.getElem?_map] at hd
  cases hx : xs[i]? with
  | none => rw [hx] at hd; cases hd
  | some x =>
    rw [hx] at hd
    cases hd
    exact step i x sp' hx hi
end
/-! ### the law's own def -/
theorem fnok_mk {m : Md} {x qual : Str} {st : Stmt} {f : Addr} {fd : FuncData} {N ps : List Str} {k n : Nat} {Sp : List D → (D → Prop) → Prop} (Fn : Fun m.K x qual st f fd) (Sc : FnScope N ps (defScope st)) (hn : ps.length = n)
    (body : ∀ ds (Q : D → Prop), Sp ds Q → S ⟨m, N, defScope st, fun _ => true, k, false⟩ (defBody st) (start0 N ds) { nx := fun _ => Q .none, rt := Q }) : FnOk m.P m.w m.K m.mg m.base CX0 (k + 1) f fd ps (spOf m.T m.K n Sp) := by
  refine Fn.ok Sc (fun vs H Q E h => ?_) (fun cdv A outer s H vs Q E hr h => ?_)
  · obtain ⟨F, ds, _, _, h3, _⟩ := h
    rw [h3, hn]
  · obtain ⟨F, ds, h1, h2, h3, h4⟩ := h
    have hX : Cc.Has ⟨m, N, defScope st, fun _ => true, k, false⟩ ((cxOf CX0 m.P m.w m.K m.mg m.base N qual (defScope st) f cdv A outer s H E).nox) :=
      ⟨rfl, rfl, rfl, rfl, rfl, rfl, rfl, rfl, rfl, hr, rfl, fun h => by cases h⟩
    refine ⟨_, pss_t, body ds _ h4 _ hX H F F H _ (sr_start h1.1 h1.2 h2) _ ⟨fun sp F' H' σ q r => ?_, fun d v F' H' q kp hd => ?_, fun _ _ _ _ q => q.elim, fun _ _ _ _ q => q.elim⟩⟩
    · exact q .non F' H' ⟨r.f0, r.sf, r.g, r.fr, fun _ => r.tab.1⟩ .non
    · exact q v F' H' ⟨kp.f0, kp.fh, kp.g, kp.fr, fun _ => kp.nf⟩ hd
/-- what law(script) promises -/
def specLaw : List D → (D → Prop) → Prop := spc (fun ns : List Int => [.list (ns.map .int)]) (fun ns => ns.length ≤ 63) (fun _ => .bool true)
def spLaw (T : Addr → Prop) (K : PySem.W.Frag) : L2.Sp := spOf T K 1 specLaw
def noFz (H : Hp) : Hp := fun b => match H b with
  | some (.frz _ (.tup _)) => none
  | x => x
theorem noFz_some {H : Hp} {b : Addr} {o : HO} (h : noFz H b = some o) : H b = some o := by
  unfold noFz at h
  split at h
  · cases h
  · exact h
theorem noFz_eq {H : Hp} {b : Addr} {o : HO} (h : H b = some o) (ho : notFrz o = true) : noFz H b = some o := by
  unfold noFz
  split
  · rename_i e
    rw [h] at e
    cases e
    cases ho
  · exact h
theorem noFz_no (H : Hp) : NoFrz (noFz H) := fun a o xs e => by
  have h := noFz_some e
  unfold noFz at e
  rw [h] at e
  cases e
theorem spLaw_ok (T : Addr → Prop) (K : PySem.W.Frag) (H : Hp) (hT : ∀ P, T P → ∃ ps : Array Value, H P = some (.tbl ps) ∧ TriplesOk ps.toList) (a : Addr) (ns : List Int) (h : ns.length ≤ 63) (hS : SqL K H a (ns.map V.int)) : spLaw T K [.ref a] H (fun v _ => v = .bl true) fun _ _ _ => False :=
  ⟨noFz H, [.list (ns.map .int)], ⟨fun b o e => .of (noFz_some e), noFz_no H, fun P hP => by
    obtain ⟨ps, e, ok⟩ := hT P hP
    exact ⟨ps, noFz_eq e rfl, ok⟩⟩, .cons (.lst (by
      rcases hS with (e | ⟨o, e⟩) | e
      · exact .inl (.inl (noFz_eq e rfl))
      · exact .inl (.inr ⟨o, noFz_eq e rfl⟩)
      · exact .inr e) (dpAll_of_ints ns)) .nil, rfl, ns, rfl, h, fun v F' H' _ hd => by cases hd; rfl⟩

/-! ### the law's own equality -/
mutual
def sameD : D → D → Bool
  | v, .none => isNon v
  | .bool a, .bool b => a == b
  | .int a, .int b => a == b
  | .str a, .str b => decide (a = b)
  | .tuple xs, .tuple ys => sameL xs ys
  | _, _ => false
def sameL : List D → List D → Bool
  | [], [] => true
  | x :: xs, y :: ys => sameD x y && sameL xs ys
  | _, _ => false
end
/-- data that the law compares with: n deep at most -/
def plainD : Nat → D → Prop
  | _, .none => True
  | _, .bool _ => True
  | _, .int _ => True
  | _, .str _ => True
  | 0, .tuple _ => False
  | n + 1, .tuple xs => xs.length ≤ sizeLine ∧ ∀ x ∈ xs, plainD n x
  | _, _ => False
theorem sameL_self {xs : List D} (h : ∀ x ∈ xs, sameD x x = true) : sameL xs xs = true := by
  induction xs with
  | nil => rfl
  | cons x xs ih =>
    show (sameD x x && sameL xs xs) = true
    rw [h x List.mem_cons_self, ih fun y hy => h y (List.mem_cons_of_mem _ hy)]
    rfl
theorem sameD_self : ∀ {n : Nat} {d : D}, plainD n d → sameD d d = true
  | _, .none, _ => rfl
  | _, .bool b, _ => by cases b <;> rfl
  | _, .int i, _ => by show (i == i) = true; simp
  | _, .str x, _ => by show decide (x = x) = true; simp
  | 0, .tuple _, h => h.elim
  | n + 1, .tuple xs, h => by
    obtain ⟨_, h⟩ : xs.length ≤ sizeLine ∧ ∀ x ∈ xs, plainD n x := h
    exact sameL_self fun x hx => sameD_self (h x hx)
  | 0, .list _, h => h.elim
  | n + 1, .list _, h => h.elim
  | 0, .dict _, h => h.elim
  | n + 1, .dict _, h => h.elim
theorem sameL_len {xs ys : List D} (h : sameL xs ys = true) : xs.length = ys.length := by
  induction xs generalizing ys with
  | nil => cases ys with
    | nil => rfl
    | cons y ys => cases h
  | cons x xs ih => cases ys with
    | nil => cases h
    | cons y ys =>
      have h' : (sameD x y && sameL xs ys) = true := h
      rw [Bool.and_eq_true] at h'
      rw [List.length_cons, List.length_cons, ih h'.2]
theorem sameL_all : ∀ {xs ys : List D}, xs.length = ys.length → sameL xs ys = (List.range ys.length).all fun i => sameD (xs.getD i .none) (ys.getD i .none)
  | [], [], _ => rfl
  | x :: xs, y :: ys, h => by
    show (sameD x y && sameL xs ys) = _
    rw [List.length_cons, List.range_succ_eq_map, List.all_cons, List.all_map, sameL_all (by simpa using h)]
    rfl
end Pl
set_option Elab.async false
set_option linter.all false
set_option maxRecDepth 100000
set_option maxHeartbeats 4000000
set_option autoImplicit false
namespace Pl
open PySem PySem.Spec PyProof.Rows L2
section
variable {c : Cc} {sp : List Sl} {P P' : Pn} {Q : D → Prop} {QT : Bool → Prop} {e a b t : Expr} {st : Stmt} {rest : List Expr} {pos p apos : Pos}
/-! ### a comparison as a test -/
theorem T_cmp {op : CmpOp} (h : E c a sp fun d => E c b sp fun g => OpP c (compareOp op) d g fun z => ∃ k, z = .bool k ∧ QT k) (hm : behindInMarks op b = false := by first | exact nomark _ | rfl) : T c (.Compare a [op] [b] pos) sp QT := Sealed.of fun X hX G F0 F H σ r R k => by
  refine PT_tT (pt_cmpR or_rS pe_tE pe_tE hm) ?_
  refine E_two (Q := fun z => ∃ k, z = .bool k ∧ QT k) hX r (fun d v F' H' q g hd => ?_) h
  obtain ⟨b, rfl, q⟩ := q
  cases hd
  exact ⟨b, rfl, k b F' H' q g⟩
/-! ### ways that meet -/
theorem E_cut (v : D) (h : E c e sp fun d => d = v) (q : Q v) : E c e sp Q := h.mono fun d hd => by rw [hd]; exact q
theorem T_cut (v : Bool) (h : T c e sp fun d => d = v) (q : QT v) : T c e sp QT := h.mono fun d hd => by rw [hd]; exact q
theorem E_ifJ {k : Bool} {va vb : D} (ht : T c t sp fun z => z = k) (ha : k = true → E c a sp fun z => z = va) (hb : k = false → E c b sp fun z => z = vb) (q : Q (if k = true then va else vb)) : E c (.IfExp t a b pos) sp Q := by
  refine E_if (ht.mono fun z hz => ?_)
  subst hz
  refine iteB (fun h => ?_) (fun h => ?_)
  · exact (ha h).mono fun d hd => by rw [hd]; rw [if_pos h] at q; exact q
  · exact (hb h).mono fun d hd => by rw [hd]; rw [if_neg (by rw [h]; exact Bool.false_ne_true)] at q; exact q
theorem E_ifI {k : Bool} {x y : Int} (ht : T c t sp fun z => z = k) (ha : k = true → E c a sp fun z => z = .int x) (hb : k = false → E c b sp fun z => z = .int y) (q : Q (.int (if k = true then x else y))) : E c (.IfExp t a b pos) sp Q :=
  E_ifJ ht ha hb (by cases k with
    | true => exact q
    | false => exact q)
theorem E_ifS {k : Bool} {x y : Str} (ht : T c t sp fun z => z = k) (ha : k = true → E c a sp fun z => z = .str x) (hb : k = false → E c b sp fun z => z = .str y) (q : Q (.str (if k = true then x else y))) : E c (.IfExp t a b pos) sp Q :=
  E_ifJ ht ha hb (by cases k with
    | true => exact q
    | false => exact q)
theorem TJ_and {k k' : Bool} (ha : T c a sp fun z => z = k) (hb : k = true → Wt c (.BoolOp .And (b :: rest) pos) sp fun z => z = k') (q : QT (k && k')) : Wt c (.BoolOp .And (a :: b :: rest) pos) sp QT := by
  refine Wt_and (ha.mono fun z hz => ?_)
  subst hz
  refine iteB (fun h => ?_) (fun h => ?_)
  · refine Sealed.of ?_; intro X hX G F0 F H σ r R kk
    exact hb h X hX G F0 F H σ r R fun z F' H' hz g => kk z F' H' (by rw [hz]; rw [h] at q; exact q) g
  · rw [h] at q; exact q
theorem TJ_or {k k' : Bool} (ha : T c a sp fun z => z = k) (hb : k = false → Wt c (.BoolOp .Or (b :: rest) pos) sp fun z => z = k') (q : QT (k || k')) : Wt c (.BoolOp .Or (a :: b :: rest) pos) sp QT := by
  refine Wt_or (ha.mono fun z hz => ?_)
  subst hz
  refine iteB (fun h => ?_) (fun h => ?_)
  · rw [h] at q; exact q
  · refine Sealed.of ?_; intro X hX G F0 F H σ r R kk
    exact hb h X hX G F0 F H σ r R fun z F' H' hz g => kk z F' H' (by rw [hz]; rw [h] at q; exact q) g
theorem EJ_and {k k' : Bool} (ha : E c a sp fun z => z = .bool k) (hb : k = true → E c (.BoolOp .And (b :: rest) pos) sp fun z => z = .bool k') (q : Q (.bool (k && k'))) : E c (.BoolOp .And (a :: b :: rest) pos) sp Q := by
  refine E_and (ha.mono fun z hz => ⟨k, hz, ?_⟩)
  refine iteB (fun h => ?_) (fun h => ?_)
  · exact (hb h).mono fun d hd => by rw [hd]; rw [h] at q; exact q
  · rw [h] at q; exact q
theorem EJ_or {k k' : Bool} (ha : E c a sp fun z => z = .bool k) (hb : k = false → E c (.BoolOp .Or (b :: rest) pos) sp fun z => z = .bool k') (q : Q (.bool (k || k'))) : E c (.BoolOp .Or (a :: b :: rest) pos) sp Q := by
  refine E_or (ha.mono fun z hz => ⟨k, hz, ?_⟩)
  refine iteB (fun h => ?_) (fun h => ?_)
  · rw [h] at q; exact q
  · exact (hb h).mono fun d hd => by rw [hd]; rw [h] at q; exact q
/-- a < b < x, all told -/
theorem E_chainJ {op op' : CmpOp} {x : Expr} {d g y : D} {k k' : Bool} (ha : E c a sp fun z => z = d) (hb : E c b sp fun z => z = g) (h1 : OpP c (compareOp op) d g fun z => z = .bool k) (hx : k = true → E c x sp fun z => z = y) (h2 : k = true → OpP c (compareOp op') g y fun z => z = .bool k')
    (hm : lastMarks [op, op'] [b, x] = false) (q : Q (.bool (k && k'))) : E c (.Compare a [op, op'] [b, x] pos) sp Q := by
  refine E_chain (ha.mono fun z hz => ?_) hm
  subst hz
  refine hb.mono fun z hz => ?_
  subst hz
  intro X hX F H v u R s d1 d2 kk
  refine h1 X hX F H v u R s d1 d2 fun z w F' H' hz g1 d3 => kk z w F' H' ⟨k, hz, ?_⟩ g1 d3
  refine iteB (fun h => ?_) (fun h => ?_)
  · refine (hx h).mono fun z hz => ?_
    subst hz
    intro X2 hX2 F2 H2 v2 u2 R2 s2 e1 e2 kk2
    exact h2 h X2 hX2 F2 H2 v2 u2 R2 s2 e1 e2 fun z2 w2 F3 H3 hz2 => kk2 z2 w2 F3 H3 (by rw [hz2]; rw [h] at q; exact q)
  · rw [h] at q; exact q
theorem TJ_chain {op op' : CmpOp} {x : Expr} {d g y : D} {k k' : Bool} (ha : E c a sp fun z => z = d) (hb : E c b sp fun z => z = g) (h1 : OpP c (compareOp op) d g fun z => z = .bool k) (hx : k = true → E c x sp fun z => z = y) (h2 : k = true → OpP c (compareOp op') g y fun z => z = .bool k')
    (hm : lastMarks [op, op'] [b, x] = false) (q : QT (k && k')) : T c (.Compare a [op, op'] [b, x] pos) sp QT := Sealed.of fun X hX G F0 F H σ r R kk => by
  refine PT_tT (pt_chain or_rS or_rS pe_tE pe_tE pe_tE hm) ?_
  refine ha X hX G F0 F H σ r _ fun z v F1 H1 hz g1 d1 => ?_
  subst hz
  refine hb X hX G F0 F1 H1 σ (r.grow g1) _ fun z u F2 H2 hz g2 d2 => ?_
  subst hz
  refine h1 X hX F2 H2 v u _ g2.fh (dp_mono g2.f _ _ d1) d2 fun z w F3 H3 hz g3 d3 => ?_
  subst hz
  cases d3
  refine ⟨_, rfl, ?_⟩
  refine iteB (fun h => ?_) (fun h => ?_)
  · refine hx h X hX G F0 F3 H3 σ (((r.grow g1).grow g2).grow g3) _ fun z u' F4 H4 hz g4 d4 => ?_
    subst hz
    refine h2 h X hX F4 H4 u u' _ g4.fh (dp_mono (g3.f.trans g4.f) _ _ d2) d4 fun z w' F5 H5 hz g5 d5 => ?_
    subst hz
    cases d5
    exact ⟨_, rfl, kk _ F5 H5 (by rw [h] at q; exact q) ((((g1.trans g2).trans g3).trans g4).trans g5)⟩
  · exact ⟨false, rfl, kk _ F3 H3 (by rw [h] at q; exact q) ((g1.trans g2).trans g3)⟩
/-! ### x in a list, a tuple of ints or texts -/
theorem inV_ints {i : Int} {ns : List Int} : inV (.int i) (ns.map V.int) = decide (i ∈ ns) := by
  induction ns with
  | nil => rfl
  | cons n ns ih =>
    show (eqV (.int n) (.int i) || inV (.int i) (ns.map V.int)) = _
    rw [ih]
    show ((n == i) || decide (i ∈ ns)) = _
    by_cases h : n = i
    · subst h; simp
    · rw [beq_eq_false_iff_ne.mpr h]
      have h' : ¬ i = n := fun z => h z.symm
      simp [List.mem_cons, h']
theorem inV_strs {i : Str} {ns : List Str} : inV (.str i) (ns.map V.str) = decide (i ∈ ns) := by
  induction ns with
  | nil => rfl
  | cons n ns ih =>
    show (eqV (.str n) (.str i) || inV (.str i) (ns.map V.str)) = _
    rw [ih]
    show ((n == i) || decide (i ∈ ns)) = _
    by_cases h : n = i
    · subst h; simp
    · rw [beq_eq_false_iff_ne.mpr h]
      have h' : ¬ i = n := fun z => h z.symm
      simp [List.mem_cons, h']
theorem flat_ints (ns : List Int) : (ns.map V.int).all flatV = true := by
  induction ns with
  | nil => rfl
  | cons n ns ih => simpa [flatV] using ih
theorem flat_strs (ns : List Str) : (ns.map V.str).all flatV = true := by
  induction ns with
  | nil => rfl
  | cons n ns ih => simpa [flatV] using ih
theorem opp_inTI {i : Int} (ns : List Int) {ds : List D} (hd : ds = ns.map .int) (q : Q (.bool (decide (i ∈ ns)))) : OpP c (compareOp .In) (.int i) (.tuple ds) Q := .of fun X hX => ⟨_, op_in_seq, fun F H x y R s h1 h2 k => by
  subst hd
  cases dp_int h1
  obtain ⟨l, vs, rfl, q1, q2⟩ := dp_tuple h2
  cases dpAll_ints q2
  rw [hX.K]
  exact ⟨l, _, rfl, .inr (sqT_mono s q1), rfl, flat_ints _, by rw [if_neg Bool.false_ne_true, inV_ints]; exact k _ _ F H q (Grow.refl s) (.bl _)⟩⟩
theorem opp_inLI {i : Int} (ns : List Int) {ds : List D} (hd : ds = ns.map .int) (q : Q (.bool (decide (i ∈ ns)))) : OpP c (compareOp .In) (.int i) (.list ds) Q := .of fun X hX => ⟨_, op_in_seq, fun F H x y R s h1 h2 k => by
  subst hd
  cases dp_int h1
  obtain ⟨l, vs, rfl, q1, q2⟩ := dp_list h2
  cases dpAll_ints q2
  rw [hX.K]
  exact ⟨l, _, rfl, .inl (s.seq q1), rfl, flat_ints _, by rw [if_neg Bool.false_ne_true, inV_ints]; exact k _ _ F H q (Grow.refl s) (.bl _)⟩⟩
theorem opp_ninTI {i : Int} (ns : List Int) {ds : List D} (hd : ds = ns.map .int) (q : Q (.bool (!decide (i ∈ ns)))) : OpP c (compareOp .NotIn) (.int i) (.tuple ds) Q := .of fun X hX => ⟨_, op_notIn_seq, fun F H x y R s h1 h2 k => by
  subst hd
  cases dp_int h1
  obtain ⟨l, vs, rfl, q1, q2⟩ := dp_tuple h2
  cases dpAll_ints q2
  rw [hX.K]
  exact ⟨l, _, rfl, .inr (sqT_mono s q1), rfl, flat_ints _, by rw [if_pos rfl, inV_ints]; exact k _ _ F H q (Grow.refl s) (.bl _)⟩⟩
theorem opp_ninLI {i : Int} (ns : List Int) {ds : List D} (hd : ds = ns.map .int) (q : Q (.bool (!decide (i ∈ ns)))) : OpP c (compareOp .NotIn) (.int i) (.list ds) Q := .of fun X hX => ⟨_, op_notIn_seq, fun F H x y R s h1 h2 k => by
  subst hd
  cases dp_int h1
  obtain ⟨l, vs, rfl, q1, q2⟩ := dp_list h2
  cases dpAll_ints q2
  rw [hX.K]
  exact ⟨l, _, rfl, .inl (s.seq q1), rfl, flat_ints _, by rw [if_pos rfl, inV_ints]; exact k _ _ F H q (Grow.refl s) (.bl _)⟩⟩
theorem iteF' {A B : Prop} {k : Bool} (h : k = false) (q : B) : if k = true then A else B := by rw [h]; exact iteF q
theorem iteT' {A B : Prop} {k : Bool} (h : k = true) (q : A) : if k = true then A else B := by rw [h]; exact iteT q
end
end Pl
set_option linter.all false
set_option autoImplicit false
namespace Pl
open PySem PySem.Spec PyProof.Rows L2
variable {c : Cc} {a b e : Expr} {sp : List Sl} {p pos : Pos} {sc : Scope}
/-! ### range with a step -/
def rangeS (lo k : Int) (n : Nat) : List D := (List.range n).map fun (i : Nat) => .int (lo + (i : Int) * k)
theorem rangeS_len {lo k : Int} {n : Nat} : (rangeS lo k n).length = n := by unfold rangeS; rw [List.length_map, List.length_range]
theorem rangeS_get {lo k : Int} {n i : Nat} {d : D} : (rangeS lo k n)[i]? = some d ↔ i < n ∧ d = .int (lo + (i : Int) * k) := by
  unfold rangeS
  rw [List.getElem?_map]
  by_cases h : i < n
  · rw [List.getElem?_range h]
    exact ⟨fun e => ⟨h, (Option.some.inj e).symm⟩, fun e => by rw [e.2]; rfl⟩
  · rw [List.getElem?_eq_none (by rw [List.length_range]; omega)]
    constructor
    · intro e; cases e
    · intro e; exact absurd e.1 h
theorem wok_rangeS {K : PySem.W.Frag} {F : Hp} (lo k : Int) (n : Nat) : WOk K (Itc lo k n) F (rangeS lo k n) := by
  refine ⟨fun F' H' i d s1 s2 e => ?_, fun F' H' i s1 s2 e => by rw [rangeS_len] at e; exact e⟩
  obtain ⟨h1, rfl⟩ := rangeS_get.mp e
  refine ⟨h1, fun x H'' q => ?_⟩
  obtain ⟨rfl, rfl⟩ := q
  exact ⟨F', Grow.refl s2, .int _⟩
/-- how many turns -/
def stepN (i j k : Int) : Nat := (Builtin.Range.rangeSize i j k).toNat
theorem stepN_pos {i j k : Int} (hk : 0 < k) (h : i < j) : stepN i j k = ((j - i - 1) / k + 1).toNat := by
  unfold stepN Builtin.Range.rangeSize
  rw [if_pos hk, if_pos h]
theorem stepN_no {i j k : Int} (hk : 0 < k) (h : j ≤ i) : stepN i j k = 0 := by
  unfold stepN Builtin.Range.rangeSize
  rw [if_pos hk, if_neg (by omega)]
  rfl
theorem stepN_neg {i j k : Int} (hk : k < 0) (h : j < i) : stepN i j k = ((i - j - 1) / (-k) + 1).toNat := by
  unfold stepN Builtin.Range.rangeSize
  rw [if_neg (by omega), if_pos (by omega)]
theorem stepN_neg_no {i j k : Int} (hk : k < 0) (h : i ≤ j) : stepN i j k = 0 := by
  unfold stepN Builtin.Range.rangeSize
  rw [if_neg (by omega), if_neg (by omega)]
  rfl
theorem W_range3 {s : Expr} {tg : Expr} {QL : List D → Prop} (h : E c a sp fun d => E c b sp fun g => E c s sp fun f => ∃ i j k : Int, d = .int i ∧ g = .int j ∧ f = .int k ∧ (k ≠ 0 ∧ k.natAbs < 1073741824 ∧ Builtin.Range.small i j k = true) ∧ QL (rangeS i k (stepN i j k))) (hm : c.m.mg "range" = none) (hg : GlS c.sc "range" := by rfl)
    (hs : ∀ env, starEach [a, b, s] env = [(false, eval a env), (false, eval b env), (false, eval s env)] := by intro _; rfl) (hs2 : ∀ env, starEach [b, s] env = [(false, eval b env), (false, eval s env)] := by intro _; rfl) (hs3 : ∀ env, starEach [s] env = [(false, eval s env)] := by intro _; rfl) :
    W c tg (.Call (.Name "range" p) [a, b, s] [] pos) sp QL := Sealed.of fun X hX G F0 F H σ r R k => by
  refine PI_tI (pi_range3 (hg.gl hX) (by rw [hX.mg]; exact hm) (pa_cons pe_tE (pa_cons pe_tE (pa_cons pe_tE pa_nil (hs3 _)) (by rw [hs2, hs3])) (by rw [hs, hs2])) (by rw [hs, hs2]) (by rw [hs2]; rfl)) ?_
  refine h X hX G F0 F H σ r _ fun d v F1 H1 q g d1 => ?_
  refine Sealed.run q X hX G F0 F1 H1 σ (r.grow g) _ fun d2 v2 F2 H2 q2 g2 dd2 => ?_
  refine Sealed.run q2 X hX G F0 F2 H2 σ ((r.grow g).grow g2) _ fun d3 v3 F3 H3 q3 g3 dd3 => ?_
  obtain ⟨i, j, m, rfl, rfl, rfl, hb, q4⟩ := q3
  cases d1; cases dd2; cases dd3
  refine ⟨i, j, m, stepN i j m, rfl, ⟨hb.1, hb.2.1, hb.2.2, ?_⟩, k _ _ F3 H3 q4 ((g.trans g2).trans g3) (wok_rangeS i m _)⟩
  exact rangeSize_toNat i j m
/-- the bounds of range, from plain bounds -/
theorem small_mid {i j k : Int} (hi : -(2 ^ 40) ≤ i ∧ i ≤ 2 ^ 40) (hj : -(2 ^ 40) ≤ j ∧ j ≤ 2 ^ 40) (hk : -(2 ^ 40) ≤ k ∧ k ≤ 2 ^ 40) (h0 : k ≠ 0) : Builtin.Range.small i j k = true := by
  have h1 := rangeSize_toNat i j k
  have h2 := rangeSize_toNat_le i j k
  unfold Builtin.Range.small
  simp only [Builtin.Range.rangeFitsLong, Bool.and_eq_true, Bool.or_eq_true, decide_eq_true_eq, beq_iff_eq]
  generalize Builtin.Range.rangeSize i j k = n at *
  refine ⟨⟨⟨⟨by omega, by omega⟩, by omega, by omega⟩, by omega, by omega⟩, .inr ?_⟩
  split <;> simp only [Bool.and_eq_true, decide_eq_true_eq] <;> omega

/-! ### comprehensions, the outcome under another name -/
section
variable {α : Type} {ds r : List D} {c' : Cc} {tg elt cond : Expr} {ws : List Nat} {sp' : List Sl} {QL : List D → Prop}
theorem Lc_map' (xs : List α) (enc : α → D) (f : α → D) (he : xs.map f = r) (hds : ds = xs.map enc) (hz : xs.length ≤ sizeLine) (step : ∀ x ∈ xs, Asg c' tg ws (enc x) sp' fun sp2 => E c' elt sp2 fun z => z = f x) (q : QL r) : LcQ c' tg elt [] ws sp' QL ds :=
  Lc_map xs enc f hds hz step (by rw [he]; exact q)
theorem Lc_fil' (xs : List α) (enc : α → D) (pr : α → Bool) (f : α → D) (he : (xs.filter pr).map f = r) (hds : ds = xs.map enc) (hz : xs.length ≤ sizeLine) (step : ∀ x ∈ xs, Asg c' tg ws (enc x) sp' fun sp2 => T c' cond sp2 fun t => t = pr x ∧ (pr x = true → E c' elt sp2 fun z => z = f x)) (q : QL r) : LcQ c' tg elt [cond] ws sp' QL ds :=
  Lc_fil xs enc pr f hds hz step (by rw [he]; exact q)
end
/-- a list by its places -/
theorem idx_map {α : Type} (l : List α) (z : α) : (rangeI 0 l.length).map (fun at' => l.getD at'.toNat z) = l := by
  apply List.ext_getElem?
  intro i
  rw [List.getElem?_map]
  by_cases h : i < l.length
  · rw [rangeI_get.mpr ⟨h, rfl⟩, List.getElem?_eq_getElem h]
    show some (l.getD (0 + (i : Int)).toNat z) = _
    rw [show (0 + (i : Int)).toNat = i from by omega, List.getD_eq_getElem?_getD, List.getElem?_eq_getElem h]
    rfl
  · rw [List.getElem?_eq_none (by rw [rangeI_len]; omega), List.getElem?_eq_none (by omega)]
    rfl
theorem pick {α : Type} (l : List α) (z : α) (p : α → Bool) (f : α → D) : ((rangeI 0 l.length).filter fun at' => p (l.getD at'.toNat z)).map (fun at' => f (l.getD at'.toNat z)) = (l.filter p).map f := by
  conv => rhs; rw [← idx_map l z]
  rw [List.filter_map, List.map_map]
  rfl
/-- the enumeration of images -/
theorem enumD_range {f : Int → D} {n : Nat} : enumD ((rangeI 0 n).map f) = (rangeI 0 n).map fun j => .tuple [.int j, f j] := by
  unfold enumD
  apply List.ext_getElem?
  intro i
  rw [List.getElem?_mapIdx, List.getElem?_map, List.getElem?_map]
  by_cases h : i < n
  · rw [rangeI_get.mpr ⟨h, rfl⟩]
    show some (PyData.tuple [.int (i : Int), f (0 + (i : Int))]) = some (PyData.tuple [.int (0 + (i : Int)), f (0 + (i : Int))])
    rw [Int.zero_add]
  · rw [List.getElem?_eq_none (by rw [rangeI_len]; omega)]
    rfl
theorem cutD_in {xs : List D} {lo hi : Int} (h0 : 0 ≤ lo) (h1 : lo ≤ hi) (h2 : hi ≤ xs.length) : cutD xs (some lo) (some hi) = (xs.drop lo.toNat).take (hi.toNat - lo.toNat) := by
  obtain ⟨l, rfl⟩ := Int.eq_ofNat_of_zero_le h0
  obtain ⟨u, rfl⟩ := Int.eq_ofNat_of_zero_le (show 0 ≤ hi by omega)
  unfold cutD
  have a1 := HT.sIx_nat xs.length 0 l
  have a2 := HT.sIx_nat xs.length xs.length u
  rw [show HT.sIx xs.length 0 (some ((l : Nat) : Int)) = min l xs.length from a1, show HT.sIx xs.length xs.length (some ((u : Nat) : Int)) = min u xs.length from a2, Nat.min_eq_left (by omega), Nat.min_eq_left (by omega)]
  rfl
/-! ### the first number of a range -/
def fstB (p : Int → Bool) (lo : Int) (n : Nat) : D := match (rangeI lo n).find? p with | some x => .int x | none => .none
theorem find_some {p : Int → Bool} {lo t : Int} {n : Nat} (h0 : lo ≤ t) (h1 : t < lo + n) (hp : p t = true) (hn : ∀ s, lo ≤ s → s < t → p s = false) : (rangeI lo n).find? p = some t := by
  rw [List.find?_eq_some_iff_getElem]
  refine ⟨hp, (t - lo).toNat, by rw [rangeI_len]; omega, ?_, fun j hj => ?_⟩
  · apply Option.some.inj
    rw [← List.getElem?_eq_getElem, rangeI_get]
    exact ⟨by omega, by omega⟩
  · have e : (rangeI lo n)[j]? = some (lo + (j : Int)) := rangeI_get.mpr ⟨by omega, rfl⟩
    have e2 : (rangeI lo n)[j]'(by rw [rangeI_len]; omega) = lo + (j : Int) := by
      apply Option.some.inj
      rw [← List.getElem?_eq_getElem, e]
    rw [e2, hn _ (by omega) (by omega)]
    rfl
theorem find_none {p : Int → Bool} {lo : Int} {n : Nat} (hn : ∀ s, lo ≤ s → s < lo + n → p s = false) : (rangeI lo n).find? p = none := by
  rw [List.find?_eq_none]
  intro x hx
  have := mem_rangeI.mp hx
  rw [hn x this.1 this.2]
  exact Bool.false_ne_true
theorem find_cases (p : Int → Bool) (lo : Int) (n : Nat) : ((rangeI lo n).find? p = none ∧ ∀ s, lo ≤ s → s < lo + n → p s = false) ∨ ∃ t, (rangeI lo n).find? p = some t ∧ lo ≤ t ∧ t < lo + n ∧ p t = true ∧ ∀ s, lo ≤ s → s < t → p s = false := by
  induction n generalizing lo with
  | zero => exact .inl ⟨rfl, fun s h1 h2 => by omega⟩
  | succ n ih =>
    have e : rangeI lo (n + 1) = lo :: rangeI (lo + 1) n := by
      unfold rangeI
      rw [List.range_succ_eq_map, List.map_cons, List.map_map]
      congr 1
      · omega
      · apply List.map_congr_left
        intro a _
        show lo + ((a + 1 : Nat) : Int) = _
        omega
    rw [e, List.find?_cons]
    cases hp : p lo with
    | true => exact .inr ⟨lo, rfl, by omega, by omega, hp, fun s h1 h2 => by omega⟩
    | false =>
      rcases ih (lo + 1) with ⟨h1, h2⟩ | ⟨t, h1, h2, h3, h4, h5⟩
      · refine .inl ⟨h1, fun s a1 a2 => ?_⟩
        rcases Int.lt_or_le lo s with z | z
        · exact h2 s (by omega) (by omega)
        · rw [show s = lo from by omega]; exact hp
      · refine .inr ⟨t, h1, by omega, by omega, h4, fun s a1 a2 => ?_⟩
        rcases Int.lt_or_le lo s with z | z
        · exact h5 s (by omega) a2
        · rw [show s = lo from by omega]; exact hp
theorem plain_fstB {p : Int → Bool} {lo : Int} {n k : Nat} : plainD k (fstB p lo n) := by
  unfold fstB
  split <;> cases k <;> trivial
/-- xs[0] if len(xs) > 0 else None -/
theorem head_or (xs : List Int) : (if decide (0 < ((xs.map PyData.int).length : Int)) = true then PyData.int (xs.getD 0 0) else PyData.none) = match xs.head? with | some x => PyData.int x | none => .none := by
  cases xs with
  | nil => rfl
  | cons x xs =>
    rw [if_pos (decide_eq_true (by rw [List.length_map, List.length_cons]; omega))]
    rfl
end Pl
set_option linter.all false
set_option autoImplicit false
set_option maxRecDepth 100000
set_option maxHeartbeats 4000000
namespace Pl
open PySem PySem.Spec PyProof.Rows L2
/-! ### sum, max, min of a tuple of ints -/
section
variable {prog : Program} {w : World} {A : Around} {E : Value → Shared → Prop} {s : Shared} {l : Addr} {its : List Value} {ns : List Int} {Q : Value → Shared → Prop}
theorem tup_old {o : Obj} {h' : Heap} (hk : ∀ b o', b ∉ [s.heap.objs.size] → (s.heap.push o).get? b = some o' → h'.get? b = some o') : ∀ b o', s.heap.get? b = some o' → h'.get? b = some o' := fun b o' e => by
  refine hk b o' (fun hm => ?_) (Heap.get?_push_of_some _ e)
  rcases List.mem_cons.mp hm with e1 | hm
  · exact absurd (e1 ▸ Heap.lt_size e) (Nat.lt_irrefl _)
  · cases hm
theorem tup_fp {o : Obj} (hlt : l < s.heap.objs.size) : ∀ b ∈ [s.heap.objs.size, l], b < (s.heap.push o).objs.size := fun b hb => by
  rw [Heap.size_push]
  rcases List.mem_cons.mp hb with rfl | hb
  · exact Nat.lt_succ_self _
  · rcases List.mem_cons.mp hb with rfl | hb
    · exact Nat.lt_succ_of_lt hlt
    · cases hb
theorem sumT_raw (hh : A.handled = none) (hl : s.heap.IsTuple l its.toArray) (hi : IntsAre its ns)
    (h : ∀ h' tk t', (∀ b o, s.heap.get? b = some o → h'.get? b = some o) → Q (.int ns.sum t') { s with heap := h', toks := tk }) : wpAny (model prog w) A (call (.builtin "sum") [.ref l]) Q E s := by
  obtain ⟨xs, e⟩ := hi.allInts.items
  have hn : numsOf (intItems xs).toList = ns := by rw [← e]; exact hi.numsOf
  rw [nums_intItems] at hn
  rw [e] at hl
  have hlt : l < s.heap.objs.size := by obtain ⟨_, e, _⟩ := hl; exact Heap.lt_size e
  refine call_sum_walkG (wpAny_pyIter_tuple hl ?_)
  refine ⟨_, _, _, _, _, _, numAt xs, rfl, Walks.tuple (A := A.in1) hh _ l (Nat.ne_of_lt hlt) (intItems xs), ⟨⟨_, Heap.get?_push_size _ rfl, rfl, rfl⟩, hl.push _⟩, tup_fp hlt, (fun _ _ => intItems_at), fun h' tk t' hk => ?_⟩
  have := h h' tk t' (tup_old hk)
  rw [show (intItems xs).size = xs.size from by simp [intItems], preSum_eq, List.take_of_length_le (by simp), hn]
  exact this
theorem maxT_raw (hh : A.handled = none) (hl : s.heap.IsTuple l its.toArray) (hi : IntsAre its ns) (hne : 0 < ns.length)
    (h : ∀ h' tk M t', (∀ b o, s.heap.get? b = some o → h'.get? b = some o) → M ∈ ns → (∀ a, a ∈ ns → a ≤ M) → Q (.int M t') { s with heap := h', toks := tk }) : wpAny (model prog w) A (call (.builtin "max") [.ref l]) Q E s := by
  obtain ⟨xs, e⟩ := hi.allInts.items
  have hn : numsOf (intItems xs).toList = ns := by rw [← e]; exact hi.numsOf
  rw [nums_intItems] at hn
  subst hn
  rw [e] at hl
  have hsz : 0 < xs.size := by simpa using hne
  have hlt : l < s.heap.objs.size := by obtain ⟨_, e, _⟩ := hl; exact Heap.lt_size e
  refine call_max_walk (wpAny_pyIter_tuple hl ?_)
  refine ⟨_, _, _, _, _, _, _, rfl, Walks.tuple (A := A.in1) hh _ l (Nat.ne_of_lt hlt) (intItems xs), ⟨⟨_, Heap.get?_push_size _ rfl, rfl, rfl⟩, hl.push _⟩, tup_fp hlt, by simpa [intItems] using hsz, CmpOf.ints_gt (numAt xs) (fun _ _ => intItems_at), fun v h' tk hP hk => ?_⟩
  have hP' : (intItems xs)[argBest (fun i j => decide (numAt xs i > numAt xs j)) (xs.size - 1)]? = some v := by simpa [intItems] using hP
  obtain ⟨t, rfl⟩ := intItems_at hP'
  obtain ⟨h1, h2⟩ := argBest_gt (numAt xs) (xs.size - 1)
  refine h h' tk _ t (tup_old hk) ?_ fun a ha => ?_
  · rw [numAt_eq]; exact PySem.getD_mem (by rw [List.length_map, Array.length_toList]; omega)
  · obtain ⟨j, hj, rfl⟩ := mem_getD ha
    rw [List.length_map, Array.length_toList] at hj
    rw [← numAt_eq]; exact h2 j (by omega)
theorem minT_raw (hh : A.handled = none) (hl : s.heap.IsTuple l its.toArray) (hi : IntsAre its ns) (hne : 0 < ns.length)
    (h : ∀ h' tk M t', (∀ b o, s.heap.get? b = some o → h'.get? b = some o) → M ∈ ns → (∀ a, a ∈ ns → M ≤ a) → Q (.int M t') { s with heap := h', toks := tk }) : wpAny (model prog w) A (call (.builtin "min") [.ref l]) Q E s := by
  obtain ⟨xs, e⟩ := hi.allInts.items
  have hn : numsOf (intItems xs).toList = ns := by rw [← e]; exact hi.numsOf
  rw [nums_intItems] at hn
  subst hn
  rw [e] at hl
  have hsz : 0 < xs.size := by simpa using hne
  have hlt : l < s.heap.objs.size := by obtain ⟨_, e, _⟩ := hl; exact Heap.lt_size e
  refine call_min_walk (wpAny_pyIter_tuple hl ?_)
  refine ⟨_, _, _, _, _, _, _, rfl, Walks.tuple (A := A.in1) hh _ l (Nat.ne_of_lt hlt) (intItems xs), ⟨⟨_, Heap.get?_push_size _ rfl, rfl, rfl⟩, hl.push _⟩, tup_fp hlt, by simpa [intItems] using hsz, CmpOf.ints_lt (numAt xs) (fun _ _ => intItems_at), fun v h' tk hP hk => ?_⟩
  have hP' : (intItems xs)[argBest (fun i j => decide (numAt xs i < numAt xs j)) (xs.size - 1)]? = some v := by simpa [intItems] using hP
  obtain ⟨t, rfl⟩ := intItems_at hP'
  obtain ⟨h1, h2⟩ := argBest_lt (numAt xs) (xs.size - 1)
  refine h h' tk _ t (tup_old hk) ?_ fun a ha => ?_
  · rw [numAt_eq]; exact PySem.getD_mem (by rw [List.length_map, Array.length_toList]; omega)
  · obtain ⟨j, hj, rfl⟩ := mem_getD ha
    rw [List.length_map, Array.length_toList] at hj
    rw [← numAt_eq]; exact h2 j (by omega)
end
section
variable {X : Cx}
def rSumTp (K : PySem.W.Frag) : List V → Hp → VK → Prop := fun vs H Q => ∃ (a : Addr) (ns : List Int), vs = [V.ref a] ∧ SqT K H a (ns.map V.int) ∧ Q (.int ns.sum) H
def rMaxTp (K : PySem.W.Frag) : List V → Hp → VK → Prop := fun vs H Q => ∃ (a : Addr) (ns : List Int), vs = [V.ref a] ∧ SqT K H a (ns.map V.int) ∧ 0 < ns.length ∧ ∀ m, m ∈ ns → (∀ y, y ∈ ns → y ≤ m) → Q (.int m) H
def rMinTp (K : PySem.W.Frag) : List V → Hp → VK → Prop := fun vs H Q => ∃ (a : Addr) (ns : List Int), vs = [V.ref a] ∧ SqT K H a (ns.map V.int) ∧ 0 < ns.length ∧ ∀ m, m ∈ ns → (∀ y, y ∈ ns → m ≤ y) → Q (.int m) H
theorem cr_sumTp (hc : X.calm = true) : CallR X (.builtin "sum") (rSumTp X.K) := by
  intro pins s σ H vs us Q I r h
  obtain ⟨a, ns, rfl, hs, q⟩ := h
  obtain ⟨its, rv, hl, _⟩ := I.tuple hs
  rw [Vals.ref1 r]
  exact sumT_raw (I.ok.hd hc) hl rv.ints fun h' tk t' hk => ⟨.int _, H, I.kept hk, ⟨_, rfl⟩, q⟩
theorem cr_maxTp (hc : X.calm = true) : CallR X (.builtin "max") (rMaxTp X.K) := by
  intro pins s σ H vs us Q I r h
  obtain ⟨a, ns, rfl, hs, hne, q⟩ := h
  obtain ⟨its, rv, hl, _⟩ := I.tuple hs
  rw [Vals.ref1 r]
  exact maxT_raw (I.ok.hd hc) hl rv.ints hne fun h' tk m t' hk h1 h2 => ⟨.int _, H, I.kept hk, ⟨_, rfl⟩, q m h1 h2⟩
theorem cr_minTp (hc : X.calm = true) : CallR X (.builtin "min") (rMinTp X.K) := by
  intro pins s σ H vs us Q I r h
  obtain ⟨a, ns, rfl, hs, hne, q⟩ := h
  obtain ⟨its, rv, hl, _⟩ := I.tuple hs
  rw [Vals.ref1 r]
  exact minT_raw (I.ok.hd hc) hl rv.ints hne fun h' tk m t' hk h1 h2 => ⟨.int _, H, I.kept hk, ⟨_, rfl⟩, q m h1 h2⟩
end
theorem dpAll_reverse {K : PySem.W.Frag} {F : Hp} : ∀ {ds : List D} {vs : List V}, DpAll K F vs ds → DpAll K F vs.reverse ds.reverse
  | [], _, h => by cases h; exact .nil
  | d :: ds, _, h => by
    cases h with
    | cons h1 h2 => rw [List.reverse_cons, List.reverse_cons]; exact dpAll_append (dpAll_reverse h2) (.cons h1 .nil)
/-! ### list + list, both read -/
theorem list_add_any (l : Addr) (items : Array Value) (n : Nat) (dd : Option Addr) (sl : Array (Option Value)) (b : Addr) (items2 : Array Value) (n2 : Nat) (dd2 : Option Addr) (sl2 : Array (Option Value)) (hc0 : items.size + items2.size ≤ sizeLine) :
    Meets (Builtin.«list.__add__» ⟨[.ref l, .ref b], []⟩) (fun _ R s => s.heap.get? l = some { cls := .type "list", dict := dd, data := .seq items n, slots := sl } ∧ s.heap.get? b = some { cls := .type "list", dict := dd2, data := .seq items2 n2, slots := sl2 } ∧ R (.ok (.ret (Value.ref s.heap.objs.size))) { s with heap := s.heap.push { cls := Value.type "list", data := Data.seq (items ++ items2) }, toks := s.toks }) :=
  .of_wp fun prog w A R s h => by obtain ⟨hp, g, d, tk, os⟩ := s; obtain ⟨hl, hb, h⟩ := h; have f1 := AutoSeq1.idx_int; have f2 := AutoSeq1.sub_tuple_tuple; have f3 := AutoSeq1.sub_list_list; have f4 := AutoSeq1.sub_tuple_list; have f5 := AutoSeq1.sub_list_tuple; wp_walk using wpAny_loadPart' hl, wpAny_loadPart' hb; exact ⟨_, rfl, h⟩
section
variable {X : Cx}
def rCatF (K : PySem.W.Frag) : R2 := fun x y H Q => ∃ l b xs zs, x = .ref l ∧ y = .ref b ∧ SqL K H l xs ∧ SqL K H b zs ∧ xs.length + zs.length ≤ sizeLine ∧ ∀ p, H p = none → Q (.ref p) (upd H p (.lst (xs ++ zs)))
theorem op_catF : OpR X (binaryOp .Add) (rCatF X.K) := by
  intro pins s σ H x y v u Q I rx ry h
  obtain ⟨l, b, xs, zs, rfl, rfl, hH, hB, hz, q⟩ := h
  cases rx
  cases ry
  obtain ⟨its, r, ⟨o, n, e, hc, hd, hs⟩, _⟩ := I.list hH
  obtain ⟨its2, r2, ⟨o2, n2, e2, hc2, hd2, hs2⟩, _⟩ := I.list hB
  obtain ⟨cls, dd, data, sl⟩ := o
  obtain ⟨cls2, dd2, data2, sl2⟩ := o2
  simp only at hc hd hs hc2 hd2 hs2
  subst hc hd hs hc2 hd2 hs2
  have hsz : its.toArray.size + its2.toArray.size ≤ sizeLine := by rw [List.size_toArray, List.size_toArray, ← r.length, ← r2.length]; exact hz
  refine concat_meets ⟨_, e, rfl⟩ ⟨_, e2, rfl⟩ noFill_list_add seq_list_add F.slot_list_add F.entry_list_add (F.args_list_add_2 _ _) (list_add_any l its.toArray n none sl b its2.toArray n2 none sl2 hsz) ⟨e, e2, ?_⟩
  have ea : its.toArray ++ its2.toArray = (its ++ its2).toArray := by simp
  rw [ea]
  exact ⟨.ref _, _, I.lnew (t' := s.toks) (r.append r2) (by rw [List.length_append]; omega), rfl, q _ I.fresh⟩
end
section
variable {c : Cc} {sp : List Sl} {Q : D → Prop} {QL : List D → Prop} {a b e : Expr} {pos p : Pos}
theorem cp_sumT {ns : List Int} (q : Q (.int ns.sum)) : CallP c (.builtin "sum") [.tuple (ns.map .int)] Q := .of fun X hX => ⟨_, cr_sumTp hX.calm, fun F H xs R s h k => by
  obtain ⟨v, rfl, z⟩ := dp1 h
  obtain ⟨a, vs, rfl, h1, h2⟩ := dp_tuple z
  cases dpAll_ints h2
  rw [hX.K]
  exact ⟨a, ns, rfl, sqT_mono s h1, k _ _ F H q (Grow.refl s) (.int _)⟩⟩
theorem cp_maxT {ns : List Int} (h0 : 0 < ns.length) (q : ∀ m, m ∈ ns → (∀ y, y ∈ ns → y ≤ m) → Q (.int m)) : CallP c (.builtin "max") [.tuple (ns.map .int)] Q := .of fun X hX => ⟨_, cr_maxTp hX.calm, fun F H xs R s h k => by
  obtain ⟨v, rfl, z⟩ := dp1 h
  obtain ⟨a, vs, rfl, h1, h2⟩ := dp_tuple z
  cases dpAll_ints h2
  rw [hX.K]
  exact ⟨a, ns, rfl, sqT_mono s h1, h0, fun m hm hy => k _ _ F H (q m hm hy) (Grow.refl s) (.int _)⟩⟩
theorem cp_minT {ns : List Int} (h0 : 0 < ns.length) (q : ∀ m, m ∈ ns → (∀ y, y ∈ ns → m ≤ y) → Q (.int m)) : CallP c (.builtin "min") [.tuple (ns.map .int)] Q := .of fun X hX => ⟨_, cr_minTp hX.calm, fun F H xs R s h k => by
  obtain ⟨v, rfl, z⟩ := dp1 h
  obtain ⟨a, vs, rfl, h1, h2⟩ := dp_tuple z
  cases dpAll_ints h2
  rw [hX.K]
  exact ⟨a, ns, rfl, sqT_mono s h1, h0, fun m hm hy => k _ _ F H (q m hm hy) (Grow.refl s) (.int _)⟩⟩
/-- a + b, lists -/
theorem EF_add (h : E c a sp fun d => E c b sp fun g => ∃ xs ys, d = .list xs ∧ g = .list ys ∧ xs.length + ys.length ≤ sizeLine ∧ QL (xs ++ ys)) : EF c (.BinOp a .Add b pos) sp QL := Sealed.of fun X hX G F0 F H σ r R k => by
  refine PE_tE (pe_op op_catF pe_tE pe_tE) ?_
  refine h X hX G F0 F H σ r _ fun d v F1 H1 hb g1 d1 => ?_
  refine hb X hX G F0 F1 H1 σ (r.grow g1) _ fun g u F2 H2 q g2 d2 => ?_
  obtain ⟨xs, ys, rfl, rfl, hz, q⟩ := q
  obtain ⟨p1, vs, rfl, h1, h2⟩ := dp_list d1
  obtain ⟨p2, ws, rfl, h3, h4⟩ := dp_list d2
  rw [hX.K]
  refine ⟨p1, p2, vs, ws, rfl, rfl, (g2.f.trans g2.fh).seq h1, g2.fh.seq h3, by rw [dpAll_len h2, dpAll_len h4]; exact hz, fun p hp => ?_⟩
  have g3 := Grow.out (o := .lst (vs ++ ws)) g2.fh hp
  exact k _ _ p _ _ q ((g1.trans g2).trans g3) ((g1.trans g2).h.free hp) (g2.fh.free hp) upd_same (dpAll_append (dpAll_mono g2.f _ _ h2) h4)
/-- a * b, a a fresh list -/
theorem EF_rep (h : EF c a sp fun xs => E c b sp fun g => ∃ k : Int, g = .int k ∧ (-(2 ^ 63) ≤ k ∧ k < 2 ^ 63) ∧ xs.length * k.toNat ≤ sizeLine ∧ QL (List.replicate k.toNat xs).flatten) : EF c (.BinOp a .Mult b pos) sp QL := Sealed.of fun X hX G F0 F H σ r R k => by
  refine PE_tE (pe_op op_rep pe_tE pe_tE) ?_
  refine h X hX G F0 F H σ r _ fun xs vs p F1 H1 hb g1 hn hF hH d1 => ?_
  refine hb X hX G F0 F1 H1 σ (r.grow g1) _ fun g u F2 H2 q g2 d2 => ?_
  obtain ⟨i, rfl, hi, hz, q⟩ := q
  cases d2
  refine ⟨p, i, vs, rfl, rfl, g2.h _ _ hH, hi.1, hi.2, by rw [dpAll_len d1]; exact hz, fun p2 hp => ?_⟩
  have g3 := Grow.out (o := .lst (List.replicate i.toNat vs).flatten) g2.fh hp
  refine k _ _ p2 _ _ q ((g1.trans g2).trans g3) ((g1.trans g2).h.free hp) (g2.fh.free hp) upd_same ?_
  have hd := dpAll_mono g2.f _ _ d1
  generalize i.toNat = m
  induction m with
  | zero => exact .nil
  | succ m ih => rw [List.replicate_succ, List.replicate_succ, List.flatten_cons, List.flatten_cons]; exact dpAll_append hd ih
/-- tuples: one behind the other, a part -/
theorem opp_catA {xs ys : List D} (h : xs.length + ys.length ≤ sizeLine) (q : Q (.tuple (xs ++ ys))) : OpP c (binaryOp .Add) (.tuple xs) (.tuple ys) Q := .of fun X hX => ⟨_, op_catA, fun F H x y R s q1 q2 k => by
  obtain ⟨a, vs, rfl, h1, h2⟩ := dp_tuple q1
  obtain ⟨b, ws, rfl, h3, h4⟩ := dp_tuple q2
  rw [hX.K]
  refine ⟨a, b, vs, ws, rfl, rfl, sqT_mono s h1, sqT_mono s h3, by rw [dpAll_len h2, dpAll_len h4]; exact h, fun e => ?_, fun _ e => ?_, fun _ _ p hp => ?_⟩
  · subst e
    cases h2
    exact k _ _ F H q (Grow.refl s) q2
  · subst e
    cases h4
    rw [List.append_nil] at q
    exact k _ _ F H q (Grow.refl s) q1
  · have g := Grow.new_ (o := .tup (vs ++ ws)) s hp
    exact k _ _ _ _ q g (.tup upd_same (dpAll_mono g.f _ _ (dpAll_append h2 h4)))⟩
theorem slp_tup {ds : List D} {lo hi : Option Int} (q : Q (.tuple (cutD ds lo hi))) : SlP c (.tuple ds) lo hi Q := fun X hX => ⟨_, sl_tupA, fun F H x R s h k => by
  obtain ⟨l, vs, rfl, q1, q2⟩ := dp_tuple h
  rw [hX.K]
  refine ⟨l, vs, rfl, sqT_mono s q1, fun hw => ?_, fun hw p hp => ?_⟩
  · rw [dpAll_len q2] at hw
    have e : cutD ds lo hi = ds := by
      unfold cutD
      rw [hw.1, hw.2, List.drop_zero, Nat.sub_zero, List.take_length]
    rw [e] at q
    exact k _ _ F H q (Grow.refl s) h
  · have g := Grow.new_ (o := .tup (cutV vs lo hi)) s hp
    exact k _ _ _ _ q g (.tup upd_same (dpAll_mono g.f _ _ (dpAll_cut q2)))⟩
/-- xs[::-1], a list -/
theorem EF_revL {kk : Nat} {p1 p2 p3 : Pos} (h : E c e sp fun d => ∃ xs, d = .list xs ∧ QL xs.reverse) : EF c (.Subscript e (.Slice none none (some (.UnaryOp .USub (.Constant (.int 1) kk p1) p2)) p3) pos) sp QL := Sealed.of fun X hX G F0 F H σ r R k => by
  refine PE_tE (pe_revL pe_tE) ?_
  refine h X hX G F0 F H σ r _ fun d v F1 H1 q g1 d1 => ?_
  obtain ⟨xs, rfl, q⟩ := q
  obtain ⟨a, vs, rfl, h1, h2⟩ := dp_list d1
  rw [hX.K]
  refine ⟨a, vs, rfl, g1.fh.seq h1, fun p hp => ?_⟩
  have g3 := Grow.out (o := .lst vs.reverse) g1.fh hp
  exact k _ _ p _ _ q (g1.trans g3) (g1.h.free hp) (g1.fh.free hp) upd_same (dpAll_reverse h2)
/-- % by a number that may be below 0 -/
theorem opp_modN {i j : Int} (h : j ≠ 0) (q : Q (.int (i.fmod j))) : OpP c (binaryOp .Mod) (.int i) (.int j) Q := opp_rI (fun _ => op_modN) (fun _ _ => .int _) h q
end
end Pl
set_option linter.all false
set_option autoImplicit false
namespace Pl
open PySem PySem.Spec PyProof.Rows L2
/-! ### plain facts -/
theorem bez (a b : Nat) : ∃ x y : Int, (a : Int) * x + (b : Int) * y = ((Nat.gcd a b : Nat) : Int) := by
  induction a, b using Nat.gcd.induction with
  | H0 n => exact ⟨0, 1, by rw [Nat.gcd_zero_left]; omega⟩
  | H1 m n hm ih =>
    obtain ⟨x, y, h⟩ := ih
    refine ⟨y - (n / m : Nat) * x, x, ?_⟩
    rw [Nat.gcd_rec m n, ← h]
    have e : (n : Int) = (m : Int) * ((n / m : Nat) : Int) + ((n % m : Nat) : Int) := by
      have := Nat.div_add_mod n m
      omega
    generalize ((n / m : Nat) : Int) = k at *
    generalize ((n % m : Nat) : Int) = r at *
    rw [e, Int.mul_sub, Int.add_mul, Int.mul_assoc]
    omega
theorem bezI (a b : Int) : ∃ x y : Int, a * x + b * y = ((Nat.gcd a.natAbs b.natAbs : Nat) : Int) := by
  obtain ⟨x, y, h⟩ := bez a.natAbs b.natAbs
  have f : ∀ z x : Int, ∃ x', z * x' = (z.natAbs : Int) * x := fun z x => by
    rcases Int.le_total 0 z with hz | hz
    · exact ⟨x, by rw [show (z.natAbs : Int) = z from by omega]⟩
    · exact ⟨-x, by rw [show (z.natAbs : Int) = -z from by omega, Int.neg_mul, Int.mul_neg]⟩
  obtain ⟨x', e1⟩ := f a x
  obtain ⟨y', e2⟩ := f b y
  exact ⟨x', y', by rw [e1, e2, h]⟩
/-- the first one of a longer range -/
theorem fstB_more {p : Int → Bool} {lo : Int} {n N : Nat} (h : n ≤ N) (hp : ∀ s, lo + n ≤ s → s < lo + N → p s = true → ∃ s', lo ≤ s' ∧ s' < lo + n ∧ p s' = true) : fstB p lo N = fstB p lo n := by
  unfold fstB
  rcases find_cases p lo n with ⟨h1, h2⟩ | ⟨t, h1, h2, h3, h4, h5⟩
  · rw [h1, find_none]
    intro s a1 a2
    rcases Int.lt_or_le s (lo + n) with z | z
    · exact h2 s a1 z
    · cases hs : p s with
      | false => rfl
      | true =>
        obtain ⟨s', b1, b2, b3⟩ := hp s z a2 hs
        rw [h2 s' b1 b2] at b3
        cases b3
  · rw [h1, find_some h2 (by omega) h4 h5]
theorem cut_ints (xs : List Int) (lo hi : Option Int) : ∃ ys : List Int, cutD (xs.map PyData.int) lo hi = ys.map PyData.int ∧ ys.length ≤ xs.length ∧ ∀ y ∈ ys, y ∈ xs := by
  refine ⟨(xs.drop (HT.sIx xs.length 0 lo)).take (HT.sIx xs.length xs.length hi - HT.sIx xs.length 0 lo), ?_, ?_, fun y hy => List.mem_of_mem_drop (List.mem_of_mem_take hy)⟩
  · unfold cutD
    rw [List.length_map, ← List.map_drop, ← List.map_take]
  · rw [List.length_take, List.length_drop]; omega
theorem fmod_zero {i j : Int} : i.fmod j = 0 ↔ j ∣ i := by
  constructor
  · exact Int.dvd_of_fmod_eq_zero
  · exact Int.fmod_eq_zero_of_dvd
end Pl
set_option linter.all false
set_option autoImplicit false
set_option maxRecDepth 100000
namespace Pl
open PySem PySem.Spec PyProof.Rows L2
/-! ### data without a list in it outlives a borrowed list -/
mutual
def flatB : D → Bool
  | .none => true
  | .bool _ => true
  | .int _ => true
  | .str _ => true
  | .list _ => false
  | .tuple ds => flatBs ds
  | .dict _ => false
def flatBs : List D → Bool
  | [] => true
  | d :: ds => flatB d && flatBs ds
end
mutual
theorem dp_keepT {K : PySem.W.Frag} {F F' : Hp} (e : ∀ b xs, F b = some (.tup xs) → F' b = some (.tup xs)) : ∀ (d : D) (v : V), flatB d = true → Dp K F v d → Dp K F' v d
  | .none, _, _, h => by cases h; exact .non
  | .bool b, _, _, h => by cases h; exact .bl b
  | .int i, _, _, h => by cases h; exact .int i
  | .str x, _, _, h => by cases h; exact .str x
  | .list ds, _, hf, h => by simp [flatB] at hf
  | .tuple ds, _, hf, h => by
    cases h with
    | tup hs ha => exact .tup (e _ _ hs) (dpAll_keepT e ds _ (by simpa [flatB] using hf) ha)
  | .dict _, _, hf, h => by simp [flatB] at hf
theorem dpAll_keepT {K : PySem.W.Frag} {F F' : Hp} (e : ∀ b xs, F b = some (.tup xs) → F' b = some (.tup xs)) : ∀ (ds : List D) (vs : List V), flatBs ds = true → DpAll K F vs ds → DpAll K F' vs ds
  | [], _, _, h => by cases h; exact .nil
  | d :: ds, _, hf, h => by
    have hf' : flatB d = true ∧ flatBs ds = true := by simpa [flatBs] using hf
    cases h with
    | cons h1 h2 => exact .cons (dp_keepT e d _ hf'.1 h1) (dpAll_keepT e ds _ hf'.2 h2)
end
section
variable {c : Cc} {sp : List Sl} {Q : D → Prop} {e : Expr}
theorem E_bor (i : Nat) {ds : List D} (h : E c e (sp.set i (.v (.list ds))) fun d => flatB d = true ∧ Q d) (hsl : sp[i]? = some (.l ds) := by rfl) : E c e sp Q := Sealed.of fun X hX G F0 F H σ r R k => by
  obtain ⟨a, vs, h1, h2, r'⟩ := r.freeze hsl
  refine h X hX G F0 _ H σ r' R fun d v F' H' q g hd => ?_
  refine k d v _ H' q.2 (SR.unfreeze_grow h1 h2 g) (dp_keepT (fun b xs hb => ?_) d v q.1 hd)
  have ha : F' a = some (.lst vs) := g.f a _ upd_same
  have hne : b ≠ a := fun z => by
    subst z
    rw [ha] at hb; cases hb
  exact (if_neg hne : (if b = a then none else F' b) = F' b).trans hb
end
/-! ### equal tuples of ints -/
theorem eqv_ints : ∀ xs ys : List Int, PyData.eqvAll (xs.map .int) (ys.map .int) = decide (xs = ys)
  | [], [] => by simp [PyData.eqvAll]
  | [], y :: ys => by simp [PyData.eqvAll]
  | x :: xs, [] => by simp [PyData.eqvAll]
  | x :: xs, y :: ys => by
    rw [List.map_cons, List.map_cons, PyData.eqvAll, eqv_ints xs ys]
    by_cases h1 : x = y <;> by_cases h2 : xs = ys <;> simp [PyData.eqv, h1, h2]
theorem eqv_tup (xs ys : List Int) : PyData.eqv (.tuple (xs.map .int)) (.tuple (ys.map .int)) = decide (xs = ys) := by
  rw [PyData.eqv]; exact eqv_ints xs ys
theorem eqv_two (a b x y : Int) : PyData.eqv (.tuple [.int a, .int b]) (.tuple [.int x, .int y]) = (decide (a = x) && decide (b = y)) := by
  rw [show PyData.eqv (.tuple [.int a, .int b]) (.tuple [.int x, .int y]) = decide ([a, b] = [x, y]) from eqv_tup [a, b] [x, y]]
  by_cases h1 : a = x <;> by_cases h2 : b = y <;> simp [h1, h2]
theorem lay_ints : ∀ xs : List Int, PyData.canLayAll0 (xs.map .int) = true
  | [] => rfl
  | x :: xs => by rw [List.map_cons, PyData.canLayAll0, lay_ints xs]; rfl
theorem lay_twos {α : Type} (f g : α → Int) : ∀ xs : List α, PyData.canLayAll0 (xs.map fun x => .tuple [.int (f x), .int (g x)]) = true
  | [] => rfl
  | x :: xs => by rw [List.map_cons, PyData.canLayAll0, lay_twos f g xs]; rfl
theorem depth_ints : ∀ xs : List Int, PyData.depthAll (xs.map .int) ≤ 1
  | [] => by simp only [List.map_nil, PyData.depthAll]; omega
  | x :: xs => by
    have := depth_ints xs
    simp only [List.map_cons, PyData.depthAll, PyData.depth]
    omega
theorem depth_twos {α : Type} (f g : α → Int) : ∀ xs : List α, PyData.depthAll (xs.map fun x => .tuple [.int (f x), .int (g x)]) ≤ 2
  | [] => by simp only [List.map_nil, PyData.depthAll]; omega
  | x :: xs => by
    have := depth_twos f g xs
    simp only [List.map_cons, PyData.depthAll, PyData.depth]
    omega
theorem shaped_ints (xs : List Int) : SeqAt.shaped (.tuple (xs.map PyData.int)) = true := by
  unfold SeqAt.shaped
  rw [Bool.and_eq_true, decide_eq_true_eq]
  have := depth_ints xs
  refine ⟨by rw [PyData.canLay0]; exact lay_ints xs, by simp only [PyData.depth]; omega⟩
theorem shaped_two (x y : Int) : SeqAt.shaped (.tuple [.int x, .int y]) = true := shaped_ints [x, y]
theorem shaped_intsL (xs : List Int) : SeqAt.shaped (.list (xs.map PyData.int)) = true := by
  unfold SeqAt.shaped
  rw [Bool.and_eq_true, decide_eq_true_eq]
  have := depth_ints xs
  refine ⟨by rw [PyData.canLay0]; exact lay_ints xs, by simp only [PyData.depth]; omega⟩
theorem shaped_twosL {α : Type} (f g : α → Int) (xs : List α) : SeqAt.shaped (.list (xs.map fun x => .tuple [.int (f x), .int (g x)])) = true := by
  unfold SeqAt.shaped
  rw [Bool.and_eq_true, decide_eq_true_eq]
  have := depth_twos f g xs
  refine ⟨by rw [PyData.canLay0]; exact lay_twos f g xs, by simp only [PyData.depth]; omega⟩
section
variable {c : Cc} {sp : List Sl} {Q : D → Prop} {e : Expr}
theorem Cc.Has.u65 {X : Cx} (h : c.Has X) : X.A.units + 65 < cLine := by have := h.room.un; omega
theorem opp_inD {d : D} {ds : List D} (h1 : SeqAt.shaped d = true) (h2 : SeqAt.shaped (.list ds) = true) (q : Q (.bool (ds.any fun z => PyData.eqv z d))) : OpP c (compareOp .In) d (.list ds) Q :=
  .of fun X hX => ⟨_, op_inD hX.u65, fun F H x y R s q1 q2 k => ⟨d, ds, (dp_mono s _ _ (hX.K ▸ q1)).kit (SeqAt.canLay_of_shaped h1), (dp_mono s _ _ (hX.K ▸ q2)).kit (SeqAt.canLay_of_shaped h2), h1, h2, k _ _ F H q (Grow.refl s) (.bl _)⟩⟩
theorem opp_ninD {d : D} {ds : List D} (h1 : SeqAt.shaped d = true) (h2 : SeqAt.shaped (.list ds) = true) (q : Q (.bool (!ds.any fun z => PyData.eqv z d))) : OpP c (compareOp .NotIn) d (.list ds) Q :=
  .of fun X hX => ⟨_, op_notInD hX.u65, fun F H x y R s q1 q2 k => ⟨d, ds, (dp_mono s _ _ (hX.K ▸ q1)).kit (SeqAt.canLay_of_shaped h1), (dp_mono s _ _ (hX.K ▸ q2)).kit (SeqAt.canLay_of_shaped h2), h1, h2, k _ _ F H q (Grow.refl s) (.bl _)⟩⟩
theorem opp_eq2 {a b x y : Int} (q : Q (.bool (decide (a = x) && decide (b = y)))) : OpP c (compareOp .Eq) (.tuple [.int a, .int b]) (.tuple [.int x, .int y]) Q := opp_eq (shaped_two a b) (shaped_two x y) (by rw [eqv_two]; exact q)
theorem opp_ne2 {a b x y : Int} (q : Q (.bool (!(decide (a = x) && decide (b = y))))) : OpP c (compareOp .NotEq) (.tuple [.int a, .int b]) (.tuple [.int x, .int y]) Q := opp_ne (shaped_two a b) (shaped_two x y) (by rw [eqv_two]; exact q)
/-- the size of a product -/
theorem mulW_of {i j : Int} (h1 : i.natAbs < 2 ^ 1000) (h2 : j.natAbs < 2 ^ 1000) : CMulW i j := by
  have f : ∀ n : Nat, n < 2 ^ 1000 → n.log2 < 1000 := fun n h => by
    by_cases hz : n = 0
    · subst hz; decide
    · exact (Nat.log2_lt hz).mpr h
  have := f _ h1
  have := f _ h2
  unfold CMulW
  omega
end
end Pl
set_option linter.all false
set_option autoImplicit false
set_option maxRecDepth 100000
namespace Pl
open PySem PySem.Spec PyProof.Rows L2
section
variable {c : Cc} {sp : List Sl} {P : Pn} {a b e : Expr} {pos : Pos}
theorem S1_par3 (i j l : Nat) {x y z : Str} {px py pz pt : Pos} {kt k2 : Nat} {pt2 : Pos} (hN : c.N.Nodup) (h : E c a sp fun d => E c b sp fun g => E c e sp fun f => P.nx (((sp.set i (.v d)).set j (.v g)).set l (.v f))) (hi : c.N[i]? = some x := by rfl) (hj : c.N[j]? = some y := by rfl) (hl : c.N[l]? = some z := by rfl) (hij : i ≠ j := by decide) (hil : i ≠ l := by decide) (hjl : j ≠ l := by decide)
    (hx : c.sc.names.lookup x = some .local := by rfl) (hy : c.sc.names.lookup y = some .local := by rfl) (hz : c.sc.names.lookup z = some .local := by rfl)
    (hst : ∀ env, starEach [a, b, e] env = (false, eval a env) :: starEach [b, e] env := by intro _; rfl) (hst2 : ∀ env, starEach [b, e] env = (false, eval b env) :: starEach [e] env := by intro _; rfl) (hst3 : ∀ env, starEach [e] env = (false, eval e env) :: starEach [] env := by intro _; rfl)
    (hw : ∀ env : Env, env.scope = c.sc → swappedStores [.Tuple [.Name x px, .Name y py, .Name z pz] kt pt] (.Tuple [a, b, e] k2 pt2) env = pure (some [x, y, z]) := by intro env he; cases env; subst he; rfl)
    (hs : ∀ env, swapsWithSole [.Tuple [.Name x px, .Name y py, .Name z pz] kt pt] (.Tuple [a, b, e] k2 pt2) pos.line env = pure false := by intro _; rfl) :
    S1 c (.Assign [.Tuple [.Name x px, .Name y py, .Name z pz] kt pt] (.Tuple [a, b, e] k2 pt2) pos) sp P := Sealed.of fun X hX G F0 F H σ r D0 k => by
  refine PS_t (ps_par3 (i := i) (j := j) (l := l) hX.calm (by rw [hX.N]; exact hN) (by rw [hX.N]; exact hi) (by rw [hX.N]; exact hj) (by rw [hX.N]; exact hl) hij hil hjl (by rw [hX.sc]; exact hx) (by rw [hX.sc]; exact hy) (by rw [hX.sc]; exact hz) (pa_cons pe_tE (pa_cons pe_tE (pa_cons pe_tE pa_nil (hst3 _)) (hst2 _)) (hst _)) (hw _ hX.sc) (hs _)) ?_
  refine h X hX G F0 F H σ r _ fun d v F1 H1 q g d1 => ?_
  refine Sealed.run q X hX G F0 F1 H1 σ (r.grow g) _ fun d2 v2 F2 H2 q2 g2 dd2 => ?_
  refine Sealed.run q2 X hX G F0 F2 H2 σ ((r.grow g).grow g2) _ fun d3 v3 F3 H3 q3 g3 dd3 => ?_
  exact ⟨v, v2, v3, rfl, k.nx _ F3 H3 _ q3 ((((((r.grow g).grow g2).grow g3).set_v i (dp_mono g3.f _ _ (dp_mono g2.f _ _ d1))).set_v j (dp_mono g3.f _ _ dd2)).set_v l dd3)⟩
end
end Pl
set_option linter.all false
set_option autoImplicit false
set_option maxRecDepth 100000
set_option maxHeartbeats 4000000
namespace Pl
open PySem PySem.Spec PyProof.Rows L2
/-! ### tuple * int, few times -/
theorem tuple_mul1 (l : Addr) (items : Array Value) (n : Nat) (dd : Option Addr) (sl : Array (Option Value)) (x : Int) (u : Tok) (c0 : (decide (x < -(2 ^ 63)) || decide (x ≥ 2 ^ 63)) = false) (c1 : (items.isEmpty || x == 1) = true) :
    Meets (Builtin.«tuple.__mul__» ⟨[.ref l, .int x u], []⟩) (fun _ R s => s.heap.get? l = some { cls := .type "tuple", dict := dd, data := .seq items n, slots := sl } ∧ R (.ok (.ret (Value.ref l))) s) :=
  .of_wp fun prog w A R s h => by
    obtain ⟨hp, g, d, tk, os⟩ := s
    obtain ⟨hl, h⟩ := h
    have f1 := AutoSeq1.idx_int
    wp_walk using wpAny_loadPart' hl
    repeat (first
      | (refine wpAny_ite_false (decide_eq_false (by rw [c0]; exact Bool.false_ne_true)) ?_; wp_walk using wpAny_loadPart' hl)
      | (refine wpAny_ite_true (decide_eq_true (by rw [c1])) ?_; wp_walk using wpAny_loadPart' hl))
    exact ⟨_, rfl, h⟩
theorem tuple_mul0 (l : Addr) (items : Array Value) (n : Nat) (dd : Option Addr) (sl : Array (Option Value)) (x : Int) (u : Tok) (c0 : (decide (x < -(2 ^ 63)) || decide (x ≥ 2 ^ 63)) = false) (c1 : (items.isEmpty || x == 1) = false) (c2 : (decide (x ≤ 0) || items.isEmpty) = true) :
    Meets (Builtin.«tuple.__mul__» ⟨[.ref l, .int x u], []⟩) (fun _ R s => s.heap.get? l = some { cls := .type "tuple", dict := dd, data := .seq items n, slots := sl } ∧ R (.ok (.ret (Value.ref s.heap.objs.size))) { s with heap := s.heap.push { cls := Value.type "tuple", data := Data.seq #[] }, toks := s.toks }) :=
  .of_wp fun prog w A R s h => by
    obtain ⟨hp, g, d, tk, os⟩ := s
    obtain ⟨hl, h⟩ := h
    have f1 := AutoSeq1.idx_int
    have hz : (#[] : Array Value).size ≤ sizeLine := by decide
    wp_walk using wpAny_loadPart' hl
    repeat (first
      | (refine wpAny_ite_false (decide_eq_false (by rw [c0]; exact Bool.false_ne_true)) ?_; wp_walk using wpAny_loadPart' hl)
      | (refine wpAny_ite_false (decide_eq_false (by rw [c1]; exact Bool.false_ne_true)) ?_; wp_walk using wpAny_loadPart' hl)
      | (refine wpAny_ite_true (decide_eq_true (by rw [c2])) ?_; wp_walk using wpAny_loadPart' hl)
      | (refine wpAny_ite_false (decide_eq_false (Nat.not_lt.mpr hz)) ?_; wp_walk using wpAny_loadPart' hl))
    exact ⟨_, rfl, h⟩
section
variable {X : Cx}
def rRepA (K : PySem.W.Frag) : R2 := fun x y H Q => ∃ l k xs, x = .ref l ∧ y = .int k ∧ SqT K H l xs ∧ xs ≠ [] ∧ 0 ≤ k ∧ k ≤ 1000 ∧ xs.length ≤ 1000 ∧ (k = 1 → Q (.ref l) H) ∧ (k ≠ 1 → ∀ p, H p = none → Q (.ref p) (upd H p (.tup (List.replicate k.toNat xs).flatten)))
theorem op_repA : OpR X (binaryOp .Mult) (rRepA X.K) := by
  intro pins s σ H x y v u Q I rx ry h
  obtain ⟨l, k, xs, rfl, rfl, hT, hne, h1, h2, hz, q1, q2⟩ := h
  rcases Int.lt_or_le 1 k with hk | hk
  · exact op_repT pins s σ H _ _ v u Q I rx ry ⟨l, k, xs, rfl, rfl, hT, hne, by omega, h2, hz, q2 (by omega)⟩
  cases rx
  obtain ⟨t, rfl⟩ := ry
  obtain ⟨its, r, ⟨⟨cls, dd, data, sl⟩, ho, hc, n, hd⟩, hs⟩ := I.tuple hT
  simp only at hc hd
  subst hc hd
  have hle : its.length = xs.length := r.length.symm
  have hn : its ≠ [] := fun e => hne (by
    rw [e] at hle
    exact List.eq_nil_of_length_eq_zero hle.symm)
  have hi : its.toArray.isEmpty = false := by
    cases its with
    | nil => exact absurd rfl hn
    | cons a b => rfl
  have c0 : (decide (k < -(2 ^ 63)) || decide (k ≥ 2 ^ 63)) = false := by
    rw [decide_eq_false (by omega), decide_eq_false (by omega)] <;> rfl
  by_cases hk1 : k = 1
  · have c1 : (its.toArray.isEmpty || k == 1) = true := by rw [hi, Bool.false_or, hk1]; rfl
    refine wpAny_binaryOp_repeat_ref (T := "tuple") (U := "int") (by decide) ⟨_, ho, rfl⟩ (fun s' => typeIs_int s' k t) noFill_tuple_mul F.fills_int_mul F.slot_int_rmul repeat_tuple F.slot_int_index.lookup
      (call_meets F.slot_int_rmul (typeIs_int s k t) F.entry_int_rmul (F.args_int_rmul_2 _ _) (int_rmul_tuple k t l its.toArray n dd sl)
        ⟨ho, rfl, ⟨_, ho, rfl⟩, call_meets F.slot_tuple_mul ⟨_, ho, rfl⟩ F.entry_tuple_mul (F.args_tuple_mul_2 _ _) (tuple_mul1 l its.toArray n dd sl k t c0 c1) ⟨ho, ?_⟩⟩)
    exact ⟨.ref l, H, I, rfl, q1 hk1⟩
  · have hk0 : k = 0 := by omega
    have c1 : (its.toArray.isEmpty || k == 1) = false := by rw [hi, Bool.false_or, hk0]; rfl
    have c2 : (decide (k ≤ 0) || its.toArray.isEmpty) = true := by rw [decide_eq_true (by omega)]; rfl
    refine wpAny_binaryOp_repeat_ref (T := "tuple") (U := "int") (by decide) ⟨_, ho, rfl⟩ (fun s' => typeIs_int s' k t) noFill_tuple_mul F.fills_int_mul F.slot_int_rmul repeat_tuple F.slot_int_index.lookup
      (call_meets F.slot_int_rmul (typeIs_int s k t) F.entry_int_rmul (F.args_int_rmul_2 _ _) (int_rmul_tuple k t l its.toArray n dd sl)
        ⟨ho, rfl, ⟨_, ho, rfl⟩, call_meets F.slot_tuple_mul ⟨_, ho, rfl⟩ F.entry_tuple_mul (F.args_tuple_mul_2 _ _) (tuple_mul0 l its.toArray n dd sl k t c0 c1 c2) ⟨ho, ?_⟩⟩)
    refine ⟨.ref s.heap.objs.size, _, I.laid (t' := s.toks) (o := .tup []) (fun b ob q => Heap.get?_push_of_some _ q) (Nat.le_refl _) ?_, rfl, ?_⟩
    · exact ⟨by decide, [], .nil, IsTup.new _ _⟩
    · have := q2 hk1 _ (I.hok.fresh (Nat.le_refl _))
      rw [hk0] at this
      exact this
end
section
variable {c : Cc} {Q : D → Prop}
theorem opp_repT {xs : List D} {k : Int} (hne : xs ≠ []) (hk : 0 ≤ k ∧ k ≤ 1000) (hz : xs.length ≤ 1000) (q : Q (.tuple (List.replicate k.toNat xs).flatten)) : OpP c (binaryOp .Mult) (.tuple xs) (.int k) Q := .of fun X hX => ⟨_, op_repA, fun F H x y R s q1 q2 kk => by
  obtain ⟨a, vs, rfl, h1, h2⟩ := dp_tuple q1
  cases dp_int q2
  rw [hX.K]
  refine ⟨a, k, vs, rfl, rfl, sqT_mono s h1, fun e => ?_, hk.1, hk.2, by rw [dpAll_len h2]; exact hz, fun e => ?_, fun e p hp => ?_⟩
  · subst e
    cases h2
    exact hne rfl
  · subst e
    rw [show (List.replicate (1 : Int).toNat xs).flatten = xs from by show (List.replicate 1 xs).flatten = xs; simp] at q
    exact kk _ _ F H q (Grow.refl s) q1
  · have g := Grow.new_ (o := .tup (List.replicate k.toNat vs).flatten) s hp
    refine kk _ _ _ _ q g (.tup upd_same (dpAll_mono g.f _ _ ?_))
    generalize k.toNat = m
    induction m with
    | zero => exact .nil
    | succ m ih => rw [List.replicate_succ, List.replicate_succ, List.flatten_cons, List.flatten_cons]; exact dpAll_append h2 ih⟩
end
end Pl
set_option linter.all false
set_option autoImplicit false
set_option maxRecDepth 100000
set_option maxHeartbeats 4000000
namespace Pl
open PySem PySem.Spec PyProof.Rows L2
/-! ### t[::-1], a tuple -/
section
variable {prog : Program} {w : World} {A : Around} {E : Value → Shared → Prop} {s : Shared}
theorem adjust_rev (n : Nat) : Builtin.Slice.sliceAdjust none none (-1) (n : Int) = ((n : Int) - 1, -1) := by
  unfold Builtin.Slice.sliceAdjust
  simp
theorem places_rev (n : Nat) : Builtin.Slice.slicePlaces ((n : Int) - 1) (-1) (-1) = n := by
  unfold Builtin.Slice.slicePlaces
  have h1 : ¬ ((-1 : Int) > 0) := by omega
  simp only [h1, if_false, show -(-1 : Int) = 1 from rfl, Int.ediv_one]
  split <;> omega
theorem applied_rev {sl : Addr} {vs : Value} {n : Nat} {Q : Int × Int × Nat → Shared → Prop} (hs : s.heap.IsSliceOf sl .none .none vs) (ps : IsPart vs (some (-1)))
    (h : Q ((n : Int) - 1, -1, n) s) : wpAny (model prog w) A (Builtin.Slice.sliceApplied (.ref sl) (pure (n : Int))) Q E s := by
  obtain ⟨os, hos, hcs, hds⟩ := id hs
  unfold Builtin.Slice.sliceApplied Builtin.Slice.sliceFields
  refine wpAny_bind (wpAny_bind (wpAny_field hos hds (x := .none) rfl (wpAny_bind (wpAny_field hos hds (x := .none) rfl (wpAny_bind (wpAny_field hos hds (x := vs) rfl (wpAny_pure ?_)))))))
  refine wpAny_bind (HT.slicePart_ ps ?_)
  show wpAny _ _ (if ((-1 : Int) == 0) = true then _ else _) _ _ s
  rw [if_neg (by decide)]
  refine wpAny_bind (slicePart_none (wpAny_bind (slicePart_none (wpAny_bind (wpAny_pure ?_)))))
  show wpAny _ _ (match Builtin.Slice.sliceAdjust none none (-1) (n : Int) with | (lo, hi) => pure (lo, (-1 : Int), Builtin.Slice.slicePlaces lo hi (-1))) _ _ s
  rw [adjust_rev n]
  show wpAny _ _ (pure ((n : Int) - 1, (-1 : Int), Builtin.Slice.slicePlaces ((n : Int) - 1) (-1) (-1))) _ _ s
  rw [places_rev]
  exact wpAny_pure h
theorem pick_rev (xs : Array Value) : ((List.range xs.size).filterMap fun (m : Nat) => xs[((xs.size : Int) - 1 + (m : Int) * (-1)).toNat]?).toArray = xs.toList.reverse.toArray := by
  congr 1
  apply List.ext_getElem?
  intro i
  have key : ∀ n, n ≤ xs.size → (List.range n).filterMap (fun (m : Nat) => xs[((xs.size : Int) - 1 + (m : Int) * (-1)).toNat]?) = xs.toList.reverse.take n := fun n => by
    induction n with
    | zero => intro _; rfl
    | succ n ih =>
      intro hn
      rw [List.range_succ, List.filterMap_append, ih (by omega), List.take_add_one]
      congr 1
      have e : ((xs.size : Int) - 1 + (n : Int) * (-1)).toNat = xs.size - 1 - n := by omega
      rw [List.filterMap_cons, e, List.getElem?_reverse (by rw [Array.length_toList]; omega), Array.length_toList, Array.getElem?_toList]
      cases xs[xs.size - 1 - n]? <;> rfl
  rw [key xs.size (Nat.le_refl _), List.take_of_length_le (by rw [List.length_reverse, Array.length_toList]; exact Nat.le_refl _)]
theorem getItem_tuple_rev {t sl : Addr} {items : Array Value} {vs : Value} {Q : Value → Shared → Prop} (ht : IsTup s.heap t items) (hs : s.heap.IsSliceOf sl .none .none vs) (ps : IsPart vs (some (-1)))
    (h : Q (.ref s.heap.objs.size) { s with heap := s.heap.push { cls := .type "tuple", data := .seq items.toList.reverse.toArray } })
    (hsz : items.size ≤ sizeLine) : wpAny (model prog w) A (getItem (.ref t) (.ref sl)) Q E s := by
  have htake : sizeOk (.seq items.toList.reverse.toArray) := by
    show items.toList.reverse.toArray.size ≤ sizeLine
    rw [List.size_toArray, List.length_reverse, Array.length_toList]
    exact hsz
  obtain ⟨os, hos, hcs, hds⟩ := id hs
  have hTs : s.TypeIs (.ref sl) "slice" := ⟨os, hos, hcs⟩
  unfold getItem
  try with_reducible refine wpAny_holding ?_
  first | refine wpAny_bind (wpAny_pure ?_) | skip
  refine wpAny_bind (wpAny_sequenceKey ht.typeIs (by decide) ?_)
  refine wpAny_bind (wpAny_callSpecial?_slot (name := Str.ofString "__getitem__") ht.typeIs PyProof.Rows.slot_tuple_getitem
    (wpAny_call_entry PyProof.Rows.slot_tuple_getitem ht.typeIs entry_tuple_getitem ?_ (args_tuple_getitem _ _)))
  show wpAny _ _ (Builtin.Tuple.tupleItemsOf (.ref t) >>= _) _ _ s
  refine wpAny_bind (tupleItemsOf_ ht ?_)
  refine wpAny_bind (wpAny_typeOf hTs ?_)
  rw [if_pos (by decide)]
  refine wpAny_bind (applied_rev hs ps ?_)
  have hno : ¬ ((((items.size : Int) - 1 == 0) && ((-1 : Int) == 1) && (items.size == items.size)) = true) := by
    intro q
    rw [Bool.and_eq_true, Bool.and_eq_true] at q
    exact absurd q.1.2 (by decide)
  show wpAny _ _ (if (((items.size : Int) - 1 == 0) && ((-1 : Int) == 1) && (items.size == items.size)) = true then _ else _) _ _ s
  rw [if_neg hno, pick_rev]
  first
    | exact wpAny_bind (m := Builtin.Tuple.tupleExact _) (wpAny_newObj_type (wpAny_pure ⟨_, rfl, wpAny_pure h⟩) htake)
    | exact wpAny_bind (m := Builtin.Tuple.tupleExact _) (wpAny_newObj_type (wpAny_bind (wpAny_pure (wpAny_pure ⟨_, rfl, wpAny_pure h⟩))) htake)
end
section
variable {X : Cx}
def tRevT (K : PySem.W.Frag) (te : TE) : TE := fun σ H Q => te σ H fun x H1 => ∃ a xs, x = .ref a ∧ SqT K H1 a xs ∧ ∀ p, H1 p = none → Q (.ref p) (upd H1 p (.tup xs.reverse))
theorem pe_revT {e : Expr} {te : TE} {k : Nat} {p1 p2 p3 pos : Pos} (he : PE X e te) : PE X (.Subscript e (.Slice none none (some (.UnaryOp .USub (.Constant (.int 1) k p1) p2)) p3) pos) (tRevT X.K te) := by
  refine ⟨fun pins s σ H Q I h => ?_⟩
  refine Subscript_ (thn (he.run pins s σ H _ I h) fun v s1 ⟨x, H1, I1, r1, q1⟩ => ?_)
  obtain ⟨a, xs, ex, hx, q⟩ := q1
  subst ex
  cases r1
  have hst : PO X (some (.UnaryOp .USub (.Constant (.int 1) k p1) p2)) (tPart (tUn (rU fun i => .int (-i)) (tC (.int 1)))) := po_some (pe_un un_neg pe_int)
  refine wpAny_Slice (thn (po_none.run pins s1 σ H1 (fun o H2 => o = none ∧ H2 = H1) I1 ⟨rfl, rfl⟩) fun vl s2 ⟨l, H2, I2, pl, el, e2⟩ => ?_)
  subst el e2
  refine thn (po_none.run pins s2 σ H2 (fun o H3 => o = none ∧ H3 = H2) I2 ⟨rfl, rfl⟩) fun vu s3 ⟨u, H3, I3, pu, eu, e3⟩ => ?_
  subst eu e3
  refine thn (hst.run pins s3 σ H3 (fun o H4 => o = some (-1) ∧ H4 = H3) I3 ⟨1, rfl, -1, rfl, rfl, rfl⟩) fun vs s4 ⟨o, H4, I4, ps, eo, e4⟩ => ?_
  subst eo e4
  cases pl
  cases pu
  have I5 : Inv X pins σ H4 { s4 with heap := s4.heap.push { cls := .type "slice", data := .fields #[.none, .none, vs] } } := I4.kept (t' := s4.toks) fun b ob q => Heap.get?_push_of_some _ q
  obtain ⟨its, r, ht, hz⟩ := I5.tuple hx
  have hlen := r.length
  show wpAny (model X.prog X.w) X.A (subscriptTail e (.Slice none none (some (.UnaryOp .USub (.Constant (.int 1) k p1) p2)) p3) (.ref a) (.ref s4.heap.objs.size)) (EP X pins σ Q) X.xe { s4 with heap := s4.heap.push { cls := .type "slice", data := .fields #[.none, .none, vs] } }
  refine tail_any (ops := [.ref a, .ref s4.heap.objs.size]) ht.typeIs (PyProof.Rows.slot_tuple_getitem.lookup) ?_ (by with_unfolding_all rfl)
  refine getItem_tuple_rev ht (Heap.IsSliceOf.new _ .none .none vs) ps ?_ (by rw [List.size_toArray]; omega)
  refine ⟨.ref _, _, I5.laid (t' := s4.toks) (o := .tup xs.reverse) (fun b ob q => Heap.get?_push_of_some _ q) (Nat.le_refl _) ?_, rfl, q _ (I5.hok.fresh (Nat.le_refl _))⟩
  exact ⟨by rw [List.length_reverse]; exact hz, _, r.reverse, IsTup.new _ _⟩
end
section
variable {c : Cc} {sp : List Sl} {Q : D → Prop} {e : Expr} {pos : Pos}
theorem E_revT {kk : Nat} {p1 p2 p3 : Pos} (h : E c e sp fun d => ∃ xs, d = .tuple xs ∧ Q (.tuple xs.reverse)) : E c (.Subscript e (.Slice none none (some (.UnaryOp .USub (.Constant (.int 1) kk p1) p2)) p3) pos) sp Q := Sealed.of fun X hX G F0 F H σ r R k => by
  refine PE_tE (pe_revT pe_tE) ?_
  refine h X hX G F0 F H σ r _ fun d v F1 H1 q g1 d1 => ?_
  obtain ⟨xs, rfl, q⟩ := q
  obtain ⟨a, vs, rfl, h1, h2⟩ := dp_tuple d1
  rw [hX.K]
  refine ⟨a, vs, rfl, sqT_mono g1.fh h1, fun p hp => ?_⟩
  have g3 := Grow.new_ (o := .tup vs.reverse) g1.fh hp
  exact k _ _ _ _ q (g1.trans g3) (.tup upd_same (dpAll_mono g3.f _ _ (dpAll_reverse h2)))
end
end Pl
set_option Elab.async false
set_option linter.all false
set_option maxRecDepth 100000
set_option maxHeartbeats 4000000
set_option autoImplicit false
namespace Pl
open PySem PySem.Spec PyProof.Rows L2
section
variable {c : Cc} {sp : List Sl} {Q : D → Prop} {α : Type} {f : α → D} {xs : List α}
theorem cp_lenTm (q : Q (.int xs.length)) : CallP c (.builtin "len") [.tuple (xs.map f)] Q := cp_lenT (by rw [List.length_map]; exact q)
theorem cp_lenLm (q : Q (.int xs.length)) : CallP c (.builtin "len") [.list (xs.map f)] Q := cp_lenL (by rw [List.length_map]; exact q)
end
end Pl
set_option Elab.async false
set_option linter.all false
set_option maxRecDepth 100000
set_option maxHeartbeats 4000000
set_option autoImplicit false
namespace Pl
open PySem PySem.Spec PyProof.Rows L2
section
variable {P : Program} {w : World} {A : Around} {E : Value → Shared → Prop} {s : Shared}
set_option maxRecDepth 100000 in
set_option maxHeartbeats 3200000 in
theorem call_set_listI {l : Addr} {items : Array Value} (ns : List Int) {Q : Value → Shared → Prop} (hh : A.handled = none) (hl : s.heap.IsList l items) (hit : IntsAre items.toList ns) (hb : ns.length + 1 < scanBound)
    (h : ∀ (h' : Heap) (tk c : Nat), SetR w h' s.heap.objs.size (fun j => decide (j ∈ ns)) c → c ≤ ns.length → (∀ b o, s.heap.get? b = some o → h'.get? b = some o) → Q (.ref s.heap.objs.size) { s with heap := h', toks := tk }) :
    wpAny (model P w) A (call (.type "set") [.ref l]) Q E s := by
  have hisz : items.size = ns.length := by
    have q := IntsAre.length hit
    rw [Array.length_toList] at q
    exact q
  obtain ⟨c, tl, hmro⟩ := F.called_set.mro
  have hmade := F.called_set.made
  have hsub := F.called_set.sub
  refine wpAny_call (codeAny_of_tree ?_)
  show wpAny _ _ (callAny (.type "set") _) _ _ _
  refine wpAny_pure ⟨Code.quiet_builtin _ (by decide +kernel), codeAny_builtin F.entry_type_call ?_⟩
  rw [Around.under_plain (weight_type_call_type "set" [.ref l] []) rfl]
  have h1 := F.called_set.notType
  have h2 := F.called_set.canCreate
  have hct := F.typeCall_set_1 (.ref l)
  repeat (any_goals (first | assumption | wp_step))

  refine codeAny_mono (code_set_led1 (.ref l) (E := E) (Q₁ := fun obj s₁ => obj = .ref s.heap.objs.size ∧ s₁ = { s with heap := s.heap.push { cls := .type "set", dict := none, data := .set #[] 0 (.fresh 0 0 (!w.params.followText "set-order")) } }) ⟨rfl, rfl⟩) fun r s₁ hr => ?_
  cases r with
  | error e => exact hr
  | ok fl =>
    cases fl with
    | ret obj =>
      obtain ⟨rfl, rfl⟩ := hr
      have hS : (s.heap.push { cls := .type "set", dict := none, data := .set #[] 0 (.fresh 0 0 (!w.params.followText "set-order")) }).get? s.heap.objs.size = some { cls := .type "set", dict := none, data := .set #[] 0 (.fresh 0 0 (!w.params.followText "set-order")) } := Heap.get?_push_size _ rfl
      have hT : Shared.TypeIs { s with heap := s.heap.push { cls := .type "set", dict := none, data := .set #[] 0 (.fresh 0 0 (!w.params.followText "set-order")) } } (.ref s.heap.objs.size) "set" := ⟨_, hS, rfl⟩
      have hli := F.called_set.init.lookup
      have hbi := F.called_set.init.bind (.ref s.heap.objs.size)
      repeat (any_goals (first | assumption | wp_step))

      refine codeAny_mono (codeAny_call_builtin (R := wants (fun r s₂ => r = .none ∧ ∃ h' tk c, s₂ = { s with heap := h', toks := tk } ∧ SetR w h' s.heap.objs.size (fun j => decide (j ∈ ns)) c ∧ c ≤ ns.length ∧
          (∀ b o, s.heap.get? b = some o → h'.get? b = some o)) E) F.called_set.init.plain F.entry_set_init (check_set_init_1 hT ?_)) fun r₂ s₂ hr₂ => ?_
      · obtain ⟨ol, hol, hcl, nl, hdl⟩ := hl
        obtain ⟨ocls, odict, odata, oslots⟩ := ol
        simp only at hcl hdl
        subst hcl; subst hdl
        have hol' : (s.heap.push { cls := .type "set", dict := none, data := .set #[] 0 (.fresh 0 0 (!w.params.followText "set-order")) }).get? l = some { cls := .type "list", dict := odict, data := .seq items nl, slots := oslots } := Heap.get?_push_of_some _ hol
        have hsls := F.sub_list_set
        have hslf := F.sub_list_frozenset
        have hne : (Value.type "list" == Value.type "dict") = false := by decide
        have hl1 : (s.heap.push { cls := .type "set", dict := none, data := .set #[] 0 (.fresh 0 0 (!w.params.followText "set-order")) }).IsList l items := ⟨_, hol', rfl, nl, rfl⟩
        unfold Builtin.«set.__init__» noKeywords Builtin.Frozenset.updateFrom
        generalize hPI : pyIter = PI
        wp_walk
        subst hPI

        refine wpAny_pyIter_list hl1 ?_
        refine wpAny_bind (wpAny_runValue ?_)
        have hlS : l < s.heap.objs.size := Heap.lt_size hol
        have hh3 : A.in1.in1.in1.handled = none := by simp [hh]
        have hz1 : (s.heap.push { cls := .type "set", dict := none, data := .set #[] 0 (.fresh 0 0 (!w.params.followText "set-order")) }).objs.size = s.heap.objs.size + 1 := Heap.size_push ..
        have hneI : l ≠ (s.heap.push { cls := .type "set", dict := none, data := .set #[] 0 (.fresh 0 0 (!w.params.followText "set-order")) }).objs.size := by
          rw [Heap.size_push]; exact Nat.ne_of_lt (Nat.lt_succ_of_lt hlS)
        have hSf : s.heap.objs.size ∉ [(s.heap.push { cls := .type "set", dict := none, data := .set #[] 0 (.fresh 0 0 (!w.params.followText "set-order")) }).objs.size, l] := by
          rw [Heap.size_push]; simp only [List.mem_cons, List.mem_singleton, List.not_mem_nil, or_false, not_or]
          exact ⟨Nat.ne_of_lt (Nat.lt_succ_self _), Nat.ne_of_gt hlS⟩
        have hval : ∀ (i : Nat) (v : Value), items[i]? = some v → ∃ k t, ns[i]? = some k ∧ v = .int k t := fun i v hv => by
          have hi : i < ns.length := by rw [← hisz]; exact (Array.getElem?_eq_some_iff.mp hv).1
          obtain ⟨t, e⟩ := PyProof.Rows.IntsAre.int_at hit i v (by rw [Array.getElem?_toList]; exact hv)
          refine ⟨ns[i], t, List.getElem?_eq_getElem hi, ?_⟩
          rw [e, List.getD_eq_getElem?_getD, List.getElem?_eq_getElem hi] <;> rfl
        refine set_update_ints ((Walks.list hh3 _ l hneI items).toS) s.heap.objs.size
          hSf ns hisz hb hval (items.size - 0) 0 _ (by omega) (Nat.zero_le _)
          ⟨⟨_, Heap.get?_push_size _ rfl, rfl, rfl⟩, (hl1.push _)⟩ ?hS0 ?hR
        case hS0 =>
          have hget : ((s.heap.push { cls := .type "set", dict := none, data := .set #[] 0 (.fresh 0 0 (!w.params.followText "set-order")) }).push { cls := .type "list_iterator", data := .fields #[.ref l, .int 0 0] }).get? s.heap.objs.size
              = some { cls := .type "set", dict := none, data := .set #[] 0 (.fresh 0 0 (!w.params.followText "set-order")) } := Heap.get?_push_of_some _ hS
          exact ⟨0, Nat.le_refl 0, setR_new_at hget⟩
        case hR =>
          intro s' c' hm hc' hS'
          obtain ⟨h', g2, d', tk', os'⟩ := s'
          have eg : g2 = s.gens := hm.gens
          have ed : d' = s.drawn := hm.drawn
          have eo : os' = s.os := hm.os
          subst eg; subst ed; subst eo
          show wpAny _ _ _ _ _ _
          refine wpAny_pure ?_
          show wpAny _ _ (ret Value.none) _ _ _
          rw [hisz] at hc'
          refine wpAny_pure ⟨rfl, h', tk', c', rfl, hS', hc', fun b o e => ?_⟩
          have hb0 : b < s.heap.objs.size := Heap.lt_size e
          have hb1 : b ≠ s.heap.objs.size := Nat.ne_of_lt hb0
          have hb2 : b ≠ (s.heap.push { cls := .type "set", dict := none, data := .set #[] 0 (.fresh 0 0 (!w.params.followText "set-order")) }).objs.size := by
            rw [Heap.size_push]; exact Nat.ne_of_lt (Nat.lt_succ_of_lt hb0)
          exact hm.heap b o (by simp only [List.mem_cons, List.mem_singleton, List.not_mem_nil, or_false, not_or]; exact ⟨hb1, hb2⟩) (Heap.get?_push_of_some _ (Heap.get?_push_of_some _ e))

      · cases r₂ with
        | error e => exact hr₂
        | ok fl₂ =>
          cases fl₂ with
          | ret r =>
            obtain ⟨rfl, h', tk, c', rfl, hS', hc', hk'⟩ := hr₂
            repeat (any_goals (first | assumption | wp_step))
            exact h _ _ _ hS' hc' hk'
          | _ => exact hr₂.elim
    | _ => exact hr.elim

end
/-! ### set(list of ints), sorted(set(..)), len(set(..)) -/
def rSetL (K : PySem.W.Frag) (w : World) : List V → Hp → VK → Prop := fun xs H Q => ∃ (l : Addr) (ns : List Int), xs = [.ref l] ∧ (SqL K H l (ns.map V.int) ∨ SqT K H l (ns.map V.int)) ∧ ns.length + 1 < scanBound ∧
  ∀ p c, H p = none → c ≤ ns.length → Q (.ref p) (upd H p (SetO w p (fun j => decide (j ∈ ns)) c))
theorem cr_setL {X : Cx} (hc : X.calm = true) : CallR X (.type "set") (rSetL X.K X.w) := by
  intro pins s σ H xs us Q I r h
  obtain ⟨l, ns, rfl, hl, hb, q⟩ := h
  rw [Vals.ref1 r]
  rcases hl with hl | hl
  · obtain ⟨its, rv, pl, hz⟩ := I.list hl
    have hi := rv.ints
    refine call_set_listI ns (I.ok.hd hc) (items := its.toArray) pl.isList hi hb fun h' tk c R hcn k => ?_
    exact ⟨.ref _, upd H s.heap.objs.size (SetO X.w s.heap.objs.size (fun j => decide (j ∈ ns)) c), I.laid (t' := tk) k (Nat.le_refl _) (setO_new R), rfl, q _ _ (I.hok.fresh (Nat.le_refl _)) hcn⟩
  · obtain ⟨its, rv, pt, hz⟩ := I.tuple hl
    have hi : IntsAre its.toArray.toList ns := ints_of_vals rv
    refine call_set_tupI ns (I.ok.hd hc) (show s.heap.IsTuple l its.toArray from pt) hi hb fun h' tk c R hcn k => ?_
    exact ⟨.ref _, upd H s.heap.objs.size (SetO X.w s.heap.objs.size (fun j => decide (j ∈ ns)) c), I.laid (t' := tk) k (Nat.le_refl _) (setO_new R), rfl, q _ _ (I.hok.fresh (Nat.le_refl _)) hcn⟩
section
variable {c : Cc} {sp : List Sl} {e : Expr} {p p1 pos pos1 : Pos} {QL : List D → Prop}
theorem boot_set : bootBuiltins "set" = some (.type "set") := by decide +kernel
theorem boot_sorted' : bootBuiltins "sorted" = some (.builtin "sorted") := by decide +kernel
/-- sorted(set(e)): a new list -/
theorem EF_sortedSet (h : E c e sp fun d => ∃ ns : List Int, (d = .list (ns.map .int) ∨ d = .tuple (ns.map .int)) ∧ ns.length < 64 ∧ ∀ ns' : List Int, ns'.Pairwise (· < ·) → (∀ k, k ∈ ns' ↔ k ∈ ns) → ns'.length ≤ ns.length → QL (ns'.map .int))
    (hm : c.m.mg "sorted" = none) (hm1 : c.m.mg "set" = none) (hg : GlS c.sc "sorted" := by rfl) (hg1 : GlS c.sc "set" := by rfl)
    (he1 : ∀ env, starEach [e] env = (false, eval e env) :: starEach [] env := by intro _; rfl)
    (he : ∀ env, starEach [.Call (.Name "set" p1) [e] [] pos1] env = (false, eval (.Call (.Name "set" p1) [e] [] pos1) env) :: starEach [] env := by intro _; rfl)
    (hpl : ∀ env, (backTo pos (starEach [] env)).any (·.1) = false := by intro _; rfl) (hpl1 : ∀ env, (backTo pos1 (starEach [] env)).any (·.1) = false := by intro _; rfl) :
    EF c (.Call (.Name "sorted" p) [.Call (.Name "set" p1) [e] [] pos1] [] pos) sp QL := Sealed.of fun X hX G F0 F H σ r R k => by
  refine PE_tE (pe_callB (cr_sortedSet hX.calm) (hg.gl hX) (by rw [hX.mg]; exact hm) boot_sorted' (pa_cons (pe_callTy (cr_setL hX.calm) (hg1.gl hX) (by rw [hX.mg]; exact hm1) boot_set (pa_cons pe_tE pa_nil (he1 _)) (by decide) (by decide) (he1 _) (hpl1 _)) pa_nil (he _)) (by decide) (by decide) (he _) (hpl _)) ?_
  refine h X hX G F0 F H σ r _ fun d v F1 H1 q g1 d1 => ?_
  obtain ⟨ns, hd, hl, q⟩ := q
  have hv : ∃ a, v = .ref a ∧ (SqL X.K H1 a (ns.map V.int) ∨ SqT X.K H1 a (ns.map V.int)) := by
    rw [hX.K]
    rcases hd with rfl | rfl
    · obtain ⟨a, vs, rfl, h1, h2⟩ := dp_list d1
      cases dpAll_ints h2
      exact ⟨a, rfl, .inl (g1.fh.seq h1)⟩
    · obtain ⟨a, vs, rfl, h1, h2⟩ := dp_tuple d1
      cases dpAll_ints h2
      exact ⟨a, rfl, .inr (sqT_mono g1.fh h1)⟩
  obtain ⟨a, rfl, hs⟩ := hv
  refine ⟨a, ns, rfl, hs, by unfold scanBound; omega, fun p c2 hp hc2 => ?_⟩
  refine ⟨p, _, c2, rfl, upd_same, by omega, fun ns' p2 h1 h2 h3 hp2 => ?_⟩
  have g2 := Grow.out (o := SetO X.w p (fun j => decide (j ∈ ns)) c2) g1.fh hp
  have g3 := Grow.out (o := .lst (ns'.map V.int)) g2.fh hp2
  refine k (ns'.map .int) (ns'.map V.int) p2 F1 _ (q ns' h1 (fun k => by rw [h2, decide_eq_true_iff]) (by omega)) ((g1.trans g2).trans g3) ?_ ?_ upd_same (dpAll_of_ints _)
  · exact (g1.h.trans g2.h).free hp2
  · exact (g1.fh.trans g2.h).free hp2
end
end Pl
set_option Elab.async false
set_option linter.all false
set_option maxRecDepth 100000
set_option maxHeartbeats 4000000
set_option autoImplicit false
namespace Pl
open PySem PySem.Spec PyProof.Rows L2
/-! ### dicts of one's own -/
section
variable {κ : Type} [DecidableEq κ]
def getK (kvs : List (κ × D)) (k : κ) : Option D := (kvs.find? fun kv => decide (kv.1 = k)).map (·.2)
def setK (kvs : List (κ × D)) (k : κ) (v : D) : List (κ × D) :=
  if (kvs.any fun kv => decide (kv.1 = k)) = true then kvs.map (fun kv => if kv.1 = k then (kv.1, v) else kv) else kvs ++ [(k, v)]
theorem getK_nil {k : κ} : getK ([] : List (κ × D)) k = none := rfl
theorem getK_pos {p : κ × D} {r : List (κ × D)} {k : κ} (e : p.1 = k) : getK (p :: r) k = some p.2 := by simp [getK, List.find?_cons, e]
theorem getK_neg {p : κ × D} {r : List (κ × D)} {k : κ} (e : ¬ p.1 = k) : getK (p :: r) k = getK r k := by simp [getK, List.find?_cons, e]
theorem getK_any (k : κ) : ∀ kvs : List (κ × D), (kvs.any fun kv => decide (kv.1 = k)) = (getK kvs k).isSome
  | [] => rfl
  | p :: r => by
    rw [List.any_cons]
    by_cases e : p.1 = k
    · rw [getK_pos e, decide_eq_true e]; rfl
    · rw [getK_neg e, decide_eq_false e, Bool.false_or]; exact getK_any k r
theorem getK_map (k j : κ) (y : D) : ∀ kvs : List (κ × D), getK (kvs.map fun kv => if kv.1 = k then (kv.1, y) else kv) j = (getK kvs j).map fun x => if j = k then y else x
  | [] => rfl
  | p :: r => by
    have ih := getK_map k j y r
    rw [List.map_cons]
    by_cases e : p.1 = k
    · rw [if_pos e]
      by_cases e2 : p.1 = j
      · rw [getK_pos (p := (p.1, y)) e2, getK_pos e2, Option.map_some, if_pos (e2.symm.trans e)]
      · rw [getK_neg (p := (p.1, y)) e2, getK_neg e2, ih]
    · rw [if_neg e]
      by_cases e2 : p.1 = j
      · rw [getK_pos e2, getK_pos e2, Option.map_some, if_neg (fun z => e (e2.trans z))]
      · rw [getK_neg e2, getK_neg e2, ih]
theorem getK_snoc (k j : κ) (y : D) : ∀ kvs : List (κ × D), getK kvs k = none → getK (kvs ++ [(k, y)]) j = if j = k then some y else getK kvs j
  | [], _ => by
    by_cases e : k = j
    · rw [if_pos e.symm]; exact getK_pos (p := (k, y)) e
    · rw [if_neg (fun z => e z.symm)]; exact getK_neg (p := (k, y)) e
  | p :: r, hn => by
    rw [List.cons_append]
    have hk : ¬ p.1 = k := fun e => by rw [getK_pos e] at hn; cases hn
    rw [getK_neg hk] at hn
    by_cases e2 : p.1 = j
    · rw [getK_pos e2, getK_pos e2, if_neg (fun z => hk (e2.trans z))]
    · rw [getK_neg e2, getK_neg e2, getK_snoc k j y r hn]
theorem getK_set (kvs : List (κ × D)) (k j : κ) (y : D) : getK (setK kvs k y) j = if j = k then some y else getK kvs j := by
  unfold setK
  cases h : getK kvs k with
  | none =>
    rw [getK_any, h]
    exact getK_snoc k j y kvs h
  | some z =>
    rw [getK_any, h, if_pos (show (some z).isSome = true from rfl), getK_map]
    by_cases e : j = k
    · subst e; rw [h, if_pos rfl]; simp
    · rw [if_neg e]
      simp only [if_neg e]
      cases getK kvs j <;> rfl
theorem setK_new {kvs : List (κ × D)} {k : κ} (v : D) (h : getK kvs k = none) : setK kvs k v = kvs ++ [(k, v)] := by
  unfold setK
  rw [getK_any, h]
  rfl
theorem setK_keys (kvs : List (κ × D)) (k : κ) (v : D) : (setK kvs k v).map (·.1) = if (getK kvs k).isSome = true then kvs.map (·.1) else kvs.map (·.1) ++ [k] := by
  unfold setK
  rw [getK_any]
  by_cases h : (getK kvs k).isSome = true
  · rw [if_pos h, if_pos h, List.map_map]
    refine List.map_congr_left fun p _ => ?_
    show (if p.1 = k then (p.1, v) else p).1 = p.1
    split <;> rfl
  · rw [if_neg h, if_neg h, List.map_append]; rfl
theorem setK_len (kvs : List (κ × D)) (k : κ) (v : D) : (setK kvs k v).length = if (getK kvs k).isSome = true then kvs.length else kvs.length + 1 := by
  have := congrArg List.length (setK_keys kvs k v)
  rw [List.length_map] at this
  rw [this]
  split <;> simp
variable {K : PySem.W.Frag} {F : Hp}
theorem paired_get {k : κ} : ∀ {ws : List (κ × V)} {kvs : List (κ × D)}, PairedD K F ws kvs → (valV ws k = none ∧ getK kvs k = none) ∨ ∃ v d, valV ws k = some v ∧ getK kvs k = some d ∧ Dp K F v d
  | [], [], _ => .inl ⟨rfl, rfl⟩
  | (a, v) :: ws, (b, d) :: kvs, h => by
    cases h with
    | cons h t =>
      obtain ⟨e, hd⟩ := h
      by_cases q : a = k
      · exact .inr ⟨v, d, valV_pos (p := (a, v)) q, getK_pos (p := (b, d)) (by rw [← e]; exact q), hd⟩
      · rw [valV_neg (p := (a, v)) q, getK_neg (p := (b, d)) (by rw [← e]; exact q)]
        exact paired_get t
theorem paired_any {k : κ} : ∀ {ws : List (κ × V)} {kvs : List (κ × D)}, PairedD K F ws kvs → (ws.any fun kv => decide (kv.1 = k)) = (kvs.any fun kv => decide (kv.1 = k))
  | [], [], _ => rfl
  | (a, v) :: ws, (b, d) :: kvs, h => by
    cases h with
    | cons h t =>
      obtain ⟨e, hd⟩ := h
      have e : a = b := e
      subst e
      rw [List.any_cons, List.any_cons, paired_any t]
theorem paired_map {k : κ} {v : V} {d : D} (hd : Dp K F v d) : ∀ {ws : List (κ × V)} {kvs : List (κ × D)}, PairedD K F ws kvs → PairedD K F (ws.map fun kv => if kv.1 = k then (kv.1, v) else kv) (kvs.map fun kv => if kv.1 = k then (kv.1, d) else kv)
  | [], [], _ => .nil
  | (a, v') :: ws, (b, d') :: kvs, h => by
    cases h with
    | cons h t =>
      obtain ⟨e, hd'⟩ := h
      have e : a = b := e
      subst e
      refine .cons ?_ (paired_map hd t)
      show (if a = k then (a, v) else (a, v')).1 = (if a = k then (a, d) else (a, d')).1 ∧ Dp K F (if a = k then (a, v) else (a, v')).2 (if a = k then (a, d) else (a, d')).2
      split
      · exact ⟨rfl, hd⟩
      · exact ⟨rfl, hd'⟩
theorem paired_put {ws : List (κ × V)} {kvs : List (κ × D)} {k : κ} {v : V} {d : D} (h : PairedD K F ws kvs) (hd : Dp K F v d) : PairedD K F (putK ws k v) (setK kvs k d) := by
  unfold putK setK
  rw [paired_any h]
  split
  · exact paired_map hd h
  · exact Paired.snoc h ⟨rfl, hd⟩
theorem paired_keys : ∀ {ws : List (κ × V)} {kvs : List (κ × D)}, PairedD K F ws kvs → ws.map (·.1) = kvs.map (·.1)
  | [], [], _ => rfl
  | (a, v') :: ws, (b, d') :: kvs, h => by
    cases h with
    | cons h t =>
      have e : a = b := h.1
      subst e
      rw [List.map_cons, List.map_cons, paired_keys t]
end
theorem key_of {K : PySem.W.Frag} {F : Hp} {v : V} {k : Key} (h : Dp K F v (keyD k)) : v = kV k := by
  cases k with
  | inl i => exact dp_int h
  | inr s => exact dp_str h
theorem Cc.Has.u1 {c : Cc} {X : Cx} (h : c.Has X) : X.A.units + 1 < cLine := by have := h.u64; omega
section
variable {c : Cc} {sp : List Sl} {P : Pn} {Q : D → Prop} {QT : Bool → Prop} {QL : List D → Prop} {e a b : Expr} {pos p px : Pos} {x : Str}
theorem S1_setDk (i : Nat) {pos' dp : Pos} (hN : c.N.Nodup) (h : P.nx (sp.set i (.dk []))) (hi : c.N[i]? = some x := by rfl) (hx : LocS c.sc x := by first | exact Or.inl rfl | exact Or.inr rfl)
    (hf : FnS c x := by first | exact Or.inl rfl | exact Or.inr rfl) (hs : ∀ env : Env, env.scope = c.sc → swapsWith (.Dict [] [] dp) (some (.Name x pos')) pos.line env = pure false := by intro env he; first | rfl | (cases env; subst he; rfl)) : S1 c (.Assign [.Name x pos'] (.Dict [] [] dp) pos) sp P := Sealed.of fun X hX G F0 F H σ r D0 k => by
  refine PS_t (ps_set (i := i) (by rw [hX.N]; exact hN) (by rw [hX.N]; exact hi) (hx.loc hX) pe_dnewK (hs _ hX.sc) (hf.fn hX)) ?_
  intro p hp
  have g := Grow.out (o := .dK []) r.sf hp
  exact k.nx _ F _ _ h (r.set_new (s := .dk []) i g hp upd_same (r.sf.free hp) ⟨[], rfl, .nil⟩ rfl)
theorem S1_setDt (i : Nat) {pos' dp : Pos} (hN : c.N.Nodup) (h : P.nx (sp.set i (.dt []))) (hi : c.N[i]? = some x := by rfl) (hx : LocS c.sc x := by first | exact Or.inl rfl | exact Or.inr rfl)
    (hf : FnS c x := by first | exact Or.inl rfl | exact Or.inr rfl) (hs : ∀ env : Env, env.scope = c.sc → swapsWith (.Dict [] [] dp) (some (.Name x pos')) pos.line env = pure false := by intro env he; first | rfl | (cases env; subst he; rfl)) : S1 c (.Assign [.Name x pos'] (.Dict [] [] dp) pos) sp P := Sealed.of fun X hX G F0 F H σ r D0 k => by
  refine PS_t (ps_set (i := i) (by rw [hX.N]; exact hN) (by rw [hX.N]; exact hi) (hx.loc hX) pe_dnewT (hs _ hX.sc) (hf.fn hX)) ?_
  intro p hp
  have g := Grow.out (o := .dT []) r.sf hp
  exact k.nx _ F _ _ h (r.set_new (s := .dt []) i g hp upd_same (r.sf.free hp) ⟨[], rfl, .nil⟩ rfl)
/-- what a dict of one's own stands for -/
theorem dk_at {X : Cx} {G F0 F H : Hp} {σ : L2.St} (r : SR c.m.T c.m.K G F0 F H sp σ) {i : Nat} {kvs : List (Key × D)} (hsl : sp[i]? = some (.dk kvs)) : ∃ (a : Addr) (ws : List (Key × V)), σ[i]? = some (some (.ref a)) ∧ H a = some (.dK ws) ∧ PairedD c.m.K F ws kvs := by
  obtain ⟨y, hy, ok⟩ := r.slot hsl
  obtain ⟨l, o, rfl, h1, h2, h3, ws, rfl, h4⟩ := (slOk_own rfl).mp ok
  exact ⟨l, ws, hy, h1, h4⟩
/-- k in d -/
theorem pc_core {neg : Bool} {X : Cx} (hX : c.Has X) {G F0 F H : Hp} {σ : L2.St} (r : SR c.m.T c.m.K G F0 F H sp σ) {i : Nat} {kvs : List (Key × D)} (hsl : sp[i]? = some (.dk kvs)) {R : VK} {QB : Bool → Prop}
    (k : ∀ b F' H', QB b → Grow F H F' H' → R (.bl b) H') (h : E c e sp fun d => ∃ k : Key, d = keyD k ∧ QB (if neg = true then !(getK kvs k).isSome else (getK kvs k).isSome)) :
    (if neg = true then tDNotIn (tE X e) (tVar i) else tDIn (tE X e) (tVar i)) σ H R := by
  obtain ⟨a, ws, hy, h1, h4⟩ := dk_at (X := X) r hsl
  have key : ∀ d v F1 H1, (∃ k : Key, d = keyD k ∧ QB (if neg = true then !(getK kvs k).isSome else (getK kvs k).isSome)) → Grow F H F1 H1 → Dp c.m.K F1 v d → ∃ (x : V), σ[i]? = some (some x) ∧ ∃ a o, x = .ref a ∧ DGet H1 a v o ∧ R (.bl (if neg = true then !o.isSome else o.isSome)) H1 := by
    intro d v F1 H1 q g d1
    obtain ⟨kk, rfl, q⟩ := q
    cases key_of d1
    have e1 : (valV ws kk).isSome = (getK kvs kk).isSome := by
      rcases paired_get (k := kk) h4 with ⟨z1, z2⟩ | ⟨_, _, z1, z2, _⟩ <;> rw [z1, z2] <;> rfl
    refine ⟨.ref a, hy, a, valV ws kk, rfl, DGet.k (g.h _ _ h1), ?_⟩
    rw [e1]
    exact k _ F1 H1 q g
  cases neg with
  | true =>
    refine h X hX G F0 F H σ r _ fun d v F1 H1 q g d1 => ?_
    exact key d v F1 H1 q g d1
  | false =>
    refine h X hX G F0 F H σ r _ fun d v F1 H1 q g d1 => ?_
    exact key d v F1 H1 q g d1
theorem E_dkIn (i : Nat) {kvs : List (Key × D)} (hsl : sp[i]? = some (.dk kvs)) (h : E c e sp fun d => ∃ k : Key, d = keyD k ∧ Q (.bool (getK kvs k).isSome)) (hi : c.N[i]? = some x := by rfl) (hv : Vis c.sc x := by first | exact Or.inl rfl | exact Or.inr (Or.inl rfl) | exact Or.inr (Or.inr rfl))
    (hd : (x == ("__debug__" : Str)) = false := by decide) (hcd : (x == ("__classdict__" : Str)) = false := by decide) (hm : behindInMarks .In (.Name x px) = false := by rfl) : E c (.Compare e [.In] [.Name x px] pos) sp Q := Sealed.of fun X hX G F0 F H σ r R k =>
  PE_tE (pe_cmp (pc_din hX.u1 pe_tE (pe_var (i := i) (by rw [hX.N]; exact hi) (by rw [hX.sc]; exact hv) hd hcd)) hm) (pc_core (neg := false) (QB := fun b => Q (.bool b)) hX r hsl (fun b F' H' q g => k _ _ F' H' q g (.bl b)) h)
theorem E_dkNin (i : Nat) {kvs : List (Key × D)} (hsl : sp[i]? = some (.dk kvs)) (h : E c e sp fun d => ∃ k : Key, d = keyD k ∧ Q (.bool (!(getK kvs k).isSome))) (hi : c.N[i]? = some x := by rfl) (hv : Vis c.sc x := by first | exact Or.inl rfl | exact Or.inr (Or.inl rfl) | exact Or.inr (Or.inr rfl))
    (hd : (x == ("__debug__" : Str)) = false := by decide) (hcd : (x == ("__classdict__" : Str)) = false := by decide) (hm : behindInMarks .NotIn (.Name x px) = false := by rfl) : E c (.Compare e [.NotIn] [.Name x px] pos) sp Q := Sealed.of fun X hX G F0 F H σ r R k =>
  PE_tE (pe_cmp (pc_dnotin hX.u1 pe_tE (pe_var (i := i) (by rw [hX.N]; exact hi) (by rw [hX.sc]; exact hv) hd hcd)) hm) (pc_core (neg := true) (QB := fun b => Q (.bool b)) hX r hsl (fun b F' H' q g => k _ _ F' H' q g (.bl b)) h)
theorem T_dkIn (i : Nat) {kvs : List (Key × D)} (hsl : sp[i]? = some (.dk kvs)) (h : E c e sp fun d => ∃ k : Key, d = keyD k ∧ QT (getK kvs k).isSome) (hi : c.N[i]? = some x := by rfl) (hv : Vis c.sc x := by first | exact Or.inl rfl | exact Or.inr (Or.inl rfl) | exact Or.inr (Or.inr rfl))
    (hd : (x == ("__debug__" : Str)) = false := by decide) (hcd : (x == ("__classdict__" : Str)) = false := by decide) (hm : behindInMarks .In (.Name x px) = false := by rfl) : T c (.Compare e [.In] [.Name x px] pos) sp QT := Sealed.of fun X hX G F0 F H σ r R k =>
  PT_tT (pt_cmp (pc_din hX.u1 pe_tE (pe_var (i := i) (by rw [hX.N]; exact hi) (by rw [hX.sc]; exact hv) hd hcd)) hm) (pc_core (neg := false) (QB := QT) hX r hsl (fun b F' H' q g => ⟨b, rfl, k _ F' H' q g⟩) h)
theorem T_dkNin (i : Nat) {kvs : List (Key × D)} (hsl : sp[i]? = some (.dk kvs)) (h : E c e sp fun d => ∃ k : Key, d = keyD k ∧ QT (!(getK kvs k).isSome)) (hi : c.N[i]? = some x := by rfl) (hv : Vis c.sc x := by first | exact Or.inl rfl | exact Or.inr (Or.inl rfl) | exact Or.inr (Or.inr rfl))
    (hd : (x == ("__debug__" : Str)) = false := by decide) (hcd : (x == ("__classdict__" : Str)) = false := by decide) (hm : behindInMarks .NotIn (.Name x px) = false := by rfl) : T c (.Compare e [.NotIn] [.Name x px] pos) sp QT := Sealed.of fun X hX G F0 F H σ r R k =>
  PT_tT (pt_cmp (pc_dnotin hX.u1 pe_tE (pe_var (i := i) (by rw [hX.N]; exact hi) (by rw [hX.sc]; exact hv) hd hcd)) hm) (pc_core (neg := true) (QB := QT) hX r hsl (fun b F' H' q g => ⟨b, rfl, k _ F' H' q g⟩) h)
/-- d[k] -/
theorem E_dkGet (i : Nat) {kvs : List (Key × D)} (hsl : sp[i]? = some (.dk kvs)) (h : E c e sp fun d => ∃ (k : Key) (v : D), d = keyD k ∧ getK kvs k = some v ∧ Q v) (hi : c.N[i]? = some x := by rfl) (hv : Vis c.sc x := by first | exact Or.inl rfl | exact Or.inr (Or.inl rfl) | exact Or.inr (Or.inr rfl))
    (hd : (x == ("__debug__" : Str)) = false := by decide) (hcd : (x == ("__classdict__" : Str)) = false := by decide) (hns : NoSl e := by intro _ _; rfl) : E c (.Subscript (.Name x px) e pos) sp Q := Sealed.of fun X hX G F0 F H σ r R k => by
  refine PE_tE (pe_dget hX.u1 (pe_var (i := i) (by rw [hX.N]; exact hi) (by rw [hX.sc]; exact hv) hd hcd) pe_tE hns) ?_
  obtain ⟨a, ws, hy, h1, h4⟩ := dk_at (X := X) r hsl
  refine ⟨.ref a, hy, ?_⟩
  refine h X hX G F0 F H σ r _ fun d v F1 H1 q g d1 => ?_
  obtain ⟨kk, w, rfl, hw, q⟩ := q
  cases key_of d1
  rcases paired_get (k := kk) h4 with ⟨_, z2⟩ | ⟨v0, d0, z1, z2, z3⟩
  · rw [hw] at z2; cases z2
  · rw [hw] at z2; cases z2
    exact ⟨a, v0, rfl, by rw [← z1]; exact DGet.k (g.h _ _ h1), k _ _ F1 H1 q g (dp_mono g.f _ _ z3)⟩
/-- d[k] = v -/
theorem S1_dkPut (i : Nat) {kvs : List (Key × D)} {tpos : Pos} (hsl : sp[i]? = some (.dk kvs)) (h : E c e sp fun d => E c a sp fun g => ∃ k : Key, g = keyD k ∧ kvs.length < sizeLine ∧ P.nx (sp.set i (.dk (setK kvs k d)))) (hi : c.N[i]? = some x := by rfl)
    (hv : Vis c.sc x := by first | exact Or.inl rfl | exact Or.inr (Or.inl rfl) | exact Or.inr (Or.inr rfl)) (hd : (x == ("__debug__" : Str)) = false := by decide) (hcd : (x == ("__classdict__" : Str)) = false := by decide)
    (hs : ∀ env : Env, env.scope = c.sc → swapsWith e (some (.Subscript (.Name x px) a tpos)) pos.line env = pure false := by intro env he; first | rfl | (cases env; subst he; rfl)) : S1 c (.Assign [.Subscript (.Name x px) a tpos] e pos) sp P := Sealed.of fun X hX G F0 F H σ r D0 k => by
  refine PS_t (ps_dput hX.u1 (pe_var (i := i) (by rw [hX.N]; exact hi) (by rw [hX.sc]; exact hv) hd hcd) pe_tE pe_tE (hs _ hX.sc)) ?_
  obtain ⟨l, ws, hy, h1, h4⟩ := dk_at (X := X) r hsl
  refine h X hX G F0 F H σ r _ fun d v F1 H1 q g d1 => ?_
  refine ⟨.ref l, hy, ?_⟩
  refine Sealed.run q X hX G F0 F1 H1 σ (r.grow g) _ fun gi vi F2 H2 q2 g2 d2 => ?_
  obtain ⟨kk, rfl, hl, q3⟩ := q2
  cases key_of d2
  have hl2 := g2.h _ _ (g.h _ _ h1)
  refine ⟨l, _, rfl, DPut.k hl2 (by rw [show ws.length = kvs.length from Paired.length h4]; exact hl), ?_⟩
  exact k.nx _ F2 _ σ q3 (((r.grow g).grow g2).upd_o i hsl rfl hy ⟨_, rfl, paired_put (pairedD_mono (g.f.trans g2.f) h4) (dp_mono g2.f _ _ d1)⟩ rfl)
/-- len(d) -/
theorem E_dkLen (i : Nat) {kvs : List (Key × D)} (hsl : sp[i]? = some (.dk kvs)) (q : Q (.int kvs.length)) (hm : c.m.mg "len" = none) (hv0 : bootBuiltins "len" = some (.builtin "len")) (hg : GlS c.sc "len" := by rfl) (hi : c.N[i]? = some x := by rfl)
    (hv : Vis c.sc x := by first | exact Or.inl rfl | exact Or.inr (Or.inl rfl) | exact Or.inr (Or.inr rfl)) (hd : (x == ("__debug__" : Str)) = false := by decide) (hcd : (x == ("__classdict__" : Str)) = false := by decide)
    (he : ∀ env, starEach [.Name x px] env = (false, eval (.Name x px) env) :: starEach [] env := by intro _; rfl) (hpl : ∀ env, (backTo pos (starEach [] env)).any (·.1) = false := by intro _; rfl) : E c (.Call (.Name "len" p) [.Name x px] [] pos) sp Q := Sealed.of fun X hX G F0 F H σ r R k => by
  refine PE_tE (pe_callB call_lenD (hg.gl hX) (by rw [hX.mg]; exact hm) hv0 (pa_cons (pe_var (i := i) (by rw [hX.N]; exact hi) (by rw [hX.sc]; exact hv) hd hcd) pa_nil (he _)) (by decide) (by decide) (he _) (hpl _)) ?_
  obtain ⟨l, ws, hy, h1, h4⟩ := dk_at (X := X) r hsl
  exact ⟨.ref l, hy, l, ws, rfl, h1, by rw [show ws.length = kvs.length from Paired.length h4]; exact k _ _ F H q (Grow.refl r.sf) (.int _)⟩
/-- sorted(d), keys ints -/
theorem EF_dkSorted (i : Nat) {kvs : List (Key × D)} (hsl : sp[i]? = some (.dk kvs)) (h : ∃ ks : List Int, kvs.map (·.1) = ks.map Sum.inl ∧ ks.length < 64 ∧ ∀ ys : List Int, ys.Perm ks → ys.Pairwise (· ≤ ·) → QL (ys.map .int)) (hm : c.m.mg "sorted" = none) (hg : GlS c.sc "sorted" := by rfl) (hi : c.N[i]? = some x := by rfl)
    (hv : Vis c.sc x := by first | exact Or.inl rfl | exact Or.inr (Or.inl rfl) | exact Or.inr (Or.inr rfl)) (hd : (x == ("__debug__" : Str)) = false := by decide) (hcd : (x == ("__classdict__" : Str)) = false := by decide)
    (he : ∀ env, starEach [.Name x px] env = (false, eval (.Name x px) env) :: starEach [] env := by intro _; rfl) (hpl : ∀ env, (backTo pos (starEach [] env)).any (·.1) = false := by intro _; rfl) : EF c (.Call (.Name "sorted" p) [.Name x px] [] pos) sp QL := Sealed.of fun X hX G F0 F H σ r R k => by
  refine PE_tE (pe_callB (call_sortedDI hX.calm) (hg.gl hX) (by rw [hX.mg]; exact hm) boot_sorted' (pa_cons (pe_var (i := i) (by rw [hX.N]; exact hi) (by rw [hX.sc]; exact hv) hd hcd) pa_nil (he _)) (by decide) (by decide) (he _) (hpl _)) ?_
  obtain ⟨l, ws, hy, h1, h4⟩ := dk_at (X := X) r hsl
  obtain ⟨ks, hk, h64, q⟩ := h
  refine ⟨.ref l, hy, l, ws, ks, rfl, .inl h1, by rw [paired_keys h4, hk], h64, fun ys p2 hp hs hp2 => ?_⟩
  have g := Grow.out (o := .lst (ys.map V.int)) r.sf hp2
  exact k (ys.map .int) (ys.map V.int) p2 F _ (q ys hp hs) g hp2 (r.sf.free hp2) upd_same (dpAll_of_ints _)
end
end Pl
set_option Elab.async false
set_option linter.all false
set_option maxRecDepth 100000
set_option maxHeartbeats 4000000
set_option autoImplicit false
namespace Pl
open PySem PySem.Spec PyProof.Rows L2
/-! ### lists of ints in order -/
theorem getD_of {xs : List Int} {i : Nat} (h : i < xs.length) : xs.getD i 0 = xs[i] := by
  rw [List.getD_eq_getElem?_getD, List.getElem?_eq_getElem h]; rfl
theorem getD_all {xs : List Int} {p : Int → Prop} (h : ∀ x ∈ xs, p x) {j : Int} (h0 : 0 ≤ j) (hj : j < xs.length) : p (xs.getD j.toNat 0) := by
  rw [getD_of (by omega)]
  exact h _ (List.getElem_mem _)
theorem rangeI_sorted (lo : Int) (n : Nat) : (rangeI lo n).Pairwise (· < ·) := by
  unfold rangeI
  rw [List.pairwise_map]
  exact List.pairwise_lt_range.imp fun a => by omega
theorem sorted_len : ∀ {xs : List Int} {lo n : Int}, xs.Pairwise (· < ·) → (∀ x ∈ xs, lo ≤ x ∧ x < lo + n) → 0 ≤ n → (xs.length : Int) ≤ n
  | [], _, _, _, _, h => h
  | x :: xs, lo, n, h, hx, h0 => by
    obtain ⟨a, b⟩ := List.pairwise_cons.mp h
    have c := hx x (List.mem_cons_self ..)
    have := sorted_len (lo := x + 1) (n := lo + n - (x + 1)) b (fun z hz => ⟨by have := a z hz; omega, by have := (hx z (List.mem_cons_of_mem _ hz)).2; omega⟩) (by omega)
    rw [List.length_cons]; omega
theorem sorted_ext : ∀ {xs ys : List Int}, xs.Pairwise (· < ·) → ys.Pairwise (· < ·) → (∀ z, z ∈ xs ↔ z ∈ ys) → xs = ys
  | [], [], _, _, _ => rfl
  | [], y :: ys, _, _, h => by have := (h y).mpr (List.mem_cons_self ..); cases this
  | x :: xs, [], _, _, h => by have := (h x).mp (List.mem_cons_self ..); cases this
  | x :: xs, y :: ys, hx, hy, h => by
    obtain ⟨a, b⟩ := List.pairwise_cons.mp hx
    obtain ⟨c, d⟩ := List.pairwise_cons.mp hy
    have e : x = y := by
      have h1 := (h x).mp (List.mem_cons_self ..)
      have h2 := (h y).mpr (List.mem_cons_self ..)
      rcases List.mem_cons.mp h1 with z | z
      · exact z
      · rcases List.mem_cons.mp h2 with w | w
        · exact w.symm
        · have := a _ w; have := c _ z; omega
    subst e
    refine congrArg (x :: ·) (sorted_ext b d fun z => ?_)
    constructor
    · intro hz
      rcases List.mem_cons.mp ((h z).mp (List.mem_cons_of_mem _ hz)) with w | w
      · have := a z hz; omega
      · exact w
    · intro hz
      rcases List.mem_cons.mp ((h z).mpr (List.mem_cons_of_mem _ hz)) with w | w
      · have := c z hz; omega
      · exact w
theorem strict_of {xs : List Int} (h : xs.Pairwise (· ≤ ·)) (hn : xs.Nodup) : xs.Pairwise (· < ·) := by
  have := List.Pairwise.and h hn
  exact this.imp fun ⟨a, b⟩ => by omega
theorem find_at {α : Type} {pr : α → Bool} : ∀ {xs : List α} {i : Nat} {x : α}, xs[i]? = some x → (∀ (j : Nat) (y : α), j < i → xs[j]? = some y → pr y = false) → pr x = true → xs.find? pr = some x
  | [], i, x, h, _, _ => by simp at h
  | a :: l, 0, x, h, _, hp => by
    have e : a = x := by simpa using h
    subst e
    rw [List.find?_cons, hp]
  | a :: l, i + 1, x, h, hn, hp => by
    rw [List.find?_cons, hn 0 a (by omega) rfl]
    exact find_at (i := i) (by simpa using h) (fun j y hj hy => hn (j + 1) y (by omega) (by simpa using hy)) hp
def lastI (xs : List Int) : Int := xs.getD (xs.length - 1) 0
theorem lastI_mem {xs : List Int} (h : 0 < xs.length) : lastI xs ∈ xs := by
  unfold lastI
  rw [getD_of (by omega)]
  exact List.getElem_mem _
theorem lastI_max {xs : List Int} (h : xs.Pairwise (· < ·)) {x : Int} (hx : x ∈ xs) : x ≤ lastI xs := by
  obtain ⟨i, hi, rfl⟩ := List.getElem_of_mem hx
  unfold lastI
  rw [getD_of (by omega)]
  by_cases e : i = xs.length - 1
  · simp only [e]; exact Int.le_refl _
  · exact Int.le_of_lt (List.pairwise_iff_getElem.mp h i (xs.length - 1) hi (by omega) (by omega))
theorem at_last {xs : List Int} (h : 0 < xs.length) : atI (xs.map PyData.int) (-1) = some (.int (lastI xs)) := by
  unfold atI L2.ixN
  rw [List.length_map, if_neg (by omega), if_pos (by omega)]
  show (xs.map PyData.int)[((-1 : Int) + (xs.length : Int)).toNat]? = _
  rw [show ((-1 : Int) + (xs.length : Int)).toNat = xs.length - 1 from by omega, List.getElem?_map]
  unfold lastI
  rw [getD_of (by omega), List.getElem?_eq_getElem (by omega)]
  rfl
theorem len_pos_of {xs : List Int} (h : (!(xs.map PyData.int).isEmpty) = true) : 0 < xs.length := by
  cases xs with
  | nil => exact absurd h Bool.false_ne_true
  | cons a l => exact Nat.succ_pos _
/-! ### numbers that leave two rests -/
def gcdZ (a b : Int) : Int := ((Nat.gcd a.natAbs b.natAbs : Nat) : Int)
section
variable {n w a b k : Int}
theorem gcdZ_pos (h : 0 < n) : 0 < gcdZ n w := by
  have : 0 < Nat.gcd n.natAbs w.natAbs := Nat.gcd_pos_of_pos_left _ (by omega)
  unfold gcdZ; omega
theorem gcdZ_l : gcdZ n w ∣ n := Int.ofNat_dvd_left.mpr (Nat.gcd_dvd_left _ _)
theorem gcdZ_r : gcdZ n w ∣ w := Int.ofNat_dvd_left.mpr (Nat.gcd_dvd_right _ _)
def lcmZ (n w : Int) : Int := n * w / gcdZ n w
theorem lcmZ_nat (hn : 0 < n) (hw : 0 < w) : lcmZ n w = ((Nat.lcm n.natAbs w.natAbs : Nat) : Int) := by
  unfold lcmZ gcdZ Nat.lcm
  rw [Int.natCast_ediv, Int.natCast_mul, show ((n.natAbs : Nat) : Int) = n from by omega, show ((w.natAbs : Nat) : Int) = w from by omega]
theorem lcmZ_iff (hn : 0 < n) (hw : 0 < w) : lcmZ n w ∣ k ↔ n ∣ k ∧ w ∣ k := by
  rw [lcmZ_nat hn hw]
  constructor
  · intro h
    have h' := Int.natAbs_dvd_natAbs.mpr h
    rw [Int.natAbs_natCast] at h'
    exact ⟨Int.natAbs_dvd_natAbs.mp (Nat.dvd_trans (Nat.dvd_lcm_left _ _) h'), Int.natAbs_dvd_natAbs.mp (Nat.dvd_trans (Nat.dvd_lcm_right _ _) h')⟩
  · rintro ⟨h1, h2⟩
    apply Int.natAbs_dvd_natAbs.mp
    rw [Int.natAbs_natCast]
    exact Nat.lcm_dvd (Int.natAbs_dvd_natAbs.mpr h1) (Int.natAbs_dvd_natAbs.mpr h2)
theorem lcmZ_pos (hn : 0 < n) (hw : 0 < w) : 0 < lcmZ n w := by
  rw [lcmZ_nat hn hw]
  have := Nat.lcm_pos (show 0 < n.natAbs by omega) (show 0 < w.natAbs by omega)
  omega
theorem lcmZ_mul (hn : 0 < n) : lcmZ n w * gcdZ n w = n * w := Int.ediv_mul_cancel (Int.dvd_trans gcdZ_l (Int.dvd_mul_right _ _))
theorem lcmZ_l (hn : 0 < n) (hw : 0 < w) : n ∣ lcmZ n w := ((lcmZ_iff hn hw).mp (Int.dvd_refl _)).1
theorem lcmZ_r (hn : 0 < n) (hw : 0 < w) : w ∣ lcmZ n w := ((lcmZ_iff hn hw).mp (Int.dvd_refl _)).2
theorem lcmZ_div_l (hn : 0 < n) : lcmZ n w / n = w / gcdZ n w := by
  obtain ⟨j, hj⟩ := gcdZ_r (n := n) (w := w)
  have hg := gcdZ_pos (w := w) hn
  unfold lcmZ
  generalize gcdZ n w = g at *
  rw [hj, Int.mul_ediv_cancel_left _ (by omega), show n * (g * j) = g * (n * j) from Int.mul_left_comm .., Int.mul_ediv_cancel_left _ (by omega), Int.mul_ediv_cancel_left _ (by omega)]
theorem lcmZ_div_r (hn : 0 < n) (hw : 0 < w) : lcmZ n w / w = n / gcdZ n w := by
  obtain ⟨j, hj⟩ := gcdZ_l (n := n) (w := w)
  have hg := gcdZ_pos (w := w) hn
  unfold lcmZ
  generalize gcdZ n w = g at *
  rw [hj, Int.mul_ediv_cancel_left _ (by omega), show g * j * w = g * (w * j) from by rw [Int.mul_assoc, Int.mul_comm j], Int.mul_ediv_cancel_left _ (by omega), Int.mul_ediv_cancel_left _ (by omega)]
/-- a number with two given rests -/
theorem crt (hn : 0 < n) (hw : 0 < w) (h : gcdZ n w ∣ a - b) : ∃ t, 0 ≤ t ∧ t < lcmZ n w ∧ n ∣ t - a ∧ w ∣ t - b := by
  obtain ⟨x, y, e⟩ := bezI n w
  obtain ⟨k, hk⟩ := h
  have e : n * x + w * y = gcdZ n w := e
  have hL := lcmZ_pos hn hw
  refine ⟨(a - n * x * k) % lcmZ n w, Int.emod_nonneg _ (by omega), Int.emod_lt_of_pos _ hL, ?_, ?_⟩
  · have h1 := Int.dvd_trans (lcmZ_l hn hw) (Int.dvd_self_sub_emod (x := a - n * x * k) (m := lcmZ n w))
    have h2 : n ∣ n * x * k := by rw [Int.mul_assoc]; exact Int.dvd_mul_right _ _
    have h3 := Int.dvd_add h1 h2
    rw [show a - n * x * k - (a - n * x * k) % lcmZ n w + n * x * k = -((a - n * x * k) % lcmZ n w - a) from by omega] at h3
    exact Int.dvd_neg.mp h3
  · have h1 := Int.dvd_trans (lcmZ_r hn hw) (Int.dvd_self_sub_emod (x := a - n * x * k) (m := lcmZ n w))
    have h2 : w ∣ w * y * k := by rw [Int.mul_assoc]; exact Int.dvd_mul_right _ _
    have h4 : a - b = n * x * k + w * y * k := by rw [hk, ← e, Int.add_mul]
    have h3 := Int.dvd_sub h1 h2
    rw [show a - n * x * k - (a - n * x * k) % lcmZ n w - w * y * k = -((a - n * x * k) % lcmZ n w - b) from by omega] at h3
    exact Int.dvd_neg.mp h3
theorem crt_of {t : Int} (h1 : n ∣ t - a) (h2 : w ∣ t - b) : gcdZ n w ∣ a - b := by
  have := Int.dvd_sub (Int.dvd_trans gcdZ_r h2) (Int.dvd_trans gcdZ_l h1)
  rwa [show t - b - (t - a) = a - b from by omega] at this
theorem mod_iff {t : Int} (h0 : 0 ≤ a) (h1 : a < n) : t % n = a ↔ n ∣ t - a := by
  constructor
  · intro h; rw [← h]; exact Int.dvd_self_sub_emod
  · intro h
    have := Int.emod_emod_of_dvd t (Int.dvd_refl n)
    have e := Int.emod_eq_emod_iff_emod_sub_eq_zero.mpr (Int.emod_eq_zero_of_dvd h)
    rw [e, Int.emod_eq_of_lt h0 h1]
end
section
variable {c : Cc} {Q : D → Prop}
theorem opp_eqT {xs ys : List Int} (q : Q (.bool (decide (xs = ys)))) : OpP c (compareOp .Eq) (.tuple (xs.map .int)) (.tuple (ys.map .int)) Q := opp_eq (shaped_ints _) (shaped_ints _) (by rw [eqv_tup]; exact q)
theorem opp_neT {xs ys : List Int} (q : Q (.bool (!decide (xs = ys)))) : OpP c (compareOp .NotEq) (.tuple (xs.map .int)) (.tuple (ys.map .int)) Q := opp_ne (shaped_ints _) (shaped_ints _) (by rw [eqv_tup]; exact q)
end
end Pl
set_option Elab.async false
set_option linter.all false
set_option maxRecDepth 100000
set_option maxHeartbeats 4000000
set_option autoImplicit false
namespace Pl
open PySem PySem.Spec PyProof.Rows L2
section
variable {c : Cc} {Q : D → Prop}
theorem nuMax2_int (i j : Int) : L2.nuMax2 (.int i) (.int j) = some (.int (max i j)) := by
  have e : L2.nuLt (.int i) (.int j) = some (decide (i < j)) := rfl
  unfold L2.nuMax2
  rw [e]
  by_cases h : i < j
  · rw [decide_eq_true h, show max i j = j from by omega]; rfl
  · rw [decide_eq_false h, show max i j = i from by omega]; rfl
theorem nuMin2_int (i j : Int) : L2.nuMin2 (.int i) (.int j) = some (.int (min i j)) := by
  have e : L2.nuLt (.int j) (.int i) = some (decide (j < i)) := rfl
  unfold L2.nuMin2
  rw [e]
  by_cases h : j < i
  · rw [decide_eq_true h, show min i j = j from by omega]; rfl
  · rw [decide_eq_false h, show min i j = i from by omega]; rfl
theorem cp_max3 {i j k : Int} (q : Q (.int (max (max i j) k))) : CallP c (.builtin "max") [.int i, .int j, .int k] Q := .of fun X hX => ⟨_, L2.call_max3Nu hX.calm, fun F H xs R s h kk => by
  cases h with
  | cons h1 h =>
    cases h with
    | cons h2 h =>
      cases h with
      | cons h3 h =>
        cases h
        cases h1; cases h2; cases h3
        refine ⟨_, _, _, .int (max (max i j) k), rfl, ?_, kk _ _ F H q (Grow.refl s) (.int _)⟩
        unfold L2.nuMax3
        rw [nuMax2_int]
        exact nuMax2_int _ _⟩
theorem cp_min3 {i j k : Int} (q : Q (.int (min (min i j) k))) : CallP c (.builtin "min") [.int i, .int j, .int k] Q := .of fun X hX => ⟨_, L2.call_min3Nu hX.calm, fun F H xs R s h kk => by
  cases h with
  | cons h1 h =>
    cases h with
    | cons h2 h =>
      cases h with
      | cons h3 h =>
        cases h
        cases h1; cases h2; cases h3
        refine ⟨_, _, _, .int (min (min i j) k), rfl, ?_, kk _ _ F H q (Grow.refl s) (.int _)⟩
        unfold L2.nuMin3
        rw [nuMin2_int]
        exact nuMin2_int _ _⟩
end
section
variable {c : Cc} {sp : List Sl} {e : Expr} {p pos : Pos} {QL : List D → Prop}
/-- list(e): a list of its own -/
theorem EF_list (h : E c e sp fun d => ∃ ds, (d = .list ds ∨ d = .tuple ds) ∧ QL ds) (hm : c.m.mg "list" = none) (hv : bootBuiltins "list" = some (.type "list")) (hg : GlS c.sc "list" := by rfl)
    (he : ∀ env, starEach [e] env = (false, eval e env) :: starEach [] env := by intro _; rfl) (hpl : ∀ env, (backTo pos (starEach [] env)).any (·.1) = false := by intro _; rfl) :
    EF c (.Call (.Name "list" p) [e] [] pos) sp QL := Sealed.of fun X hX G F0 F H σ r R k => by
  refine PE_tE (pe_callTy call_list_of (hg.gl hX) (by rw [hX.mg]; exact hm) hv (pa_cons pe_tE pa_nil (he _)) (by decide) (by decide) (he _) (hpl _)) ?_
  refine h X hX G F0 F H σ r _ fun d v F1 H1 q g1 d1 => ?_
  obtain ⟨ds, hd, q⟩ := q
  rcases hd with rfl | rfl
  · obtain ⟨a, vs, rfl, h1, h2⟩ := dp_list d1
    rw [hX.K]
    refine ⟨a, vs, rfl, .inl (g1.fh.seq h1), fun p hp => ?_⟩
    have g2 := Grow.out (o := .lst vs) g1.fh hp
    exact k ds vs p F1 _ q (g1.trans g2) (g1.h.free hp) (g1.fh.free hp) upd_same h2
  · obtain ⟨a, vs, rfl, h1, h2⟩ := dp_tuple d1
    rw [hX.K]
    refine ⟨a, vs, rfl, .inr (sqT_mono g1.fh h1), fun p hp => ?_⟩
    have g2 := Grow.out (o := .lst vs) g1.fh hp
    exact k ds vs p F1 _ q (g1.trans g2) (g1.h.free hp) (g1.fh.free hp) upd_same h2
end
end Pl
set_option Elab.async false
set_option linter.all false
set_option maxRecDepth 100000
set_option maxHeartbeats 4000000
set_option autoImplicit false
namespace Pl
open PySem PySem.Spec PyProof.Rows L2
open Sem (wp)
/-! ### the frame of a generator expression -/
/-- the context of the generator's frame; it starts at s, its iterator's objects at fp -/
abbrev gnX (X : Cx) (A : Around) (s : Shared) (H : Hp) (scope : Scope) (cenv : Env) (fp : List Addr) : Cx := { X with A := A, s_0 := s, H_0 := H, env := cenv, outer := X.stack, stack := cenv :: X.stack, ex := fp, fn := fun x => scope.names.lookup x == some .cell, pn := [], xe := fun _ _ => False }
/-- the names of the generator's scope: its own (with their places in N), or captured -/
structure GnOk (N : List Str) (sc scope : Scope) (own : List (Str × Nat)) : Prop where
  kind : scope.kind = .function
  co : scope.isCoroutine = false
  nocell : ∀ y ∈ scope.names, y.2 ≠ .cell
  dot : scope.names.lookup (".0" : Str) = some NameKind.local
  ix : ∀ p ∈ own, N[p.2]? = some p.1
  free : ∀ y ∈ scope.names, y.2 = .free → sc.names.lookup y.1 = some .cell ∨ sc.names.lookup y.1 = some .free
  own : ∀ y ∈ scope.names, y.2 = .local → y.1 ∈ own.map (·.1) ∨ y.1 ∉ N
section
variable {X : Cx} {pins : List (Addr × Obj)} {σ : L2.St} {H : Hp} {s : Shared}
theorem cl_mem {scope : Scope} {y : Str} {c : Addr} (hfree : ∀ y ∈ scope.names, y.2 = .free → ∃ c, X.env.cells.lookup y.1 = some c) (hm : (y, c) ∈ cloFrom X.env.cells scope.names []) : X.env.cells.lookup y = some c := by
  rcases cloFrom_mem hm with hm | ⟨h1, rfl⟩
  · cases hm
  · obtain ⟨c, hc⟩ := hfree _ h1 rfl
    rw [hc]; rfl
/-- the frame made, the generator's object behind it -/
theorem gn_start {A : Around} {scope : Scope} {own : List (Str × Nat)} {fp : List Addr} {cenv : Env} {bo : Obj} {h5 : Heap} {gens : Array GenState} {tk : Nat} {m : Str → Option Value} (I : Inv X pins σ H s) (ok : GnOk X.N X.env.scope scope own) (hN : X.N.Nodup)
    (hfp : ∀ b ∈ fp, FpOk X pins H b ∧ b < s.heap.objs.size) (hA : A.handled = none) (hAf : A.frames = some (cenv :: X.stack)) (hsc : cenv.scope = scope) (hL : cenv.locals = s.heap.objs.size) (hgl : cenv.globals = mainGlobals) (hbl : cenv.builtins = builtinsNs) (hfr : cenv.frame = some cenv.locals)
    (hcl : cenv.cells = cloFrom X.env.cells scope.names []) (kp : ∀ b o, s.heap.get? b = some o → h5.get? b = some o) (hns : h5.Ns s.heap.objs.size m) (hbo : h5.get? (s.heap.objs.size + 1) = some bo) (hbc : ∀ v, bo.data ≠ .cell v) (hg : AllBare gens) :
    Inv (gnX X A s H scope cenv fp) [(s.heap.objs.size + 1, bo)] (wipe σ (own.map (·.2))) H { s with heap := h5, gens := gens, toks := tk } := by
  have hfree : ∀ y ∈ scope.names, y.2 = .free → ∃ c, X.env.cells.lookup y.1 = some c := fun y hy e => by
    rcases ok.free y hy e with k | k
    · exact I.ok.has _ (.inl k)
    · exact I.ok.has _ (.inr k)
  have look : ∀ {y c}, cenv.cells.lookup y = some c → X.env.cells.lookup y = some c := fun {y c} e => by
    rw [hcl] at e
    exact cl_mem hfree (PySem.mem_of_lookup e)
  have has : ∀ {y}, (y, NameKind.free) ∈ scope.names → ∃ c, cenv.cells.lookup y = some c := fun {y} hy => by
    obtain ⟨c', e'⟩ := mem_lookup (cloFrom_has (cells := X.env.cells) (acc := []) hy)
    exact ⟨c', by rw [hcl]; exact e'⟩
  have okB : (gnX X A s H scope cenv fp).Ok := by
    refine ⟨I.ok.mod, by show cenv.scope.kind = _; rw [hsc]; exact ok.kind, hgl, hbl, by show s.heap.objs.size ≤ cenv.locals; rw [hL]; exact Nat.le_refl _, fun y z c e1 e2 => I.ok.inj y z c (look e1) (look e2), fun y hy => ?_, fun y c z e => ?_, fun _ => hA, hAf, .inr ⟨rfl, hfr⟩,
      fun b hb => ⟨?_, fun y c e z => (hfp b hb).1.2.2.2.2.1 y c (look e) z⟩, I.bs, Nat.le_trans I.ok.bsz I.sz, fun b o e hb => ?_, fun b hb z => ?_, I.stack, I.stkFree⟩
    · have key : ∀ k, cenv.scope.names.lookup y = some k → (k = .cell ∨ k = .free) → ∃ c, cenv.cells.lookup y = some c := fun k hk hk' => by
        rw [hsc] at hk
        rcases hk' with rfl | rfl
        · exact absurd rfl (ok.nocell _ (PySem.mem_of_lookup hk))
        · exact has (PySem.mem_of_lookup hk)
      rcases hy with hy | hy
      · exact key _ hy (.inl rfl)
      · exact key _ hy (.inr rfl)
    · have z : (scope.names.lookup y == some NameKind.cell) = true := z
      have z : scope.names.lookup y = some .cell := by simpa using z
      exact absurd rfl (ok.nocell _ (PySem.mem_of_lookup z))
    · show b ≠ cenv.locals
      rw [hL]; exact Nat.ne_of_lt (hfp b hb).2
    · rcases (hfp b hb).1.2.2.2.1 with z | z
      · exact I.ok.noex b o e z
      · exact absurd (Nat.lt_of_lt_of_le (Heap.lt_size e) (Nat.le_trans I.ok.bsz z)) (Nat.lt_irrefl _)
    · rcases List.mem_cons.mp (I.stkSub b z) with z | z
      · exact (hfp b hb).1.2.1 z
      · exact (hfp b hb).1.2.2.1 z
  refine ⟨okB, rfl, hg, Un.kept kp, ⟨m, by show h5.Ns cenv.locals m; rw [hL]; exact hns, fun i y av e1 e2 e3 => ?_⟩, fun y c e => ?_, ?_, fun y c e => ?_, fun p hp => ?_, I.hok.kept kp, by rw [wipe_length]; exact I.len⟩
  · obtain ⟨e2, hne⟩ := wipe_some e2
    have hfr' : (y, NameKind.free) ∈ scope.names ∧ cenv.scope.names.lookup y = some .free := by
      have key : ∀ k, cenv.scope.names.lookup y = some k → k = .local ∨ k = .cell ∨ k = .free → (y, NameKind.free) ∈ scope.names ∧ cenv.scope.names.lookup y = some .free := fun k hk hk' => by
        have hk0 := hk
        rw [hsc] at hk
        rcases hk' with rfl | rfl | rfl
        · rcases ok.own _ (PySem.mem_of_lookup hk) rfl with e' | e'
          · obtain ⟨p, hp, hpy⟩ := List.mem_map.mp e'
            have e3 := ok.ix p hp
            have : p.1 = y := hpy
            rw [this] at e3
            exact absurd (List.mem_map.mpr ⟨p, hp, nodup_ix hN e3 e1⟩) hne
          · exact absurd (List.mem_of_getElem? e1) e'
        · exact absurd rfl (ok.nocell _ (PySem.mem_of_lookup hk))
        · exact ⟨PySem.mem_of_lookup hk, hk0⟩
      have e3 : Vis cenv.scope y := e3
      rcases e3 with e3 | e3 | e3
      · exact key _ e3 (.inl rfl)
      · exact key _ e3 (.inr (.inl rfl))
      · exact key _ e3 (.inr (.inr rfl))
    obtain ⟨m', hn, hl⟩ := I.loc
    have hvis : Vis X.env.scope y := (ok.free _ hfr'.1 rfl).elim (fun k => .inr (.inl k)) (fun k => .inr (.inr k))
    obtain ⟨w, r, q⟩ := hl i y av e1 e2 hvis
    refine ⟨w, r, .inr ⟨.inr hfr'.2, ?_⟩⟩
    obtain ⟨c, h1⟩ := has hfr'.1
    have h2 := look h1
    rcases q with ⟨k, _⟩ | ⟨_, c', e', z⟩
    · have k : X.env.scope.names.lookup y = some .local := k
      rcases ok.free _ hfr'.1 rfl with k' | k' <;> rw [show X.env.scope.names.lookup y = _ from k'] at k <;> cases k
    · rw [h2] at e'; cases e'
      exact ⟨c, h1, z.keeps kp⟩
  · obtain ⟨w, z⟩ := I.cell y c (look e)
    exact ⟨w, z.keeps kp⟩
  · show H cenv.locals = none
    rw [hL]; exact I.hok.fresh (Nat.le_refl _)
  · exact I.freeC y c (look e)
  · have hp : p = (s.heap.objs.size + 1, bo) := by simpa using hp
    subst hp
    refine ⟨hbo, I.hok.fresh (Nat.le_succ _), ?_, fun hb => ?_, hbc⟩
    · show s.heap.objs.size + 1 ≠ cenv.locals
      rw [hL]; exact Nat.succ_ne_self _
    · obtain ⟨_, o, ho, _⟩ := I.stack.mem hb
      exact absurd (Heap.lt_size ho) (Nat.not_lt_of_le (Nat.le_succ _))
end
end Pl
set_option Elab.async false
set_option linter.all false
set_option maxRecDepth 100000
set_option maxHeartbeats 4000000
set_option autoImplicit false
namespace Pl
open PySem PySem.Spec PyProof.Rows L2
open Sem (wp)
theorem inv_quiet {X : Cx} {pins : List (Addr × Obj)} {σ : L2.St} {H : Hp} {s s' : Shared} (I : Inv X pins σ H s) (h1 : s'.heap = s.heap) (h2 : s'.os = s.os) (h3 : AllBare s'.gens) : Inv X pins σ H s' :=
  ⟨I.ok, by rw [h2]; exact I.os, h3, by rw [h1]; exact I.base, by rw [h1]; exact I.loc, by rw [h1]; exact I.cell, I.free, I.freeC, by rw [h1]; exact I.pin, by rw [h1]; exact I.hok, I.len⟩
theorem over_gl {B : Around} {elt tg iter : Expr} {scope : Scope} {pos : Pos} {it : Addr} {cenv : Env} : B.over (.compLoop (.GeneratorExp elt [⟨tg, iter, [], 0⟩] scope pos) 0 (.ref it) .none cenv) [] = B.deeper cenv := by
  first
    | rfl
    | (obtain ⟨hd, d, fr, gs, u⟩ := B; simp [Around.over, Around.deeper, marksOver, frameCount, unitsOf, envsOf, guardsOf, pushEnvs, pushGuards, Code.envs, Code.env?, Code.isFrame, Code.guards, Code.isGuard, Code.weight, Code.frames, Code.isCreation, Code.isCaller, Code.cUnits])
theorem over_gs {B : Around} {elt tg iter : Expr} {scope : Scope} {pos : Pos} {it : Addr} {cenv : Env} : B.over (.compStart (.GeneratorExp elt [⟨tg, iter, [], 0⟩] scope pos) 0 (.ref it) .none cenv) [] = B.deeper cenv := by
  first
    | rfl
    | (obtain ⟨hd, d, fr, gs, u⟩ := B; simp [Around.over, Around.deeper, marksOver, frameCount, unitsOf, envsOf, guardsOf, pushEnvs, pushGuards, Code.envs, Code.env?, Code.isFrame, Code.guards, Code.isGuard, Code.weight, Code.frames, Code.isCreation, Code.isCaller, Code.cUnits])
/-- what a generator that ends, or hands out a bool, leaves -/
def RG (Xg : Cx) (a : Addr) (bo : Obj) (gi : Nat) (Fend : Hp → Prop) : GenEnd := fun _ _ r s => r = .ok .next ∧ (gi < s.gens.size ∧ ∃ H σ', Inv Xg [(a, bo)] σ' H s ∧ Fend H)
def YG (Xg : Cx) (a : Addr) (bo : Obj) (gi : Nat) (cont : Bool) (Fin : Hp → Prop) : Protocol := fun _ _ v s kap => ∃ b : Bool, v = .bool b ∧ gi < s.gens.size ∧ ∃ H σ', Inv Xg [(a, bo)] σ' H s ∧
  ((b = cont ∧ ∀ s'' : Shared, s''.heap = s.heap → s''.os = s.os → AllBare s''.gens → gi < s''.gens.size → kap (.send .none) s'') ∨ (b ≠ cont ∧ Fin H))
section
variable {X : Cx} {σ : L2.St} {s0 : Shared} {H0 : Hp} {B : Around} {scope : Scope} {cenv : Env} {fp : List Addr} {elt tg iter : Expr} {pos : Pos} {it : Addr} {J : It} {tn : Nat → Heap → Prop} {g : TG} {te : TE} {vs : List Nat} {cont : Bool} {W : Nat → Nat → Hp → Prop} {Fin Fend : Hp → Prop} {a : Addr} {bo : Obj} {gi : Nat}
theorem seg_gn (hc : X.calm = true) (T : Turn X.prog X.w X.K tg J fp it tn) (pg : PG (gnX X (B.deeper cenv) s0 H0 scope cenv fp) tg g) (pe : PE (gnX X (B.deeper cenv) s0 H0 scope cenv fp) elt te) (hco : cenv.scope.isCoroutine = false) (ha : a ∉ fp)
    (turn : ∀ i m H, W i m H → (J.stop i H ∧ Fend H) ∨ (J.go i H ∧ ∀ x H', J.yld i H x H' → g x (wipe σ vs) H' fun σ2 H2 => wipe σ2 vs = wipe σ vs ∧ te σ2 H2 fun y H3 => ∃ b, y = .bl b ∧ if b = cont then ∃ m', m' < m ∧ W (i + 1) m' H3 else Fin H3)) :
    ∀ (n i m : Nat) (H : Hp) (s₀ s : Shared), m < n → W i m H → Inv (gnX X (B.deeper cenv) s0 H0 scope cenv fp) [(a, bo)] (wipe σ vs) H s → tn i s.heap → (∀ b ∈ fp, H b = none) → gi < s.gens.size →
      Seg (model X.prog X.w) B (RG (gnX X (B.deeper cenv) s0 H0 scope cenv fp) a bo gi Fend) (YG (gnX X (B.deeper cenv) s0 H0 scope cenv fp) a bo gi cont Fin) n s₀
        (.compLoop (.GeneratorExp elt [⟨tg, iter, [], 0⟩] scope pos) 0 (.ref it) .none cenv) ((model X.prog X.w).den (.compLoop (.GeneratorExp elt [⟨tg, iter, [], 0⟩] scope pos) 0 (.ref it) .none cenv)) [] s := by
  intro n
  induction n with
  | zero => intro i m H s₀ s hm; exact absurd hm (Nat.not_lt_zero _)
  | succ k ih =>
    intro i m H s₀ s hm hW I st nf hsz
    have stat : ∀ {pins : List (Addr × Obj)} {σ' : L2.St} {H' : Hp} {s' : Shared}, Inv (gnX X (B.deeper cenv) s0 H0 scope cenv fp) pins σ' H' s' → (∀ p ∈ pins, p.1 ∉ fp) → (∀ b ∈ fp, H' b = none) → ∀ b ∈ fp, FpOk (gnX X (B.deeper cenv) s0 H0 scope cenv fp) pins H' b := fun {pins σ' H' s'} I' hp hn b hb =>
      ⟨hn b hb, (I'.ok.exf b hb).1, I'.ok.exfs b hb, .inl hb, fun x c e => (I'.ok.exf b hb).2 x c e, fun p hp' z => hp p (by simpa using hp') (z ▸ hb)⟩
    have hp1 : ∀ p ∈ [(a, bo)], p.1 ∉ fp := fun p hp => by rw [List.mem_singleton.mp hp]; exact ha
    show Seg _ B _ _ _ s₀ _ ((compTurn (.GeneratorExp elt [⟨tg, iter, [], 0⟩] scope pos) 0 (.ref it) .none cenv).onRaise (leaving cenv)) [] s
    rw [compTurn_gen, Sem.onRaise_eq_wrap]
    refine seg_bind_wrap (wpAny_standAt ?_)
    rcases turn i m H hW with ⟨stop, qq⟩ | ⟨go, step⟩
    · have td := T.done (gnX X (B.deeper cenv) s0 H0 scope cenv fp) rfl rfl rfl hc i [(a, bo)] s _ H (fun _ _ => False) I (stat I hp1 nf) st stop
      refine seg_bind_wrap ?_
      rw [over_gl]
      refine GenW.wpAny_gsz (n := gi + 1) hsz (thnF td fun r s6 ⟨hr, I6⟩ hz => ?_)
      subst hr
      exact seg_end (.ok .next) ⟨rfl, hz, H, _, I6, qq⟩
    · have ti := T.item (gnX X (B.deeper cenv) s0 H0 scope cenv fp) rfl rfl rfl hc i [(a, bo)] s _ H (fun _ _ => False) I (stat I hp1 nf) st go
      refine seg_bind_wrap ?_
      rw [over_gl]
      refine GenW.wpAny_gsz (n := gi + 1) hsz (thnF ti fun r s6 ⟨u, hr, h6⟩ hz => ?_)
      subst hr
      refine seg_bind_wrap ?_
      rw [over_gl]
      refine GenW.wpAny_gsz (n := gi + 1) hz (thnF h6 fun _ s7 ⟨x, H7, I7, r7, y7, st7, n7⟩ hz7 => ?_)
      have I7' := I7.pinned (stat I7 hp1 n7) (T.obj _ _ st7)
      refine seg_bind_wrap ?_
      rw [over_gl]
      refine GenW.wpAny_gsz (n := gi + 1) hz7 (thnF (pg.run _ s7 _ H7 x u _ I7' r7 (step x H7 y7)) fun _ s8 ⟨σ8, H8, I8, hw8, q8⟩ hz8 => ?_)
      refine seg_bind_wrap ?_
      rw [over_gl]
      refine GenW.wpAny_gsz (n := gi + 1) hz8 (thnF ((pts_nil (X := gnX X (B.deeper cenv) s0 H0 scope cenv fp)).run _ s8 σ8 H8 (fun b H' => b = true ∧ H' = H8) I8 ⟨rfl, rfl⟩) fun b s9 ⟨H9, I9, hb, hH9⟩ hz9 => ?_)
      subst hb; subst hH9
      simp only [if_true]
      have hy : ∀ v, yieldOut cenv v = yieldValue v := fun v => by simp only [yieldOut, hco, Bool.false_eq_true, if_false]
      simp only [hy]
      rw [Sem.bind_eq_wrap', Sem.bind_eq_wrap', Sem.wrap_wrap, Sem.wrap_wrap]
      refine seg_wrap ?_
      rw [over_gl]
      refine GenW.wpAny_gsz (n := gi + 1) hz9 (thnF (pe.run _ s9 σ8 H9 _ I9 q8) fun z s10 ⟨yv, H10, I10, r10, b, hb, q10⟩ hz10 => ?_)
      subst hb
      have hzb : z = .bool b := r10
      subst hzb
      refine seg_at (seg_yield rfl rfl rfl ⟨b, rfl, hz10, H10, _, I10.unpinned, ?_⟩)
      by_cases hbc : b = cont
      · rw [if_pos hbc] at q10
        obtain ⟨m', hm', w'⟩ := q10
        refine .inl ⟨hbc, fun s'' e1 e2 e3 e4 => ?_⟩
        have pin' : ∀ b ∈ fp, ∀ o, s7.heap.get? b = some o → s10.heap.get? b = some o ∧ H10 b = none := fun b hb o e =>
          let z := I10.pin (b, o) (List.mem_append_right _ (List.mem_append_right _ (mem_pinsAt hb e)))
          ⟨z.1, z.2.1⟩
        have hl : (wipe σ vs).length = σ8.length := by rw [← hw8, wipe_length]
        refine seg_again rfl (ih (i + 1) m' H10 s'' s'' (by omega) w' ?_ ?_ ?_ e4)
        · exact inv_quiet ((I10.unpinned (pins := [(a, bo)])).weak hl fun j v e => by rw [← hw8] at e; exact (wipe_some e).1) e1 e2 e3
        · rw [e1]
          exact T.keep _ _ _ st7 fun b hb o e => (pin' b hb o e).1
        · intro b hb
          obtain ⟨o, e, _⟩ := T.obj _ _ st7 b hb
          exact (pin' b hb o e).2
      · rw [if_neg hbc] at q10
        exact .inr ⟨hbc, q10⟩
end
end Pl
set_option Elab.async false
set_option linter.all false
set_option maxRecDepth 100000
set_option maxHeartbeats 4000000
set_option autoImplicit false
namespace Pl
open PySem PySem.Spec PyProof.Rows L2
open Sem (wp)
section
variable {X : Cx} {pins : List (Addr × Obj)} {σ : L2.St} {s0 : Shared} {H0 : Hp} {B : Around} {scope : Scope} {cenv : Env} {fp : List Addr} {elt tg iter : Expr} {pos : Pos} {it : Addr} {J : It} {tn : Nat → Heap → Prop} {g : TG} {te : TE} {vs : List Nat} {cont : Bool} {W : Nat → Nat → Hp → Prop} {Fin Fend : Hp → Prop} {a : Addr} {bo : Obj} {gi : Nat}
theorem seg_gnStart (hc : X.calm = true) (T : Turn X.prog X.w X.K tg J fp it tn) (pg : PG (gnX X (B.deeper cenv) s0 H0 scope cenv fp) tg g) (pe : PE (gnX X (B.deeper cenv) s0 H0 scope cenv fp) elt te) (hco : cenv.scope.isCoroutine = false) (ha : a ∉ fp)
    (turn : ∀ i m H, W i m H → (J.stop i H ∧ Fend H) ∨ (J.go i H ∧ ∀ x H', J.yld i H x H' → g x (wipe σ vs) H' fun σ2 H2 => wipe σ2 vs = wipe σ vs ∧ te σ2 H2 fun y H3 => ∃ b, y = .bl b ∧ if b = cont then ∃ m', m' < m ∧ W (i + 1) m' H3 else Fin H3))
    (n m : Nat) (H : Hp) (s₀ s : Shared) (hm : m < n) (hW : W 0 m H) (I : Inv (gnX X (B.deeper cenv) s0 H0 scope cenv fp) [(a, bo)] (wipe σ vs) H s) (st : tn 0 s.heap) (nf : ∀ b ∈ fp, H b = none) (hsz : gi < s.gens.size) :
      Seg (model X.prog X.w) B (RG (gnX X (B.deeper cenv) s0 H0 scope cenv fp) a bo gi Fend) (YG (gnX X (B.deeper cenv) s0 H0 scope cenv fp) a bo gi cont Fin) n s₀
        (.compStart (.GeneratorExp elt [⟨tg, iter, [], 0⟩] scope pos) 0 (.ref it) .none cenv) ((model X.prog X.w).den (.compStart (.GeneratorExp elt [⟨tg, iter, [], 0⟩] scope pos) 0 (.ref it) .none cenv)) [] s := by
  have loop := seg_gn (iter := iter) (pos := pos) hc T pg pe hco ha turn n 0 m H s₀ s hm hW I st nf hsz
  show Seg _ B _ _ _ s₀ _ ((compStart (.GeneratorExp elt [⟨tg, iter, [], 0⟩] scope pos) 0 (.ref it) .none cenv).onRaise (leaving cenv)) [] s
  unfold compStart
  rw [Sem.onRaise_eq_wrap]
  show Seg _ B _ _ _ s₀ _ ((ask >>= _).wrap _ _ _ _) [] s
  refine seg_bind_wrap (wpAny_askSetting ?_)
  split
  · exact seg_again rfl loop
  · first
      | exact seg_bind_wrap (wpAny_rule (seg_bind_wrap (wpAny_standAt (seg_bind_wrap (T.self _ 0 s _ _ st (seg_again rfl loop))))))
      | (refine seg_bind_wrap (wpAny_rule ?_); show Seg _ B _ _ _ s₀ _ ((standAt iter.pos >>= _).wrap _ _ _ _) [] s; exact seg_bind_wrap (wpAny_standAt (seg_bind_wrap (T.self _ 0 s _ _ st (seg_again rfl loop)))))
/-- the generator, ready for its next turn -/
def GnAt (X Xg : Cx) (B : Around) (a : Addr) (bo : Obj) (gi : Nat) (cont : Bool) (Fin Fend : Hp → Prop) (n : Nat) (s : Shared) : Prop :=
  s.heap.IsGen a gi ∧ s.heap.NoLimit ∧ AllBare s.gens ∧ ∃ gs, s.gens[gi]? = some gs ∧ gs.Goes (model X.prog X.w) B (RG Xg a bo gi Fend) (YG Xg a bo gi cont Fin) n (.send .none) (s.setGen gi .running)
theorem bare_set {s : Shared} {g : Nat} {x : GenState} (h : AllBare s.gens) (hx : x.bare = true) : AllBare (s.setGen g x).gens := fun y hy => by
  have hy : y ∈ s.gens.setIfInBounds g x := hy
  obtain ⟨i, hi, rfl⟩ := Array.mem_iff_getElem.mp hy
  have hi2 : i < s.gens.size := by simpa using hi
  rw [Array.getElem_setIfInBounds hi2]
  split
  · exact hx
  · exact h _ (Array.getElem_mem hi2)
theorem set_at {s : Shared} {g : Nat} {x : GenState} (h : g < s.gens.size) : (s.setGen g x).gens[g]? = some x := by simp [Shared.setGen, h]
theorem size_set (s : Shared) (g : Nat) (x : GenState) : (s.setGen g x).gens.size = s.gens.size := by simp [Shared.setGen]
theorem next_gn {Xg : Cx} {Bn : Around} {n : Nat} {s : Shared} {E : Value → Shared → Prop} (hh : Bn.handled = none) (hroom : Bn.depth < recursionLimit) (hbo : ∀ h : Heap, h.get? a = some bo → h.IsGen a gi) (back : ∀ H σ' s', Inv Xg [(a, bo)] σ' H s' → Inv X pins σ H s')
    (h : GnAt X Xg Bn.in1 a bo gi cont Fin Fend n s) :
    wpAny (model X.prog X.w) Bn (pyNext (.ref a)) (fun r s' => (r = none ∧ ∃ H, Inv X pins σ H s' ∧ Fend H) ∨ ∃ b, r = some (.bool b) ∧ ((b = cont ∧ ∃ n', n' < n ∧ GnAt X Xg Bn.in1 a bo gi cont Fin Fend n' s') ∨ (b ≠ cont ∧ ∃ H, Inv X pins σ H s' ∧ Fin H))) E s := by
  obtain ⟨hg, hl, hb, gs, hgs, hgo⟩ := h
  refine wpAny_pyNext_genexpQ (P := fun _ _ s => gi < s.gens.size ∧ ∃ H σ', Inv Xg [(a, bo)] σ' H s ∧ Fend H) hh hl hroom hg hgs hgo (fun v s₁ gs' hb' hv => ?_) (fun s₁ hp h' hk => ?_)
  · obtain ⟨b, rfl, hsz, H, σ', I, hv⟩ := hv
    refine .inr ⟨b, rfl, ?_⟩
    rcases hv with ⟨hbc, kap⟩ | ⟨hbc, hF⟩
    · refine .inl ⟨hbc, ?_⟩
      have hb2 : AllBare (s₁.setGen gi gs').gens := bare_set I.bare hb'
      have hk := kap ((s₁.setGen gi gs').setGen gi .running) rfl rfl (bare_set hb2 rfl) (by rw [size_set, size_set]; exact hsz)
      have hp := I.pin (a, bo) (List.mem_append_right _ (List.mem_singleton.mpr rfl))
      cases n with
      | zero => exact hk.elim
      | succ k => exact ⟨k, Nat.lt_succ_self _, hbo _ hp.1, I.nolimit, hb2, gs', set_at hsz, hk⟩
    · exact .inr ⟨hbc, H, inv_quiet (back H σ' s₁ I) rfl rfl (bare_set I.bare hb'), hF⟩
  · obtain ⟨hsz, H, σ', I, hF⟩ := hp
    refine .inl ⟨rfl, H, ?_, hF⟩
    have J := (back H σ' s₁ I).kept (t' := s₁.toks) hk
    exact inv_quiet J rfl rfl (bare_set (s := s₁) I.bare rfl)
theorem all_gn {Xg : Cx} {A : Around} {R : Result → Shared → Prop} (hh : A.handled = none) (hroom : A.depth < recursionLimit) (hbo : ∀ h : Heap, h.get? a = some bo → h.IsGen a gi) (back : ∀ H σ' s', Inv Xg [(a, bo)] σ' H s' → Inv X pins σ H s')
    (hend : ∀ s' H, Inv X pins σ H s' → Fend H → R (.ok (.ret (.bool true))) s') (hfin : ∀ s' H, Inv X pins σ H s' → Fin H → R (.ok (.ret (.bool false))) s') :
    ∀ (n : Nat) (s : Shared), GnAt X Xg A.in1.in1 a bo gi true Fin Fend n s → codeAny (model X.prog X.w) A (.builtin "all.loop" ⟨[.ref a], []⟩) R s := by
  intro n
  induction n using Nat.strongRecOn with
  | _ n ih =>
    intro s h
    refine codeAny_builtin F.entry_all_loop ?_
    rw [Around.under_plainId F.plain_all_loop _]
    show wpAny _ A.in1 (pyNext (.ref a) >>= _) _ _ s
    refine wpAny_bind (wpAny_mono (next_gn (E := fun _ _ => False) (Bn := A.in1) hh hroom hbo back h) (fun r s' hr => ?_) fun _ _ e => e.elim)
    rcases hr with ⟨rfl, H, I, hF⟩ | ⟨b, rfl, hr⟩
    · exact wpAny_bind (wpAny_rule (wpAny_pure (hend s' H I hF)))
    · refine wpAny_bind (wpAny_holding (wpAny_truthy_bool ?_))
      refine wpAny_bind (wpAny_letGo ?_)
      rcases hr with ⟨rfl, n', hn', hG⟩ | ⟨hb, H, I, hF⟩
      · simp only [if_true]
        exact wpAny_pure ⟨plainId_quiet F.plain_all_loop _, ih n' hn' s' hG⟩
      · have e : b = false := by cases b with | true => exact absurd rfl hb | false => rfl
        subst e
        simp only [Bool.false_eq_true, if_false]
        exact wpAny_bind (wpAny_rule (wpAny_pure (hfin s' H I hF)))
theorem any_gn {Xg : Cx} {A : Around} {R : Result → Shared → Prop} (hh : A.handled = none) (hroom : A.depth < recursionLimit) (hbo : ∀ h : Heap, h.get? a = some bo → h.IsGen a gi) (back : ∀ H σ' s', Inv Xg [(a, bo)] σ' H s' → Inv X pins σ H s')
    (hend : ∀ s' H, Inv X pins σ H s' → Fend H → R (.ok (.ret (.bool false))) s') (hfin : ∀ s' H, Inv X pins σ H s' → Fin H → R (.ok (.ret (.bool true))) s') :
    ∀ (n : Nat) (s : Shared), GnAt X Xg A.in1.in1 a bo gi false Fin Fend n s → codeAny (model X.prog X.w) A (.builtin "any.loop" ⟨[.ref a], []⟩) R s := by
  intro n
  induction n using Nat.strongRecOn with
  | _ n ih =>
    intro s h
    refine codeAny_builtin F.entry_any_loop ?_
    rw [Around.under_plainId F.plain_any_loop _]
    show wpAny _ A.in1 (pyNext (.ref a) >>= _) _ _ s
    refine wpAny_bind (wpAny_mono (next_gn (E := fun _ _ => False) (Bn := A.in1) hh hroom hbo back h) (fun r s' hr => ?_) fun _ _ e => e.elim)
    rcases hr with ⟨rfl, H, I, hF⟩ | ⟨b, rfl, hr⟩
    · exact wpAny_bind (wpAny_rule (wpAny_pure (hend s' H I hF)))
    · refine wpAny_bind (wpAny_holding (wpAny_truthy_bool ?_))
      refine wpAny_bind (wpAny_letGo ?_)
      rcases hr with ⟨rfl, n', hn', hG⟩ | ⟨hb, H, I, hF⟩
      · simp only [Bool.false_eq_true, if_false]
        exact wpAny_pure ⟨plainId_quiet F.plain_any_loop _, ih n' hn' s' hG⟩
      · have e : b = true := by cases b with | false => exact absurd rfl hb | true => rfl
        subst e
        simp only [if_true]
        exact wpAny_bind (wpAny_rule (wpAny_pure (hfin s' H I hF)))
end
end Pl
set_option Elab.async false
set_option linter.all false
set_option maxRecDepth 100000
set_option maxHeartbeats 4000000
set_option autoImplicit false
namespace Pl
open PySem PySem.Spec PyProof.Rows L2
open Sem (wp)
/-- all / any of (elt for tg in iter): cont is the bool that lets it go on -/
def tGn (P : Addr) (cont : Bool) (wi : TI) (g : TG) (te : TE) (vs : List Nat) : TE := fun σ H Q => wi σ H fun J H1 => GxR.TabG H1 P ∧ ∀ H2, GxR.Tabbed P H1 H2 → ∃ W : Nat → Nat → Hp → Prop, (∃ m, W 0 m H2) ∧ ∀ i m H, W i m H →
  (J.stop i H ∧ Q (.bl cont) H) ∨ (J.go i H ∧ ∀ x H', J.yld i H x H' → g x (wipe σ vs) H' fun σ2 H3 => wipe σ2 vs = wipe σ vs ∧ te σ2 H3 fun y H4 => ∃ b, y = .bl b ∧ if b = cont then ∃ m', m' < m ∧ W (i + 1) m' H4 else Q (.bl (!cont)) H4)
section
variable {X : Cx} {pins : List (Addr × Obj)} {σ : L2.St} {H : Hp} {s : Shared} {scope : Scope} {own : List (Str × Nat)} {elt tg iter : Expr} {gpos : Pos} {wi : TI} {g : TG} {te : TE} {cont : Bool} {c P : Addr} {k : Nat}
theorem gn_core {Q : VK} {Q' : Value → Shared → Prop} (hc : X.calm = true) (hN : X.N.Nodup) (hr : Room (k + 1) X.A) (I : Inv X pins σ H s) (hi : PI X tg iter wi) (ok : GnOk X.N X.env.scope scope own) (TB : GxR.TabB X.base X.mg c P) (hcode : X.env.code = .ref c)
    (pg : ∀ (A : Around) (s : Shared) (H : Hp) (C : Addr) (fp : List Addr) (code : Value), Room k A → PG (gnX X A s H scope (genEnv scope (cloFrom X.env.cells scope.names []) C code builtinsNs X.env) fp) tg g)
    (pe : ∀ (A : Around) (s : Shared) (H : Hp) (C : Addr) (fp : List Addr) (code : Value), Room k A → PE (gnX X A s H scope (genEnv scope (cloFrom X.env.cells scope.names []) C code builtinsNs X.env) fp) elt te)
    (hs : ∀ x, genFold iter X.env x = pure x) (h : tGn P cont wi g te (own.map (·.2)) σ H Q)
    (hQ : ∀ (Xg : Cx) (a : Addr) (bo : Obj) (gi n : Nat) (s5 : Shared), s5.heap.IsGen a gi → (∀ h : Heap, h.get? a = some bo → h.IsGen a gi) → (∀ H σ' s', Inv Xg [(a, bo)] σ' H s' → Inv X pins σ H s') →
      GnAt X Xg X.A.in1.in1 a bo gi cont (fun H => Q (.bl !cont) H) (fun H => Q (.bl cont) H) n s5 → Q' (.ref a) s5) :
    wpAny (model X.prog X.w) X.A (eval (.GeneratorExp elt [⟨tg, iter, [], 0⟩] scope gpos) X.env) Q' X.xe s := by
  have hfree : ∀ y ∈ scope.names, y.2 = .free → ∃ c, X.env.cells.lookup y.1 = some c := fun y hy e => by
    rcases ok.free y hy e with k | k
    · exact I.ok.has _ (.inl k)
    · exact I.ok.has _ (.inr k)
  refine wpAny_GeneratorExp_make ok.co (closure_ok hfree) ok.nocell ok.dot ok.kind (by have := hr.dp; omega) ?_ hs
  refine thn (hi.run pins s σ H _ I h) fun xv s1 hx => thn hx fun itv s2 h2 => ?_
  obtain ⟨it, fp, tn, J, H2, e, I2, T, st2, f2, ⟨ps, hP, ht⟩, q⟩ := h2
  subst e
  refine ⟨I2.nolimit, ?_⟩
  have hP2 : s2.heap.get? P = some { cls := .none, data := .fields ps } := I2.hok P _ hP
  have cd : PySem.W.CodeHd s2.heap c P := TB.code.keeps fun b u e => I2.bk b u e
  have cont' : ∀ (code : Value) (h3 : Heap) (tk : Nat) (ps' : Array Value), Heap.ExtBut P s2.heap h3 → s2.heap.objs.size ≤ h3.objs.size → h3.get? P = some { cls := .none, data := .fields ps' } → (∃ more, ps' = ps ++ more) → TriplesOk ps'.toList →
      wpAny (model X.prog X.w) X.A (builtinsFor X.env.globals X.env.builtins) (fun bi s₄ => ∀ h', h'.Ns s₄.heap.objs.size (fun y => if y = ".0" then some (.ref it) else none) → Heap.SameBut s₄.heap.objs.size (s₄.heap.push { cls := .type "frame", data := .dict #[] }) h' →
          Q' (.ref h'.objs.size) { s₄ with
            gens := s₄.gens.push (.fresh (.compStart (.GeneratorExp elt [⟨tg, iter, [], 0⟩] scope gpos) 0 (.ref it) .none (genEnv scope (cloFrom X.env.cells scope.names []) s₄.heap.objs.size code bi X.env))),
            toks := s₄.toks + 1 + 1 + 1,
            heap := h'.push { cls := .type "generator", data := .fields #[.int s₄.gens.size 0, .str "<genexpr>" (s₄.toks + 1), .str (X.env.qual ++ "<genexpr>") (s₄.toks + 1 + 1)] } }) X.xe { s2 with heap := h3, toks := tk } := by
    intro code h3 tk ps' hx hsz hP3 hmore ht3
    obtain ⟨bm, ob, e1, e2, e3, e4, e5, e6, e7, e8⟩ := TB.bm
    have keep3 : ∀ b u, b ≠ P → s2.heap.get? b = some u → h3.get? b = some u := fun b u hb e => hx b u hb e
    refine wpAny_builtinsFor (m := X.mg) (by rw [I2.ok.glob]; exact (I2.mod.glob.keeps I2.bk).extBut hx TB.gP) e1 e2 (keep3 _ _ e4 (I2.bk _ _ e5)) e6 e7 e8 ?_
    intro h' hns hsb
    obtain ⟨more, em⟩ := hmore
    have I3 : Inv X pins σ (upd H2 P (.tbl (ps ++ more))) { s2 with heap := h3, gens := s2.gens, drawn := s2.drawn, toks := tk } := GxR.inv_tab I2 hP (fun b o hb e => keep3 b o hb e) (by rw [← em]; exact hP3) I2.bare
    have TBd : GxR.Tabbed P H2 (upd H2 P (.tbl (ps ++ more))) := ⟨⟨ps ++ more, upd_same, by rw [← em]; exact ht3⟩, fun b hb => upd_ne hb⟩
    obtain ⟨W, ⟨m0, w0⟩, turn⟩ := q _ TBd
    have nP : ∀ b, H2 b = none → b ≠ P := fun b e z => by rw [z, hP] at e; cases e
    have f3 : ∀ b ∈ fp, FpOk X pins (upd H2 P (.tbl (ps ++ more))) b ∧ b < h3.objs.size := fun b hb => by
      obtain ⟨o, eo, _⟩ := T.obj _ _ st2 b hb
      refine ⟨⟨by rw [upd_ne (nP b (f2 b hb).1)]; exact (f2 b hb).1, (f2 b hb).2⟩, Nat.lt_of_lt_of_le (Heap.lt_size eo) hsz⟩
    have st3 : tn 0 h3 := T.keep _ _ _ st2 fun b hb o e => keep3 b o (nP b (f2 b hb).1) e
    have hsz' : h'.objs.size = h3.objs.size + 1 := by rw [hsb.1, Heap.size_push]
    have keep' : ∀ b o, h3.get? b = some o → h'.get? b = some o := fun b o e => hsb.extBut b o (Nat.ne_of_lt (Heap.lt_size e)) (Heap.get?_push_of_some _ e)
    generalize hbo : ({ cls := .type "generator", data := .fields #[.int s2.gens.size 0, .str "<genexpr>" (tk + 1), .str (X.env.qual ++ "<genexpr>") (tk + 1 + 1)] } : Obj) = bo
    have hge : ∀ (h : Heap) (a : Addr), h.get? a = some bo → h.IsGen a s2.gens.size := fun h a e => ⟨_, _, _, e, by rw [← hbo], by rw [← hbo], by rw [← hbo]⟩
    generalize hcenv : genEnv scope (cloFrom X.env.cells scope.names []) h3.objs.size code builtinsNs X.env = cenv
    have kp : ∀ b o, h3.get? b = some o → (h'.push bo).get? b = some o := fun b o e => Heap.get?_push_of_some _ (keep' b o e)
    have hat : (h'.push bo).get? (h3.objs.size + 1) = some bo := by rw [← hsz']; exact Heap.get?_push_size _ (by rw [← hbo]; rfl)
    have hAf : (X.A.in1.in1.deeper cenv).frames = some (cenv :: X.stack) := by
      show X.A.frames.map (cenv :: ·) = _
      rw [I.ok.frames]; rfl
    have hbare : AllBare (s2.gens.push (.fresh (.compStart (.GeneratorExp elt [⟨tg, iter, [], 0⟩] scope gpos) 0 (.ref it) .none cenv))) := I2.bare.push rfl
    have start : ∀ gens : Array GenState, AllBare gens → ∀ tk', Inv (gnX X (X.A.in1.in1.deeper cenv) { s2 with heap := h3, gens := s2.gens, drawn := s2.drawn, toks := tk } (upd H2 P (.tbl (ps ++ more))) scope cenv fp) [(h3.objs.size + 1, bo)] (wipe σ (own.map (·.2))) (upd H2 P (.tbl (ps ++ more)))
        { s2 with heap := h'.push bo, gens := gens, toks := tk' } := fun gens hg tk' =>
      gn_start (A := X.A.in1.in1.deeper cenv) (s := { s2 with heap := h3, gens := s2.gens, drawn := s2.drawn, toks := tk }) I3 ok hN f3 hr.hd hAf (by rw [← hcenv]; rfl) (by rw [← hcenv]; rfl) (by rw [← hcenv]; exact I.ok.glob) (by rw [← hcenv]; rfl) (by rw [← hcenv]; rfl) (by rw [← hcenv]; rfl) kp ((hns.at' (a := h3.objs.size) fun o e => Heap.get?_push_of_some _ e)) hat (fun v e => by rw [← hbo] at e; cases e) hg
    have back : ∀ H σ' s', Inv (gnX X (X.A.in1.in1.deeper cenv) { s2 with heap := h3, gens := s2.gens, drawn := s2.drawn, toks := tk } (upd H2 P (.tbl (ps ++ more))) scope cenv fp) [(h3.objs.size + 1, bo)] σ' H s' → Inv X pins σ H s' := fun H' σ' s' I6 =>
      I3.call' (ch := fp) I6.os I6.base I6.hok I6.bare fun b hb => ⟨(f3 b hb).1.2.2.2.1, (f3 b hb).1.2.1, (f3 b hb).1.2.2.2.2.1, (f3 b hb).1.2.2.2.2.2⟩
    have hroom : Room k (X.A.in1.in1.deeper cenv) := ⟨hr.hd, by have := hr.dp; show X.A.depth + 1 + 3 * k + 5 < _; omega, by have := hr.un; show X.A.units + 1 + 1 + 3 + 16 * k + 200 < _; omega⟩
    rw [hsz']
    refine hQ _ (h3.objs.size + 1) bo s2.gens.size (m0 + 1) _ (hge _ _ hat) (fun h e => hge h _ e) back ⟨hge _ _ hat, I3.nolimit.keeps kp, hbare, _, Array.getElem?_push_size .., rfl, ?_⟩
    refine seg_gnStart (σ := σ) (vs := own.map (·.2)) hc T (by rw [← hcenv]; exact pg _ _ _ _ _ _ (by rw [hcenv]; exact hroom)) (by rw [← hcenv]; exact pe _ _ _ _ _ _ (by rw [hcenv]; exact hroom)) (by rw [← hcenv]; exact ok.co) (fun hb => ?_) (fun i m H hw => ?_) (m0 + 1) m0 _ _ _ (Nat.lt_succ_self _) w0 (start _ (bare_set (s := { s2 with gens := s2.gens.push (.fresh (.compStart (.GeneratorExp elt [⟨tg, iter, [], 0⟩] scope gpos) 0 (.ref it) .none cenv)) }) hbare rfl) _)
      (T.keep _ _ _ st3 fun b hb o e => kp b o e) (fun b hb => (f3 b hb).1.1) (by rw [size_set]; show s2.gens.size < (s2.gens.push _).size; rw [Array.size_push]; exact Nat.lt_succ_self _)
    · exact absurd (f3 _ hb).2 (Nat.not_lt_of_le (Nat.le_succ _))
    · exact turn i m H hw
  cases hf : codeAmong gpos ps.toList with
  | none =>
    refine wpAny_genexprCodeX hcode (cd.code hP2 ht) (cd.tab hP2) hf fun c' h' tk hx hge hlt hco' _ htab' _ => ?_
    obtain ⟨o1, vs, f1, tf, fl, tg', inF, tx, tt, op, _, _, _, _, _, _, _, _, _, htr, _⟩ := hco'
    exact cont' _ h' tk _ hx (Nat.le_trans hge (Nat.le_of_lt hlt)) htab'.2 ⟨_, rfl⟩ htr
  | some cv =>
    refine wpAny_genexprCode_hit hcode (cd.code hP2 ht) hf ?_
    exact cont' cv s2.heap s2.toks ps (Heap.ExtBut.refl _ _) (Nat.le_refl _) hP2 ⟨#[], by simp⟩ ht
theorem boot_all' : bootBuiltins "all" = some (.builtin "all") := by decide +kernel
theorem boot_any' : bootBuiltins "any" = some (.builtin "any") := by decide +kernel
theorem pe_allGn {p pos : Pos} (hc : X.calm = true) (hN : X.N.Nodup) (hr : Room (k + 1) X.A) (hg : Gl X "all") (hm : X.mg "all" = none) (hi : PI X tg iter wi) (ok : GnOk X.N X.env.scope scope own) (TB : GxR.TabB X.base X.mg c P) (hcode : X.env.code = .ref c)
    (pg : ∀ (A : Around) (s : Shared) (H : Hp) (C : Addr) (fp : List Addr) (code : Value), Room k A → PG (gnX X A s H scope (genEnv scope (cloFrom X.env.cells scope.names []) C code builtinsNs X.env) fp) tg g)
    (pe : ∀ (A : Around) (s : Shared) (H : Hp) (C : Addr) (fp : List Addr) (code : Value), Room k A → PE (gnX X A s H scope (genEnv scope (cloFrom X.env.cells scope.names []) C code builtinsNs X.env) fp) elt te)
    (hs : ∀ x, genFold iter X.env x = pure x)
    (he : starEach [.GeneratorExp elt [⟨tg, iter, [], 0⟩] scope gpos] X.env = (false, eval (.GeneratorExp elt [⟨tg, iter, [], 0⟩] scope gpos) X.env) :: starEach [] X.env := by rfl) :
    PE X (.Call (.Name "all" p) [.GeneratorExp elt [⟨tg, iter, [], 0⟩] scope gpos] [] pos) (tGn P true wi g te (own.map (·.2))) := by
  refine ⟨fun pins s σ H Q I h => ?_⟩
  refine wpAny_Call_Name_kw (ld_blt I hg hm boot_all' ?_)
  refine PyProof.Rows.callWith_builtin1 ?_ he (by rfl)
  rw [he]
  show wpAny _ _ (spliced ((false, eval (.GeneratorExp elt [⟨tg, iter, [], 0⟩] scope gpos) X.env) :: backTo pos (starEach [] X.env))) _ _ s
  refine Calls.spliced_cons (gn_core (pins := pins) (σ := σ) hc hN hr I hi ok TB hcode pg pe hs h fun Xg a bo gi n s5 hgen hbo back hG => ?_)
  refine Calls.spliced_nil ?_
  refine call_function_tree F.kind_all F.plain_all F.entry_all (F.args_all1 _) ?_
  unfold Builtin.«all»
  refine wpAny_bind (m := oneArg "all" _) (wpAny_pure ?_)
  refine wpAny_bind (wpAny_pyIter_gen hgen ?_)
  refine wpAny_pure ⟨plainId_quiet F.plain_all_loop _, all_gn (X := X) (pins := pins) (σ := σ) hr.hd (by have := hr.dp; omega) hbo back (fun s' H I' q => ?_) (fun s' H I' q => ?_) n s5 hG⟩
  · exact ⟨.bl _, H, I', rfl, q⟩
  · exact ⟨.bl _, H, I', rfl, q⟩
theorem pe_anyGn {p pos : Pos} (hc : X.calm = true) (hN : X.N.Nodup) (hr : Room (k + 1) X.A) (hg : Gl X "any") (hm : X.mg "any" = none) (hi : PI X tg iter wi) (ok : GnOk X.N X.env.scope scope own) (TB : GxR.TabB X.base X.mg c P) (hcode : X.env.code = .ref c)
    (pg : ∀ (A : Around) (s : Shared) (H : Hp) (C : Addr) (fp : List Addr) (code : Value), Room k A → PG (gnX X A s H scope (genEnv scope (cloFrom X.env.cells scope.names []) C code builtinsNs X.env) fp) tg g)
    (pe : ∀ (A : Around) (s : Shared) (H : Hp) (C : Addr) (fp : List Addr) (code : Value), Room k A → PE (gnX X A s H scope (genEnv scope (cloFrom X.env.cells scope.names []) C code builtinsNs X.env) fp) elt te)
    (hs : ∀ x, genFold iter X.env x = pure x)
    (he : starEach [.GeneratorExp elt [⟨tg, iter, [], 0⟩] scope gpos] X.env = (false, eval (.GeneratorExp elt [⟨tg, iter, [], 0⟩] scope gpos) X.env) :: starEach [] X.env := by rfl) :
    PE X (.Call (.Name "any" p) [.GeneratorExp elt [⟨tg, iter, [], 0⟩] scope gpos] [] pos) (tGn P false wi g te (own.map (·.2))) := by
  refine ⟨fun pins s σ H Q I h => ?_⟩
  refine wpAny_Call_Name_kw (ld_blt I hg hm boot_any' ?_)
  refine PyProof.Rows.callWith_builtin1 ?_ he (by rfl)
  rw [he]
  show wpAny _ _ (spliced ((false, eval (.GeneratorExp elt [⟨tg, iter, [], 0⟩] scope gpos) X.env) :: backTo pos (starEach [] X.env))) _ _ s
  refine Calls.spliced_cons (gn_core (pins := pins) (σ := σ) hc hN hr I hi ok TB hcode pg pe hs h fun Xg a bo gi n s5 hgen hbo back hG => ?_)
  refine Calls.spliced_nil ?_
  refine call_function_tree F.kind_any F.plain_any F.entry_any (F.args_any1 _) ?_
  unfold Builtin.«any»
  refine wpAny_bind (m := oneArg "any" _) (wpAny_pure ?_)
  refine wpAny_bind (wpAny_pyIter_gen hgen ?_)
  refine wpAny_pure ⟨plainId_quiet F.plain_any_loop _, any_gn (X := X) (pins := pins) (σ := σ) hr.hd (by have := hr.dp; omega) hbo back (fun s' H I' q => ?_) (fun s' H I' q => ?_) n s5 hG⟩
  · exact ⟨.bl _, H, I', rfl, q⟩
  · exact ⟨.bl _, H, I', rfl, q⟩
end
end Pl
set_option Elab.async false
set_option linter.all false
set_option maxRecDepth 100000
set_option maxHeartbeats 4000000
set_option autoImplicit false
namespace Pl
open PySem PySem.Spec PyProof.Rows L2
/-! ### the rules for all and any of a generator expression -/
def gnOkB (N : List Str) (sc scope : Scope) (own : List (Str × Nat)) : Bool :=
  (match scope.kind with | .function => true | _ => false) && !scope.isCoroutine && (scope.names.all fun y => match y.2 with | .cell => false | _ => true) && decide (scope.names.lookup (".0" : Str) = some NameKind.local) && (own.all fun p => decide (N[p.2]? = some p.1)) &&
    (scope.names.all fun y => match y.2 with
      | .free => (match sc.names.lookup y.1 with | some .cell => true | some .free => true | _ => false)
      | .local => decide (y.1 ∈ own.map (·.1)) || decide (y.1 ∉ N)
      | _ => true)
theorem gnOk_by {N : List Str} {sc scope : Scope} {own : List (Str × Nat)} (h : gnOkB N sc scope own = true) : GnOk N sc scope own := by
  unfold gnOkB at h
  simp only [Bool.and_eq_true, List.all_eq_true, decide_eq_true_eq, Bool.not_eq_true'] at h
  obtain ⟨⟨⟨⟨⟨h1, h2⟩, h3⟩, h4⟩, h5⟩, h6⟩ := h
  refine ⟨?_, h2, fun y hy e => ?_, h4, h5, fun y hy e => ?_, fun y hy e => ?_⟩
  · split at h1
    · assumption
    · cases h1
  · have q := h3 y hy
    simp only [e] at q
    cases q
  · have q := h6 y hy
    simp only [e] at q
    split at q <;> first | exact .inl (by assumption) | exact .inr (by assumption) | cases q
  · have q := h6 y hy
    simp only [e, Bool.or_eq_true, decide_eq_true_eq] at q
    exact q
def Cc.gen (c : Cc) (scope : Scope) (k : Nat) : Cc := ⟨c.m, c.N, scope, fun x => scope.names.lookup x == some .cell, k, false⟩
theorem Cc.Has.gen {c : Cc} {X : Cx} (hX : c.Has X) (A : Around) (s : Shared) (H : Hp) (scope : Scope) (cl : List (Str × Addr)) (C : Addr) (code : Value) (bi : Addr) (fp : List Addr) {k : Nat} (hr : Room k A) : (c.gen scope k).Has (gnX X A s H scope (genEnv scope cl C code bi X.env) fp) where
  prog := hX.prog
  w := hX.w
  K := hX.K
  mg := hX.mg
  base := hX.base
  N := hX.N
  sc := rfl
  fn := rfl
  calm := hX.calm
  room := hr
  xe := rfl
  tab := fun h => by cases h
theorem tab_grow {T : Addr → Prop} {F H H2 : Hp} {P : Addr} (hF : TabF T F) (hT : T P) (s : Same F H) (h : GxR.Tabbed P H H2) : ∃ F2, Grow F H F2 H2 := by
  obtain ⟨ps, e, ok⟩ := hF.2 P hT
  obtain ⟨qs, e1, ok1⟩ := s P _ e
  obtain ⟨⟨rs, e2, ok2⟩, rest⟩ := h
  refine ⟨upd F P (.tbl rs), fun b o q => ?_, fun b o q => ?_, fun b o q => ?_, fun a h1 h2 => ?_, fun z => z.upd rfl⟩
  · by_cases hb : b = P
    · subst hb
      rw [e] at q; cases q
      exact ⟨rs, upd_same, fun _ => ok2⟩
    · rw [upd_ne hb]; exact .of q
  · by_cases hb : b = P
    · subst hb
      rw [upd_same] at q; cases q
      exact .of e2
    · rw [upd_ne hb] at q
      rw [rest b hb]
      exact s _ _ q
  · by_cases hb : b = P
    · subst hb
      rw [e1] at q; cases q
      exact ⟨rs, e2, fun _ => ok2⟩
    · rw [rest b hb]; exact .of q
  · by_cases hb : a = P
    · subst hb; rw [e] at h1; cases h1
    · rw [upd_ne hb] at h2; exact absurd h1 h2
theorem tab_G {T : Addr → Prop} {F H : Hp} {P : Addr} (hF : TabF T F) (hT : T P) (s : Same F H) : GxR.TabG H P := by
  obtain ⟨ps, e, ok⟩ := hF.2 P hT
  obtain ⟨qs, e1, ok1⟩ := s P _ e
  exact ⟨qs, e1, ok1 ok⟩
section
variable {c : Cc} {sp : List Sl} {Q : D → Prop} {e : Expr} {pos p : Pos}
/-- the turns: p i tells what the i-th element is -/
def GnQ (c' : Cc) (cont : Bool) (tg elt : Expr) (ws : List Nat) (sp' : List Sl) (Q : D → Prop) (ds : List D) : Prop :=
  ∃ p : Nat → Bool, (∀ i d, ds[i]? = some d → (∀ j, j < i → p j = cont) → Asg c' tg ws d sp' fun sp2 => E c' elt sp2 fun z => z = .bool (p i)) ∧
    ((∀ j, j < ds.length → p j = cont) → Q (.bool cont)) ∧ (∀ i, i < ds.length → p i = !cont → Q (.bool !cont))
def GnP (c : Cc) (cont : Bool) (elt tg it : Expr) (scope : Scope) (own : List (Str × Nat)) (ws : List Nat) (k : Nat) (sp : List Sl) (Q : D → Prop) : Prop :=
  W c tg it sp fun ds => GnQ (c.gen scope k) cont tg elt ws (wipeS sp (own.map (·.2))) Q ds
abbrev gnE (X : Cx) (scope : Scope) (C : Addr) (code : Value) : Env := genEnv scope (cloFrom X.env.cells scope.names []) C code builtinsNs X.env
def gN (X : Cx) (scope : Scope) (k : Nat) (tg : Expr) : TG := fun v σ H Q => ∀ (A : Around) (s0 : Shared) (H0 : Hp) (C : Addr) (fp : List Addr) (code : Value), Room k A → tG (gnX X A s0 H0 scope (gnE X scope C code) fp) tg v σ H Q
def teN (X : Cx) (scope : Scope) (k : Nat) (elt : Expr) : TE := fun σ H Q => ∀ (A : Around) (s0 : Shared) (H0 : Hp) (C : Addr) (fp : List Addr) (code : Value), Room k A → tE (gnX X A s0 H0 scope (gnE X scope C code) fp) elt σ H Q
theorem gn_read {cont : Bool} {elt tg it : Expr} {scope : Scope} {own : List (Str × Nat)} {ws : List Nat} {k : Nat} (hw : ∀ j ∈ ws, j ∈ own.map (·.2)) (h : GnP c cont elt tg it scope own ws k sp Q)
    {X : Cx} (hX : c.Has X) {G F0 F H : Hp} {σ : L2.St} (r : SR c.m.T c.m.K G F0 F H sp σ) {R : VK} (kk : ∀ d v F' H', Q d → Grow F H F' H' → Dp c.m.K F' v d → R v H') {P : Addr} (hP : c.m.T P) :
    tGn P cont (tI X tg it) (gN X scope k tg) (teN X scope k elt) (own.map (·.2)) σ H R := by
  refine Sealed.run h X hX G F0 F H σ r _ fun J ds F1 H1 q g1 w => ?_
  obtain ⟨p, step, fin, out⟩ := q
  have r1 := r.grow g1
  refine ⟨tab_G r1.tab hP r1.sf, fun H2 hTb => ?_⟩
  obtain ⟨F2, g2⟩ := tab_grow r1.tab hP r1.sf hTb
  refine ⟨fun i m H' => i + m = ds.length ∧ (∀ j, j < i → p j = cont) ∧ ∃ F', Grow F1 H1 F' H' ∧ SR c.m.T c.m.K G F0 F' H' (wipeS sp (own.map (·.2))) (wipe σ (own.map (·.2))),
    ⟨ds.length, by omega, fun j hj => absurd hj (Nat.not_lt_zero _), F2, g2, (r1.grow g2).wipe _⟩, ?_⟩
  rintro i m H' ⟨hm, hp, F', gr, r'⟩
  by_cases hlt : i < ds.length
  · have hd : ds[i]? = some ds[i] := List.getElem?_eq_getElem hlt
    obtain ⟨q1, q2⟩ := w.go F' H' i _ gr.f gr.fh hd
    refine .inr ⟨q1, fun x H'' y => ?_⟩
    obtain ⟨F'', g3, dx⟩ := q2 x H'' y
    intro A s0 H0 C fp code hr
    refine step i _ hd hp _ (hX.gen A s0 H0 scope _ C code builtinsNs fp hr) G F0 F'' H'' _ x (r'.grow g3) dx _ fun sp2 F3 H3 σ2 q3 g4 r2 off => ?_
    refine ⟨wipe_eq off.1 hw (off.2.trans (wipe_length _ _)), fun A1 s1 H1' C1 fp1 code1 hr1 => ?_⟩
    refine q3 _ (hX.gen A1 s1 H1' scope _ C1 code1 builtinsNs fp1 hr1) G F0 F3 H3 σ2 r2 _ fun z vz F4 H4 q4 g5 dz => ?_
    subst q4
    cases dz
    refine ⟨p i, rfl, ?_⟩
    have gall : Grow F1 H1 F4 H4 := ((gr.trans g3).trans g4).trans g5
    by_cases hpi : p i = cont
    · rw [if_pos hpi]
      refine ⟨m - 1, by omega, by omega, fun j hj => ?_, F4, gall, ((r'.grow g3).grow g4).grow g5⟩
      by_cases e : j = i
      · subst e; exact hpi
      · exact hp j (by omega)
    · rw [if_neg hpi]
      exact kk _ _ F4 H4 (out i hlt (by cases hc : cont <;> cases hq : p i <;> simp_all)) (g1.trans gall) (.bl _)
  · have e : i = ds.length := by omega
    subst e
    exact .inl ⟨w.stop F' H' _ gr.f gr.fh (Nat.le_refl _), kk _ _ F' H' (fin hp) (g1.trans gr) (.bl _)⟩
theorem E_allG {elt tg it : Expr} {scope : Scope} {gpos : Pos} (own : List (Str × Nat)) (ws : List Nat) {k : Nat} (hm : c.m.mg "all" = none) (hN : c.N.Nodup) (ok : gnOkB c.N c.sc scope own = true) (hw : ∀ j ∈ ws, j ∈ own.map (·.2))
    (h : GnP c true elt tg it scope own ws k sp Q) (hk : c.k = k + 1 := by rfl) (htb : c.tb = true := by rfl) (hg : GlS c.sc "all" := by rfl) (hs : ∀ env x, genFold it env x = pure x := by intro _ _; rfl)
    (he : ∀ env, starEach [.GeneratorExp elt [⟨tg, it, [], 0⟩] scope gpos] env = (false, eval (.GeneratorExp elt [⟨tg, it, [], 0⟩] scope gpos) env) :: starEach [] env := by intro _; rfl) :
    E c (.Call (.Name "all" p) [.GeneratorExp elt [⟨tg, it, [], 0⟩] scope gpos] [] pos) sp Q := Sealed.of fun X hX G F0 F H σ r R kk => by
  obtain ⟨cc, P, hcode, TB, hP⟩ := hX.tab htb
  exact PE_tE (pe_allGn (own := own) (wi := tI X tg it) (g := gN X scope k tg) (te := teN X scope k elt) hX.calm (by rw [hX.N]; exact hN) (by rw [← hk]; exact hX.room) (hg.gl hX) (by rw [hX.mg]; exact hm) pi_tI (by rw [hX.N, hX.sc]; exact gnOk_by ok) (by rw [hX.base, hX.mg]; exact TB) hcode
    (fun A s0 H0 C fp code hr => ⟨fun pins s σ H v u Q I r h => h A s0 H0 C fp code hr pins s u I r⟩) (fun A s0 H0 C fp code hr => ⟨fun pins s σ H Q I h => h A s0 H0 C fp code hr pins s I⟩) (hs _) (he _)) (gn_read hw h hX r kk hP)
theorem E_anyG {elt tg it : Expr} {scope : Scope} {gpos : Pos} (own : List (Str × Nat)) (ws : List Nat) {k : Nat} (hm : c.m.mg "any" = none) (hN : c.N.Nodup) (ok : gnOkB c.N c.sc scope own = true) (hw : ∀ j ∈ ws, j ∈ own.map (·.2))
    (h : GnP c false elt tg it scope own ws k sp Q) (hk : c.k = k + 1 := by rfl) (htb : c.tb = true := by rfl) (hg : GlS c.sc "any" := by rfl) (hs : ∀ env x, genFold it env x = pure x := by intro _ _; rfl)
    (he : ∀ env, starEach [.GeneratorExp elt [⟨tg, it, [], 0⟩] scope gpos] env = (false, eval (.GeneratorExp elt [⟨tg, it, [], 0⟩] scope gpos) env) :: starEach [] env := by intro _; rfl) :
    E c (.Call (.Name "any" p) [.GeneratorExp elt [⟨tg, it, [], 0⟩] scope gpos] [] pos) sp Q := Sealed.of fun X hX G F0 F H σ r R kk => by
  obtain ⟨cc, P, hcode, TB, hP⟩ := hX.tab htb
  exact PE_tE (pe_anyGn (own := own) (wi := tI X tg it) (g := gN X scope k tg) (te := teN X scope k elt) hX.calm (by rw [hX.N]; exact hN) (by rw [← hk]; exact hX.room) (hg.gl hX) (by rw [hX.mg]; exact hm) pi_tI (by rw [hX.N, hX.sc]; exact gnOk_by ok) (by rw [hX.base, hX.mg]; exact TB) hcode
    (fun A s0 H0 C fp code hr => ⟨fun pins s σ H v u Q I r h => h A s0 H0 C fp code hr pins s u I r⟩) (fun A s0 H0 C fp code hr => ⟨fun pins s σ H Q I h => h A s0 H0 C fp code hr pins s I⟩) (hs _) (he _)) (gn_read hw h hX r kk hP)
/-- over the list xs -/
theorem Gn_all {α : Type} {c' : Cc} {tg elt : Expr} {ws : List Nat} {sp' : List Sl} {ds : List D} (xs : List α) (enc : α → D) (f : α → Bool) (hds : ds = xs.map enc)
    (step : ∀ i x, xs[i]? = some x → (∀ y ∈ xs.take i, f y = true) → Asg c' tg ws (enc x) sp' fun sp2 => E c' elt sp2 fun z => z = .bool (f x)) (q : Q (.bool (xs.all f))) : GnQ c' true tg elt ws sp' Q ds := by
  subst hds
  refine ⟨fun i => match xs[i]? with | some x => f x | none => true, fun i d hd hp => ?_, fun h => ?_, fun i hi h => ?_⟩
  · rw [List.getElem?_map] at hd
    cases hx : xs[i]? with
    | none => rw [hx] at hd; cases hd
    | some x =>
      rw [hx] at hd
      cases hd
      simp only [hx]
      refine step i x hx fun y hy => ?_
      obtain ⟨j, hj, rfl⟩ := List.mem_iff_getElem.mp hy
      have hj2 : j < i := by rw [List.length_take] at hj; omega
      have hj3 : j < xs.length := by rw [List.length_take] at hj; omega
      have := hp j hj2
      simp only [List.getElem?_eq_getElem hj3] at this
      rw [List.getElem_take]
      exact this
  · have e : xs.all f = true := List.all_eq_true.mpr fun x hx => by
      obtain ⟨j, hj, rfl⟩ := List.mem_iff_getElem.mp hx
      have := h j (by rw [List.length_map]; exact hj)
      simpa only [List.getElem?_eq_getElem hj] using this
    rw [e] at q
    exact q
  · rw [List.length_map] at hi
    simp only [List.getElem?_eq_getElem hi] at h
    have e : xs.all f = false := by
      rw [Bool.eq_false_iff]
      intro z
      have := List.all_eq_true.mp z _ (List.getElem_mem hi)
      rw [this] at h
      cases h
    rw [e] at q
    exact q
theorem Gn_any {α : Type} {c' : Cc} {tg elt : Expr} {ws : List Nat} {sp' : List Sl} {ds : List D} (xs : List α) (enc : α → D) (f : α → Bool) (hds : ds = xs.map enc)
    (step : ∀ i x, xs[i]? = some x → (∀ y ∈ xs.take i, f y = false) → Asg c' tg ws (enc x) sp' fun sp2 => E c' elt sp2 fun z => z = .bool (f x)) (q : Q (.bool (xs.any f))) : GnQ c' false tg elt ws sp' Q ds := by
  subst hds
  refine ⟨fun i => match xs[i]? with | some x => f x | none => false, fun i d hd hp => ?_, fun h => ?_, fun i hi h => ?_⟩
  · rw [List.getElem?_map] at hd
    cases hx : xs[i]? with
    | none => rw [hx] at hd; cases hd
    | some x =>
      rw [hx] at hd
      cases hd
      simp only [hx]
      refine step i x hx fun y hy => ?_
      obtain ⟨j, hj, rfl⟩ := List.mem_iff_getElem.mp hy
      have hj2 : j < i := by rw [List.length_take] at hj; omega
      have hj3 : j < xs.length := by rw [List.length_take] at hj; omega
      have := hp j hj2
      simp only [List.getElem?_eq_getElem hj3] at this
      rw [List.getElem_take]
      exact this
  · have e : xs.any f = false := by
      rw [List.any_eq_false]
      intro x hx
      obtain ⟨j, hj, rfl⟩ := List.mem_iff_getElem.mp hx
      have := h j (by rw [List.length_map]; exact hj)
      simp only [List.getElem?_eq_getElem hj] at this
      rw [this]
      exact Bool.false_ne_true
    rw [e] at q
    exact q
  · rw [List.length_map] at hi
    simp only [List.getElem?_eq_getElem hi] at h
    have e : xs.any f = true := List.any_eq_true.mpr ⟨_, List.getElem_mem hi, h⟩
    rw [e] at q
    exact q
end
end Pl
set_option Elab.async false
set_option linter.all false
set_option maxRecDepth 100000
set_option maxHeartbeats 4000000
set_option autoImplicit false
namespace Pl
open PySem PySem.Spec PyProof.Rows L2
/-! ### defs that hold generator expressions -/
theorem fnok_mkT {m : Md} {x qual : Str} {st : Stmt} {f : Addr} {fd : FuncData} {N ps : List Str} {k n : Nat} {Sp : List D → (D → Prop) → Prop} (Fn : Fun m.K x qual st f fd) (hT : ∃ cc P : Addr, fd.code = .ref cc ∧ GxR.TabB m.base m.mg cc P ∧ m.T P) (Sc : FnScope N ps (defScope st)) (hn : ps.length = n)
    (body : ∀ ds (Q : D → Prop), Sp ds Q → S ⟨m, N, defScope st, fun _ => true, k, true⟩ (defBody st) (start0 N ds) { nx := fun _ => Q .none, rt := Q }) : FnOk m.P m.w m.K m.mg m.base CX0 (k + 1) f fd ps (spOf m.T m.K n Sp) := by
  obtain ⟨cc, P, hc, hTB, hTP⟩ := hT
  obtain ⟨oc, od, kV, doc, pm, an, cdv, ct, osl, rfl, lk, hcd⟩ := Fn.ex
  have hc : cdv = .ref cc := hc
  subst hc
  refine fn_of lk hcd Sc (fun vs H Q E h => ?_) fun A outer s H vs Q E hr h => ?_
  · obtain ⟨F, ds, _, _, h3, _⟩ := h
    rw [h3, hn]
  · obtain ⟨F, ds, h1, h2, h3, h4⟩ := h
    have hX : Cc.Has ⟨m, N, defScope st, fun _ => true, k, true⟩ ((cxOf CX0 m.P m.w m.K m.mg m.base N qual (defScope st) f (.ref cc) A outer s H E).nox) :=
      ⟨rfl, rfl, rfl, rfl, rfl, rfl, rfl, rfl, rfl, hr, rfl, fun _ => ⟨cc, P, rfl, hTB, hTP⟩⟩
    refine ⟨_, PSs.nox pss_t, body ds _ h4 _ hX H F F H _ (sr_start h1.1 h1.2 h2) _ ⟨fun sp F' H' σ q r => ?_, fun d v F' H' q kp hd => ?_, fun _ _ _ _ q => q.elim, fun _ _ _ _ q => q.elim⟩⟩
    · exact q .non F' H' ⟨r.f0, r.sf, r.g, r.fr, fun _ => r.tab.1⟩ .non
    · exact q v F' H' ⟨kp.f0, kp.fh, kp.g, kp.fr, fun _ => kp.nf⟩ hd
theorem Fd.mkT {m : Md} {x qual : Str} {st : Stmt} {f : Addr} {fd : FuncData} {N ps : List Str} {k n : Nat} {Sp : List D → (D → Prop) → Prop} (Fn : Fun m.K x qual st f fd) (hT : ∃ cc P : Addr, fd.code = .ref cc ∧ GxR.TabB m.base m.mg cc P ∧ m.T P) (hm : m.mg x = some (.ref f)) (Sc : FnScope N ps (defScope st)) (hb : Binds m.K fd ps []) (hn : ps.length = n)
    (mono : ∀ ds (Q Q' : D → Prop), (∀ d, Q d → Q' d) → Sp ds Q → Sp ds Q') (len : ∀ ds (Q : D → Prop), Sp ds Q → ds.length = n)
    (body : ∀ ds (Q : D → Prop), Sp ds Q → S ⟨m, N, defScope st, fun _ => true, k, true⟩ (defBody st) (start0 N ds) { nx := fun _ => Q .none, rt := Q }) : Fd m x (k + 1) n Sp :=
  ⟨⟨f, fd, ps, fnok_mkT Fn hT Sc hn body, hm, Fn.kp, hb⟩, mono, len⟩
/-! ### the end -/
/-- of the defs named in xs: the code object, its empty table -/
def TabsOf (xs : List Str) (K : PySem.W.Frag) (mg : Str → Option Value) (h : Heap) : Prop := ∀ (x : Str) (f : Addr) (oc : Value) (od : Option Addr) (fd : FuncData) (sl : Array (Option Value)), x ∈ xs → mg x = some (.ref f) → K.lookup f = some ⟨oc, od, .func fd, sl⟩ →
  ∃ cc P : Addr, fd.code = .ref cc ∧ PySem.W.CodeHd h cc P ∧ h.get? P = some { cls := .none, data := .fields #[] } ∧ K.lookup P = none
theorem mem_frag {a : Addr} {o : Obj} : ∀ {K : List (Addr × Obj)}, K.lookup a = some o → (a, o) ∈ K
  | [], h => by cases h
  | (b, u) :: r, h => by
    rw [List.lookup_cons] at h
    by_cases e : a = b
    · subst e
      simp at h; subst h; exact List.mem_cons_self
    · rw [show (a == b) = false from beq_eq_false_iff_ne.mpr e] at h
      exact List.mem_cons_of_mem _ (mem_frag h)
def bareObj (o : Obj) : Bool := match o.data with | .fields vs => vs.isEmpty | _ => false
theorem walk_ofTabs {l : PySem.W.OpenLaw} {n k : Nat} {q : Program} {loose : List Str} {XP : (Str → Option Value) → Heap → Prop} {YP : World → Heap → Prop} {d : DefRec} {K : Params → PySem.W.Frag} {CX : World → CXT} {x : Str} (xs : List Str)
    (hn : l.most = some n) (hn2 : n ≤ sizeLine) (hdf : d.params.defaults = []) (hr : Room k callerA) (hrec : (xs.all fun x => (recsOf q).any fun e => e.name == x) = true) (hY : ∀ (w : World) (h : Heap), YP w h → (K w.params).In h)
    (hK : ∀ w : World, ((K w.params).any fun p => bareObj p.2) = false)
    (F : ∀ (w : World) (mg : Str → Option Value) (fa : Addr) (h : Heap), (K w.params).In h → h.Ns mainGlobals mg → mg d.name = some (.ref fa) → TabsOf xs (K w.params) mg h → LamX.LawAtS l w (K w.params) (CX w) k n x mg fa h)
    (hCX : ∀ (w : World) (H : Hp) (s : Shared) (e : Value) (s' : Shared), CX w [] H s (fun _ _ _ => False) e s' → False) :
    PySem.W.WalkO q loose XP YP l.row.toRowW d [] (fun f vs => PySem.call f vs) := by
  refine Att.attach_callB hn hdf fun w s₀ s₁ mg mb fa o pm cd doc a vs ns G Y ho hd hcd hmg hobj hints hlen hbits hg => ?_
  have KX := hY w _ Y
  have own : TabsOf xs (K w.params) mg s₁.heap := fun x f oc od fd sl hx h1 h2 => by
    obtain ⟨dL, hm, hn1⟩ := List.any_eq_true.mp (List.all_eq_true.mp hrec x hx)
    have hn2 : dL.name = x := beq_iff_eq.mp hn1
    obtain ⟨a', o', fd', c', P', g1, g2, g3, g4, g5, g6⟩ := G.T.tab dL hm
    rw [hn2, h1] at g1
    cases g1
    have e2 := KX _ _ h2
    rw [e2] at g2
    cases g2
    cases g3
    refine ⟨c', P', g4, .of g5 g6, g6.2, ?_⟩
    cases q : (K w.params).lookup P' with
    | none => rfl
    | some o =>
      have e3 := KX _ _ q
      rw [g6.2] at e3
      cases e3
      have := List.any_eq_false.mp (hK w) (P', _) (mem_frag q)
      exact absurd rfl this
  obtain ⟨fd, cs, sp, hT, nT, C, hb, hsp, hF⟩ := F w mg fa _ KX G.T.g hmg own
  exact LamX.law_callTs KX G.T.g G.T.b G.T.builtins G.T.nolimit hg hT nT C G.T.bmain hobj hints (Nat.le_trans hlen hn2) hr hF hb (fun H hH hS => hsp H a ns hlen hbits hH hS) fun H e s' => hCX w H s₁ e s'
theorem tabF_of {cs : List (Addr × Addr)} {H : Hp} (h : ∀ p ∈ cs, H p.2 = some (.tbl #[])) : ∀ P, P ∈ cs.map (·.2) → ∃ ps : Array Value, H P = some (.tbl ps) ∧ TriplesOk ps.toList := fun P hP => by
  obtain ⟨p, hp, rfl⟩ := List.mem_map.mp hP
  exact ⟨#[], h p hp, trivial⟩
theorem tabG_of {base : Heap} {mg : Str → Option Value} {cc P : Addr} (h : LamX.TabB base mg cc P) : GxR.TabB base mg cc P := ⟨h.code, h.bm, h.gP⟩
theorem all_nil {α : Type} {R : α → Prop} : ∀ p ∈ ([] : List α), R p := fun p h => by cases h
theorem all_cons {α : Type} {R : α → Prop} {a : α} {xs : List α} (h : R a) (t : ∀ p ∈ xs, R p) : ∀ p ∈ a :: xs, R p := fun p hp => by
  rcases List.mem_cons.mp hp with rfl | hp
  · exact h
  · exact t p hp
/-- the law's promise -/
theorem lawAt_of {l : PySem.W.OpenLaw} {w : World} {K : PySem.W.Frag} {k : Nat} {mg : Str → Option Value} {fa : Addr} {h : Heap} (fd : FuncData) (cs : List (Addr × Addr))
    (hc : ∀ p ∈ cs, PySem.W.CodeHd h p.1 p.2 ∧ h.get? p.2 = some { cls := .none, data := .fields #[] } ∧ K.lookup p.2 = none) (hb : ∀ (s : Shared) (u : Value), BindsTo s fd ⟨[u], []⟩ [("script", u)])
    (F : ∀ base : Heap, K.In base → base.Ns mainGlobals mg → (∀ p ∈ cs, GxR.TabB base mg p.1 p.2) → FnOk l.prog w K mg base CX0 k fa fd ["script"] (spLaw (fun a => a ∈ cs.map (·.2)) K)) : LamX.LawAtS l w K CX0 k 63 "script" mg fa h :=
  ⟨fd, cs, spLaw (fun a => a ∈ cs.map (·.2)) K, fun p hp => (hc p hp).2.1, fun p hp => (hc p hp).2.2, fun p hp => (hc p hp).1, hb, fun H a ns hl _ hH hS => spLaw_ok _ _ H (tabF_of hH) a ns hl hS, fun base h1 h2 h3 => F base h1 h2 fun p hp => tabG_of (h3 p hp)⟩
end Pl
set_option Elab.async false
set_option linter.all false
set_option maxRecDepth 100000
set_option maxHeartbeats 4000000
set_option autoImplicit false
namespace Pl
open PySem PySem.Spec PyProof.Rows L2
theorem gcdZ_mod {a b : Int} (ha : 0 ≤ a) (hb : 0 < b) : gcdZ b (a % b) = gcdZ a b := by
  obtain ⟨x, rfl⟩ := Int.eq_ofNat_of_zero_le ha
  obtain ⟨y, rfl⟩ := Int.eq_ofNat_of_zero_le (Int.le_of_lt hb)
  show ((Nat.gcd (y : Int).natAbs (((x % y : Nat)) : Int).natAbs : Nat) : Int) = ((Nat.gcd (x : Int).natAbs (y : Int).natAbs : Nat) : Int)
  simp only [Int.natAbs_natCast]
  rw [Nat.gcd_comm x y, Nat.gcd_rec y x, Nat.gcd_comm]
theorem gcdZ_zero {a : Int} (ha : 0 ≤ a) : gcdZ a 0 = a := by
  unfold gcdZ
  simp
  omega
theorem at_mapD {α : Type} {f : α → D} {xs : List α} {d0 : α} {j : Int} (h0 : 0 ≤ j) (h1 : j < xs.length) : atI (xs.map f) j = some (f (xs.getD j.toNat d0)) := by
  have hl : j.toNat < xs.length := by omega
  rw [atI_of_nonneg h0, List.getElem?_map, List.getElem?_eq_getElem hl, List.getD_eq_getElem?_getD, List.getElem?_eq_getElem hl]
  rfl
theorem getD_mem {α : Type} {xs : List α} {d0 : α} {j : Int} (h0 : 0 ≤ j) (h1 : j < xs.length) : xs.getD j.toNat d0 ∈ xs := by
  have hl : j.toNat < xs.length := by omega
  rw [List.getD_eq_getElem?_getD, List.getElem?_eq_getElem hl]
  exact List.getElem_mem hl
/-! ### slices -/
def cutA {α : Type} (xs : List α) (lo hi : Option Int) : List α := (xs.drop (HT.sIx xs.length 0 lo)).take (HT.sIx xs.length xs.length hi - HT.sIx xs.length 0 lo)
theorem cutA_map {α : Type} (f : α → D) (xs : List α) (lo hi : Option Int) : cutD (xs.map f) lo hi = (cutA xs lo hi).map f := by
  unfold cutD cutA
  rw [List.length_map, ← List.map_drop, ← List.map_take]
theorem cutA_len {α : Type} (xs : List α) (lo hi : Option Int) : (cutA xs lo hi).length ≤ xs.length := by
  unfold cutA
  rw [List.length_take, List.length_drop]; omega
theorem cutA_lo {α : Type} {xs : List α} {m : Int} (h0 : 0 ≤ m) (h1 : m ≤ xs.length) : cutA xs none (some m) = xs.take m.toNat := by
  obtain ⟨u, rfl⟩ := Int.eq_ofNat_of_zero_le h0
  unfold cutA
  have a2 := HT.sIx_nat xs.length xs.length u
  rw [show HT.sIx xs.length xs.length (some ((u : Nat) : Int)) = min u xs.length from a2, Nat.min_eq_left (by omega), show HT.sIx xs.length 0 none = 0 from rfl, List.drop_zero, Nat.sub_zero]
  rfl
theorem cutA_lo' {α : Type} {xs : List α} {m : Int} (h0 : 0 ≤ m) : cutA xs none (some m) = xs.take m.toNat := by
  obtain ⟨u, rfl⟩ := Int.eq_ofNat_of_zero_le h0
  unfold cutA
  have a2 := HT.sIx_nat xs.length xs.length u
  rw [show HT.sIx xs.length xs.length (some ((u : Nat) : Int)) = min u xs.length from a2, show HT.sIx xs.length 0 none = 0 from rfl, List.drop_zero, Nat.sub_zero]
  show xs.take (min u xs.length) = xs.take u
  exact List.take_eq_take_min.symm
theorem cutA_hi {α : Type} {xs : List α} {m : Int} (h0 : 0 ≤ m) (h1 : m ≤ xs.length) : cutA xs (some m) none = xs.drop m.toNat := by
  obtain ⟨u, rfl⟩ := Int.eq_ofNat_of_zero_le h0
  unfold cutA
  have a2 := HT.sIx_nat xs.length 0 u
  rw [show HT.sIx xs.length 0 (some ((u : Nat) : Int)) = min u xs.length from a2, show HT.sIx xs.length xs.length none = xs.length from rfl, Nat.min_eq_left (by omega), List.take_of_length_le (by rw [List.length_drop]; omega)]
  rfl
theorem cutA_hi' {α : Type} {xs : List α} {m : Int} (h0 : 0 ≤ m) : cutA xs (some m) none = xs.drop m.toNat := by
  by_cases h1 : m ≤ xs.length
  · exact cutA_hi h0 h1
  · obtain ⟨u, rfl⟩ := Int.eq_ofNat_of_zero_le h0
    unfold cutA
    have a2 := HT.sIx_nat xs.length 0 u
    rw [show HT.sIx xs.length 0 (some ((u : Nat) : Int)) = min u xs.length from a2, show HT.sIx xs.length xs.length none = xs.length from rfl, Nat.min_eq_right (by omega), List.take_of_length_le (by rw [List.length_drop]; omega), List.drop_of_length_le (Nat.le_refl _), List.drop_of_length_le (by show xs.length ≤ ((u : Int)).toNat; omega)]
theorem cutA_in {α : Type} {xs : List α} {lo hi : Int} (h0 : 0 ≤ lo) (h1 : lo ≤ hi) (h2 : hi ≤ xs.length) : cutA xs (some lo) (some hi) = (xs.drop lo.toNat).take (hi.toNat - lo.toNat) := by
  obtain ⟨l, rfl⟩ := Int.eq_ofNat_of_zero_le h0
  obtain ⟨u, rfl⟩ := Int.eq_ofNat_of_zero_le (show 0 ≤ hi by omega)
  unfold cutA
  have a1 := HT.sIx_nat xs.length 0 l
  have a2 := HT.sIx_nat xs.length xs.length u
  rw [show HT.sIx xs.length 0 (some ((l : Nat) : Int)) = min l xs.length from a1, show HT.sIx xs.length xs.length (some ((u : Nat) : Int)) = min u xs.length from a2, Nat.min_eq_left (by omega), Nat.min_eq_left (by omega)]
  rfl
/-! ### the greatest -/
def mx (ns : List Int) : Int := ns.foldl max 0
theorem mx_up : ∀ (ns : List Int) (a b : Int), a ≤ b → (∀ y ∈ ns, y ≤ b) → ns.foldl max a ≤ b
  | [], _, _, h, _ => h
  | x :: xs, a, b, h, hs => mx_up xs (max a x) b (Int.max_le.mpr ⟨h, hs x List.mem_cons_self⟩) fun y hy => hs y (List.mem_cons_of_mem _ hy)
theorem mx_ge : ∀ (ns : List Int) (a : Int), a ≤ ns.foldl max a ∧ ∀ y ∈ ns, y ≤ ns.foldl max a
  | [], a => ⟨Int.le_refl _, fun y h => by cases h⟩
  | x :: xs, a => by
    obtain ⟨h1, h2⟩ := mx_ge xs (max a x)
    refine ⟨Int.le_trans (Int.le_max_left ..) h1, fun y hy => ?_⟩
    rcases List.mem_cons.mp hy with rfl | hy
    · exact Int.le_trans (Int.le_max_right ..) h1
    · exact h2 y hy
theorem mx_of {ns : List Int} {m : Int} (h : m ∈ ns) (h2 : ∀ y ∈ ns, y ≤ m) (h0 : 0 ≤ m) : m = mx ns :=
  Int.le_antisymm ((mx_ge ns 0).2 m h) (mx_up ns 0 m h0 h2)
theorem rangeI_at {lo : Int} {n i : Nat} (h : i < n) : (rangeI lo n)[i]? = some (lo + (i : Int)) := by
  unfold rangeI
  rw [List.getElem?_map, List.getElem?_range h]; rfl
theorem rangeI_at' {lo : Int} {n i : Nat} {x : Int} (h : (rangeI lo n)[i]? = some x) : i < n ∧ x = lo + (i : Int) := by
  have hl := (List.getElem?_eq_some_iff.mp h).1
  rw [rangeI_len] at hl
  rw [rangeI_at hl] at h
  exact ⟨hl, (Option.some.inj h).symm⟩
/-- None or a number -/
def optI : Option Int → D
  | none => .none
  | some x => .int x
theorem plain_optI {n : Nat} (o : Option Int) : plainD n (optI o) := by cases o <;> cases n <;> trivial
theorem isNon_optI (o : Option Int) : isNon (optI o) = o.isNone := by cases o <;> rfl
/-- xs[0] if len(xs) > 0 else None -/
theorem head_if (xs : List Int) : (if decide (0 < (xs.length : Int)) = true then PyData.int (xs.getD 0 0) else .none) = optI xs.head? := by
  cases xs with
  | nil => rfl
  | cons a l => rw [if_pos (decide_eq_true (by rw [List.length_cons]; omega))]; rfl
section
variable {c : Cc} {Q : D → Prop}
theorem eqv_lst (xs ys : List Int) : PyData.eqv (.list (xs.map .int)) (.list (ys.map .int)) = decide (xs = ys) := by
  rw [PyData.eqv]; exact eqv_ints xs ys
theorem opp_eqL {xs ys : List Int} (q : Q (.bool (decide (xs = ys)))) : OpP c (compareOp .Eq) (.list (xs.map .int)) (.list (ys.map .int)) Q := opp_eq (shaped_intsL _) (shaped_intsL _) (by rw [eqv_lst]; exact q)
theorem opp_neL {xs ys : List Int} (q : Q (.bool (!decide (xs = ys)))) : OpP c (compareOp .NotEq) (.list (xs.map .int)) (.list (ys.map .int)) Q := opp_ne (shaped_intsL _) (shaped_intsL _) (by rw [eqv_lst]; exact q)
end
end Pl
set_option Elab.async false
set_option linter.all false
set_option maxRecDepth 100000
set_option maxHeartbeats 4000000
set_option autoImplicit false
namespace Pl
open PySem PySem.Spec PyProof.Rows L2
/-! ### sorted(set(..)) of any size -/
section
variable {P : Program} {w : World} {A : Around} {E : Value → Shared → Prop} {s : Shared} {a : Addr}
theorem sorted_setN {S : Int → Bool} {n : Nat} {Q : Value → Shared → Prop} (R : SetR w s.heap a S n) (hh : A.handled = none)
    (hQ : ∀ s' p (out : Array Value) (c : Nat) (ns : List Int), (∀ b o, s.heap.get? b = some o → s'.heap.get? b = some o) → s'.gens = s.gens → s'.os = s.os → s.heap.objs.size ≤ p →
      s'.heap.get? p = some (seqObj "list" out c) → IntsAre out.toList ns → ns.Pairwise (· < ·) → (∀ k, k ∈ ns ↔ S k = true) → ns.length = n → ns.length ≤ sizeLine → Q (.ref p) s') :
    wpAny (model P w) A (call (.builtin "sorted") [.ref a]) Q E s := by
  obtain ⟨o, es, ep, t, ho, hex, hd, g, nd, hm, hb, hf, hn, hr, hl⟩ := R
  refine Calls.call_function_entry kind_sorted plain_sorted entry_sorted (args_sorted1 _) ?_
  unfold Builtin.«sorted»
  refine wpAny_bind (m := checkCount "sorted" 1 1 _) (wpAny_pure ?_)
  refine wpAny_bind (collect_set (A := A.in1) hh ⟨o, ho, hex.1, hd⟩ hf hb hr hl fun s1 vs k1 hz g1 o1 pm => ?_)
  have hvl : vs.length = n := by rw [pm.length_eq, List.length_map, Array.length_toList]; exact hn
  have hI : IntsAre vs (vs.map Builtin.Re.reRawOf) := ints_of vs fun v hv => by
    obtain ⟨e, he, q⟩ := List.mem_map.mp (pm.mem_iff.mp hv)
    obtain ⟨k, tk, h1, _⟩ := g e he
    exact ⟨k, tk, by rw [← q]; exact h1⟩
  have pk : (vs.map Builtin.Re.reRawOf).Perm (es.toList.map keyOf) := by
    have q := pm.map Builtin.Re.reRawOf
    rw [List.map_map] at q
    exact q
  have hz2 : vs.length ≤ sizeLine := by
    rw [pm.length_eq, List.length_map, Array.length_toList]
    exact fits_of_scanBound hb
  refine wpAny_bind (wpAny_newList ?_ hz2)
  have hoL : (s1.heap.push (seqObj "list" vs.toArray 0)).get? s1.heap.objs.size = some (seqObj "list" vs.toArray 0) := Heap.get?_push_size _ rfl
  refine wpAny_bind (wpAny_holding (wpAny_call_entry slot_list_sort ⟨_, hoL, rfl⟩ entry_list_sort (SrtO.list_sort_ord SrtO.swo_int hoL hz2 (fun h2 => SrtO.ints_sortable hI h2) fun out q1 q2 => ⟨_, rfl, ?_⟩) (args_list_sort _)))
  obtain ⟨a1, a2, a3⟩ := SrtO.ints_out hI q1 q2
  obtain ⟨c, hc⟩ := sortedHeap_at (vs := vs) (out := out.toArray) hoL
  have pn : (out.map SrtO.iv).Perm (es.toList.map keyOf) := a2.trans pk
  refine wpAny_pure ⟨_, rfl, hQ _ s1.heap.objs.size out.toArray c (out.map SrtO.iv) (fun b u e => ?_) g1 o1 hz hc a1 (lt_of_le_nodup _ a3 (pn.nodup_iff.mpr nd)) (fun k => by rw [pn.mem_iff, ← hm k]) ?_ ?_⟩
  · have q := k1 b u e
    have hlt := Heap.lt_size q
    show (sortedHeap (s1.heap.push (seqObj "list" vs.toArray 0)) s1.heap.objs.size vs out.toArray).get? b = some u
    rw [sortedHeap_old (Nat.ne_of_lt hlt) (by rw [size_push']; exact Nat.lt_succ_of_lt hlt)]
    exact Heap.get?_push_of_some _ q
  · rw [pn.length_eq, List.length_map, Array.length_toList]; exact hn
  · rw [pn.length_eq, List.length_map, Array.length_toList]; exact fits_of_scanBound hb
end
section
variable {X : Cx}
def rSortedSetN (w : World) : List V → Hp → VK → Prop := fun vs H Q => ∃ (a : Addr) (S : Int → Bool) (n : Nat), vs = [V.ref a] ∧ H a = some (SetO w a S n) ∧
  ∀ (ns : List Int) (p : Addr), ns.Pairwise (· < ·) → (∀ k : Int, k ∈ ns ↔ S k = true) → ns.length = n → H p = none → Q (.ref p) (upd H p (.lst (ns.map V.int)))
theorem cr_sortedSetN (hc : X.calm = true) : CallR X (.builtin "sorted") (rSortedSetN X.w) := by
  intro pins s σ H vs us Q I r h
  obtain ⟨a, S, n, rfl, ha, q⟩ := h
  have R := setO_get I ha
  rw [Vals.ref1 r]
  refine sorted_setN R (I.ok.hd hc) fun s' p out c ns k g o hp hg hi hs hm hl hz => ?_
  have hlen : (ns.map V.int).length ≤ sizeLine := by rw [List.length_map]; exact hz
  have hn : H p = none := I.hok.fresh hp
  have J : Inv X pins σ (upd H p (.lst (ns.map V.int))) { s with heap := s'.heap, gens := s'.gens, drawn := s'.drawn, toks := s'.toks } :=
    I.call (ch := []) (Un.laid k hp hn) (I.hok.laid k hp ⟨hlen, out.toList, c, vals_of_ints hi, hg⟩) (by rw [g]; exact I.bare) (fun _ z => nomatch z)
  have e : s' = { s with heap := s'.heap, gens := s'.gens, drawn := s'.drawn, toks := s'.toks } := by
    cases s'
    cases s
    cases o
    rfl
  rw [e]
  exact ⟨.ref p, _, J, rfl, q ns p hs hm hl hn⟩
end
section
variable {c : Cc} {sp : List Sl} {e : Expr} {p p1 pos pos1 : Pos} {QL : List D → Prop}
/-- sorted(set(e)): a new list -/
theorem EF_sortedSetN (h : E c e sp fun d => ∃ ns : List Int, (d = .list (ns.map .int) ∨ d = .tuple (ns.map .int)) ∧ ns.length < 4000 ∧ ∀ ns' : List Int, ns'.Pairwise (· < ·) → (∀ k, k ∈ ns' ↔ k ∈ ns) → ns'.length ≤ ns.length → QL (ns'.map .int))
    (hm : c.m.mg "sorted" = none) (hm1 : c.m.mg "set" = none) (hg : GlS c.sc "sorted" := by rfl) (hg1 : GlS c.sc "set" := by rfl)
    (he1 : ∀ env, starEach [e] env = (false, eval e env) :: starEach [] env := by intro _; rfl)
    (he : ∀ env, starEach [.Call (.Name "set" p1) [e] [] pos1] env = (false, eval (.Call (.Name "set" p1) [e] [] pos1) env) :: starEach [] env := by intro _; rfl)
    (hpl : ∀ env, (backTo pos (starEach [] env)).any (·.1) = false := by intro _; rfl) (hpl1 : ∀ env, (backTo pos1 (starEach [] env)).any (·.1) = false := by intro _; rfl) :
    EF c (.Call (.Name "sorted" p) [.Call (.Name "set" p1) [e] [] pos1] [] pos) sp QL := Sealed.of fun X hX G F0 F H σ r R k => by
  refine PE_tE (pe_callB (cr_sortedSetN hX.calm) (hg.gl hX) (by rw [hX.mg]; exact hm) boot_sorted' (pa_cons (pe_callTy (cr_setL hX.calm) (hg1.gl hX) (by rw [hX.mg]; exact hm1) boot_set (pa_cons pe_tE pa_nil (he1 _)) (by decide) (by decide) (he1 _) (hpl1 _)) pa_nil (he _)) (by decide) (by decide) (he _) (hpl _)) ?_
  refine h X hX G F0 F H σ r _ fun d v F1 H1 q g1 d1 => ?_
  obtain ⟨ns, hd, hl, q⟩ := q
  have hv : ∃ a, v = .ref a ∧ (SqL X.K H1 a (ns.map V.int) ∨ SqT X.K H1 a (ns.map V.int)) := by
    rw [hX.K]
    rcases hd with rfl | rfl
    · obtain ⟨a, vs, rfl, h1, h2⟩ := dp_list d1
      cases dpAll_ints h2
      exact ⟨a, rfl, .inl (g1.fh.seq h1)⟩
    · obtain ⟨a, vs, rfl, h1, h2⟩ := dp_tuple d1
      cases dpAll_ints h2
      exact ⟨a, rfl, .inr (sqT_mono g1.fh h1)⟩
  obtain ⟨a, rfl, hs⟩ := hv
  refine ⟨a, ns, rfl, hs, by unfold scanBound; omega, fun p c2 hp hc2 => ?_⟩
  refine ⟨p, _, c2, rfl, upd_same, fun ns' p2 h1 h2 h3 hp2 => ?_⟩
  have g2 := Grow.out (o := SetO X.w p (fun j => decide (j ∈ ns)) c2) g1.fh hp
  have g3 := Grow.out (o := .lst (ns'.map V.int)) g2.fh hp2
  refine k (ns'.map .int) (ns'.map V.int) p2 F1 _ (q ns' h1 (fun k => by rw [h2, decide_eq_true_iff]) (by omega)) ((g1.trans g2).trans g3) ?_ ?_ upd_same (dpAll_of_ints _)
  · exact (g1.h.trans g2.h).free hp2
  · exact (g1.fh.trans g2.h).free hp2
end
end Pl
set_option Elab.async false
set_option linter.all false
set_option maxRecDepth 100000
set_option maxHeartbeats 4000000
set_option autoImplicit false
namespace Pl
open PySem PySem.Spec PyProof.Rows L2
/-! ### draws, places, and what the laws compare -/
def okDraws (n : Nat) (ns : List Int) : Prop := ns.length = n ∧ ∀ x ∈ ns, 0 ≤ x ∧ x < 5040
theorem okDraws_snoc {n : Nat} {ns : List Int} {x : Int} (h : okDraws n ns) (h0 : 0 ≤ x) (h1 : x < 5040) : okDraws (n + 1) (ns ++ [x]) := by
  refine ⟨by rw [List.length_append, h.1]; rfl, fun y hy => ?_⟩
  rcases List.mem_append.mp hy with hy | hy
  · exact h.2 y hy
  · rw [List.mem_singleton.mp hy]; exact ⟨h0, h1⟩
theorem small_of {n : Nat} (h : n ≤ 100000) : n < sizeLine := Nat.lt_of_le_of_lt h (by decide)
theorem small_le {n : Nat} (h : n ≤ 100000) : n ≤ sizeLine := Nat.le_of_lt (small_of h)
/-- the draw at a place -/
def drawV (ns : List Int) (j : Int) : Int := ns.getD j.toNat 0
theorem at_draw {n : Nat} {ns : List Int} (h : okDraws n ns) {j : Int} (h0 : 0 ≤ j) (h1 : j < n) : atI (ns.map PyData.int) j = some (.int (drawV ns j)) := by
  have hl : j.toNat < ns.length := by rw [h.1]; omega
  unfold drawV
  rw [atI_of_nonneg h0, List.getElem?_map, List.getElem?_eq_getElem hl, List.getD_eq_getElem?_getD, List.getElem?_eq_getElem hl]
  rfl
theorem draw_bd {n : Nat} {ns : List Int} (h : okDraws n ns) {j : Int} (h0 : 0 ≤ j) (h1 : j < n) : 0 ≤ drawV ns j ∧ drawV ns j < 5040 := by
  have hl : j.toNat < ns.length := by rw [h.1]; omega
  unfold drawV
  rw [List.getD_eq_getElem?_getD, List.getElem?_eq_getElem hl]
  exact h.2 _ (List.getElem_mem hl)
theorem cut_draws {n : Nat} {ns : List Int} (h : okDraws n ns) {lo hi : Int} (h0 : 0 ≤ lo) (h1 : lo ≤ hi) (h2 : hi ≤ n) : ∃ ns', cutD (ns.map PyData.int) (some lo) (some hi) = ns'.map PyData.int ∧ okDraws (hi - lo).toNat ns' := by
  refine ⟨(ns.drop lo.toNat).take (hi.toNat - lo.toNat), ?_, ?_, fun x hx => h.2 x (List.mem_of_mem_drop (List.mem_of_mem_take hx))⟩
  · rw [cutD_in h0 h1 (by rw [List.length_map, h.1]; exact h2), ← List.map_drop, ← List.map_take]
  · rw [List.length_take, List.length_drop, h.1]; omega
theorem cut_drawsN {n : Nat} {ns : List Int} (h : okDraws n ns) {lo : Int} (h0 : 0 ≤ lo) (h1 : lo ≤ n) : ∃ ns', cutD (ns.map PyData.int) (some lo) none = ns'.map PyData.int ∧ okDraws (n - lo.toNat) ns' := by
  obtain ⟨l, rfl⟩ := Int.eq_ofNat_of_zero_le h0
  refine ⟨ns.drop l, ?_, ?_, fun x hx => h.2 x (List.mem_of_mem_drop hx)⟩
  · unfold Pl.cutD
    rw [show HT.sIx (ns.map PyData.int).length 0 (some ((l : Nat) : Int)) = min l (ns.map PyData.int).length from HT.sIx_nat _ 0 l, HT.sIx_none, Nat.min_eq_left (by rw [List.length_map, h.1]; omega), ← List.map_drop, ← List.map_take, List.take_of_length_le (by rw [List.length_drop, List.length_map]; omega)]
  · rw [List.length_drop, h.1]; omega
theorem at_ints {xs : List Int} {j : Int} (h0 : 0 ≤ j) (h1 : j < xs.length) : atI (xs.map PyData.int) j = some (.int (xs.getD j.toNat 0)) := by
  have hl : j.toNat < xs.length := by omega
  rw [atI_of_nonneg h0, List.getElem?_map, List.getElem?_eq_getElem hl, List.getD_eq_getElem?_getD, List.getElem?_eq_getElem hl]
  rfl
theorem at_mapI {f : Int → D} {xs : List Int} {j : Int} (h0 : 0 ≤ j) (h1 : j < xs.length) : atI (xs.map f) j = some (f (xs.getD j.toNat 0)) := by
  have hl : j.toNat < xs.length := by omega
  rw [atI_of_nonneg h0, List.getElem?_map, List.getElem?_eq_getElem hl, List.getD_eq_getElem?_getD, List.getElem?_eq_getElem hl]
  rfl
theorem plain_ints {n : Nat} {ns : List Int} (h : ns.length ≤ sizeLine) : plainD (n + 1) (.tuple (ns.map PyData.int)) := by
  refine ⟨by rw [List.length_map]; exact h, fun x hx => ?_⟩
  obtain ⟨i, _, rfl⟩ := List.mem_map.mp hx
  cases n <;> trivial
theorem not_same {n : Nat} {d : D} (h : plainD n d) : (!sameD d d) = false := by rw [sameD_self h]; rfl
theorem not_sameI (i : Int) : (!sameD (.int i) (.int i)) = false := not_same (n := 0) trivial
theorem not_sameB (i : Bool) : (!sameD (.bool i) (.bool i)) = false := not_same (n := 0) trivial
theorem not_sameS (i : Str) : (!sameD (.str i) (.str i)) = false := not_same (n := 0) trivial
theorem not_sameN : (!sameD .none .none) = false := rfl
/-- a filtered range, by its first item -/
theorem tru_if (xs : List Int) : (if truD (.list (xs.map PyData.int)) = true then PyData.int (xs.getD 0 0) else .none) = optI xs.head? := by
  cases xs <;> rfl
theorem tru_pos {xs : List Int} (h : truD (.list (xs.map PyData.int)) = true) : (0 : Int) < xs.length := by
  cases xs with
  | nil => cases h
  | cons a l => rw [List.length_cons]; omega
theorem head_filter {p : Int → Bool} (xs : List Int) : (xs.filter p).head? = xs.find? p := List.head?_filter ..
end Pl
set_option Elab.async false
set_option linter.all false
set_option maxRecDepth 100000
set_option maxHeartbeats 4000000
set_option autoImplicit false
namespace Pl
open PySem PySem.Spec PyProof.Rows L2
/-! ### how often a sign stands in a text -/
theorem occ_count (x : Str) (c : Nat) : ∀ (m a : Nat) (found : Array Nat) (free : Nat), free ≤ a → found.size ≤ a → a + m = x.length + 1 →
    (forIn (List.range' a m) (found, free) (PySem.StrLaws.occBody x ⟨#[c]⟩ x.length (x.length + 1))).run.fst.size = found.size + (x.cps.toList.drop a).count c
  | 0, a, found, free, _, _, h => by
    have : x.cps.toList.drop a = [] := List.drop_eq_nil_of_le (by show x.cps.toList.length ≤ a; rw [Array.length_toList]; have : x.length = x.cps.size := rfl; omega)
    rw [this]; rfl
  | m + 1, a, found, free, h1, h2, h3 => by
    rw [List.range'_succ, List.forIn_cons]
    unfold PySem.StrLaws.occBody
    have hlen : x.cps.toList.length = x.length := by rw [Array.length_toList]; rfl
    have hs : x.cps.toList.drop a = [] ∧ x.cps.toList.drop (a + 1) = [] ∧ x.cps.toList[a]? = none ∨ ∃ z, x.cps.toList[a]? = some z ∧ x.cps.toList.drop a = z :: x.cps.toList.drop (a + 1) := by
      by_cases hl : a < x.cps.toList.length
      · exact .inr ⟨x.cps.toList[a], List.getElem?_eq_getElem hl, List.drop_eq_getElem_cons hl⟩
      · exact .inl ⟨List.drop_eq_nil_of_le (by omega), List.drop_eq_nil_of_le (by omega), List.getElem?_eq_none (by omega)⟩
    have key := PySem.StrLaws.subAt_one x c a
    by_cases hc : x.cps.toList[a]? = some c
    · obtain ⟨k1, k2⟩ := key.mpr hc
      rw [if_pos ⟨⟨⟨by show found.size < _; omega, h1⟩, k1⟩, k2⟩]
      have ih := occ_count x c m (a + 1) (found.push a) (a + 1) (Nat.le_refl _) (by rw [Array.size_push]; omega) (by omega)
      refine Eq.trans ih ?_
      rcases hs with ⟨_, _, e⟩ | ⟨z, e1, e2⟩
      · rw [e] at hc; cases hc
      · rw [e1] at hc; cases hc
        rw [e2, List.count_cons_self, Array.size_push]; omega
    · rw [if_neg (fun z => hc (key.mp ⟨z.1.2, z.2⟩))]
      have ih := occ_count x c m (a + 1) found free (by omega) (by omega) (by omega)
      refine Eq.trans ih ?_
      rcases hs with ⟨e1, e2, _⟩ | ⟨z, e1, e2⟩
      · rw [e1, e2]
      · rw [e2, List.count_cons_of_ne (fun e => hc (by rw [e1, e]))]
theorem count_one (x : Str) (c : Nat) : PySem.Txt.count x ⟨#[c]⟩ = ((x.cps.toList.count c : Nat) : Int) := by
  unfold PySem.Txt.count
  rw [PySem.StrLaws.occ_eq]
  congr 1
  have := occ_count x c (x.length + 1) 0 #[] 0 (Nat.le_refl _) (Nat.le_refl _) (by omega)
  rw [Array.length_toList]
  simpa using this
/-- x stands in y -/
def subB (x y : Str) : Bool := !(Builtin.Str.occurrences y x 0 y.length 1).isEmpty
theorem subB_iff {x y : Str} : subB x y = true ↔ ∃ i, i + x.length ≤ y.length ∧ (y.cps.toList.drop i).take x.length = x.cps.toList := by
  unfold subB
  rw [PySem.StrLaws.found_iff]
  constructor
  · rintro ⟨i, h1, h2⟩
    rw [PySem.StrLaws.subAt_eq, beq_iff_eq] at h2
    exact ⟨i, h1, h2⟩
  · rintro ⟨i, h1, h2⟩
    exact ⟨i, h1, by rw [PySem.StrLaws.subAt_eq, beq_iff_eq]; exact h2⟩
section
variable {c : Cc} {sp : List Sl} {Q : D → Prop} {e a : Expr} {p pos apos : Pos} {QL : List D → Prop}
theorem opp_inS {x y : Str} (q : Q (.bool (subB x y))) : OpP c (compareOp .In) (.str x) (.str y) Q := .of fun X hX => ⟨_, op_in_str, fun F H u v R s h1 h2 k => by
  cases h1; cases h2
  exact ⟨x, y, rfl, rfl, k _ _ F H q (Grow.refl s) (.bl _)⟩⟩
/-- s.count(one sign) -/
theorem E_strCount (h : E c e sp fun d => ∃ x : Str, d = .str x ∧ E c a sp fun g => ∃ cp : Nat, g = .str ⟨#[cp]⟩ ∧ Q (.int ((x.cps.toList.count cp : Nat) : Int)))
    (hs : ∀ env, starEach [a] env = [(false, eval a env)] := by intro _; rfl) (hbase : ∀ env, attributeBase e "count" env (eval e env) = eval e env := by intro _; rfl) (hline : (apos.endLine == pos.line) = true := by rfl) :
    E c (.Call (.Attribute e "count" apos) [a] [] pos) sp Q := Sealed.of fun X hX G F0 F H σ r R k => by
  refine PE_tE (pe_m1 PySem.F.slot_str_count PySem.F.type_str_count mt_count pe_tE pe_tE (hs _) (hbase _) hline) ?_
  refine h X hX G F0 F H σ r _ fun d v F1 H1 q g1 d1 => ?_
  obtain ⟨x, rfl, q⟩ := q
  cases d1
  refine ⟨⟨x, rfl⟩, q X hX G F0 F1 H1 σ (r.grow g1) _ fun g u F2 H2 q2 g2 d2 => ?_⟩
  obtain ⟨cp, rfl, q2⟩ := q2
  cases d2
  refine ⟨x, _, rfl, rfl, ?_⟩
  rw [count_one]
  exact k _ _ F2 H2 q2 (g1.trans g2) (.int _)
/-- xs.count(i), xs.index(i): ints, a list that is read -/
theorem E_lstCount (h : E c e sp fun d => ∃ ns : List Int, d = .list (ns.map .int) ∧ E c a sp fun g => ∃ i : Int, g = .int i ∧ Q (.int ((ns.count i : Nat) : Int)))
    (hbase : ∀ env, attributeBase e "count" env (eval e env) = eval e env := by intro _; rfl)
    (hfew : ∀ env, ((backTo pos (starEach [a] env)).all (fun x => !x.1) && (backToKw pos (keywordEach [] env)).all (fun x => x.1.isSome)
      && decide ([a].length + ([] : List Keyword).length + (if ([] : List Keyword).isEmpty then 0 else 1) < 30)) = true := by intro _; rfl)
    (hline : (apos.endLine == pos.line) = true := by rfl) (hs : ∀ env, starEach [a] env = (false, eval a env) :: starEach [] env := by intro _; rfl) (hplain : ∀ env, (backTo pos (starEach [] env)).any (·.1) = false := by intro _; rfl) :
    E c (.Call (.Attribute e "count" apos) [a] [] pos) sp Q := Sealed.of fun X hX G F0 F H σ r R k => by
  refine PE_tE (pe_bm PySem.F.plainAttrs_list PySem.F.slot_list_count PySem.F.type_list_count mt_lcount pe_tE (pa_cons pe_tE pa_nil (hs _)) (hbase _) (hfew _) hline (hs _) (hplain _)) ?_
  refine h X hX G F0 F H σ r _ fun d v F1 H1 q g1 d1 => ?_
  obtain ⟨ns, rfl, q⟩ := q
  obtain ⟨l, vs, rfl, h1, h2⟩ := dp_list d1
  cases dpAll_ints h2
  refine ⟨.inl ⟨rfl, _, by rw [hX.K]; exact g1.fh.seq h1⟩, q X hX G F0 F1 H1 σ (r.grow g1) _ fun g u F2 H2 q2 g2 d2 => ?_⟩
  obtain ⟨i, rfl, q2⟩ := q2
  cases d2
  exact ⟨l, ns, i, rfl, rfl, by rw [hX.K]; exact (g1.fh.trans g2.h).seq h1, k _ _ F2 H2 q2 (g1.trans g2) (.int _)⟩
theorem E_lstIndex (h : E c e sp fun d => ∃ ns : List Int, d = .list (ns.map .int) ∧ E c a sp fun g => ∃ (i : Int) (j : Nat), g = .int i ∧ ns[j]? = some i ∧ (∀ m, m < j → ns[m]? ≠ some i) ∧ Q (.int (j : Int)))
    (hbase : ∀ env, attributeBase e "index" env (eval e env) = eval e env := by intro _; rfl)
    (hfew : ∀ env, ((backTo pos (starEach [a] env)).all (fun x => !x.1) && (backToKw pos (keywordEach [] env)).all (fun x => x.1.isSome)
      && decide ([a].length + ([] : List Keyword).length + (if ([] : List Keyword).isEmpty then 0 else 1) < 30)) = true := by intro _; rfl)
    (hline : (apos.endLine == pos.line) = true := by rfl) (hs : ∀ env, starEach [a] env = (false, eval a env) :: starEach [] env := by intro _; rfl) (hplain : ∀ env, (backTo pos (starEach [] env)).any (·.1) = false := by intro _; rfl) :
    E c (.Call (.Attribute e "index" apos) [a] [] pos) sp Q := Sealed.of fun X hX G F0 F H σ r R k => by
  refine PE_tE (pe_bm PySem.F.plainAttrs_list PySem.F.slot_list_index PySem.F.type_list_index mt_index pe_tE (pa_cons pe_tE pa_nil (hs _)) (hbase _) (hfew _) hline (hs _) (hplain _)) ?_
  refine h X hX G F0 F H σ r _ fun d v F1 H1 q g1 d1 => ?_
  obtain ⟨ns, rfl, q⟩ := q
  obtain ⟨l, vs, rfl, h1, h2⟩ := dp_list d1
  cases dpAll_ints h2
  refine ⟨.inl ⟨rfl, _, by rw [hX.K]; exact g1.fh.seq h1⟩, q X hX G F0 F1 H1 σ (r.grow g1) _ fun g u F2 H2 q2 g2 d2 => ?_⟩
  obtain ⟨i, j, rfl, hj, hno, q2⟩ := q2
  cases d2
  refine ⟨l, ns.map V.int, .int i, j, .int i, rfl, rfl, by rw [hX.K]; exact (g1.fh.trans g2.h).seq h1, rfl, flat_ints ns, by rw [List.getElem?_map, hj]; rfl, by simp [eqV], fun m z' hm hz => ?_, k _ _ F2 H2 q2 (g1.trans g2) (.int _)⟩
  rw [List.getElem?_map] at hz
  cases hn : ns[m]? with
  | none => rw [hn] at hz; cases hz
  | some w =>
    rw [hn] at hz; cases hz
    have : w ≠ i := fun e => hno m hm (by rw [hn, e])
    simp [eqV, this]
end
/-! ### s[::-1] -/
theorem places_revS (x : Str) (tk : Tok) : ((PySem.slicePicked x none none (some ((-1 : Int), tk))).filterMap (x.cps[·]?)) = x.cps.toList.reverse := by
  unfold PySem.slicePicked Builtin.Str.strSliceIndices
  simp only [Option.map_none, Option.map_some, Option.getD_some]
  rw [if_neg (by decide), if_neg (by decide)]
  unfold sliceRange
  rw [if_neg (by decide)]
  have hl : x.length = x.cps.size := rfl
  have hc : (if (x.length : Int) - 1 > -1 then ((x.length : Int) - 1 - -1 - -1 - 1) / (- -1) else 0).toNat = x.cps.size := by
    rw [hl, show (- -1 : Int) = 1 from rfl, Int.ediv_one]
    split <;> omega
  simp only [hc]
  rw [List.filterMap_map]
  apply List.ext_getElem?
  intro i
  have key : ∀ n, n ≤ x.cps.size → (List.range n).filterMap ((x.cps[·]?) ∘ fun (k : Nat) => ((x.length : Int) - 1 + -1 * (k : Int)).toNat) = x.cps.toList.reverse.take n := fun n => by
    induction n with
    | zero => intro _; rfl
    | succ n ih =>
      intro hn
      rw [List.range_succ, List.filterMap_append, ih (by omega), List.take_add_one]
      congr 1
      have e : ((x.length : Int) - 1 + -1 * (n : Int)).toNat = x.cps.size - 1 - n := by omega
      rw [List.filterMap_cons, Function.comp, e, List.getElem?_reverse (by rw [Array.length_toList]; omega), Array.length_toList, Array.getElem?_toList]
      cases x.cps[x.cps.size - 1 - n]? <;> rfl
  rw [key x.cps.size (Nat.le_refl _), List.take_of_length_le (by rw [List.length_reverse, Array.length_toList]; exact Nat.le_refl _)]
section
variable {X : Cx}
def tRevS (te : TE) : TE := fun σ H Q => te σ H fun x H1 => ∃ z : Str, x = .str z ∧ z.length ≤ sizeLine ∧ Q (.str ⟨z.cps.toList.reverse.toArray⟩) H1
theorem pe_revS {e : Expr} {te : TE} {k : Nat} {p1 p2 p3 pos : Pos} (he : PE X e te) : PE X (.Subscript e (.Slice none none (some (.UnaryOp .USub (.Constant (.int 1) k p1) p2)) p3) pos) (tRevS te) := by
  refine ⟨fun pins s σ H Q I h => ?_⟩
  refine Subscript_ (thn (he.run pins s σ H _ I h) fun v s1 ⟨x, H1, I1, r1, q1⟩ => ?_)
  obtain ⟨z, ex, hz, q⟩ := q1
  subst ex
  obtain ⟨t, rfl⟩ := r1
  have hst : PO X (some (.UnaryOp .USub (.Constant (.int 1) k p1) p2)) (tPart (tUn (rU fun i => .int (-i)) (tC (.int 1)))) := po_some (pe_un un_neg pe_int)
  refine wpAny_Slice (thn (po_none.run pins s1 σ H1 (fun o H2 => o = none ∧ H2 = H1) I1 ⟨rfl, rfl⟩) fun vl s2 ⟨l, H2, I2, pl, el, e2⟩ => ?_)
  subst el e2
  refine thn (po_none.run pins s2 σ H2 (fun o H3 => o = none ∧ H3 = H2) I2 ⟨rfl, rfl⟩) fun vu s3 ⟨u, H3, I3, pu, eu, e3⟩ => ?_
  subst eu e3
  refine thn (hst.run pins s3 σ H3 (fun o H4 => o = some (-1) ∧ H4 = H3) I3 ⟨1, rfl, -1, rfl, rfl, rfl⟩) fun vs s4 ⟨o, H4, I4, ps, eo, e4⟩ => ?_
  subst eo e4
  cases pl
  cases pu
  have I5 : Inv X pins σ H4 { s4 with heap := s4.heap.push { cls := .type "slice", data := .fields #[.none, .none, vs] } } := I4.kept (t' := s4.toks) fun b ob q => Heap.get?_push_of_some _ q
  show wpAny (model X.prog X.w) X.A (subscriptTail e (.Slice none none (some (.UnaryOp .USub (.Constant (.int 1) k p1) p2)) p3) (.str z t) (.ref s4.heap.objs.size)) (EP X pins σ Q) X.xe { s4 with heap := s4.heap.push { cls := .type "slice", data := .fields #[.none, .none, vs] } }
  obtain ⟨st, rfl, est⟩ := IsPart.raw ps
  cases st with
  | none => cases est
  | some st =>
    obtain ⟨i, tk⟩ := st
    have : i = -1 := Option.some.inj est
    subst this
    refine tail_any (ops := [.str z t, .ref s4.heap.objs.size]) (typeIs_str _ _ _) PySem.F.slot_str_getitem.lookup ?_ (by with_unfolding_all rfl)
    obtain ⟨os, hos, hcs, hds⟩ := Heap.IsSliceOf.new s4.heap .none .none (partValue (some ((-1 : Int), tk)))
    refine PySem.wpAny_getItem_str_slice (l := none) (u := none) (st := some (-1, tk)) ⟨os, hos, hcs, hds⟩ rfl ?_
    unfold PySem.sliceMade
    rw [if_neg (by simp), places_revS]
    refine ⟨?_, .str _, H4, I5.tok _, ⟨_, rfl⟩, q⟩
    show z.cps.toList.reverse.toArray.size ≤ sizeLine
    rw [List.size_toArray, List.length_reverse, Array.length_toList]
    exact hz
end
section
variable {c : Cc} {sp : List Sl} {Q : D → Prop} {e : Expr} {p pos : Pos} {QL : List D → Prop}
theorem E_revS {kk : Nat} {p1 p2 p3 : Pos} (h : E c e sp fun d => ∃ z : Str, d = .str z ∧ z.length ≤ sizeLine ∧ Q (.str ⟨z.cps.toList.reverse.toArray⟩)) : E c (.Subscript e (.Slice none none (some (.UnaryOp .USub (.Constant (.int 1) kk p1) p2)) p3) pos) sp Q := Sealed.of fun X hX G F0 F H σ r R k => by
  refine PE_tE (pe_revS pe_tE) ?_
  refine h X hX G F0 F H σ r _ fun d v F1 H1 q g1 d1 => ?_
  obtain ⟨z, rfl, hz, q⟩ := q
  cases d1
  exact ⟨z, rfl, hz, k _ _ F1 H1 q g1 (.str _)⟩
theorem vals_signs : ∀ (cs : List Nat) (its : List Value), its.length = cs.length → (∀ (j : Nat) (v : Value), its[j]? = some v → ∃ c u, cs[j]? = some c ∧ v = .str ⟨#[c]⟩ u) → Vals (cs.map fun cp => V.str ⟨#[cp]⟩) its
  | [], [], _, _ => .nil
  | [], _ :: _, h, _ => by cases h
  | _ :: _, [], h, _ => by cases h
  | c :: cs, v :: its, h, k => by
    obtain ⟨c', u, e1, rfl⟩ := k 0 v rfl
    cases e1
    exact .cons ⟨u, rfl⟩ (vals_signs cs its (by simpa using h) fun j v hv => k (j + 1) v (by simpa using hv))
/-- list(a text): a list of its own -/
theorem EF_listS (h : E c e sp fun d => ∃ z : Str, d = .str z ∧ z.length ≤ sizeLine ∧ QL (signsD z)) (hm : c.m.mg "list" = none) (hv : bootBuiltins "list" = some (.type "list")) (hg : GlS c.sc "list" := by rfl)
    (he : ∀ env, starEach [e] env = (false, eval e env) :: starEach [] env := by intro _; rfl) (hpl : ∀ env, (backTo pos (starEach [] env)).any (·.1) = false := by intro _; rfl) :
    EF c (.Call (.Name "list" p) [e] [] pos) sp QL := Sealed.of fun X hX G F0 F H σ r R k => by
  have rule : CallR X (.type "list") (fun xs H Q => ∃ z : Str, xs = [V.str z] ∧ z.length ≤ sizeLine ∧ ∀ p, H p = none → Q (.ref p) (upd H p (.lst (z.cps.toList.map fun cp => V.str ⟨#[cp]⟩)))) := by
    intro pins s σ H xs us Q I r h
    obtain ⟨z, rfl, hz, q⟩ := h
    obtain ⟨u, rfl, ru⟩ := r.one
    obtain ⟨t, rfl⟩ := ru
    refine PySem.call_list_str (I.ok.hd hX.calm) z t (fun h' tk acc' c' hk hS' hacc => ?_) hz
    refine ⟨.ref _, _, I.laid (t' := tk) (o := .lst (z.cps.toList.map fun cp => V.str ⟨#[cp]⟩)) hk (Nat.le_refl _) ?_, rfl, q _ (I.hok.fresh (Nat.le_refl _))⟩
    refine ⟨by rw [List.length_map, Array.length_toList]; exact hz, acc'.toList, c', vals_signs _ _ (by rw [Array.length_toList, Array.length_toList]; exact hacc.1) fun j v hv => ?_, hS'⟩
    obtain ⟨cc, u, e1, e2⟩ := hacc.2 j v (by rw [← Array.getElem?_toList]; exact hv)
    exact ⟨cc, u, by rw [Array.getElem?_toList]; exact e1, e2⟩
  refine PE_tE (pe_callTy rule (hg.gl hX) (by rw [hX.mg]; exact hm) hv (pa_cons pe_tE pa_nil (he _)) (by decide) (by decide) (he _) (hpl _)) ?_
  refine h X hX G F0 F H σ r _ fun d v F1 H1 q g1 d1 => ?_
  obtain ⟨z, rfl, hz, q⟩ := q
  cases d1
  refine ⟨z, rfl, hz, fun p hp => ?_⟩
  have g2 := Grow.out (o := .lst (z.cps.toList.map fun cp => V.str ⟨#[cp]⟩)) g1.fh hp
  refine k (signsD z) _ p F1 _ q (g1.trans g2) (g1.h.free hp) (g1.fh.free hp) upd_same ?_
  unfold signsD
  have : ∀ l : List Nat, DpAll c.m.K F1 (l.map fun cp => V.str ⟨#[cp]⟩) (l.map fun cp => PyData.str ⟨#[cp]⟩) := fun l => by
    induction l with
    | nil => exact .nil
    | cons a l ih => exact .cons (.str _) ih
  exact this _
end
end Pl
set_option Elab.async false
set_option linter.all false
set_option maxRecDepth 100000
set_option maxHeartbeats 4000000
set_option autoImplicit false
namespace Pl
open PySem PySem.Spec PyProof.Rows L2
section
variable {c : Cc} {sp : List Sl} {P : Pn} {e e1 e2 : Expr} {spos : Pos}
/-- xs[e1], xs[e2] = e -/
theorem S1_sub2 (i : Nat) {x : Str} {ds : List D} {p1 p2 tp1 tp2 pt : Pos} {kt : Nat} (hsl : sp[i]? = some (.l ds))
    (h : E c e sp fun t => ∃ d g, t = .tuple [d, g] ∧ E c e1 sp fun i1 => ∃ n1 j1, i1 = .int n1 ∧ ixN ds.length n1 = some j1 ∧ E c e2 (sp.set i (.l (ds.set j1 d))) fun i2 => ∃ n2 j2, i2 = .int n2 ∧ ixN ds.length n2 = some j2 ∧ P.nx (sp.set i (.l ((ds.set j1 d).set j2 g))))
    (hi : c.N[i]? = some x := by rfl) (hv : Vis c.sc x := by first | exact Or.inl rfl | exact Or.inr (Or.inl rfl) | exact Or.inr (Or.inr rfl)) (hd : (x == ("__debug__" : Str)) = false := by decide) (hc9 : (x == ("__classdict__" : Str)) = false := by decide)
    (ha1 : ∀ env v, assign (.Subscript (.Name x p1) e1 tp1) env v = (do
      let ov ← holding [v] (eval (.Name x p1) env)
      let iv ← holding [v, ov] (eval e1 env)
      standAt tp1
      holding [v, ov, iv] (setItem ov iv v)
      release [v, ov, iv] []) := by intro _ _; rfl)
    (ha2 : ∀ env v, assign (.Subscript (.Name x p2) e2 tp2) env v = (do
      let ov ← holding [v] (eval (.Name x p2) env)
      let iv ← holding [v, ov] (eval e2 env)
      standAt tp2
      holding [v, ov, iv] (setItem ov iv v)
      release [v, ov, iv] []) := by intro _ _; rfl)
    (hn : ∀ env, (assignEach [.Subscript (.Name x p1) e1 tp1, .Subscript (.Name x p2) e2 tp2] env).length = 2 := by intro _; rfl) (hst : ∀ env, (assignEach [.Subscript (.Name x p1) e1 tp1, .Subscript (.Name x p2) e2 tp2] env).findIdx? (·.1) = none := by intro _; rfl)
    (hs1 : ∀ env, (assignEach [.Subscript (.Name x p1) e1 tp1, .Subscript (.Name x p2) e2 tp2] env).map (·.2) = assign (.Subscript (.Name x p1) e1 tp1) env :: (assignEach [.Subscript (.Name x p2) e2 tp2] env).map (·.2) := by intro _; rfl)
    (hs2 : ∀ env, (assignEach [.Subscript (.Name x p2) e2 tp2] env).map (·.2) = assign (.Subscript (.Name x p2) e2 tp2) env :: (assignEach [] env).map (·.2) := by intro _; rfl)
    (hs : ∀ env, swapsWithSole [.Tuple [.Subscript (.Name x p1) e1 tp1, .Subscript (.Name x p2) e2 tp2] kt pt] e spos.line env = pure false := by intro _; rfl)
    (hw : ∀ env : Env, env.scope = c.sc → swappedStores [.Tuple [.Subscript (.Name x p1) e1 tp1, .Subscript (.Name x p2) e2 tp2] kt pt] e env = pure none := by intro env he; first | rfl | (cases env; subst he; rfl))
    (h1 : ∀ env, (assignEach [.Tuple [.Subscript (.Name x p1) e1 tp1, .Subscript (.Name x p2) e2 tp2] kt pt] env).map (·.2) = [assign (.Tuple [.Subscript (.Name x p1) e1 tp1, .Subscript (.Name x p2) e2 tp2] kt pt) env] := by intro _; rfl) :
    S1 c (.Assign [.Tuple [.Subscript (.Name x p1) e1 tp1, .Subscript (.Name x p2) e2 tp2] kt pt] e spos) sp P := Sealed.of fun X hX G F0 F H σ r D0 k => by
  obtain ⟨y, hy, ok⟩ := r.slot hsl
  obtain ⟨l, o, rfl, q1, q2, q3, vs, rfl, q4⟩ := (slOk_own rfl).mp ok
  have hlt : i < sp.length := (List.getElem?_eq_some_iff.mp hsl).1
  have hcd : ∀ p : Pos, PE X (.Name x p) (tVar i) := fun p => pe_var (i := i) (by rw [hX.N]; exact hi) (by rw [hX.sc]; exact hv) hd hc9
  refine PS_t (ps_asg pe_tE (pg_tup hX.calm (pgs_cons (pg_sub (hcd p1) pe_tE set_list (ha1 _)) (pgs_cons (pg_sub (hcd p2) pe_tE set_list (ha2 _)) pgs_nil (hs2 _)) (hs1 _)) (hn _) (hst _)) (hs _) (hw _ hX.sc) (h1 _)) ?_
  refine h X hX G F0 F H σ r _ fun t v F1 H1 q g d1 => ?_
  obtain ⟨d, gg, rfl, q⟩ := q
  obtain ⟨a, ws, rfl, hsq, hal⟩ := dp_tuple d1
  obtain ⟨u1, u2, rfl, du1, du2⟩ : ∃ u1 u2, ws = [u1, u2] ∧ Dp c.m.K F1 u1 d ∧ Dp c.m.K F1 u2 gg := by
    cases hal with
    | cons z1 z2 =>
      cases z2 with
      | cons z3 z4 => cases z4; exact ⟨_, _, rfl, z1, z3⟩
  refine ⟨a, [u1, u2], rfl, by rw [hX.K]; exact sqT_mono g.fh hsq, rfl, ?_⟩
  refine ⟨u1, [u2], rfl, .ref l, hy, ?_⟩
  refine Sealed.run q X hX G F0 F1 H1 σ (r.grow g) _ fun gi vi F2 H2 q2' g2 d2 => ?_
  obtain ⟨n1, j1, rfl, hj1, q5⟩ := q2'
  cases d2
  have hl := g2.h _ _ (g.h _ _ q1)
  refine ⟨l, vs, n1, j1, rfl, rfl, hl, by rw [dpAll_len q4]; exact hj1, ?_⟩
  have r3 := ((r.grow g).grow g2).upd_o (s' := .l (ds.set j1 d)) (o := .lst (vs.set j1 u1)) i hsl rfl hy ⟨_, rfl, dpAll_set j1 (dpAll_mono (g.f.trans g2.f) _ _ q4) (dp_mono g2.f _ _ du1)⟩ rfl
  refine ⟨u2, [], rfl, .ref l, hy, ?_⟩
  refine Sealed.run q5 X hX G F0 F2 _ σ r3 _ fun gi vi F3 H3 q6 g3 d3 => ?_
  obtain ⟨n2, j2, rfl, hj2, q7⟩ := q6
  cases d3
  have hl3 := g3.h _ _ (upd_same (H := H2) (a := l) (o := .lst (vs.set j1 u1)))
  refine ⟨l, vs.set j1 u1, n2, j2, rfl, rfl, hl3, by rw [List.length_set, dpAll_len q4]; exact hj2, ?_⟩
  refine ⟨rfl, ?_⟩
  have hsl3 : (sp.set i (.l (ds.set j1 d)))[i]? = some (.l (ds.set j1 d)) := by rw [List.getElem?_set]; simp [hlt]
  have r4 := (r3.grow g3).upd_o (s' := .l ((ds.set j1 d).set j2 gg)) (o := .lst ((vs.set j1 u1).set j2 u2)) i hsl3 rfl hy ⟨_, rfl, dpAll_set j2 (dpAll_mono g3.f _ _ (dpAll_set j1 (dpAll_mono (g.f.trans g2.f) _ _ q4) (dp_mono g2.f _ _ du1))) (dp_mono (g2.f.trans g3.f) _ _ du2)⟩ rfl
  rw [List.set_set] at r4
  exact k.nx _ F3 _ σ q7 r4
end
end Pl
set_option Elab.async false
set_option linter.all false
set_option maxRecDepth 100000
set_option maxHeartbeats 4000000
set_option autoImplicit false
namespace Pl
open PySem PySem.Spec PyProof.Rows L2
/-! ### texts of 0 and 1 -/
def cb (b : Bool) : Nat := if b then 49 else 48
def bt (l : List Bool) : Str := ⟨(l.map cb).toArray⟩
theorem cb_inj {a b : Bool} (h : cb a = cb b) : a = b := by cases a <;> cases b <;> first | rfl | (exact absurd h (by decide))
theorem bt_codes (l : List Bool) : (bt l).cps.toList = l.map cb := rfl
theorem bt_len (l : List Bool) : (bt l).length = l.length := by show (l.map cb).toArray.size = _; rw [List.size_toArray, List.length_map]
theorem map_cb_inj : ∀ {a b : List Bool}, a.map cb = b.map cb → a = b
  | [], [], _ => rfl
  | [], _ :: _, h => by cases h
  | _ :: _, [], h => by cases h
  | x :: a, y :: b, h => by
    rw [List.map_cons, List.map_cons] at h
    injection h with h1 h2
    rw [cb_inj h1, map_cb_inj h2]
theorem bt_inj {a b : List Bool} (h : bt a = bt b) : a = b := map_cb_inj (by rw [← bt_codes, ← bt_codes, h])
theorem bt_eq {a b : List Bool} : decide (bt a = bt b) = decide (a = b) := decide_eq_decide.mpr ⟨bt_inj, fun h => by rw [h]⟩
theorem bt_app (a b : List Bool) : bt a ++ bt b = bt (a ++ b) := by
  show SX.S (a.map cb) ++ SX.S (b.map cb) = SX.S ((a ++ b).map cb)
  rw [SX.S_cat, List.map_append]
theorem bt_cut (l : List Bool) (lo hi : Option Int) : cutS (bt l) lo hi = bt (cutA l lo hi) := by
  unfold cutS cutA bt
  show (⟨((l.map cb).toArray.toList.drop _ |>.take _).toArray⟩ : Str) = _
  have hl : (⟨(l.map cb).toArray⟩ : Str).length = l.length := bt_len l
  rw [hl, List.map_take, List.map_drop]
theorem bt_count1 (l : List Bool) : (bt l).cps.toList.count 49 = l.count true := by
  rw [bt_codes]
  induction l with
  | nil => rfl
  | cons a l ih => cases a <;> simp_all [List.count_cons, cb]
theorem bt_count0 (l : List Bool) : (bt l).cps.toList.count 48 = l.count false := by
  rw [bt_codes]
  induction l with
  | nil => rfl
  | cons a l ih => cases a <;> simp_all [List.count_cons, cb]
theorem bt_rev (l : List Bool) : (⟨(bt l).cps.toList.reverse.toArray⟩ : Str) = bt l.reverse := by
  rw [bt_codes, ← List.map_reverse]; rfl
theorem joinL_nil : ∀ ys : List (List Nat), TL.joinL [] ys = ys.flatten
  | [] => rfl
  | [p] => by simp [TL.joinL]
  | p :: q :: r => by
    show p ++ ([] ++ TL.joinL [] (q :: r)) = _
    rw [joinL_nil (q :: r)]; rfl
theorem bt_join (l : List Bool) : Txt.join ("" : Str) (l.map fun b => bt [b]) = bt l := by
  have e : l.map (fun b => bt [b]) = (l.map fun b => [cb b]).map SX.S := by rw [List.map_map]; rfl
  have e0 : ("" : Str) = SX.S [] := by decide +kernel
  rw [e, e0, SX.join_S, joinL_nil]
  show SX.S _ = SX.S _
  congr 1
  induction l with
  | nil => rfl
  | cons a l ih => simp_all
theorem bt_join_len (l : List Bool) (h : l.length ≤ 100000) : ((l.map fun b => bt [b]).map (·.length)).sum + (l.map fun b => bt [b]).length * ("" : Str).length ≤ 16777216 := by
  have e0 : ("" : Str).length = 0 := by decide +kernel
  have : ∀ l : List Bool, ((l.map fun b => bt [b]).map (·.length)).sum = l.length := fun l => by
    induction l with
    | nil => rfl
    | cons a l ih =>
      rw [List.map_cons, List.map_cons, List.sum_cons, ih, bt_len]
      simp; omega
  rw [e0, Nat.mul_zero, this]; omega
theorem lit1 : ("1" : Str) = bt [true] := by decide +kernel
theorem lit0 : ("0" : Str) = bt [false] := by decide +kernel
theorem litE : ("" : Str) = bt [] := by decide +kernel
theorem lit01 : ("01" : Str) = bt [false, true] := by decide +kernel
theorem lit1c : ("1" : Str) = ⟨#[49]⟩ := by decide +kernel
theorem lit0c : ("0" : Str) = ⟨#[48]⟩ := by decide +kernel
theorem bt_one (b : Bool) : (⟨#[cb b]⟩ : Str) = bt [b] := rfl
/-- '1' if b else '0' -/
theorem bt_if (b : Bool) : (if b = true then PyData.str ("1" : Str) else .str ("0" : Str)) = .str (bt [b]) := by
  rw [lit1, lit0]; cases b <;> rfl
theorem at_bt {l : List Bool} {j : Int} (h0 : 0 ≤ j) (h1 : j < l.length) : atI (bt l).cps.toList j = some (cb (l.getD j.toNat false)) := by
  have hl : j.toNat < l.length := by omega
  rw [bt_codes, atI_of_nonneg h0, List.getElem?_map, List.getElem?_eq_getElem hl, List.getD_eq_getElem?_getD, List.getElem?_eq_getElem hl]
  rfl
theorem bt_sub {x y : List Bool} : subB (bt x) (bt y) = true ↔ ∃ i, i + x.length ≤ y.length ∧ (y.drop i).take x.length = x := by
  rw [subB_iff]
  constructor
  · rintro ⟨i, h1, h2⟩
    rw [bt_len, bt_len] at h1
    rw [bt_codes, bt_codes, bt_len, ← List.map_drop, ← List.map_take] at h2
    exact ⟨i, h1, map_cb_inj h2⟩
  · rintro ⟨i, h1, h2⟩
    refine ⟨i, by rw [bt_len, bt_len]; exact h1, ?_⟩
    rw [bt_codes, bt_codes, bt_len, ← List.map_drop, ← List.map_take, h2]
/-- one sign -/
def ch (b : Bool) : D := .str (bt [b])
theorem bt_ifc (b : Bool) : (if b = true then PyData.str ("1" : Str) else .str ("0" : Str)) = ch b := bt_if b
theorem bt_ifc0 (b : Bool) : (if b = true then PyData.str ("0" : Str) else .str ("1" : Str)) = ch (!b) := by
  rw [lit1, lit0]; cases b <;> rfl
theorem bt_ifs (b : Bool) : PyData.str (if b = true then ("1" : Str) else ("0" : Str)) = ch b := by
  rw [lit1, lit0]; cases b <;> rfl
theorem bt_ifs0 (b : Bool) : PyData.str (if b = true then ("0" : Str) else ("1" : Str)) = .str (bt [!b]) := by
  rw [lit1, lit0]; cases b <;> rfl
theorem ch_strs (l : List Bool) : l.map ch = (l.map fun b => bt [b]).map PyData.str := by rw [List.map_map]; rfl
theorem signs_bt (l : List Bool) : signsD (bt l) = l.map ch := by
  unfold signsD
  rw [bt_codes, List.map_map]; rfl
theorem ixN_nat {n j : Nat} (h : j < n) : ixN n (j : Int) = some j := by
  unfold ixN
  rw [if_pos (by omega), if_pos (by omega)]
  rfl
theorem not_sameT (l : List Bool) : (!sameD (.str (bt l)) (.str (bt l))) = false := not_sameS _
end Pl
set_option Elab.async false
set_option linter.all false
set_option maxRecDepth 100000
set_option maxHeartbeats 4000000
set_option autoImplicit false
namespace Pl
open PySem PySem.Spec PyProof.Rows L2
section
variable {c : Cc} {Q : D → Prop}
/-- b is True -/
theorem opp_isB {a b : Bool} (q : Q (.bool (decide (a = b)))) : OpP c (compareOp .Is) (.bool a) (.bool b) Q := .of fun X hX => ⟨_, op_is_bl, fun F H x y R s h1 h2 k => by
  cases h1; cases h2
  exact ⟨a, b, rfl, rfl, k _ _ F H q (Grow.refl s) (.bl _)⟩⟩
end
section
variable {c : Cc} {sp : List Sl} {P : Pn} {st : Stmt} {rest : List Stmt}
theorem S_midE {sp1 : List Sl} (h : S1 c st sp { P with nx := fun sp' => sp' = sp1 }) (h2 : S c rest sp1 P) : S c (st :: rest) sp P := S_mid _ h fun sp' e => by rw [e]; exact h2
end
end Pl
set_option Elab.async false
set_option linter.all false
set_option maxRecDepth 100000
set_option maxHeartbeats 4000000
set_option autoImplicit false
namespace Pl
open PySem PySem.Spec PyProof.Rows L2
/-! ### slices with a step above 0 -/
def pickA {α : Type} (L : List Nat) (xs : List α) : List α := L.filterMap (xs[·]?)
def stepA {α : Type} (xs : List α) (lo k : Nat) : List α := pickA ((List.range xs.length).map fun m => lo + m * k) xs
def loN : Option Int → Nat
  | none => 0
  | some i => i.toNat
theorem pick_len {α : Type} (xs : List α) (L : List Nat) : (pickA L xs).length ≤ L.length := List.length_filterMap_le _ _
theorem step_len {α : Type} (xs : List α) (lo k : Nat) : (stepA xs lo k).length ≤ xs.length := by
  refine Nat.le_trans (pick_len _ _) ?_
  rw [List.length_map, List.length_range]; exact Nat.le_refl _
theorem pick_map {α β : Type} (f : α → β) (L : List Nat) (xs : List α) : pickA L (xs.map f) = (pickA L xs).map f := by
  unfold pickA
  rw [List.map_filterMap]
  congr 1
  funext i
  rw [List.getElem?_map]
theorem step_map {α β : Type} (f : α → β) (xs : List α) (lo k : Nat) : stepA (xs.map f) lo k = (stepA xs lo k).map f := by
  unfold stepA
  rw [List.length_map, pick_map]
theorem pick_vals {xs : List V} {its : List Value} (r : Vals xs its) : ∀ L : List Nat, Vals (pickA L xs) (pickA L its)
  | [] => .nil
  | i :: L => by
    unfold pickA
    rw [List.filterMap_cons, List.filterMap_cons]
    have ih := pick_vals r L
    cases h : xs[i]? with
    | none =>
      have h2 : its[i]? = none := List.getElem?_eq_none (by have := r.length; have := List.getElem?_eq_none_iff.mp h; omega)
      rw [h2]; exact ih
    | some x =>
      obtain ⟨u, hu, ru⟩ := r.get h
      rw [hu]; exact .cons ru ih
theorem pick_dp {K : PySem.W.Frag} {F : Hp} {ds : List D} {vs : List V} (h : DpAll K F vs ds) : ∀ L : List Nat, DpAll K F (pickA L vs) (pickA L ds)
  | [] => .nil
  | i :: L => by
    unfold pickA
    rw [List.filterMap_cons, List.filterMap_cons]
    have ih := pick_dp h L
    cases e : ds[i]? with
    | none =>
      have h2 : vs[i]? = none := List.getElem?_eq_none (by rw [dpAll_len h]; exact List.getElem?_eq_none_iff.mp e)
      rw [h2]; exact ih
    | some x =>
      obtain ⟨v, hv, dv⟩ := dpAll_get' h e
      rw [hv]; exact .cons dv ih
/-- the places that python takes, and all that might be -/
theorem pick_more {α : Type} (xs : List α) (lo k c : Nat) (hc : c ≤ xs.length) (hno : ∀ m, c ≤ m → m < xs.length → xs.length ≤ lo + m * k) : pickA ((List.range c).map fun m => lo + m * k) xs = stepA xs lo k := by
  unfold stepA
  obtain ⟨d, hd⟩ : ∃ d, xs.length = c + d := ⟨xs.length - c, by omega⟩
  have e : List.range xs.length = List.range c ++ (List.range d).map (c + ·) := by rw [hd, List.range_add]
  rw [e, List.map_append]
  unfold pickA
  rw [List.filterMap_append]
  have : List.filterMap (xs[·]?) (((List.range d).map (c + ·)).map fun m => lo + m * k) = [] := by
    rw [List.filterMap_eq_nil_iff]
    intro a ha
    obtain ⟨m, hm, rfl⟩ := List.mem_map.mp ha
    obtain ⟨j, hj, rfl⟩ := List.mem_map.mp hm
    have := List.mem_range.mp hj
    exact List.getElem?_eq_none (hno (c + j) (by omega) (by omega))
  rw [this, List.append_nil]
theorem ceil_ok {n a k : Nat} (hk : 0 < k) (ha : a ≤ n) : (((n : Int) - a + k - 1) / k).toNat ≤ n - a ∧ ∀ m : Nat, (((n : Int) - a + k - 1) / k).toNat ≤ m → n ≤ a + m * k := by
  have h0 : (0 : Int) ≤ ((n : Int) - a + k - 1) / k := Int.ediv_nonneg (by omega) (by omega)
  have h1 := Int.mul_ediv_add_emod ((n : Int) - a + k - 1) k
  have h2 := Int.emod_lt_of_pos ((n : Int) - a + k - 1) (show (0 : Int) < k by omega)
  have h3 := Int.emod_nonneg ((n : Int) - a + k - 1) (show (k : Int) ≠ 0 by omega)
  generalize ((n : Int) - a + k - 1) / k = q at *
  constructor
  · by_cases z : n - a = 0
    · have : q ≤ 0 := by
        apply Int.not_lt.mp
        intro w
        have := Int.mul_le_mul_of_nonneg_left (show (1 : Int) ≤ q by omega) (show (0 : Int) ≤ k by omega)
        omega
      omega
    · apply Nat.le_of_not_lt
      intro w
      have w : (n : Int) - a + 1 ≤ q := by omega
      have := Int.mul_le_mul_of_nonneg_left w (show (0 : Int) ≤ k by omega)
      have e : (k : Int) * ((n : Int) - a + 1) = k * ((n : Int) - a) + k := by rw [Int.mul_add, Int.mul_one]
      have := Int.mul_le_mul_of_nonneg_right (show (1 : Int) ≤ k by omega) (show (0 : Int) ≤ (n : Int) - a by omega)
      omega
  · intro m hm
    have := Int.mul_le_mul_of_nonneg_left (show q ≤ (m : Int) by omega) (show (0 : Int) ≤ k by omega)
    have e : ((a + m * k : Nat) : Int) = a + k * m := by rw [Int.natCast_add, Int.natCast_mul, Int.mul_comm]
    omega
def clipN (n : Nat) (lo : Option Int) : Nat := min (loN lo) n
theorem step_clip {α : Type} (xs : List α) (lo : Option Int) (k : Nat) : stepA xs (clipN xs.length lo) k = stepA xs (loN lo) k := by
  unfold clipN
  by_cases h : loN lo ≤ xs.length
  · rw [Nat.min_eq_left h]
  · rw [Nat.min_eq_right (by omega)]
    have key : ∀ a, xs.length ≤ a → stepA xs a k = [] := fun a ha => by
      unfold stepA pickA
      rw [List.filterMap_eq_nil_iff]
      intro b hb
      obtain ⟨m, _, rfl⟩ := List.mem_map.mp hb
      exact List.getElem?_eq_none (by omega)
    rw [key _ (Nat.le_refl _), key _ (by omega)]
def loOk (lo : Option Int) : Prop := ∀ i, lo = some i → 0 ≤ i
theorem slicePick_step (items : Array Value) {lo : Option Int} {k : Int} (hl : loOk lo) (hk : 0 < k) : slicePick items lo none (some k) = (stepA items.toList (loN lo) k.toNat).toArray := by
  unfold slicePick
  congr 1
  have hb : sliceBounds lo none (some k) items.size = (((clipN items.size lo : Nat) : Int), (items.size : Int), k) := by
    unfold sliceBounds clipN
    simp only [Option.getD_some]
    rw [if_pos hk]
    cases lo with
    | none => simp [loN, hk]
    | some i =>
      have := hl i rfl
      simp only [loN]
      have hk' : k > 0 := hk
      refine Prod.ext ?_ (Prod.ext ?_ rfl)
      · show (if k > 0 then max 0 (min (if i < 0 then i + (items.size : Int) else i) (items.size : Int)) else _) = ((min i.toNat items.size : Nat) : Int)
        rw [if_pos hk', if_neg (by omega)]
        omega
      · show (if k > 0 then (items.size : Int) else -1) = (items.size : Int)
        rw [if_pos hk']
  rw [hb]
  unfold sliceRange
  simp only [hk, if_true]
  have hc : clipN items.size lo ≤ items.size := Nat.min_le_right _ _
  obtain ⟨kn, rfl⟩ : ∃ kn : Nat, k = (kn : Int) := ⟨k.toNat, by omega⟩
  obtain ⟨c1, c2⟩ := ceil_ok (n := items.size) (a := clipN items.size lo) (k := kn) (by omega) hc
  have hlen : items.toList.length = items.size := Array.length_toList
  rw [← step_clip, hlen]
  by_cases hlt : ((clipN items.size lo : Nat) : Int) < (items.size : Int)
  · rw [if_pos hlt]
    have := pick_more items.toList (clipN items.size lo) kn _ (by rw [hlen]; exact Nat.le_trans c1 (Nat.sub_le _ _)) (fun m h1 h2 => by rw [hlen]; exact c2 m h1)
    rw [Int.toNat_natCast, ← this]
    unfold pickA
    rw [List.filterMap_map, List.filterMap_map]
    congr 1
    funext m
    show items[_]? = items.toList[_]?
    rw [Array.getElem?_toList]
    congr 1
    have : ((clipN items.size lo : Nat) : Int) + (kn : Int) * (m : Int) = ((clipN items.size lo + m * kn : Nat) : Int) := by rw [Int.natCast_add, Int.natCast_mul, Int.mul_comm]
    show (((clipN items.size lo : Nat) : Int) + (kn : Int) * (m : Int)).toNat = clipN items.size lo + m * kn
    rw [this, Int.toNat_natCast]
  · rw [if_neg hlt, Int.toNat_natCast]
    have := pick_more items.toList (clipN items.size lo) kn 0 (Nat.zero_le _) (fun m _ _ => by rw [hlen]; omega)
    rw [← this]; rfl
section
variable {X : Cx}
def tStepL (K : PySem.W.Frag) (te : TE) (tl ts : L2.St → Hp → (Option Int → Hp → Prop) → Prop) : TE := fun σ H Q => te σ H fun x H1 => tl σ H1 fun l H2 => ts σ H2 fun k H3 => ∃ a xs k', x = .ref a ∧ SqL K H3 a xs ∧ loOk l ∧ k = some k' ∧ 0 < k' ∧ ∀ p, H3 p = none → Q (.ref p) (upd H3 p (.lst (stepA xs (loN l) k'.toNat)))
theorem pe_stepL {e st : Expr} {lo : Option Expr} {te : TE} {tl ts : L2.St → Hp → (Option Int → Hp → Prop) → Prop} {p3 pos : Pos} (he : PE X e te) (hl : PO X lo tl) (hst : PO X (some st) ts) :
    PE X (.Subscript e (.Slice lo none (some st) p3) pos) (tStepL X.K te tl ts) := by
  refine ⟨fun pins s σ H Q I h => ?_⟩
  refine Subscript_ (thn (he.run pins s σ H _ I h) fun v s1 ⟨x, H1, I1, r1, q1⟩ => ?_)
  refine wpAny_Slice (thn (hl.run pins s1 σ H1 _ I1 q1) fun vl s2 ⟨l, H2, I2, pl, q2⟩ => ?_)
  refine thn (po_none.run pins s2 σ H2 (fun o H3 => o = none ∧ H3 = H2) I2 ⟨rfl, rfl⟩) fun vu s3 ⟨u, H3, I3, pu, eu, e3⟩ => ?_
  subst eu e3
  refine thn (hst.run pins s3 σ H3 _ I3 q2) fun vs s4 ⟨o, H4, I4, ps, q4⟩ => ?_
  obtain ⟨a, xs, k', ex, hx, hlo, ek, hk, q⟩ := q4
  subst ex ek
  cases r1
  have I5 : Inv X pins σ H4 { s4 with heap := s4.heap.push { cls := .type "slice", data := .fields #[vl, vu, vs] } } := I4.kept (t' := s4.toks) fun b ob q => Heap.get?_push_of_some _ q
  obtain ⟨its, r, ht, hz⟩ := I5.list hx
  have hlen := r.length
  show wpAny (model X.prog X.w) X.A (subscriptTail e (.Slice lo none (some st) p3) (.ref a) (.ref s4.heap.objs.size)) (EP X pins σ Q) X.xe { s4 with heap := s4.heap.push { cls := .type "slice", data := .fields #[vl, vu, vs] } }
  refine tail_any (ops := [.ref a, .ref s4.heap.objs.size]) ht.isList.typeIs (PySem.slot_list_getitem.lookup) ?_ (by with_unfolding_all rfl)
  refine wpAny_getItem_list_slice ht.isList (Heap.IsSliceOf.new _ vl vu vs) pl pu ps (by intro z; cases z; omega) ?_ (by rw [List.size_toArray]; omega)
  rw [slicePick_step _ hlo hk]
  refine ⟨.ref _, _, I5.laid (t' := s4.toks) (o := .lst (stepA xs (loN l) k'.toNat)) (fun b ob q => Heap.get?_push_of_some _ q) (Nat.le_refl _) ?_, rfl, q _ (I5.hok.fresh (Nat.le_refl _))⟩
  refine ⟨Nat.le_trans (step_len _ _ _) hz, _, 0, ?_, Heap.get?_push_size _ rfl⟩
  show Vals _ (stepA its (loN l) k'.toNat)
  unfold stepA
  rw [hlen]
  exact pick_vals r _
end
section
variable {c : Cc} {sp : List Sl} {Q : D → Prop} {e st : Expr} {lo : Option Expr} {p3 pos : Pos} {QL : List D → Prop}
/-- xs[lo::k], a list -/
theorem EF_stepL (h : E c e sp fun d => O c lo sp fun l => O c (some st) sp fun k => ∃ xs k', d = .list xs ∧ loOk l ∧ k = some k' ∧ 0 < k' ∧ QL (stepA xs (loN l) k'.toNat)) : EF c (.Subscript e (.Slice lo none (some st) p3) pos) sp QL := Sealed.of fun X hX G F0 F H σ r R k => by
  refine PE_tE (pe_stepL pe_tE po_tO po_tO) ?_
  refine h X hX G F0 F H σ r _ fun d v F1 H1 q1 g1 d1 => ?_
  refine q1 X hX G F0 F1 H1 σ (r.grow g1) _ fun l F2 H2 q2 g2 => ?_
  refine Sealed.run q2 X hX G F0 F2 H2 σ ((r.grow g1).grow g2) _ fun u F3 H3 q3 g3 => ?_
  obtain ⟨xs, k', rfl, hlo, rfl, hk, q⟩ := q3
  obtain ⟨a, vs, rfl, h1, h2⟩ := dp_list d1
  rw [hX.K]
  have gg := (g1.trans g2).trans g3
  refine ⟨a, vs, k', rfl, (g2.f.trans g3.f |>.trans g3.fh).seq h1, hlo, rfl, hk, fun p hp => ?_⟩
  have g4 := Grow.out (o := .lst (stepA vs (loN l) k'.toNat)) g3.fh hp
  refine k _ _ p _ _ q (gg.trans g4) (gg.h.free hp) (g3.fh.free hp) upd_same ?_
  unfold stepA
  rw [dpAll_len h2]
  exact pick_dp (dpAll_mono (g2.f.trans g3.f) _ _ h2) _
end
/-! ### tuples -/
section
variable {prog : Program} {w : World} {A : Around} {E : Value → Shared → Prop} {s : Shared}
def cntZ (n : Nat) (lo : Option Int) (k : Int) : Nat := Builtin.Slice.slicePlaces ((clipN n lo : Nat) : Int) (n : Int) k
theorem adjust_step {n : Nat} {lo : Option Int} {k : Int} (hl : loOk lo) (hk : 0 < k) : Builtin.Slice.sliceAdjust lo none k (n : Int) = (((clipN n lo : Nat) : Int), (n : Int)) := by
  unfold Builtin.Slice.sliceAdjust clipN
  have h1 : ¬ k < 0 := by omega
  cases lo with
  | none => simp [h1, loN]
  | some i =>
    have := hl i rfl
    simp only [h1, if_false, loN]
    refine Prod.ext ?_ rfl
    show (if i < 0 then _ else min i (n : Int)) = _
    rw [if_neg (by omega)]
    omega
theorem applied_step {sl : Addr} {vl vs : Value} {lo : Option Int} {k : Int} {n : Nat} {Q : Int × Int × Nat → Shared → Prop} (hs : s.heap.IsSliceOf sl vl .none vs) (pl : IsPart vl lo) (ps : IsPart vs (some k)) (hl : loOk lo) (hk : 0 < k)
    (h : Q (((clipN n lo : Nat) : Int), k, cntZ n lo k) s) : wpAny (model prog w) A (Builtin.Slice.sliceApplied (.ref sl) (pure (n : Int))) Q E s := by
  obtain ⟨os, hos, hcs, hds⟩ := id hs
  unfold Builtin.Slice.sliceApplied Builtin.Slice.sliceFields
  refine wpAny_bind (wpAny_bind (wpAny_field hos hds (x := vl) rfl (wpAny_bind (wpAny_field hos hds (x := .none) rfl (wpAny_bind (wpAny_field hos hds (x := vs) rfl (wpAny_pure ?_)))))))
  refine wpAny_bind (HT.slicePart_ ps ?_)
  show wpAny _ _ (if (k == 0) = true then _ else _) _ _ s
  rw [if_neg (by simp; omega)]
  refine wpAny_bind (HT.slicePart_ pl (wpAny_bind (slicePart_none (wpAny_bind (wpAny_pure ?_)))))
  show wpAny _ _ (match Builtin.Slice.sliceAdjust lo none k (n : Int) with | (lo, hi) => pure (lo, k, Builtin.Slice.slicePlaces lo hi k)) _ _ s
  rw [adjust_step hl hk]
  exact wpAny_pure h
theorem places_step (xs : Array Value) {lo : Option Int} {k : Int} (hl : loOk lo) (hk : 0 < k) : ((List.range (cntZ xs.size lo k)).filterMap fun (m : Nat) => xs[(((clipN xs.size lo : Nat) : Int) + (m : Int) * k).toNat]?).toArray = (stepA xs.toList (loN lo) k.toNat).toArray := by
  congr 1
  have hc : clipN xs.size lo ≤ xs.size := Nat.min_le_right _ _
  obtain ⟨kn, rfl⟩ : ∃ kn : Nat, k = (kn : Int) := ⟨k.toNat, by omega⟩
  obtain ⟨c1, c2⟩ := ceil_ok (n := xs.size) (a := clipN xs.size lo) (k := kn) (by omega) hc
  have hlen : xs.toList.length = xs.size := Array.length_toList
  have he : cntZ xs.size lo (kn : Int) = (((xs.size : Int) - (clipN xs.size lo : Nat) + kn - 1) / kn).toNat := by
    unfold cntZ Builtin.Slice.slicePlaces
    rw [if_pos hk]
    split
    · rename_i h
      congr 1
      rw [show (xs.size : Int) - ((clipN xs.size lo : Nat) : Int) + kn - 1 = ((xs.size : Int) - ((clipN xs.size lo : Nat) : Int) - 1) + kn * 1 by omega, Int.add_mul_ediv_left _ _ (by omega)]
    · rename_i h
      have : xs.size = clipN xs.size lo := by omega
      rw [← this, show (xs.size : Int) - xs.size + kn - 1 = kn - 1 by omega, Int.ediv_eq_zero_of_lt (by omega) (by omega)]
  rw [he, ← hlen] at *
  rw [← step_clip, Int.toNat_natCast]
  have := pick_more xs.toList (clipN xs.toList.length lo) kn _ (Nat.le_trans c1 (Nat.sub_le _ _)) (fun m h1 h2 => c2 m h1)
  rw [← this]
  unfold pickA
  rw [List.filterMap_map]
  congr 1
  funext m
  show xs[_]? = xs.toList[clipN xs.toList.length lo + m * kn]?
  rw [Array.getElem?_toList, ← Int.natCast_mul, ← Int.natCast_add, Int.toNat_natCast]
theorem step_all {α : Type} (xs : List α) : stepA xs 0 1 = xs := by
  unfold stepA pickA
  rw [List.filterMap_map]
  have : (fun x => xs[x]?) ∘ (fun m => 0 + m * 1) = fun m => xs[m]? := by funext m; simp
  rw [this]
  apply List.ext_getElem?
  intro i
  have key : ∀ n, n ≤ xs.length → (List.range n).filterMap (fun m => xs[m]?) = xs.take n := fun n => by
    induction n with
    | zero => intro _; rfl
    | succ n ih =>
      intro hn
      rw [List.range_succ, List.filterMap_append, ih (by omega), List.take_add_one]
      rw [List.filterMap_cons]
      cases xs[n]? <;> rfl
  rw [key _ (Nat.le_refl _), List.take_length]
theorem getItem_tuple_step {t sl : Addr} {items : Array Value} {vl vs : Value} {lo : Option Int} {k : Int} {Q : Value → Shared → Prop} (ht : IsTup s.heap t items) (hs : s.heap.IsSliceOf sl vl .none vs) (pl : IsPart vl lo) (ps : IsPart vs (some k)) (hl : loOk lo) (hk : 0 < k)
    (h0 : clipN items.size lo = 0 → k = 1 → Q (.ref t) s)
    (h : Q (.ref s.heap.objs.size) { s with heap := s.heap.push { cls := .type "tuple", data := .seq (stepA items.toList (loN lo) k.toNat).toArray } })
    (hsz : items.size ≤ sizeLine) : wpAny (model prog w) A (getItem (.ref t) (.ref sl)) Q E s := by
  have htake : sizeOk (.seq (stepA items.toList (loN lo) k.toNat).toArray) := by
    show (stepA items.toList (loN lo) k.toNat).toArray.size ≤ sizeLine
    rw [List.size_toArray]
    refine Nat.le_trans (step_len _ _ _) ?_
    rw [Array.length_toList]
    exact hsz
  obtain ⟨os, hos, hcs, hds⟩ := id hs
  have hTs : s.TypeIs (.ref sl) "slice" := ⟨os, hos, hcs⟩
  unfold getItem
  try with_reducible refine wpAny_holding ?_
  first | refine wpAny_bind (wpAny_pure ?_) | skip
  refine wpAny_bind (wpAny_sequenceKey ht.typeIs (by decide) ?_)
  refine wpAny_bind (wpAny_callSpecial?_slot (name := Str.ofString "__getitem__") ht.typeIs PyProof.Rows.slot_tuple_getitem
    (wpAny_call_entry PyProof.Rows.slot_tuple_getitem ht.typeIs entry_tuple_getitem ?_ (args_tuple_getitem _ _)))
  show wpAny _ _ (Builtin.Tuple.tupleItemsOf (.ref t) >>= _) _ _ s
  refine wpAny_bind (tupleItemsOf_ ht ?_)
  refine wpAny_bind (wpAny_typeOf hTs ?_)
  rw [if_pos (by decide)]
  refine wpAny_bind (applied_step hs pl ps hl hk ?_)
  show wpAny _ _ (if ((((clipN items.size lo : Nat) : Int) == 0) && (k == 1) && (cntZ items.size lo k == items.size)) = true then _ else _) _ _ s
  by_cases hc : ((((clipN items.size lo : Nat) : Int) == 0) && (k == 1) && (cntZ items.size lo k == items.size)) = true
  · rw [if_pos hc]
    rw [Bool.and_eq_true, Bool.and_eq_true, beq_iff_eq, beq_iff_eq] at hc
    have e := h0 (by omega) hc.1.2
    refine wpAny_bind ?_
    show wpAny _ _ (typeOf (.ref t) >>= fun T => pure (T == .type "tuple")) _ _ s
    refine wpAny_bind (wpAny_typeOf ht.typeIs (wpAny_pure ?_))
    first
      | rw [if_pos (by decide)]
      | simp only [beq_self_eq_true, if_true]
    first
      | exact wpAny_bind (wpAny_rule (wpAny_pure ⟨_, rfl, wpAny_pure e⟩))
      | exact wpAny_bind (wpAny_rule (wpAny_bind (wpAny_pure (wpAny_pure ⟨_, rfl, wpAny_pure e⟩))))
  · rw [if_neg hc, places_step items hl hk]
    first
      | exact wpAny_bind (m := Builtin.Tuple.tupleExact _) (wpAny_newObj_type (wpAny_pure ⟨_, rfl, wpAny_pure h⟩) htake)
      | exact wpAny_bind (m := Builtin.Tuple.tupleExact _) (wpAny_newObj_type (wpAny_bind (wpAny_pure (wpAny_pure ⟨_, rfl, wpAny_pure h⟩))) htake)
end
section
variable {X : Cx}
def tStepT (K : PySem.W.Frag) (te : TE) (tl ts : L2.St → Hp → (Option Int → Hp → Prop) → Prop) : TE := fun σ H Q => te σ H fun x H1 => tl σ H1 fun l H2 => ts σ H2 fun k H3 => ∃ a xs k', x = .ref a ∧ SqT K H3 a xs ∧ loOk l ∧ k = some k' ∧ 0 < k' ∧ (xs = stepA xs (loN l) k'.toNat → Q (.ref a) H3) ∧ ∀ p, H3 p = none → Q (.ref p) (upd H3 p (.tup (stepA xs (loN l) k'.toNat)))
theorem pe_stepT {e st : Expr} {lo : Option Expr} {te : TE} {tl ts : L2.St → Hp → (Option Int → Hp → Prop) → Prop} {p3 pos : Pos} (he : PE X e te) (hl : PO X lo tl) (hst : PO X (some st) ts) :
    PE X (.Subscript e (.Slice lo none (some st) p3) pos) (tStepT X.K te tl ts) := by
  refine ⟨fun pins s σ H Q I h => ?_⟩
  refine Subscript_ (thn (he.run pins s σ H _ I h) fun v s1 ⟨x, H1, I1, r1, q1⟩ => ?_)
  refine wpAny_Slice (thn (hl.run pins s1 σ H1 _ I1 q1) fun vl s2 ⟨l, H2, I2, pl, q2⟩ => ?_)
  refine thn (po_none.run pins s2 σ H2 (fun o H3 => o = none ∧ H3 = H2) I2 ⟨rfl, rfl⟩) fun vu s3 ⟨u, H3, I3, pu, eu, e3⟩ => ?_
  subst eu e3
  refine thn (hst.run pins s3 σ H3 _ I3 q2) fun vs s4 ⟨o, H4, I4, ps, q4⟩ => ?_
  obtain ⟨a, xs, k', ex, hx, hlo, ek, hk, q0, q⟩ := q4
  subst ex ek
  cases r1
  cases pu
  have I5 : Inv X pins σ H4 { s4 with heap := s4.heap.push { cls := .type "slice", data := .fields #[vl, .none, vs] } } := I4.kept (t' := s4.toks) fun b ob q => Heap.get?_push_of_some _ q
  obtain ⟨its, r, ht, hz⟩ := I5.tuple hx
  have hlen := r.length
  show wpAny (model X.prog X.w) X.A (subscriptTail e (.Slice lo none (some st) p3) (.ref a) (.ref s4.heap.objs.size)) (EP X pins σ Q) X.xe { s4 with heap := s4.heap.push { cls := .type "slice", data := .fields #[vl, .none, vs] } }
  refine tail_any (ops := [.ref a, .ref s4.heap.objs.size]) ht.typeIs (PyProof.Rows.slot_tuple_getitem.lookup) ?_ (by with_unfolding_all rfl)
  refine getItem_tuple_step ht (Heap.IsSliceOf.new _ vl .none vs) pl ps hlo hk (fun e ek => ?_) ?_ (by rw [List.size_toArray]; omega)
  · refine ⟨.ref a, H4, I5, rfl, q0 ?_⟩
    have e : clipN xs.length l = 0 := by rw [hlen]; exact e
    rw [← step_clip, e, ek]
    exact (step_all xs).symm
  · refine ⟨.ref _, _, I5.laid (t' := s4.toks) (o := .tup (stepA xs (loN l) k'.toNat)) (fun b ob q => Heap.get?_push_of_some _ q) (Nat.le_refl _) ?_, rfl, q _ (I5.hok.fresh (Nat.le_refl _))⟩
    refine ⟨Nat.le_trans (step_len _ _ _) hz, _, ?_, IsTup.new _ _⟩
    show Vals _ (stepA its (loN l) k'.toNat)
    unfold stepA
    rw [hlen]
    exact pick_vals r _
end
section
variable {c : Cc} {sp : List Sl} {Q : D → Prop} {e st a b : Expr} {lo : Option Expr} {p3 pos : Pos} {QL : List D → Prop}
/-- t[lo::k], a tuple -/
theorem E_stepT (h : E c e sp fun d => O c lo sp fun l => O c (some st) sp fun k => ∃ xs k', d = .tuple xs ∧ loOk l ∧ k = some k' ∧ 0 < k' ∧ Q (.tuple (stepA xs (loN l) k'.toNat))) : E c (.Subscript e (.Slice lo none (some st) p3) pos) sp Q := Sealed.of fun X hX G F0 F H σ r R k => by
  refine PE_tE (pe_stepT pe_tE po_tO po_tO) ?_
  refine h X hX G F0 F H σ r _ fun d v F1 H1 q1 g1 d1 => ?_
  refine q1 X hX G F0 F1 H1 σ (r.grow g1) _ fun l F2 H2 q2 g2 => ?_
  refine Sealed.run q2 X hX G F0 F2 H2 σ ((r.grow g1).grow g2) _ fun u F3 H3 q3 g3 => ?_
  obtain ⟨xs, k', rfl, hlo, rfl, hk, q⟩ := q3
  obtain ⟨a, vs, rfl, h1, h2⟩ := dp_tuple d1
  rw [hX.K]
  have gg := (g1.trans g2).trans g3
  have hs3 : F3 a = some (.tup vs) := tp_mono (g2.f.trans g3.f) h1
  have hd3 := dpAll_mono (g2.f.trans g3.f) _ _ h2
  have hp : DpAll c.m.K F3 (stepA vs (loN l) k'.toNat) (stepA xs (loN l) k'.toNat) := by
    unfold stepA
    rw [dpAll_len h2]
    exact pick_dp hd3 _
  refine ⟨a, vs, k', rfl, sqT_mono g3.fh hs3, hlo, rfl, hk, fun e => ?_, fun p hp2 => ?_⟩
  · refine k _ _ F3 H3 q gg (.tup hs3 ?_)
    rw [e]; exact hp
  · have g4 := Grow.new_ (o := .tup (stepA vs (loN l) k'.toNat)) g3.fh hp2
    refine k _ _ _ _ q (gg.trans g4) (.tup upd_same (dpAll_mono g4.f _ _ hp))
/-- s * k, a text and a number -/
theorem opp_repS {x : Str} {k : Int} (hx : 1 ≤ x.length) (hk : k ≤ 100000) (hk0 : -100000 ≤ k) (hl : x.length ≤ 100) (q : Q (.str ⟨(List.replicate k.toNat x.cps.toList).flatten.toArray⟩)) : OpP c (binaryOp .Mult) (.str x) (.int k) Q := .of fun X hX => ⟨fun u v H R => ∃ x k, u = .str x ∧ v = .int k ∧ 1 ≤ x.length ∧ k ≤ 100000 ∧ -100000 ≤ k ∧ x.length ≤ 100 ∧ R (.str ⟨(List.replicate k.toNat x.cps.toList).flatten.toArray⟩) H, by
  intro pins s σ H u v a b Q I ru rv h
  obtain ⟨x, k, rfl, rfl, hx, hk, hk0, hl, q⟩ := h
  obtain ⟨t, rfl⟩ := ru
  obtain ⟨t2, rfl⟩ := rv
  have hsz : x.length * k.toNat ≤ 10000000 := Nat.le_trans (Nat.mul_le_mul hl (show k.toNat ≤ 100000 by omega)) (by decide)
  have e : ∀ l : List (Array Nat), l.foldl (· ++ ·) #[] = (l.map (·.toList)).flatten.toArray := fun l => by
    have key : ∀ (l : List (Array Nat)) (acc : Array Nat), (l.foldl (· ++ ·) acc).toList = acc.toList ++ (l.map (·.toList)).flatten := fun l => by
      induction l with
      | nil => intro acc; simp
      | cons a l ih => intro acc; rw [List.foldl_cons, ih]; simp
    have := key l #[]
    apply Array.ext'
    simpa using this
  have e3 : (List.replicate k.toNat x.cps).foldl (· ++ ·) #[] = (List.replicate k.toNat x.cps.toList).flatten.toArray := by rw [e, List.map_replicate]
  refine PySem.P.mul_str (by simp; omega) (fun _ _ => ?_) (fun _ _ => ?_) ?_
  · have : (100 : Int) ≤ (2 ^ 63 - 1) / k := (Int.le_ediv_iff_mul_le (by omega)).mpr (by omega)
    omega
  · refine decide_eq_false ?_
    have := sizeLine_eq
    omega
  · by_cases h1 : k < 1
    · rw [if_pos h1]
      have e0 : k.toNat = 0 := by omega
      rw [e0] at q
      exact ⟨Nat.zero_le _, .str _, H, I.tok _, ⟨_, rfl⟩, q⟩
    · rw [if_neg h1]
      by_cases h2 : (k == 1 || x.length == 0) = true
      · rw [if_pos h2]
        have e1 : k.toNat = 1 := by simp at h2; omega
        have e2 : (⟨(List.replicate 1 x.cps.toList).flatten.toArray⟩ : Str) = x := by simp
        rw [e1, e2] at q
        exact ⟨.str _, H, I, ⟨_, rfl⟩, q⟩
      · rw [if_neg h2]
        rw [← e3] at q
        refine ⟨?_, .str _, H, I.tok _, ⟨_, rfl⟩, q⟩
        rw [e3]
        show (List.replicate k.toNat x.cps.toList).flatten.toArray.size ≤ sizeLine
        have key : ∀ (m : Nat) (l : List Nat), (List.replicate m l).flatten.length = m * l.length := fun m l => by
          induction m with
          | zero => simp
          | succ m ih => rw [List.replicate_succ, List.flatten_cons, List.length_append, ih, Nat.succ_mul]; omega
        rw [List.size_toArray, key, Array.length_toList]
        have := sizeLine_eq
        have hx' : x.length = x.cps.size := rfl
        rw [← hx', Nat.mul_comm]
        omega, fun F H u v R s h1 h2 kk => by
  cases h1; cases h2
  exact ⟨x, k, rfl, rfl, hx, hk, hk0, hl, kk _ _ F H q (Grow.refl s) (.str _)⟩⟩
end
end Pl
set_option Elab.async false
set_option linter.all false
set_option maxRecDepth 100000
set_option maxHeartbeats 4000000
set_option autoImplicit false
namespace Cmb
open PySem PySem.Spec
open Sem (wp)
theorem mro_cm : mroOf (.type "itertools.combinations") = pure [.type "itertools.combinations", .type "object"] := by rw [mroOf_type]; kernel_rfl
theorem lookup_cm_new : typeLookup (.type "itertools.combinations") "__new__" = pure (some (.builtin "itertools.combinations.__new__")) := by rw [typeLookup_type, builtinLookup_eq_fast]; kernel_rfl
theorem slot_cm_init : Slot "itertools.combinations" "__init__" "object.__init__" :=
  .of (owner := "object") (n := "__init__") (by rw [typeLookup_type, builtinLookup_eq_fast]; kernel_rfl) (by decide +kernel) (by decide +kernel) (by decide +kernel)
    (by first | exact .inl (by decide +kernel) | exact .inr (by decide +kernel)) (by rw [isSubtype_type]; kernel_rfl)
theorem sub_cm : isSubtype (.type "itertools.combinations") (.type "itertools.combinations") = pure true := by rw [isSubtype_type]; kernel_rfl
theorem called_cm : TypeCalled "itertools.combinations" "itertools.combinations.__new__" "object.__init__" :=
  ⟨by decide +kernel, by decide +kernel, ⟨_, _, mro_cm⟩, madeBy_type mro_cm lookup_cm_new (by decide +kernel), by decide +kernel, sub_cm, slot_cm_init⟩
theorem typeCall_cm_2 (a b : Value) : checkTypeCall "itertools.combinations" ⟨[a, b], []⟩ = pure () := by kernel_rfl
theorem newCall_cm_2 (a b : Value) : checkBuiltinCall "itertools.combinations.__new__" ⟨[.type "itertools.combinations", a, b], []⟩ = pure () := by kernel_rfl
theorem entry_cm_new : entryFor table "itertools.combinations.__new__" = some Builtin.«itertools.combinations.__new__» := entryFor_of_tree (by kernel_rfl)
theorem plain_cm_new : plainId "itertools.combinations.__new__" = true := by decide +kernel
theorem slot_cm_iter : Slot "itertools.combinations" "__iter__" "itertools.combinations.__iter__" :=
  .of (owner := "itertools.combinations") (n := "__iter__") (by rw [typeLookup_type, builtinLookup_eq_fast]; kernel_rfl) (by decide +kernel) (by decide +kernel) (by decide +kernel)
    (by first | exact .inl (by decide +kernel) | exact .inr (by decide +kernel)) sub_cm
theorem slot_cm_next : Slot "itertools.combinations" "__next__" "itertools.combinations.__next__" :=
  .of (owner := "itertools.combinations") (n := "__next__") (by rw [typeLookup_type, builtinLookup_eq_fast]; kernel_rfl) (by decide +kernel) (by decide +kernel) (by decide +kernel)
    (by first | exact .inl (by decide +kernel) | exact .inr (by decide +kernel)) sub_cm
theorem entry_cm_iter : entryFor table "itertools.combinations.__iter__" = some Builtin.«dict_keyiterator.__iter__» :=
  entryFor_alias (id' := "dict_keyiterator.__iter__") (by kernel_rfl) (by first | rfl | decide +kernel | (unfold String.splitOn; simp +decide [String.splitOnAux])) (by decide +kernel) (by kernel_rfl)
theorem entry_cm_next : entryFor table "itertools.combinations.__next__" = some Builtin.«itertools.combinations.__next__» := entryFor_of_tree (by kernel_rfl)
theorem owner_cm : Manifest.owners.lookup (String.ofList ['s', 'n', 'o', 'i', 't', 'a', 'n', 'i', 'b', 'm', 'o', 'c', '.', 's', 'l', 'o', 'o', 't', 'r', 'e', 't', 'i'].reverse) = some Manifest.sig_itertools_combinations := by kernel_rfl
theorem args_cm_iter (a : Value) : argsOk "itertools.combinations.__iter__" ⟨[a], []⟩ := by
  unfold argsOk; rw [signature?_of (id := "itertools.combinations.__iter__") (n := ['_', '_', 'r', 'e', 't', 'i', '_', '_']) (o := ['s', 'n', 'o', 'i', 't', 'a', 'n', 'i', 'b', 'm', 'o', 'c', '.', 's', 'l', 'o', 'o', 't', 'r', 'e', 't', 'i']) (by kernel_rfl) owner_cm]; kernel_rfl
theorem args_cm_next (a : Value) : argsOk "itertools.combinations.__next__" ⟨[a], []⟩ := by
  unfold argsOk; rw [signature?_of (id := "itertools.combinations.__next__") (n := ['_', '_', 't', 'x', 'e', 'n', '_', '_']) (o := ['s', 'n', 'o', 'i', 't', 'a', 'n', 'i', 'b', 'm', 'o', 'c', '.', 's', 'l', 'o', 'o', 't', 'r', 'e', 't', 'i']) (by kernel_rfl) owner_cm]; kernel_rfl
theorem noDict_cm : typeHasDict (.type "itertools.combinations") = false := by decide +kernel
section
open PyProof.Rows L2
variable {prog : Program} {w : World} {A : Around} {E : Value → Shared → Prop} {s : Shared} {r : Addr} {a b c : Int} {t u v : Tok} {n : Nat}
theorem code_cm_new_range {Q₁ : Value → Shared → Prop} {k : Nat} {tk : Tok} (hk : k ≤ 1000) (hh : A.handled = none) (hr : IsRange s.heap r a b c t u v) (hsmall : Builtin.Range.small a b c = true) (hn : Builtin.Range.rangeSize a b c = n) (hlen : n ≤ 2 ^ 24)
    (h : ∀ (h' : Heap) (tk : Nat) (acc : Array Value), (∀ b o, s.heap.get? b = some o → h'.get? b = some o) → ItemsOf (fun i v => ∃ t, v = .int (a + i * c) t) acc n →
      Q₁ (.ref (h'.objs.size + 1)) { s with heap := (h'.push { cls := .type "tuple", data := .seq acc }).push { cls := .type "itertools.combinations", data := .fields ([.ref h'.objs.size, rawInt (if k > n then 2 else 0), .none] ++ (List.range k).map fun (i : Nat) => rawInt i).toArray }, toks := tk }) :
    codeAny (model prog w) A (.call (.builtin "itertools.combinations.__new__") ⟨[.type "itertools.combinations", .ref r, .int (k : Int) tk], []⟩) (wants Q₁ E) s := by
  refine codeAny_of_tree ?_
  show wpAny _ A.in1 (do checkBuiltinCall "itertools.combinations.__new__" ⟨[.type "itertools.combinations", .ref r, .int (k : Int) tk], []⟩; again (.builtin "itertools.combinations.__new__" ⟨[.type "itertools.combinations", .ref r, .int (k : Int) tk], []⟩)) _ _ s
  refine wpAny_bind (wpAny_of_eq (newCall_cm_2 _ _) (wpAny_pure ⟨plainId_quiet plain_cm_new _, codeAny_builtin entry_cm_new ?_⟩))
  rw [Around.under_plainId plain_cm_new _]
  have hsub := sub_cm
  have hd := noDict_cm
  have hst : ("itertools." ++ "combinations" : String) = "itertools.combinations" := by decide +kernel
  have hi2 : ¬ ((decide ((k : Int) < -(2 ^ 63 : Int)) || decide ((k : Int) ≥ 2 ^ 63)) = true) := by
    have a : decide ((k : Int) < -(2 ^ 63 : Int)) = false := decide_eq_false (by omega)
    have b : decide ((k : Int) ≥ 2 ^ 63) = false := decide_eq_false (by omega)
    rw [a, b]
    decide
  have hi1 : ¬ ((!(decide (-(2 ^ 63 : Int) ≤ (k : Int)) && decide ((k : Int) < (2 ^ 63 : Int)))) = true) := by
    have a : decide (-(2 ^ 63 : Int) ≤ (k : Int)) = true := decide_eq_true (by omega)
    have b : decide ((k : Int) < (2 ^ 63 : Int)) = true := decide_eq_true (by omega)
    rw [a, b]
    decide
  have hTI : s.TypeIs (.ref r) "range" := ⟨_, hr, rfl⟩
  have hh1 : A.in1.handled = none := hh
  unfold Builtin.«itertools.combinations.__new__»
  repeat (first
      | rw [hst]
      | wp_step
      | simp only [List.head?_cons, Option.some_or, List.getElem?_cons_succ, List.getElem?_cons_zero, List.length_cons, List.length_nil, List.forIn_nil])
  rw [if_neg hi2]
  refine wpAny_pure ?_
  refine wpAny_bind (collect_range (A := A.in1) hh1 hr hsmall hn hlen fun h' tk' acc hk' hacc => ?_)
  have hsz : acc.toList.length = n := by rw [Array.length_toList]; exact hacc.1
  have hn0 : ¬ ((k : Int) < 0) := by omega
  have htm : Builtin.Itertools.itTooMany (k : Int) = false := by unfold Builtin.Itertools.itTooMany; exact decide_eq_false (by omega)
  have hszl : acc.toList.length ≤ sizeLine := by rw [hsz, sizeLine_eq]; omega
  rw [if_neg hn0]
  simp only [htm, Bool.false_eq_true, if_false]
  refine wpAny_bind (wpAny_newTuple ?_ hszl)
  refine wpAny_pure ?_
  refine wpAny_bind ?_
  unfold Builtin.Itertools.itNewRecord
  simp only [hd, Bool.not_false, if_true]
  refine wpAny_newObj_type ?_ (by simp [sizeOk]; rw [sizeLine_eq]; omega)
  refine wpAny_pure ?_
  have q := h h' tk' acc hk' hacc
  rw [hsz]
  show Q₁ (.ref (h'.push { cls := .type "tuple", data := .seq acc.toList.toArray }).objs.size) _
  rw [Heap.size_push, Array.toArray_toList]
  exact q
/-- the state of the walk: st 0 ahead of the first, 1 behind it, 2 at the end -/
abbrev IsCm (h : Heap) (it pool : Addr) (st : Int) (prev : Value) (idx : List Nat) : Prop := h.get? it = some { cls := .type "itertools.combinations", dict := none, data := .fields ([.ref pool, rawInt st, prev] ++ idx.map fun (i : Nat) => rawInt i).toArray, slots := #[] }
def nxt (n : Nat) (l : List Nat) : Option (List Nat) :=
  match List.find? (fun i => l.getD i 0 != i + n - l.length) (List.range l.length).reverse with
  | none => none
  | some i => some (l.take i ++ List.map (fun x => l.getD i 0 + 1 + x) (List.range (l.length - i)))
theorem nums_idx (idx : List Nat) : ((idx.map fun (i : Nat) => rawInt i).map fun | .int n _ => n.toNat | _ => 0) = idx := by
  rw [List.map_map]
  conv => rhs; rw [← List.map_id idx]
  apply List.map_congr_left
  intro i _
  rfl
theorem map_id {idx : List Nat} (f : Nat → Nat) (h : ∀ i, f i = i) : idx.map f = idx := by
  conv => rhs; rw [← List.map_id idx]
  exact List.map_congr_left fun i _ => h i
theorem cm_st {h : Heap} {it pool : Addr} {st st' : Int} {prev : Value} {idx : List Nat} (hit : IsCm h it pool st prev idx) : IsCm (h.update it (Obj.mapFields fun x => x.setIfInBounds 1 (rawInt st'))) it pool st' prev idx := by
  have := Heap.get?_update_self (Obj.mapFields fun x => x.setIfInBounds 1 (rawInt st')) hit rfl
  refine this.trans ?_
  simp [Obj.mapFields]
theorem cm_prev {h : Heap} {it pool : Addr} {st : Int} {prev prev' : Value} {idx : List Nat} (hit : IsCm h it pool st prev idx) : IsCm (h.update it (Obj.mapFields fun x => x.setIfInBounds 2 prev')) it pool st prev' idx := by
  have := Heap.get?_update_self (Obj.mapFields fun x => x.setIfInBounds 2 prev') hit rfl
  refine this.trans ?_
  simp [Obj.mapFields]
theorem cm_idx {h : Heap} {it pool : Addr} {st : Int} {prev : Value} {idx idx' : List Nat} (hit : IsCm h it pool st prev idx) : IsCm (h.update it (Obj.mapFields fun fs => fs.extract 0 3 ++ (idx'.map fun (n : Nat) => rawInt n).toArray)) it pool st prev idx' := by
  have := Heap.get?_update_self (Obj.mapFields fun fs => fs.extract 0 3 ++ (idx'.map fun (n : Nat) => rawInt n).toArray) hit rfl
  refine this.trans ?_
  simp [Obj.mapFields]
/-- what is handed out -/
theorem hand_out {it pool : Addr} {st : Int} {prev : Value} {idx : List Nat} {items : Array Value} {Q : Option Value → Shared → Prop} (hit : IsCm s.heap it pool st prev idx) (hp : IsTup s.heap pool items) (hl : idx.length ≤ 1000)
    (hQ : ∀ h', IsCm h' it pool st (.ref s.heap.objs.size) idx → (∀ b o, b ≠ it → s.heap.get? b = some o → h'.get? b = some o) → h'.get? s.heap.objs.size = some { cls := .type "tuple", data := .seq (idx.map fun i => items.getD i .none).toArray } → Q (some (.ref s.heap.objs.size)) { s with heap := h' }) :
    wpAny (model prog w) A (newTuple (idx.map fun i => items.getD i .none)) (fun a s' => wpAny (model prog w) A (field (.ref it) 2 >>= fun b => setField (.ref it) 2 a >>= fun _ => letGo [b] [a] >>= fun _ => ret a) (fun fin s' => ∃ v, fin = Fin.done (Flow.ret v) ∧ Q (some v) s') E s') E s := by
  have hlt : it < s.heap.objs.size := Heap.lt_size hit
  refine (wpAny_newTuple ?_ (by rw [List.length_map, sizeLine_eq]; omega))
  have hit1 : IsCm (s.heap.push { cls := .type "tuple", data := .seq (idx.map fun i => items.getD i .none).toArray }) it pool st prev idx := Heap.get?_push_of_some _ hit
  refine wpAny_bind (wpAny_field hit1 rfl (x := prev) (by simp) ?_)
  refine wpAny_bind (wpAny_setField hit1 rfl (by simp) ?_)
  refine wpAny_bind (wpAny_letGo ?_)
  refine wpAny_pure ⟨_, rfl, hQ _ (cm_prev hit1) (fun b o hb e => ?_) ?_⟩
  · rw [Heap.get?_update_ne _ _ _ _ hb]
    exact Heap.get?_push_of_some _ e
  · rw [Heap.get?_update_ne _ _ _ _ (Nat.ne_of_gt hlt)]
    exact Heap.get?_push_size _ rfl
/-- the first -/
theorem next_first {it pool : Addr} {idx : List Nat} {items : Array Value} {Q : Option Value → Shared → Prop} (hit : IsCm s.heap it pool 0 .none idx) (hp : IsTup s.heap pool items) (hl : idx.length ≤ 1000)
    (hQ : ∀ h', IsCm h' it pool 1 (.ref s.heap.objs.size) idx → (∀ b o, b ≠ it → s.heap.get? b = some o → h'.get? b = some o) → h'.get? s.heap.objs.size = some { cls := .type "tuple", data := .seq (idx.map fun i => items.getD i .none).toArray } → Q (some (.ref s.heap.objs.size)) { s with heap := h' }) :
    wpAny (model prog w) A (callSpecial? (.ref it) "__next__") Q E s := by
  have hT : s.TypeIs (.ref it) "itertools.combinations" := ⟨_, hit, rfl⟩
  refine wpAny_callSpecial?_slot (name := Str.ofString "__next__") hT slot_cm_next (wpAny_call_entry slot_cm_next hT entry_cm_next ?_ (args_cm_next _))
  unfold Builtin.«itertools.combinations.__next__»
  repeat (first
      | wp_step
      | simp only [List.head?_cons, Option.some_or, List.getElem?_cons_succ, List.getElem?_cons_zero, List.length_cons, List.length_nil, List.forIn_nil])
  obtain ⟨op, hop, hoc, n0, hod⟩ := id hp
  have hpn : pool ≠ it := fun e => by
    rw [e, hit] at hop
    have := Option.some.inj hop
    rw [← this] at hoc
    have hoc : (Value.type "itertools.combinations") = .type "tuple" := hoc
    exact absurd hoc (by decide)
  have hop1 : (s.heap.update it (Obj.mapFields fun x => x.setIfInBounds 1 (rawInt 1))).get? pool = some op := by rw [Heap.get?_update_ne _ _ _ _ hpn]; exact hop
  refine wpAny_load hop1 ?_
  rw [hod]
  refine wpAny_pure ?_
  refine wpAny_pure ?_
  simp only [List.cons_append, List.nil_append, List.drop_succ_cons, List.drop_zero, List.map_map]
  refine hand_out (prog := prog) (w := w) (A := A.in1) (E := E) (s := { s with heap := s.heap.update it (Obj.mapFields fun x => x.setIfInBounds 1 (rawInt 1)) }) (Q := Q) (cm_st hit) ⟨op, hop1, hoc, n0, hod⟩ hl (fun h' a1 a2 a3 => ?_)
  have hsz : (s.heap.update it (Obj.mapFields fun x => x.setIfInBounds 1 (rawInt 1))).objs.size = s.heap.objs.size := Heap.size_update ..
  have a1 : IsCm h' it pool 1 (.ref (s.heap.update it (Obj.mapFields fun x => x.setIfInBounds 1 (rawInt 1))).objs.size) idx := a1
  have a3 : h'.get? (s.heap.update it (Obj.mapFields fun x => x.setIfInBounds 1 (rawInt 1))).objs.size = _ := a3
  show Q (some (.ref (s.heap.update it (Obj.mapFields fun x => x.setIfInBounds 1 (rawInt 1))).objs.size)) _
  rw [hsz] at a1 a3 ⊢
  exact hQ h' a1 (fun b o hb e => a2 b o hb (by show (s.heap.update it _).get? b = _; rw [Heap.get?_update_ne _ _ _ _ hb]; exact e)) a3
end
end Cmb
set_option Elab.async false
set_option linter.all false
set_option maxRecDepth 100000
set_option maxHeartbeats 4000000
set_option autoImplicit false
namespace Cmb
open PySem PySem.Spec
open Sem (wp)
section
open PyProof.Rows L2
variable {prog : Program} {w : World} {A : Around} {E : Value → Shared → Prop} {s : Shared}
/-- one more -/
theorem next_more {it pool : Addr} {idx idx' : List Nat} {prev : Value} {items : Array Value} {Q : Option Value → Shared → Prop} (hit : IsCm s.heap it pool 1 prev idx) (hp : IsTup s.heap pool items) (hl : idx'.length ≤ 1000) (hnx : nxt items.size idx = some idx')
    (hQ : ∀ h', IsCm h' it pool 1 (.ref s.heap.objs.size) idx' → (∀ b o, b ≠ it → s.heap.get? b = some o → h'.get? b = some o) → h'.get? s.heap.objs.size = some { cls := .type "tuple", data := .seq (idx'.map fun i => items.getD i .none).toArray } → Q (some (.ref s.heap.objs.size)) { s with heap := h' }) :
    wpAny (model prog w) A (callSpecial? (.ref it) "__next__") Q E s := by
  have hT : s.TypeIs (.ref it) "itertools.combinations" := ⟨_, hit, rfl⟩
  refine wpAny_callSpecial?_slot (name := Str.ofString "__next__") hT slot_cm_next (wpAny_call_entry slot_cm_next hT entry_cm_next ?_ (args_cm_next _))
  unfold Builtin.«itertools.combinations.__next__»
  repeat (first
      | wp_step
      | simp only [List.head?_cons, Option.some_or, List.getElem?_cons_succ, List.getElem?_cons_zero, List.length_cons, List.length_nil, List.forIn_nil])
  obtain ⟨op, hop, hoc, n0, hod⟩ := id hp
  refine wpAny_load hop ?_
  rw [hod]
  refine wpAny_pure ?_
  refine wpAny_pure ?_
  simp only [List.cons_append, List.nil_append, List.drop_succ_cons, List.drop_zero, List.map_map]
  rw [map_id (idx := idx)]
  case h => intro i; rfl
  split
  case h_2 heq =>
    have e2 : nxt items.size idx = none := heq
    rw [hnx] at e2
    cases e2
  case h_1 next heq =>
    have e2 : nxt items.size idx = some next := heq
    rw [hnx] at e2
    cases e2
    unfold Builtin.Itertools.itSetNumbersFrom
    refine wpAny_bind (wpAny_updateFields hit rfl ?_ (by simp; have := sizeLine_eq; omega))
    have hit1 : IsCm (s.heap.update it (Obj.mapFields fun fs => fs.extract 0 3 ++ (idx'.map fun (n : Nat) => rawInt n).toArray)) it pool 1 prev idx' := cm_idx hit
    have hpn : pool ≠ it := fun e => by
      rw [e, hit] at hop
      have := Option.some.inj hop
      rw [← this] at hoc
      have hoc : (Value.type "itertools.combinations") = .type "tuple" := hoc
      exact absurd hoc (by decide)
    have hop1 : (s.heap.update it (Obj.mapFields fun fs => fs.extract 0 3 ++ (idx'.map fun (n : Nat) => rawInt n).toArray)).get? pool = some op := by rw [Heap.get?_update_ne _ _ _ _ hpn]; exact hop
    refine wpAny_bind ?_
    refine wpAny_bind ?_
    unfold Builtin.Itertools.itPoolItems
    refine wpAny_bind ?_
    show wpAny _ _ (load pool >>= _) _ _ _
    refine wpAny_bind (wpAny_load hop1 ?_)
    rw [hod]
    refine wpAny_pure ?_
    refine wpAny_pure ?_
    have hsz : (s.heap.update it (Obj.mapFields fun fs => fs.extract 0 3 ++ (idx'.map fun (n : Nat) => rawInt n).toArray)).objs.size = s.heap.objs.size := Heap.size_update ..
    refine hand_out (prog := prog) (w := w) (A := A.in1) (E := E) (s := { s with heap := s.heap.update it (Obj.mapFields fun fs => fs.extract 0 3 ++ (idx'.map fun (n : Nat) => rawInt n).toArray) }) (Q := Q) hit1 ⟨op, hop1, hoc, n0, hod⟩ hl (fun h' a1 a2 a3 => ?_)
    have a1 : IsCm h' it pool 1 (.ref (s.heap.update it (Obj.mapFields fun fs => fs.extract 0 3 ++ (idx'.map fun (n : Nat) => rawInt n).toArray)).objs.size) idx' := a1
    have a3 : h'.get? (s.heap.update it (Obj.mapFields fun fs => fs.extract 0 3 ++ (idx'.map fun (n : Nat) => rawInt n).toArray)).objs.size = _ := a3
    show Q (some (.ref (s.heap.update it (Obj.mapFields fun fs => fs.extract 0 3 ++ (idx'.map fun (n : Nat) => rawInt n).toArray)).objs.size)) _
    rw [hsz] at a1 a3 ⊢
    exact hQ h' a1 (fun b o hb e => a2 b o hb (by show (s.heap.update it _).get? b = _; rw [Heap.get?_update_ne _ _ _ _ hb]; exact e)) a3
/-- the end: behind the last, or none at all -/
theorem next_none {it pool : Addr} {st : Int} {idx : List Nat} {prev : Value} {items : Array Value} {Q : Option Value → Shared → Prop} (hh : A.handled = none) (hit : IsCm s.heap it pool st prev idx) (hp : IsTup s.heap pool items) (hst : (st = 1 ∧ nxt items.size idx = none) ∨ st = 2)
    (hQ : ∀ e h', CpRep.StopE e h' → Heap.ExtBut it s.heap h' → E e { s with heap := h' }) : wpAny (model prog w) A (callSpecial? (.ref it) "__next__") Q E s := by
  have hT : s.TypeIs (.ref it) "itertools.combinations" := ⟨_, hit, rfl⟩
  refine wpAny_callSpecial?_slot (name := Str.ofString "__next__") hT slot_cm_next (wpAny_call_entry slot_cm_next hT entry_cm_next ?_ (args_cm_next _))
  unfold Builtin.«itertools.combinations.__next__»
  have stop : ∀ h1 : Heap, Heap.ExtBut it s.heap h1 → wpAny (model prog w) A.in1 (Builtin.Itertools.itStop) (fun fin s' => ∃ v, fin = Fin.done (Flow.ret v) ∧ Q (some v) s') E { s with heap := h1 } := fun h1 hx => by
    unfold Builtin.Itertools.itStop
    refine wpAny_bind ?_
    simp only [newExc, newTuple]
    refine wpAny_bind (wpAny_newObj_type ?_ (by size_fits))
    refine wpAny_bind (m := firstArgMember _ _) (wpAny_of_eq (a := Value.none) (by first | rfl | (simp only [firstArgMember]; rfl)) ?_)
    refine wpAny_newObj_type ?_ (by size_fits)
    simp only [raiseNew]
    refine wpAny_bind (wpAny_handled ?_)
    first | rw [show A.in1.handled = none from hh] | rw [hh]
    refine wpAny_bind (wpAny_pure (wpAny_throw ?_))
    exact hQ _ _ ⟨_, _, _, rfl, Heap.get?_push_size _ rfl, rfl, rfl, rfl⟩ ((hx.push _).push _)
  rcases hst with ⟨rfl, hnx⟩ | rfl
  · repeat (first
        | wp_step
        | simp only [List.head?_cons, Option.some_or, List.getElem?_cons_succ, List.getElem?_cons_zero, List.length_cons, List.length_nil, List.forIn_nil])
    obtain ⟨op, hop, hoc, n0, hod⟩ := id hp
    refine wpAny_load hop ?_
    rw [hod]
    refine wpAny_pure ?_
    refine wpAny_pure ?_
    simp only [List.cons_append, List.nil_append, List.drop_succ_cons, List.drop_zero, List.map_map]
    rw [map_id (idx := idx)]
    case h => intro i; rfl
    split
    case h_1 next heq =>
      have e2 : nxt items.size idx = some next := heq
      rw [hnx] at e2
      cases e2
    case h_2 heq =>
      refine wpAny_bind (wpAny_setField hit rfl (by simp) ?_)
      exact stop _ (fun b u hb e => by rw [Heap.get?_update_ne _ _ _ _ hb]; exact e)
  · repeat (first
        | wp_step
        | simp only [List.head?_cons, Option.some_or, List.getElem?_cons_succ, List.getElem?_cons_zero, List.length_cons, List.length_nil, List.forIn_nil])
    simp only [raiseNew]
    refine wpAny_bind (wpAny_handled ?_)
    first | rw [show A.in1.handled = none from hh] | rw [hh]
    refine wpAny_bind (wpAny_pure (wpAny_throw ?_))
    exact hQ _ _ ⟨_, _, _, rfl, Heap.get?_push_size _ rfl, rfl, rfl, rfl⟩ (((Heap.ExtBut.refl it s.heap).push _).push _)
end
end Cmb
set_option Elab.async false
set_option linter.all false
set_option maxRecDepth 100000
set_option maxHeartbeats 4000000
set_option autoImplicit false
namespace Pl
open PySem PySem.Spec PyProof.Rows L2
open Sem (wp)
open AutoSeq1 (wpAny_loadPart')
/-! ### enumerate(tuple), zip(tuple, tuple) -/
theorem enum_newT (l : Addr) (items : Array Value) (n : Nat) (dct : Option Addr) (sl : Array (Option Value)) :
    Meets (Builtin.«enumerate.__new__» ⟨[.type "enumerate", .ref l], []⟩) (fun _ R s => s.heap.get? l = some { cls := .type "tuple", dict := dct, data := .seq items n, slots := sl } ∧
      R (.ok (.ret (.ref (s.heap.push { cls := .type "tuple_iterator", data := .fields #[.ref l, .int 0 0] }).objs.size)))
        { s with heap := (s.heap.push { cls := .type "tuple_iterator", data := .fields #[.ref l, .int 0 0] }).push { cls := .type "enumerate", data := .fields #[.none, .bool false, .ref s.heap.objs.size, rawInt 0, .none, .none] } }) :=
  .of_wp fun prog w A R s h => by
    obtain ⟨hp, g, d, tk, os⟩ := s; obtain ⟨hl, h⟩ := h
    have hsub := sub_enumerate
    have hL : Heap.IsTuple (Shared.heap ⟨hp, g, d, tk, os⟩) l items := ⟨_, hl, rfl, n, rfl⟩
    wp_walk using wpAny_loadPart' hl
    refine wpAny_stack_any fun st => wpAny_pure ?_
    split
    · rename_i c _ _ _ _ _
      cases (c == Value.type "enumerate")
      · wp_walk using wpAny_loadPart' hl, wpAny_pyIter_tuple hL
        exact ⟨_, rfl, h⟩
      · wp_walk using wpAny_loadPart' hl, wpAny_pyIter_tuple hL
        exact ⟨_, rfl, h⟩
    · wp_walk using wpAny_loadPart' hl, wpAny_pyIter_tuple hL
      exact ⟨_, rfl, h⟩
section
variable {prog : Program} {w : World} {A : Around} {E : Value → Shared → Prop} {s : Shared}
theorem call_enumT {l : Addr} {items : Array Value} {Q : Value → Shared → Prop} (hL : s.heap.IsTuple l items)
    (h : ∀ h', IsEnum h' (s.heap.objs.size + 1) s.heap.objs.size 0 .none → h'.IsTupleIter s.heap.objs.size l 0 → h'.objs.size = s.heap.objs.size + 2 →
      (∀ b o, s.heap.get? b = some o → h'.get? b = some o) → Q (.ref (s.heap.objs.size + 1)) { s with heap := h' }) :
    wpAny (model prog w) A (call (.type "enumerate") [.ref l]) Q E s := by
  obtain ⟨⟨c, dct, dt, sl⟩, hl, hc, n, hd⟩ := hL
  replace hc : c = .type "tuple" := hc
  replace hd : dt = .seq items n := hd
  subst hc hd
  refine callType_new F.called_enumerate (by decide) (F.typeCall_enumerate_1 _) (F.newCall_enumerate_1 _) (fun obj => F.args_object_init_2 obj _) F.entry_enumerate_new
    (enum_newT l items n dct sl) ⟨hl, ?_⟩
  have hz : (s.heap.push { cls := .type "tuple_iterator", data := .fields #[.ref l, .int 0 0] }).objs.size = s.heap.objs.size + 1 := Heap.size_push ..
  show _ ∧ _
  rw [hz]
  have he : IsEnum ((s.heap.push { cls := .type "tuple_iterator", data := .fields #[.ref l, .int 0 0] }).push
      { cls := .type "enumerate", data := .fields #[.none, .bool false, .ref s.heap.objs.size, rawInt 0, .none, .none] }) (s.heap.objs.size + 1) s.heap.objs.size 0 .none := by
    have := Heap.get?_push_size (s.heap.push { cls := .type "tuple_iterator", data := .fields #[.ref l, .int 0 0] })
      (o := { cls := .type "enumerate", data := .fields #[.none, .bool false, .ref s.heap.objs.size, rawInt 0, .none, .none] }) rfl
    rw [hz] at this; exact this
  refine ⟨⟨_, he, rfl⟩, h _ he ⟨_, Heap.get?_push_of_some _ (Heap.get?_push_size _ rfl), rfl, rfl⟩ (by rw [Heap.size_push, hz]) fun b o x => Heap.get?_push_of_some _ (Heap.get?_push_of_some _ x)⟩
end
/-- the tuple at a, each item in a new pair -/
def IteT (K : PySem.W.Frag) (a : Addr) : It :=
  ⟨fun i H => ∃ (xs : List V) (x : V), SqT K H a xs ∧ xs[i]? = some x, fun i H v H' => ∃ T x, v = .ref T ∧ H T = none ∧ H' = upd H T (.tup [.int (i : Nat), x]) ∧ ∀ xs, SqT K H a xs → xs[i]? = some x, fun i H => ∃ xs : List V, SqT K H a xs ∧ xs.length ≤ i⟩
theorem turn_enumT {P : Program} {w : World} {K : PySem.W.Frag} {elts : List Expr} {kk : Nat} {tpos : Pos} (a e it : Addr) :
    Turn P w K (.Tuple elts kk tpos) (IteT K a) [e, it] e (fun i h => (∃ old, IsEnum h e it ((i : Nat) : Int) old) ∧ h.IsTupleIter it a i ∧ e ≠ it) where
  mem := by simp
  obj := fun i h st b hb => by
    obtain ⟨⟨old, he⟩, ⟨o, ho, hc, hd⟩, _⟩ := st
    have e' : b = e ∨ b = it := by simpa using hb
    rcases e' with z | z
    · rw [z]; exact ⟨_, he, fun v q => nomatch q⟩
    · rw [z]; exact ⟨o, ho, fun v q => by rw [hd] at q; cases q⟩
  keep := fun i h h' st k => let ⟨⟨old, he⟩, hi, hne⟩ := st; ⟨⟨old, k e (by simp) _ he⟩, hi.at fun o q => k it (by simp) o q, hne⟩
  item := by
    intro X hP hw hK hc i pins s σ H E I hf st hg
    subst hP hw hK
    obtain ⟨⟨old, he⟩, hit, hne⟩ := st
    obtain ⟨xs, x, hq, hx⟩ := hg
    obtain ⟨its, rv, p, hz⟩ := I.tuple hq
    obtain ⟨u, hu, ru⟩ := rv.get hx
    have hel : e < s.heap.objs.size := Heap.lt_size he
    have hil : it < s.heap.objs.size := by obtain ⟨_, q, _⟩ := hit; exact Heap.lt_size q
    have hai : a ≠ it := fun z => by
      obtain ⟨o, ho, hoc, _⟩ := p; obtain ⟨o', ho', hoc', _⟩ := hit
      rw [z, ho'] at ho; cases ho; rw [hoc] at hoc'; exact absurd hoc' (by decide)
    have hae : e ∉ [it, a] := fun z => by
      have z' : e = it ∨ e = a := by simpa using z
      rcases z' with z | z
      · exact hne z
      · obtain ⟨o, ho, hoc, _⟩ := p
        rw [← z] at ho
        have := he.symm.trans ho
        cases this
        have hoc : (Value.type "enumerate") = .type "tuple" := hoc
        exact absurd hoc (by decide)
    have hlt : i < its.toArray.size := by
      rcases Nat.lt_or_ge i its.toArray.size with c | c
      · exact c
      · rw [List.getElem?_eq_none (by simpa using c)] at hu; cases hu
    have D := Draws.tuple (prog := X.prog) (w := X.w) (A := X.A.in1) (I.ok.hd hc) it a hai its.toArray
    refine wpAny_pyNext_enum_itemD D he ⟨hit, p⟩ hlt hne hae fun x2 h' tk hP ho hit' hT hsz hk => ?_
    have hx2 : x2 = u := by
      have : its.toArray[i]? = some x2 := hP
      rw [List.getElem?_toArray, hu] at this
      cases this; rfl
    subst hx2
    obtain ⟨hit2, _⟩ := hit'
    refine ⟨_, rfl, wpAny_letOwnedTupleGo_enum (s := { s with heap := h', toks := tk + 1 }) ho fun h'' he' sb => ?_⟩
    have hT2 : h''.get? s.heap.objs.size = some { cls := .type "tuple", data := .seq #[.int i tk, x2] } := (sb.2 _ (Nat.ne_of_gt hel)).trans hT
    have new : ObjOk X.prog X.w (upd H s.heap.objs.size (.tup [.int (i : Nat), x])) h'' s.heap.objs.size (.tup [.int (i : Nat), x]) :=
      ⟨by show 2 ≤ sizeLine; decide, [.int i tk, x2], .cons ⟨_, rfl⟩ (.cons ru .nil), ⟨_, hT2, rfl, _, rfl⟩⟩
    have I1 : Inv X pins σ (upd H s.heap.objs.size (.tup [.int (i : Nat), x])) { s with heap := h'', toks := tk + 1 } :=
      I.turnedNew (ch := [e, it]) (fun b ob hb q => (sb.2 b (fun z => hb (by simp [z]))).trans (hk b ob (fun z => hb (by simp [z])) (fun z => hb (by simp [z])) q)) hf (Nat.le_refl _) new
    refine ⟨.ref s.heap.objs.size, _, I1, rfl, ⟨_, x, rfl, I.hok.fresh (Nat.le_refl _), rfl, fun ys hy => by rw [I.tuple_inj hy hq]; exact hx⟩, ⟨⟨x2, ?_⟩, hit2.at fun o q => (sb.2 it (Ne.symm hne)).trans q, hne⟩, fun b hb => ?_⟩
    · have e1 : ((i + 1 : Nat) : Int) = (i : Int) + 1 := by omega
      rw [e1]; exact he'
    · have hb' : b < s.heap.objs.size := by
        have e' : b = e ∨ b = it := by simpa using hb
        rcases e' with z | z
        · rw [z]; exact hel
        · rw [z]; exact hil
      rw [upd_ne (Nat.ne_of_lt hb')]
      exact (hf b hb).1
  done := by
    intro X hP hw hK hc i pins s σ H E I hf st hg
    subst hP hw hK
    obtain ⟨⟨old, he⟩, hit, hne⟩ := st
    obtain ⟨xs, hq, hx⟩ := hg
    obtain ⟨its, rv, p, hz⟩ := I.tuple hq
    obtain ⟨f0, f1, f2, f3, f4, f5⟩ := hf it (by simp)
    have hl := rv.length
    have hno : its.toArray[i]? = none := by rw [List.getElem?_toArray]; exact List.getElem?_eq_none (by omega)
    have hT : s.TypeIs (.ref e) "enumerate" := ⟨_, he, rfl⟩
    unfold pyNext
    refine wpAny_bind (wpAny_attempt (wpAny_callSpecial?_slot (name := Str.ofString "__next__") hT F.slot_enumerate_next
      (wpAny_call_entry F.slot_enumerate_next hT F.entry_enumerate_next ?_ (F.args_enumerate_next_1 _))))
    show wpAny _ _ (field (.ref e) 2 >>= _) _ _ _
    refine wpAny_bind (wpAny_field he rfl (x := .ref it) rfl ?_)
    refine wpAny_bind (wpAny_nextOf_tuple_end (A := X.A.in1) (I.ok.hd hc) hit p hno fun h' x he' hx' => ?_)
    obtain ⟨o, ho, hc'⟩ := hx'
    refine wpAny_bind (wpAny_isInstance (T := "StopIteration") (b := true) ⟨o, ho, hc'⟩ isSubtype_stop ?_)
    exact wpAny_pure ⟨rfl, I.turned (t' := s.toks) (fun b o hb q => he' b o hb q) f0 f1 f3 f4 f5⟩
  self := fun A i s Q E st h => let ⟨⟨_, he⟩, _⟩ := st; wpAny_pyIter_enum he h
def iEnumT (K : PySem.W.Frag) (ta : TA) : TI := fun σ H R => ta σ H fun vs H1 => ∃ a xs, vs = [.ref a] ∧ SqT K H1 a xs ∧ R (IteT K a) H1
theorem pi_enumT {X : Cx} {e : Expr} {ta : TA} {p pos tpos : Pos} {elts : List Expr} {kk : Nat} (hg : Gl X "enumerate") (hm : X.mg "enumerate" = none) (ha : PA X [e] ta) (hs : starEach [e] X.env = [(false, eval e X.env)] := by rfl) :
    PI X (.Tuple elts kk tpos) (.Call (.Name "enumerate" p) [e] [] pos) (iEnumT X.K ta) := by
  refine ⟨fun pins s σ H R I h => ?_⟩
  refine Call_ (ld_blt I hg hm boot_enumerate (PyProof.Rows.callWith_type1 (thn (ha.run pos pins s σ H _ I h) fun us s1 ⟨vs, H1, I1, r1, q1⟩ => ?_) hs rfl))
  obtain ⟨a, xs, ex, hq, q⟩ := q1
  subst ex
  cases r1 with
  | cons r rr =>
    cases rr
    cases r
    obtain ⟨its, rv, p', hz⟩ := I1.tuple hq
    refine call_enumT p' fun h' he hit hsz hk => wpAny_pyIter_enum he ?_
    have I2 : Inv X pins σ H1 { s1 with heap := h' } := I1.kept (t' := s1.toks) hk
    refine ⟨s1.heap.objs.size + 1, [s1.heap.objs.size + 1, s1.heap.objs.size], _, _, H1, rfl, I2, turn_enumT a (s1.heap.objs.size + 1) s1.heap.objs.size, ⟨⟨.none, he⟩, hit, Nat.succ_ne_self _⟩, fun b hb => ?_, q⟩
    have e' : b = s1.heap.objs.size + 1 ∨ b = s1.heap.objs.size := by simpa using hb
    have hle : s1.heap.objs.size ≤ b := by
      rcases e' with z | z
      · rw [z]; exact Nat.le_add_right _ _
      · rw [z]; exact Nat.le_refl _
    exact I1.fpOk hle (I1.hok.fresh hle)
section
variable {c : Cc} {sp : List Sl} {e a b : Expr} {pos p : Pos}
theorem W_enumT {elts : List Expr} {kk : Nat} {tpos : Pos} {QL : List D → Prop} (h : E c e sp fun d => ∃ ds, d = .tuple ds ∧ QL (enumD ds)) (hm : c.m.mg "enumerate" = none) (hg : GlS c.sc "enumerate" := by rfl) (hs : ∀ env, starEach [e] env = [(false, eval e env)] := by intro _; rfl) :
    W c (.Tuple elts kk tpos) (.Call (.Name "enumerate" p) [e] [] pos) sp QL := Sealed.of fun X hX G F0 F H σ r R k => by
  refine PI_tI (pi_enumT (hg.gl hX) (by rw [hX.mg]; exact hm) (pa_cons pe_tE pa_nil (hs _)) (hs _)) ?_
  refine h X hX G F0 F H σ r _ fun d v F1 H1 q g d1 => ?_
  obtain ⟨ds, rfl, q⟩ := q
  obtain ⟨l, vs, rfl, h1, h2⟩ := dp_tuple d1
  rw [hX.K]
  refine ⟨l, vs, rfl, sqT_mono g.fh h1, k _ _ F1 H1 q g ⟨fun F' H' i d s1 s2 e => ?_, fun F' H' i s1 s2 e => ?_⟩⟩
  · unfold enumD at e
    rw [List.getElem?_mapIdx] at e
    cases hc : ds[i]? with
    | none => rw [hc] at e; cases e
    | some d0 =>
      rw [hc] at e
      have e' : PyData.tuple [.int (i : Int), d0] = d := Option.some.inj e
      subst e'
      obtain ⟨v, q1, q2⟩ := dpAll_get' h2 hc
      refine ⟨⟨vs, v, sqT_mono (s1.trans s2) h1, q1⟩, fun x H'' q => ?_⟩
      obtain ⟨t, y, rfl, hn, rfl, q⟩ := q
      have := q vs (sqT_mono (s1.trans s2) h1)
      rw [q1] at this; cases this
      have g3 := Grow.new_ (o := .tup [.int (i : Nat), v]) s2 hn
      exact ⟨_, g3, .tup upd_same (.cons (.int _) (.cons (dp_mono (s1.trans g3.f) _ _ q2) .nil))⟩
  · unfold enumD at e
    rw [List.length_mapIdx] at e
    exact ⟨vs, sqT_mono (s1.trans s2) h1, by rw [dpAll_len h2]; exact e⟩
/-- for a, b in zip(two tuples) -/
theorem W_zipT {elts : List Expr} {kk : Nat} {tpos : Pos} {QL : List D → Prop} (h : E c a sp fun d => E c b sp fun g => ∃ ds gs, d = .tuple ds ∧ g = .tuple gs ∧ QL (zipD ds gs)) (hm : c.m.mg "zip" = none) (hg : GlS c.sc "zip" := by rfl)
    (hs : ∀ env, starEach [a, b] env = (false, eval a env) :: starEach [b] env := by intro _; rfl) (hs2 : ∀ env, starEach [b] env = (false, eval b env) :: starEach [] env := by intro _; rfl) (hpl : ∀ env, (backTo pos (starEach [b] env)).any (·.1) = false := by intro _; rfl) :
    W c (.Tuple elts kk tpos) (.Call (.Name "zip" p) [a, b] [] pos) sp QL := Sealed.of fun X hX G F0 F H σ r R k => by
  refine PI_tI (RZ.pi_zipA (hg.gl hX) (by rw [hX.mg]; exact hm) (pa_cons pe_tE (pa_cons pe_tE pa_nil (hs2 _)) (hs _)) (hs _) (hpl _)) ?_
  refine h X hX G F0 F H σ r _ fun d v F1 H1 q g d1 => ?_
  refine Sealed.run q X hX G F0 F1 H1 σ (r.grow g) _ fun d2 v2 F2 H2 q2 g2 dd2 => ?_
  obtain ⟨ds, gs, rfl, rfl, q3⟩ := q2
  obtain ⟨l, vs, rfl, h1, h2⟩ := dp_tuple (dp_mono g2.f _ _ d1)
  obtain ⟨l', vs', rfl, h1', h2'⟩ := dp_tuple dd2
  rw [hX.K]
  refine ⟨l, l', vs, vs', rfl, .inr ⟨sqT_mono g2.fh h1, sqT_mono g2.fh h1', k _ _ F2 H2 q3 (g.trans g2) ⟨fun F' H' i d s1 s2 e => ?_, fun F' H' i s1 s2 e => ?_⟩⟩⟩
  · unfold zipD at e
    rw [List.getElem?_zipWith] at e
    cases hc : ds[i]? with
    | none => rw [hc] at e; cases e
    | some d0 =>
      cases hc' : gs[i]? with
      | none => rw [hc, hc'] at e; cases e
      | some g0 =>
        rw [hc, hc'] at e
        have e' : PyData.tuple [d0, g0] = d := Option.some.inj e
        subst e'
        obtain ⟨v, q1, q2⟩ := dpAll_get' h2 hc
        obtain ⟨v', q1', q2'⟩ := dpAll_get' h2' hc'
        refine ⟨⟨vs, vs', v, v', sqT_mono (s1.trans s2) h1, sqT_mono (s1.trans s2) h1', q1, q1'⟩, fun x H'' q => ?_⟩
        obtain ⟨t, y, z, rfl, hn, rfl, qa, qb⟩ := q
        have := qa vs (sqT_mono (s1.trans s2) h1)
        rw [q1] at this; cases this
        have := qb vs' (sqT_mono (s1.trans s2) h1')
        rw [q1'] at this; cases this
        have g3 := Grow.new_ (o := .tup [v, v']) s2 hn
        exact ⟨_, g3, .tup upd_same (.cons (dp_mono (s1.trans g3.f) _ _ q2) (.cons (dp_mono (s1.trans g3.f) _ _ q2') .nil))⟩
  · unfold zipD at e
    rw [List.length_zipWith] at e
    refine ⟨vs, vs', sqT_mono (s1.trans s2) h1, sqT_mono (s1.trans s2) h1', ?_⟩
    rw [dpAll_len h2, dpAll_len h2']
    omega
end
end Pl
set_option Elab.async false
set_option linter.all false
set_option maxRecDepth 100000
set_option maxHeartbeats 4000000
set_option autoImplicit false
/-! ### the walk of combinations -/
namespace Cmb
open PySem PySem.Spec PyProof.Rows L2
def cmI (n k : Nat) : Nat → Option (List Nat)
  | 0 => if k ≤ n then some (List.range k) else none
  | i + 1 => (cmI n k i).bind (nxt n)
theorem nxt_len {n : Nat} {l l' : List Nat} (h : nxt n l = some l') : l'.length = l.length := by
  unfold nxt at h
  split at h
  · cases h
  · rename_i i hi
    have hm := List.mem_of_find?_eq_some hi
    have : i < l.length := by simpa using hm
    cases h
    rw [List.length_append, List.length_take, List.length_map, List.length_range]
    omega
theorem cmI_len {n k : Nat} : ∀ {i : Nat} {l : List Nat}, cmI n k i = some l → l.length = k
  | 0, l, h => by
    unfold cmI at h
    split at h
    · cases h; simp
    · cases h
  | i + 1, l, h => by
    unfold cmI at h
    cases e : cmI n k i with
    | none => rw [e] at h; cases h
    | some l0 => rw [e] at h; rw [nxt_len h]; exact cmI_len e
section
variable {prog : Program} {w : World} {A : Around} {E : Value → Shared → Prop} {s : Shared}
theorem pyIter_cm {it pool : Addr} {st : Int} {prev : Value} {idx : List Nat} {Q : Value → Shared → Prop} (hit : IsCm s.heap it pool st prev idx) (h : Q (.ref it) s) : wpAny (model prog w) A (pyIter (.ref it)) Q E s := by
  have hT : s.TypeIs (.ref it) "itertools.combinations" := ⟨_, hit, rfl⟩
  refine wpAny_pyIter_slot hT slot_cm_iter (wpAny_call_entry slot_cm_iter hT entry_cm_iter ?_ (args_cm_iter _))
  show wpAny _ _ (ret (.ref it)) _ _ s
  exact wpAny_pure ⟨_, rfl, "itertools.combinations", _, hT, slot_cm_next.lookup, h⟩
theorem pyNext_none {it pool : Addr} {st : Int} {idx : List Nat} {prev : Value} {items : Array Value} {Q : Option Value → Shared → Prop} (hh : A.handled = none) (hit : IsCm s.heap it pool st prev idx) (hp : IsTup s.heap pool items) (hst : (st = 1 ∧ nxt items.size idx = none) ∨ st = 2)
    (hQ : ∀ h', Heap.ExtBut it s.heap h' → Q none { s with heap := h' }) : wpAny (model prog w) A (pyNext (.ref it)) Q E s := by
  unfold pyNext
  refine wpAny_bind (wpAny_attempt (next_none hh hit hp hst fun e h' he hx => ?_))
  obtain ⟨a, o, vs, rfl, ho, hc, hd, _⟩ := he
  refine wpAny_bind (wpAny_isInstance (T := "StopIteration") (b := true) ⟨o, ho, hc⟩ isSubtype_stop ?_)
  exact wpAny_pure (hQ _ hx)
theorem pyNext_first {it pool : Addr} {idx : List Nat} {items : Array Value} {Q : Option Value → Shared → Prop} (hit : IsCm s.heap it pool 0 .none idx) (hp : IsTup s.heap pool items) (hl : idx.length ≤ 1000)
    (hQ : ∀ h', IsCm h' it pool 1 (.ref s.heap.objs.size) idx → (∀ b o, b ≠ it → s.heap.get? b = some o → h'.get? b = some o) → h'.get? s.heap.objs.size = some { cls := .type "tuple", data := .seq (idx.map fun i => items.getD i .none).toArray } → Q (some (.ref s.heap.objs.size)) { s with heap := h' }) :
    wpAny (model prog w) A (pyNext (.ref it)) Q E s := by
  unfold pyNext
  exact wpAny_bind (wpAny_attempt (next_first hit hp hl fun h' a b c => wpAny_pure (hQ h' a b c)))
theorem pyNext_more {it pool : Addr} {idx idx' : List Nat} {prev : Value} {items : Array Value} {Q : Option Value → Shared → Prop} (hit : IsCm s.heap it pool 1 prev idx) (hp : IsTup s.heap pool items) (hl : idx'.length ≤ 1000) (hnx : nxt items.size idx = some idx')
    (hQ : ∀ h', IsCm h' it pool 1 (.ref s.heap.objs.size) idx' → (∀ b o, b ≠ it → s.heap.get? b = some o → h'.get? b = some o) → h'.get? s.heap.objs.size = some { cls := .type "tuple", data := .seq (idx'.map fun i => items.getD i .none).toArray } → Q (some (.ref s.heap.objs.size)) { s with heap := h' }) :
    wpAny (model prog w) A (pyNext (.ref it)) Q E s := by
  unfold pyNext
  exact wpAny_bind (wpAny_attempt (next_more hit hp hl hnx fun h' a b c => wpAny_pure (hQ h' a b c)))
end
/-- the walk: new tuples of the pool's items -/
def ItC (vals : List V) (k : Nat) : It :=
  ⟨fun i _ => (cmI vals.length k i).isSome = true, fun i H v H' => ∃ T idx, cmI vals.length k i = some idx ∧ v = .ref T ∧ H T = none ∧ H' = upd H T (.tup (idx.map fun j => vals.getD j .non)), fun i _ => cmI vals.length k i = none⟩
def CmSt (items : Array Value) (k : Nat) (it pool : Addr) (i : Nat) (h : Heap) : Prop :=
  IsTup h pool items ∧ pool ≠ it ∧ ∃ st prev idx, IsCm h it pool st prev idx ∧ idx.length = k ∧ ((i = 0 ∧ ((k ≤ items.size ∧ st = 0 ∧ prev = .none ∧ idx = List.range k) ∨ (items.size < k ∧ st = 2))) ∨ ∃ j, i = j + 1 ∧ st = 1 ∧ cmI items.size k j = some idx)
theorem vals_len {vals : List V} {items : Array Value} (h : Vals vals items.toList) : vals.length = items.size := by
  have := h.length
  rw [Array.length_toList] at this
  exact this
theorem vals_pick {vals : List V} {items : Array Value} (h : Vals vals items.toList) : ∀ idx : List Nat, Vals (idx.map fun j => vals.getD j .non) (idx.map fun i => items.getD i .none)
  | [] => .nil
  | j :: idx => by
    refine .cons ?_ (vals_pick h idx)
    show L2.RelV (vals.getD j .non) (items.getD j .none)
    by_cases c : j < vals.length
    · obtain ⟨u, hu, ru⟩ := h.get (List.getElem?_eq_getElem c)
      have e1 : vals.getD j .non = vals[j] := by rw [List.getD_eq_getElem?_getD, List.getElem?_eq_getElem c]; rfl
      have e2 : items.getD j .none = u := by
        rw [Array.getElem?_toList] at hu
        rw [Array.getD_eq_getD_getElem?, hu]; rfl
      rw [e1, e2]; exact ru
    · have e1 : vals.getD j .non = .non := by rw [List.getD_eq_getElem?_getD, List.getElem?_eq_none (by omega)]; rfl
      have e2 : items.getD j .none = .none := by
        rw [Array.getD_eq_getD_getElem?, Array.getElem?_eq_none (by rw [← vals_len h]; omega)]; rfl
      rw [e1, e2]; rfl
theorem turn_cm {P : Program} {w : World} {K : PySem.W.Frag} {tg : Expr} {it pool : Addr} {items : Array Value} {vals : List V} {k : Nat} (hv : Vals vals items.toList) (hk : k ≤ 1000) :
    Turn P w K tg (ItC vals k) [it, pool] it (CmSt items k it pool) where
  mem := by simp
  obj := fun i h st b hb => by
    obtain ⟨⟨o, ho, hoc, n, hod⟩, _, st, prev, idx, hit, _⟩ := st
    have e' : b = it ∨ b = pool := by simpa using hb
    rcases e' with z | z
    · rw [z]; exact ⟨_, hit, fun v q => nomatch q⟩
    · rw [z]; exact ⟨o, ho, fun v q => by rw [hod] at q; cases q⟩
  keep := fun i h h' st kk => by
    obtain ⟨⟨o, ho, hoc, n, hod⟩, hne, st, prev, idx, hit, r⟩ := st
    exact ⟨⟨o, kk pool (by simp) _ ho, hoc, n, hod⟩, hne, st, prev, idx, kk it (by simp) _ hit, r⟩
  item := by
    intro X hP hw hK hc i pins s σ H E I hf st hg
    subst hP hw hK
    have hln := vals_len hv
    obtain ⟨hp, hne, st, prev, idx, hit, hil, hst⟩ := st
    have hg : (cmI vals.length k i).isSome = true := hg
    rw [hln] at hg
    obtain ⟨idx', he⟩ := Option.isSome_iff_exists.mp hg
    have hl' := cmI_len he
    have hlt : it < s.heap.objs.size := Heap.lt_size hit
    have hlp : pool < s.heap.objs.size := by obtain ⟨_, q, _⟩ := hp; exact Heap.lt_size q
    have fin : ∀ h' : Heap, IsCm h' it pool 1 (.ref s.heap.objs.size) idx' → (∀ b o, b ≠ it → s.heap.get? b = some o → h'.get? b = some o) → h'.get? s.heap.objs.size = some { cls := .type "tuple", data := .seq (idx'.map fun i => items.getD i .none).toArray } →
        ∃ u, some (Value.ref s.heap.objs.size) = some u ∧ wpAny (model X.prog X.w) X.A (letOwnedTupleGo tg (.ref it) u) (fun _ s2 => ∃ x H', L2.Inv X pins σ H' s2 ∧ RelV x u ∧ (ItC vals k).yld i H x H' ∧ CmSt items k it pool (i + 1) s2.heap ∧ ∀ b ∈ [it, pool], H' b = none) E { s with heap := h' } := by
      intro h' a1 a2 a3
      refine ⟨_, rfl, letGo_of_cls (s := { s with heap := h' }) a1 rfl rfl (by decide) ?_⟩
      have new : ObjOk X.prog X.w (upd H s.heap.objs.size (.tup (idx'.map fun j => vals.getD j .non))) h' s.heap.objs.size (.tup (idx'.map fun j => vals.getD j .non)) :=
        ⟨by rw [List.length_map, hl', sizeLine_eq]; omega, idx'.map fun i => items.getD i .none, vals_pick hv idx', ⟨_, a3, rfl, _, rfl⟩⟩
      have I1 : L2.Inv X pins σ (upd H s.heap.objs.size (.tup (idx'.map fun j => vals.getD j .non))) { s with heap := h' } :=
        I.turnedNew (t' := s.toks) (ch := [it]) (fun b ob hb q => a2 b ob (fun z => hb (by simp [z])) q) (fun b hb => hf b (by rw [List.mem_singleton.mp hb]; simp)) (Nat.le_refl _) new
      refine ⟨.ref s.heap.objs.size, _, I1, rfl, ⟨_, idx', by rw [hln]; exact he, rfl, I.hok.fresh (Nat.le_refl _), rfl⟩, ⟨?_, hne, 1, _, idx', a1, hl', .inr ⟨i, rfl, rfl, he⟩⟩, fun b hb => ?_⟩
      · obtain ⟨o, ho, r⟩ := hp
        exact ⟨o, a2 _ _ hne ho, r⟩
      · have hb' : b < s.heap.objs.size := by
          have e' : b = it ∨ b = pool := by simpa using hb
          rcases e' with z | z
          · rw [z]; exact hlt
          · rw [z]; exact hlp
        rw [upd_ne (Nat.ne_of_lt hb')]
        exact (hf b hb).1
    rcases hst with ⟨rfl, ⟨h1, rfl, rfl, rfl⟩ | ⟨h1, rfl⟩⟩ | ⟨j, rfl, rfl, hj⟩
    · have e0 : idx' = List.range k := by
        unfold cmI at he
        rw [if_pos h1] at he
        cases he; rfl
      subst e0
      exact pyNext_first hit hp (by rw [hl']; exact hk) fin
    · unfold cmI at he
      rw [if_neg (by omega)] at he
      cases he
    · have hn : nxt items.size idx = some idx' := by
        unfold cmI at he
        rw [hj] at he
        exact he
      exact pyNext_more hit hp (by rw [hl']; exact hk) hn fin
  done := by
    intro X hP hw hK hc i pins s σ H E I hf st hg
    subst hP hw hK
    have hln := vals_len hv
    obtain ⟨hp, hne, st, prev, idx, hit, hil, hst⟩ := st
    have hg : cmI vals.length k i = none := hg
    rw [hln] at hg
    obtain ⟨f0, f1, f2, f3, f4, f5⟩ := hf it (by simp)
    have fin : ∀ h', Heap.ExtBut it s.heap h' → (none : Option Value) = none ∧ L2.Inv X pins σ H { s with heap := h' } := fun h' eb => ⟨rfl, I.turned (t' := s.toks) (fun b o hb q => eb b o hb q) f0 f1 f3 f4 f5⟩
    rcases hst with ⟨rfl, ⟨h1, rfl, rfl, rfl⟩ | ⟨h1, rfl⟩⟩ | ⟨j, rfl, rfl, hj⟩
    · unfold cmI at hg
      rw [if_pos h1] at hg
      cases hg
    · exact pyNext_none (I.ok.hd hc) hit hp (.inr rfl) fin
    · refine pyNext_none (I.ok.hd hc) hit hp (.inl ⟨rfl, ?_⟩) fin
      unfold cmI at hg
      rw [hj] at hg
      exact hg
  self := fun A i s Q E st h => by
    obtain ⟨hp, hne, st, prev, idx, hit, r⟩ := st
    exact pyIter_cm hit h
/-! ### range as an argument, at a new address -/
def PRgF (X : Cx) (e : Expr) (t : L2.St → Hp → (Int → Int → Hp → Prop) → Prop) : Prop :=
  ∀ (pins : List (Addr × Obj)) (s : Shared) (σ : L2.St) (H : Hp) (Q : Int → Int → Hp → Prop), L2.Inv X pins σ H s → t σ H Q →
    wpAny (model X.prog X.w) X.A (eval e X.env) (fun x s' => ∃ r a b t u v H', x = .ref r ∧ IsRange s'.heap r a b 1 t u v ∧ (H' r = none ∧ r ≠ X.env.locals ∧ r ∉ X.fs) ∧ L2.Inv X pins σ H' s' ∧ Q a b H') X.xe s
section
variable {X : Cx} {a : Expr} {ta : TE}
theorem prf_1 {p pos : Pos} (hg : Gl X "range") (hm : X.mg "range" = none) (ha : PE X a ta) (na : starEach [a] X.env = (false, eval a X.env) :: starEach [] X.env := by rfl) : PRgF X (.Call (.Name "range" p) [a] [] pos) (tRg1 ta) := by
  intro pins s σ H Q I h
  refine Call_ (ld_blt I hg hm boot_range (PyProof.Rows.callWith_type1 (one_arg ha I h (fun v s2 x H2 I2 r q => ?_) na) na))
  obtain ⟨n, rfl, q⟩ := q
  obtain ⟨t, rfl⟩ := r
  exact call_range_1 ⟨_, 0, n, _, _, _, H2, rfl, IsRange.new _ _ _ _ _ _ _, ⟨I2.hok.fresh (Nat.le_refl _), Nat.ne_of_gt I2.lt, I2.nofs (Nat.le_refl _)⟩, I2.kept fun b u e => Heap.get?_push_of_some _ e, q⟩
theorem prf_2 {b : Expr} {tb : TE} {p pos : Pos} (hg : Gl X "range") (hm : X.mg "range" = none) (ha : PE X a ta) (hb : PE X b tb) (na : starEach [a, b] X.env = (false, eval a X.env) :: starEach [b] X.env := by rfl)
    (nb : starEach [b] X.env = (false, eval b X.env) :: starEach [] X.env := by rfl) (hp : (backTo pos (starEach [b] X.env)).any (·.1) = false := by rfl) : PRgF X (.Call (.Name "range" p) [a, b] [] pos) (tRg2 ta tb) := by
  intro pins s σ H Q I h
  refine Call_ (ld_blt I hg hm boot_range (PyProof.Rows.callWith_type1 (args_cons (thn (ha.run pins s σ H _ I h) fun v s1 ⟨x, H1, I1, r1, q1⟩ => one_arg hb I1 q1 (fun u s2 y H2 I2 r2 q => ?_) nb) na) na hp))
  obtain ⟨i, j, rfl, rfl, q⟩ := q
  obtain ⟨t, rfl⟩ := r1
  obtain ⟨t', rfl⟩ := r2
  exact call_range_2 ⟨_, i, j, _, _, _, H2, rfl, IsRange.new _ _ _ _ _ _ _, ⟨I2.hok.fresh (Nat.le_refl _), Nat.ne_of_gt I2.lt, I2.nofs (Nat.le_refl _)⟩, I2.kept fun b u e => Heap.get?_push_of_some _ e, q⟩
end
theorem vals_rgC {a b : Int} {acc : Array Value} (hi : ItemsOf (fun i v => ∃ t, v = .int (a + i * 1) t) acc (b - a).toNat) : Vals (rgV a b) acc.toList := vals_rg hi
def tCm (X : Cx) (trg : L2.St → Hp → (Int → Int → Hp → Prop) → Prop) (te : TE) : TI := fun σ H R => trg σ H fun a b H1 => te σ H1 fun y H2 => ∃ k : Nat, y = .int k ∧ k ≤ 1000 ∧ (-(2 ^ 40) ≤ a ∧ a ≤ 2 ^ 40 ∧ -(2 ^ 40) ≤ b ∧ b ≤ 2 ^ 40 ∧ b - a ≤ 2 ^ 20) ∧ R (ItC (rgV a b) k) H2
theorem pi_cm {X : Cx} {rg e tg : Expr} {trg : L2.St → Hp → (Int → Int → Hp → Prop) → Prop} {te : TE} {x : Str} {p pos : Pos} (hc : X.calm = true) (hg : Gl X x) (hm : X.mg x = some (.type "itertools.combinations")) (hrg : PRgF X rg trg) (he : PE X e te) (hdb : (x == ("__debug__" : Str)) = false := by decide)
    (h1 : starEach [rg, e] X.env = (false, eval rg X.env) :: starEach [e] X.env := by rfl) (h2 : starEach [e] X.env = (false, eval e X.env) :: starEach [] X.env := by rfl) (hpl : (backTo pos (starEach [e] X.env)).any (·.1) = false := by rfl) :
    PI X tg (.Call (.Name x p) [rg, e] [] pos) (tCm X trg te) := by
  refine ⟨fun pins s σ H R I h => ?_⟩
  refine wpAny_Call_Name_kw (ld_glob I hg hm ?_ hdb)
  refine PyProof.Rows.callWith_type1 (args_cons (thn (hrg pins s σ H _ I h) fun v s1 ⟨r, a, b, t, u, w', H1, ex, hr, fr, I1, q1⟩ => ?_) h1) h1 hpl
  subst ex
  have I1' : L2.Inv X ((r, _) :: pins) σ H1 s1 := I1.pins_of fun pp hp => by
    rcases List.mem_cons.mp hp with rfl | hp
    · exact ⟨hr, fr.1, fr.2.1, fr.2.2, fun v q => nomatch q⟩
    · exact I1.pin pp (List.mem_append_right _ hp)
  refine one_arg he I1' q1 (fun v2 s2 y H2 I2 r2 q => ?_) h2
  obtain ⟨k, rfl, hk, ⟨b1, b2, b3, b4, b5⟩, q⟩ := q
  obtain ⟨tk, rfl⟩ := r2
  have hr2 : IsRange s2.heap r a b 1 t u w' := (I2.pin (r, _) (List.mem_append_right _ (List.mem_cons_self ..))).1
  have I3 : L2.Inv X pins σ H2 s2 := I2.pins_of fun pp hp => I2.pin pp (List.mem_append_right _ (List.mem_cons_of_mem _ hp))
  refine callType_codes (Q₁ := fun obj s₁ => s₁.TypeIs obj "itertools.combinations" ∧ wpAny (model X.prog X.w) X.A (pyIter obj) (PIE X pins σ tg R) X.xe s₁) called_cm (typeCall_cm_2 _ _) F.entry_object_init
    (code_cm_new_range (k := k) (n := (b - a).toNat) hk (I3.ok.hd hc) hr2 (small_one (by omega) (by omega) (by omega) (by omega)) (rangeSize_nat a b) (by omega) fun h' tk' acc hk' hacc => ?_) fun obj s₁ h₁ => ?_
  · have hv := vals_rgC hacc
    have hsz : (h'.push { cls := .type "tuple", data := .seq acc }).objs.size = h'.objs.size + 1 := Heap.size_push ..
    have hit : IsCm ((h'.push { cls := .type "tuple", data := .seq acc }).push { cls := .type "itertools.combinations", data := .fields ([.ref h'.objs.size, rawInt (if k > (b - a).toNat then 2 else 0), .none] ++ (List.range k).map fun (i : Nat) => rawInt i).toArray }) (h'.objs.size + 1) h'.objs.size (if k > (b - a).toNat then 2 else 0) .none (List.range k) := by
      have := Heap.get?_push_size (h'.push { cls := .type "tuple", data := .seq acc }) (o := { cls := .type "itertools.combinations", data := .fields ([.ref h'.objs.size, rawInt (if k > (b - a).toNat then 2 else 0), .none] ++ (List.range k).map fun (i : Nat) => rawInt i).toArray }) rfl
      rw [hsz] at this
      exact this
    have hpl2 : IsTup ((h'.push { cls := .type "tuple", data := .seq acc }).push { cls := .type "itertools.combinations", data := .fields ([.ref h'.objs.size, rawInt (if k > (b - a).toNat then 2 else 0), .none] ++ (List.range k).map fun (i : Nat) => rawInt i).toArray }) h'.objs.size acc :=
      ⟨_, Heap.get?_push_of_some _ (Heap.get?_push_size _ rfl), rfl, _, rfl⟩
    refine ⟨⟨_, hit, rfl⟩, pyIter_cm hit ?_⟩
    have I4 : L2.Inv X pins σ H2 { s2 with heap := h', toks := tk' } := I3.kept hk'
    have I5 : L2.Inv X pins σ H2 { s2 with heap := (h'.push { cls := .type "tuple", data := .seq acc }).push { cls := .type "itertools.combinations", data := .fields ([.ref h'.objs.size, rawInt (if k > (b - a).toNat then 2 else 0), .none] ++ (List.range k).map fun (i : Nat) => rawInt i).toArray }, toks := tk' } :=
      I4.kept (t' := tk') fun c o e => Heap.get?_push_of_some _ (Heap.get?_push_of_some _ e)
    have hn : acc.size = (b - a).toNat := hacc.1
    refine ⟨h'.objs.size + 1, [h'.objs.size + 1, h'.objs.size], _, _, H2, rfl, I5, turn_cm hv hk, ⟨hpl2, Nat.ne_of_lt (Nat.lt_succ_self _), _, _, _, hit, by simp, .inl ⟨rfl, ?_⟩⟩, fun c hc' => ?_, q⟩
    · rw [hn]
      by_cases c : k ≤ (b - a).toNat
      · exact .inl ⟨c, if_neg (by omega), rfl, rfl⟩
      · exact .inr ⟨by omega, if_pos (by omega)⟩
    · have e' : c = h'.objs.size + 1 ∨ c = h'.objs.size := by simpa using hc'
      have hle : h'.objs.size ≤ c := by
        rcases e' with z | z
        · rw [z]; exact Nat.le_add_right _ _
        · rw [z]; exact Nat.le_refl _
      exact I4.fpOk hle (I4.hok.fresh hle)
  · exact ⟨h₁.1, F.args_object_init_3 obj _ _, object_init_meets called_cm.init.lookup called_cm.made (by decide) X.prog X.w X.A.in1 _ s₁ ⟨h₁.1, rfl, h₁.2⟩⟩
end Cmb
namespace Pl
open PySem PySem.Spec PyProof.Rows L2 Cmb
/-! ### for .. in combinations(range(..), k) -/
def cmLs (n k : Nat) : List (List Nat) := (List.range (2 ^ n)).filterMap (cmI n k)
section
variable {c : Cc} {sp : List Sl} {e a b : Expr} {pos p : Pos}
/-- the tuples in their order -/
def CmOk (lo hi : Int) (k : Nat) (ls : List (List Nat)) : Prop := (∀ i l, ls[i]? = some l → cmI (hi - lo).toNat k i = some l) ∧ cmI (hi - lo).toNat k ls.length = none
theorem cmI_end {n k : Nat} : ∀ {i j : Nat}, i ≤ j → cmI n k i = none → cmI n k j = none
  | i, 0, h, e => by rw [show i = 0 from by omega] at e; exact e
  | i, j + 1, h, e => by
    by_cases c : i = j + 1
    · rw [← c]; exact e
    · unfold cmI
      rw [cmI_end (show i ≤ j by omega) e]; rfl
def cmD (lo : Int) (l : List Nat) : D := .tuple (l.map fun (j : Nat) => .int (lo + (j : Int)))
theorem rgV_getD {lo hi : Int} {j : Nat} (h : j < (hi - lo).toNat) : (rgV lo hi).getD j .non = .int (lo + (j : Int)) := by
  rw [List.getD_eq_getElem?_getD]
  unfold rgV
  rw [List.getElem?_map, List.getElem?_range h]
  rfl
theorem wok_cm {K : PySem.W.Frag} {F : Hp} {lo hi : Int} {k : Nat} {ls : List (List Nat)} (h : CmOk lo hi k ls) (hb : ∀ l ∈ ls, ∀ j ∈ l, j < (hi - lo).toNat) : WOk K (ItC (rgV lo hi) k) F (ls.map (cmD lo)) := by
  have hl : (rgV lo hi).length = (hi - lo).toNat := rgV_length lo hi
  refine ⟨fun F' H' i d s1 s2 e => ?_, fun F' H' i s1 s2 e => ?_⟩
  · rw [List.getElem?_map] at e
    cases hc : ls[i]? with
    | none => rw [hc] at e; cases e
    | some l =>
      rw [hc] at e
      have e' : cmD lo l = d := Option.some.inj e
      subst e'
      have h1 := h.1 i l hc
      refine ⟨by show (cmI (rgV lo hi).length k i).isSome = true; rw [hl, h1]; rfl, fun x H'' q => ?_⟩
      obtain ⟨t, idx, h2, rfl, hn, rfl⟩ := q
      rw [hl, h1] at h2
      cases h2
      have hm := hb l (List.mem_of_getElem? hc)
      have e2 : (l.map fun j => (rgV lo hi).getD j .non) = l.map fun (j : Nat) => V.int (lo + (j : Int)) := List.map_congr_left fun j hj => rgV_getD (hm j hj)
      rw [e2]
      have g3 := Grow.new_ (o := .tup (l.map fun (j : Nat) => V.int (lo + (j : Int)))) s2 hn
      refine ⟨_, g3, .tup upd_same ?_⟩
      have := dpAll_of_ints (K := K) (F := upd F' t (.tup (l.map fun (j : Nat) => V.int (lo + (j : Int))))) (l.map fun (j : Nat) => lo + (j : Int))
      rw [List.map_map, List.map_map] at this
      exact this
  · rw [List.length_map] at e
    show cmI (rgV lo hi).length k i = none
    rw [hl]
    exact cmI_end e h.2
abbrev RgP (c : Cc) (e : Expr) (sp : List Sl) (Q : Int → Int → Prop) : Prop := Sealed (∀ (X : Cx), c.Has X → ∀ (G F0 F H : Hp) (σ : L2.St), SR c.m.T c.m.K G F0 F H sp σ → ∃ t, PRgF X e t ∧ ∀ R : Int → Int → Hp → Prop, (∀ lo hi F' H', Q lo hi → Grow F H F' H' → R lo hi H') → t σ H R)
theorem Rg_1 {Q : Int → Int → Prop} (h : E c a sp fun d => ∃ n : Int, d = .int n ∧ Q 0 n) (hm : c.m.mg "range" = none) (hg : GlS c.sc "range" := by rfl) (hs : ∀ env, starEach [a] env = (false, eval a env) :: starEach [] env := by intro _; rfl) : RgP c (.Call (.Name "range" p) [a] [] pos) sp Q := Sealed.of fun X hX G F0 F H σ r =>
  ⟨_, prf_1 (hg.gl hX) (by rw [hX.mg]; exact hm) pe_tE (hs _), fun R k => by
    refine h X hX G F0 F H σ r _ fun d v F1 H1 q g d1 => ?_
    obtain ⟨n, rfl, q⟩ := q
    cases d1
    exact ⟨n, rfl, k _ _ F1 H1 q g⟩⟩
theorem Rg_2 {Q : Int → Int → Prop} (h : E c a sp fun d => E c b sp fun g => ∃ m n : Int, d = .int m ∧ g = .int n ∧ Q m n) (hm : c.m.mg "range" = none) (hg : GlS c.sc "range" := by rfl) (hs : ∀ env, starEach [a, b] env = (false, eval a env) :: starEach [b] env := by intro _; rfl) (hs2 : ∀ env, starEach [b] env = (false, eval b env) :: starEach [] env := by intro _; rfl) (hpl : ∀ env, (backTo pos (starEach [b] env)).any (·.1) = false := by intro _; rfl) : RgP c (.Call (.Name "range" p) [a, b] [] pos) sp Q := Sealed.of fun X hX G F0 F H σ r =>
  ⟨_, prf_2 (hg.gl hX) (by rw [hX.mg]; exact hm) pe_tE pe_tE (hs _) (hs2 _) (hpl _), fun R k => by
    refine h X hX G F0 F H σ r _ fun d v F1 H1 q g d1 => ?_
    refine Sealed.run q X hX G F0 F1 H1 σ (r.grow g) _ fun d2 v2 F2 H2 q2 g2 dd2 => ?_
    obtain ⟨m, n, rfl, rfl, q3⟩ := q2
    cases d1; cases dd2
    exact ⟨m, n, rfl, rfl, k _ _ F2 H2 q3 (g.trans g2)⟩⟩
theorem W_comb {rg tg : Expr} {x : Str} {QL : List D → Prop} (h : RgP c rg sp fun lo hi => E c e sp fun d => ∃ (k : Nat) (ls : List (List Nat)), d = .int k ∧ k ≤ 1000 ∧ (-(2 ^ 40) ≤ lo ∧ lo ≤ 2 ^ 40 ∧ -(2 ^ 40) ≤ hi ∧ hi ≤ 2 ^ 40 ∧ hi - lo ≤ 2 ^ 20) ∧ CmOk lo hi k ls ∧ (∀ l ∈ ls, ∀ j ∈ l, j < (hi - lo).toNat) ∧ QL (ls.map (cmD lo)))
    (hm : c.m.mg x = some (.type "itertools.combinations")) (hg : GlS c.sc x := by rfl) (hdb : (x == ("__debug__" : Str)) = false := by decide)
    (hs : ∀ env, starEach [rg, e] env = (false, eval rg env) :: starEach [e] env := by intro _; rfl) (hs2 : ∀ env, starEach [e] env = (false, eval e env) :: starEach [] env := by intro _; rfl) (hpl : ∀ env, (backTo pos (starEach [e] env)).any (·.1) = false := by intro _; rfl) :
    W c tg (.Call (.Name x p) [rg, e] [] pos) sp QL := Sealed.of fun X hX G F0 F H σ r R k => by
  obtain ⟨t, ht, q⟩ := h X hX G F0 F H σ r
  refine PI_tI (pi_cm hX.calm (hg.gl hX) (by rw [hX.mg]; exact hm) ht pe_tE hdb (hs _) (hs2 _) (hpl _)) ?_
  refine q _ fun lo hi F1 H1 q1 g => ?_
  refine Sealed.run q1 X hX G F0 F1 H1 σ (r.grow g) _ fun d2 v2 F2 H2 q2 g2 dd2 => ?_
  obtain ⟨k', ls, rfl, hk, hb, ho, hl, q3⟩ := q2
  cases dd2
  exact ⟨k', rfl, hk, hb, k _ _ F2 H2 q3 (g.trans g2) (wok_cm ho hl)⟩
end
end Pl
set_option Elab.async false
set_option linter.all false
set_option maxRecDepth 100000
set_option maxHeartbeats 4000000
set_option autoImplicit false
namespace Pl
open PySem PySem.Spec PyProof.Rows L2 Cmb
section
variable {c : Cc} {sp : List Sl} {e a b : Expr} {pos p : Pos} {Q : D → Prop}
theorem W_seq {tg : Expr} {QL : List D → Prop} (d : D) (ds : List D) (hd : d = .list ds ∨ d = .tuple ds) (h : E c e sp fun z => z = d) (q : QL ds) : W c tg e sp QL := by
  rcases hd with rfl | rfl
  · exact W_list (h.mono fun z hz => ⟨ds, hz, q⟩)
  · exact W_tup (h.mono fun z hz => ⟨ds, hz, q⟩)
theorem cp_lenQ {d : D} {ds : List D} (hd : d = .list ds ∨ d = .tuple ds) (q : Q (.int ds.length)) : CallP c (.builtin "len") [d] Q := by
  rcases hd with rfl | rfl
  · exact cp_lenL q
  · exact cp_lenT q
theorem ixp_seq {d : D} {ds : List D} (hd : d = .list ds ∨ d = .tuple ds) {i : Int} {z : D} (e : atI ds i = some z) (q : Q z) : IxP c d (.int i) Q := by
  rcases hd with rfl | rfl
  · exact ixp_list e q
  · exact ixp_tup e q
theorem opp_ltT {xs ys : List Int} (q : Q (.bool (HT.lexLt xs ys))) : OpP c (compareOp .Lt) (.tuple (xs.map .int)) (.tuple (ys.map .int)) Q := .of fun X hX => ⟨_, op_ltT (Nat.lt_of_le_of_lt (Nat.le_add_right _ 64) hX.u64), fun F H x y R s h1 h2 k => by
  obtain ⟨a1, v1, rfl, q1, r1⟩ := dp_tuple h1
  obtain ⟨a2, v2, rfl, q2, r2⟩ := dp_tuple h2
  cases dpAll_ints r1
  cases dpAll_ints r2
  rw [hX.K]
  exact ⟨a1, a2, xs, ys, rfl, rfl, sqT_mono s q1, sqT_mono s q2, k _ _ F H q (Grow.refl s) (.bl _)⟩⟩
theorem lexLt_two (a b x y : Int) : HT.lexLt [a, b] [x, y] = decide (a < x ∨ (a = x ∧ b < y)) := by
  simp only [HT.lexLt]
  by_cases h1 : a < x
  · have : a ≠ x := by omega
    simp [h1, this]
  · by_cases h2 : a = x
    · subst h2
      by_cases h3 : b < y
      · have : b ≠ y := by omega
        simp [h3, this]
      · simp [h3]
    · simp [h1, h2]
theorem opp_lt2 {a b x y : Int} (q : Q (.bool (decide (a < x ∨ (a = x ∧ b < y))))) : OpP c (compareOp .Lt) (.tuple [.int a, .int b]) (.tuple [.int x, .int y]) Q := opp_ltT (xs := [a, b]) (ys := [x, y]) (by rw [lexLt_two]; exact q)
end
/-- a list of combinations, checked -/
def cmB (n k : Nat) (ls : List (List Nat)) : Bool := ((List.range ls.length).all fun i => cmI n k i == ls[i]?) && (cmI n k ls.length).isNone && ls.all fun l => l.all fun j => decide (j < n)
theorem cmB_ok {n k : Nat} {ls : List (List Nat)} (h : cmB n k ls = true) {lo hi : Int} (e : (hi - lo).toNat = n) : CmOk lo hi k ls ∧ ∀ l ∈ ls, ∀ j ∈ l, j < (hi - lo).toNat := by
  unfold cmB at h
  simp only [Bool.and_eq_true, List.all_eq_true, List.mem_range, beq_iff_eq, decide_eq_true_eq] at h
  refine ⟨⟨fun i l hl => ?_, ?_⟩, fun l hl j hj => by rw [e]; exact h.2 l hl j hj⟩
  · rw [e, h.1.1 i (by rcases Nat.lt_or_ge i ls.length with z | z
                       · exact z
                       · rw [List.getElem?_eq_none z] at hl; cases hl), hl]
  · rw [e]
    exact Option.isNone_iff_eq_none.mp h.1.2
/-! ### small helpers -/
theorem mod_int (i n : Nat) : (0 + (i : Int)) % (n : Int) = ((i % n : Nat) : Int) := by rw [Int.zero_add]; rfl
theorem at_nat {xs : List Int} {j : Nat} (h : j < xs.length) : atI (xs.map PyData.int) (j : Int) = some (.int (xs.getD j 0)) := at_ints (j := (j : Int)) (by omega) (by omega)
theorem at_rng {f : Int → D} {n : Nat} {j : Int} (h0 : 0 ≤ j) (h1 : j < n) : atI ((rangeI 0 n).map f) j = some (f j) := by
  rw [at_mapI h0 (by rw [rangeI_len]; exact h1)]
  congr 2
  rw [List.getD_eq_getElem?_getD, rangeI_at (by omega)]
  simp; omega
theorem at_natD {α : Type} {f : α → D} {xs : List α} {j : Nat} {x : α} (h : xs[j]? = some x) : atI (xs.map f) (j : Int) = some (f x) := atI_of rfl (by rw [List.getElem?_map, h]; rfl)
theorem rep_flat (k : Nat) (x : Int) : (List.replicate k [PyData.int x]).flatten = (List.replicate k x).map PyData.int := by
  induction k with
  | zero => rfl
  | succ k ih => rw [List.replicate_succ, List.replicate_succ, List.flatten_cons, ih]; rfl
theorem perm_sum : ∀ {xs ys : List Int}, xs.Perm ys → xs.sum = ys.sum := fun h => by
  induction h with
  | nil => rfl
  | cons x _ ih => rw [List.sum_cons, List.sum_cons, ih]
  | swap x y l => rw [List.sum_cons, List.sum_cons, List.sum_cons, List.sum_cons]; omega
  | trans _ _ h1 h2 => rw [h1, h2]
theorem zip_pairs (vs w : List Int) : zipD (vs.map PyData.int) (w.map PyData.int) = (vs.zip w).map fun p => .tuple [.int p.1, .int p.2] := by
  unfold zipD
  rw [List.zipWith_map, List.zip, List.map_zipWith]
end Pl
set_option Elab.async false
set_option linter.all false
set_option maxRecDepth 100000
set_option maxHeartbeats 4000000
set_option autoImplicit false
namespace Pl
open PySem PySem.Spec PyProof.Rows L2
/-! ### dicts of one's own, keys tuples -/
theorem dpAll_keys {K : PySem.W.Frag} {F : Hp} : ∀ {ks : List Key} {vs : List V}, DpAll K F vs (ks.map keyD) → vs = ks.map kV
  | [], _, h => by cases h; rfl
  | k :: ks, _, h => by
    cases h with
    | cons h1 h2 => rw [key_of h1, dpAll_keys h2]; rfl
section
variable {c : Cc} {sp : List Sl} {P : Pn} {Q : D → Prop} {QT : Bool → Prop} {QL : List D → Prop} {e a b : Expr} {pos p px : Pos} {x : Str}
theorem dt_at {X : Cx} {G F0 F H : Hp} {σ : L2.St} (r : SR c.m.T c.m.K G F0 F H sp σ) {i : Nat} {kvs : List (List Key × D)} (hsl : sp[i]? = some (.dt kvs)) : ∃ (a : Addr) (ws : List (List Key × V)), σ[i]? = some (some (.ref a)) ∧ H a = some (.dT ws) ∧ PairedD c.m.K F ws kvs := by
  obtain ⟨y, hy, ok⟩ := r.slot hsl
  obtain ⟨l, o, rfl, h1, h2, h3, ws, rfl, h4⟩ := (slOk_own rfl).mp ok
  exact ⟨l, ws, hy, h1, h4⟩
/-- a key as it is found -/
theorem tkey_of {T : Addr → Prop} {K : PySem.W.Frag} {G F0 F H : Hp} {σ : L2.St} (r : SR T K G F0 F H sp σ) {v : V} {ks : List Key} (h : Dp K F v (.tuple (ks.map keyD))) : ∃ b, v = .ref b ∧ H b = some (.tup (ks.map kV)) := by
  obtain ⟨b, vs, rfl, e, hd⟩ := dp_tuple h
  cases dpAll_keys hd
  exact ⟨b, rfl, r.sf _ _ e⟩
theorem pc_coreT {neg : Bool} {X : Cx} (hX : c.Has X) {G F0 F H : Hp} {σ : L2.St} (r : SR c.m.T c.m.K G F0 F H sp σ) {i : Nat} {kvs : List (List Key × D)} (hsl : sp[i]? = some (.dt kvs)) {R : VK} {QB : Bool → Prop}
    (k : ∀ b F' H', QB b → Grow F H F' H' → R (.bl b) H') (h : E c e sp fun d => ∃ k : List Key, d = .tuple (k.map keyD) ∧ QB (if neg = true then !(getK kvs k).isSome else (getK kvs k).isSome)) :
    (if neg = true then tDNotIn (tE X e) (tVar i) else tDIn (tE X e) (tVar i)) σ H R := by
  obtain ⟨a, ws, hy, h1, h4⟩ := dt_at (X := X) r hsl
  have key : ∀ d v F1 H1, (∃ k : List Key, d = .tuple (k.map keyD) ∧ QB (if neg = true then !(getK kvs k).isSome else (getK kvs k).isSome)) → Grow F H F1 H1 → Dp c.m.K F1 v d → ∃ (x : V), σ[i]? = some (some x) ∧ ∃ a o, x = .ref a ∧ DGet H1 a v o ∧ R (.bl (if neg = true then !o.isSome else o.isSome)) H1 := by
    intro d v F1 H1 q g d1
    obtain ⟨kk, rfl, q⟩ := q
    obtain ⟨b, rfl, hb⟩ := tkey_of (r.grow g) d1
    have e1 : (valV ws kk).isSome = (getK kvs kk).isSome := by
      rcases paired_get (k := kk) h4 with ⟨z1, z2⟩ | ⟨_, _, z1, z2, _⟩ <;> rw [z1, z2] <;> rfl
    refine ⟨.ref a, hy, a, valV ws kk, rfl, DGet.t (g.h _ _ h1) hb, ?_⟩
    rw [e1]
    exact k _ F1 H1 q g
  cases neg with
  | true =>
    refine h X hX G F0 F H σ r _ fun d v F1 H1 q g d1 => ?_
    exact key d v F1 H1 q g d1
  | false =>
    refine h X hX G F0 F H σ r _ fun d v F1 H1 q g d1 => ?_
    exact key d v F1 H1 q g d1
theorem E_dtIn (i : Nat) {kvs : List (List Key × D)} (hsl : sp[i]? = some (.dt kvs)) (h : E c e sp fun d => ∃ k : List Key, d = .tuple (k.map keyD) ∧ Q (.bool (getK kvs k).isSome)) (hi : c.N[i]? = some x := by rfl) (hv : Vis c.sc x := by first | exact Or.inl rfl | exact Or.inr (Or.inl rfl) | exact Or.inr (Or.inr rfl))
    (hd : (x == ("__debug__" : Str)) = false := by decide) (hcd : (x == ("__classdict__" : Str)) = false := by decide) (hm : behindInMarks .In (.Name x px) = false := by rfl) : E c (.Compare e [.In] [.Name x px] pos) sp Q := Sealed.of fun X hX G F0 F H σ r R k =>
  PE_tE (pe_cmp (pc_din hX.u1 pe_tE (pe_var (i := i) (by rw [hX.N]; exact hi) (by rw [hX.sc]; exact hv) hd hcd)) hm) (pc_coreT (neg := false) (QB := fun b => Q (.bool b)) hX r hsl (fun b F' H' q g => k _ _ F' H' q g (.bl b)) h)
theorem E_dtNin (i : Nat) {kvs : List (List Key × D)} (hsl : sp[i]? = some (.dt kvs)) (h : E c e sp fun d => ∃ k : List Key, d = .tuple (k.map keyD) ∧ Q (.bool (!(getK kvs k).isSome))) (hi : c.N[i]? = some x := by rfl) (hv : Vis c.sc x := by first | exact Or.inl rfl | exact Or.inr (Or.inl rfl) | exact Or.inr (Or.inr rfl))
    (hd : (x == ("__debug__" : Str)) = false := by decide) (hcd : (x == ("__classdict__" : Str)) = false := by decide) (hm : behindInMarks .NotIn (.Name x px) = false := by rfl) : E c (.Compare e [.NotIn] [.Name x px] pos) sp Q := Sealed.of fun X hX G F0 F H σ r R k =>
  PE_tE (pe_cmp (pc_dnotin hX.u1 pe_tE (pe_var (i := i) (by rw [hX.N]; exact hi) (by rw [hX.sc]; exact hv) hd hcd)) hm) (pc_coreT (neg := true) (QB := fun b => Q (.bool b)) hX r hsl (fun b F' H' q g => k _ _ F' H' q g (.bl b)) h)
theorem T_dtIn (i : Nat) {kvs : List (List Key × D)} (hsl : sp[i]? = some (.dt kvs)) (h : E c e sp fun d => ∃ k : List Key, d = .tuple (k.map keyD) ∧ QT (getK kvs k).isSome) (hi : c.N[i]? = some x := by rfl) (hv : Vis c.sc x := by first | exact Or.inl rfl | exact Or.inr (Or.inl rfl) | exact Or.inr (Or.inr rfl))
    (hd : (x == ("__debug__" : Str)) = false := by decide) (hcd : (x == ("__classdict__" : Str)) = false := by decide) (hm : behindInMarks .In (.Name x px) = false := by rfl) : T c (.Compare e [.In] [.Name x px] pos) sp QT := Sealed.of fun X hX G F0 F H σ r R k =>
  PT_tT (pt_cmp (pc_din hX.u1 pe_tE (pe_var (i := i) (by rw [hX.N]; exact hi) (by rw [hX.sc]; exact hv) hd hcd)) hm) (pc_coreT (neg := false) (QB := QT) hX r hsl (fun b F' H' q g => ⟨b, rfl, k _ F' H' q g⟩) h)
theorem T_dtNin (i : Nat) {kvs : List (List Key × D)} (hsl : sp[i]? = some (.dt kvs)) (h : E c e sp fun d => ∃ k : List Key, d = .tuple (k.map keyD) ∧ QT (!(getK kvs k).isSome)) (hi : c.N[i]? = some x := by rfl) (hv : Vis c.sc x := by first | exact Or.inl rfl | exact Or.inr (Or.inl rfl) | exact Or.inr (Or.inr rfl))
    (hd : (x == ("__debug__" : Str)) = false := by decide) (hcd : (x == ("__classdict__" : Str)) = false := by decide) (hm : behindInMarks .NotIn (.Name x px) = false := by rfl) : T c (.Compare e [.NotIn] [.Name x px] pos) sp QT := Sealed.of fun X hX G F0 F H σ r R k =>
  PT_tT (pt_cmp (pc_dnotin hX.u1 pe_tE (pe_var (i := i) (by rw [hX.N]; exact hi) (by rw [hX.sc]; exact hv) hd hcd)) hm) (pc_coreT (neg := true) (QB := QT) hX r hsl (fun b F' H' q g => ⟨b, rfl, k _ F' H' q g⟩) h)
theorem E_dtGet (i : Nat) {kvs : List (List Key × D)} (hsl : sp[i]? = some (.dt kvs)) (h : E c e sp fun d => ∃ (k : List Key) (v : D), d = .tuple (k.map keyD) ∧ getK kvs k = some v ∧ Q v) (hi : c.N[i]? = some x := by rfl) (hv : Vis c.sc x := by first | exact Or.inl rfl | exact Or.inr (Or.inl rfl) | exact Or.inr (Or.inr rfl))
    (hd : (x == ("__debug__" : Str)) = false := by decide) (hcd : (x == ("__classdict__" : Str)) = false := by decide) (hns : NoSl e := by intro _ _; rfl) : E c (.Subscript (.Name x px) e pos) sp Q := Sealed.of fun X hX G F0 F H σ r R k => by
  refine PE_tE (pe_dget hX.u1 (pe_var (i := i) (by rw [hX.N]; exact hi) (by rw [hX.sc]; exact hv) hd hcd) pe_tE hns) ?_
  obtain ⟨a, ws, hy, h1, h4⟩ := dt_at (X := X) r hsl
  refine ⟨.ref a, hy, ?_⟩
  refine h X hX G F0 F H σ r _ fun d v F1 H1 q g d1 => ?_
  obtain ⟨kk, w, rfl, hw, q⟩ := q
  obtain ⟨b, rfl, hb⟩ := tkey_of (r.grow g) d1
  rcases paired_get (k := kk) h4 with ⟨_, z2⟩ | ⟨v0, d0, z1, z2, z3⟩
  · rw [hw] at z2; cases z2
  · rw [hw] at z2; cases z2
    exact ⟨a, v0, rfl, by rw [← z1]; exact DGet.t (g.h _ _ h1) hb, k _ _ F1 H1 q g (dp_mono g.f _ _ z3)⟩
theorem S1_dtPut (i : Nat) {kvs : List (List Key × D)} {tpos : Pos} (hsl : sp[i]? = some (.dt kvs)) (h : E c e sp fun d => E c a sp fun g => ∃ k : List Key, g = .tuple (k.map keyD) ∧ kvs.length < sizeLine ∧ P.nx (sp.set i (.dt (setK kvs k d)))) (hi : c.N[i]? = some x := by rfl)
    (hv : Vis c.sc x := by first | exact Or.inl rfl | exact Or.inr (Or.inl rfl) | exact Or.inr (Or.inr rfl)) (hd : (x == ("__debug__" : Str)) = false := by decide) (hcd : (x == ("__classdict__" : Str)) = false := by decide)
    (hs : ∀ env : Env, env.scope = c.sc → swapsWith e (some (.Subscript (.Name x px) a tpos)) pos.line env = pure false := by intro env he; first | rfl | (cases env; subst he; rfl)) : S1 c (.Assign [.Subscript (.Name x px) a tpos] e pos) sp P := Sealed.of fun X hX G F0 F H σ r D0 k => by
  refine PS_t (ps_dput hX.u1 (pe_var (i := i) (by rw [hX.N]; exact hi) (by rw [hX.sc]; exact hv) hd hcd) pe_tE pe_tE (hs _ hX.sc)) ?_
  obtain ⟨l, ws, hy, h1, h4⟩ := dt_at (X := X) r hsl
  refine h X hX G F0 F H σ r _ fun d v F1 H1 q g d1 => ?_
  refine ⟨.ref l, hy, ?_⟩
  refine Sealed.run q X hX G F0 F1 H1 σ (r.grow g) _ fun gi vi F2 H2 q2 g2 d2 => ?_
  obtain ⟨kk, rfl, hl, q3⟩ := q2
  obtain ⟨b, rfl, hb⟩ := tkey_of ((r.grow g).grow g2) d2
  have hl2 := g2.h _ _ (g.h _ _ h1)
  refine ⟨l, _, rfl, DPut.t hl2 hb (by rw [show ws.length = kvs.length from Paired.length h4]; exact hl), ?_⟩
  exact k.nx _ F2 _ σ q3 (((r.grow g).grow g2).upd_o i hsl rfl hy ⟨_, rfl, paired_put (pairedD_mono (g.f.trans g2.f) h4) (dp_mono g2.f _ _ d1)⟩ rfl)
theorem E_dtLen (i : Nat) {kvs : List (List Key × D)} (hsl : sp[i]? = some (.dt kvs)) (q : Q (.int kvs.length)) (hm : c.m.mg "len" = none) (hv0 : bootBuiltins "len" = some (.builtin "len")) (hg : GlS c.sc "len" := by rfl) (hi : c.N[i]? = some x := by rfl)
    (hv : Vis c.sc x := by first | exact Or.inl rfl | exact Or.inr (Or.inl rfl) | exact Or.inr (Or.inr rfl)) (hd : (x == ("__debug__" : Str)) = false := by decide) (hcd : (x == ("__classdict__" : Str)) = false := by decide)
    (he : ∀ env, starEach [.Name x px] env = (false, eval (.Name x px) env) :: starEach [] env := by intro _; rfl) (hpl : ∀ env, (backTo pos (starEach [] env)).any (·.1) = false := by intro _; rfl) : E c (.Call (.Name "len" p) [.Name x px] [] pos) sp Q := Sealed.of fun X hX G F0 F H σ r R k => by
  refine PE_tE (pe_callB call_len_dT (hg.gl hX) (by rw [hX.mg]; exact hm) hv0 (pa_cons (pe_var (i := i) (by rw [hX.N]; exact hi) (by rw [hX.sc]; exact hv) hd hcd) pa_nil (he _)) (by decide) (by decide) (he _) (hpl _)) ?_
  obtain ⟨l, ws, hy, h1, h4⟩ := dt_at (X := X) r hsl
  exact ⟨.ref l, hy, l, ws, rfl, h1, by rw [show ws.length = kvs.length from Paired.length h4]; exact k _ _ F H q (Grow.refl r.sf) (.int _)⟩
end
end Pl
set_option Elab.async false
set_option linter.all false
set_option maxRecDepth 100000
set_option maxHeartbeats 4000000
set_option autoImplicit false
namespace Pl
open PySem PySem.Spec PyProof.Rows L2
/-! ### (a, b, ..) = a list of that length -/
section
variable {prog : Program} {w : World} {A : Around} {E : Value → Shared → Prop} {s : Shared}
theorem assign_Tuple_list {env : Env} {elts : List Expr} {x1} {pos : Pos} {t : Addr} {items : Array Value} {Q : Unit → Shared → Prop} (hh : A.handled = none) (ht : s.heap.IsList t items)
    (hn : (assignEach elts env).length = items.size) (hstar : (assignEach elts env).findIdx? (·.1) = none)
    (h : ∀ h', Heap.ExtBut s.heap.objs.size s.heap h' → wpAny (model prog w) A (assignInOrder ((assignEach elts env).map (·.2)) items.toList) Q E { s with heap := h' }) :
    wpAny (model prog w) A (assign (.Tuple elts x1 pos) env (.ref t)) Q E s := by
  rw [assign_Tuple]
  refine wpAny_bind (wpAny_standAt ?_)
  unfold unpack
  rw [hn, hstar]
  exact wpAny_bind (wpAny_holding (PySem.W.kun_itemsOf hh ht h))
end
section
variable {X : Cx} {pos : Pos}
def gLst (K : PySem.W.Frag) (n : Nat) (t : TGs) : TG := fun v σ H Q => ∃ a xs, v = .ref a ∧ SqL K H a xs ∧ xs.length = n ∧ t xs σ H Q
theorem pg_lst {es : List Expr} {k : Nat} {t : TGs} {n : Nat} (hc : X.calm = true) (h : PGs X es t)
    (hn : (assignEach es X.env).length = n := by rfl) (hst : (assignEach es X.env).findIdx? (·.1) = none := by rfl) : PG X (.Tuple es k pos) (gLst X.K n t) := by
  refine ⟨fun pins s σ H v u Q I r hw => ?_⟩
  obtain ⟨a, xs, e1, hq, hl, hw⟩ := hw
  subst e1
  cases r
  obtain ⟨its, rv, ⟨o, m, ht, hcl, _, hd⟩, hz⟩ := I.list hq
  refine assign_Tuple_list (I.ok.hd hc) ⟨o, ht, hcl, m, hd⟩ (by simp [hn, ← hl, rv.length]) hst fun h' hx => ?_
  have I1 : Inv X pins σ H { s with heap := h' } := I.kept (t' := s.toks) fun b o e => hx b o (Nat.ne_of_lt (Heap.lt_size e)) e
  exact h.run pins _ σ H xs _ Q I1 (by simpa using rv) hw
end
section
variable {c : Cc} {sp : List Sl} {pos : Pos}
theorem Asg_lst {tgs : List Expr} {ws : List Nat} {ds : List D} {kk : Nat} {Q : List Sl → Prop} (h : AsgL c tgs ws ds sp Q) (hn : ∀ env, (assignEach tgs env).length = ds.length := by intro _; rfl) (hst : ∀ env, (assignEach tgs env).findIdx? (·.1) = none := by intro _; rfl) :
    Asg c (.Tuple tgs kk pos) ws (.list ds) sp Q := Sealed.of fun X hX G F0 F H σ v r hd R k => by
  obtain ⟨a, vs, rfl, h1, h2⟩ := dp_list hd
  refine PG_tG (pg_lst hX.calm pgs_tG (hn _) (hst _)) ⟨a, vs, rfl, by rw [hX.K]; exact r.sf.seq h1, dpAll_len h2, ?_⟩
  exact h X hX G F0 F H σ vs r h2 R k
end
end Pl
set_option Elab.async false
set_option linter.all false
set_option maxRecDepth 100000
set_option maxHeartbeats 4000000
set_option autoImplicit false
namespace Pl
open PySem PySem.Spec PyProof.Rows L2 HT
/-! ### a += b, tuples -/
theorem noI_tuple_add : typeLookup (.type "tuple") (dunderI "add") = pure none := by rw [typeLookup_type, builtinLookup_eq_fast]; kernel_rfl
section
variable {prog : Program} {w : World} {A : Around} {E : Value → Shared → Prop} {s : Shared}
theorem icat_meets {a b : Value} {B : Builtin} {S} {Q : Value → Shared → Prop} (ha : s.TypeIs a "tuple") (hb : s.TypeIs b "tuple")
    (entry : entryFor table "tuple.__add__" = some B) (args : argsOk "tuple.__add__" ⟨[a, b], []⟩) (g : Meets (B ⟨[a, b], []⟩) S) (h : S A (wants Q E) s) : wpAny (model prog w) A (inplaceOp .Add a b) Q E s :=
  wpAny_inplaceOp_concat ha hb noI_tuple_add noFill_tuple_add seq_tuple_add (call_meets PySem.F.slot_tuple_add ha entry args g h)
theorem icat_tup {t b : Addr} {vs ws : List Value} {Q : Value → Shared → Prop} (ht : IsTup s.heap t vs.toArray) (hb : IsTup s.heap b ws.toArray)
    (h0 : vs = [] → Q (.ref b) s) (h1 : vs ≠ [] → ws = [] → Q (.ref t) s) (h2 : vs ≠ [] → ws ≠ [] → Q (.ref s.heap.objs.size) { s with heap := s.heap.push { cls := .type "tuple", data := .seq (vs ++ ws).toArray } })
    (hsz : vs.length + ws.length ≤ sizeLine) : wpAny (model prog w) A (inplaceOp .Add (.ref t) (.ref b)) Q E s := by
  obtain ⟨⟨cls, dd, data, sl⟩, ho, hc, n, hd⟩ := id ht
  obtain ⟨⟨cls2, dd2, data2, sl2⟩, ho2, hc2, n2, hd2⟩ := id hb
  simp only at hc hd hc2 hd2
  subst hc hd hc2 hd2
  have e : vs.toArray ++ ws.toArray = (vs ++ ws).toArray := by simp
  by_cases hv : vs = []
  · exact icat_meets ⟨_, ho, rfl⟩ ⟨_, ho2, rfl⟩ PySem.F.entry_tuple_add (PySem.F.args_tuple_add_2 _ _)
      (tuple_addW0 t b vs.toArray ws.toArray n n2 dd dd2 sl sl2 (by simp [hv])) ⟨ho, ho2, h0 hv⟩
  · by_cases hw : ws = []
    · exact icat_meets ⟨_, ho, rfl⟩ ⟨_, ho2, rfl⟩ PySem.F.entry_tuple_add (PySem.F.args_tuple_add_2 _ _)
        (tuple_addW1 t b vs.toArray ws.toArray n n2 dd dd2 sl sl2 (by simpa using hv) (by simp [hw])) ⟨ho, ho2, h1 hv hw⟩
    · refine icat_meets ⟨_, ho, rfl⟩ ⟨_, ho2, rfl⟩ PySem.F.entry_tuple_add (PySem.F.args_tuple_add_2 _ _)
        (tuple_addW2 t b vs.toArray ws.toArray n n2 dd dd2 sl sl2 (by simpa using hv) (by simpa using hw) (by rw [List.size_toArray, List.size_toArray]; exact hsz)) ⟨ho, ho2, ?_⟩
      rw [e]
      exact h2 hv hw
end
section
variable {X : Cx}
theorem iop_catA : OpR X (inplaceOp .Add) (rCatA X.K) := by
  intro pins s σ H x y v u Q I rx ry h
  obtain ⟨a, b, xs, ys, rfl, rfl, ha, hb, hz, q0, q1, q2⟩ := h
  cases rx
  cases ry
  obtain ⟨its, r1, p1, _⟩ := I.tuple ha
  obtain ⟨its2, r2, p2, _⟩ := I.tuple hb
  have n1 : its = [] ↔ xs = [] := by
    constructor
    · rintro rfl; cases r1; rfl
    · rintro rfl; cases r1; rfl
  have n2 : its2 = [] ↔ ys = [] := by
    constructor
    · rintro rfl; cases r2; rfl
    · rintro rfl; cases r2; rfl
  refine icat_tup p1 p2 (fun z => ⟨.ref b, H, I, rfl, q0 (n1.mp z)⟩) (fun z z2 => ⟨.ref a, H, I, rfl, q1 (fun w => z (n1.mpr w)) (n2.mp z2)⟩) (fun z z2 => ?_) (by rw [← r1.length, ← r2.length]; exact hz)
  refine ⟨.ref s.heap.objs.size, _, I.laid (t' := s.toks) (o := .tup (xs ++ ys)) (fun b ob q => Heap.get?_push_of_some _ q) (Nat.le_refl _) ?_, rfl, q2 (fun w => z (n1.mpr w)) (fun w => z2 (n2.mpr w)) _ (I.hok.fresh (Nat.le_refl _))⟩
  exact ⟨by rw [List.length_append]; exact hz, _, r1.append r2, IsTup.new _ _⟩
end
section
variable {c : Cc} {Q : D → Prop}
theorem ipp_catA {xs ys : List D} (h : xs.length + ys.length ≤ sizeLine) (q : Q (.tuple (xs ++ ys))) : OpP c (inplaceOp .Add) (.tuple xs) (.tuple ys) Q := .of fun X hX => ⟨_, iop_catA, fun F H x y R s q1 q2 k => by
  obtain ⟨a, vs, rfl, h1, h2⟩ := dp_tuple q1
  obtain ⟨b, ws, rfl, h3, h4⟩ := dp_tuple q2
  rw [hX.K]
  refine ⟨a, b, vs, ws, rfl, rfl, sqT_mono s h1, sqT_mono s h3, by rw [dpAll_len h2, dpAll_len h4]; exact h, fun e => ?_, fun _ e => ?_, fun _ _ p hp => ?_⟩
  · subst e
    cases h2
    exact k _ _ F H q (Grow.refl s) q2
  · subst e
    cases h4
    rw [List.append_nil] at q
    exact k _ _ F H q (Grow.refl s) q1
  · have g := Grow.new_ (o := .tup (vs ++ ws)) s hp
    exact k _ _ _ _ q g (.tup upd_same (dpAll_mono g.f _ _ (dpAll_append h2 h4)))⟩
end
end Pl
set_option Elab.async false
set_option linter.all false
set_option maxRecDepth 100000
set_option maxHeartbeats 4000000
set_option autoImplicit false
namespace Pl
open PySem PySem.Spec PyProof.Rows L2
/-! ### sorted(a list of pairs (int, anything)), the ints all different -/
section
variable {prog : Program} {w : World} {A : Around} {E : Value → Shared → Prop} {s : Shared}
def IsFst (h : Heap) (v : Value) (k : Int) : Prop := ∃ (a : Addr) (o : Obj) (t : Tok) (r : Value) (n : Nat), v = .ref a ∧ h.get? a = some o ∧ o.cls = .type "tuple" ∧ o.data = .seq #[.int k t, r] n
theorem IsFst.keeps {h h' : Heap} {v : Value} {k : Int} (x : IsFst h v k) (kp : ∀ b o, h.get? b = some o → o.cls = .type "tuple" → h'.get? b = some o) : IsFst h' v k := by
  obtain ⟨a, o, t, r, n, e, ho, hc, hd⟩ := x
  exact ⟨a, o, t, r, n, e, kp _ _ ho hc, hc, hd⟩
theorem swo_fst (k : Value → Int) : SrtO.Swo fun v u => decide (k v < k u) := by
  refine ⟨fun x y h => ?_, fun x y z h1 h2 => ?_⟩
  · have a := of_decide_eq_true h
    exact decide_eq_false (by omega)
  · have a := of_decide_eq_false h1
    have b := of_decide_eq_false h2
    exact decide_eq_false (by omega)
theorem fst_cmp {vs : List Value} {k : Value → Int} (hp : ∀ v ∈ vs, IsFst s.heap v (k v)) (hi : ∀ v ∈ vs, ∀ u ∈ vs, k v = k u → v = u) : SrtO.Cmp prog w A s (tuples' true) (fun p => p.1 ∈ vs) (SrtO.lt2 fun v u => decide (k v < k u)) := by
  intro p q hm hm'
  have h1 := hp _ hm
  have h2 := hp _ hm'
  have hpq := hi _ hm _ hm'
  show wpAny (model prog w) A (keyLt' (tuples' true) p.1 q.1) (fun r s' => s' = s ∧ r = decide (k p.1 < k q.1)) (fun _ _ => False) s
  by_cases e : k p.1 = k q.1
  · have hv := hpq e
    have e3 : decide (k p.1 < k q.1) = false := by rw [e]; exact decide_eq_false (Int.lt_irrefl _)
    rw [e3, ← hv]
    obtain ⟨a, o, t, r, n, e1, ho, hc, hd⟩ := h1
    rw [e1]
    refine PySem.W.kat_lt ho hd ho hd ?_
    show PySem.W.KatLex prog w A true (decide (2 < 2)) _ [(.int (k p.1) t, .int (k p.1) t), (r, r)] 0 s
    refine PySem.W.kat_cons (SeqAt.EqAt.same _ prog w _ _ (PySem.W.kat_yes (PySem.W.kat_cons (SeqAt.EqAt.same _ prog w _ _ (PySem.W.kat_yes (PySem.W.kat_nil ⟨rfl, rfl⟩))))))
  · generalize k p.1 = x at *
    generalize k q.1 = x' at *
    obtain ⟨a, o, t, r, n, e1, ho, hc, hd⟩ := h1
    obtain ⟨a', o', t', r', n', e1', ho', hc', hd'⟩ := h2
    rw [e1, e1']
    refine PySem.W.kat_lt ho hd ho' hd' ?_
    show PySem.W.KatLex prog w A true (decide (2 < 2)) _ [(.int x t, .int x' t'), (r, r')] 0 s
    refine PySem.W.kat_cons (SeqAt.EqAt.int_int x t x' t' prog w _ _ ?_)
    refine PySem.W.kat_go (fun e1 => ?_) (fun e1 => ?_)
    · exact absurd (show x = x' by simpa using e1) e
    · exact PySem.W.kat_no (oneLt_int ⟨rfl, rfl⟩)
theorem firsts_fst {h : Heap} : ∀ {vs : List Value}, (∀ v ∈ vs, ∃ x, IsFst h v x) → ∃ fs : List Value, PySem.W.KatTups h vs fs ∧ fs.length = vs.length ∧ ∀ f ∈ fs, ∃ x t, f = Value.int x t
  | [], _ => ⟨[], PySem.W.KatTups.nil, rfl, fun _ hm => by simp at hm⟩
  | v :: vs, hp => by
    obtain ⟨fs, h1, h2, h3⟩ := firsts_fst (vs := vs) fun v' hm => hp v' (List.mem_cons_of_mem _ hm)
    obtain ⟨x, a, o, t, r, n, e, ho, hc, hd⟩ := hp v (List.mem_cons_self ..)
    subst e
    refine ⟨.int x t :: fs, PySem.W.KatTups.cons ho hc hd rfl h1, by rw [List.length_cons, List.length_cons, h2], fun f hm => ?_⟩
    rcases List.mem_cons.mp hm with rfl | hm
    · exact ⟨x, t, rfl⟩
    · exact h3 f hm
theorem fst_sortable {a : Addr} {vs : List Value} {k : Value → Int} (h0 : 0 < vs.length) (hp : ∀ v ∈ vs, IsFst s.heap v (k v)) (hi : ∀ v ∈ vs, ∀ u ∈ vs, k v = k u → v = u) (ha : ∀ o, s.heap.get? a = some o → o.cls ≠ .type "tuple") : SrtO.SortableO prog w A s a vs fun v u => decide (k v < k u) := by
  intro h' keep
  have hp' : ∀ v ∈ vs, IsFst h' v (k v) := fun v hm => (hp v hm).keeps fun b o e c => keep b o (fun z => by subst z; exact ha o e c) e
  obtain ⟨fs, h1, h2, h3⟩ := firsts_fst fun v hm => ⟨_, hp' v hm⟩
  refine ⟨tuples' true, fun Q E hq => ?_, fst_cmp hp' hi⟩
  refine PySem.W.kat_kind (T := .type "int") h1 (by omega) (fun f hm => ?_) (by rfl) ?_
  · obtain ⟨x, t, rfl⟩ := h3 f hm
    exact PySem.W.Looks.now
  · have e : (Value.type "int" != Value.type "tuple") = true := by first | decide +kernel | rfl | decide
    rw [e]
    exact hq
theorem sorted_fst {l : Addr} {vs : List Value} {k : Value → Int} {Q : Value → Shared → Prop} (hl : s.heap.IsList l vs.toArray) (hz : vs.length ≤ sizeLine) (hp : ∀ v ∈ vs, IsFst s.heap v (k v)) (hi : ∀ v ∈ vs, ∀ u ∈ vs, k v = k u → v = u)
    (h : ∀ (h' : Heap) (d : Addr) (out : List Value), SrtO.Srtd (fun v u => decide (k v < k u)) out → SrtO.Stb (fun v u => decide (k v < k u)) out vs → (∀ b o, s.heap.get? b = some o → h'.get? b = some o) → s.heap.objs.size ≤ d → (∃ n, h'.get? d = some (seqObj "list" out.toArray n)) → Q (.ref d) { s with heap := h' }) :
    wpAny (model prog w) A (call (.builtin "sorted") [.ref l]) Q E s := by
  refine SrtO.sorted_ord (swo_fst k) hl hz (fun h2 h₁ a ha kk => ?_) fun out hs hb => ?_
  · refine fst_sortable (s := { s with heap := h₁ }) (by omega) (fun v hm => (hp v hm).keeps fun b o e _ => (kk b o e).2) hi fun o e => ?_
    have e' : some o = some (seqObj "list" vs.toArray 0) := e.symm.trans ha
    cases e'
    intro c
    exact absurd (Value.type.inj c) (by decide)
  · exact h _ _ out hs hb (fun b o e => sortedAll_old e) (Nat.le_succ _) (sortedAll_at s.heap vs out.toArray)
end
def rSortedF (K : PySem.W.Frag) : List V → Hp → VK → Prop := fun vs H Q => ∃ (a : Addr) (xs : List V) (k : V → Int), vs = [V.ref a] ∧ SqL K H a xs ∧ (∀ x ∈ xs, ∃ t y, x = V.ref t ∧ H t = some (.tup [.int (k x), y])) ∧ (∀ x ∈ xs, ∀ y ∈ xs, k x = k y → x = y) ∧
  ∀ ys p, ys.Pairwise (fun x y => k x ≤ k y) → ys.Perm xs → H p = none → Q (.ref p) (upd H p (.lst ys))
section
variable {X : Cx}
theorem cr_sortedF : CallR X (.builtin "sorted") (rSortedF X.K) := by
  intro pins s σ H vs us Q I r h
  obtain ⟨a, xs, k, rfl, hs, hx, hi, q⟩ := h
  obtain ⟨its, rv, hl, hz⟩ := I.list hs
  obtain ⟨u, rfl, ru⟩ := vals1 r
  obtain rfl : u = Value.ref a := ru
  obtain ⟨e1, e2⟩ := refs_back rv fun x m => by
    obtain ⟨t, y, e, _⟩ := hx x m
    exact ⟨t, e⟩
  have inj : ∀ u ∈ its, ∀ v ∈ its, backV u = backV v → u = v := fun u hu v hv e => by
    obtain ⟨t, rfl⟩ := e2 u hu
    obtain ⟨t', rfl⟩ := e2 v hv
    exact congrArg Value.ref (V.ref.inj e)
  have mem : ∀ u ∈ its, backV u ∈ xs := fun u hu => by rw [e1]; exact List.mem_map.mpr ⟨_, hu, rfl⟩
  refine sorted_fst (k := fun u => k (backV u)) hl.isList (by rw [← rv.length]; exact hz) (fun v hv => ?_) (fun v hv u hu e => inj v hv u hu (hi _ (mem v hv) _ (mem u hu) e)) fun h' d out h1 h2 kp hd hn => ?_
  · obtain ⟨t, rfl⟩ := e2 v hv
    obtain ⟨t', y, e, ht⟩ := hx _ (mem _ hv)
    cases e
    obtain ⟨_, its2, r2, o, ho, hc, n, hd⟩ := I.hok _ _ ht
    obtain ⟨u1, u2, rfl, ri, rj⟩ := vals2 r2
    obtain ⟨t1, rfl⟩ := ri
    exact ⟨t, o, t1, u2, n, rfl, ho, hc, hd⟩
  · have h3 : ∀ u ∈ out, ∃ a, u = Value.ref a := fun u hu => e2 u (h2.perm.mem_iff.mp hu)
    obtain ⟨n, hn⟩ := hn
    have hb : (out.map backV).Perm xs := by
      rw [e1]
      exact h2.perm.map backV
    refine ⟨.ref d, upd H d (.lst (out.map backV)), I.laid (t' := s.toks) kp hd ⟨?_, out, n, vals_back h3, hn⟩, rfl, q _ d ?_ hb (I.hok.fresh hd)⟩
    · rw [hb.length_eq]
      exact hz
    · rw [List.pairwise_map]
      exact h1.imp fun {x y} z => Int.not_lt.mp (of_decide_eq_false z)
end
theorem perm_lift {α β : Type} {f : α → β} {m n : List β} (h : m.Perm n) : ∀ l : List α, n = l.map f → ∃ l' : List α, l'.Perm l ∧ l'.map f = m := by
  induction h with
  | nil => exact fun l e => ⟨[], by cases l; (· exact List.Perm.refl _); (· cases e), rfl⟩
  | cons x _ ih =>
    intro l e
    cases l with
    | nil => cases e
    | cons a l =>
      rw [List.map_cons] at e
      injection e with e1 e2
      obtain ⟨l', p, q⟩ := ih l e2
      exact ⟨a :: l', p.cons a, by rw [List.map_cons, q, e1]⟩
  | swap x y l0 =>
    intro l e
    match l, e with
    | a :: b :: l, e =>
      rw [List.map_cons, List.map_cons] at e
      injection e with e1 e2
      injection e2 with e2 e3
      exact ⟨b :: a :: l, List.Perm.swap a b l, by rw [List.map_cons, List.map_cons, ← e1, ← e2, ← e3]⟩
  | trans _ _ ih1 ih2 =>
    intro l e
    obtain ⟨l2, p2, q2⟩ := ih2 l e
    obtain ⟨l1, p1, q1⟩ := ih1 l2 q2.symm
    exact ⟨l1, p1.trans p2, q1⟩
section
variable {c : Cc} {sp : List Sl} {e : Expr} {p pos : Pos} {QL : List D → Prop}
/-- the key that stands in the part -/
def fkV (F : Hp) : V → Int
  | .ref t => match F t with | some (.tup (.int k :: _)) => k | _ => 0
  | _ => 0
theorem fk_all {α : Type} {K : PySem.W.Frag} {F : Hp} {k : α → Int} {g : α → D} : ∀ {xs : List α} {vs : List V}, DpAll K F vs (xs.map fun x => .tuple [.int (k x), g x]) →
    (∀ v ∈ vs, ∃ t y, v = V.ref t ∧ F t = some (.tup [.int (fkV F v), y])) ∧ vs.map (fkV F) = xs.map k
  | [], _, h => by cases h; exact ⟨fun v hv => (by cases hv), rfl⟩
  | x :: xs, _, h => by
    cases h with
    | cons h1 h2 =>
      obtain ⟨a, ws, rfl, h3, h4⟩ := dp_tuple h1
      cases h4 with
      | cons h5 h6 =>
        cases h5
        cases h6 with
        | cons h7 h8 =>
          cases h8
          obtain ⟨i1, i2⟩ := fk_all h2
          have ek : fkV F (V.ref a) = k x := by simp only [fkV, h3]
          refine ⟨fun v hv => ?_, by rw [List.map_cons, List.map_cons, ek, i2]⟩
          rcases List.mem_cons.mp hv with rfl | hv
          · exact ⟨a, _, rfl, by rw [ek]; exact h3⟩
          · exact i1 v hv
theorem dpAll_zip {K : PySem.W.Frag} {F : Hp} {zs : List (V × D)} : (∀ z ∈ zs, Dp K F z.1 z.2) → DpAll K F (zs.map Prod.fst) (zs.map Prod.snd) := fun h => by
  induction zs with
  | nil => exact .nil
  | cons z zs ih => exact .cons (h z (.head _)) (ih fun y hy => h y (.tail _ hy))
theorem dpAll_mem {K : PySem.W.Frag} {F : Hp} : ∀ {vs : List V} {ds : List D}, DpAll K F vs ds → ∀ z ∈ vs.zip ds, Dp K F z.1 z.2
  | [], _, h => fun z hz => by cases hz
  | v :: vs, _, h => by
    cases h with
    | cons h1 h2 =>
      intro z hz
      rw [List.zip_cons_cons] at hz
      rcases List.mem_cons.mp hz with rfl | hz
      · exact h1
      · exact dpAll_mem h2 z hz
theorem EF_sortedF (h : E c e sp fun d => ∃ (α : Type) (xs : List α) (k : α → Int) (g : α → D), d = .list (xs.map fun x => .tuple [.int (k x), g x]) ∧ (xs.map k).Nodup ∧ ∀ ys : List α, ys.Perm xs → ys.Pairwise (fun x y => k x < k y) → QL (ys.map fun x => .tuple [.int (k x), g x]))
    (hm : c.m.mg "sorted" = none) (hg : GlS c.sc "sorted" := by rfl)
    (he : ∀ env, starEach [e] env = (false, eval e env) :: starEach [] env := by intro _; rfl)
    (hpl : ∀ env, (backTo pos (starEach [] env)).any (·.1) = false := by intro _; rfl) :
    EF c (.Call (.Name "sorted" p) [e] [] pos) sp QL := Sealed.of fun X hX G F0 F H σ r R k => by
  refine PE_tE (pe_callB cr_sortedF (hg.gl hX) (by rw [hX.mg]; exact hm) boot_sorted' (pa_cons pe_tE pa_nil (he _)) (by decide) (by decide) (he _) (hpl _)) ?_
  refine h X hX G F0 F H σ r _ fun d v F1 H1 q g1 d1 => ?_
  obtain ⟨α, xs, kk, g, rfl, hnd, q⟩ := q
  obtain ⟨a, vs, rfl, h1, h2⟩ := dp_list d1
  obtain ⟨f1, f2⟩ := fk_all h2
  have hlen : vs.length = xs.length := by
    have := congrArg List.length f2
    rwa [List.length_map, List.length_map] at this
  rw [hX.K]
  refine ⟨a, vs, fkV F1, rfl, g1.fh.seq h1, fun x hx => ?_, fun x hx y hy e => ?_, fun ys p2 s1 s2 hp2 => ?_⟩
  · obtain ⟨t, y, e, z⟩ := f1 x hx
    exact ⟨t, y, e, g1.fh _ _ z⟩
  · rw [← f2] at hnd
    obtain ⟨i, hi, rfl⟩ := List.getElem_of_mem hx
    obtain ⟨j, hj, rfl⟩ := List.getElem_of_mem hy
    have := (List.getElem_inj (xs := vs.map (fkV F1)) (i := i) (j := j) (h₀ := by rw [List.length_map]; exact hi) (h₁ := by rw [List.length_map]; exact hj) hnd).mp (by rw [List.getElem_map, List.getElem_map]; exact e)
    subst this
    rfl
  · obtain ⟨zs, z1, z2⟩ := perm_lift (f := Prod.fst) s2 (vs.zip xs) (by rw [List.map_fst_zip (by omega)])
    have hz : ∀ z ∈ zs, Dp c.m.K F1 z.1 (.tuple [.int (kk z.2), g z.2]) ∧ fkV F1 z.1 = kk z.2 := fun z hz => by
      have hz := z1.mem_iff.mp hz
      obtain ⟨i, hi, rfl⟩ := List.getElem_of_mem hz
      have hi1 : i < vs.length := by rw [List.length_zip] at hi; omega
      have hi2 : i < xs.length := by omega
      rw [List.getElem_zip]
      refine ⟨dpAll_mem h2 (vs[i], .tuple [.int (kk xs[i]), g xs[i]]) ?_, ?_⟩
      · rw [List.mem_iff_getElem]
        refine ⟨i, by rw [List.length_zip, List.length_map]; omega, ?_⟩
        rw [List.getElem_zip, List.getElem_map]
      · have := congrArg (fun l : List Int => l[i]?) f2
        simp only [List.getElem?_map, List.getElem?_eq_getElem hi1, List.getElem?_eq_getElem hi2, Option.map_some, Option.some.injEq] at this
        exact this
    have hpm : (zs.map Prod.snd).Perm xs := by
      have := z1.map Prod.snd
      rwa [List.map_snd_zip (by omega)] at this
    have hsd : (zs.map Prod.snd).Pairwise (fun x y => kk x < kk y) := by
      have n1 : ((zs.map Prod.snd).map kk).Nodup := (hpm.map kk).nodup_iff.mpr hnd
      rw [← z2, List.pairwise_map] at s1
      rw [List.pairwise_map]
      have n2 : zs.Pairwise (fun x y => kk x.2 ≠ kk y.2) := by
        have := n1
        rw [List.Nodup, List.pairwise_map, List.pairwise_map] at this
        exact this
      refine (s1.and n2).imp_of_mem ?_
      intro x y hx hy z
      have e1 := (hz x hx).2
      have e2 := (hz y hy).2
      have := z.1
      have := z.2
      omega
    have g3 := Grow.out (o := .lst ys) g1.fh hp2
    refine k ((zs.map Prod.snd).map fun x => .tuple [.int (kk x), g x]) ys p2 F1 _ (q _ hpm hsd) (g1.trans g3) ?_ ?_ upd_same ?_
    · exact g1.h.free hp2
    · exact g1.fh.free hp2
    · rw [← z2, List.map_map]
      have := dpAll_zip (K := c.m.K) (F := F1) (zs := zs.map fun z => (z.1, PyData.tuple [.int (kk z.2), g z.2])) fun z hz2 => by
        obtain ⟨y, hy, rfl⟩ := List.mem_map.mp hz2
        exact (hz y hy).1
      rw [List.map_map, List.map_map] at this
      exact this
end
end Pl
set_option Elab.async false
set_option linter.all false
set_option maxRecDepth 100000
set_option maxHeartbeats 4000000
set_option autoImplicit false
namespace Pl
open PySem PySem.Spec PyProof.Rows L2
section
variable {c : Cc} {Q : D → Prop} {a b x y : D}
theorem ixp_t20 (q : Q a) : IxP c (.tuple [a, b]) (.int 0) Q := ixp_tup rfl q
theorem ixp_t21 (q : Q b) : IxP c (.tuple [a, b]) (.int 1) Q := ixp_tup rfl q
theorem ixp_t30 (q : Q a) : IxP c (.tuple [a, b, x]) (.int 0) Q := ixp_tup rfl q
theorem ixp_t31 (q : Q b) : IxP c (.tuple [a, b, x]) (.int 1) Q := ixp_tup rfl q
theorem ixp_t32 (q : Q x) : IxP c (.tuple [a, b, x]) (.int 2) Q := ixp_tup rfl q
end
/-- the least number with a property -/
theorem least {P : Nat → Prop} (h : ∃ n, P n) : ∃ n, P n ∧ ∀ m, m < n → ¬ P m := by
  obtain ⟨n, hn⟩ := h
  induction n using Nat.strongRecOn with
  | _ n ih =>
    by_cases c : ∃ m, m < n ∧ P m
    · obtain ⟨m, hm, hp⟩ := c; exact ih m hm hp
    · exact ⟨n, hn, fun m hm hp => c ⟨m, hm, hp⟩⟩
/-- one list within another one -/
theorem sub_len {α : Type} [DecidableEq α] : ∀ {xs ys : List α}, xs.Nodup → (∀ x ∈ xs, x ∈ ys) → xs.length ≤ ys.length
  | [], _, _, _ => Nat.zero_le _
  | x :: xs, ys, hn, hs => by
    have hn' := List.nodup_cons.mp hn
    have hx : x ∈ ys := hs x (List.mem_cons_self ..)
    have := sub_len (xs := xs) (ys := ys.erase x) hn'.2 fun z hz => (List.mem_erase_of_ne fun (e : z = x) => hn'.1 (e ▸ hz)).mpr (hs z (List.mem_cons_of_mem _ hz))
    rw [List.length_erase_of_mem hx] at this
    have h2 := List.length_pos_of_mem hx
    rw [List.length_cons]; omega
theorem sub_back {α : Type} [DecidableEq α] {xs ys : List α} (hn : xs.Nodup) (hs : ∀ x ∈ xs, x ∈ ys) (hl : ys.length ≤ xs.length) : ∀ y ∈ ys, y ∈ xs := fun y hy => by
  apply Classical.byContradiction
  intro hc
  have := sub_len (xs := xs) (ys := ys.erase y) hn fun z hz => (List.mem_erase_of_ne fun (e : z = y) => hc (e ▸ hz)).mpr (hs z hz)
  rw [List.length_erase_of_mem hy] at this
  have h2 := List.length_pos_of_mem hy
  omega
/-- lists that rise by one key and have the same members -/
theorem key_ext {α : Type} {k : α → Int} : ∀ {xs ys : List α}, xs.Pairwise (fun x y => k x < k y) → ys.Pairwise (fun x y => k x < k y) → (∀ z, z ∈ xs ↔ z ∈ ys) → xs = ys
  | [], [], _, _, _ => rfl
  | [], y :: _, _, _, h => absurd ((h y).mpr (List.mem_cons_self ..)) (by simp)
  | x :: _, [], _, _, h => absurd ((h x).mp (List.mem_cons_self ..)) (by simp)
  | x :: xs, y :: ys, hx, hy, h => by
    obtain ⟨hx1, hx2⟩ := List.pairwise_cons.mp hx
    obtain ⟨hy1, hy2⟩ := List.pairwise_cons.mp hy
    have e : x = y := by
      rcases List.mem_cons.mp ((h x).mp (List.mem_cons_self ..)) with e | e
      · exact e
      · rcases List.mem_cons.mp ((h y).mpr (List.mem_cons_self ..)) with f | f
        · exact f.symm
        · have := hy1 x e; have := hx1 y f; omega
    subst e
    rw [key_ext hx2 hy2 fun z => ?_]
    constructor
    · intro hz
      rcases List.mem_cons.mp ((h z).mp (List.mem_cons_of_mem _ hz)) with e | e
      · have := hx1 z hz; rw [e] at this; omega
      · exact e
    · intro hz
      rcases List.mem_cons.mp ((h z).mpr (List.mem_cons_of_mem _ hz)) with e | e
      · have := hy1 z hz; rw [e] at this; omega
      · exact e
/-- neighbours that are in order -/
def adj {α : Type} (p : α → α → Bool) : List α → Bool
  | x :: y :: l => p x y && adj p (y :: l)
  | _ => true
theorem adj_get {α : Type} {p : α → α → Bool} : ∀ {l : List α} {i : Nat} {x y : α}, adj p l = true → l[i]? = some x → l[i + 1]? = some y → p x y = true
  | [], _, _, _, _, h, _ => by simp at h
  | [_], i, _, _, _, _, h => by simp at h
  | a :: b :: l, 0, x, y, h, hx, hy => by
    simp at hx hy; subst hx; subst hy
    exact (Bool.and_eq_true _ _ ▸ h : _ ∧ _).1
  | a :: b :: l, i + 1, x, y, h, hx, hy => adj_get (i := i) (Bool.and_eq_true _ _ ▸ h : _ ∧ _).2 (by simpa using hx) (by simpa using hy)
theorem adj_pw {α : Type} {p : α → α → Bool} (tr : ∀ x y z, p x y = true → p y z = true → p x z = true) : ∀ {l : List α}, adj p l = true → l.Pairwise fun x y => p x y = true
  | [], _ => .nil
  | [_], _ => List.pairwise_singleton _ _
  | a :: b :: l, h => by
    obtain ⟨h1, h2⟩ := (Bool.and_eq_true _ _ ▸ h : p a b = true ∧ adj p (b :: l) = true)
    have ih := adj_pw tr h2
    refine List.pairwise_cons.mpr ⟨fun z hz => ?_, ih⟩
    rcases List.mem_cons.mp hz with e | e
    · rw [e]; exact h1
    · exact tr _ _ _ h1 ((List.pairwise_cons.mp ih).1 z e)
end Pl
namespace Pl
theorem all_t {α : Type} (xs : List α) : (xs.map fun _ => true).all id = true := by
  rw [List.all_eq_true]; intro x hx; obtain ⟨y, _, rfl⟩ := List.mem_map.mp hx; rfl
theorem in_grid {n i j : Nat} (hi : i < n) (hj : j ≤ n) : i * n + j ≤ n * n := by
  have := Nat.mul_le_mul_right n (show i + 1 ≤ n by omega)
  rw [Nat.succ_mul] at this; omega
end Pl
set_option Elab.async false
set_option linter.all false
set_option maxRecDepth 100000
set_option maxHeartbeats 4000000
set_option autoImplicit false
namespace Pl
open PySem PySem.Spec PyProof.Rows L2
section
variable {X : Cx}
def rInT (K : PySem.W.Frag) (neg : Bool) : R2 := fun x y H Q => ∃ d ds, L2.Dp K H x d ∧ L2.Dp K H y (.tuple ds) ∧ SeqAt.shaped d = true ∧ SeqAt.shaped (.tuple ds) = true ∧ Q (.bl (if neg then !ds.any fun z => PyData.eqv z d else ds.any fun z => PyData.eqv z d)) H
theorem op_inT (hu : X.A.units + 65 < cLine) : OpR X (compareOp .In) (rInT X.K false) := by
  intro pins s σ H x y v u Q I rx ry h
  obtain ⟨d, ds, hd, he, sd, se, q⟩ := h
  obtain ⟨as, r1⟩ := L2.Dp.reads I d x v hd rx
  obtain ⟨bs, r2⟩ := L2.Dp.reads I (.tuple ds) y u he ry
  exact SeqAt.in_tuple_reads r2 r1 (SeqAt.canLay_of_shaped se) (SeqAt.canLay_of_shaped sd) (room_in_shaped sd hu) ⟨.bl _, H, I, rfl, q⟩
theorem op_ninT (hu : X.A.units + 65 < cLine) : OpR X (compareOp .NotIn) (rInT X.K true) := by
  intro pins s σ H x y v u Q I rx ry h
  obtain ⟨d, ds, hd, he, sd, se, q⟩ := h
  obtain ⟨as, r1⟩ := L2.Dp.reads I d x v hd rx
  obtain ⟨bs, r2⟩ := L2.Dp.reads I (.tuple ds) y u he ry
  exact SeqAt.notIn_tuple_reads r2 r1 (SeqAt.canLay_of_shaped se) (SeqAt.canLay_of_shaped sd) (room_in_shaped sd hu) ⟨.bl _, H, I, rfl, q⟩
end
section
variable {c : Cc} {Q : D → Prop}
theorem opp_inDT {d : D} {ds : List D} (h1 : SeqAt.shaped d = true) (h2 : SeqAt.shaped (.tuple ds) = true) (q : Q (.bool (ds.any fun z => PyData.eqv z d))) : OpP c (compareOp .In) d (.tuple ds) Q :=
  .of fun X hX => ⟨_, op_inT hX.u65, fun F H x y R s q1 q2 k => ⟨d, ds, (dp_mono s _ _ (hX.K ▸ q1)).kit (SeqAt.canLay_of_shaped h1), (dp_mono s _ _ (hX.K ▸ q2)).kit (SeqAt.canLay_of_shaped h2), h1, h2, k _ _ F H q (Grow.refl s) (.bl _)⟩⟩
theorem opp_ninDT {d : D} {ds : List D} (h1 : SeqAt.shaped d = true) (h2 : SeqAt.shaped (.tuple ds) = true) (q : Q (.bool (!ds.any fun z => PyData.eqv z d))) : OpP c (compareOp .NotIn) d (.tuple ds) Q :=
  .of fun X hX => ⟨_, op_ninT hX.u65, fun F H x y R s q1 q2 k => ⟨d, ds, (dp_mono s _ _ (hX.K ▸ q1)).kit (SeqAt.canLay_of_shaped h1), (dp_mono s _ _ (hX.K ▸ q2)).kit (SeqAt.canLay_of_shaped h2), h1, h2, k _ _ F H q (Grow.refl s) (.bl _)⟩⟩
/-- a pair -/
def prD (x : Int × Int) : D := .tuple [.int x.1, .int x.2]
theorem shaped_prsL (xs : List (Int × Int)) : SeqAt.shaped (.list (xs.map prD)) = true := shaped_twosL (fun x : Int × Int => x.1) (fun x : Int × Int => x.2) xs
theorem shaped_prsT (xs : List (Int × Int)) : SeqAt.shaped (.tuple (xs.map prD)) = true := by
  have h := shaped_prsL xs
  unfold SeqAt.shaped at h ⊢
  exact h
theorem any_prs (x : Int × Int) : ∀ xs : List (Int × Int), ((xs.map prD).any fun z => PyData.eqv z (prD x)) = decide (x ∈ xs)
  | [] => rfl
  | y :: ys => by
    rw [List.map_cons, List.any_cons, any_prs x ys]
    show (PyData.eqv (.tuple [.int y.1, .int y.2]) (.tuple [.int x.1, .int x.2]) || _) = _
    rw [eqv_two, Bool.eq_iff_iff]
    simp only [Bool.or_eq_true, Bool.and_eq_true, decide_eq_true_eq, List.mem_cons]
    constructor
    · rintro (⟨h1, h2⟩ | h)
      · exact .inl (Prod.ext h1.symm h2.symm)
      · exact .inr h
    · rintro (h | h)
      · exact .inl (by rw [h]; exact ⟨rfl, rfl⟩)
      · exact .inr h
theorem opp_inPT {x : Int × Int} {xs : List (Int × Int)} (q : Q (.bool (decide (x ∈ xs)))) : OpP c (compareOp .In) (prD x) (.tuple (xs.map prD)) Q := opp_inDT (shaped_two x.1 x.2) (shaped_prsT xs) (by rw [any_prs]; exact q)
theorem opp_ninPT {x : Int × Int} {xs : List (Int × Int)} (q : Q (.bool (!decide (x ∈ xs)))) : OpP c (compareOp .NotIn) (prD x) (.tuple (xs.map prD)) Q := opp_ninDT (shaped_two x.1 x.2) (shaped_prsT xs) (by rw [any_prs]; exact q)
theorem opp_inPL {x : Int × Int} {xs : List (Int × Int)} (q : Q (.bool (decide (x ∈ xs)))) : OpP c (compareOp .In) (prD x) (.list (xs.map prD)) Q := opp_inD (shaped_two x.1 x.2) (shaped_prsL xs) (by rw [any_prs]; exact q)
theorem opp_ninPL {x : Int × Int} {xs : List (Int × Int)} (q : Q (.bool (!decide (x ∈ xs)))) : OpP c (compareOp .NotIn) (prD x) (.list (xs.map prD)) Q := opp_ninD (shaped_two x.1 x.2) (shaped_prsL xs) (by rw [any_prs]; exact q)
theorem opp_ninS {x y : Str} (q : Q (.bool (!subB x y))) : OpP c (compareOp .NotIn) (.str x) (.str y) Q := .of fun X hX => ⟨_, op_notin_str, fun F H u v R s h1 h2 k => by
  cases h1; cases h2
  exact ⟨x, y, rfl, rfl, by rw [show (!(!(Builtin.Str.occurrences y x 0 y.length 1).isEmpty)) = (!subB x y) from rfl] at *; exact k _ _ F H q (Grow.refl s) (.bl _)⟩⟩
end
theorem at_lastD {α : Type} {f : α → D} {xs : List α} {z : α} (h : xs.getLast? = some z) : atI (xs.map f) (-1) = some (f z) := by
  have hl : 0 < xs.length := by
    cases xs with
    | nil => cases h
    | cons a l => exact Nat.succ_pos _
  unfold atI L2.ixN
  rw [List.length_map, if_neg (by omega), if_pos (by omega)]
  show (xs.map f)[((-1 : Int) + (xs.length : Int)).toNat]? = _
  rw [show ((-1 : Int) + (xs.length : Int)).toNat = xs.length - 1 from by omega, List.getElem?_map, ← List.getLast?_eq_getElem?, h]
  rfl
theorem at_headD {α : Type} {f : α → D} {xs : List α} {z : α} (h : xs.head? = some z) : atI (xs.map f) 0 = some (f z) := at_natD (j := 0) (by rw [← List.head?_eq_getElem?]; exact h)
end Pl
set_option Elab.async false
set_option linter.all false
set_option maxRecDepth 100000
set_option maxHeartbeats 4000000
set_option autoImplicit false
namespace Pl
open PySem PySem.Spec PyProof.Rows L2
/-! ### tuple(range(..)), list(range(..)) of one, two or three -/
def PRgS (X : Cx) (e : Expr) (t : L2.St → Hp → (Int → Int → Int → Hp → Prop) → Prop) : Prop :=
  ∀ (pins : List (Addr × Obj)) (s : Shared) (σ : L2.St) (H : Hp) (Q : Int → Int → Int → Hp → Prop), L2.Inv X pins σ H s → t σ H Q →
    wpAny (model X.prog X.w) X.A (eval e X.env) (fun x s' => ∃ r a b k t u v H', x = .ref r ∧ IsRange s'.heap r a b k t u v ∧ L2.Inv X pins σ H' s' ∧ Q a b k H') X.xe s
def tRgS1 (ta : TE) : L2.St → Hp → (Int → Int → Int → Hp → Prop) → Prop := fun σ H Q => ta σ H fun x H1 => ∃ n, x = .int n ∧ Q 0 n 1 H1
def tRgS2 (ta tb : TE) : L2.St → Hp → (Int → Int → Int → Hp → Prop) → Prop := fun σ H Q => ta σ H fun x H1 => tb σ H1 fun y H2 => ∃ i j, x = .int i ∧ y = .int j ∧ Q i j 1 H2
def tRgS3 (ta tb tc : TE) : L2.St → Hp → (Int → Int → Int → Hp → Prop) → Prop := fun σ H Q => ta σ H fun x H1 => tb σ H1 fun y H2 => tc σ H2 fun z H3 => ∃ i j k : Int, x = .int i ∧ y = .int j ∧ z = .int k ∧ (k ≠ 0 ∧ k.natAbs < 1073741824) ∧ Q i j k H3
section
variable {X : Cx} {a b c : Expr} {ta tb tc : TE}
theorem prs_1 {p pos : Pos} (hg : Gl X "range") (hm : X.mg "range" = none) (ha : PE X a ta) (na : starEach [a] X.env = (false, eval a X.env) :: starEach [] X.env := by rfl) : PRgS X (.Call (.Name "range" p) [a] [] pos) (tRgS1 ta) := by
  intro pins s σ H Q I h
  refine Call_ (ld_blt I hg hm boot_range (PyProof.Rows.callWith_type1 (one_arg ha I h (fun v s2 x H2 I2 r q => ?_) na) na))
  obtain ⟨n, rfl, q⟩ := q
  obtain ⟨t, rfl⟩ := r
  exact call_range_1 ⟨_, 0, n, 1, _, _, _, H2, rfl, IsRange.new _ _ _ _ _ _ _, I2.kept fun b u e => Heap.get?_push_of_some _ e, q⟩
theorem prs_2 {p pos : Pos} (hg : Gl X "range") (hm : X.mg "range" = none) (ha : PE X a ta) (hb : PE X b tb) (na : starEach [a, b] X.env = (false, eval a X.env) :: starEach [b] X.env := by rfl)
    (nb : starEach [b] X.env = (false, eval b X.env) :: starEach [] X.env := by rfl) (hp : (backTo pos (starEach [b] X.env)).any (·.1) = false := by rfl) : PRgS X (.Call (.Name "range" p) [a, b] [] pos) (tRgS2 ta tb) := by
  intro pins s σ H Q I h
  refine Call_ (ld_blt I hg hm boot_range (PyProof.Rows.callWith_type1 (args_cons (thn (ha.run pins s σ H _ I h) fun v s1 ⟨x, H1, I1, r1, q1⟩ => one_arg hb I1 q1 (fun u s2 y H2 I2 r2 q => ?_) nb) na) na hp))
  obtain ⟨i, j, rfl, rfl, q⟩ := q
  obtain ⟨t, rfl⟩ := r1
  obtain ⟨t', rfl⟩ := r2
  exact call_range_2 ⟨_, i, j, 1, _, _, _, H2, rfl, IsRange.new _ _ _ _ _ _ _, I2.kept fun b u e => Heap.get?_push_of_some _ e, q⟩
theorem prs_3 {p pos : Pos} (hg : Gl X "range") (hm : X.mg "range" = none) (ha : PE X a ta) (hb : PE X b tb) (hc : PE X c tc) (na : starEach [a, b, c] X.env = (false, eval a X.env) :: starEach [b, c] X.env := by rfl)
    (nb : starEach [b, c] X.env = (false, eval b X.env) :: starEach [c] X.env := by rfl) (nc : starEach [c] X.env = (false, eval c X.env) :: starEach [] X.env := by rfl) (hp : (backTo pos (starEach [b, c] X.env)).any (·.1) = false := by rfl) : PRgS X (.Call (.Name "range" p) [a, b, c] [] pos) (tRgS3 ta tb tc) := by
  intro pins s σ H Q I h
  refine Call_ (ld_blt I hg hm boot_range (PyProof.Rows.callWith_type1 (args_cons (thn (ha.run pins s σ H _ I h) fun v s1 ⟨x, H1, I1, r1, q1⟩ => args_cons (thn (hb.run pins s1 σ H1 _ I1 q1) fun u s2 ⟨y, H2, I2, r2, q2⟩ => one_arg hc I2 q2 (fun w s3 z H3 I3 r3 q => ?_) nc) nb) na) na hp))
  obtain ⟨i, j, k, rfl, rfl, rfl, hk, q⟩ := q
  obtain ⟨t, rfl⟩ := r1
  obtain ⟨t', rfl⟩ := r2
  obtain ⟨t'', rfl⟩ := r3
  exact call_range_3 hk.1 ⟨_, i, j, k, _, _, _, H3, rfl, IsRange.new _ _ _ _ _ _ _, I3.kept (t' := s3.toks) fun b u e => Heap.get?_push_of_some _ e, q⟩ (.inl (PyProof.noPylong_small hk.2))
end
def rgS (a k : Int) (n : Nat) : List V := (List.range n).map fun i => V.int (a + (i : Nat) * k)
theorem rgS_length (a k : Int) (n : Nat) : (rgS a k n).length = n := by unfold rgS; rw [List.length_map, List.length_range]
theorem vals_rgS {a k : Int} {n : Nat} {acc : Array Value} (h : ItemsOf (fun i v => ∃ t, v = .int (a + i * k) t) acc n) : Vals (rgS a k n) acc.toList := by
  have e : acc.toList.length = n := by rw [Array.length_toList]; exact h.1
  unfold rgS
  rw [← e]
  refine vals_of_get acc.toList _ fun j u hj => ?_
  obtain ⟨t, rfl⟩ := h.2 j u (by rw [← hj, Array.getElem?_toList])
  exact ⟨t, rfl⟩
def tLstS (te : L2.St → Hp → (Int → Int → Int → Hp → Prop) → Prop) : TE := fun σ H Q => te σ H fun a b k H1 => Builtin.Range.small a b k = true ∧ stepN a b k ≤ 2 ^ 24 ∧ ∀ q, H1 q = none → Q (.ref q) (upd H1 q (.lst (rgS a k (stepN a b k))))
def tTupS (te : L2.St → Hp → (Int → Int → Int → Hp → Prop) → Prop) : TE := fun σ H Q => te σ H fun a b k H1 => Builtin.Range.small a b k = true ∧ stepN a b k ≤ 2 ^ 24 ∧ ∀ q, H1 q = none → Q (.ref q) (upd H1 q (.tup (rgS a k (stepN a b k))))
section
variable {X : Cx} {e : Expr} {te : L2.St → Hp → (Int → Int → Int → Hp → Prop) → Prop}
theorem pe_listRS {p pos : Pos} (hc : X.calm = true) (hg : Gl X "list") (hm : X.mg "list" = none) (he : PRgS X e te) (na : starEach [e] X.env = (false, eval e X.env) :: starEach [] X.env := by rfl) : PE X (.Call (.Name "list" p) [e] [] pos) (tLstS te) := by
  refine ⟨fun pins s σ H Q I h => ?_⟩
  refine Call_ (ld_blt I hg hm boot_list (PyProof.Rows.callWith_type1 (args_cons (thn (he pins s σ H _ I h) fun x s1 ⟨r, a, b, k, t, u, v, H1, ex, hr, I1, ok1, ok2, q⟩ => args_nil ?_) na) na))
  subst ex
  refine call_list_range (n := stepN a b k) (I1.ok.hd hc) hr ok1 (rangeSize_toNat a b k) ok2 fun h' tk acc c' hk e' hi => ?_
  refine ⟨.ref s1.heap.objs.size, upd H1 s1.heap.objs.size (.lst (rgS a k (stepN a b k))), I1.laid hk (Nat.le_refl _) (show ObjOk X.prog X.w _ _ _ (.lst (rgS a k (stepN a b k))) from ⟨?_, acc.toList, c', vals_rgS hi, ?_⟩), rfl, q _ (I1.hok.fresh (Nat.le_refl _))⟩
  · rw [rgS_length, sizeLine_eq]; omega
  · rw [Array.toArray_toList]; exact e'
theorem pe_tupRS {p pos : Pos} (hc : X.calm = true) (hg : Gl X "tuple") (hm : X.mg "tuple" = none) (he : PRgS X e te) (na : starEach [e] X.env = (false, eval e X.env) :: starEach [] X.env := by rfl) : PE X (.Call (.Name "tuple" p) [e] [] pos) (tTupS te) := by
  refine ⟨fun pins s σ H Q I h => ?_⟩
  refine Call_ (ld_blt I hg hm boot_tuple (PyProof.Rows.callWith_type1 (args_cons (thn (he pins s σ H _ I h) fun x s1 ⟨r, a, b, k, t, u, v, H1, ex, hr, I1, ok1, ok2, q⟩ => args_nil ?_) na) na))
  subst ex
  refine L2.call_tuple_range (n := stepN a b k) (I1.ok.hd hc) hr ok1 (rangeSize_toNat a b k) ok2 fun h' tk acc hk hi => ?_
  have I2 : L2.Inv X pins σ H1 { s1 with heap := h', toks := tk } := I1.kept hk
  refine ⟨.ref h'.objs.size, upd H1 h'.objs.size (.tup (rgS a k (stepN a b k))), I2.laid (t' := tk) (fun c o e => Heap.get?_push_of_some _ e) (Nat.le_refl _) (show ObjOk X.prog X.w _ _ _ (.tup (rgS a k (stepN a b k))) from ⟨?_, acc.toList, vals_rgS hi, ?_⟩), rfl, q _ (I2.hok.fresh (Nat.le_refl _))⟩
  · rw [rgS_length, sizeLine_eq]; omega
  · rw [Array.toArray_toList]; exact IsTup.new _ _
end
/-! judgements -/
abbrev RgS (c : Cc) (e : Expr) (sp : List Sl) (Q : Int → Int → Int → Prop) : Prop := Sealed (∀ (X : Cx), c.Has X → ∀ (G F0 F H : Hp) (σ : L2.St), SR c.m.T c.m.K G F0 F H sp σ → ∃ t, PRgS X e t ∧ ∀ R : Int → Int → Int → Hp → Prop, (∀ lo hi k F' H', Q lo hi k → Grow F H F' H' → R lo hi k H') → t σ H R)
section
variable {c : Cc} {sp : List Sl} {e a b s : Expr} {p pos : Pos} {Q : Int → Int → Int → Prop}
theorem RgS_1 (h : E c a sp fun d => ∃ n : Int, d = .int n ∧ Q 0 n 1) (hm : c.m.mg "range" = none) (hg : GlS c.sc "range" := by rfl) (hs : ∀ env, starEach [a] env = (false, eval a env) :: starEach [] env := by intro _; rfl) : RgS c (.Call (.Name "range" p) [a] [] pos) sp Q := Sealed.of fun X hX G F0 F H σ r =>
  ⟨_, prs_1 (hg.gl hX) (by rw [hX.mg]; exact hm) pe_tE (hs _), fun R k => by
    refine h X hX G F0 F H σ r _ fun d v F1 H1 q g d1 => ?_
    obtain ⟨n, rfl, q⟩ := q
    cases d1
    exact ⟨n, rfl, k _ _ _ F1 H1 q g⟩⟩
theorem RgS_2 (h : E c a sp fun d => E c b sp fun g => ∃ m n : Int, d = .int m ∧ g = .int n ∧ Q m n 1) (hm : c.m.mg "range" = none) (hg : GlS c.sc "range" := by rfl) (hs : ∀ env, starEach [a, b] env = (false, eval a env) :: starEach [b] env := by intro _; rfl) (hs2 : ∀ env, starEach [b] env = (false, eval b env) :: starEach [] env := by intro _; rfl) (hpl : ∀ env, (backTo pos (starEach [b] env)).any (·.1) = false := by intro _; rfl) : RgS c (.Call (.Name "range" p) [a, b] [] pos) sp Q := Sealed.of fun X hX G F0 F H σ r =>
  ⟨_, prs_2 (hg.gl hX) (by rw [hX.mg]; exact hm) pe_tE pe_tE (hs _) (hs2 _) (hpl _), fun R k => by
    refine h X hX G F0 F H σ r _ fun d v F1 H1 q g d1 => ?_
    refine Sealed.run q X hX G F0 F1 H1 σ (r.grow g) _ fun d2 v2 F2 H2 q2 g2 dd2 => ?_
    obtain ⟨m, n, rfl, rfl, q3⟩ := q2
    cases d1; cases dd2
    exact ⟨m, n, rfl, rfl, k _ _ _ F2 H2 q3 (g.trans g2)⟩⟩
theorem RgS_3 (h : E c a sp fun d => E c b sp fun g => E c s sp fun f => ∃ m n k : Int, d = .int m ∧ g = .int n ∧ f = .int k ∧ (k ≠ 0 ∧ k.natAbs < 1073741824) ∧ Q m n k) (hm : c.m.mg "range" = none) (hg : GlS c.sc "range" := by rfl) (hs : ∀ env, starEach [a, b, s] env = (false, eval a env) :: starEach [b, s] env := by intro _; rfl) (hs2 : ∀ env, starEach [b, s] env = (false, eval b env) :: starEach [s] env := by intro _; rfl) (hs3 : ∀ env, starEach [s] env = (false, eval s env) :: starEach [] env := by intro _; rfl) (hpl : ∀ env, (backTo pos (starEach [b, s] env)).any (·.1) = false := by intro _; rfl) : RgS c (.Call (.Name "range" p) [a, b, s] [] pos) sp Q := Sealed.of fun X hX G F0 F H σ r =>
  ⟨_, prs_3 (hg.gl hX) (by rw [hX.mg]; exact hm) pe_tE pe_tE pe_tE (hs _) (hs2 _) (hs3 _) (hpl _), fun R k => by
    refine h X hX G F0 F H σ r _ fun d v F1 H1 q g d1 => ?_
    refine Sealed.run q X hX G F0 F1 H1 σ (r.grow g) _ fun d2 v2 F2 H2 q2 g2 dd2 => ?_
    refine Sealed.run q2 X hX G F0 F2 H2 σ ((r.grow g).grow g2) _ fun d3 v3 F3 H3 q3 g3 dd3 => ?_
    obtain ⟨m, n, kk, rfl, rfl, rfl, hk, q4⟩ := q3
    cases d1; cases dd2; cases dd3
    exact ⟨m, n, kk, rfl, rfl, rfl, hk, k _ _ _ F3 H3 q4 ((g.trans g2).trans g3)⟩⟩
theorem dpAll_rgS {K : PySem.W.Frag} {F : Hp} (lo k : Int) (n : Nat) : DpAll K F (rgS lo k n) (rangeS lo k n) := by
  have := dpAll_of_ints (K := K) (F := F) ((List.range n).map fun (i : Nat) => lo + (i : Int) * k)
  rw [List.map_map, List.map_map] at this
  exact this
theorem E_tupRS {QD : D → Prop} (h : RgS c e sp fun lo hi k => Builtin.Range.small lo hi k = true ∧ stepN lo hi k ≤ 2 ^ 24 ∧ QD (.tuple (rangeS lo k (stepN lo hi k)))) (hm : c.m.mg "tuple" = none) (hg : GlS c.sc "tuple" := by rfl) (hs : ∀ env, starEach [e] env = (false, eval e env) :: starEach [] env := by intro _; rfl) :
    E c (.Call (.Name "tuple" p) [e] [] pos) sp QD := Sealed.of fun X hX G F0 F H σ r R k => by
  obtain ⟨t, ht, q⟩ := h X hX G F0 F H σ r
  refine PE_tE (pe_tupRS hX.calm (hg.gl hX) (by rw [hX.mg]; exact hm) ht (hs _)) ?_
  refine q _ fun lo hi kk F1 H1 ⟨q1, q2, q3⟩ g => ⟨q1, q2, fun p hp => ?_⟩
  have g2 := Grow.new_ (o := .tup (rgS lo kk (stepN lo hi kk))) g.fh hp
  exact k _ _ _ _ q3 (g.trans g2) (.tup upd_same (dpAll_rgS _ _ _))
theorem EF_lstRS {QL : List D → Prop} (h : RgS c e sp fun lo hi k => Builtin.Range.small lo hi k = true ∧ stepN lo hi k ≤ 2 ^ 24 ∧ QL (rangeS lo k (stepN lo hi k))) (hm : c.m.mg "list" = none) (hg : GlS c.sc "list" := by rfl) (hs : ∀ env, starEach [e] env = (false, eval e env) :: starEach [] env := by intro _; rfl) :
    EF c (.Call (.Name "list" p) [e] [] pos) sp QL := Sealed.of fun X hX G F0 F H σ r R k => by
  obtain ⟨t, ht, q⟩ := h X hX G F0 F H σ r
  refine PE_tE (pe_listRS hX.calm (hg.gl hX) (by rw [hX.mg]; exact hm) ht (hs _)) ?_
  refine q _ fun lo hi kk F1 H1 ⟨q1, q2, q3⟩ g => ⟨q1, q2, fun p hp => ?_⟩
  have g2 := Grow.out (o := .lst (rgS lo kk (stepN lo hi kk))) g.fh hp
  exact k _ _ p F1 _ q3 (g.trans g2) (g.h.free hp) (g.fh.free hp) upd_same (dpAll_rgS _ _ _)
theorem rangeS_one (lo : Int) (n : Nat) : rangeS lo 1 n = (rangeI lo n).map PyData.int := by
  unfold rangeS rangeI
  rw [List.map_map]
  apply List.map_congr_left
  intro i _
  show PyData.int _ = PyData.int _
  rw [Int.mul_one]
theorem stepN_one (i j : Int) : stepN i j 1 = (j - i).toNat := by
  rcases Int.lt_or_le i j with h | h
  · rw [stepN_pos (by decide) h, Int.ediv_one]; omega
  · rw [stepN_no (by decide) h]; omega
/-- the ways that are met most: range(n), range(m, n) -/
theorem E_tupR1 {QD : D → Prop} (h : RgS c e sp fun lo hi k => k = 1 ∧ (-(2 ^ 40) ≤ lo ∧ lo ≤ 2 ^ 40 ∧ -(2 ^ 40) ≤ hi ∧ hi ≤ 2 ^ 40 ∧ hi - lo ≤ 2 ^ 20) ∧ QD (.tuple ((rangeI lo (hi - lo).toNat).map .int))) (hm : c.m.mg "tuple" = none) (hg : GlS c.sc "tuple" := by rfl) (hs : ∀ env, starEach [e] env = (false, eval e env) :: starEach [] env := by intro _; rfl) :
    E c (.Call (.Name "tuple" p) [e] [] pos) sp QD := by
  refine E_tupRS ?_ hm hg hs
  exact Sealed.of fun X hX G F0 F H σ r => by
    obtain ⟨t, ht, q⟩ := h X hX G F0 F H σ r
    refine ⟨t, ht, fun R k => q R fun lo hi kk F' H' ⟨e1, hb, q2⟩ g => k lo hi kk F' H' ⟨?_, ?_, ?_⟩ g⟩
    · subst e1; exact small_mid (by omega) (by omega) (by omega) (by omega)
    · subst e1; rw [stepN_one]; omega
    · subst e1; rw [stepN_one, rangeS_one]; exact q2
theorem EF_lstR1 {QL : List D → Prop} (h : RgS c e sp fun lo hi k => k = 1 ∧ (-(2 ^ 40) ≤ lo ∧ lo ≤ 2 ^ 40 ∧ -(2 ^ 40) ≤ hi ∧ hi ≤ 2 ^ 40 ∧ hi - lo ≤ 2 ^ 20) ∧ QL ((rangeI lo (hi - lo).toNat).map .int)) (hm : c.m.mg "list" = none) (hg : GlS c.sc "list" := by rfl) (hs : ∀ env, starEach [e] env = (false, eval e env) :: starEach [] env := by intro _; rfl) :
    EF c (.Call (.Name "list" p) [e] [] pos) sp QL := by
  refine EF_lstRS ?_ hm hg hs
  exact Sealed.of fun X hX G F0 F H σ r => by
    obtain ⟨t, ht, q⟩ := h X hX G F0 F H σ r
    refine ⟨t, ht, fun R k => q R fun lo hi kk F' H' ⟨e1, hb, q2⟩ g => k lo hi kk F' H' ⟨?_, ?_, ?_⟩ g⟩
    · subst e1; exact small_mid (by omega) (by omega) (by omega) (by omega)
    · subst e1; rw [stepN_one]; omega
    · subst e1; rw [stepN_one, rangeS_one]; exact q2
end
end Pl
set_option Elab.async false
set_option linter.all false
set_option maxRecDepth 100000
set_option maxHeartbeats 4000000
set_option autoImplicit false
namespace Pl
open PySem PySem.Spec PyProof.Rows L2
/-! ### [elt for tg in it if .. for tg1 in it1 if ..] -/
def setV : List Sl → List Nat → List D → List Sl
  | sp, w :: ws, d :: ds => setV (sp.set w (.v d)) ws ds
  | sp, _, _ => sp
theorem setV_own : ∀ {ws : List Nat} {ds : List D} {sp : List Sl} {j : Nat} {t : Sl}, ds.length = ws.length → (setV sp ws ds)[j]? = some t → t.own = true → sp[j]? = some t ∧ j ∉ ws
  | [], [], sp, j, t, _, h, _ => ⟨h, by simp⟩
  | w :: ws, d :: ds, sp, j, t, hl, h, ho => by
    obtain ⟨h1, h2⟩ := setV_own (ws := ws) (ds := ds) (by simpa using hl) h ho
    rcases getElem_set h1 with ⟨e, e2, _⟩ | ⟨e, e2⟩
    · rw [e2] at ho; cases ho
    · exact ⟨e2, by simp only [List.mem_cons, not_or]; exact ⟨fun z => e z.symm, h2⟩⟩
section
variable {c : Cc} {sp : List Sl} {P : Pn} {pos : Pos}
def In2 (c' : Cc) (tg1 elt : Expr) (ifs1 : List Expr) (ws1 : List Nat) (sp' : List Sl) (G : List D) (es : List D) : Prop :=
  ∃ g1 : Nat → Option D, (∀ j e, es[j]? = some e → Asg c' tg1 ws1 e sp' fun sp3 => Ts c' ifs1 sp3 fun t => (t = true ∧ ∃ y, g1 j = some y ∧ E c' elt sp3 fun z => z = y) ∨ (t = false ∧ g1 j = none)) ∧ G = (List.range es.length).filterMap g1
def Lc2Q (c' : Cc) (tg : Expr) (ifs : List Expr) (tg1 it1 : Expr) (ifs1 : List Expr) (elt : Expr) (ws vs1 ws1 : List Nat) (sp' : List Sl) (QL : List D → Prop) (ds : List D) : Prop :=
  ∃ g : Nat → List D, ((List.range ds.length).flatMap g).length ≤ sizeLine ∧ (∀ i d, ds[i]? = some d → Asg c' tg ws d sp' fun sp2 => (∃ dd : List D, dd.length = ws.length ∧ sp2 = setV sp' ws dd) ∧ Ts c' ifs sp2 fun t => (t = true ∧ W c' tg1 it1 sp2 fun es => In2 c' tg1 elt ifs1 ws1 (wipeS sp2 vs1) (g i) es) ∨ (t = false ∧ g i = [])) ∧ QL ((List.range ds.length).flatMap g)
def Lc2P (c : Cc) (elt tg it : Expr) (ifs : List Expr) (tg1 it1 : Expr) (ifs1 : List Expr) (scope : Scope) (own : List (Str × Nat)) (ws vs1 ws1 : List Nat) (sp : List Sl) (QL : List D → Prop) : Prop :=
  W c tg it sp fun ds => Lc2Q (c.blk scope) tg ifs tg1 it1 ifs1 elt ws vs1 ws1 (wipeS sp (own.map (·.2))) QL ds
def tiB (X : Cx) (scope : Scope) (tg it : Expr) : TI := fun σ H R => ∀ (s0 : Shared) (H0 : Hp) (C : Addr) (cl : List (Str × Addr)) (fp : List Addr), tI (X.blk s0 H0 scope (compEnvC scope cl C X.env) fp) tg it σ H R
theorem wipe_eq2 {σ σ2 : L2.St} {ws vs : List Nat} (h : ∀ j, j ∉ ws → σ2[j]? = (wipe σ vs)[j]?) (hw : ∀ j, j ∈ ws → j ∈ vs) (hl : σ2.length = σ.length) : wipe σ2 vs = wipe σ vs := wipe_eq h hw hl
theorem lc2_read {elt tg it tg1 it1 : Expr} {ifs ifs1 : List Expr} {scope : Scope} {own : List (Str × Nat)} {ws vs1 ws1 : List Nat} {QL : List D → Prop} (hw : ∀ j ∈ ws, j ∈ own.map (·.2)) (hw1 : ∀ j ∈ ws1, j ∈ vs1) (h : Lc2P c elt tg it ifs tg1 it1 ifs1 scope own ws vs1 ws1 sp QL)
    {X : Cx} (hX : c.Has X) {G F0 F H : Hp} {σ : L2.St} (r : SR c.m.T c.m.K G F0 F H sp σ) {R : VK} (k : ∀ ds vs p F' H', QL ds → Grow F H F' H' → H p = none → F' p = none → H' p = some (.lst vs) → DpAll c.m.K F' vs ds → R (.ref p) H') :
    tLc2 (tI X tg it) (gB X scope tg) (ttB X scope ifs) (tiB X scope tg1 it1) (gB X scope tg1) (ttB X scope ifs1) (teB X scope elt) (own.map (·.2)) vs1 σ H R := by
  refine Sealed.run h X hX G F0 F H σ r _ fun J ds F1 H1 q g1 w => ?_
  obtain ⟨g, hz, step, fin⟩ := q
  intro Dn hD
  have r1 := r.grow g1
  have hF1 : F1 Dn = none := g1.fh.free hD
  have hG1 : G Dn = none := r1.g.free hD
  have hown : ∀ (j : Nat) (t : Sl), (wipeS sp (own.map (·.2)))[j]? = some t → t.own = true → (wipe σ (own.map (·.2)))[j]? ≠ some (some (V.ref Dn)) := fun j t h1 h2 h3 => by
    obtain ⟨b, o, e1, e2, _⟩ := (slOk_own h2).mp ((r1.wipe (own.map (·.2))).sl j t _ h1 h3)
    cases e1
    rw [hD] at e2; cases e2
  have outD : ∀ {F4 H4 : Hp} {o : HO}, Grow F1 H1 F4 H4 → F4 Dn = none → Grow F1 H1 F4 (upd H4 Dn o) := fun {F4 H4 o} gg hf =>
    ⟨gg.f, fun b u e => by rw [upd_ne (ne_of_none e hf)]; exact gg.fh _ _ e, fun b u e => by rw [upd_ne (ne_of_none e hD)]; exact gg.h _ _ e, gg.new, gg.nf⟩
  have keepD : ∀ {F' H' F4 H4 : Hp} {o : List V}, F' Dn = none → H' Dn = some (.lst o) → Grow F' H' F4 H4 → F4 Dn = none ∧ H4 Dn = some (.lst o) := fun {F' H' F4 H4 o} hF' hH' gg => by
    refine ⟨?_, gg.h _ _ hH'⟩
    cases qf : F4 Dn with
    | none => rfl
    | some u =>
      have := gg.new Dn hF' (by rw [qf]; exact fun z => by cases z)
      rw [hH'] at this; cases this
  refine ⟨fun i m H' => i + m = ds.length ∧ ∃ F' acc, Grow F1 H1 F' H' ∧ F' Dn = none ∧ H' Dn = some (.lst acc) ∧ DpAll c.m.K F' acc ((List.range i).flatMap g) ∧ SR c.m.T c.m.K G F0 F' H' (wipeS sp (own.map (·.2))) (wipe σ (own.map (·.2))),
    ⟨ds.length, by omega, F1, [], Grow.out g1.fh hD, hF1, upd_same, .nil, (r1.wipe _).out_upd hF1 hG1 hown⟩, ?_⟩
  rintro i m H' ⟨hm, F', acc, gr, hF', hH', hacc, r'⟩
  by_cases hlt : i < ds.length
  · have hd : ds[i]? = some ds[i] := List.getElem?_eq_getElem hlt
    obtain ⟨q1, q2⟩ := w.go F' H' i _ gr.f gr.fh hd
    refine .inr ⟨q1, fun H2 => ∃ F2 acc2, Grow F1 H1 F2 H2 ∧ F2 Dn = none ∧ H2 Dn = some (.lst acc2) ∧ DpAll c.m.K F2 acc2 ((List.range (i + 1)).flatMap g) ∧ SR c.m.T c.m.K G F0 F2 H2 (wipeS sp (own.map (·.2))) (wipe σ (own.map (·.2))),
      fun H2 z => ⟨m - 1, by omega, by omega, z⟩, fun x H'' y => ?_⟩
    obtain ⟨F'', g3, dx⟩ := q2 x H'' y
    have len_le : ((List.range i).flatMap g ++ g i).length ≤ sizeLine := by
      have e : List.range ds.length = List.range (i + 1) ++ (List.range (ds.length - (i + 1))).map (i + 1 + ·) := by
        rw [← List.range_add, show i + 1 + (ds.length - (i + 1)) = ds.length by omega]
      rw [e, List.flatMap_append, List.length_append, List.range_succ, List.flatMap_append, List.flatMap_singleton] at hz
      omega
    intro s0 H0 C cl fp
    refine step i _ hd _ (hX.blk s0 H0 scope cl C fp) G F0 F'' H'' _ x (r'.grow g3) dx _ fun sp2 F2 H2 σ2 q3 g4 r2 off => ?_
    obtain ⟨⟨dd, hdl, hsp2⟩, q3⟩ := q3
    refine ⟨wipe_eq off.1 hw (off.2.trans (wipe_length _ _)), fun s1 H1' C1 cl1 fp1 => ?_⟩
    refine Sealed.run q3 _ (hX.blk s1 H1' scope cl1 C1 fp1) G F0 F2 H2 σ2 r2 _ fun t F3 H3 q4 g5 => ?_
    have r3 : SR c.m.T c.m.K G F0 F3 H3 (wipeS sp (own.map (·.2))) (L2.wipe σ (own.map (·.2))) := ((r'.grow g3).grow g4).grow g5
    have grow3 : Grow F1 H1 F3 H3 := ((gr.trans g3).trans g4).trans g5
    obtain ⟨hf3, hh3⟩ := keepD hF' hH' ((g3.trans g4).trans g5)
    have hacc3 := dpAll_mono ((g3.trans g4).trans g5).f _ _ hacc
    have hown2 : ∀ (j : Nat) (t : Sl), (wipeS sp2 vs1)[j]? = some t → t.own = true → (wipe σ2 vs1)[j]? ≠ some (some (V.ref Dn)) := fun j t h1 h2 h3 => by
      rcases wipeS_get h1 with e | ⟨e, hn⟩
      · rw [e] at h2; cases h2
      · rw [hsp2] at e
        obtain ⟨e1, e2⟩ := setV_own hdl e h2
        rw [wipe_out hn, off.1 j e2] at h3
        exact hown j t e1 h2 h3
    rcases q4 with ⟨rfl, qw⟩ | ⟨rfl, gn⟩
    · rw [if_pos rfl]
      intro s2 H2' C2 cl2 fp2
      refine Sealed.run qw _ (hX.blk s2 H2' scope cl2 C2 fp2) G F0 F3 H3 σ2 (r2.grow g5) _ fun J1 es F4 H4 qe g6 w1 => ?_
      obtain ⟨g1', step1, gi⟩ := qe
      obtain ⟨hf4, hh4⟩ := keepD hf3 hh3 g6
      refine ⟨fun j k H' => j + k = es.length ∧ ∃ F' acc', Grow F1 H1 F' H' ∧ Same F4 F' ∧ F' Dn = none ∧ H' Dn = some (.lst acc') ∧ DpAll c.m.K F' acc' ((List.range i).flatMap g ++ (List.range j).filterMap g1') ∧ SR c.m.T c.m.K G F0 F' H' (wipeS sp (own.map (·.2))) (wipe σ (own.map (·.2))) ∧ SR c.m.T c.m.K G F0 F' H' (wipeS sp2 vs1) (wipe σ2 vs1),
        ⟨es.length, by omega, F4, acc, grow3.trans g6, Same.refl _, hf4, hh4, by rw [show (List.range 0).filterMap g1' = [] from rfl, List.append_nil]; exact dpAll_mono g6.f _ _ hacc3, r3.grow g6, ((r2.grow g5).grow g6).wipe vs1⟩, ?_⟩
      rintro j kk H5 ⟨hm1, F5, acc', gr5, s45, hf5, hh5, hacc5, ra, rb⟩
      by_cases hlt1 : j < es.length
      · have he : es[j]? = some es[j] := List.getElem?_eq_getElem hlt1
        obtain ⟨p1, p2⟩ := w1.go F5 H5 j _ s45 ra.sf he
        refine .inr ⟨p1, fun H' => ∃ F' acc', Grow F1 H1 F' H' ∧ Same F4 F' ∧ F' Dn = none ∧ H' Dn = some (.lst acc') ∧ DpAll c.m.K F' acc' ((List.range i).flatMap g ++ (List.range (j + 1)).filterMap g1') ∧ SR c.m.T c.m.K G F0 F' H' (wipeS sp (own.map (·.2))) (wipe σ (own.map (·.2))) ∧ SR c.m.T c.m.K G F0 F' H' (wipeS sp2 vs1) (wipe σ2 vs1),
          fun H6 z => ⟨kk - 1, by omega, by omega, z⟩, fun x1 H6 y1 => ?_⟩
        obtain ⟨F6, g7, dx1⟩ := p2 x1 H6 y1
        intro s3 H3' C3 cl3 fp3
        refine step1 j _ he _ (hX.blk s3 H3' scope cl3 C3 fp3) G F0 F6 H6 _ x1 (rb.grow g7) dx1 _ fun sp3 F7 H7 σ3 q8 g8 r8 off8 => ?_
        refine ⟨wipe_eq off8.1 hw1 (off8.2.trans (wipe_length _ _)), fun s4 H4' C4 cl4 fp4 => ?_⟩
        refine q8 _ (hX.blk s4 H4' scope cl4 C4 fp4) G F0 F7 H7 σ3 r8 _ fun t F8 H8 q9 g9 => ?_
        have gall0 : Grow F5 H5 F8 H8 := (g7.trans g8).trans g9
        rcases q9 with ⟨rfl, y, gy, ey⟩ | ⟨rfl, gn⟩
        · rw [if_pos rfl]
          intro s5 H5' C5 cl5 fp5
          refine ey _ (hX.blk s5 H5' scope cl5 C5 fp5) G F0 F8 H8 σ3 (r8.grow g9) _ fun z vz F9 H9 qz g10 dz => ?_
          subst qz
          have gall : Grow F5 H5 F9 H9 := gall0.trans g10
          obtain ⟨hf9, hh9⟩ := keepD hf5 hh5 gall
          have hG9 : G Dn = none := hG1
          have e1 : (List.range (j + 1)).filterMap g1' = (List.range j).filterMap g1' ++ [z] := by
            rw [List.range_succ, List.filterMap_append]
            congr 1
            rw [List.filterMap_cons, gy]; rfl
          have hlen : acc'.length = ((List.range i).flatMap g ++ (List.range j).filterMap g1').length := dpAll_len hacc5
          have e2 : List.range es.length = List.range (j + 1) ++ (List.range (es.length - (j + 1))).map (j + 1 + ·) := by
            rw [← List.range_add, show j + 1 + (es.length - (j + 1)) = es.length by omega]
          rw [gi, e2, List.filterMap_append, e1] at len_le
          simp only [List.length_append, List.length_cons, List.length_nil] at len_le hlen
          refine ⟨acc', hh9, by omega, F9, acc' ++ [vz], outD (gr5.trans gall) hf9, s45.trans gall.f, hf9, upd_same, ?_, (ra.grow gall).out_upd hf9 hG1 hown, (rb.grow gall).out_upd hf9 hG1 hown2⟩
          rw [e1, ← List.append_assoc]
          exact dpAll_append (dpAll_mono gall.f _ _ hacc5) (.cons dz .nil)
        · rw [if_neg Bool.false_ne_true]
          obtain ⟨hf8, hh8⟩ := keepD hf5 hh5 gall0
          have e1 : (List.range (j + 1)).filterMap g1' = (List.range j).filterMap g1' := by
            rw [List.range_succ, List.filterMap_append, List.filterMap_cons, gn]
            exact List.append_nil _
          refine ⟨F8, acc', gr5.trans gall0, s45.trans gall0.f, hf8, hh8, ?_, ra.grow gall0, rb.grow gall0⟩
          rw [e1]
          exact dpAll_mono gall0.f _ _ hacc5
      · have e : j = es.length := by omega
        subst e
        refine .inl ⟨w1.stop F5 H5 _ s45 ra.sf (Nat.le_refl _), F5, acc', gr5, hf5, hh5, ?_, ra⟩
        rw [List.range_succ, List.flatMap_append, List.flatMap_singleton, gi]
        exact hacc5
    · rw [if_neg Bool.false_ne_true]
      refine ⟨F3, acc, grow3, hf3, hh3, ?_, r3⟩
      rw [List.range_succ, List.flatMap_append, List.flatMap_singleton, gn, List.append_nil]
      exact hacc3
  · have e : i = ds.length := by omega
    subst e
    exact .inl ⟨w.stop F' H' _ gr.f gr.fh (Nat.le_refl _), k _ acc Dn F' H' fin (g1.trans gr) (g1.h.free hD) hF' hH' hacc⟩
theorem EF_lc2 {elt tg it tg1 it1 : Expr} {ifs ifs1 : List Expr} {scope : Scope} {own : List (Str × Nat)} {ws vs1 ws1 : List Nat} {QL : List D → Prop} (hN : c.N.Nodup) (ok : blkC c.N c.sc scope own = true) (hw : ∀ j ∈ ws, j ∈ own.map (·.2)) (hw1 : ∀ j ∈ ws1, j ∈ vs1) (hv : ∀ j ∈ vs1, j ∈ own.map (·.2))
    (h : Lc2P c elt tg it ifs tg1 it1 ifs1 scope own ws vs1 ws1 sp QL) (hs : ∀ env x, foldedSetIterable it env x = pure x := by intro _ _; rfl) (hs1 : ∀ env x, foldedSetIterable it1 env x = pure x := by intro _ _; rfl) : EF c (.ListComp elt [⟨tg, it, ifs, 0⟩, ⟨tg1, it1, ifs1, 0⟩] scope pos) sp QL := Sealed.of fun X hX G F0 F H σ r R k =>
  PE_tE (pe_lc2 (own := own) hX.calm (by rw [hX.N]; exact hN) pi_tI (by rw [hX.N, hX.sc]; exact blkOk_by ok) hv
    (fun s0 H0 C cl fp => ⟨fun pins s σ H v u Q I r h => h s0 H0 C cl fp pins s u I r⟩) (fun s0 H0 C cl fp => ⟨fun pins s σ H Q I h => h s0 H0 C cl fp pins s I⟩) (fun s0 H0 C cl fp => ⟨fun pins s σ H R I h => h s0 H0 C cl fp pins s I⟩)
    (fun s0 H0 C cl fp => ⟨fun pins s σ H v u Q I r h => h s0 H0 C cl fp pins s u I r⟩) (fun s0 H0 C cl fp => ⟨fun pins s σ H Q I h => h s0 H0 C cl fp pins s I⟩) (fun s0 H0 C cl fp => ⟨fun pins s σ H Q I h => h s0 H0 C cl fp pins s I⟩) (hs _) hs1) (lc2_read hw hw1 h hX r k)
theorem S1_setLc2 (i : Nat) {x : Str} {py spos : Pos} {elt tg it tg1 it1 : Expr} {ifs ifs1 : List Expr} {scope : Scope} {own : List (Str × Nat)} {ws vs1 ws1 : List Nat} (hN : c.N.Nodup) (ok : blkC c.N c.sc scope own = true) (hw : ∀ j ∈ ws, j ∈ own.map (·.2)) (hw1 : ∀ j ∈ ws1, j ∈ vs1) (hv : ∀ j ∈ vs1, j ∈ own.map (·.2))
    (h : Lc2P c elt tg it ifs tg1 it1 ifs1 scope own ws vs1 ws1 sp fun ds => P.nx (sp.set i (.l ds))) (hi : c.N[i]? = some x := by rfl) (hx : c.sc.names.lookup x = some .local := by rfl)
    (hsw : ∀ env : Env, env.scope = c.sc → swapsWith (.ListComp elt [⟨tg, it, ifs, 0⟩, ⟨tg1, it1, ifs1, 0⟩] scope pos) (some (.Name x py)) spos.line env = pure true := by intro env he; cases env; subst he; rfl)
    (hs : ∀ env x, foldedSetIterable it env x = pure x := by intro _ _; rfl) (hs1 : ∀ env x, foldedSetIterable it1 env x = pure x := by intro _ _; rfl) : S1 c (.Assign [.Name x py] (.ListComp elt [⟨tg, it, ifs, 0⟩, ⟨tg1, it1, ifs1, 0⟩] scope pos) spos) sp P := Sealed.of fun X hX G F0 F H σ r D0 k =>
  PS_t (ps_setLc2 (i := i) (own := own) hX.calm (by rw [hX.N]; exact hN) (by rw [hX.N]; exact hi) (by rw [hX.sc]; exact hx) (hsw _ hX.sc) pi_tI (by rw [hX.N, hX.sc]; exact blkOk_by ok) hv
    (fun s0 H0 C cl fp => ⟨fun pins s σ H v u Q I r h => h s0 H0 C cl fp pins s u I r⟩) (fun s0 H0 C cl fp => ⟨fun pins s σ H Q I h => h s0 H0 C cl fp pins s I⟩) (fun s0 H0 C cl fp => ⟨fun pins s σ H R I h => h s0 H0 C cl fp pins s I⟩)
    (fun s0 H0 C cl fp => ⟨fun pins s σ H v u Q I r h => h s0 H0 C cl fp pins s u I r⟩) (fun s0 H0 C cl fp => ⟨fun pins s σ H Q I h => h s0 H0 C cl fp pins s I⟩) (fun s0 H0 C cl fp => ⟨fun pins s σ H Q I h => h s0 H0 C cl fp pins s I⟩) (hs _) hs1)
    (show tLc2 (tI X tg it) (gB X scope tg) (ttB X scope ifs) (tiB X scope tg1 it1) (gB X scope tg1) (ttB X scope ifs1) (teB X scope elt) (own.map (·.2)) vs1 σ H _ from
      lc2_read hw hw1 h hX r fun ds vs p F1 H1 q g hn hF hH hd => k.nx _ F1 H1 _ q (r.set_new (s := .l ds) i g hn hH hF ⟨vs, rfl, hd⟩ rfl))
end
section
variable {c' : Cc} {tg elt tg1 it1 con con1 : Expr} {ws vs1 ws1 : List Nat} {sp' : List Sl} {QL : List D → Prop} {ds es r G : List D} {α β : Type}
theorem orB {A B : Prop} {b : Bool} (h1 : b = true → A) (h2 : b = false → B) : (b = true ∧ A) ∨ (b = false ∧ B) := by
  cases b with
  | true => exact .inl ⟨rfl, h1 rfl⟩
  | false => exact .inr ⟨rfl, h2 rfl⟩
/-- the turns of the first clause -/
theorem Lc2_any {ifs ifs1 : List Expr} (xs : List α) (enc : α → D) (g : α → List D) (he : xs.flatMap g = r) (hds : ds = xs.map enc) (hz : r.length ≤ sizeLine)
    (step : ∀ x ∈ xs, Asg c' tg ws (enc x) sp' fun sp2 => (∃ dd : List D, dd.length = ws.length ∧ sp2 = setV sp' ws dd) ∧ Ts c' ifs sp2 fun t => (t = true ∧ W c' tg1 it1 sp2 fun es => In2 c' tg1 elt ifs1 ws1 (wipeS sp2 vs1) (g x) es) ∨ (t = false ∧ g x = [])) (q : QL r) :
    Lc2Q c' tg ifs tg1 it1 ifs1 elt ws vs1 ws1 sp' QL ds := by
  subst hds; subst he
  have e : ∀ ys : List α, (List.range ys.length).flatMap (fun i => ((ys[i]?).map g).getD []) = ys.flatMap g := fun ys => by
    induction ys with
    | nil => rfl
    | cons y ys ih =>
      rw [List.length_cons, List.range_succ_eq_map, List.flatMap_cons, List.flatMap_map, List.flatMap_cons, ← ih]
      rfl
  refine ⟨fun i => ((xs[i]?).map g).getD [], by rw [List.length_map, e]; exact hz, fun i d hd => ?_, by rw [List.length_map, e]; exact q⟩
  rw [List.getElem?_map] at hd
  cases hx : xs[i]? with
  | none => rw [hx] at hd; cases hd
  | some x =>
    rw [hx] at hd
    cases hd
    simp only [hx, Option.map_some, Option.getD_some]
    exact step x (List.mem_of_getElem? hx)
theorem In2_any {ifs1 : List Expr} (ys : List β) (enc : β → D) (g : β → Option D) (he : G = ys.filterMap g) (hes : es = ys.map enc)
    (step : ∀ y ∈ ys, Asg c' tg1 ws1 (enc y) sp' fun sp3 => Ts c' ifs1 sp3 fun t => (t = true ∧ ∃ z, g y = some z ∧ E c' elt sp3 fun w => w = z) ∨ (t = false ∧ g y = none)) : In2 c' tg1 elt ifs1 ws1 sp' G es := by
  subst hes; subst he
  refine ⟨fun j => (ys[j]?).bind g, fun j e hj => ?_, by rw [List.length_map, range_bind]⟩
  rw [List.getElem?_map] at hj
  cases hy : ys[j]? with
  | none => rw [hy] at hj; cases hj
  | some y =>
    rw [hy] at hj
    cases hj
    simp only [hy, Option.bind_some]
    exact step y (List.mem_of_getElem? hy)
theorem filterMap_some {f : β → D} : ∀ ys : List β, ys.filterMap (fun y => some (f y)) = ys.map f
  | [] => rfl
  | y :: ys => by rw [List.filterMap_cons, filterMap_some ys]; rfl
theorem In2_map (ys : List β) (enc : β → D) (f : β → D) (he : G = ys.map f) (hes : es = ys.map enc) (step : ∀ y ∈ ys, Asg c' tg1 ws1 (enc y) sp' fun sp3 => E c' elt sp3 fun w => w = f y) : In2 c' tg1 elt [] ws1 sp' G es :=
  In2_any ys enc (fun y => some (f y)) (by rw [filterMap_some]; exact he) hes fun y hy => Sealed.of fun X hX G F0 F H σ v r hd R k => (step y hy) X hX G F0 F H σ v r hd R fun sp3 F1 H1 σ1 q => k sp3 F1 H1 σ1 (Ts_nil (.inl ⟨rfl, _, rfl, q⟩))
theorem In2_fil (ys : List β) (enc : β → D) (pr : β → Bool) (f : β → D) (he : G = (ys.filter pr).map f) (hes : es = ys.map enc) (step : ∀ y ∈ ys, Asg c' tg1 ws1 (enc y) sp' fun sp3 => T c' con1 sp3 fun t => t = pr y ∧ (pr y = true → E c' elt sp3 fun w => w = f y)) : In2 c' tg1 elt [con1] ws1 sp' G es :=
  In2_any ys enc (fun y => if pr y = true then some (f y) else none) (by rw [filterMap_if]; exact he) hes fun y hy => Sealed.of fun X hX G F0 F H σ v r hd R k => (step y hy) X hX G F0 F H σ v r hd R fun sp3 F1 H1 σ1 q => k sp3 F1 H1 σ1 (Ts_one (q.mono fun t ht => by
    obtain ⟨e, h⟩ := ht
    cases hp : pr y with
    | true => exact .inl ⟨e.trans hp, f y, by simp, h hp⟩
    | false => exact .inr ⟨e.trans hp, by simp⟩))
end
end Pl
set_option Elab.async false
set_option linter.all false
set_option maxRecDepth 100000
set_option maxHeartbeats 4000000
set_option autoImplicit false
namespace Pl
open PySem PySem.Spec PyProof.Rows L2
/-! ### len(set(ints)) -/
def rLenSetO (w : World) : List V → Hp → VK → Prop := fun vs H Q => ∃ (a : Addr) (S : Int → Bool) (n : Nat), vs = [V.ref a] ∧ H a = some (SetO w a S n) ∧ ∀ ks : List Int, ks.Nodup → ks.length = n → (∀ k, S k = true ↔ k ∈ ks) → Q (.int n) H
theorem cr_lenSetO {X : Cx} : CallR X (.builtin "len") (rLenSetO X.w) := by
  intro pins s σ H xs us Q I r h
  obtain ⟨a, S, n, rfl, ha, q⟩ := h
  rw [Vals.ref1 r]
  obtain ⟨o, es, ep, t, ho, hex, hd, hge, hnd, hS, hsz, hf, hn, _⟩ := setO_get I ha
  have hb : es.size < 2 ^ 62 := Nat.lt_trans hsz (by decide)
  exact call_len_set ho hex hd hf (by omega) ⟨.int n, H, I.tok _, ⟨_, by rw [hn]⟩, q _ hnd (by rw [List.length_map, Array.length_toList]; exact hn) hS⟩
section
variable {c : Cc} {sp : List Sl} {e : Expr} {p p1 pos pos1 : Pos} {Q : D → Prop}
theorem E_lenSet (h : E c e sp fun d => ∃ ns : List Int, (d = .list (ns.map .int) ∨ d = .tuple (ns.map .int)) ∧ ns.length < 4000 ∧ ∀ ks : List Int, ks.Nodup → (∀ k, k ∈ ks ↔ k ∈ ns) → Q (.int ks.length))
    (hm : c.m.mg "len" = none) (hm1 : c.m.mg "set" = none) (hg : GlS c.sc "len" := by rfl) (hg1 : GlS c.sc "set" := by rfl)
    (he1 : ∀ env, starEach [e] env = (false, eval e env) :: starEach [] env := by intro _; rfl)
    (he : ∀ env, starEach [.Call (.Name "set" p1) [e] [] pos1] env = (false, eval (.Call (.Name "set" p1) [e] [] pos1) env) :: starEach [] env := by intro _; rfl)
    (hpl : ∀ env, (backTo pos (starEach [] env)).any (·.1) = false := by intro _; rfl) (hpl1 : ∀ env, (backTo pos1 (starEach [] env)).any (·.1) = false := by intro _; rfl) :
    E c (.Call (.Name "len" p) [.Call (.Name "set" p1) [e] [] pos1] [] pos) sp Q := Sealed.of fun X hX G F0 F H σ r R k => by
  refine PE_tE (pe_callB cr_lenSetO (hg.gl hX) (by rw [hX.mg]; exact hm) boot_len (pa_cons (pe_callTy (cr_setL hX.calm) (hg1.gl hX) (by rw [hX.mg]; exact hm1) boot_set (pa_cons pe_tE pa_nil (he1 _)) (by decide) (by decide) (he1 _) (hpl1 _)) pa_nil (he _)) (by decide) (by decide) (he _) (hpl _)) ?_
  refine h X hX G F0 F H σ r _ fun d v F1 H1 q g1 d1 => ?_
  obtain ⟨ns, hd, hl, q⟩ := q
  have hv : ∃ a, v = .ref a ∧ (SqL X.K H1 a (ns.map V.int) ∨ SqT X.K H1 a (ns.map V.int)) := by
    rw [hX.K]
    rcases hd with rfl | rfl
    · obtain ⟨a, vs, rfl, h1, h2⟩ := dp_list d1
      cases dpAll_ints h2
      exact ⟨a, rfl, .inl (g1.fh.seq h1)⟩
    · obtain ⟨a, vs, rfl, h1, h2⟩ := dp_tuple d1
      cases dpAll_ints h2
      exact ⟨a, rfl, .inr (sqT_mono g1.fh h1)⟩
  obtain ⟨a, rfl, hs⟩ := hv
  refine ⟨a, ns, rfl, hs, by unfold scanBound; omega, fun p c2 hp hc2 => ?_⟩
  refine ⟨p, _, c2, rfl, upd_same, fun ks h1 h2 h3 => ?_⟩
  have g2 := Grow.out (o := SetO X.w p (fun j => decide (j ∈ ns)) c2) g1.fh hp
  have qq := q ks h1 fun k => by rw [← h3, decide_eq_true_iff]
  rw [h2] at qq
  exact k _ _ F1 _ qq (g1.trans g2) (.int _)
end
/-- the number of different ones -/
theorem len_nodup {ks ns : List Int} (h1 : ks.Nodup) (h2 : ∀ k, k ∈ ks ↔ k ∈ ns) : ks.length ≤ ns.length := sub_len h1 fun x hx => (h2 x).mp hx
theorem len_full {ks ns : List Int} (h1 : ks.Nodup) (h2 : ∀ k, k ∈ ks ↔ k ∈ ns) (h3 : ns.Nodup) : ks.length = ns.length :=
  Nat.le_antisymm (len_nodup h1 h2) (sub_len h3 fun x hx => (h2 x).mpr hx)
theorem len_less {ks ns : List Int} (h1 : ks.Nodup) (h2 : ∀ k, k ∈ ks ↔ k ∈ ns) (h3 : ¬ ns.Nodup) : ks.length < ns.length := by
  have key : ∀ {ns ks : List Int}, ks.Nodup → (∀ k, k ∈ ks → k ∈ ns) → ¬ ns.Nodup → ks.length < ns.length := fun {ns} => by
    induction ns with
    | nil => intro ks _ _ h; exact absurd List.nodup_nil h
    | cons a l ih =>
      intro ks h1 h2 h3
      by_cases ha : a ∈ l
      · have := sub_len h1 (ys := l) fun x hx => by
          rcases List.mem_cons.mp (h2 x hx) with e | e
          · rw [e]; exact ha
          · exact e
        rw [List.length_cons]; omega
      · have hl : ¬ l.Nodup := fun z => h3 (List.nodup_cons.mpr ⟨ha, z⟩)
        have := ih (ks := ks.erase a) (h1.erase a) (fun k hk => by
          have hk2 := List.mem_of_mem_erase hk
          rcases List.mem_cons.mp (h2 k hk2) with e | e
          · rw [e] at hk; exact absurd hk (h1.not_mem_erase)
          · exact e) hl
        rw [List.length_cons]
        have h4 : ks.length ≤ (ks.erase a).length + 1 := by
          by_cases hm : a ∈ ks
          · rw [List.length_erase_of_mem hm]; omega
          · rw [List.erase_of_not_mem hm]; omega
        omega
  exact key h1 (fun k hk => (h2 k).mp hk) h3
theorem len_eq {ks ns : List Int} (h1 : ks.Nodup) (h2 : ∀ k, k ∈ ks ↔ k ∈ ns) : decide ((ks.length : Int) = (ns.length : Int)) = decide ns.Nodup := by
  by_cases h3 : ns.Nodup
  · rw [decide_eq_true h3, len_full h1 h2 h3, decide_eq_true rfl]
  · rw [decide_eq_false h3, decide_eq_false (by have := len_less h1 h2 h3; omega)]
end Pl
set_option Elab.async false
set_option linter.all false
set_option maxRecDepth 100000
set_option maxHeartbeats 4000000
set_option autoImplicit false
namespace Cmb
open PySem PySem.Spec PyProof.Rows L2
/-! ### all rising rows of k numbers from s on below n, in order -/
def cmb (n : Nat) : Nat → Nat → List (List Nat)
  | 0, _ => [[]]
  | k + 1, s => (List.range (n - s)).flatMap fun i => (cmb n k (s + i + 1)).map (fun l => (s + i) :: l)
theorem cmb_eq (n k s : Nat) : cmb n (k + 1) s = (List.range (n - s)).flatMap fun i => (cmb n k (s + i + 1)).map (fun l => (s + i) :: l) := rfl
theorem cmb_cons {n k s : Nat} (h : s < n) : cmb n (k + 1) s = (cmb n k (s + 1)).map (fun l => s :: l) ++ cmb n (k + 1) (s + 1) := by
  rw [cmb_eq, cmb_eq n k (s + 1), show n - s = (n - (s + 1)) + 1 by omega, List.range_succ_eq_map, List.flatMap_cons, List.flatMap_map]
  rw [show (fun a => (cmb n k (s + a.succ + 1)).map fun l => (s + a.succ) :: l) = fun i => (cmb n k (s + 1 + i + 1)).map fun l => (s + 1 + i) :: l from funext fun i => by rw [show s + i.succ = s + 1 + i by omega]]
  rfl
theorem cmb_no {n k s : Nat} (h : n ≤ s) : cmb n (k + 1) s = [] := by
  unfold cmb; rw [show n - s = 0 by omega]; rfl
theorem mem_cmb {n : Nat} : ∀ {k s : Nat} {l : List Nat}, l ∈ cmb n k s ↔ l.length = k ∧ l.Pairwise (· < ·) ∧ ∀ x ∈ l, s ≤ x ∧ x < n
  | 0, s, l => by
    unfold cmb
    rw [List.mem_singleton]
    constructor
    · rintro rfl; exact ⟨rfl, .nil, fun x hx => by cases hx⟩
    · rintro ⟨h, _⟩; exact List.length_eq_zero_iff.mp h
  | k + 1, s, l => by
    unfold cmb
    rw [List.mem_flatMap]
    constructor
    · rintro ⟨i, hi, hl⟩
      obtain ⟨t, ht, rfl⟩ := List.mem_map.mp hl
      obtain ⟨h1, h2, h3⟩ := (mem_cmb (n := n)).mp ht
      have hi := List.mem_range.mp hi
      refine ⟨by rw [List.length_cons, h1], List.pairwise_cons.mpr ⟨fun x hx => by have := h3 x hx; omega, h2⟩, fun x hx => ?_⟩
      rcases List.mem_cons.mp hx with e | e
      · omega
      · have := h3 x e; omega
    · rintro ⟨h1, h2, h3⟩
      cases l with
      | nil => cases h1
      | cons a t =>
        obtain ⟨p1, p2⟩ := List.pairwise_cons.mp h2
        have ha := h3 a (List.mem_cons_self ..)
        refine ⟨a - s, List.mem_range.mpr (by omega), List.mem_map.mpr ⟨t, (mem_cmb (n := n)).mpr ⟨by simpa using h1, p2, fun x hx => ?_⟩, by rw [show s + (a - s) = a by omega]⟩⟩
        have := p1 x hx
        have := h3 x (List.mem_cons_of_mem _ hx)
        omega
theorem cmb_few {n k s : Nat} (h : n < s + k) : cmb n k s = [] ∨ k = 0 := by
  by_cases c : k = 0
  · exact .inr c
  · left
    cases e : cmb n k s with
    | nil => rfl
    | cons l r =>
      exfalso
      have hl : l ∈ cmb n k s := by rw [e]; exact List.mem_cons_self ..
      obtain ⟨h1, h2, h3⟩ := mem_cmb.mp hl
      have key : ∀ (l : List Nat) (s : Nat), l.Pairwise (· < ·) → (∀ x ∈ l, s ≤ x ∧ x < n) → l = [] ∨ s + l.length ≤ n := fun l => by
        induction l with
        | nil => intro s _ _; exact .inl rfl
        | cons a t ih =>
          intro s h2 h3
          right
          obtain ⟨p1, p2⟩ := List.pairwise_cons.mp h2
          have ha := h3 a (List.mem_cons_self ..)
          rcases ih (a + 1) p2 (fun x hx => by have := p1 x hx; have := h3 x (List.mem_cons_of_mem _ hx); omega) with e | e
          · rw [e]; simp only [List.length_cons, List.length_nil]; omega
          · rw [List.length_cons]; omega
      rcases key l s h2 h3 with e2 | e2
      · rw [e2] at h1; exact c h1.symm
      · omega
theorem nxt_nil (n : Nat) : nxt n [] = none := rfl
theorem nxt_cons (n a : Nat) (t : List Nat) : nxt n (a :: t) = match nxt n t with
    | some t' => some (a :: t')
    | none => if a = n - (t.length + 1) then none else some ((List.range (t.length + 1)).map fun x => a + 1 + x) := by
  have hr : (List.range (a :: t).length).reverse = (List.range t.length).reverse.map (· + 1) ++ [0] := by
    rw [List.length_cons, List.range_succ_eq_map, List.reverse_cons, List.map_reverse]
  have hf : List.find? (fun i => (a :: t).getD i 0 != i + n - (a :: t).length) ((List.range t.length).reverse.map (· + 1)) = (List.find? (fun i => t.getD i 0 != i + n - t.length) (List.range t.length).reverse).map (· + 1) := by
    rw [List.find?_map]
    congr 2
    funext i
    show (t.getD i 0 != i + 1 + n - (t.length + 1)) = _
    rw [show i + 1 + n - (t.length + 1) = i + n - t.length by omega]
  unfold nxt
  rw [hr, List.find?_append, hf]
  cases e : List.find? (fun i => t.getD i 0 != i + n - t.length) (List.range t.length).reverse with
  | some i =>
    simp only [Option.map_some, Option.some_or, List.take_succ_cons, List.cons_append, List.length_cons]
    rw [show t.length + 1 - (i + 1) = t.length - i by omega]
    rfl
  | none =>
    simp only [Option.map_none, Option.none_or]
    rw [List.find?_cons]
    by_cases c : a = n - (t.length + 1)
    · rw [if_pos c]
      have : ((a :: t).getD 0 0 != 0 + n - (a :: t).length) = false := by
        rw [bne_eq_false_iff_eq, List.length_cons, Nat.zero_add]; exact c
      rw [this]; rfl
    · rw [if_neg c]
      have : ((a :: t).getD 0 0 != 0 + n - (a :: t).length) = true := by
        rw [bne_iff_ne, List.length_cons, Nat.zero_add]; exact c
      rw [this]; rfl
/-! chains -/
def chn {α : Type} (R : α → α → Prop) : List α → Prop
  | x :: y :: l => R x y ∧ chn R (y :: l)
  | _ => True
theorem chn_append {α : Type} {R : α → α → Prop} : ∀ {l1 l2 : List α}, chn R l1 → chn R l2 → (∀ x y, l1.getLast? = some x → l2.head? = some y → R x y) → chn R (l1 ++ l2)
  | [], l2, _, h2, _ => h2
  | [x], [], _, _, _ => trivial
  | [x], y :: l2, _, h2, h => ⟨h x y rfl rfl, h2⟩
  | x :: y :: l, l2, h1, h2, h => ⟨h1.1, chn_append (l1 := y :: l) h1.2 h2 fun a b ha hb => h a b (by rw [List.getLast?_cons_cons]; exact ha) hb⟩
theorem chn_map {α β : Type} {R : α → α → Prop} {S : β → β → Prop} {f : α → β} (h : ∀ x y, R x y → S (f x) (f y)) : ∀ {l : List α}, chn R l → chn S (l.map f)
  | [], _ => trivial
  | [_], _ => trivial
  | x :: y :: l, hl => ⟨h _ _ hl.1, chn_map h (l := y :: l) hl.2⟩
theorem chn_get {α : Type} {R : α → α → Prop} : ∀ {l : List α} {i : Nat} {x y : α}, chn R l → l[i]? = some x → l[i + 1]? = some y → R x y
  | [], _, _, _, _, h, _ => by simp at h
  | [_], i, _, _, _, _, h => by simp at h
  | a :: b :: l, 0, x, y, h, hx, hy => by simp at hx hy; subst hx; subst hy; exact h.1
  | a :: b :: l, i + 1, x, y, h, hx, hy => chn_get (i := i) h.2 (by simpa using hx) (by simpa using hy)
structure Sq (n k s : Nat) : Prop where
  hd : (cmb n k s).head? = some ((List.range k).map (s + ·))
  ch : chn (fun l l' => nxt n l = some l') (cmb n k s)
  la : ∃ l, (cmb n k s).getLast? = some l ∧ nxt n l = none ∧ l.length = k
theorem sq_all (n : Nat) : ∀ k s, s + k ≤ n → Sq n k s
  | 0, s, _ => ⟨rfl, trivial, [], rfl, rfl, rfl⟩
  | k + 1, s, h => by
    have ih := sq_all n k (s + 1) (by omega)
    obtain ⟨l, l1, l2, l3⟩ := ih.la
    have hh : ((cmb n k (s + 1)).map (fun l => s :: l)).head? = some ((List.range (k + 1)).map (s + ·)) := by
      rw [List.head?_map, ih.hd, List.range_succ_eq_map, List.map_cons, List.map_map]
      show some (s :: _) = some (s :: _)
      congr 2
      apply List.map_congr_left
      intro i _
      show s + 1 + i = s + (i + 1)
      omega
    have hc : chn (fun l l' => nxt n l = some l') ((cmb n k (s + 1)).map (fun l => s :: l)) := chn_map (fun x y hxy => by rw [nxt_cons, hxy]) ih.ch
    have hl : ((cmb n k (s + 1)).map (fun l => s :: l)).getLast? = some (s :: l) := by rw [List.getLast?_map, l1]; rfl
    by_cases c : s + (k + 1) = n
    · have e : cmb n (k + 1) s = (cmb n k (s + 1)).map (fun l => s :: l) := by
        rw [cmb_cons (by omega)]
        rcases cmb_few (n := n) (k := k + 1) (s := s + 1) (by omega) with e | e
        · rw [e, List.append_nil]
        · omega
      refine ⟨by rw [e]; exact hh, by rw [e]; exact hc, s :: l, by rw [e]; exact hl, ?_, by rw [List.length_cons, l3]⟩
      rw [nxt_cons, l2, l3]
      exact if_pos (by omega)
    · have ih2 := sq_all n (k + 1) (s + 1) (by omega)
      obtain ⟨m, m1, m2, m3⟩ := ih2.la
      have e := cmb_cons (n := n) (k := k) (s := s) (by omega)
      refine ⟨?_, ?_, m, ?_, m2, m3⟩
      · rw [e, List.head?_append, hh]; rfl
      · rw [e]
        refine chn_append hc ih2.ch fun x y hx hy => ?_
        rw [hl] at hx
        rw [ih2.hd] at hy
        cases hx; cases hy
        rw [nxt_cons, l2, l3]
        exact if_neg (by omega)
      · rw [e, List.getLast?_append, m1]; rfl
termination_by k s => (k, n - s)
theorem cmI_all {n k : Nat} : ∀ i, cmI n k i = (cmb n k 0)[i]?
  | 0 => by
    unfold cmI
    rw [← List.head?_eq_getElem?]
    by_cases h : k ≤ n
    · rw [if_pos h, (sq_all n k 0 (by omega)).hd]
      congr 1
      conv => lhs; rw [← List.map_id (List.range k)]
      apply List.map_congr_left
      intro i _
      show i = 0 + i
      omega
    · rw [if_neg h]
      rcases cmb_few (n := n) (k := k) (s := 0) (by omega) with e | e
      · rw [e]; rfl
      · omega
  | i + 1 => by
    unfold cmI
    rw [cmI_all i]
    cases e : (cmb n k 0)[i]? with
    | none => rw [List.getElem?_eq_none (by have := List.getElem?_eq_none_iff.mp e; omega)]; rfl
    | some l =>
      have hk : k ≤ n := by
        apply Nat.not_lt.mp; intro z
        rcases cmb_few (n := n) (k := k) (s := 0) (by omega) with e2 | e2
        · rw [e2] at e; simp at e
        · omega
      have q := sq_all n k 0 (by omega)
      show nxt n l = _
      cases e2 : (cmb n k 0)[i + 1]? with
      | some l' => exact chn_get (R := fun l l' => nxt n l = some l') q.ch e e2
      | none =>
        obtain ⟨m, m1, m2, _⟩ := q.la
        have h1 := (List.getElem?_eq_some_iff.mp e).1
        have h2 := List.getElem?_eq_none_iff.mp e2
        rw [List.getLast?_eq_getElem?, show (cmb n k 0).length - 1 = i by omega, e] at m1
        cases m1
        exact m2
end Cmb
namespace Pl
open PySem PySem.Spec PyProof.Rows L2 Cmb
theorem cm_ok {n k : Nat} {lo hi : Int} (h : (hi - lo).toNat = n) : CmOk lo hi k (cmb n k 0) := by
  subst h
  exact ⟨fun i l e => by rw [cmI_all]; exact e, by rw [cmI_all]; exact List.getElem?_eq_none (Nat.le_refl _)⟩
theorem cm_lt {n k : Nat} {lo hi : Int} (h : (hi - lo).toNat = n) : ∀ l ∈ cmb n k 0, ∀ j ∈ l, j < (hi - lo).toNat := fun l hl j hj => by
  rw [h]; exact ((mem_cmb.mp hl).2.2 j hj).2
end Pl
set_option Elab.async false
set_option linter.all false
set_option maxRecDepth 100000
set_option maxHeartbeats 4000000
set_option autoImplicit false
namespace Pl
open PySem PySem.Spec PyProof.Rows L2
/-! ### dicts as data -/
def dkD (kvs : List (Key × D)) : D := .dict ((.int 0, .none) :: kvs.map fun p => (keyD p.1, p.2))
def dtD (kvs : List (List Key × D)) : D := .dict ((.int 1, .none) :: kvs.map fun p => (.tuple (p.1.map keyD), p.2))
theorem keyD_inj : ∀ {a b : Key}, keyD a = keyD b → a = b
  | .inl i, .inl j, h => by cases h; rfl
  | .inr i, .inr j, h => by cases h; rfl
  | .inl i, .inr j, h => by cases h
  | .inr i, .inl j, h => by cases h
theorem keysD_inj : ∀ {a b : List Key}, a.map keyD = b.map keyD → a = b
  | [], [], _ => rfl
  | a :: as, [], h => by cases h
  | [], b :: bs, h => by cases h
  | a :: as, b :: bs, h => by
    rw [List.map_cons, List.map_cons] at h
    injection h with h1 h2
    rw [keyD_inj h1, keysD_inj h2]
theorem dkD_inj : ∀ {a b : List (Key × D)}, (a.map fun p => (keyD p.1, p.2)) = (b.map fun p => (keyD p.1, p.2)) → a = b
  | [], [], _ => rfl
  | a :: as, [], h => by cases h
  | [], b :: bs, h => by cases h
  | (a, x) :: as, (b, y) :: bs, h => by
    rw [List.map_cons, List.map_cons] at h
    injection h with h1 h2
    injection h1 with h3 h4
    have h3 : keyD a = keyD b := h3
    have h4 : x = y := h4
    rw [keyD_inj h3, h4, dkD_inj h2]
theorem dtD_inj : ∀ {a b : List (List Key × D)}, (a.map fun p => ((.tuple (p.1.map keyD) : D), p.2)) = (b.map fun p => (.tuple (p.1.map keyD), p.2)) → a = b
  | [], [], _ => rfl
  | a :: as, [], h => by cases h
  | [], b :: bs, h => by cases h
  | (a, x) :: as, (b, y) :: bs, h => by
    rw [List.map_cons, List.map_cons] at h
    injection h with h1 h2
    injection h1 with h3 h4
    have h3 : (.tuple (a.map keyD) : D) = .tuple (b.map keyD) := h3
    injection h3 with h3
    have h4 : x = y := h4
    rw [keysD_inj h3, h4, dtD_inj h2]
theorem paired_of {K : PySem.W.Frag} {F : Hp} {κ : Type} : ∀ {ws : List (κ × V)} {kvs : List (κ × D)}, ws.map (·.1) = kvs.map (·.1) → DpAll K F (ws.map (·.2)) (kvs.map (·.2)) → PairedD K F ws kvs
  | [], [], _, _ => .nil
  | a :: as, [], h, _ => by cases h
  | [], b :: bs, h, _ => by cases h
  | a :: as, b :: bs, h, g => by
    rw [List.map_cons, List.map_cons] at h g
    injection h with h1 h2
    cases g with
    | cons g1 g2 => exact .cons ⟨h1, g1⟩ (paired_of h2 g2)
theorem of_paired {K : PySem.W.Frag} {F : Hp} {κ : Type} : ∀ {ws : List (κ × V)} {kvs : List (κ × D)}, PairedD K F ws kvs → ws.map (·.1) = kvs.map (·.1) ∧ DpAll K F (ws.map (·.2)) (kvs.map (·.2))
  | [], [], _ => ⟨rfl, .nil⟩
  | (a, v) :: ws, (b, d) :: kvs, h => by
    cases h with
    | cons h t =>
      have e : a = b := h.1
      subst e
      exact ⟨by rw [List.map_cons, List.map_cons, (of_paired t).1], .cons h.2 (of_paired t).2⟩
theorem dp_dkD {K : PySem.W.Frag} {F : Hp} {v : V} {kvs : List (Key × D)} (h : Dp K F v (dkD kvs)) : ∃ (a : Addr) (ws : List (Key × V)), v = .ref a ∧ F a = some (.dK ws) ∧ PairedD K F ws kvs := by
  generalize e : dkD kvs = d at h
  cases h with
  | dk h1 h2 h3 =>
    injection e with e
    injection e with _ e
    cases dkD_inj e
    exact ⟨_, _, rfl, h1, paired_of h2 h3⟩
  | dt h1 h2 h3 =>
    injection e with e
    injection e with e _
    injection e with e _
    cases e
  | _ => cases e
theorem dp_dtD {K : PySem.W.Frag} {F : Hp} {v : V} {kvs : List (List Key × D)} (h : Dp K F v (dtD kvs)) : ∃ (a : Addr) (ws : List (List Key × V)), v = .ref a ∧ F a = some (.dT ws) ∧ PairedD K F ws kvs := by
  generalize e : dtD kvs = d at h
  cases h with
  | dt h1 h2 h3 =>
    injection e with e
    injection e with _ e
    cases dtD_inj e
    exact ⟨_, _, rfl, h1, paired_of h2 h3⟩
  | dk h1 h2 h3 =>
    injection e with e
    injection e with e _
    injection e with e _
    cases e
  | _ => cases e
section
variable {c : Cc} {sp : List Sl} {P : Pn} {Q : D → Prop} {QT : Bool → Prop} {QL : List D → Prop} {e a b : Expr} {es : List Expr} {st : Stmt} {ss : List Stmt} {pos p px : Pos} {x : Str}
theorem SR.freezeO {T : Addr → Prop} {K : PySem.W.Frag} {G F0 F H : Hp} {σ : L2.St} (r : SR T K G F0 F H sp σ) {i : Nat} {s : Sl} {d : D} (h : sp[i]? = some s) (hs : s.own = true)
    (hd : ∀ a o F', ObOk K F' s o → F' a = some o → Dp K F' (.ref a) d) (hz : ∀ o, ObOk K F s o → notFrz o = true) :
    ∃ a o, H a = some o ∧ F a = none ∧ SR T K G F0 (upd F a o) H (sp.set i (.v d)) σ := by
  obtain ⟨x, hx, ok⟩ := r.slot h
  obtain ⟨a, o, rfl, h1, h2, h3, h4⟩ := (slOk_own hs).mp ok
  have sF : Same F (upd F a o) := same_upd h2
  have sH : Same (upd F a o) H := fun b u e => by
    by_cases hb : b = a
    · subst hb; rw [upd_same] at e; exact .of (h1.trans e)
    · rw [upd_ne hb] at e; exact r.sf _ _ e
  refine ⟨a, o, h1, h2, sH, r.f0.trans sF, r.g, fun b q1 q2 => ?_, by rw [List.length_set]; exact r.len, fun j t y q1 q2 => ?_, fun j k t u b hjk q1 q2 ht hu q3 q4 => ?_, r.tab.mono sF fun z => z.upd (hz o h4)⟩
  · by_cases hb : b = a
    · subst hb; exact h3
    · rw [upd_ne hb] at q2; exact r.fr b q1 q2
  · rcases getElem_set q1 with ⟨e, es, hl⟩ | ⟨e, q1⟩
    · subst e; subst es
      rw [hx] at q2; cases q2
      exact ⟨.ref a, rfl, hd a o _ (obOk_mono sF h4) upd_same⟩
    · cases et : t.own with
      | false =>
        have := r.sl j t y q1 q2
        cases t with
        | un => trivial
        | v d => obtain ⟨v, z1, z2⟩ := this; exact ⟨v, z1, dp_mono sF _ _ z2⟩
        | l ds => cases et
        | dk ds => cases et
        | dt ds => cases et
      | true =>
        obtain ⟨b, o', e1, e2', e3', e4', e5'⟩ := (slOk_own et).mp (r.sl j t y q1 q2)
        subst e1
        have : b ≠ a := fun z => by
          subst z
          exact r.inj i j _ t b e h q1 hs et hx q2
        exact (slOk_own et).mpr ⟨b, o', rfl, e2', by rw [upd_ne this]; exact e3', e4', obOk_mono sF e5'⟩
  · rcases getElem_set q1 with ⟨_, es, _⟩ | ⟨e, q1⟩
    · subst es; cases ht
    · rcases getElem_set q2 with ⟨_, es, _⟩ | ⟨e', q2⟩
      · subst es; cases hu
      · exact r.inj j k t u b hjk q1 q2 ht hu q3 q4
theorem dk_ob {K : PySem.W.Frag} {kvs : List (Key × D)} (a : Addr) (o : HO) (F' : Hp) (h : ObOk K F' (.dk kvs) o) (e : F' a = some o) : Dp K F' (.ref a) (dkD kvs) := by
  obtain ⟨ws, rfl, h⟩ := h
  exact .dk e (of_paired h).1 (of_paired h).2
theorem dt_ob {K : PySem.W.Frag} {kvs : List (List Key × D)} (a : Addr) (o : HO) (F' : Hp) (h : ObOk K F' (.dt kvs) o) (e : F' a = some o) : Dp K F' (.ref a) (dtD kvs) := by
  obtain ⟨ws, rfl, h⟩ := h
  exact .dt e (of_paired h).1 (of_paired h).2
theorem S_freezeDk (i : Nat) {kvs : List (Key × D)} (h : sp[i]? = some (.dk kvs)) (q : S c ss (sp.set i (.v (dkD kvs))) P) : S c ss sp P := Sealed.of fun X hX G F0 F H σ r D0 k => by
  obtain ⟨a, vs, h1, h2, r'⟩ := r.freezeO h rfl dk_ob (fun o h => by obtain ⟨ws, rfl, _⟩ := h; rfl)
  exact Sealed.run q X hX G F0 _ H σ r' D0 k
theorem S_freezeDt (i : Nat) {kvs : List (List Key × D)} (h : sp[i]? = some (.dt kvs)) (q : S c ss (sp.set i (.v (dtD kvs))) P) : S c ss sp P := Sealed.of fun X hX G F0 F H σ r D0 k => by
  obtain ⟨a, vs, h1, h2, r'⟩ := r.freezeO h rfl dt_ob (fun o h => by obtain ⟨ws, rfl, _⟩ := h; rfl)
  exact Sealed.run q X hX G F0 _ H σ r' D0 k
theorem S1_freezeDk (i : Nat) {kvs : List (Key × D)} (h : sp[i]? = some (.dk kvs)) (q : S1 c st (sp.set i (.v (dkD kvs))) P) : S1 c st sp P := Sealed.of fun X hX G F0 F H σ r D0 k => by
  obtain ⟨a, vs, h1, h2, r'⟩ := r.freezeO h rfl dk_ob (fun o h => by obtain ⟨ws, rfl, _⟩ := h; rfl)
  exact Sealed.run q X hX G F0 _ H σ r' D0 k
theorem S1_freezeDt (i : Nat) {kvs : List (List Key × D)} (h : sp[i]? = some (.dt kvs)) (q : S1 c st (sp.set i (.v (dtD kvs))) P) : S1 c st sp P := Sealed.of fun X hX G F0 F H σ r D0 k => by
  obtain ⟨a, vs, h1, h2, r'⟩ := r.freezeO h rfl dt_ob (fun o h => by obtain ⟨ws, rfl, _⟩ := h; rfl)
  exact Sealed.run q X hX G F0 _ H σ r' D0 k
/-- d[k] -/
theorem E_kGet (h : E c a sp fun d => E c e sp fun g => ∃ (kvs : List (Key × D)) (k : Key) (v : D), d = dkD kvs ∧ g = keyD k ∧ getK kvs k = some v ∧ Q v) (hns : NoSl e := by intro _ _; rfl) : E c (.Subscript a e pos) sp Q := Sealed.of fun X hX G F0 F H σ r R k => by
  refine PE_tE (pe_dget hX.u1 pe_tE pe_tE hns) ?_
  refine h X hX G F0 F H σ r _ fun d0 v0 F0' H0 q0 g0 d1 => ?_
  refine Sealed.run q0 X hX G F0 F0' H0 σ (r.grow g0) _ fun d v F1 H1 q g dd => ?_
  obtain ⟨kvs, kk, w, rfl, rfl, hw, q⟩ := q
  obtain ⟨l, ws, rfl, h1, h4⟩ := dp_dkD d1
  cases key_of dd
  have hl := (g0.trans g).fh
  rcases paired_get (k := kk) h4 with ⟨_, z2⟩ | ⟨v0, d0, z1, z2, z3⟩
  · rw [hw] at z2; cases z2
  · rw [hw] at z2; cases z2
    exact ⟨l, v0, rfl, by rw [← z1]; exact DGet.k (hl _ _ ((g.f _ _ h1))), k _ _ F1 H1 q (g0.trans g) (dp_mono g.f _ _ z3)⟩
theorem E_tGet (h : E c a sp fun d => E c e sp fun g => ∃ (kvs : List (List Key × D)) (k : List Key) (v : D), d = dtD kvs ∧ g = .tuple (k.map keyD) ∧ getK kvs k = some v ∧ Q v) (hns : NoSl e := by intro _ _; rfl) : E c (.Subscript a e pos) sp Q := Sealed.of fun X hX G F0 F H σ r R k => by
  refine PE_tE (pe_dget hX.u1 pe_tE pe_tE hns) ?_
  refine h X hX G F0 F H σ r _ fun d0 v0 F0' H0 q0 g0 d1 => ?_
  refine Sealed.run q0 X hX G F0 F0' H0 σ (r.grow g0) _ fun d v F1 H1 q g dd => ?_
  obtain ⟨kvs, kk, w, rfl, rfl, hw, q⟩ := q
  obtain ⟨l, ws, rfl, h1, h4⟩ := dp_dtD d1
  obtain ⟨b, rfl, hb⟩ := tkey_of ((r.grow g0).grow g) dd
  have hl := (g0.trans g).fh
  rcases paired_get (k := kk) h4 with ⟨_, z2⟩ | ⟨v0, d0, z1, z2, z3⟩
  · rw [hw] at z2; cases z2
  · rw [hw] at z2; cases z2
    exact ⟨l, v0, rfl, by rw [← z1]; exact DGet.t (hl _ _ ((g.f _ _ h1))) hb, k _ _ F1 H1 q (g0.trans g) (dp_mono g.f _ _ z3)⟩
theorem pc_coreK {neg : Bool} {X : Cx} (hX : c.Has X) {G F0 F H : Hp} {σ : L2.St} (r : SR c.m.T c.m.K G F0 F H sp σ) {R : VK} {QB : Bool → Prop}
    (k : ∀ b F' H', QB b → Grow F H F' H' → R (.bl b) H') (h : E c e sp fun g => E c a sp fun d => (∃ (kvs : List (Key × D)) (k : Key), d = dkD kvs ∧ g = keyD k ∧ QB (if neg = true then !(getK kvs k).isSome else (getK kvs k).isSome)) ∨ ∃ (kvs : List (List Key × D)) (k : List Key), d = dtD kvs ∧ g = .tuple (k.map keyD) ∧ QB (if neg = true then !(getK kvs k).isSome else (getK kvs k).isSome)) :
    (if neg = true then tDNotIn (tE X e) (tE X a) else tDIn (tE X e) (tE X a)) σ H R := by
  have key : tE X e σ H fun y H1 => tE X a σ H1 fun x H2 => ∃ a o, x = .ref a ∧ DGet H2 a y o ∧ R (.bl (if neg = true then !o.isSome else o.isSome)) H2 := by
    refine h X hX G F0 F H σ r _ fun g v F1 H1 q g1 d1 => ?_
    refine Sealed.run q X hX G F0 F1 H1 σ (r.grow g1) _ fun d w F2 H2 q' g2 d2 => ?_
    rcases q' with ⟨kvs, kk, rfl, rfl, q'⟩ | ⟨kvs, kk, rfl, rfl, q'⟩
    · obtain ⟨l, ws, rfl, h1, h4⟩ := dp_dkD d2
      cases key_of d1
      have e1 : (valV ws kk).isSome = (getK kvs kk).isSome := by
        rcases paired_get (k := kk) h4 with ⟨z1, z2⟩ | ⟨_, _, z1, z2, _⟩ <;> rw [z1, z2] <;> rfl
      refine ⟨l, valV ws kk, rfl, DGet.k (g2.fh _ _ h1), ?_⟩
      rw [e1]
      exact k _ F2 H2 q' (g1.trans g2)
    · obtain ⟨l, ws, rfl, h1, h4⟩ := dp_dtD d2
      obtain ⟨b, rfl, hb⟩ := tkey_of (r.grow g1) d1
      have e1 : (valV ws kk).isSome = (getK kvs kk).isSome := by
        rcases paired_get (k := kk) h4 with ⟨z1, z2⟩ | ⟨_, _, z1, z2, _⟩ <;> rw [z1, z2] <;> rfl
      refine ⟨l, valV ws kk, rfl, DGet.t (g2.fh _ _ h1) (g2.h _ _ hb), ?_⟩
      rw [e1]
      exact k _ F2 H2 q' (g1.trans g2)
  cases neg with
  | true => exact key
  | false => exact key
def InK (QB : Bool → Prop) (neg : Bool) (g d : D) : Prop := (∃ (kvs : List (Key × D)) (k : Key), d = dkD kvs ∧ g = keyD k ∧ QB (if neg = true then !(getK kvs k).isSome else (getK kvs k).isSome)) ∨ ∃ (kvs : List (List Key × D)) (k : List Key), d = dtD kvs ∧ g = .tuple (k.map keyD) ∧ QB (if neg = true then !(getK kvs k).isSome else (getK kvs k).isSome)
theorem E_kIn (h : E c e sp fun g => E c a sp fun d => InK (fun b => Q (.bool b)) false g d) (hm : behindInMarks .In a = false := by rfl) : E c (.Compare e [.In] [a] pos) sp Q := Sealed.of fun X hX G F0 F H σ r R k =>
  PE_tE (pe_cmp (pc_din hX.u1 pe_tE pe_tE) hm) (pc_coreK (neg := false) (QB := fun b => Q (.bool b)) hX r (fun b F' H' q g => k _ _ F' H' q g (.bl b)) h)
theorem E_kNin (h : E c e sp fun g => E c a sp fun d => InK (fun b => Q (.bool b)) true g d) (hm : behindInMarks .NotIn a = false := by rfl) : E c (.Compare e [.NotIn] [a] pos) sp Q := Sealed.of fun X hX G F0 F H σ r R k =>
  PE_tE (pe_cmp (pc_dnotin hX.u1 pe_tE pe_tE) hm) (pc_coreK (neg := true) (QB := fun b => Q (.bool b)) hX r (fun b F' H' q g => k _ _ F' H' q g (.bl b)) h)
theorem T_kIn (h : E c e sp fun g => E c a sp fun d => InK QT false g d) (hm : behindInMarks .In a = false := by rfl) : T c (.Compare e [.In] [a] pos) sp QT := Sealed.of fun X hX G F0 F H σ r R k =>
  PT_tT (pt_cmp (pc_din hX.u1 pe_tE pe_tE) hm) (pc_coreK (neg := false) (QB := QT) hX r (fun b F' H' q g => ⟨b, rfl, k _ F' H' q g⟩) h)
theorem T_kNin (h : E c e sp fun g => E c a sp fun d => InK QT true g d) (hm : behindInMarks .NotIn a = false := by rfl) : T c (.Compare e [.NotIn] [a] pos) sp QT := Sealed.of fun X hX G F0 F H σ r R k =>
  PT_tT (pt_cmp (pc_dnotin hX.u1 pe_tE pe_tE) hm) (pc_coreK (neg := true) (QB := QT) hX r (fun b F' H' q g => ⟨b, rfl, k _ F' H' q g⟩) h)
/-- len(d) -/
theorem E_kLen (h : E c a sp fun d => ∃ kvs : List (Key × D), d = dkD kvs ∧ Q (.int kvs.length)) (hm : c.m.mg "len" = none) (hv0 : bootBuiltins "len" = some (.builtin "len")) (hg : GlS c.sc "len" := by rfl)
    (he : ∀ env, starEach [a] env = (false, eval a env) :: starEach [] env := by intro _; rfl) (hpl : ∀ env, (backTo pos (starEach [] env)).any (·.1) = false := by intro _; rfl) : E c (.Call (.Name "len" p) [a] [] pos) sp Q := Sealed.of fun X hX G F0 F H σ r R k => by
  refine PE_tE (pe_callB call_lenD (hg.gl hX) (by rw [hX.mg]; exact hm) hv0 (pa_cons pe_tE pa_nil (he _)) (by decide) (by decide) (he _) (hpl _)) ?_
  refine h X hX G F0 F H σ r _ fun d v F1 H1 q g d1 => ?_
  obtain ⟨kvs, rfl, q⟩ := q
  obtain ⟨l, ws, rfl, h1, h4⟩ := dp_dkD d1
  exact ⟨l, ws, rfl, g.fh _ _ h1, by rw [show ws.length = kvs.length from Paired.length h4]; exact k _ _ F1 H1 q g (.int _)⟩
theorem E_tLen (h : E c a sp fun d => ∃ kvs : List (List Key × D), d = dtD kvs ∧ Q (.int kvs.length)) (hm : c.m.mg "len" = none) (hv0 : bootBuiltins "len" = some (.builtin "len")) (hg : GlS c.sc "len" := by rfl)
    (he : ∀ env, starEach [a] env = (false, eval a env) :: starEach [] env := by intro _; rfl) (hpl : ∀ env, (backTo pos (starEach [] env)).any (·.1) = false := by intro _; rfl) : E c (.Call (.Name "len" p) [a] [] pos) sp Q := Sealed.of fun X hX G F0 F H σ r R k => by
  refine PE_tE (pe_callB call_len_dT (hg.gl hX) (by rw [hX.mg]; exact hm) hv0 (pa_cons pe_tE pa_nil (he _)) (by decide) (by decide) (he _) (hpl _)) ?_
  refine h X hX G F0 F H σ r _ fun d v F1 H1 q g d1 => ?_
  obtain ⟨kvs, rfl, q⟩ := q
  obtain ⟨l, ws, rfl, h1, h4⟩ := dp_dtD d1
  exact ⟨l, ws, rfl, g.fh _ _ h1, by rw [show ws.length = kvs.length from Paired.length h4]; exact k _ _ F1 H1 q g (.int _)⟩
/-- sorted(d), keys ints -/
theorem EF_kSorted (h : E c a sp fun d => ∃ (kvs : List (Key × D)) (ks : List Int), d = dkD kvs ∧ kvs.map (·.1) = ks.map Sum.inl ∧ ks.length < 64 ∧ ∀ ys : List Int, ys.Perm ks → ys.Pairwise (· ≤ ·) → QL (ys.map .int)) (hm : c.m.mg "sorted" = none) (hg : GlS c.sc "sorted" := by rfl)
    (he : ∀ env, starEach [a] env = (false, eval a env) :: starEach [] env := by intro _; rfl) (hpl : ∀ env, (backTo pos (starEach [] env)).any (·.1) = false := by intro _; rfl) : EF c (.Call (.Name "sorted" p) [a] [] pos) sp QL := Sealed.of fun X hX G F0 F H σ r R k => by
  refine PE_tE (pe_callB (call_sortedDI hX.calm) (hg.gl hX) (by rw [hX.mg]; exact hm) boot_sorted' (pa_cons pe_tE pa_nil (he _)) (by decide) (by decide) (he _) (hpl _)) ?_
  refine h X hX G F0 F H σ r _ fun d v F1 H1 q g d1 => ?_
  obtain ⟨kvs, ks, rfl, hk, h64, q⟩ := q
  obtain ⟨l, ws, rfl, h1, h4⟩ := dp_dkD d1
  refine ⟨l, ws, ks, rfl, .inl (g.fh _ _ h1), by rw [paired_keys h4, hk], h64, fun ys p2 hp hs hp2 => ?_⟩
  have g2 := Grow.out (o := .lst (ys.map V.int)) g.fh hp2
  exact k (ys.map .int) (ys.map V.int) p2 F1 _ (q ys hp hs) (g.trans g2) (g.h.free hp2) (g.fh.free hp2) upd_same (dpAll_of_ints _)
end
end Pl
set_option Elab.async false
set_option linter.all false
set_option maxRecDepth 100000
set_option maxHeartbeats 4000000
set_option autoImplicit false
namespace Pl
open PySem PySem.Spec PyProof.Rows L2
/-! ### sorted of a tuple of ints -/
section
variable {prog : Program} {w : World} {A : Around} {E : Value → Shared → Prop} {s : Shared}
theorem collect_tup {l : Addr} {vs : List Value} {Q : List Value → Shared → Prop} (hl : s.heap.IsTuple l vs.toArray) (hsz : vs.length ≤ sizeLine)
    (h : Q vs { s with heap := (s.heap.push (seqObj "list" #[] 0)).update s.heap.objs.size (Obj.mapSeq (· ++ vs.toArray)) }) :
    wpAny (model prog w) A (collect (.ref l)) Q E s := by
  obtain ⟨o, ho, hc, n, hd⟩ := id hl
  have ho' : (s.heap.push (seqObj "list" #[] 0)).get? l = some o := Heap.get?_push_of_some _ ho
  have hp := Heap.get?_push_size s.heap (o := seqObj "list" #[] 0) rfl
  unfold collect
  refine wpAny_bind (wpAny_runValue (codeAny_builtin entry_proto_collect' ?_))
  refine wpAny_bind (wpAny_newList (wpAny_pure ⟨Code.quiet_builtin _ (by decide +kernel), codeAny_builtin entry_list_iadd' ?_⟩))
  show wpAny _ _ (Builtin.List.listExtendWith (.ref s.heap.objs.size) (.ref l) (.ref s.heap.objs.size)) _ _ { s with heap := s.heap.push (seqObj "list" #[] 0) }
  unfold Builtin.List.listExtendWith
  refine wpAny_bind (wpAny_typeOf (T := "tuple") ⟨o, ho', hc⟩ ?_)
  rw [if_pos (by simp [show (Value.type "tuple" == Value.type "tuple") = true from rfl])]
  refine wpAny_bind (listItems_at ho' hd ?_)
  refine wpAny_bind (listItems_at (xs := #[]) (n := 0) hp rfl ?_)
  rw [if_neg (by simp)]
  refine wpAny_bind (listUpdate_at (xs := #[]) (n := 0) hp rfl ?_ (Nat.zero_le _) (by show (#[] ++ vs.toArray).size ≤ sizeLine + 1; simp only [Array.size_append, List.size_toArray, List.length_nil]; omega))
  refine wpAny_pure ?_
  refine wpAny_bind (wpAny_load (get?_update_seq hp _) ?_)
  show wpAny _ _ (pure ((#[] : Array Value) ++ vs.toArray).toList) Q E _
  rw [show ((#[] : Array Value) ++ vs.toArray).toList = vs by simp]
  exact wpAny_pure h
theorem sorted_tupI {l : Addr} {vs : List Value} {ns : List Int} {Q : Value → Shared → Prop} (hl : s.heap.IsTuple l vs.toArray) (hI : IntsAre vs ns) (hz : vs.length ≤ sizeLine)
    (h : ∀ out : List Value, SrtO.Srtd SrtO.ltIv out → SrtO.Stb SrtO.ltIv out vs → Q (.ref (s.heap.objs.size + 1)) { s with heap := sortedAll s.heap vs out.toArray }) :
    wpAny (model prog w) A (call (.builtin "sorted") [.ref l]) Q E s := by
  refine Calls.call_function_entry kind_sorted plain_sorted entry_sorted (args_sorted1 _) ?_
  unfold Builtin.«sorted»
  refine wpAny_bind (m := checkCount "sorted" 1 1 _) (wpAny_pure ?_)
  refine wpAny_bind (collect_tup hl hz ?_)
  refine wpAny_bind (wpAny_newList ?_ hz)
  generalize hg : (s.heap.push (seqObj "list" #[] 0)).update s.heap.objs.size (Obj.mapSeq (· ++ vs.toArray)) = g1
  have hsz : g1.objs.size = s.heap.objs.size + 1 := by rw [← hg, Heap.size_update, size_push']
  have hoL : (g1.push (seqObj "list" vs.toArray 0)).get? (s.heap.objs.size + 1) = some (seqObj "list" vs.toArray 0) := by
    rw [← hsz]; exact Heap.get?_push_size _ rfl
  show wpAny _ _ _ _ _ { s with heap := g1.push (seqObj "list" vs.toArray 0) }
  rw [hsz]
  refine wpAny_bind (wpAny_holding (wpAny_call_entry slot_list_sort ⟨_, hoL, rfl⟩ entry_list_sort (SrtO.list_sort_ord SrtO.swo_int hoL hz (fun h2 => SrtO.ints_sortable hI h2) fun out hs hb => ⟨_, rfl, ?_⟩) (args_list_sort _)))
  have := h out hs hb
  unfold sortedAll at this
  rw [hg] at this
  exact wpAny_pure ⟨_, rfl, this⟩
end
section
variable {X : Cx}
def rSortedTI (K : PySem.W.Frag) : List V → Hp → VK → Prop := fun vs H Q => ∃ (a : Addr) (ns : List Int), vs = [V.ref a] ∧ SqT K H a (ns.map V.int) ∧
  ∀ (ns' : List Int) (p : Addr), ns'.Perm ns → ns'.Pairwise (· ≤ ·) → H p = none → Q (.ref p) (upd H p (.lst (ns'.map V.int)))
theorem cr_sortedTI : CallR X (.builtin "sorted") (rSortedTI X.K) := by
  intro pins s σ H vs us Q I r h
  obtain ⟨a, ns, rfl, hs, q⟩ := h
  obtain ⟨its, rv, hl, hz⟩ := I.tuple hs
  rw [Vals.ref1 r]
  have hi := rv.ints
  refine sorted_tupI hl hi (by rw [← rv.length]; exact hz) fun out h1 h2 => ?_
  obtain ⟨k1, k2, k3⟩ := SrtO.ints_out hi h1 h2
  obtain ⟨ep, he'⟩ := PyProof.Rows.sortedAll_at s.heap its out.toArray
  have hlen : ((out.map SrtO.iv).map V.int).length ≤ sizeLine := by
    rw [List.length_map, k2.length_eq]
    rw [List.length_map] at hz
    exact hz
  exact ⟨.ref _, upd H (s.heap.objs.size + 1) (.lst ((out.map SrtO.iv).map V.int)), I.laid (t' := s.toks) (fun _ _ => PyProof.Rows.sortedAll_old) (Nat.le_succ _) ⟨hlen, out, ep, vals_of_ints k1, he'⟩, rfl, q _ _ k2 k3 (I.hok.fresh (Nat.le_succ _))⟩
end
section
variable {c : Cc} {Q : D → Prop}
theorem cp_sortedT {ns : List Int} (q : ∀ ns' : List Int, ns'.Perm ns → ns'.Pairwise (· ≤ ·) → Q (.list (ns'.map .int))) : CallP c (.builtin "sorted") [.tuple (ns.map .int)] Q := .of fun X hX => ⟨_, cr_sortedTI, fun F H xs R s h k => by
  obtain ⟨v, rfl, z⟩ := dp1 h
  obtain ⟨l, vs, rfl, h1, h2⟩ := dp_tuple z
  cases dpAll_ints h2
  rw [hX.K]
  refine ⟨l, ns, rfl, sqT_mono s h1, fun ns' p h3 h4 hp => ?_⟩
  have g := Grow.new_ (o := .lst (ns'.map V.int)) s hp
  exact k _ _ _ _ (q ns' h3 h4) g (.lst (.inl (.inl upd_same)) (dpAll_of_ints _))⟩
end
end Pl
set_option Elab.async false
set_option linter.all false
set_option maxRecDepth 100000
set_option maxHeartbeats 4000000
set_option autoImplicit false
namespace Pl
open PySem PySem.Spec PyProof.Rows L2
section
variable {c : Cc} {sp : List Sl} {Q : D → Prop} {b : Expr} {pos px : Pos} {x : Str}
/-- xs[e], xs a list of one's own: what stands there is data -/
theorem E_ixL (i : Nat) {ds : List D} (hsl : sp[i]? = some (.l ds)) (h : E c b sp fun g => ∃ (j : Int) (d : D), g = .int j ∧ atI ds j = some d ∧ Q d) (hi : c.N[i]? = some x := by rfl) (hv : Vis c.sc x := by first | exact Or.inl rfl | exact Or.inr (Or.inl rfl) | exact Or.inr (Or.inr rfl))
    (hd : (x == ("__debug__" : Str)) = false := by decide) (hcd : (x == ("__classdict__" : Str)) = false := by decide) (hs : PlainIx b := by intro _ _; rfl) : E c (.Subscript (.Name x px) b pos) sp Q := Sealed.of fun X hX G F0 F H σ r R k => by
  refine PE_tE (pe_ix ix_ixS (pe_var (i := i) (by rw [hX.N]; exact hi) (by rw [hX.sc]; exact hv) hd hcd) pe_tE hs) ?_
  obtain ⟨y, hy, ok⟩ := r.slot hsl
  obtain ⟨l, o, rfl, h1, h2, h3, vs, rfl, h4⟩ := (slOk_own rfl).mp ok
  refine ⟨.ref l, hy, ?_⟩
  refine h X hX G F0 F H σ r _ fun g u F1 H1 q g1 d1 => ?_
  obtain ⟨j, d, rfl, e, q⟩ := q
  cases dp_int d1
  obtain ⟨v, q3, q4⟩ := dpAll_at h4 e
  exact fun value slice pins st σ v' u I rx ry hs => ix_list value slice pins st σ H1 _ _ v' u R I rx ry ⟨l, vs, j, v, rfl, rfl, .inl (.inl (g1.h _ _ h1)), q3, k d v F1 H1 q g1 (dp_mono g1.f _ _ q4)⟩ hs
end
end Pl
set_option Elab.async false
set_option linter.all false
set_option maxRecDepth 100000
set_option maxHeartbeats 4000000
set_option autoImplicit false
namespace Pl
open PySem PySem.Spec PyProof.Rows L2
/-! ### x = {k: v}, a dict of one's own -/
theorem Grow.upd_own {F H F' H' : Hp} {p : Addr} {o : HO} (g : Grow F H F' H') (hn : H p = none) (hF : F' p = none) : Grow F H F' (upd H' p o) := by
  refine ⟨g.f, fun b u e => ?_, fun b u e => ?_, g.new, g.nf⟩
  · by_cases hb : b = p
    · subst hb; rw [hF] at e; cases e
    · rw [upd_ne hb]; exact g.fh _ _ e
  · by_cases hb : b = p
    · subst hb; rw [hn] at e; cases e
    · rw [upd_ne hb]; exact g.h _ _ e
section
variable {c : Cc} {sp : List Sl} {P : Pn} {ke ve : Expr} {pos : Pos} {x : Str}
theorem S1_setDk1 (i : Nat) {pos' dp : Pos} (hN : c.N.Nodup) (h : E c ke sp fun g => E c ve sp fun d => ∃ k : Key, g = keyD k ∧ P.nx (sp.set i (.dk [(k, d)]))) (hi : c.N[i]? = some x := by rfl) (hx : LocS c.sc x := by first | exact Or.inl rfl | exact Or.inr rfl)
    (hf : FnS c x := by first | exact Or.inl rfl | exact Or.inr rfl) (hs : ∀ env : Env, env.scope = c.sc → swapsWith (.Dict [some ke] [ve] dp) (some (.Name x pos')) pos.line env = pure false := by intro env he; first | rfl | (cases env; subst he; rfl)) : S1 c (.Assign [.Name x pos'] (.Dict [some ke] [ve] dp) pos) sp P := Sealed.of fun X hX G F0 F H σ r D0 k => by
  refine PS_t (ps_set (i := i) (by rw [hX.N]; exact hN) (by rw [hX.N]; exact hi) (hx.loc hX) (pe_disp (pps_cons pe_tE pe_tE pps_nil) rfl rfl (by simp) (by simp)) (hs _ hX.sc) (hf.fn hX)) ?_
  intro p hp
  have g0 := Grow.out (o := .dK []) r.sf hp
  have hFp := r.sf.free hp
  refine h X hX G F0 F (upd H p (.dK [])) σ (r.grow g0) _ fun g v F1 H1 q1 g1 d1 => ?_
  refine Sealed.run q1 X hX G F0 F1 H1 σ ((r.grow g0).grow g1) _ fun d u F2 H2 q2 g2 d2 => ?_
  obtain ⟨kk, rfl, q⟩ := q2
  cases key_of d1
  have hp1 : H1 p = some (.dK []) := g1.h _ _ upd_same
  have hp2 : H2 p = some (.dK []) := g2.h _ _ hp1
  have hF1 : F1 p = none := by
    cases e : F1 p with
    | none => rfl
    | some o => have := g1.new p hFp (by rw [e]; exact fun z => by cases z); rw [upd_same] at this; cases this
  have hF2 : F2 p = none := by
    cases e : F2 p with
    | none => rfl
    | some o => have := g2.new p hF1 (by rw [e]; exact fun z => by cases z); rw [hp1] at this; cases this
  refine ⟨hp2, [(kk, u)], rfl, by simp, ?_⟩
  have g := Grow.upd_own (o := .dK [(kk, u)]) ((g0.trans g1).trans g2) hp hF2
  exact k.nx _ F2 _ _ q (r.set_new (s := .dk [(kk, d)]) i g hp upd_same hF2 ⟨[(kk, u)], rfl, .cons ⟨rfl, d2⟩ .nil⟩ rfl)
end
end Pl
set_option Elab.async false
set_option linter.all false
set_option maxRecDepth 100000
set_option maxHeartbeats 4000000
set_option autoImplicit false
namespace Pl
open PySem PySem.Spec PyProof.Rows L2
theorem opp_xor {c : Cc} {Q : D → Prop} {i j : Int} (q : Q (.int (Builtin.bitXor i j))) : OpP c (binaryOp .BitXor) (.int i) (.int j) Q := opp_rI0 (fun _ => op_xor) (fun _ _ => .int _) q
/-! ### xs.extend(e) of a list of one's own -/
section
variable {c : Cc} {sp : List Sl} {P : Pn} {e : Expr} {apos : Pos}
theorem S1_extend (i : Nat) {x : Str} {ds : List D} {pos' cpos spos : Pos} (hsl : sp[i]? = some (.l ds)) (h : EF c e sp fun gs => ds.length + gs.length ≤ sizeLine ∧ P.nx (sp.set i (.l (ds ++ gs)))) (hi : c.N[i]? = some x := by rfl)
    (hv : Vis c.sc x := by first | exact Or.inl rfl | exact Or.inr (Or.inl rfl) | exact Or.inr (Or.inr rfl)) (hd : (x == ("__debug__" : Str)) = false := by decide) (hcd : (x == ("__classdict__" : Str)) = false := by decide)
    (hst : ∀ env, starEach [e] env = [(false, eval e env)] := by intro _; rfl)
    (hfew : ∀ env, ((backTo cpos (starEach [e] env)).all (fun x => !x.1) && (backToKw cpos (keywordEach [] env)).all (fun x => x.1.isSome) && decide ([e].length + ([] : List Keyword).length + (if ([] : List Keyword).isEmpty then 0 else 1) < 30)) = true := by intro _; rfl)
    (hline : (apos.endLine == cpos.line) = true := by rfl) :
    S1 c (.Expr (.Call (.Attribute (.Name x pos') "extend" apos) [e] [] cpos) spos) sp P := Sealed.of fun X hX G F0 F H σ r D0 k => by
  obtain ⟨y, hy, ok⟩ := r.slot hsl
  obtain ⟨l, o, rfl, h1, h2, h3, vs, rfl, h4⟩ := (slOk_own rfl).mp ok
  have hv' : PE X (.Name x pos') (tVar i) := pe_var (i := i) (by rw [hX.N]; exact hi) (by rw [hX.sc]; exact hv) hd hcd
  refine PS_t (ps_expr (pe_bm PySem.F.plainAttrs_list PySem.F.slot_list_extend PySem.F.type_list_extend mt_extend hv' (pa_cons pe_tE pa_nil (hst _)) rfl (hfew _) hline (hst _) rfl) rfl) ?_
  refine ⟨.ref l, hy, .inl ⟨rfl, vs, .inl (.inl h1)⟩, ?_⟩
  refine h X hX G F0 F H σ r _ fun gs ws b F1 H1 q g hn hF hH d1 => ?_
  have hl := g.h _ _ h1
  refine ⟨l, b, vs, ws, rfl, rfl, hl, hH, by rw [dpAll_len h4, dpAll_len d1]; exact q.1, ?_⟩
  exact k.nx _ F1 _ σ q.2 ((r.grow g).upd_o i hsl rfl hy ⟨_, rfl, dpAll_append (dpAll_mono g.f _ _ h4) d1⟩ rfl)
/-! ### xs[j] op= e of a list of one's own -/
def rGetL : V → V → Hp → VK → Prop := fun o i H Q => ∃ p xs k z, o = .ref p ∧ i = .int k ∧ H p = some (.lst xs) ∧ atI xs k = some z ∧ Q z H
theorem get_listL {X : Cx} : PGet X rGetL := by
  intro pins s σ H o i ov iv Q I ro ri h
  obtain ⟨p, xs, i, z, rfl, rfl, hp, he, q⟩ := h
  cases ro
  obtain ⟨t, rfl⟩ := ri
  obtain ⟨its, r, pl, hz⟩ := I.list (.inl (.inl hp))
  obtain ⟨j, h1, h2, h3, h4, h5⟩ := atI_get he
  obtain ⟨w, ew, rw'⟩ := r.get h2
  have hl := r.length
  have hn := line63
  have fin : EP X pins σ Q w s := ⟨z, H, I, rw', q⟩
  by_cases h0 : 0 ≤ i
  · have hj : i.toNat = j := by
      rw [seqIndex_of h0 h5] at h1
      exact Option.some.inj h1
    exact wpAny_getItem_list pl.isList h0 (by omega) (by rw [hj]; simpa using ew) fin
  · have hj : (i + (its.toArray.size : Int)).toNat = j := by
      rw [seqIndex_neg (by omega) h4] at h1
      rw [List.size_toArray, ← hl]
      exact Option.some.inj h1
    exact wpAny_getItem_list_neg pl.isList (by omega) (by rw [List.size_toArray] <;> omega) (by omega) (by rw [hj]; simpa using ew) fin
theorem S1_augL (i : Nat) {x : Str} {ds : List D} {ix : Expr} {op : Operator} {pos' tpos spos : Pos} (hsl : sp[i]? = some (.l ds)) (h : E c ix sp fun g => ∃ (n : Int) (j : Nat) (d : D), g = .int n ∧ ixN ds.length n = some j ∧ ds[j]? = some d ∧ E c e sp fun d2 => OpP c (inplaceOp op) d d2 fun z => P.nx (sp.set i (.l (ds.set j z)))) (hi : c.N[i]? = some x := by rfl)
    (hv : Vis c.sc x := by first | exact Or.inl rfl | exact Or.inr (Or.inl rfl) | exact Or.inr (Or.inr rfl)) (hd : (x == ("__debug__" : Str)) = false := by decide) (hcd : (x == ("__classdict__" : Str)) = false := by decide)
    (ha : ∀ ov iv new, augStore ix ov iv new = (do
      holding [new, ov, iv] (setItem ov iv new)
      release [new, ov, iv] []
      pure .next) := by intro _ _ _; rfl) :
    S1 c (.AugAssign (.Subscript (.Name x pos') ix tpos) op e spos) sp P := Sealed.of fun X hX G F0 F H σ r D0 k => by
  obtain ⟨y, hy, ok⟩ := r.slot hsl
  obtain ⟨l, o, rfl, h1, h2, h3, vs, rfl, h4⟩ := (slOk_own rfl).mp ok
  have hv' : PE X (.Name x pos') (tVar i) := pe_var (i := i) (by rw [hX.N]; exact hi) (by rw [hX.sc]; exact hv) hd hcd
  have hip : PIp X op (rS X (inplaceOp op)) := fun pins s σ H x y v u Q I rx ry h => h pins s σ v u I rx ry
  refine PS_t (ps_augS hv' pe_tE get_listL pe_tE hip set_list ha) ?_
  refine ⟨.ref l, hy, ?_⟩
  refine h X hX G F0 F H σ r _ fun g v F1 H1 q g1 d1 => ?_
  obtain ⟨n, j, d, rfl, hj, hd0, q⟩ := q
  cases dp_int d1
  have hl := g1.h _ _ h1
  obtain ⟨z, ez, dz⟩ := dpAll_at h4 (show atI ds n = some d by unfold atI; rw [hj]; exact hd0)
  refine ⟨l, vs, n, z, rfl, rfl, hl, ez, ?_⟩
  refine Sealed.run q X hX G F0 F1 H1 σ (r.grow g1) _ fun d2 u F2 H2 q2 g2 dd2 => ?_
  refine q2 X hX F2 H2 z u _ g2.fh (dp_mono (g1.f.trans g2.f) _ _ dz) dd2 fun zz w F3 H3 q3 g3 d3 => ?_
  have hl3 := g3.h _ _ (g2.h _ _ hl)
  refine ⟨l, vs, n, j, rfl, rfl, hl3, by rw [dpAll_len h4]; exact hj, ?_⟩
  exact k.nx _ F3 _ σ q3 ((((r.grow g1).grow g2).grow g3).upd_o i hsl rfl hy ⟨_, rfl, dpAll_set j (dpAll_mono ((g1.f.trans g2.f).trans g3.f) _ _ h4) d3⟩ rfl)
end
end Pl
set_option Elab.async false
set_option linter.all false
set_option maxRecDepth 100000
set_option maxHeartbeats 4000000
set_option autoImplicit false
namespace Pl
open PySem PySem.Spec PyProof.Rows L2
/-! ### d.get(k), d.get(k, x) -/
theorem paired_get1 {κ : Type} [DecidableEq κ] {K : PySem.W.Frag} {F : Hp} {ws : List (κ × V)} {kvs : List (κ × D)} {k : κ} (h : PairedD K F ws kvs) : Dp K F ((valV ws k).getD .non) ((getK kvs k).getD .none) := by
  rcases paired_get (k := k) h with ⟨z1, z2⟩ | ⟨v, d, z1, z2, z3⟩
  · rw [z1, z2]; exact .non
  · rw [z1, z2]; exact z3
theorem paired_get2 {κ : Type} [DecidableEq κ] {K : PySem.W.Frag} {F : Hp} {ws : List (κ × V)} {kvs : List (κ × D)} {k : κ} {x : V} {d : D} (h : PairedD K F ws kvs) (hx : Dp K F x d) : Dp K F ((valV ws k).getD x) ((getK kvs k).getD d) := by
  rcases paired_get (k := k) h with ⟨z1, z2⟩ | ⟨v, d, z1, z2, z3⟩
  · rw [z1, z2]; exact hx
  · rw [z1, z2]; exact z3
section
variable {c : Cc} {sp : List Sl} {P : Pn} {Q : D → Prop} {e a b : Expr} {pos p px apos cpos : Pos} {x : Str}
theorem E_kGet1 (h : E c a sp fun d => ∃ kvs : List (Key × D), d = dkD kvs ∧ E c e sp fun g => ∃ k : Key, g = keyD k ∧ Q ((getK kvs k).getD .none))
    (hb : ∀ env, attributeBase a "get" env (eval a env) = eval a env := by intro _; rfl)
    (hfew : ∀ env, ((backTo cpos (starEach [e] env)).all (fun x => !x.1) && (backToKw cpos (keywordEach [] env)).all (fun x => x.1.isSome) && decide ([e].length + ([] : List Keyword).length + (if ([] : List Keyword).isEmpty then 0 else 1) < 30)) = true := by intro _; rfl)
    (hline : (apos.endLine == cpos.line) = true := by rfl) (hst : ∀ env, backTo cpos (starEach [e] env) = [(false, eval e env)] := by intro _; rfl) : E c (.Call (.Attribute a "get" apos) [e] [] cpos) sp Q := Sealed.of fun X hX G F0 F H σ r R k => by
  refine PE_tE (pe_dget1 hX.u1 pe_tE pe_tE ⟨hb _, hfew _, hline, hst _⟩) ?_
  refine h X hX G F0 F H σ r _ fun d v F1 H1 q g1 d1 => ?_
  obtain ⟨kvs, rfl, q⟩ := q
  obtain ⟨l, ws, rfl, h1, h4⟩ := dp_dkD d1
  refine ⟨l, rfl, .inl ⟨ws, .inl (g1.fh _ _ h1)⟩, ?_⟩
  refine Sealed.run q X hX G F0 F1 H1 σ (r.grow g1) _ fun d v F2 H2 q g2 d2 => ?_
  obtain ⟨kk, rfl, q⟩ := q
  cases key_of d2
  exact ⟨valV ws kk, DGet.k (g2.fh _ _ (g2.f _ _ h1)), k _ _ F2 H2 q (g1.trans g2) (paired_get1 (pairedD_mono g2.f h4))⟩
theorem E_kGet2 (h : E c a sp fun d => ∃ kvs : List (Key × D), d = dkD kvs ∧ E c e sp fun g => ∃ k : Key, g = keyD k ∧ E c b sp fun z => Q ((getK kvs k).getD z))
    (hb : ∀ env, attributeBase a "get" env (eval a env) = eval a env := by intro _; rfl)
    (hfew : ∀ env, ((backTo cpos (starEach [e, b] env)).all (fun x => !x.1) && (backToKw cpos (keywordEach [] env)).all (fun x => x.1.isSome) && decide ([e, b].length + ([] : List Keyword).length + (if ([] : List Keyword).isEmpty then 0 else 1) < 30)) = true := by intro _; rfl)
    (hline : (apos.endLine == cpos.line) = true := by rfl) (hst : ∀ env, backTo cpos (starEach [e, b] env) = [(false, eval e env), (false, eval b env)] := by intro _; rfl) : E c (.Call (.Attribute a "get" apos) [e, b] [] cpos) sp Q := Sealed.of fun X hX G F0 F H σ r R k => by
  refine PE_tE (pe_dget2 hX.u1 pe_tE pe_tE pe_tE ⟨hb _, hfew _, hline, hst _⟩) ?_
  refine h X hX G F0 F H σ r _ fun d v F1 H1 q g1 d1 => ?_
  obtain ⟨kvs, rfl, q⟩ := q
  obtain ⟨l, ws, rfl, h1, h4⟩ := dp_dkD d1
  refine ⟨l, rfl, .inl ⟨ws, .inl (g1.fh _ _ h1)⟩, ?_⟩
  refine Sealed.run q X hX G F0 F1 H1 σ (r.grow g1) _ fun d v F2 H2 q g2 d2 => ?_
  obtain ⟨kk, rfl, q⟩ := q
  cases key_of d2
  refine Sealed.run q X hX G F0 F2 H2 σ ((r.grow g1).grow g2) _ fun d v F3 H3 q g3 d3 => ?_
  exact ⟨valV ws kk, DGet.k (g3.fh _ _ (g3.f _ _ (g2.f _ _ h1))), k _ _ F3 H3 q ((g1.trans g2).trans g3) (paired_get2 (pairedD_mono (g2.f.trans g3.f) h4) d3)⟩
theorem E_dkGet1 (i : Nat) {kvs : List (Key × D)} (hsl : sp[i]? = some (.dk kvs)) (h : E c e sp fun g => ∃ k : Key, g = keyD k ∧ Q ((getK kvs k).getD .none)) (hi : c.N[i]? = some x := by rfl) (hv : Vis c.sc x := by first | exact Or.inl rfl | exact Or.inr (Or.inl rfl) | exact Or.inr (Or.inr rfl))
    (hd : (x == ("__debug__" : Str)) = false := by decide) (hcd : (x == ("__classdict__" : Str)) = false := by decide)
    (hb : ∀ env, attributeBase (.Name x px) "get" env (eval (.Name x px) env) = eval (.Name x px) env := by intro _; rfl)
    (hfew : ∀ env, ((backTo cpos (starEach [e] env)).all (fun x => !x.1) && (backToKw cpos (keywordEach [] env)).all (fun x => x.1.isSome) && decide ([e].length + ([] : List Keyword).length + (if ([] : List Keyword).isEmpty then 0 else 1) < 30)) = true := by intro _; rfl)
    (hline : (apos.endLine == cpos.line) = true := by rfl) (hst : ∀ env, backTo cpos (starEach [e] env) = [(false, eval e env)] := by intro _; rfl) : E c (.Call (.Attribute (.Name x px) "get" apos) [e] [] cpos) sp Q := Sealed.of fun X hX G F0 F H σ r R k => by
  refine PE_tE (pe_dget1 hX.u1 (pe_var (i := i) (by rw [hX.N]; exact hi) (by rw [hX.sc]; exact hv) hd hcd) pe_tE ⟨hb _, hfew _, hline, hst _⟩) ?_
  obtain ⟨l, ws, hy, h1, h4⟩ := dk_at (X := X) r hsl
  refine ⟨.ref l, hy, l, rfl, .inl ⟨ws, .inl h1⟩, ?_⟩
  refine h X hX G F0 F H σ r _ fun d v F2 H2 q g2 d2 => ?_
  obtain ⟨kk, rfl, q⟩ := q
  cases key_of d2
  exact ⟨valV ws kk, DGet.k (g2.h _ _ h1), k _ _ F2 H2 q g2 (paired_get1 (pairedD_mono g2.f h4))⟩
theorem E_dkGet2 (i : Nat) {kvs : List (Key × D)} (hsl : sp[i]? = some (.dk kvs)) (h : E c e sp fun g => ∃ k : Key, g = keyD k ∧ E c b sp fun z => Q ((getK kvs k).getD z)) (hi : c.N[i]? = some x := by rfl) (hv : Vis c.sc x := by first | exact Or.inl rfl | exact Or.inr (Or.inl rfl) | exact Or.inr (Or.inr rfl))
    (hd : (x == ("__debug__" : Str)) = false := by decide) (hcd : (x == ("__classdict__" : Str)) = false := by decide)
    (hb : ∀ env, attributeBase (.Name x px) "get" env (eval (.Name x px) env) = eval (.Name x px) env := by intro _; rfl)
    (hfew : ∀ env, ((backTo cpos (starEach [e, b] env)).all (fun x => !x.1) && (backToKw cpos (keywordEach [] env)).all (fun x => x.1.isSome) && decide ([e, b].length + ([] : List Keyword).length + (if ([] : List Keyword).isEmpty then 0 else 1) < 30)) = true := by intro _; rfl)
    (hline : (apos.endLine == cpos.line) = true := by rfl) (hst : ∀ env, backTo cpos (starEach [e, b] env) = [(false, eval e env), (false, eval b env)] := by intro _; rfl) : E c (.Call (.Attribute (.Name x px) "get" apos) [e, b] [] cpos) sp Q := Sealed.of fun X hX G F0 F H σ r R k => by
  refine PE_tE (pe_dget2 hX.u1 (pe_var (i := i) (by rw [hX.N]; exact hi) (by rw [hX.sc]; exact hv) hd hcd) pe_tE pe_tE ⟨hb _, hfew _, hline, hst _⟩) ?_
  obtain ⟨l, ws, hy, h1, h4⟩ := dk_at (X := X) r hsl
  refine ⟨.ref l, hy, l, rfl, .inl ⟨ws, .inl h1⟩, ?_⟩
  refine h X hX G F0 F H σ r _ fun d v F2 H2 q g2 d2 => ?_
  obtain ⟨kk, rfl, q⟩ := q
  cases key_of d2
  refine Sealed.run q X hX G F0 F2 H2 σ (r.grow g2) _ fun d v F3 H3 q g3 d3 => ?_
  exact ⟨valV ws kk, DGet.k (g3.h _ _ (g2.h _ _ h1)), k _ _ F3 H3 q (g2.trans g3) (paired_get2 (pairedD_mono (g2.f.trans g3.f) h4) d3)⟩
end
end Pl
set_option Elab.async false
set_option linter.all false
set_option maxRecDepth 100000
set_option maxHeartbeats 4000000
set_option autoImplicit false
namespace Pl
open PySem PySem.Spec PyProof.Rows L2
/-! ### sorted of a list of texts, any number of them -/
theorem dpAll_of_strs {K : PySem.W.Frag} {F : Hp} : ∀ (ns : List Str), DpAll K F (ns.map V.str) (ns.map PyData.str)
  | [] => .nil
  | n :: ns => .cons (.str n) (dpAll_of_strs ns)
section
variable {X : Cx}
def rSortedSA (K : PySem.W.Frag) : List V → Hp → VK → Prop := fun vs H Q => ∃ (a : Addr) (xs : List Str), vs = [V.ref a] ∧ SqL K H a (xs.map V.str) ∧
  ∀ (ys : List Str) (p : Addr), ys.Perm xs → sortedS ys = true → H p = none → Q (.ref p) (upd H p (.lst (ys.map V.str)))
theorem cr_sortedSA : CallR X (.builtin "sorted") (rSortedSA X.K) := by
  intro pins s σ H vs us Q I r h
  obtain ⟨a, xs, rfl, hs, q⟩ := h
  obtain ⟨its, rv, hl, hz⟩ := I.list hs
  rw [Vals.ref1 r]
  have hlen0 := rv.length
  rw [List.length_map] at hlen0
  refine PyProof.Rows.sorted_strsAny hl.isList rv.strs (by rw [← rv.length]; exact hz) fun out ys h1 h2 h3 => ?_
  obtain ⟨ep, he'⟩ := PyProof.Rows.sortedAll_at s.heap its out
  have hlen : (ys.map V.str).length ≤ sizeLine := by
    rw [List.length_map, h2.length_eq]
    rw [List.length_map] at hz
    exact hz
  exact ⟨.ref _, upd H (s.heap.objs.size + 1) (.lst (ys.map V.str)), I.laid (t' := s.toks) (fun _ _ => PyProof.Rows.sortedAll_old) (Nat.le_succ _) ⟨hlen, out.toList, ep, vals_of_strs h1, he'⟩, rfl, q ys _ h2 h3 (I.hok.fresh (Nat.le_succ _))⟩
end
section
variable {c : Cc} {Q : D → Prop}
theorem cp_sortedS {xs : List Str} (q : ∀ ys : List Str, ys.Perm xs → sortedS ys = true → Q (.list (ys.map .str))) : CallP c (.builtin "sorted") [.list (xs.map .str)] Q := .of fun X hX => ⟨_, cr_sortedSA, fun F H xs' R s h k => by
  obtain ⟨v, rfl, z⟩ := dp1 h
  obtain ⟨l, vs, rfl, h1, h2⟩ := dp_list z
  cases dpAll_strs h2
  rw [hX.K]
  refine ⟨l, xs, rfl, s.seq h1, fun ys p h3 h4 hp => ?_⟩
  have g := Grow.new_ (o := .lst (ys.map V.str)) s hp
  exact k _ _ _ _ (q ys h3 h4) g (.lst (.inl (.inl upd_same)) (dpAll_of_strs _))⟩
/-! the order of texts of 0 and 1 -/
def leB : List Bool → List Bool → Bool
  | [], _ => true
  | _ :: _, [] => false
  | a :: x, b :: y => if a = b then leB x y else b
theorem lt_cb : ∀ x y : List Bool, ltCps (y.map cb) (x.map cb) = !leB x y
  | [], [] => rfl
  | [], _ :: _ => rfl
  | _ :: _, [] => rfl
  | a :: x, b :: y => by
    have ih := lt_cb x y
    cases a <;> cases b <;> simp_all [leB, ltCps, cb]
theorem leB_refl : ∀ x : List Bool, leB x x = true
  | [] => rfl
  | a :: x => by unfold leB; rw [if_pos rfl]; exact leB_refl x
theorem leB_anti : ∀ {x y : List Bool}, leB x y = true → leB y x = true → x = y
  | [], [], _, _ => rfl
  | [], _ :: _, _, h => by cases h
  | _ :: _, [], h, _ => by cases h
  | a :: x, b :: y, h1, h2 => by
    unfold leB at h1 h2
    by_cases e : a = b
    · rw [if_pos e] at h1
      rw [if_pos e.symm] at h2
      rw [e, leB_anti h1 h2]
    · rw [if_neg e] at h1
      rw [if_neg (Ne.symm e)] at h2
      exact absurd (h2.trans h1.symm) e
theorem leB_trans : ∀ {x y z : List Bool}, leB x y = true → leB y z = true → leB x z = true
  | [], _, _, _, _ => rfl
  | _ :: _, [], _, h, _ => by cases h
  | _ :: _, _ :: _, [], _, h => by cases h
  | a :: x, b :: y, d :: z, h1, h2 => by
    unfold leB at h1 h2 ⊢
    cases a <;> cases b <;> cases d <;> simp_all <;> exact leB_trans h1 h2
theorem leB_total : ∀ x y : List Bool, leB x y = true ∨ leB y x = true
  | [], _ => .inl rfl
  | _ :: _, [] => .inr rfl
  | a :: x, b :: y => by
    unfold leB
    cases a <;> cases b <;> simp [leB_total x y]
theorem rising_pw : ∀ (xs : List (List Bool)) (p : List Bool), risingS (bt p) (xs.map bt) = true → (p :: xs).Pairwise fun a b => leB a b = true
  | [], p, _ => List.pairwise_singleton _ _
  | x :: r, p, h => by
    have h' : (!ltCps (x.map cb) (p.map cb) && risingS (bt x) (r.map bt)) = true := h
    rw [Bool.and_eq_true, lt_cb, Bool.not_not] at h'
    have ih := rising_pw r x h'.2
    refine List.pairwise_cons.mpr ⟨fun y hy => ?_, ih⟩
    rcases List.mem_cons.mp hy with rfl | hy
    · exact h'.1
    · exact leB_trans h'.1 ((List.pairwise_cons.mp ih).1 y hy)
theorem sorted_pw {xs : List (List Bool)} (h : sortedS (xs.map bt) = true) : xs.Pairwise fun a b => leB a b = true := by
  cases xs with
  | nil => exact .nil
  | cons x r => exact rising_pw r x h
theorem pw_uniq : ∀ {xs ys : List (List Bool)}, xs.Perm ys → (xs.Pairwise fun a b => leB a b = true) → (ys.Pairwise fun a b => leB a b = true) → xs = ys
  | [], ys, h, _, _ => (List.Perm.eq_nil h.symm).symm
  | x :: xs, [], h, _, _ => absurd h.length_eq (by simp)
  | x :: xs, y :: ys, h, h1, h2 => by
    have a1 := List.pairwise_cons.mp h1
    have a2 := List.pairwise_cons.mp h2
    have e : x = y := by
      have m1 : x ∈ y :: ys := h.mem_iff.mp (.head _)
      have m2 : y ∈ x :: xs := h.mem_iff.mpr (.head _)
      rcases List.mem_cons.mp m1 with e | m1
      · exact e
      rcases List.mem_cons.mp m2 with e | m2
      · exact e.symm
      exact leB_anti (a1.1 y m2) (a2.1 x m1)
    subst e
    rw [pw_uniq h.cons_inv a1.2 a2.2]
/-- sorted(texts of 0 and 1): it gives the one list in order -/
theorem cp_sortedB {ls zs : List (List Bool)} (hp : zs.Perm ls) (hz : zs.Pairwise fun a b => leB a b = true) (q : Q (.list (zs.map fun l => .str (bt l)))) : CallP c (.builtin "sorted") [.list (ls.map fun l => .str (bt l))] Q := by
  rw [show (ls.map fun l => PyData.str (bt l)) = (ls.map bt).map .str from by rw [List.map_map]; rfl]
  refine cp_sortedS fun ys h1 h2 => ?_
  obtain ⟨ls', e1, e2⟩ := perm_lift h1 ls rfl
  rw [← e2] at h2
  have := pw_uniq (e1.trans hp.symm) (sorted_pw h2) hz
  rw [← e2, this, List.map_map]
  exact q
end
end Pl
set_option Elab.async false
set_option linter.all false
set_option maxRecDepth 100000
set_option maxHeartbeats 4000000
set_option autoImplicit false
namespace Pl
open PySem PySem.Spec PyProof.Rows L2
/-! ### s.index(one sign) -/
theorem occ_full (x : Str) (c : Nat) : ∀ (m a : Nat) (found : Array Nat) (free : Nat), 1 ≤ found.size →
    (forIn (List.range' a m) (found, free) (PySem.StrLaws.occBody x ⟨#[c]⟩ x.length 1)).run.fst = found
  | 0, a, found, free, _ => rfl
  | m + 1, a, found, free, h => by
    rw [List.range'_succ, List.forIn_cons]
    unfold PySem.StrLaws.occBody
    rw [if_neg (fun z => by have : found.size < 1 := z.1.1.1; omega)]
    exact occ_full x c m (a + 1) found free h
theorem occ_first (x : Str) (c j : Nat) (hj : x.cps.toList[j]? = some c) (hno : ∀ i, i < j → x.cps.toList[i]? ≠ some c) : ∀ (m a free : Nat), free ≤ a → a ≤ j → a + m = x.length + 1 →
    (forIn (List.range' a m) (#[], free) (PySem.StrLaws.occBody x ⟨#[c]⟩ x.length 1)).run.fst = #[j]
  | 0, a, free, _, h2, h3 => by
    have hlen : x.cps.toList.length = x.length := by rw [Array.length_toList]; rfl
    have := (List.getElem?_eq_some_iff.mp hj).1
    omega
  | m + 1, a, free, h1, h2, h3 => by
    rw [List.range'_succ, List.forIn_cons]
    unfold PySem.StrLaws.occBody
    have key := PySem.StrLaws.subAt_one x c a
    by_cases e : a = j
    · subst e
      obtain ⟨k1, k2⟩ := key.mpr hj
      rw [if_pos ⟨⟨⟨by show 0 < 1; omega, h1⟩, k1⟩, k2⟩]
      exact occ_full x c m (a + 1) (#[].push a) _ (by simp)
    · rw [if_neg (fun z => hno a (by omega) (key.mp ⟨z.1.2, z.2⟩))]
      exact occ_first x c j hj hno m (a + 1) free (by omega) (by omega) (by omega)
theorem occ_one {x : Str} {c j : Nat} (hj : x.cps.toList[j]? = some c) (hno : ∀ i, i < j → x.cps.toList[i]? ≠ some c) : Builtin.Str.occurrences x ⟨#[c]⟩ 0 x.length 1 = [j] := by
  rw [PySem.StrLaws.occ_eq]
  have := occ_first x c j hj hno (x.length + 1 - 0) 0 0 (Nat.le_refl _) (Nat.zero_le _) (by omega)
  rw [this]
section
variable {c : Cc} {sp : List Sl} {Q : D → Prop} {e a : Expr} {p pos apos : Pos} {QL : List D → Prop}
theorem E_strIndex (h : E c e sp fun d => ∃ x : Str, d = .str x ∧ E c a sp fun g => ∃ cp j : Nat, g = .str ⟨#[cp]⟩ ∧ x.cps.toList[j]? = some cp ∧ (∀ i, i < j → x.cps.toList[i]? ≠ some cp) ∧ Q (.int (j : Int)))
    (hbase : ∀ env, attributeBase e "index" env (eval e env) = eval e env := by intro _; rfl)
    (hfew : ∀ env, ((backTo pos (starEach [a] env)).all (fun x => !x.1) && (backToKw pos (keywordEach [] env)).all (fun x => x.1.isSome)
      && decide ([a].length + ([] : List Keyword).length + (if ([] : List Keyword).isEmpty then 0 else 1) < 30)) = true := by intro _; rfl)
    (hline : (apos.endLine == pos.line) = true := by rfl) (hs : ∀ env, starEach [a] env = (false, eval a env) :: starEach [] env := by intro _; rfl) (hplain : ∀ env, (backTo pos (starEach [] env)).any (·.1) = false := by intro _; rfl) :
    E c (.Call (.Attribute e "index" apos) [a] [] pos) sp Q := Sealed.of fun X hX G F0 F H σ r R k => by
  refine PE_tE (pe_bm PySem.F.plainAttrs_str PySem.F.slot_str_index PySem.F.type_str_index mt_sindex pe_tE (pa_cons pe_tE pa_nil (hs _)) (hbase _) (hfew _) hline (hs _) (hplain _)) ?_
  refine h X hX G F0 F H σ r _ fun d v F1 H1 q g1 d1 => ?_
  obtain ⟨x, rfl, q⟩ := q
  cases d1
  refine ⟨rfl, q X hX G F0 F1 H1 σ (r.grow g1) _ fun g u F2 H2 q2 g2 d2 => ?_⟩
  obtain ⟨cp, j, rfl, h1, h2, q2⟩ := q2
  cases d2
  exact ⟨x, _, j, [], rfl, rfl, occ_one h1 h2, k _ _ F2 H2 q2 (g1.trans g2) (.int _)⟩
end
/-! ### texts of 0 and 1, put shortly -/
section
variable {c : Cc} {Q : D → Prop}
theorem bt_small {l : List Bool} (h : l.length ≤ 100000) : (bt l).length ≤ sizeLine := by rw [bt_len]; exact small_le (by omega)
theorem ixp_bt {l : List Bool} {j : Int} (h0 : 0 ≤ j) (h1 : j < l.length) (hl : l.length ≤ 100000) (q : Q (ch (l.getD j.toNat false))) : IxP c (.str (bt l)) (.int j) Q :=
  ixp_str (bt_small hl) (at_bt h0 h1) (by rw [bt_one]; exact q)
theorem cp_lenB {l : List Bool} (hl : l.length ≤ 100000) (q : Q (.int l.length)) : CallP c (.builtin "len") [.str (bt l)] Q := cp_lenS (bt_small hl) (by rw [bt_len]; exact q)
theorem opp_eqBt {a b : List Bool} (q : Q (.bool (decide (a = b)))) : OpP c (compareOp .Eq) (.str (bt a)) (.str (bt b)) Q := opp_eqS (by rw [bt_eq]; exact q)
theorem opp_neBt {a b : List Bool} (q : Q (.bool (!decide (a = b)))) : OpP c (compareOp .NotEq) (.str (bt a)) (.str (bt b)) Q := opp_neS (by rw [bt_eq]; exact q)
theorem opp_eqch {a b : Bool} (q : Q (.bool (a == b))) : OpP c (compareOp .Eq) (ch a) (ch b) Q := opp_eqBt (by
  rw [show decide ([a] = [b]) = (a == b) from by cases a <;> cases b <;> rfl]; exact q)
theorem opp_eqc1 {a : Bool} (q : Q (.bool a)) : OpP c (compareOp .Eq) (ch a) (.str ("1" : Str)) Q := by
  rw [lit1]
  exact opp_eqBt (by rw [show decide ([a] = [true]) = a from by cases a <;> rfl]; exact q)
theorem opp_eqc0 {a : Bool} (q : Q (.bool (!a))) : OpP c (compareOp .Eq) (ch a) (.str ("0" : Str)) Q := by
  rw [lit0]
  exact opp_eqBt (by rw [show decide ([a] = [false]) = !a from by cases a <;> rfl]; exact q)
theorem sub1 (l : List Bool) : subB (bt [true]) (bt l) = decide (true ∈ l) := by
  rw [Bool.eq_iff_iff, bt_sub, decide_eq_true_iff]
  constructor
  · rintro ⟨i, _, h2⟩
    have : true ∈ (l.drop i).take 1 := by rw [show [true].length = 1 from rfl] at h2; rw [h2]; exact .head _
    exact List.mem_of_mem_drop (List.mem_of_mem_take this)
  · intro h
    obtain ⟨i, hi, e⟩ := List.getElem_of_mem h
    refine ⟨i, by show i + 1 ≤ _; omega, ?_⟩
    show (l.drop i).take 1 = [true]
    rw [List.drop_eq_getElem_cons hi, e]; rfl
theorem opp_in1 {l : List Bool} (q : Q (.bool (decide (true ∈ l)))) : OpP c (compareOp .In) (.str ("1" : Str)) (.str (bt l)) Q := by
  rw [lit1]
  exact opp_inS (by rw [sub1]; exact q)
theorem opp_nin1 {l : List Bool} (q : Q (.bool (!decide (true ∈ l)))) : OpP c (compareOp .NotIn) (.str ("1" : Str)) (.str (bt l)) Q := by
  rw [lit1]
  exact opp_ninS (by rw [sub1]; exact q)
theorem opp_catBt {a b : List Bool} (h : a.length + b.length ≤ 100000) (q : Q (.str (bt (a ++ b)))) : OpP c (binaryOp .Add) (.str (bt a)) (.str (bt b)) Q := opp_catS (by rw [bt_len, bt_len]; exact small_le (by omega)) (by rw [bt_app]; exact q)
theorem opp_cat1 {a : List Bool} (h : a.length ≤ 1000) (q : Q (.str (bt (a ++ [true])))) : OpP c (binaryOp .Add) (.str (bt a)) (.str ("1" : Str)) Q := by
  rw [lit1]; exact opp_catBt (by show _ + 1 ≤ _; omega) q
theorem opp_cat0 {a : List Bool} (h : a.length ≤ 1000) (q : Q (.str (bt (a ++ [false])))) : OpP c (binaryOp .Add) (.str (bt a)) (.str ("0" : Str)) Q := by
  rw [lit0]; exact opp_catBt (by show _ + 1 ≤ _; omega) q
theorem ipp_cat1 {a : List Bool} (h : a.length ≤ 1000) (q : Q (.str (bt (a ++ [true])))) : OpP c (inplaceOp .Add) (.str (bt a)) (.str ("1" : Str)) Q := by
  rw [lit1]; exact ipp_addS (by rw [bt_len, bt_len]; exact small_le (by show _ + 1 ≤ _; omega)) (by rw [bt_app]; exact q)
theorem ipp_cat0 {a : List Bool} (h : a.length ≤ 1000) (q : Q (.str (bt (a ++ [false])))) : OpP c (inplaceOp .Add) (.str (bt a)) (.str ("0" : Str)) Q := by
  rw [lit0]; exact ipp_addS (by rw [bt_len, bt_len]; exact small_le (by show _ + 1 ≤ _; omega)) (by rw [bt_app]; exact q)
theorem bt_repc (k : Nat) (b : Bool) : (⟨(List.replicate k (bt [b]).cps.toList).flatten.toArray⟩ : Str) = bt (List.replicate k b) := by
  unfold bt
  congr 2
  induction k with
  | zero => rfl
  | succ k ih => rw [List.replicate_succ, List.flatten_cons, ih]; rfl
theorem opp_rep0 {k : Int} (h0 : 0 ≤ k) (h1 : k ≤ 1000) (q : Q (.str (bt (List.replicate k.toNat false)))) : OpP c (binaryOp .Mult) (.str ("0" : Str)) (.int k) Q := by
  rw [lit0]
  exact opp_repS (by rw [bt_len]; decide) (by omega) (by omega) (by rw [bt_len]; decide) (by rw [bt_repc]; exact q)
theorem opp_rep1 {k : Int} (h0 : 0 ≤ k) (h1 : k ≤ 1000) (q : Q (.str (bt (List.replicate k.toNat true)))) : OpP c (binaryOp .Mult) (.str ("1" : Str)) (.int k) Q := by
  rw [lit1]
  exact opp_repS (by rw [bt_len]; decide) (by omega) (by omega) (by rw [bt_len]; decide) (by rw [bt_repc]; exact q)
/-- one sign in ('0', '1') -/
def is01 (x : Nat) : Bool := decide (x = 48) || decide (x = 49)
theorem opp_in01 {x : Nat} (hx : x < 128) (q : Q (.bool (is01 x))) : OpP c (compareOp .In) (.str ⟨#[x]⟩) (.tuple [.str ("0" : Str), .str ("1" : Str)]) Q := by
  refine opp_inDT (by simp [SeqAt.shaped, PyData.canLay0, PyData.depth, PyData.strOk]; omega) (by rw [lit0c, lit1c]; simp [SeqAt.shaped, PyData.canLay0, PyData.canLayAll0, PyData.depth, PyData.depthAll, PyData.strOk]) ?_
  have : ([PyData.str ("0" : Str), PyData.str ("1" : Str)].any fun z => PyData.eqv z (.str ⟨#[x]⟩)) = is01 x := by
    rw [lit0c, lit1c]
    have e : ∀ a b : Nat, PyData.eqv (.str ⟨#[a]⟩) (.str ⟨#[b]⟩) = decide (b = a) := fun a b => by
      show (((⟨#[a]⟩ : Str)) == (⟨#[b]⟩ : Str)) = _
      rw [Bool.eq_iff_iff, beq_iff_eq, decide_eq_true_iff]
      constructor
      · intro h; injection h with h; injection h with h; injection h with h; exact h.symm
      · rintro rfl; rfl
    show (PyData.eqv _ _ || (PyData.eqv _ _ || false)) = _
    rw [e, e, Bool.or_false]; rfl
  rw [this]; exact q
def isB (z : Str) : Bool := z.cps.toList.all is01
theorem bits_ex : ∀ {l : List Nat}, l.all is01 = true → ∃ b : List Bool, l = b.map cb
  | [], _ => ⟨[], rfl⟩
  | x :: l, h => by
    rw [List.all_cons, Bool.and_eq_true] at h
    obtain ⟨b, hb⟩ := bits_ex h.2
    have hx := h.1
    unfold is01 at hx
    rw [Bool.or_eq_true, decide_eq_true_iff, decide_eq_true_iff] at hx
    rcases hx with e | e
    · exact ⟨false :: b, by rw [e, hb]; rfl⟩
    · exact ⟨true :: b, by rw [e, hb]; rfl⟩
theorem isB_bt (l : List Bool) : isB (bt l) = true := by
  unfold isB
  rw [bt_codes, List.all_eq_true]
  intro x hx
  obtain ⟨b, _, rfl⟩ := List.mem_map.mp hx
  cases b <;> rfl
theorem isB_ex {z : Str} (h : isB z = true) : ∃ b, z = bt b := by
  obtain ⟨b, hb⟩ := bits_ex h
  refine ⟨b, ?_⟩
  cases z with
  | mk a =>
    unfold bt
    congr 1
    rw [← hb]
theorem signs_map (z : Str) : signsD z = z.cps.toList.map fun cp => PyData.str ⟨#[cp]⟩ := rfl
theorem str_len (z : Str) : z.cps.toList.length = z.length := by rw [Array.length_toList]; rfl
/-- where a sign stands first in a text of 0 and 1 -/
theorem bt_first {l : List Bool} (h : true ∈ l) : (bt l).cps.toList[l.idxOf true]? = some 49 ∧ ∀ i, i < l.idxOf true → (bt l).cps.toList[i]? ≠ some 49 := by
  have hl := List.idxOf_lt_length_iff.mpr h
  constructor
  · rw [bt_codes, List.getElem?_map, List.getElem?_eq_getElem hl, List.getElem_idxOf hl]; rfl
  · intro i hi e
    rw [bt_codes, List.getElem?_map, List.getElem?_eq_getElem (by omega)] at e
    have := List.not_of_lt_findIdx (p := (· == true)) (xs := l) hi
    have e : cb l[i] = 49 := Option.some.inj e
    cases hb : l[i]
    · rw [hb] at e; exact absurd e (by decide)
    · rw [hb] at this; cases this
end
end Pl
set_option Elab.async false
set_option linter.all false
set_option maxRecDepth 100000
set_option maxHeartbeats 4000000
set_option autoImplicit false
namespace Pl
open PySem PySem.Spec PyProof.Rows L2
/-! ### enumerate(text) -/
def IteS (x : Str) : It :=
  ⟨fun i _ => i < x.cps.size, fun i H v H' => ∃ T c, v = .ref T ∧ H T = none ∧ H' = upd H T (.tup [.int (i : Nat), .str ⟨#[c]⟩]) ∧ x.cps[i]? = some c, fun i _ => x.cps.size ≤ i⟩
theorem draws_str {prog : Program} {w : World} {A : Around} (hh : A.handled = none) (it : Addr) (x : Str) (t : Tok) :
    Draws prog w A it [it] x.cps.size (fun i v => ∃ c u, x.cps[i]? = some c ∧ v = .str ⟨#[c]⟩ u) (fun i h => h.IsStrIter it (strIterType x) x t i) := by
  unfold strIterType
  split
  · exact Draws.strAscii hh it x t
  · exact Draws.strWide hh it x t
theorem nextOf_str_end {prog : Program} {w : World} {A : Around} {s : Shared} {E : Value → Shared → Prop} {Q : Value → Shared → Prop} (hh : A.handled = none) {it : Addr} {x : Str} {t : Tok} {i : Nat} (hit : s.heap.IsStrIter it (strIterType x) x t i) (hx : x.cps[i]? = none)
    (hE : ∀ h' e, Heap.ExtBut it s.heap h' → (∃ o, h'.get? e = some o ∧ o.cls = .type "StopIteration") → E (.ref e) { s with heap := h' }) : wpAny (model prog w) A (Builtin.SmallTypes.nextOf (.ref it)) Q E s := by
  unfold strIterType at hit
  split at hit
  · exact wpAny_nextOf_ascii_end hh hit hx hE
  · exact wpAny_nextOf_wide_end hh hit hx hE
theorem turn_enumS {P : Program} {w : World} {K : PySem.W.Frag} {elts : List Expr} {kk : Nat} {tpos : Pos} (x : Str) (t : Tok) (e it : Addr) :
    Turn P w K (.Tuple elts kk tpos) (IteS x) [e, it] e (fun i h => (∃ old, IsEnum h e it ((i : Nat) : Int) old) ∧ h.IsStrIter it (strIterType x) x t i ∧ e ≠ it) where
  mem := by simp
  obj := fun i h st b hb => by
    obtain ⟨⟨old, he⟩, ⟨o, ho, hc, hd⟩, _⟩ := st
    have e' : b = e ∨ b = it := by simpa using hb
    rcases e' with z | z
    · rw [z]; exact ⟨_, he, fun v q => nomatch q⟩
    · rw [z]; exact ⟨o, ho, fun v q => by rw [hd] at q; cases q⟩
  keep := fun i h h' st k => by
    obtain ⟨⟨old, he⟩, ⟨o, ho, r⟩, hne⟩ := st
    exact ⟨⟨old, k e (by simp) _ he⟩, ⟨o, k it (by simp) o ho, r⟩, hne⟩
  item := by
    intro X hP hw hK hc i pins s σ H E I hf st hg
    subst hP hw hK
    obtain ⟨⟨old, he⟩, hit, hne⟩ := st
    have hel : e < s.heap.objs.size := Heap.lt_size he
    have hil : it < s.heap.objs.size := by obtain ⟨_, q, _⟩ := hit; exact Heap.lt_size q
    have hae : e ∉ [it] := fun z => hne (List.mem_singleton.mp z)
    refine wpAny_pyNext_enum_itemD (draws_str (A := X.A.in1) (I.ok.hd hc) it x t) he hit hg hne hae fun x2 h' tk hP ho hit' hT hsz hk => ?_
    obtain ⟨c, u, hcx, rfl⟩ := hP
    refine ⟨_, rfl, wpAny_letOwnedTupleGo_enum (s := { s with heap := h', toks := tk + 1 }) ho fun h'' he' sb => ?_⟩
    have hT2 : h''.get? s.heap.objs.size = some { cls := .type "tuple", data := .seq #[.int i tk, .str ⟨#[c]⟩ u] } := (sb.2 _ (Nat.ne_of_gt hel)).trans hT
    have new : ObjOk X.prog X.w (upd H s.heap.objs.size (.tup [.int (i : Nat), .str ⟨#[c]⟩])) h'' s.heap.objs.size (.tup [.int (i : Nat), .str ⟨#[c]⟩]) :=
      ⟨by show 2 ≤ sizeLine; decide, [.int i tk, .str ⟨#[c]⟩ u], .cons ⟨_, rfl⟩ (.cons ⟨_, rfl⟩ .nil), ⟨_, hT2, rfl, _, rfl⟩⟩
    have I1 : Inv X pins σ (upd H s.heap.objs.size (.tup [.int (i : Nat), .str ⟨#[c]⟩])) { s with heap := h'', toks := tk + 1 } :=
      I.turnedNew (ch := [e, it]) (fun b ob hb q => (sb.2 b (fun z => hb (by simp [z]))).trans (hk b ob (fun z => hb (by simp [z])) (fun z => hb (by simp [z])) q)) hf (Nat.le_refl _) new
    obtain ⟨o2, ho2, r2⟩ := hit'
    refine ⟨.ref s.heap.objs.size, _, I1, rfl, ⟨_, c, rfl, I.hok.fresh (Nat.le_refl _), rfl, hcx⟩, ⟨⟨.str ⟨#[c]⟩ u, ?_⟩, ⟨o2, (sb.2 it (Ne.symm hne)).trans ho2, r2⟩, hne⟩, fun b hb => ?_⟩
    · have e1 : ((i + 1 : Nat) : Int) = (i : Int) + 1 := by omega
      rw [e1]; exact he'
    · have hb' : b < s.heap.objs.size := by
        have e' : b = e ∨ b = it := by simpa using hb
        rcases e' with z | z
        · rw [z]; exact hel
        · rw [z]; exact hil
      rw [upd_ne (Nat.ne_of_lt hb')]
      exact (hf b hb).1
  done := by
    intro X hP hw hK hc i pins s σ H E I hf st hg
    subst hP hw hK
    obtain ⟨⟨old, he⟩, hit, hne⟩ := st
    obtain ⟨f0, f1, f2, f3, f4, f5⟩ := hf it (by simp)
    have hno : x.cps[i]? = none := Array.getElem?_eq_none hg
    have hT : s.TypeIs (.ref e) "enumerate" := ⟨_, he, rfl⟩
    unfold pyNext
    refine wpAny_bind (wpAny_attempt (wpAny_callSpecial?_slot (name := Str.ofString "__next__") hT F.slot_enumerate_next
      (wpAny_call_entry F.slot_enumerate_next hT F.entry_enumerate_next ?_ (F.args_enumerate_next_1 _))))
    show wpAny _ _ (field (.ref e) 2 >>= _) _ _ _
    refine wpAny_bind (wpAny_field he rfl (x := .ref it) rfl ?_)
    refine wpAny_bind (nextOf_str_end (A := X.A.in1) (I.ok.hd hc) hit hno fun h' x he' hx' => ?_)
    obtain ⟨o, ho, hc'⟩ := hx'
    refine wpAny_bind (wpAny_isInstance (T := "StopIteration") (b := true) ⟨o, ho, hc'⟩ isSubtype_stop ?_)
    exact wpAny_pure ⟨rfl, I.turned (t' := s.toks) (fun b o hb q => he' b o hb q) f0 f1 f3 f4 f5⟩
  self := fun A i s Q E st h => let ⟨⟨_, he⟩, _⟩ := st; wpAny_pyIter_enum he h
def iEnumS (ta : TA) : TI := fun σ H R => ta σ H fun vs H1 => ∃ x, vs = [.str x] ∧ R (IteS x) H1
theorem pi_enumS {X : Cx} {e : Expr} {ta : TA} {p pos tpos : Pos} {elts : List Expr} {kk : Nat} (hg : Gl X "enumerate") (hm : X.mg "enumerate" = none) (ha : PA X [e] ta) (hs : starEach [e] X.env = [(false, eval e X.env)] := by rfl) :
    PI X (.Tuple elts kk tpos) (.Call (.Name "enumerate" p) [e] [] pos) (iEnumS ta) := by
  refine ⟨fun pins s σ H R I h => ?_⟩
  refine Call_ (ld_blt I hg hm boot_enumerate (PyProof.Rows.callWith_type1 (thn (ha.run pos pins s σ H _ I h) fun us s1 ⟨vs, H1, I1, r1, q1⟩ => ?_) hs rfl))
  obtain ⟨x, ex, q⟩ := q1
  subst ex
  cases r1 with
  | cons r rr =>
    cases rr
    obtain ⟨t, rfl⟩ := r
    refine call_enumerate_str fun h' he hit hsz hk => wpAny_pyIter_enum he ?_
    have I2 : Inv X pins σ H1 { s1 with heap := h' } := I1.kept (t' := s1.toks) hk
    refine ⟨s1.heap.objs.size + 1, [s1.heap.objs.size + 1, s1.heap.objs.size], _, _, H1, rfl, I2, turn_enumS x t (s1.heap.objs.size + 1) s1.heap.objs.size, ⟨⟨.none, he⟩, hit, Nat.succ_ne_self _⟩, fun b hb => ?_, q⟩
    have e' : b = s1.heap.objs.size + 1 ∨ b = s1.heap.objs.size := by simpa using hb
    have hle : s1.heap.objs.size ≤ b := by
      rcases e' with z | z
      · rw [z]; exact Nat.le_add_right _ _
      · rw [z]; exact Nat.le_refl _
    exact I1.fpOk hle (I1.hok.fresh hle)
section
variable {c : Cc} {sp : List Sl} {e a b : Expr} {pos p : Pos}
theorem W_enumS {elts : List Expr} {kk : Nat} {tpos : Pos} {QL : List D → Prop} (h : E c e sp fun d => ∃ x, d = .str x ∧ QL (enumD (signsD x))) (hm : c.m.mg "enumerate" = none) (hg : GlS c.sc "enumerate" := by rfl) (hs : ∀ env, starEach [e] env = [(false, eval e env)] := by intro _; rfl) :
    W c (.Tuple elts kk tpos) (.Call (.Name "enumerate" p) [e] [] pos) sp QL := Sealed.of fun X hX G F0 F H σ r R k => by
  refine PI_tI (pi_enumS (hg.gl hX) (by rw [hX.mg]; exact hm) (pa_cons pe_tE pa_nil (hs _)) (hs _)) ?_
  refine h X hX G F0 F H σ r _ fun d v F1 H1 q g d1 => ?_
  obtain ⟨x, rfl, q⟩ := q
  cases d1
  refine ⟨x, rfl, k _ _ F1 H1 q g ⟨fun F' H' i d s1 s2 e => ?_, fun F' H' i s1 s2 e => ?_⟩⟩
  · unfold enumD signsD at e
    rw [List.getElem?_mapIdx, List.getElem?_map] at e
    cases hc : x.cps.toList[i]? with
    | none => rw [hc] at e; cases e
    | some cp =>
      rw [hc] at e
      have e' : PyData.tuple [.int (i : Int), .str ⟨#[cp]⟩] = d := Option.some.inj e
      subst e'
      have hi := (List.getElem?_eq_some_iff.mp hc).1
      refine ⟨(by simpa using hi : i < x.cps.size), fun y H'' q => ?_⟩
      obtain ⟨T, cp', rfl, hn, rfl, h1⟩ := q
      rw [← Array.getElem?_toList, hc] at h1
      cases h1
      have g3 := Grow.new_ (o := .tup [.int (i : Nat), .str ⟨#[cp]⟩]) s2 hn
      exact ⟨_, g3, .tup upd_same (.cons (.int _) (.cons (.str _) .nil))⟩
  · unfold enumD signsD at e
    rw [List.length_mapIdx, List.length_map] at e
    show x.cps.size ≤ i
    simpa using e
end
end Pl
set_option Elab.async false
set_option linter.all false
set_option maxRecDepth 100000
set_option maxHeartbeats 4000000
set_option autoImplicit false
namespace Pl
open PySem PySem.Spec PyProof.Rows L2
/-! ### zip(a tuple, a text) -/
def ItzTS (K : PySem.W.Frag) (a : Addr) (n1 : Nat) (x : Str) : It :=
  ⟨fun i H => ∃ (xs : List V) (v : V), SqT K H a xs ∧ xs.length = n1 ∧ xs[i]? = some v ∧ i < x.cps.size,
    fun i H v H' => ∃ T u c, v = .ref T ∧ H T = none ∧ H' = upd H T (.tup [u, .str ⟨#[c]⟩]) ∧ (∀ xs, SqT K H a xs → xs[i]? = some u) ∧ x.cps[i]? = some c,
    fun i H => ∃ xs : List V, SqT K H a xs ∧ xs.length = n1 ∧ (n1 ≤ i ∨ x.cps.size ≤ i)⟩
theorem turn_zipTS {P : Program} {w : World} {K : PySem.W.Frag} {elts : List Expr} {kk : Nat} {tpos : Pos} {a z TI TO i1 i2 : Addr} {n1 : Nat} {x : Str} {t : Tok} (D : ZipSep2 z TI TO i1 i2 [i1, a] [i2]) :
    Turn P w K (.Tuple elts kk tpos) (ItzTS K a n1 x) [z, TI, TO, i1, i2] z (fun i h => IsZip h z TI TO .none ∧ IsTupOf2 h TI (.ref i1) (.ref i2) ∧ (∃ p q, IsTupOf2 h TO p q) ∧ h.IsTupleIter i1 a i ∧ h.IsStrIter i2 (strIterType x) x t i ∧ i ≤ n1 ∧ i ≤ x.cps.size) where
  mem := by simp
  obj := fun i h st c hc => by
    obtain ⟨hz, hTI, ⟨p, q, hTO⟩, ⟨o1, e1, _, d1⟩, ⟨o2, e2, _, d2⟩, _⟩ := st
    have e' : c = z ∨ c = TI ∨ c = TO ∨ c = i1 ∨ c = i2 := by simpa using hc
    rcases e' with y | y | y | y | y
    · rw [y]; exact ⟨_, hz, fun v q => nomatch q⟩
    · rw [y]; exact ⟨_, hTI, fun v q => nomatch q⟩
    · rw [y]; exact ⟨_, hTO, fun v q => nomatch q⟩
    · rw [y]; exact ⟨o1, e1, fun v q => by rw [d1] at q; cases q⟩
    · rw [y]; exact ⟨o2, e2, fun v q => by rw [d2] at q; cases q⟩
  keep := fun i h h' st k => by
    obtain ⟨hz, hTI, ⟨p, q, hTO⟩, h1, ⟨o2, e2, r2⟩, l1, l2⟩ := st
    exact ⟨k z (by simp) _ hz, k TI (by simp) _ hTI, ⟨p, q, k TO (by simp) _ hTO⟩, h1.at fun o y => k i1 (by simp) o y, ⟨o2, k i2 (by simp) o2 e2, r2⟩, l1, l2⟩
  item := by
    intro X hP hw hK hc i pins s σ H E I hf st hg
    subst hP hw hK
    obtain ⟨hz, hTI, ⟨p0, q0, hTO⟩, h1, h2, l1, l2⟩ := st
    obtain ⟨xs, v, hqx, hxl, hx, hlt2⟩ := hg
    obtain ⟨its, rv, p, _⟩ := I.tuple hqx
    obtain ⟨u, hu, ru⟩ := rv.get hx
    have hzl : z < s.heap.objs.size := Heap.lt_size hz
    have hai : a ≠ i1 := fun y => by
      obtain ⟨o, ho, hoc, _⟩ := p; obtain ⟨o', ho', hoc', _⟩ := h1
      rw [y, ho'] at ho; cases ho; rw [hoc] at hoc'; exact absurd hoc' (by decide)
    have hlt1 : i < its.toArray.size := by
      rcases Nat.lt_or_ge i its.toArray.size with c | c
      · exact c
      · rw [List.getElem?_eq_none (by simpa using c)] at hu; cases hu
    refine wpAny_pyNext_zipD2_item D (Draws.tuple (prog := X.prog) (w := X.w) (A := X.A.in1) (I.ok.hd hc) i1 a hai its.toArray) (Draws.text (prog := X.prog) (w := X.w) (A := X.A.in1) (I.ok.hd hc) i2 x t) hz hTI hTO ⟨h1, p⟩ h2 hlt1 hlt2 fun x1 x2 h' tk hP1 hP2 z' TO' st1 st2 hT hsz hk => ?_
    have hx1 : x1 = u := by
      have : its.toArray[i]? = some x1 := hP1
      rw [List.getElem?_toArray, hu] at this
      cases this; rfl
    subst hx1
    obtain ⟨c, uu, hcx, rfl⟩ := hP2
    obtain ⟨h1', _⟩ := st1
    obtain ⟨o2, ho2, r2⟩ := st2
    refine ⟨_, rfl, wpAny_letOwnedTupleGo_zip (s := { s with heap := h', toks := tk }) z' fun h'' z'' sb => ?_⟩
    have hT2 : h''.get? s.heap.objs.size = some { cls := .type "tuple", data := .seq #[x1, .str ⟨#[c]⟩ uu] } := (sb.2 _ (Nat.ne_of_gt hzl)).trans hT
    have new : ObjOk X.prog X.w (upd H s.heap.objs.size (.tup [v, .str ⟨#[c]⟩])) h'' s.heap.objs.size (.tup [v, .str ⟨#[c]⟩]) :=
      ⟨by show 2 ≤ sizeLine; decide, [x1, .str ⟨#[c]⟩ uu], .cons ru (.cons ⟨_, rfl⟩ .nil), ⟨_, hT2, rfl, _, rfl⟩⟩
    have I1 : Inv X pins σ (upd H s.heap.objs.size (.tup [v, .str ⟨#[c]⟩])) { s with heap := h'', toks := tk } :=
      I.turnedNew (t' := tk) (ch := [z, TI, TO, i1, i2]) (fun c o hb q => (sb.2 c (fun q' => hb (by simp [q']))).trans (hk c o (fun q' => hb (by simp [q'])) (fun q' => hb (by simp [q'])) (fun q' => hb (by simp [q'])) (fun q' => hb (by simp [q'])) q)) hf (Nat.le_refl _) new
    have hli : i + 1 ≤ n1 := by
      have := (List.getElem?_eq_some_iff.mp hx).1
      omega
    refine ⟨.ref s.heap.objs.size, _, I1, rfl, ⟨_, v, c, rfl, I.hok.fresh (Nat.le_refl _), rfl, fun l hl => by rw [I.tuple_inj hl hqx]; exact hx, hcx⟩, ⟨z'', ?_, ⟨x1, .str ⟨#[c]⟩ uu, ?_⟩, ?_, ⟨o2, (sb.2 _ D.zi2.symm).trans ho2, r2⟩, hli, hlt2⟩, fun c2 hcm => ?_⟩
    · exact (sb.2 _ D.TIz).trans (hk _ _ D.TIz D.TITO D.TIi1 D.TIi2 hTI)
    · exact (sb.2 _ D.TOz).trans TO'
    · exact h1'.at fun o q => (sb.2 _ D.zi1.symm).trans q
    · have hlt : c2 < s.heap.objs.size := by
        have e' : c2 = z ∨ c2 = TI ∨ c2 = TO ∨ c2 = i1 ∨ c2 = i2 := by simpa using hcm
        rcases e' with q | q | q | q | q
        · rw [q]; exact hzl
        · rw [q]; exact Heap.lt_size hTI
        · rw [q]; exact Heap.lt_size hTO
        · rw [q]; obtain ⟨_, e1, _⟩ := h1; exact Heap.lt_size e1
        · rw [q]; obtain ⟨_, e2, _⟩ := h2; exact Heap.lt_size e2
      rw [upd_ne (Nat.ne_of_lt hlt)]
      exact (hf c2 hcm).1
  done := by
    intro X hP hw hK hc i pins s σ H E I hf st hg
    subst hP hw hK
    obtain ⟨hz, hTI, ⟨p0, q0, hTO⟩, h1, h2, l1, l2⟩ := st
    obtain ⟨xs, hqx, hxl, hend⟩ := hg
    obtain ⟨its, rv, p, _⟩ := I.tuple hqx
    have hl := rv.length
    have hai : a ≠ i1 := fun y => by
      obtain ⟨o, ho, hoc, _⟩ := p; obtain ⟨o', ho', hoc', _⟩ := h1
      rw [y, ho'] at ho; cases ho; rw [hoc] at hoc'; exact absurd hoc' (by decide)
    have hsz : its.toArray.size = n1 := by rw [List.size_toArray]; omega
    refine wpAny_pyNext_zipD2_end D (Draws.tuple (prog := X.prog) (w := X.w) (A := X.A.in1) (I.ok.hd hc) i1 a hai its.toArray) (Draws.text (prog := X.prog) (w := X.w) (A := X.A.in1) (I.ok.hd hc) i2 x t) hz hTI hTO ⟨h1, p⟩ h2 (by omega) l2 (by omega) fun h' tk hk => ⟨rfl, I.turnedL (t' := tk) (ch := [z, TI, TO, i1, i2]) (fun c o hb q =>
      hk c o (fun q' => hb (by simp [q'])) (fun q' => hb (by simp [q'])) (fun q' => hb (by simp [q'])) (fun q' => hb (by simp [q'])) q) hf⟩
  self := fun A i s Q E st h => wpAny_pyIter_zip st.1 h
theorem ne_add {m k j : Nat} (h : k ≠ j) : m + k ≠ m + j := by omega
theorem ne_add0 {m k : Nat} (h : k ≠ 0) : m + k ≠ m := by omega
theorem zip_sep {m a : Nat} (h : a < m) : ZipSep2 (m + 4) (m + 2) (m + 3) m (m + 1) [m, a] [m + 1] := by
  have nm : ∀ {k : Nat}, k ≠ 0 → (m + k) ∉ [m, a] := fun {k} hk z => by
    rcases List.mem_cons.mp z with y | y
    · exact ne_add0 hk y
    · have := List.mem_singleton.mp y
      have h2 : m + k = a := this
      omega
  have n1 : ∀ {k : Nat}, k ≠ 1 → (m + k) ∉ [m + 1] := fun {k} hk z => ne_add hk (List.mem_singleton.mp z)
  exact ⟨ne_add (by decide), ne_add (by decide), ne_add (by decide), ne_add0 (by decide), .head _, nm (by decide), nm (by decide), ne_add (by decide), .head _, n1 (by decide), n1 (by decide), n1 (k := 0) (by decide), nm (by decide)⟩
def iZipTS (K : PySem.W.Frag) (ta : TA) : TI := fun σ H R => ta σ H fun vs H1 => ∃ a xs x, vs = [.ref a, .str x] ∧ SqT K H1 a xs ∧ R (ItzTS K a xs.length x) H1
theorem pi_zipTS {X : Cx} {e e2 : Expr} {ta : TA} {p pos tpos : Pos} {elts : List Expr} {kk : Nat} (hg : Gl X "zip") (hm : X.mg "zip" = none) (ha : PA X [e, e2] ta)
    (hs : starEach [e, e2] X.env = (false, eval e X.env) :: starEach [e2] X.env := by rfl) (hpl : (backTo pos (starEach [e2] X.env)).any (·.1) = false := by rfl) :
    PI X (.Tuple elts kk tpos) (.Call (.Name "zip" p) [e, e2] [] pos) (iZipTS X.K ta) := by
  refine ⟨fun pins s σ H R I h => ?_⟩
  refine Call_ (ld_blt I hg hm PyProof.Rows.boot_zip (PyProof.Rows.callWith_type1 (thn (ha.run pos pins s σ H _ I h) fun us s1 ⟨vs, H1, I1, r1, q1⟩ => ?_) hs hpl))
  obtain ⟨a, xs, x, ex, hqx, q⟩ := q1
  subst ex
  cases r1 with
  | cons r rr =>
    cases rr with
    | cons r' rr =>
      cases rr
      cases r
      obtain ⟨t, rfl⟩ := r'
      obtain ⟨its, rv, p1, _⟩ := I1.tuple hqx
      obtain ⟨o1, ho1, _⟩ := id p1
      have hlt := Heap.lt_size ho1
      refine zip_begins2 (begins_tuple a its.toArray) (begins_text x t) (show s1.heap.IsTuple a its.toArray from p1) trivial fun h' hz hTI hTO h1 h2 hsz hk => wpAny_pyIter_zip hz ?_
      have I2 : Inv X pins σ H1 { s1 with heap := h' } := I1.kept (t' := s1.toks) hk
      refine ⟨s1.heap.objs.size + 4, [s1.heap.objs.size + 4, s1.heap.objs.size + 2, s1.heap.objs.size + 3, s1.heap.objs.size, s1.heap.objs.size + 1], _, _, H1, rfl, I2, turn_zipTS (t := t) (zip_sep hlt), ⟨hz, hTI, ⟨_, _, hTO⟩, ⟨_, h1, rfl, rfl⟩, ⟨_, h2, rfl, rfl⟩, Nat.zero_le _, Nat.zero_le _⟩, fun c hcm => ?_, q⟩
      have e' : c = s1.heap.objs.size + 4 ∨ c = s1.heap.objs.size + 2 ∨ c = s1.heap.objs.size + 3 ∨ c = s1.heap.objs.size ∨ c = s1.heap.objs.size + 1 := by simpa using hcm
      have hle : s1.heap.objs.size ≤ c := by rcases e' with y | y | y | y | y <;> (rw [y]; first | exact Nat.le_refl _ | exact Nat.le_add_right _ _)
      exact I1.fpOk hle (I1.hok.fresh hle)
section
variable {c : Cc} {sp : List Sl} {e a b : Expr} {pos p : Pos}
theorem W_zipTS {elts : List Expr} {kk : Nat} {tpos : Pos} {QL : List D → Prop} (h : E c a sp fun d => E c b sp fun g => ∃ ds x, d = .tuple ds ∧ g = .str x ∧ QL (zipD ds (signsD x))) (hm : c.m.mg "zip" = none) (hg : GlS c.sc "zip" := by rfl)
    (hs : ∀ env, starEach [a, b] env = (false, eval a env) :: starEach [b] env := by intro _; rfl) (hs2 : ∀ env, starEach [b] env = (false, eval b env) :: starEach [] env := by intro _; rfl) (hpl : ∀ env, (backTo pos (starEach [b] env)).any (·.1) = false := by intro _; rfl) :
    W c (.Tuple elts kk tpos) (.Call (.Name "zip" p) [a, b] [] pos) sp QL := Sealed.of fun X hX G F0 F H σ r R k => by
  refine PI_tI (pi_zipTS (hg.gl hX) (by rw [hX.mg]; exact hm) (pa_cons pe_tE (pa_cons pe_tE pa_nil (hs2 _)) (hs _)) (hs _) (hpl _)) ?_
  refine h X hX G F0 F H σ r _ fun d v F1 H1 q g d1 => ?_
  refine Sealed.run q X hX G F0 F1 H1 σ (r.grow g) _ fun d2 v2 F2 H2 q2 g2 dd2 => ?_
  obtain ⟨ds, x, rfl, rfl, q3⟩ := q2
  obtain ⟨l, vs, rfl, h1, h2⟩ := dp_tuple (dp_mono g2.f _ _ d1)
  cases dd2
  rw [hX.K]
  refine ⟨l, vs, x, rfl, sqT_mono g2.fh h1, k _ _ F2 H2 q3 (g.trans g2) ⟨fun F' H' i d s1 s2 e => ?_, fun F' H' i s1 s2 e => ?_⟩⟩
  · unfold zipD signsD at e
    rw [List.getElem?_zipWith, List.getElem?_map] at e
    cases hc : ds[i]? with
    | none => rw [hc] at e; cases e
    | some d0 =>
      cases hc' : x.cps.toList[i]? with
      | none => rw [hc, hc'] at e; cases e
      | some cp =>
        rw [hc, hc'] at e
        have e' : PyData.tuple [d0, .str ⟨#[cp]⟩] = d := Option.some.inj e
        subst e'
        obtain ⟨v, q1, q2⟩ := dpAll_get' h2 hc
        have hi := (List.getElem?_eq_some_iff.mp hc').1
        refine ⟨⟨vs, v, sqT_mono (s1.trans s2) h1, rfl, q1, by simpa using hi⟩, fun y H'' q => ?_⟩
        obtain ⟨T, u, cp', rfl, hn, rfl, qa, qb⟩ := q
        have := qa vs (sqT_mono (s1.trans s2) h1)
        rw [q1] at this; cases this
        rw [← Array.getElem?_toList, hc'] at qb
        cases qb
        have g3 := Grow.new_ (o := .tup [v, .str ⟨#[cp]⟩]) s2 hn
        exact ⟨_, g3, .tup upd_same (.cons (dp_mono (s1.trans g3.f) _ _ q2) (.cons (.str _) .nil))⟩
  · unfold zipD signsD at e
    rw [List.length_zipWith, List.length_map] at e
    refine ⟨vs, sqT_mono (s1.trans s2) h1, rfl, ?_⟩
    rw [dpAll_len h2]
    have : x.cps.toList.length = x.cps.size := Array.length_toList
    omega
end
end Pl
set_option Elab.async false
set_option linter.all false
set_option maxRecDepth 100000
set_option maxHeartbeats 4000000
set_option autoImplicit false
namespace Pl
open PySem PySem.Spec PyProof.Rows L2
/-! ### [elt for tg in it], the items known by a property only -/
def LcXQ (c' : Cc) (tg elt : Expr) (ws : List Nat) (sp' : List Sl) (QL : List D → Prop) (ds : List D) : Prop :=
  ∃ P : Nat → D → Prop, ds.length ≤ sizeLine ∧ (∀ i d, ds[i]? = some d → Asg c' tg ws d sp' fun sp2 => E c' elt sp2 (P i)) ∧ ∀ r : List D, r.length = ds.length → (∀ i z, r[i]? = some z → P i z) → QL r
def LcXP (c : Cc) (elt tg it : Expr) (scope : Scope) (own : List (Str × Nat)) (ws : List Nat) (sp : List Sl) (QL : List D → Prop) : Prop :=
  W c tg it sp fun ds => LcXQ (c.blk scope) tg elt ws (wipeS sp (own.map (·.2))) QL ds
section
variable {c : Cc} {sp : List Sl} {pos : Pos}
theorem lcx_read {elt tg it : Expr} {scope : Scope} {own : List (Str × Nat)} {ws : List Nat} {QL : List D → Prop} (hw : ∀ j ∈ ws, j ∈ own.map (·.2)) (h : LcXP c elt tg it scope own ws sp QL)
    {X : Cx} (hX : c.Has X) {G F0 F H : Hp} {σ : L2.St} (r : SR c.m.T c.m.K G F0 F H sp σ) {R : VK} (k : ∀ ds vs p F' H', QL ds → Grow F H F' H' → H p = none → F' p = none → H' p = some (.lst vs) → DpAll c.m.K F' vs ds → R (.ref p) H') :
    tLc (tI X tg it) (gB X scope tg) (ttB X scope []) (teB X scope elt) (own.map (·.2)) σ H R := by
  refine Sealed.run h X hX G F0 F H σ r _ fun J ds F1 H1 q g1 w => ?_
  obtain ⟨P, hz, step, fin⟩ := q
  intro Dn hD
  have r1 := r.grow g1
  have hF1 : F1 Dn = none := g1.fh.free hD
  have hG1 : G Dn = none := r1.g.free hD
  have hown : ∀ (j : Nat) (t : Sl), (wipeS sp (own.map (·.2)))[j]? = some t → t.own = true → (wipe σ (own.map (·.2)))[j]? ≠ some (some (V.ref Dn)) := fun j t h1 h2 h3 => by
    obtain ⟨b, o, e1, e2, _⟩ := (slOk_own h2).mp ((r1.wipe (own.map (·.2))).sl j t _ h1 h3)
    cases e1
    rw [hD] at e2; cases e2
  refine ⟨fun i m H' => i + m = ds.length ∧ ∃ F' acc out, Grow F1 H1 F' H' ∧ F' Dn = none ∧ H' Dn = some (.lst acc) ∧ DpAll c.m.K F' acc out ∧ (out.length = i ∧ ∀ j z, out[j]? = some z → P j z) ∧ SR c.m.T c.m.K G F0 F' H' (wipeS sp (own.map (·.2))) (wipe σ (own.map (·.2))),
    ⟨ds.length, by omega, F1, [], [], Grow.out g1.fh hD, hF1, upd_same, .nil, ⟨rfl, fun j z e => by cases e⟩, (r1.wipe _).out_upd hF1 hG1 hown⟩, ?_⟩
  rintro i m H' ⟨hm, F', acc, out, gr, hF', hH', hacc, ⟨ho1, ho2⟩, r'⟩
  by_cases hlt : i < ds.length
  · have hd : ds[i]? = some ds[i] := List.getElem?_eq_getElem hlt
    obtain ⟨q1, q2⟩ := w.go F' H' i _ gr.f gr.fh hd
    refine .inr ⟨q1, fun H2 => ∃ F2 acc2 out2, Grow F1 H1 F2 H2 ∧ F2 Dn = none ∧ H2 Dn = some (.lst acc2) ∧ DpAll c.m.K F2 acc2 out2 ∧ (out2.length = i + 1 ∧ ∀ j z, out2[j]? = some z → P j z) ∧ SR c.m.T c.m.K G F0 F2 H2 (wipeS sp (own.map (·.2))) (wipe σ (own.map (·.2))),
      fun H2 z => ⟨m - 1, by omega, by omega, z⟩, fun x H'' y => ?_⟩
    obtain ⟨F'', g3, dx⟩ := q2 x H'' y
    intro s0 H0 C cl fp
    refine step i _ hd _ (hX.blk s0 H0 scope cl C fp) G F0 F'' H'' _ x (r'.grow g3) dx _ fun sp2 F2 H2 σ2 q3 g4 r2 off => ?_
    refine ⟨wipe_eq off.1 hw (off.2.trans (wipe_length _ _)), fun s1 H1' C1 cl1 fp1 => ?_⟩
    refine PTs_tTs pts_nil ?_
    have r3 : SR c.m.T c.m.K G F0 F2 H2 (wipeS sp (own.map (·.2))) (L2.wipe σ (own.map (·.2))) := (r'.grow g3).grow g4
    have keepD : ∀ {F4 H4 : Hp}, Grow F' H' F4 H4 → F4 Dn = none ∧ H4 Dn = some (.lst acc) := fun {F4 H4} gg => by
      refine ⟨?_, gg.h _ _ hH'⟩
      cases qf : F4 Dn with
      | none => rfl
      | some u =>
        have := gg.new Dn hF' (by rw [qf]; exact fun z => by cases z)
        rw [hH'] at this; cases this
    have outD : ∀ {F4 H4 : Hp} {o : HO}, Grow F1 H1 F4 H4 → F4 Dn = none → Grow F1 H1 F4 (upd H4 Dn o) := fun {F4 H4 o} gg hf =>
      ⟨gg.f, fun b u e => by rw [upd_ne (ne_of_none e hf)]; exact gg.fh _ _ e, fun b u e => by rw [upd_ne (ne_of_none e hD)]; exact gg.h _ _ e, gg.new, gg.nf⟩
    show teB X scope elt σ2 H2 _
    intro s2 H2' C2 cl2 fp2
    refine q3 _ (hX.blk s2 H2' scope cl2 C2 fp2) G F0 F2 H2 σ2 r2 _ fun z vz F4 H4 qz g6 dz => ?_
    have gall : Grow F' H' F4 H4 := (g3.trans g4).trans g6
    obtain ⟨hf4, hh4⟩ := keepD gall
    have hlen : acc.length = out.length := dpAll_len hacc
    refine ⟨acc, hh4, by omega, F4, acc ++ [vz], out ++ [z], outD (gr.trans gall) hf4, hf4, upd_same, ?_, ⟨by rw [List.length_append, ho1]; rfl, fun j y e => ?_⟩, (r3.grow g6).out_upd hf4 hG1 hown⟩
    · exact dpAll_append (dpAll_mono gall.f _ _ hacc) (.cons dz .nil)
    · rcases Nat.lt_or_ge j i with a | a
      · rw [List.getElem?_append_left (by omega)] at e
        exact ho2 j y e
      · rw [List.getElem?_append_right (by omega)] at e
        have hj : j - out.length < 1 := (List.getElem?_eq_some_iff.mp e).1
        obtain rfl : j = i := by omega
        rw [ho1, Nat.sub_self] at e
        cases e
        exact qz
  · have e : i = ds.length := by omega
    subst e
    exact .inl ⟨w.stop F' H' _ gr.f gr.fh (Nat.le_refl _), k out acc Dn F' H' (fin out ho1 ho2) (g1.trans gr) (g1.h.free hD) hF' hH' hacc⟩
theorem EF_lcX {elt tg it : Expr} {scope : Scope} {own : List (Str × Nat)} {ws : List Nat} {QL : List D → Prop} (hN : c.N.Nodup) (ok : blkC c.N c.sc scope own = true) (hw : ∀ j ∈ ws, j ∈ own.map (·.2))
    (h : LcXP c elt tg it scope own ws sp QL) (hs : ∀ env x, foldedSetIterable it env x = pure x := by intro _ _; rfl) : EF c (.ListComp elt [⟨tg, it, [], 0⟩] scope pos) sp QL := Sealed.of fun X hX G F0 F H σ r R k =>
  PE_tE (pe_lc (own := own) hX.calm (by rw [hX.N]; exact hN) pi_tI (by rw [hX.N, hX.sc]; exact blkOk_by ok)
    (fun s0 H0 C cl fp => ⟨fun pins s σ H v u Q I r h => h s0 H0 C cl fp pins s u I r⟩) (fun s0 H0 C cl fp => ⟨fun pins s σ H Q I h => h s0 H0 C cl fp pins s I⟩) (fun s0 H0 C cl fp => ⟨fun pins s σ H Q I h => h s0 H0 C cl fp pins s I⟩) (hs _)) (lcx_read hw h hX r k)
end
section
variable {c' : Cc} {tg elt : Expr} {ws : List Nat} {sp' : List Sl} {QL : List D → Prop} {ds : List D} {α : Type}
theorem LcX_map (xs : List α) (enc : α → D) (P : α → D → Prop) (hds : ds = xs.map enc) (hz : xs.length ≤ sizeLine) (step : ∀ x ∈ xs, Asg c' tg ws (enc x) sp' fun sp2 => E c' elt sp2 (P x))
    (q : ∀ r : List D, r.length = xs.length → (∀ (i : Nat) (x : α) (z : D), xs[i]? = some x → r[i]? = some z → P x z) → QL r) : LcXQ c' tg elt ws sp' QL ds := by
  subst hds
  refine ⟨fun i z => ∀ x, xs[i]? = some x → P x z, by rw [List.length_map]; exact hz, fun i d hd => ?_, fun r h1 h2 => q r (by rw [h1, List.length_map]) fun i x z hx hr => h2 i z hr x hx⟩
  rw [List.getElem?_map] at hd
  cases hx : xs[i]? with
  | none => rw [hx] at hd; cases hd
  | some x =>
    rw [hx] at hd
    cases hd
    refine Sealed.of ?_
    intro X hX G F0 F H σ v r hd R k
    refine step x (List.mem_of_getElem? hx) X hX G F0 F H σ v r hd R fun sp2 F' H' σ' q => k sp2 F' H' σ' (q.mono fun z hz y hy => ?_)
    have e : x = y := Option.some.inj (hx.symm.trans hy)
    rw [← e]; exact hz
end
end Pl
set_option Elab.async false
set_option linter.all false
set_option maxRecDepth 100000
set_option maxHeartbeats 4000000
set_option autoImplicit false
namespace Pl
open PySem PySem.Spec PyProof.Rows L2
section
variable {c : Cc} {sp : List Sl} {a : Expr} {p pos : Pos} {QL : List D → Prop}
/-- sorted(d), keys texts -/
theorem EF_kSortedS (h : E c a sp fun d => ∃ (kvs : List (Key × D)) (ks : List Str), d = dkD kvs ∧ kvs.map (·.1) = ks.map Sum.inr ∧ ks.length < 64 ∧ ∀ ys : List Str, ys.Perm ks → sortedS ys = true → QL (ys.map .str)) (hm : c.m.mg "sorted" = none) (hg : GlS c.sc "sorted" := by rfl)
    (he : ∀ env, starEach [a] env = (false, eval a env) :: starEach [] env := by intro _; rfl) (hpl : ∀ env, (backTo pos (starEach [] env)).any (·.1) = false := by intro _; rfl) : EF c (.Call (.Name "sorted" p) [a] [] pos) sp QL := Sealed.of fun X hX G F0 F H σ r R k => by
  refine PE_tE (pe_callB (call_sortedD hX.calm) (hg.gl hX) (by rw [hX.mg]; exact hm) boot_sorted' (pa_cons pe_tE pa_nil (he _)) (by decide) (by decide) (he _) (hpl _)) ?_
  refine h X hX G F0 F H σ r _ fun d v F1 H1 q g d1 => ?_
  obtain ⟨kvs, ks, rfl, hk, h64, q⟩ := q
  obtain ⟨l, ws, rfl, h1, h4⟩ := dp_dkD d1
  refine ⟨l, ws, ks, rfl, .inl (g.fh _ _ h1), by rw [paired_keys h4, hk], h64, fun ys p2 hp hs hp2 => ?_⟩
  have g2 := Grow.out (o := .lst (ys.map V.str)) g.fh hp2
  exact k (ys.map .str) (ys.map V.str) p2 F1 _ (q ys hp hs) (g.trans g2) (g.h.free hp2) (g.fh.free hp2) upd_same (dpAll_of_strs _)
end
end Pl
set_option Elab.async false
set_option linter.all false
set_option maxRecDepth 100000
set_option maxHeartbeats 4000000
set_option autoImplicit false
namespace Pl
open PySem PySem.Spec PyProof.Rows L2
/-! ### sorted(d), d with int keys, any number of them -/
section
variable {X : Cx}
theorem ints_by_keys {ks : List Int} {vs : List (Key × Value)} {acc : List Value} (hl : acc.length = ks.length) (hk : vs.map (·.1) = ks.map Sum.inl) (h : ∀ (j : Nat) (v : Value), acc[j]? = some v → ∃ k x, vs[j]? = some (k, x) ∧ keyIs k v = true) : IntsAre acc ks := by
  refine ints_each hl fun j v e => ?_
  obtain ⟨k, x, e1, e2⟩ := h j v e
  have e3 : (ks.map Sum.inl : List Key)[j]? = some k := by rw [← hk, List.getElem?_map, e1]; rfl
  rw [List.getElem?_map] at e3
  cases e4 : ks[j]? with
  | none => rw [e4] at e3; cases e3
  | some y =>
    rw [e4] at e3
    have e5 : Sum.inl y = k := Option.some.inj e3
    subst e5
    rcases keyIs_shape e2 with ⟨i, t, ek, ev⟩ | ⟨z, t, ek, ev⟩
    · cases ek; exact ⟨y, t, rfl, ev⟩
    · cases ek
theorem call_sortedDA (hcalm : X.calm = true) : CallR X (.builtin "sorted") (fun xs H Q => ∃ (a : Addr) (kvs : List (Key × V)) (ks : List Int), xs = [.ref a] ∧ Rd H a (.dK kvs) ∧ kvs.map (·.1) = ks.map Sum.inl ∧ ks.length ≤ sizeLine ∧
    ∀ (ys : List Int) (p : Addr), ys.Perm ks → ys.Pairwise (· ≤ ·) → H p = none → Q (.ref p) (upd H p (.lst (ys.map V.int)))) := by
  intro pins s σ H xs us Q I r h
  obtain ⟨a, kvs, ks, ex, hd, hks, hsz, q⟩ := h
  subst ex
  obtain ⟨u, eu, rx⟩ := vals1 r
  subst eu
  cases rx
  obtain ⟨z, lo, vs, rel, dd⟩ := dk_rd I.hok hd
  obtain ⟨ep, hat⟩ := dd.dictAt
  have hkeys : vs.map (·.1) = ks.map Sum.inl := rel.keys.symm.trans hks
  have hl : vs.length = ks.length := by have e := congrArg List.length hkeys; rwa [List.length_map, List.length_map] at e
  refine Calls.call_function_entry PyProof.Rows.kind_sorted PyProof.Rows.plain_sorted PyProof.Rows.entry_sorted (PyProof.Rows.args_sorted1 _) ?_
  unfold Builtin.«sorted»
  refine wpAny_bind (m := checkCount "sorted" 1 1 _) (wpAny_pure ?_)
  refine wpAny_bind (PySem.W.kdu_collect (A := X.A.in1) (PySem.W.kdl_dict (knd := mixKind X.prog X.w) (kvs := vs) (ep := ep) lo) (I.ok.hd hcalm) hat (by rw [hl]; exact hsz) fun h' tk acc hk hacc => ?_)
  have hal : acc.toList.length = ks.length := by rw [Array.length_toList, hacc.1, hl]
  have hS : IntsAre acc.toList ks := ints_by_keys hal hkeys fun j v e => by
    obtain ⟨k, x, e1, e2⟩ := hacc.2 j v (by rw [← Array.getElem?_toList]; exact e)
    exact ⟨k, x, e1, e2⟩
  have I1 : Inv X pins σ H { s with heap := h', toks := tk } := I.kept hk
  refine wpAny_bind (wpAny_newList ?_ (by rw [hal]; exact hsz))
  have hoL : (h'.push (seqObj "list" acc.toList.toArray 0)).get? h'.objs.size = some (seqObj "list" acc.toList.toArray 0) := Heap.get?_push_size _ rfl
  show wpAny _ _ _ _ _ { s with heap := h'.push (seqObj "list" acc.toList.toArray 0), toks := tk }
  refine wpAny_bind (wpAny_holding (wpAny_call_entry slot_list_sort ⟨_, hoL, rfl⟩ entry_list_sort
    (SrtO.list_sort_ord (s := { s with heap := h'.push (seqObj "list" acc.toList.toArray 0), toks := tk }) SrtO.swo_int hoL (by rw [hal]; exact hsz) (fun h2 => SrtO.ints_sortable hS h2) fun out hs hb => ⟨_, rfl, ?_⟩) (args_list_sort _)))
  obtain ⟨k1, k2, k3⟩ := SrtO.ints_out hS hs hb
  obtain ⟨e', he'⟩ := PyProof.Rows.sortedHeap_at (vs := acc.toList) (out := out.toArray) hoL
  have hlen : ((out.map SrtO.iv).map V.int).length ≤ sizeLine := by
    rw [List.length_map, k2.length_eq]; exact hsz
  refine wpAny_pure ⟨_, rfl, .ref h'.objs.size, upd H h'.objs.size (.lst ((out.map SrtO.iv).map V.int)), I1.laid (t' := tk) (fun b u e => ?_) (Nat.le_refl _)
    (show ObjOk X.prog X.w _ _ _ (.lst ((out.map SrtO.iv).map V.int)) from ⟨hlen, out, e', vals_of_ints k1, he'⟩), rfl, q _ _ k2 k3 (I1.hok.fresh (Nat.le_refl _))⟩
  have hb2 : b < h'.objs.size := Heap.lt_size e
  rw [PyProof.Rows.sortedHeap_old (Nat.ne_of_lt hb2) (by rw [size_push']; exact Nat.lt_succ_of_lt hb2)]
  exact Heap.get?_push_of_some _ e
end
section
variable {c : Cc} {sp : List Sl} {x : Str} {px p pos : Pos} {QL : List D → Prop}
theorem EF_dkSortedA (i : Nat) {kvs : List (Key × D)} (hsl : sp[i]? = some (.dk kvs)) (h : ∃ ks : List Int, kvs.map (·.1) = ks.map Sum.inl ∧ ks.length ≤ sizeLine ∧ ∀ ys : List Int, ys.Perm ks → ys.Pairwise (· ≤ ·) → QL (ys.map .int)) (hm : c.m.mg "sorted" = none) (hg : GlS c.sc "sorted" := by rfl) (hi : c.N[i]? = some x := by rfl)
    (hv : Vis c.sc x := by first | exact Or.inl rfl | exact Or.inr (Or.inl rfl) | exact Or.inr (Or.inr rfl)) (hd : (x == ("__debug__" : Str)) = false := by decide) (hcd : (x == ("__classdict__" : Str)) = false := by decide)
    (he : ∀ env, starEach [.Name x px] env = (false, eval (.Name x px) env) :: starEach [] env := by intro _; rfl) (hpl : ∀ env, (backTo pos (starEach [] env)).any (·.1) = false := by intro _; rfl) : EF c (.Call (.Name "sorted" p) [.Name x px] [] pos) sp QL := Sealed.of fun X hX G F0 F H σ r R k => by
  refine PE_tE (pe_callB (call_sortedDA hX.calm) (hg.gl hX) (by rw [hX.mg]; exact hm) boot_sorted' (pa_cons (pe_var (i := i) (by rw [hX.N]; exact hi) (by rw [hX.sc]; exact hv) hd hcd) pa_nil (he _)) (by decide) (by decide) (he _) (hpl _)) ?_
  obtain ⟨l, ws, hy, h1, h4⟩ := dk_at (X := X) r hsl
  obtain ⟨ks, hk, hsz, q⟩ := h
  refine ⟨.ref l, hy, l, ws, ks, rfl, .inl h1, by rw [paired_keys h4, hk], hsz, fun ys p2 hp hs hp2 => ?_⟩
  have g := Grow.out (o := .lst (ys.map V.int)) r.sf hp2
  exact k (ys.map .int) (ys.map V.int) p2 F _ (q ys hp hs) g hp2 (r.sf.free hp2) upd_same (dpAll_of_ints _)
end
end Pl
set_option Elab.async false
set_option linter.all false
set_option maxRecDepth 100000
set_option maxHeartbeats 4000000
set_option autoImplicit false
namespace Pl
open PySem PySem.Spec PyProof.Rows L2
/-! ### sorted(a list of data that are alike), any number of them -/
/-- y is not before x -/
def leD (x y : D) : Bool := !PySem.W.dataLt y x
theorem leD_trans (x y z : D) (h1 : leD x y = true) (h2 : leD y z = true) : leD x z = true := by
  unfold leD at *
  rw [Bool.not_eq_true'] at *
  cases e : PySem.W.dataLt z x with
  | false => rfl
  | true =>
    rcases PyProof.Rows.lex_negTrans (O := PyProof.Rows.itemOrd) (PySem.W.keyToks z) (PySem.W.keyToks y) (PySem.W.keyToks x) e with q | q
    · rw [show PySem.W.dataLt z y = true from q] at h2; cases h2
    · rw [show PySem.W.dataLt y x = true from q] at h1; cases h1
theorem leD_total (x y : D) : (leD x y || leD y x) = true := by
  unfold leD
  cases e1 : PySem.W.dataLt y x with
  | false => rfl
  | true =>
    cases e2 : PySem.W.dataLt x y with
    | false => rfl
    | true =>
      have := PyProof.Rows.lex_trans (O := PyProof.Rows.itemOrd) (PySem.W.keyToks y) (PySem.W.keyToks x) (PySem.W.keyToks y) e1 e2
      rw [PyProof.Rows.lex_irrefl] at this
      cases this
end Pl
namespace PlW
open PySem PySem.Spec PySem.W PySem.Calls PyProof.Rows L2
abbrev D := PyData
section
variable {prog : Program} {w : World} {A : Around} {s : Shared}
theorem reads_nil {h : Heap} {v : Value} {as : List Addr} (r : Reads h v (.tuple []) as) : ∃ (a : Addr) (o : Obj) (xs : Array Value) (n : Nat), v = .ref a ∧ h.get? a = some o ∧ o.cls = .type "tuple" ∧ o.data = .seq xs n ∧ xs.toList = [] := by
  cases r with
  | @tuple a o xs n _ _ h1 h2 h3 h4 =>
    refine ⟨a, o, xs, n, rfl, h1, h2, h3, ?_⟩
    cases e : xs.toList with
    | nil => rfl
    | cons x r => rw [e] at h4; cases h4
theorem kind_empty {vs : List Value} {E : Value → Shared → Prop} {Q : SortKind → Shared → Prop} (h2 : 2 ≤ vs.length) (hv : ∀ v ∈ vs, ∃ (a : Addr) (o : Obj) (xs : Array Value) (n : Nat), v = .ref a ∧ s.heap.get? a = some o ∧ o.cls = .type "tuple" ∧ o.data = .seq xs n ∧ xs.toList = []) (h : Q oneType' s) :
    wpAny (model prog w) A (keyKind' vs.toArray) Q E s := by
  have hT : ∀ v ∈ vs, Looks (model prog w) s.heap (typeOf v) (Value.type "tuple") := fun v hm => by
    obtain ⟨a, o, xs, n, rfl, ho, hc, hd, _⟩ := hv v hm
    exact hc ▸ (Looks.ld ho).andThen .now
  have hT2 : (Value.type "tuple" == Value.type "tuple") = true := beq_self_eq_true _
  obtain ⟨v₁, v₂, rest, rfl⟩ : ∃ v₁ v₂ rest, vs = v₁ :: v₂ :: rest := by
    match vs, h2 with
    | [], h2 => simp at h2
    | [_], h2 => simp at h2
    | v₁ :: v₂ :: rest, _ => exact ⟨v₁, v₂, rest, rfl⟩
  rw [keyKind'_eq, List.mapM_toArray, map_eq_pure_bind]
  refine wpAny_bind (wpAny_bind (kas_mapM (r := none) _ (fun v hm Q' hq => ?_) (wpAny_pure ?_)))
  · obtain ⟨a, o, xs, n, rfl, ho, hc, hd, he⟩ := hv v hm
    rw [kas_first_eq]
    refine wpAny_bind ((hT _ hm).here ?_)
    rw [if_neg (by first | decide | simp)]
    refine wpAny_bind (listItems_at ho hd (wpAny_pure ?_))
    have : xs[0]? = none := by rw [← Array.getElem?_toList, he]; rfl
    rw [this]; exact hq
  · rw [if_neg (by simp), if_neg (by simp)]
    rw [oneTypeOnly'_eq, List.mapM_toArray, map_eq_pure_bind]
    refine wpAny_bind (wpAny_bind (wpAny_bind (kas_mapM (r := Value.type "tuple") _ (fun v hv Q' hq => (hT v hv).here hq) (wpAny_pure ?_))))
    have hall : ((List.map (fun _ => Value.type "tuple") (v₁ :: v₂ :: rest)).toArray.all fun x => x == Value.type "tuple") = true := by
      simp only [List.all_toArray, List.all_map, List.all_eq_true]
      intro _ _
      exact hT2
    have h0 : (List.map (fun _ => Value.type "tuple") (v₁ :: v₂ :: rest)).toArray[0]? = some (Value.type "tuple") := by simp
    rw [h0]
    simp only [hall, if_true]
    exact wpAny_pure (wpAny_pure h)
theorem sorts_empty {vs : List Value} {ds : List D} (e : PySem.W.EachIs (fun v d => ∃ as, Reads s.heap v d as) vs ds) (hd : ∀ d ∈ ds, d = .tuple []) (hu : A.units < cLine) : PySem.W.SortsAt prog w A s (PySem.W.dataKind s.heap ds) vs := by
  have hal : PySem.W.AllAlike ds := fun d m d' m' => by rw [hd d m, hd d' m']; rfl
  refine ⟨fun v hv => ?_, oneType', ?_, fun h2 E Q hq => ?_⟩
  · obtain ⟨d, m, as, r⟩ := e.left v hv
    exact ⟨_, PySem.W.dataKind_some hal m r⟩
  · intro E x y a b Q ha hb hq
    obtain ⟨d, as, m, ra, rfl⟩ := PySem.W.dataKind_inv ha
    obtain ⟨d', as', m', rb, rfl⟩ := PySem.W.dataKind_inv hb
    obtain rfl := hd d m
    obtain rfl := hd d' m'
    obtain ⟨l, o, xs, n, rfl, ho, hc, hdt, he⟩ := reads_nil ra
    obtain ⟨l', o', xs', n', rfl, ho', hc', hdt', he'⟩ := reads_nil rb
    obtain ⟨cls, dd, data, sl⟩ := o
    obtain ⟨cls2, dd2, data2, sl2⟩ := o'
    simp only at hc hdt hc' hdt'
    subst hc hdt hc' hdt'
    rw [keyLt'_oneType, oneLt'_eq]
    simp only [if_true]
    refine wpAny_bind (wpAny_cRoomFor hu ?_)
    refine wpAny_bind (wpAny_callSpecialIfBound?_slot (T := "tuple") ⟨_, ho, rfl⟩ PySem.F.slot_tuple_lt (call_meets PySem.F.slot_tuple_lt ⟨_, ho, rfl⟩ PySem.F.entry_tuple_lt (PySem.F.args_tuple_lt_2 _ _) (HT.tuple_lt_ints l l' xs xs' n n' dd dd2 sl sl2 [] [] (by rw [he]; exact .nil) (by rw [he']; exact .nil)) ⟨ho, ho', ?_⟩))
    exact wpAny_truthy_bool hq
  · refine kind_empty h2 (fun v hv => ?_) hq
    obtain ⟨d, m, as, r⟩ := e.left v hv
    obtain rfl := hd d m
    exact reads_nil r
end
end PlW
namespace Pl
open PySem PySem.Spec PySem.W PyProof.Rows L2
section
variable {X : Cx}
theorem zip_rel : ∀ {xs : List V} {us : List Value} {ds : List D}, Vals xs us → xs.length = ds.length → EachIs (fun u (b : V × D) => RelV b.1 u) us (xs.zip ds)
  | [], _, [], .nil, _ => .nil
  | _ :: _, _, _ :: _, .cons r t, h => .cons r (zip_rel t (by simpa using h))
theorem zip_reads {h : Heap} : ∀ {xs : List V} {us : List Value} {ds : List D} {as : List Addr}, xs.length = ds.length → ReadsAll h us ds as → EachIs (fun u (b : V × D) => ∃ as, Reads h u b.2 as) us (xs.zip ds)
  | [], _, [], _, _, .nil => .nil
  | _ :: _, _, _ :: _, _, h, .cons r t => .cons ⟨_, r⟩ (zip_reads (by simpa using h) t)
theorem vals_fst : ∀ {out : List Value} {bs : List (V × D)}, EachIs (fun u (b : V × D) => RelV b.1 u) out bs → Vals (bs.map (·.1)) out
  | _, _, .nil => .nil
  | _, _, .cons h t => .cons h (vals_fst t)
def rSortedD (K : PySem.W.Frag) : List V → Hp → VK → Prop := fun vs H Q => ∃ (a : Addr) (xs : List V) (ds : List D), vs = [V.ref a] ∧ SqL K H a xs ∧ L2.DpAll K H xs ds ∧ xs.length = ds.length ∧ PySem.W.AllAlike ds ∧ (PySem.W.Sortable ds ∨ ∀ d ∈ ds, d = .tuple []) ∧ (∀ d ∈ ds, d.depth ≤ 60) ∧
  ∀ (zs : List (V × D)) (p : Addr), zs.Perm (xs.zip ds) → zs.Pairwise (fun x y => leD x.2 y.2 = true) → H p = none → Q (.ref p) (upd H p (.lst (zs.map (·.1))))
theorem cr_sortedD (hu : X.A.units + 64 < cLine) : CallR X (.builtin "sorted") (rSortedD X.K) := by
  intro pins s σ H vs us Q I r h
  obtain ⟨a, xs, ds, rfl, hs, hd, hlen, hal, hk, hdp, q⟩ := h
  obtain ⟨its, rv, hl, hz⟩ := I.list hs
  rw [Vals.ref1 r]
  have hlen2 := rv.length
  obtain ⟨as, hr⟩ := L2.Dp.readsAll I ds xs its hd rv
  have e := zip_rel rv hlen
  have er := zip_reads hlen hr
  have hmap : (xs.zip ds).map (·.2) = ds := List.map_snd_zip (by omega)
  have er' : EachIs (fun u (b : V × D) => ∃ as, Reads (sortingHeap (copyHeap s.heap its) (s.heap.objs.size + 1) its) u b.2 as) its (xs.zip ds) := er.mono fun _ _ ⟨as, r⟩ => ⟨as, PyProof.Rows.Reads.keeps (fun _ _ => sorting_copy_old) r⟩
  have hal' : PySem.W.AllAlike ((xs.zip ds).map (·.2)) := by rw [hmap]; exact hal
  have em : EachIs (fun v d => ∃ as, Reads (sortingHeap (copyHeap s.heap its) (s.heap.objs.size + 1) its) v d as) its ((xs.zip ds).map (·.2)) := each_map (R := fun v d => ∃ as, Reads (sortingHeap (copyHeap s.heap its) (s.heap.objs.size + 1) its) v d as) (fun b : V × D => b.2) er'
  refine sorted_vals hl.isList (κ := dataKind (sortingHeap (copyHeap s.heap its) (s.heap.objs.size + 1) its) ((xs.zip ds).map (·.2))) ?_ (by rw [← hlen2]; exact hz) ?_
  · rcases hk with hk | hk
    · exact SortsAt.data (s := { s with heap := sortingHeap (copyHeap s.heap its) (s.heap.objs.size + 1) its }) em hal' (by rw [hmap]; exact hk) fun d hm => by
        rw [hmap] at hm
        have := hdp d hm
        show X.A.units + 1 + 1 + _ < _
        omega
    · exact PlW.sorts_empty (s := { s with heap := sortingHeap (copyHeap s.heap its) (s.heap.objs.size + 1) its }) em (by rw [hmap]; exact hk) (by show X.A.units + 1 + 1 < _; omega)
  · have ho := sortVals_data (rev := false) e er' hal'
    have hlo := ho.length
    rw [List.length_mergeSort] at hlo
    obtain ⟨ep, he'⟩ := PyProof.Rows.sortedAll_at s.heap its (sortVals (dataKind (sortingHeap (copyHeap s.heap its) (s.heap.objs.size + 1) its) ((xs.zip ds).map (·.2))) false its its).toArray
    have hp := List.mergeSort_perm (xs.zip ds) (dataLe false (fun b : V × D => b.2))
    have hw : ((xs.zip ds).mergeSort (dataLe false (fun b : V × D => b.2))).Pairwise (fun x y => leD x.2 y.2 = true) := by
      have := List.pairwise_mergeSort (le := dataLe false (fun b : V × D => b.2)) (fun a b c h1 h2 => leD_trans a.2 b.2 c.2 h1 h2) (fun a b => leD_total a.2 b.2) (xs.zip ds)
      exact this
    have hlen3 : (((xs.zip ds).mergeSort (dataLe false (fun b : V × D => b.2))).map (·.1)).length ≤ sizeLine := by
      rw [List.length_map, List.length_mergeSort, List.length_zip]; omega
    refine ⟨.ref _, upd H (s.heap.objs.size + 1) (.lst (((xs.zip ds).mergeSort (dataLe false (fun b : V × D => b.2))).map (·.1))), I.laid (t' := s.toks) (fun _ _ => PyProof.Rows.sortedAll_old) (Nat.le_succ _) ⟨hlen3, _, ep, vals_fst ho, he'⟩, rfl, q _ _ hp hw (I.hok.fresh (Nat.le_succ _))⟩
end
section
variable {c : Cc} {Q : D → Prop}
theorem dpAll_pairs {K : PySem.W.Frag} {F : Hp} : ∀ {zs : List (V × D)}, (∀ z ∈ zs, Dp K F z.1 z.2) → DpAll K F (zs.map (·.1)) (zs.map (·.2))
  | [], _ => .nil
  | z :: zs, h => .cons (h z (.head _)) (dpAll_pairs fun y hy => h y (.tail _ hy))
theorem dpAll_zip' {K : PySem.W.Frag} {F : Hp} : ∀ {xs : List V} {ds : List D}, DpAll K F xs ds → ∀ z ∈ xs.zip ds, Dp K F z.1 z.2
  | _, _, .nil, z, h => by cases h
  | _, _, .cons h1 h2, z, h => by
    rcases List.mem_cons.mp h with rfl | h
    · exact h1
    · exact dpAll_zip' h2 z h
/-- sorted(a list of data that are alike) -/
theorem cp_sortedD {ds : List D} (hc : PyData.canLayAll0 ds = true) (hal : PySem.W.AllAlike ds) (hk : PySem.W.Sortable ds ∨ ∀ d ∈ ds, d = .tuple []) (hdp : ∀ d ∈ ds, d.depth ≤ 60)
    (q : ∀ zs : List D, zs.Perm ds → zs.Pairwise (fun x y => leD x y = true) → Q (.list zs)) : CallP c (.builtin "sorted") [.list ds] Q := .of fun X hX => ⟨_, cr_sortedD hX.u64, fun F H xs' R s h k => by
  obtain ⟨v, rfl, z⟩ := dp1 h
  obtain ⟨l, vs, rfl, h1, h2⟩ := dp_list z
  rw [hX.K]
  have hl := dpAll_len h2
  refine ⟨l, vs, ds, rfl, s.seq h1, (dpAll_mono s _ _ h2).kit hc, hl, hal, hk, hdp, fun zs p h3 h4 hp => ?_⟩
  have g := Grow.new_ (o := .lst (zs.map (·.1))) s hp
  refine k _ _ _ _ (q (zs.map (·.2)) ?_ ?_) g (.lst (.inl (.inl upd_same)) (dpAll_pairs fun y hy => dp_mono g.f _ _ (dpAll_zip' h2 y (h3.mem_iff.mp hy))))
  · have := h3.map (·.2)
    rw [List.map_snd_zip (by omega)] at this
    exact this
  · exact List.pairwise_map.mpr h4⟩
end
end Pl
set_option Elab.async false
set_option linter.all false
set_option maxRecDepth 100000
set_option maxHeartbeats 4000000
set_option autoImplicit false
namespace Pl
open PySem PySem.Spec PySem.W PyProof.Rows L2
/-! ### min of a list of data that are alike -/
section
variable {prog : Program} {w : World} {A : Around} {E : Value → Shared → Prop} {s : Shared}
theorem min_list_at {l : Addr} {vs : Array Value} {x : PyData} {xs : List PyData} {as : List Addr} {Q : Value → Shared → Prop} (hh : A.handled = none) (hl : s.heap.IsList l vs) (hr : ReadsAll s.heap vs.toList (x :: xs) as) (ha : AlikeAll (x :: xs)) (hu : A.units + 1 + PyData.depthAll (x :: xs) < cLine)
    (h : ∀ (i : Nat) v h' tk, vs[i]? = some v → (x :: xs)[i]? = some (minD x xs) → (∀ b o, s.heap.get? b = some o → h'.get? b = some o) → Q v { s with heap := h', toks := tk }) :
    wpAny (model prog w) A (call (.builtin "min") [.ref l]) Q E s := by
  have hn : vs.size = xs.length + 1 := readsAll_len hr
  refine call_min_walkH (iter_listW (A := A.in1) hh hl fun s₂ e W st hfp hw hk => ?_)
  refine ⟨_, _, _, _, _, _, _, s.heap, _, rfl, W, st, hfp, by omega, hw, hk, cmpIn_lt (A := A.in1) hr ha (by show A.units + 1 + _ < _; exact hu), fun v s' hP m => ?_⟩
  obtain ⟨h', tk, rfl, hk'⟩ := moved_old e rfl m
  have e1 : vs.size - 1 = xs.length := by omega
  obtain ⟨i1, e2⟩ := argBest_fold dataLt PyData.none x xs xs.length (Nat.le_refl _)
  rw [List.take_length] at e2
  rw [e1] at hP
  refine h _ v h' tk hP ?_ hk'
  unfold minD
  rw [← e2, List.getElem?_eq_getElem (by rw [List.length_cons]; omega), List.getD_eq_getElem?_getD, List.getElem?_eq_getElem (by rw [List.length_cons]; omega)]
  rfl
end
section
variable {X : Cx}
def rMinD (K : PySem.W.Frag) : List V → Hp → VK → Prop := fun vs H Q => ∃ (a : Addr) (xs : List V) (x : D) (ds : List D), vs = [V.ref a] ∧ SqL K H a xs ∧ L2.DpAll K H xs (x :: ds) ∧ AlikeAll (x :: ds) ∧ PyData.depthAll (x :: ds) ≤ 60 ∧
  ∀ (i : Nat) (v : V), xs[i]? = some v → (x :: ds)[i]? = some (minD x ds) → Q v H
theorem cr_minD (hc : X.calm = true) (hu : X.A.units + 64 < cLine) : CallR X (.builtin "min") (rMinD X.K) := by
  intro pins s σ H vs us Q I r h
  obtain ⟨a, xs, x, ds, rfl, hs, hd, hal, hdp, q⟩ := h
  obtain ⟨its, rv, hl, hz⟩ := I.list hs
  rw [Vals.ref1 r]
  obtain ⟨as, hr⟩ := L2.Dp.readsAll I (x :: ds) xs its hd rv
  refine min_list_at (I.ok.hd hc) hl.isList hr hal (by omega) fun i v h' tk hv hi hk => ?_
  have hv' : its[i]? = some v := by simpa using hv
  have hlt : i < xs.length := by rw [rv.length]; exact (List.getElem?_eq_some_iff.mp hv').1
  obtain ⟨u, e1, e2⟩ := rv.get (List.getElem?_eq_getElem hlt)
  rw [hv'] at e1
  cases e1
  exact ⟨_, H, I.kept hk, e2, q i _ (List.getElem?_eq_getElem hlt) hi⟩
end
section
variable {c : Cc} {Q : D → Prop}
theorem dpAll_ix {K : PySem.W.Frag} {F : Hp} : ∀ {xs : List V} {ds : List D} {i : Nat} {v : V} {d : D}, DpAll K F xs ds → xs[i]? = some v → ds[i]? = some d → Dp K F v d
  | _, _, 0, _, _, .cons h _, e1, e2 => by cases e1; cases e2; exact h
  | _, _, _ + 1, _, _, .cons _ t, e1, e2 => dpAll_ix t e1 e2
  | _, _, _, _, _, .nil, e1, _ => by cases e1
theorem cp_minD {x : D} {ds : List D} (hc : PyData.canLayAll0 (x :: ds) = true) (hal : AlikeAll (x :: ds)) (hdp : PyData.depthAll (x :: ds) ≤ 60) (q : Q (minD x ds)) : CallP c (.builtin "min") [.list (x :: ds)] Q := .of fun X hX => ⟨_, cr_minD hX.calm hX.u64, fun F H xs' R s h k => by
  obtain ⟨v, rfl, z⟩ := dp1 h
  obtain ⟨l, vs, rfl, h1, h2⟩ := dp_list z
  rw [hX.K]
  exact ⟨l, vs, x, ds, rfl, s.seq h1, (dpAll_mono s _ _ h2).kit hc, hal, hdp, fun i v e1 e2 => k _ _ F H q (Grow.refl s) (dpAll_ix h2 e1 e2)⟩⟩
/-- the least is the first, if it is before all others -/
theorem minD_first {x : D} : ∀ {ds : List D}, (∀ d ∈ ds, dataLt d x = false) → minD x ds = x
  | [], _ => rfl
  | d :: ds, h => by
    have ih := minD_first (x := x) (ds := ds) fun y hy => h y (.tail _ hy)
    unfold minD at ih ⊢
    rw [List.foldl_cons, if_neg (by rw [h d (.head _)]; exact Bool.false_ne_true), ih]
end
end Pl
set_option Elab.async false
set_option linter.all false
set_option maxRecDepth 100000
set_option maxHeartbeats 4000000
set_option autoImplicit false
namespace Pl
open PySem PySem.Spec PyProof.Rows L2
/-! ### rows of pairs as dicts: any keys, any values -/
section
variable {α β : Type} [DecidableEq α]
def getA (kvs : List (α × β)) (k : α) : Option β := (kvs.find? fun kv => decide (kv.1 = k)).map (·.2)
def setA (kvs : List (α × β)) (k : α) (v : β) : List (α × β) := if (getA kvs k).isSome = true then kvs.map (fun kv => if kv.1 = k then (kv.1, v) else kv) else kvs ++ [(k, v)]
theorem getA_nil {k : α} : getA ([] : List (α × β)) k = none := rfl
theorem getA_cons (p : α × β) (r : List (α × β)) (k : α) : getA (p :: r) k = if p.1 = k then some p.2 else getA r k := by
  unfold getA
  rw [List.find?_cons]
  by_cases e : p.1 = k
  · rw [decide_eq_true e, if_pos e]; rfl
  · rw [decide_eq_false e, if_neg e]
theorem getA_none {kvs : List (α × β)} {k : α} : getA kvs k = none ↔ k ∉ kvs.map (·.1) := by
  induction kvs with
  | nil => exact ⟨(fun _ h => by cases h), fun _ => rfl⟩
  | cons p r ih =>
    rw [getA_cons, List.map_cons, List.mem_cons, not_or]
    by_cases e : p.1 = k
    · rw [if_pos e]; exact ⟨fun h => (by cases h), fun h => absurd e.symm h.1⟩
    · rw [if_neg e, ih]; exact ⟨fun h => ⟨fun z => e z.symm, h⟩, fun h => h.2⟩
theorem getA_some {kvs : List (α × β)} {k : α} : (getA kvs k).isSome = true ↔ k ∈ kvs.map (·.1) := by
  cases e : getA kvs k with
  | none => exact ⟨fun h => (by cases h), fun h => absurd h (getA_none.mp e)⟩
  | some v =>
    refine ⟨fun _ => ?_, fun _ => rfl⟩
    apply Classical.byContradiction
    intro h
    rw [getA_none.mpr h] at e; cases e
theorem getA_mem {kvs : List (α × β)} {k : α} {v : β} (h : getA kvs k = some v) : (k, v) ∈ kvs := by
  induction kvs with
  | nil => cases h
  | cons p r ih =>
    rw [getA_cons] at h
    by_cases e : p.1 = k
    · rw [if_pos e] at h; cases h; rw [← e]; exact .head _
    · rw [if_neg e] at h; exact .tail _ (ih h)
theorem getA_snoc (kvs : List (α × β)) (k j : α) (v : β) : getA (kvs ++ [(k, v)]) j = match getA kvs j with | some x => some x | none => if k = j then some v else none := by
  induction kvs with
  | nil => rw [List.nil_append, getA_cons]; rfl
  | cons p r ih =>
    rw [List.cons_append, getA_cons, getA_cons]
    by_cases e : p.1 = j
    · rw [if_pos e, if_pos e]
    · rw [if_neg e, if_neg e, ih]
theorem getA_upd (kvs : List (α × β)) (k j : α) (v : β) : getA (kvs.map fun kv => if kv.1 = k then (kv.1, v) else kv) j = (getA kvs j).map fun x => if j = k then v else x := by
  induction kvs with
  | nil => rfl
  | cons p r ih =>
    rw [List.map_cons, getA_cons, getA_cons]
    by_cases e : p.1 = k
    · rw [if_pos e]
      by_cases e2 : p.1 = j
      · rw [if_pos e2, if_pos e2, Option.map_some, if_pos (e2.symm.trans e)]
      · rw [if_neg e2, if_neg e2, ih]
    · rw [if_neg e]
      by_cases e2 : p.1 = j
      · rw [if_pos e2, if_pos e2, Option.map_some, if_neg (fun z => e (e2.trans z))]
      · rw [if_neg e2, if_neg e2, ih]
theorem getA_set (kvs : List (α × β)) (k j : α) (v : β) : getA (setA kvs k v) j = if k = j then some v else getA kvs j := by
  unfold setA
  cases e : getA kvs k with
  | none =>
    show getA (kvs ++ [(k, v)]) j = _
    rw [getA_snoc]
    by_cases h : k = j
    · subst h; rw [e, if_pos rfl]
    · rw [if_neg h, if_neg h]; cases getA kvs j <;> rfl
  | some x =>
    show getA (kvs.map fun kv => if kv.1 = k then (kv.1, v) else kv) j = _
    rw [getA_upd]
    by_cases h : k = j
    · subst h; rw [e, if_pos rfl, Option.map_some, if_pos rfl]
    · rw [if_neg h]
      cases getA kvs j with
      | none => rfl
      | some y => rw [Option.map_some, if_neg (fun z => h z.symm)]
theorem setA_keys (kvs : List (α × β)) (k : α) (v : β) : (setA kvs k v).map (·.1) = if k ∈ kvs.map (·.1) then kvs.map (·.1) else kvs.map (·.1) ++ [k] := by
  unfold setA
  by_cases h : k ∈ kvs.map (·.1)
  · rw [if_pos (getA_some.mpr h), if_pos h, List.map_map]
    refine List.map_congr_left fun p _ => ?_
    show (if p.1 = k then (p.1, v) else p).1 = p.1
    split <;> rfl
  · rw [if_neg (fun z => h (getA_some.mp z)), if_neg h, List.map_append]; rfl
theorem setA_nodup {kvs : List (α × β)} (h : (kvs.map (·.1)).Nodup) (k : α) (v : β) : ((setA kvs k v).map (·.1)).Nodup := by
  rw [setA_keys]
  split
  · exact h
  · rename_i n
    rw [List.nodup_append]
    exact ⟨h, by simp, fun a ha b hb e => n (by rw [List.mem_singleton.mp hb] at e; exact e ▸ ha)⟩
theorem setA_len (kvs : List (α × β)) (k : α) (v : β) : (setA kvs k v).length ≤ kvs.length + 1 := by
  unfold setA
  split
  · rw [List.length_map]; omega
  · rw [List.length_append]; exact Nat.le_refl _
theorem setA_mem {kvs : List (α × β)} {k : α} {v : β} {p : α × β} (h : p ∈ setA kvs k v) : p = (k, v) ∨ p ∈ kvs := by
  unfold setA at h
  split at h
  · obtain ⟨q, hq, rfl⟩ := List.mem_map.mp h
    by_cases e : q.1 = k
    · rw [if_pos e, e]; exact .inl rfl
    · rw [if_neg e]; exact .inr hq
  · rcases List.mem_append.mp h with q | q
    · exact .inr q
    · exact .inl (List.mem_singleton.mp q)
theorem setA_new {kvs : List (α × β)} {k : α} {v : β} (h : k ∉ kvs.map (·.1)) : setA kvs k v = kvs ++ [(k, v)] := by
  unfold setA
  rw [if_neg (fun z => h (getA_some.mp z))]
theorem getA_of_mem {kvs : List (α × β)} (h : (kvs.map (·.1)).Nodup) {p : α × β} (hp : p ∈ kvs) : getA kvs p.1 = some p.2 := by
  induction kvs with
  | nil => cases hp
  | cons q r ih =>
    rw [List.map_cons, List.nodup_cons] at h
    rw [getA_cons]
    rcases List.mem_cons.mp hp with rfl | hp
    · rw [if_pos rfl]
    · rw [if_neg (fun e => h.1 (by rw [e]; exact List.mem_map.mpr ⟨p, hp, rfl⟩)), ih h.2 hp]
end
section
variable {α β κ : Type} [DecidableEq α] [DecidableEq κ]
/-- the row of a dict -/
def rowK (f : α → κ) (g : β → D) (kvs : List (α × β)) : List (κ × D) := kvs.map fun p => (f p.1, g p.2)
theorem rowK_keys (f : α → κ) (g : β → D) (kvs : List (α × β)) : (rowK f g kvs).map (·.1) = (kvs.map (·.1)).map f := by unfold rowK; rw [List.map_map, List.map_map]; rfl
theorem rowK_len (f : α → κ) (g : β → D) (kvs : List (α × β)) : (rowK f g kvs).length = kvs.length := List.length_map _
theorem getK_row {f : α → κ} {g : β → D} (hf : ∀ a b, f a = f b → a = b) (k : α) : ∀ kvs : List (α × β), getK (rowK f g kvs) (f k) = (getA kvs k).map g
  | [] => rfl
  | p :: r => by
    have ih := getK_row (g := g) hf k r
    rw [getA_cons]
    by_cases e : p.1 = k
    · rw [if_pos e]
      exact getK_pos (p := (f p.1, g p.2)) (congrArg f e)
    · rw [if_neg e, ← ih]
      exact getK_neg (p := (f p.1, g p.2)) (fun z => e (hf _ _ z))
theorem setK_row {f : α → κ} {g : β → D} (hf : ∀ a b, f a = f b → a = b) (kvs : List (α × β)) (k : α) (v : β) : setK (rowK f g kvs) (f k) (g v) = rowK f g (setA kvs k v) := by
  have e := getK_row (g := g) hf k kvs
  unfold setK setA
  rw [getK_any, e]
  cases getA kvs k with
  | none =>
    show rowK f g kvs ++ [(f k, g v)] = rowK f g (kvs ++ [(k, v)])
    unfold rowK; rw [List.map_append]; rfl
  | some x =>
    show (rowK f g kvs).map (fun kv => if kv.1 = f k then (kv.1, g v) else kv) = rowK f g (kvs.map fun kv => if kv.1 = k then (kv.1, v) else kv)
    unfold rowK
    rw [List.map_map, List.map_map]
    refine List.map_congr_left fun p _ => ?_
    show (if f p.1 = f k then (f p.1, g v) else (f p.1, g p.2)) = (f (if p.1 = k then (p.1, v) else p).1, g (if p.1 = k then (p.1, v) else p).2)
    by_cases z : p.1 = k
    · rw [if_pos z, if_pos (congrArg f z)]
    · rw [if_neg z, if_neg (fun y => z (hf _ _ y))]
end
theorem inl_inj : ∀ a b : Int, (Sum.inl a : Key) = Sum.inl b → a = b := fun _ _ h => Sum.inl.inj h
theorem inr_inj : ∀ a b : Str, (Sum.inr a : Key) = Sum.inr b → a = b := fun _ _ h => Sum.inr.inj h
theorem bt_key : ∀ a b : List Bool, (Sum.inr (bt a) : Key) = Sum.inr (bt b) → a = b := fun _ _ h => bt_inj (Sum.inr.inj h)
/-! how often each number stands in a row -/
def tally (xs : List Int) : List (Int × Int) := xs.foldl (fun cs x => setA cs x ((getA cs x).getD 0 + 1)) []
theorem tally_snoc (xs : List Int) (x : Int) : tally (xs ++ [x]) = setA (tally xs) x ((getA (tally xs) x).getD 0 + 1) := by unfold tally; rw [List.foldl_append]; rfl
theorem tally_next {α : Type} {xs : List α} {f : α → Int} {i : Nat} {x : α} (h : xs[i]? = some x) : tally ((xs.take (i + 1)).map f) = setA (tally ((xs.take i).map f)) (f x) ((getA (tally ((xs.take i).map f)) (f x)).getD 0 + 1) := by
  rw [List.take_add_one, h, ← tally_snoc, List.map_append]; rfl
theorem tally_ind {P : List Int → List (Int × Int) → Prop} (h0 : P [] []) (hs : ∀ xs x, P xs (tally xs) → P (xs ++ [x]) (tally (xs ++ [x]))) : ∀ xs, P xs (tally xs) := by
  intro xs
  have : ∀ (n : Nat) (ys : List Int), ys.length = n → P ys (tally ys) := by
    intro n
    induction n with
    | zero => intro ys h; rw [List.eq_nil_of_length_eq_zero h]; exact h0
    | succ n ih =>
      intro ys h
      have hne : ys ≠ [] := by intro z; rw [z] at h; cases h
      rw [← List.dropLast_concat_getLast hne]
      exact hs _ _ (ih _ (by rw [List.length_dropLast]; omega))
  exact this _ xs rfl
theorem tally_mem (xs : List Int) : ∀ k, k ∈ (tally xs).map (·.1) ↔ k ∈ xs := by
  refine tally_ind (P := fun xs cs => ∀ k, k ∈ cs.map (·.1) ↔ k ∈ xs) (fun k => Iff.rfl) (fun xs x ih k => ?_) xs
  rw [tally_snoc, setA_keys, List.mem_append, List.mem_singleton]
  split
  · rename_i h
    rw [ih]
    exact ⟨.inl, fun z => z.elim id fun e => e ▸ (ih x).mp h⟩
  · rw [List.mem_append, List.mem_singleton, ih]
theorem tally_nodup (xs : List Int) : ((tally xs).map (·.1)).Nodup :=
  tally_ind (P := fun _ cs => (cs.map (·.1)).Nodup) (by simp) (fun xs x ih => by rw [tally_snoc]; exact setA_nodup ih _ _) xs
theorem tally_len (xs : List Int) : (tally xs).length ≤ xs.length :=
  tally_ind (P := fun xs cs => cs.length ≤ xs.length) (Nat.le_refl _) (fun xs x ih => by rw [tally_snoc, List.length_append]; exact Nat.le_trans (setA_len _ _ _) (Nat.succ_le_succ ih)) xs
theorem tally_pos (xs : List Int) : ∀ p ∈ tally xs, 1 ≤ p.2 ∧ p.2 ≤ xs.length := by
  refine tally_ind (P := fun xs cs => ∀ p ∈ cs, 1 ≤ p.2 ∧ p.2 ≤ (xs.length : Int)) (fun p h => by cases h) (fun xs x ih p hp => ?_) xs
  rw [tally_snoc] at hp
  rw [List.length_append]
  rcases setA_mem hp with rfl | hp
  · cases e : getA (tally xs) x with
    | none => exact ⟨by simp, by simp; omega⟩
    | some v =>
      have := ih _ (getA_mem e)
      simp only [Option.getD_some, List.length_singleton]
      omega
  · have := ih p hp
    simp only [List.length_singleton]
    omega
/-- the one list in order -/
def srt (xs : List Int) : List Int := xs.mergeSort fun a b => decide (a ≤ b)
theorem srt_perm (xs : List Int) : (srt xs).Perm xs := List.mergeSort_perm _ _
theorem srt_pw (xs : List Int) : (srt xs).Pairwise (· ≤ ·) := by
  have := List.pairwise_mergeSort (le := fun a b : Int => decide (a ≤ b)) (fun a b c h1 h2 => decide_eq_true (Int.le_trans (of_decide_eq_true h1) (of_decide_eq_true h2))) (fun a b => by rcases Int.le_total a b with h | h <;> simp [h]) xs
  exact this.imp fun h => of_decide_eq_true h
theorem pw_one : ∀ {xs ys : List Int}, xs.Perm ys → xs.Pairwise (· ≤ ·) → ys.Pairwise (· ≤ ·) → xs = ys
  | [], ys, h, _, _ => (List.Perm.eq_nil h.symm).symm
  | x :: xs, [], h, _, _ => absurd h.length_eq (by simp)
  | x :: xs, y :: ys, h, h1, h2 => by
    have a1 := List.pairwise_cons.mp h1
    have a2 := List.pairwise_cons.mp h2
    have e : x = y := by
      have m1 : x ∈ y :: ys := h.mem_iff.mp (.head _)
      have m2 : y ∈ x :: xs := h.mem_iff.mpr (.head _)
      rcases List.mem_cons.mp m1 with e | m1
      · exact e
      rcases List.mem_cons.mp m2 with e | m2
      · exact e.symm
      exact Int.le_antisymm (a1.1 y m2) (a2.1 x m1)
    subst e
    rw [pw_one h.cons_inv a1.2 a2.2]
theorem srt_of {xs ys : List Int} (h1 : ys.Perm xs) (h2 : ys.Pairwise (· ≤ ·)) : ys = srt xs := pw_one (h1.trans (srt_perm xs).symm) h2 (srt_pw xs)
theorem srt_len (xs : List Int) : (srt xs).length = xs.length := (srt_perm xs).length_eq
theorem srt_mem (xs : List Int) {x : Int} : x ∈ srt xs ↔ x ∈ xs := (srt_perm xs).mem_iff
/-- the last one is the greatest -/
theorem srt_last {xs : List Int} {m : Int} (h : m ∈ xs) (h2 : ∀ y ∈ xs, y ≤ m) : (srt xs).getLast? = some m := by
  have hne : srt xs ≠ [] := by intro z; have := (srt_mem xs).mpr h; rw [z] at this; cases this
  rw [List.getLast?_eq_some_getLast hne]
  have hm := (srt_mem xs).mp (List.getLast_mem hne)
  refine congrArg some (Int.le_antisymm (h2 _ hm) ?_)
  have hp := srt_pw xs
  rw [← List.dropLast_concat_getLast hne, List.pairwise_append] at hp
  have hm2 := (srt_mem xs).mpr h
  rw [← List.dropLast_concat_getLast hne] at hm2
  rcases List.mem_append.mp hm2 with z | z
  · exact hp.2.2 m z _ (List.mem_singleton.mpr rfl)
  · rw [List.mem_singleton.mp z]; exact Int.le_refl _
end Pl
set_option Elab.async false
set_option linter.all false
set_option maxRecDepth 100000
set_option maxHeartbeats 4000000
set_option autoImplicit false
namespace Pl
open PySem PySem.Spec PyProof.Rows L2
/-! ### x.bit_length() of a number that is not negative -/
def bitsN (n : Nat) : Nat := if n = 0 then 0 else Nat.log2 n + 1
theorem intBits_nat (n : Nat) : Builtin.Int.intBits (n : Int) = bitsN n := by
  unfold Builtin.Int.intBits bitsN
  by_cases h : n = 0
  · subst h; rfl
  · rw [if_neg h, if_neg (by simpa using h)]; rfl
section
variable {c : Cc} {sp : List Sl} {Q : D → Prop} {a : Expr} {cpos apos : Pos}
theorem E_bits (h : E c a sp fun d => ∃ n : Nat, d = .int (n : Int) ∧ Q (.int ((bitsN n : Nat) : Int)))
    (hb : ∀ env, attributeBase a "bit_length" env (eval a env) = eval a env := by intro _; rfl) (hline : (apos.endLine == cpos.line) = true := by rfl) :
    E c (.Call (.Attribute a "bit_length" apos) [] [] cpos) sp Q := Sealed.of fun X hX G F0 F H σ r R k => by
  refine PE_tE (pe_bits pe_tE (hb _) hline) ?_
  refine h X hX G F0 F H σ r _ fun d v F1 H1 q g1 d1 => ?_
  obtain ⟨n, rfl, q⟩ := q
  cases d1
  refine ⟨_, rfl, ?_⟩
  rw [intBits_nat]
  exact k _ _ F1 H1 q g1 (.int _)
end
end Pl
set_option Elab.async false
set_option linter.all false
set_option maxRecDepth 100000
set_option maxHeartbeats 4000000
set_option autoImplicit false
namespace Pl
open PySem PySem.Spec PyProof.Rows L2
/-! ### xs[::-1] of a list that is read -/
section
variable {c : Cc} {sp : List Sl} {Q : D → Prop} {e : Expr} {pos : Pos}
theorem E_revL {kk : Nat} {p1 p2 p3 : Pos} (h : E c e sp fun d => ∃ xs, d = .list xs ∧ Q (.list xs.reverse)) : E c (.Subscript e (.Slice none none (some (.UnaryOp .USub (.Constant (.int 1) kk p1) p2)) p3) pos) sp Q := Sealed.of fun X hX G F0 F H σ r R k => by
  refine PE_tE (pe_revL pe_tE) ?_
  refine h X hX G F0 F H σ r _ fun d v F1 H1 q g1 d1 => ?_
  obtain ⟨xs, rfl, q⟩ := q
  obtain ⟨a, vs, rfl, h1, h2⟩ := dp_list d1
  rw [hX.K]
  refine ⟨a, vs, rfl, g1.fh.seq h1, fun p hp => ?_⟩
  have g3 := Grow.new_ (o := .lst vs.reverse) g1.fh hp
  exact k _ _ _ _ q (g1.trans g3) (.lst (.inl (.inl upd_same)) (dpAll_mono g3.f _ _ (dpAll_reverse h2)))
end
end Pl
set_option Elab.async false
set_option linter.all false
set_option maxRecDepth 100000
set_option maxHeartbeats 4000000
set_option autoImplicit false
namespace Pl
open PySem PySem.Spec PyProof.Rows L2
/-! ### {k: v, k: v, k: v}, a dict that is only read -/
theorem Grow.upd_in {F H F' H' : Hp} {p : Addr} {o : HO} (g : Grow F H F' H') (hn : H p = none) (hF : F' p = none) (ho : notFrz o = true := by rfl) : Grow F H (upd F' p o) (upd H' p o) := by
  refine ⟨fun b u e => ?_, fun b u e => ?_, fun b u e => ?_, fun a h1 h2 => ?_, fun z => (g.nf z).upd ho⟩
  · by_cases hb : b = p
    · subst hb; rw [g.f.free hF] at e; cases e
    · rw [upd_ne hb]; exact g.f _ _ e
  · by_cases hb : b = p
    · subst hb; rw [upd_same] at e ⊢; exact .of e
    · rw [upd_ne hb] at e ⊢; exact g.fh _ _ e
  · by_cases hb : b = p
    · subst hb; rw [hn] at e; cases e
    · rw [upd_ne hb]; exact g.h _ _ e
  · by_cases ha : a = p
    · subst ha; exact hn
    · rw [upd_ne ha] at h2; exact g.new a h1 h2
theorem Grow.keep_own {F H F' H' : Hp} {p : Addr} {o : HO} (g : Grow F H F' H') (hp : H p = some o) (hF : F p = none) : F' p = none := by
  cases e : F' p with
  | none => rfl
  | some u => have := g.new p hF (by rw [e]; exact fun z => by cases z); rw [hp] at this; cases this
section
variable {c : Cc} {sp : List Sl} {Q : D → Prop} {k1 k2 k3 v1 v2 v3 : Expr} {pos : Pos}
theorem E_disp3 (h : E c k1 sp fun g1 => E c v1 sp fun d1 => E c k2 sp fun g2 => E c v2 sp fun d2 => E c k3 sp fun g3 => E c v3 sp fun d3 => ∃ a b e : Key, (g1 = keyD a ∧ g2 = keyD b ∧ g3 = keyD e) ∧ (b ≠ a ∧ e ≠ a ∧ e ≠ b) ∧ Q (dkD [(a, d1), (b, d2), (e, d3)])) :
    E c (.Dict [some k1, some k2, some k3] [v1, v2, v3] pos) sp Q := Sealed.of fun X hX G F0 F H σ r R k => by
  refine PE_tE (pe_disp (pps_cons pe_tE pe_tE (pps_cons pe_tE pe_tE (pps_cons pe_tE pe_tE pps_nil))) rfl rfl (by simp) (by simp)) ?_
  intro p hp
  have g0 := Grow.out (o := .dK []) r.sf hp
  have hFp := r.sf.free hp
  refine h X hX G F0 F (upd H p (.dK [])) σ (r.grow g0) _ fun x1 w1 F1 H1 q1 g1 e1 => ?_
  refine Sealed.run q1 X hX G F0 F1 H1 σ ((r.grow g0).grow g1) _ fun y1 u1 F2 H2 q2 g2 e2 => ?_
  have G2 := g1.trans g2
  refine Sealed.run q2 X hX G F0 F2 H2 σ ((r.grow g0).grow G2) _ fun x2 w2 F3 H3 q3 g3 e3 => ?_
  have G3 := G2.trans g3
  refine Sealed.run q3 X hX G F0 F3 H3 σ ((r.grow g0).grow G3) _ fun y2 u2 F4 H4 q4 g4 e4 => ?_
  have G4 := G3.trans g4
  refine Sealed.run q4 X hX G F0 F4 H4 σ ((r.grow g0).grow G4) _ fun x3 w3 F5 H5 q5 g5 e5 => ?_
  have G5 := G4.trans g5
  refine Sealed.run q5 X hX G F0 F5 H5 σ ((r.grow g0).grow G5) _ fun y3 u3 F6 H6 q6 g6 e6 => ?_
  have G6 := G5.trans g6
  obtain ⟨a, b, e, ⟨rfl, rfl, rfl⟩, ⟨n1, n2, n3⟩, q⟩ := q6
  cases key_of e1
  cases key_of e3
  cases key_of e5
  have hp6 : H6 p = some (.dK []) := G6.h _ _ upd_same
  have hF6 : F6 p = none := G6.keep_own upd_same hFp
  refine ⟨hp6, [(a, u1), (b, u2), (e, u3)], rfl, by simp, ?_⟩
  have em : mergeK [] [(a, u1), (b, u2), (e, u3)] = [(a, u1), (b, u2), (e, u3)] := by
    unfold mergeK
    simp [putK, n1, n2, n3, Ne.symm n1, Ne.symm n2, Ne.symm n3]
  rw [em]
  have g := Grow.upd_in (o := .dK [(a, u1), (b, u2), (e, u3)]) (g0.trans G6) hp hF6
  have hs : Same F6 (upd F6 p (.dK [(a, u1), (b, u2), (e, u3)])) := same_upd hF6
  refine k _ _ _ _ q g ?_
  refine dk_ob p _ _ ⟨_, rfl, pairedD_mono hs (.cons ⟨rfl, ?_⟩ (.cons ⟨rfl, ?_⟩ (.cons ⟨rfl, e6⟩ .nil)))⟩ upd_same
  · exact dp_mono' (((g3.trans g4).trans g5).trans g6).f e2
  · exact dp_mono' (g5.trans g6).f e4
end
end Pl
set_option Elab.async false
set_option linter.all false
set_option maxRecDepth 100000
set_option maxHeartbeats 4000000
set_option autoImplicit false
namespace K10
open PySem PySem.Spec PyProof.Rows L2 Pl
local macro_rules | `(tactic| walk_at "int1") => `(tactic| refine cp_int ?_)
local macro_rules | `(tactic| walk_at "abs1") => `(tactic| refine cp_abs ?_)
local macro_rules | `(tactic| walk_at "len1") => `(tactic| first | refine cp_lenL ?_ | refine cp_lenT ?_ | refine cp_lenS (by assumption) ?_)
local macro_rules | `(tactic| walk_at "max2") => `(tactic| refine cp_max ?_)
local macro_rules | `(tactic| walk_at "min2") => `(tactic| refine cp_min ?_)
local macro_rules | `(tactic| walk_at "tuple1") => `(tactic| first | refine cp_tuple ?_ | refine cp_tupleT ?_)
local macro_rules | `(tactic| walk_at "list1") => `(tactic| first | refine cp_listL ?_ | refine cp_listT ?_)
local macro_rules | `(tactic| walk_at "sum1") => `(tactic| first | refine cp_sum ?_ | refine cp_sumT ?_)
local macro_rules | `(tactic| walk_at "all1") => `(tactic| refine cp_all ?_)
local macro_rules | `(tactic| walk_at "any1") => `(tactic| refine cp_any ?_)
local macro_rules | `(tactic| walk_at "add") => `(tactic| first | refine opp_add ?_ | refine opp_catS ?sz ?_ | refine opp_catA ?sz ?_)
local macro_rules | `(tactic| walk_at "iadd") => `(tactic| first | refine ipp_add ?_ | refine ipp_addS ?sz ?_)
local macro_rules | `(tactic| walk_at "mul") => `(tactic| first | exact .inl ⟨by omega, by omega⟩ | exact .inr ⟨by omega, by omega⟩)
local macro_rules | `(tactic| walk_at "eq") => `(tactic| first | refine opp_eqI ?_ | refine opp_eqS ?_ | refine opp_eqB ?_ | refine opp_eq2 ?_ | refine opp_eq rfl rfl ?_)
local macro_rules | `(tactic| walk_at "ne") => `(tactic| first | refine opp_neI ?_ | refine opp_neS ?_ | refine opp_neB ?_ | refine opp_ne2 ?_ | refine opp_ne rfl rfl ?_)
local macro_rules | `(tactic| walk_at "ix") => `(tactic| first | refine ixp_t20 ?_ | refine ixp_t21 ?_ | refine ixp_t30 ?_ | refine ixp_t31 ?_ | refine ixp_t32 ?_ | refine ixp_list ?ix ?_ | refine ixp_tup ?ix ?_ | refine ixp_str ?sz ?ix ?_)
local macro_rules | `(tactic| walk_at "slice") => `(tactic| first | refine slp_list ?_ | refine slp_tup ?_ | refine slp_str ?sz ?_)
local macro_rules | `(tactic| walk_at "max3") => `(tactic| refine cp_max3 ?_)
local macro_rules | `(tactic| walk_at "min3") => `(tactic| refine cp_min3 ?_)
def top (i : Nat) : Stmt := PySem.Challenge.pw_gearwright_k10_whole_figures_of_counters.main.body.getD i (.Pass ⟨0, 0, 0, 0⟩)
abbrev s_figures_of : Stmt := top 1
theorem sc_figures_of : FnScope ["bases", "number", "found", "base"] ["bases", "number"] (defScope s_figures_of) := ⟨rfl, rfl, rfl, by decide +kernel, rfl, by decide +kernel, by decide +kernel⟩
abbrev c_figures_of (m : Md) (k : Nat) : Cc := ⟨m, ["bases", "number", "found", "base"], defScope s_figures_of, fun _ => true, k, false⟩
abbrev s_number_of : Stmt := top 2
theorem sc_number_of : FnScope ["bases", "figures", "number", "base", "figure"] ["bases", "figures"] (defScope s_number_of) := ⟨rfl, rfl, rfl, by decide +kernel, rfl, by decide +kernel, by decide +kernel⟩
abbrev c_number_of (m : Md) (k : Nat) : Cc := ⟨m, ["bases", "figures", "number", "base", "figure"], defScope s_number_of, fun _ => true, k, false⟩
abbrev s_are_figures : Stmt := top 3
theorem sc_are_figures : FnScope ["bases", "figures", "figure", "base"] ["bases", "figures"] (defScope s_are_figures) := ⟨rfl, rfl, rfl, by decide +kernel, rfl, by decide +kernel, by decide +kernel⟩
abbrev c_are_figures (m : Md) (k : Nat) : Cc := ⟨m, ["bases", "figures", "figure", "base"], defScope s_are_figures, fun _ => true, k, true⟩
abbrev s_carry : Stmt := top 4
theorem sc_carry : FnScope ["bases", "number", "before", "behind", "one", "other"] ["bases", "number"] (defScope s_carry) := ⟨rfl, rfl, rfl, by decide +kernel, rfl, by decide +kernel, by decide +kernel⟩
abbrev c_carry (m : Md) (k : Nat) : Cc := ⟨m, ["bases", "number", "before", "behind", "one", "other"], defScope s_carry, fun _ => true, k, false⟩
abbrev s_carries_before : Stmt := top 5
theorem sc_carries_before : FnScope ["bases", "number", "whole", "step", "base"] ["bases", "number"] (defScope s_carries_before) := ⟨rfl, rfl, rfl, by decide +kernel, rfl, by decide +kernel, by decide +kernel⟩
abbrev c_carries_before (m : Md) (k : Nat) : Cc := ⟨m, ["bases", "number", "whole", "step", "base"], defScope s_carries_before, fun _ => true, k, false⟩
abbrev s_rabbits_up_to : Stmt := top 6
theorem sc_rabbits_up_to : FnScope ["number", "found", "rabbit"] ["number"] (defScope s_rabbits_up_to) := ⟨rfl, rfl, rfl, by decide +kernel, rfl, by decide +kernel, by decide +kernel⟩
abbrev c_rabbits_up_to (m : Md) (k : Nat) : Cc := ⟨m, ["number", "found", "rabbit"], defScope s_rabbits_up_to, fun _ => true, k, false⟩
abbrev s_rabbit_figures : Stmt := top 7
theorem sc_rabbit_figures : FnScope ["number", "text", "rabbit"] ["number"] (defScope s_rabbit_figures) := ⟨rfl, rfl, rfl, by decide +kernel, rfl, by decide +kernel, by decide +kernel⟩
abbrev c_rabbit_figures (m : Md) (k : Nat) : Cc := ⟨m, ["number", "text", "rabbit"], defScope s_rabbit_figures, fun _ => true, k, false⟩
abbrev s_rabbit_number : Stmt := top 8
theorem sc_rabbit_number : FnScope ["text", "number", "one", "other", "figure"] ["text"] (defScope s_rabbit_number) := ⟨rfl, rfl, rfl, by decide +kernel, rfl, by decide +kernel, by decide +kernel⟩
abbrev c_rabbit_number (m : Md) (k : Nat) : Cc := ⟨m, ["text", "number", "one", "other", "figure"], defScope s_rabbit_number, fun _ => true, k, false⟩
abbrev s_are_rabbit_figures : Stmt := top 9
theorem sc_are_rabbit_figures : FnScope ["text", "figure"] ["text"] (defScope s_are_rabbit_figures) := ⟨rfl, rfl, rfl, by decide +kernel, rfl, by decide +kernel, by decide +kernel⟩
abbrev c_are_rabbit_figures (m : Md) (k : Nat) : Cc := ⟨m, ["text", "figure"], defScope s_are_rabbit_figures, fun _ => true, k, true⟩
abbrev s_balanced_figures : Stmt := top 10
theorem sc_balanced_figures : FnScope ["number", "text", "rest"] ["number"] (defScope s_balanced_figures) := ⟨rfl, rfl, rfl, by decide +kernel, rfl, by decide +kernel, by decide +kernel⟩
abbrev c_balanced_figures (m : Md) (k : Nat) : Cc := ⟨m, ["number", "text", "rest"], defScope s_balanced_figures, fun _ => true, k, false⟩
abbrev s_balanced_number : Stmt := top 11
theorem sc_balanced_number : FnScope ["text", "number", "figure"] ["text"] (defScope s_balanced_number) := ⟨rfl, rfl, rfl, by decide +kernel, rfl, by decide +kernel, by decide +kernel⟩
abbrev c_balanced_number (m : Md) (k : Nat) : Cc := ⟨m, ["text", "number", "figure"], defScope s_balanced_number, fun _ => true, k, false⟩
abbrev s_law_cell : Stmt := top 13
theorem sc_law_cell : FnScope ["script", "k"] ["script", "k"] (defScope s_law_cell) := ⟨rfl, rfl, rfl, by decide +kernel, rfl, by decide +kernel, by decide +kernel⟩
abbrev c_law_cell (m : Md) (k : Nat) : Cc := ⟨m, ["script", "k"], defScope s_law_cell, fun _ => true, k, false⟩
abbrev s_law_draws : Stmt := top 14
theorem sc_law_draws : FnScope ["cell", "count", "rest", "digits", "seed", "draws", "k", "mixed"] ["cell", "count"] (defScope s_law_draws) := ⟨rfl, rfl, rfl, by decide +kernel, rfl, by decide +kernel, by decide +kernel⟩
abbrev c_law_draws (m : Md) (k : Nat) : Cc := ⟨m, ["cell", "count", "rest", "digits", "seed", "draws", "k", "mixed"], defScope s_law_draws, fun _ => true, k, false⟩
abbrev s_law_is_integer : Stmt := top 15
theorem sc_law_is_integer : FnScope ["value"] ["value"] (defScope s_law_is_integer) := ⟨rfl, rfl, rfl, by decide +kernel, rfl, by decide +kernel, by decide +kernel⟩
abbrev c_law_is_integer (m : Md) (k : Nat) : Cc := ⟨m, ["value"], defScope s_law_is_integer, fun _ => true, k, false⟩
abbrev s_law_is : Stmt := top 16
theorem sc_law_is : FnScope ["value", "due", "at"] ["value", "due"] (defScope s_law_is) := ⟨rfl, rfl, rfl, by decide +kernel, rfl, by decide +kernel, by decide +kernel⟩
abbrev c_law_is (m : Md) (k : Nat) : Cc := ⟨m, ["value", "due", "at"], defScope s_law_is, fun _ => true, k, false⟩
abbrev s_law_bent : Stmt := top 17
theorem sc_law_bent : FnScope ["row", "draws", "most", "way", "at", "odd"] ["row", "draws", "most"] (defScope s_law_bent) := ⟨rfl, rfl, rfl, by decide +kernel, rfl, by decide +kernel, by decide +kernel⟩
abbrev c_law_bent (m : Md) (k : Nat) : Cc := ⟨m, ["row", "draws", "most", "way", "at", "odd"], defScope s_law_bent, fun _ => true, k, false⟩
abbrev s_law_figures : Stmt := top 18
theorem sc_law_figures : FnScope ["bases", "number", "found", "base"] ["bases", "number"] (defScope s_law_figures) := ⟨rfl, rfl, rfl, by decide +kernel, rfl, by decide +kernel, by decide +kernel⟩
abbrev c_law_figures (m : Md) (k : Nat) : Cc := ⟨m, ["bases", "number", "found", "base"], defScope s_law_figures, fun _ => true, k, false⟩
abbrev s_law_rabbits : Stmt := top 19
theorem sc_law_rabbits : FnScope ["size", "found"] ["size"] (defScope s_law_rabbits) := ⟨rfl, rfl, rfl, by decide +kernel, rfl, by decide +kernel, by decide +kernel⟩
abbrev c_law_rabbits (m : Md) (k : Nat) : Cc := ⟨m, ["size", "found"], defScope s_law_rabbits, fun _ => true, k, false⟩
abbrev s_law_rabbit_value : Stmt := top 20
theorem sc_law_rabbit_value : FnScope ["text", "row", "at"] ["text"] (defScope s_law_rabbit_value) := ⟨rfl, rfl, rfl, by decide +kernel, rfl, by decide +kernel, by decide +kernel⟩
abbrev c_law_rabbit_value (m : Md) (k : Nat) : Cc := ⟨m, ["text", "row", "at"], defScope s_law_rabbit_value, fun _ => true, k, false⟩
abbrev s_law_balanced_value : Stmt := top 21
theorem sc_law_balanced_value : FnScope ["text", "number", "sign"] ["text"] (defScope s_law_balanced_value) := ⟨rfl, rfl, rfl, by decide +kernel, rfl, by decide +kernel, by decide +kernel⟩
abbrev c_law_balanced_value (m : Md) (k : Nat) : Cc := ⟨m, ["text", "number", "sign"], defScope s_law_balanced_value, fun _ => true, k, false⟩
abbrev s_law : Stmt := top 22
theorem sc_law : FnScope ["script", "draws", "bases", "product", "base", "sums", "number", "one", "other", "k", "due", "after", "asked", "fine", "small", "text", "at", "bent", "signed", "told", "figure", "sign"] ["script"] (defScope s_law) := ⟨rfl, rfl, rfl, by decide +kernel, rfl, by decide +kernel, by decide +kernel⟩
abbrev c_law (m : Md) (k : Nat) : Cc := ⟨m, ["script", "draws", "bases", "product", "base", "sums", "number", "one", "other", "k", "due", "after", "asked", "fine", "small", "text", "at", "bent", "signed", "told", "figure", "sign"], defScope s_law, fun _ => true, k, false⟩
/-! ### the law's own helpers -/
theorem boot_int : bootBuiltins "int" = some (.type "int") := by decide +kernel
theorem boot_tuple : bootBuiltins "tuple" = some (.type "tuple") := by decide +kernel
theorem boot_list : bootBuiltins "list" = some (.type "list") := by decide +kernel
theorem boot_abs : bootBuiltins "abs" = some (.builtin "abs") := by decide +kernel
theorem boot_len : bootBuiltins "len" = some (.builtin "len") := by decide +kernel
theorem boot_max : bootBuiltins "max" = some (.builtin "max") := by decide +kernel
theorem boot_min : bootBuiltins "min" = some (.builtin "min") := by decide +kernel
theorem boot_sum : bootBuiltins "sum" = some (.builtin "sum") := by decide +kernel
theorem boot_all : bootBuiltins "all" = some (.builtin "all") := by decide +kernel
theorem boot_any : bootBuiltins "any" = some (.builtin "any") := by decide +kernel
theorem boot_sorted : bootBuiltins "sorted" = some (.builtin "sorted") := by decide +kernel

def sp_law_cell : List D → (D → Prop) → Prop := fun ds Q => ∃ (ns : List Int) (j : Int), ds = [.list (ns.map .int), .int j] ∧ 0 ≤ j ∧ ∀ x : Int, Q (.int x)
theorem body_law_cell {m : Md} {k : Nat} (m_len : m.mg "len" = none) (ds : List D) (Q : D → Prop) (h : sp_law_cell ds Q) : S (c_law_cell m k) (defBody s_law_cell) (start0 ["script", "k"] ds) { nx := fun _ => Q .none, rt := Q } := by
  obtain ⟨ns, j, rfl, hj, q⟩ := h
  show S _ _ [.v _, .v _] _
  refine S_cons (S1_if ?_)
  refine T_cmp ?_
  refine E_var 1 ?_
  refine E_callB ?_ m_len boot_len
  refine A_cons ?_
  refine E_var 0 ?_
  refine A_nil ?_
  refine cp_lenL ?_
  refine opp_lt ?_
  refine ⟨_, rfl, ?_⟩
  refine iteD (fun h => ?_) (fun h => ?_)
  · refine S_cons (S1_ret ?_)
    refine E_ix ?_
    refine E_var 0 ?_
    refine E_var 1 ?_
    rw [List.length_map] at h
    have hl : j.toNat < ns.length := by omega
    refine ixp_list (d := .int ns[j.toNat]) ?_ (q _)
    rw [atI_of_nonneg hj, List.getElem?_map, List.getElem?_eq_getElem hl]
    rfl
  · refine S_nil ?_
    refine S_cons (S1_ret ?_)
    refine E_bin ?_
    refine E_bin ?_
    refine E_int ?_
    refine E_var 1 ?_
    refine opp_mul (by walk_at "mul") ?_
    refine E_int ?_
    refine opp_add ?_
    exact q _
theorem len_law_cell : ∀ ds (Q : D → Prop), sp_law_cell ds Q → ds.length = 2 := fun ds Q ⟨_, _, h, _⟩ => by rw [h]; rfl
theorem mono_law_cell : ∀ ds (Q Q' : D → Prop), (∀ d, Q d → Q' d) → sp_law_cell ds Q → sp_law_cell ds Q' := fun ds Q Q' hq ⟨a, b, h1, h2, h3⟩ => ⟨a, b, h1, h2, fun x => hq _ (h3 x)⟩

def sp_law_draws : List D → (D → Prop) → Prop := fun ds Q => ∃ (x : Int) (n : Nat), ds = [.int x, .int (n : Int)] ∧ n ≤ 1000 ∧ ∀ ns, okDraws n ns → Q (.list (ns.map .int))
theorem len_law_draws : ∀ ds (Q : D → Prop), sp_law_draws ds Q → ds.length = 2 := fun ds Q ⟨_, _, h, _⟩ => by rw [h]; rfl
theorem mono_law_draws : ∀ ds (Q Q' : D → Prop), (∀ d, Q d → Q' d) → sp_law_draws ds Q → sp_law_draws ds Q' := fun ds Q Q' hq ⟨a, b, h1, h2, h3⟩ => ⟨a, b, h1, h2, fun x hx => hq _ (h3 x hx)⟩
theorem body_law_draws {m : Md} {k : Nat} (m_abs : m.mg "abs" = none) (m_range : m.mg "range" = none) (m_int : m.mg "int" = none) (ds : List D) (Q : D → Prop) (h : sp_law_draws ds Q) : S (c_law_draws m k) (defBody s_law_draws) (start0 ["cell", "count", "rest", "digits", "seed", "draws", "k", "mixed"] ds) { nx := fun _ => Q .none, rt := Q } := by
  obtain ⟨x, n, rfl, hn, q⟩ := h
  show S _ _ [.v _, .v _, .un, .un, .un, .un, .un, .un] _
  refine S_cons (S1_set 2 sc_law_draws.nd ?_)
  refine E_callB ?_ m_abs boot_abs
  refine A_cons ?_
  refine E_callTy ?_ m_int boot_int
  refine A_cons ?_
  refine E_var 0 ?_
  refine A_nil ?_
  walk_at "int1"
  refine A_nil ?_
  walk_at "abs1"
  refine S_cons (S1_set 3 sc_law_draws.nd ?_)
  refine E_cmp ?_
  refine E_var 2 ?_
  refine E_bin ?_
  refine E_int ?_
  refine E_int ?_
  refine opp_pow ⟨by decide, by decide, by decide⟩ ?_
  refine opp_ge ?_
  refine S_cons (S1_set 4 sc_law_draws.nd ?_)
  refine E_var 2 ?_
  refine S_cons (S1_setL 5 sc_law_draws.nd (EF_lst ?_))
  refine A_nil ?_
  refine ⟨(by show (0 : Nat) ≤ sizeLine; decide), ?_⟩
  refine S_cons (S1_for (ws := [6]) ?_)
  refine W_range1 ?_ m_range
  refine E_var 1 ?_
  refine ⟨_, rfl, ⟨by omega, by omega⟩, ?_⟩
  generalize hsd : ((x.natAbs : Nat) : Int) = seed
  generalize hdg : decide ((10 : Int) ^ (18 : Int).toNat ≤ seed) = dg
  have hseed : 0 ≤ seed := by omega
  rw [show ((n : Int)).toNat = n from by omega]
  refine For_range (fun i sp' => ∃ (rest : Int) (ns : List Int) (y6 y7 : Sl), 0 ≤ rest ∧ okDraws i ns ∧ sp' = [.v (.int x), .v (.int (n : Int)), .v (.int rest), .v (.bool dg), .v (.int seed), .l (ns.map .int), y6, y7]) ?f0 (fun i sp' hi hI => ?fs) (fun sp' hI => ?ff)
  case f0 => exact ⟨seed, [], .un, .un, hseed, ⟨rfl, fun y hy => by cases hy⟩, rfl⟩
  case fs =>
    obtain ⟨rest, ns, y6, y7, hr, hns, rfl⟩ := hI
    refine Asg_name 6 sc_law_draws.nd ?_
    have hlen : (ns.map PyData.int).length < sizeLine := by rw [List.length_map, hns.1]; exact small_of (by omega)
    refine S_cons (S1_if ?_)
    refine Wt_T ?_
    apply TJ_and
    ·
      refine T_tru ?_
      refine E_var 3 ?_
      refine ⟨trivial, ?_⟩
      exact rfl
    ·
      intro hb
      refine Wt_and1 ?_
      refine T_cmp ?_
      refine E_var 2 ?_
      refine E_int ?_
      refine opp_gt ?_
      refine ⟨_, rfl, ?_⟩
      exact rfl
    refine iteB (fun h => ?_) (fun h => ?_)
    · -- draws.append(int(rest) % 5040)
      refine S_cons (S1_append 5 rfl ?_)
      refine E_bin ?_
      refine E_callTy ?_ m_int boot_int
      refine A_cons ?_
      refine E_var 2 ?_
      refine A_nil ?_
      walk_at "int1"
      refine E_int ?_
      refine opp_mod (by omega) ?_
      refine ⟨hlen, ?_⟩
      refine S_cons (S1_set 2 sc_law_draws.nd ?_)
      refine E_bin ?_
      refine E_var 2 ?_
      refine E_int ?_
      refine opp_div ⟨by omega, by omega⟩ ?_
      refine S_nil ?_
      refine S_nil ?_
      refine ⟨rest / 5040, ns ++ [rest % 5040], .v (.int (0 + (i : Int))), y7, by omega, okDraws_snoc hns (by omega) (by omega), ?_⟩
      rw [List.map_append]
      rfl
    · -- mixed = int(seed * 48271 + (k + 1) * 69621 + 11) % 2147483647
      refine S_cons (S1_set 7 sc_law_draws.nd ?_)
      refine E_bin ?_
      refine E_callTy ?_ m_int boot_int
      refine A_cons ?_
      refine E_bin ?_
      refine E_bin ?_
      refine E_bin ?_
      refine E_var 4 ?_
      refine E_int ?_
      refine opp_mul (by walk_at "mul") ?_
      refine E_bin ?_
      refine E_bin ?_
      refine E_var 6 ?_
      refine E_int ?_
      walk_at "add"
      refine E_int ?_
      refine opp_mul (by walk_at "mul") ?_
      walk_at "add"
      refine E_int ?_
      walk_at "add"
      refine A_nil ?_
      walk_at "int1"
      refine E_int ?_
      refine opp_mod (by omega) ?_
      generalize hmx : (seed * 48271 + (0 + (i : Int) + 1) * 69621 + 11) % 2147483647 = mx
      have h1 : 0 ≤ mx ∧ mx < 2147483647 := by omega
      refine S_cons (S1_set 7 sc_law_draws.nd ?_)
      refine E_bin ?_
      refine E_callTy ?_ m_int boot_int
      refine A_cons ?_
      refine E_bin ?_
      refine E_bin ?_
      refine E_var 7 ?_
      refine E_var 7 ?_
      refine opp_mul (by walk_at "mul") ?_
      refine E_bin ?_
      refine E_int ?_
      refine E_bin ?_
      refine E_var 6 ?_
      refine E_int ?_
      walk_at "add"
      refine opp_mul (by walk_at "mul") ?_
      walk_at "add"
      refine A_nil ?_
      walk_at "int1"
      refine E_int ?_
      refine opp_mod (by omega) ?_
      generalize hmy : (mx * mx + 40692 * (0 + (i : Int) + 3)) % 2147483399 = my
      have h2 : 0 ≤ my ∧ my < 2147483399 := by omega
      refine S_cons (S1_append 5 rfl ?_)
      refine E_bin ?_
      refine E_callTy ?_ m_int boot_int
      refine A_cons ?_
      refine E_bin ?_
      refine E_var 7 ?_
      refine E_int ?_
      refine opp_div ⟨by omega, by omega⟩ ?_
      refine A_nil ?_
      walk_at "int1"
      refine E_int ?_
      refine opp_mod (by omega) ?_
      refine ⟨hlen, ?_⟩
      refine S_nil ?_
      refine S_nil ?_
      refine ⟨rest, ns ++ [my / 64 % 5040], .v (.int (0 + (i : Int))), .v (.int my), hr, okDraws_snoc hns (by omega) (by omega), ?_⟩
      rw [List.map_append]
      rfl
  case ff =>
    obtain ⟨rest, ns, y6, y7, hr, hns, rfl⟩ := hI
    refine S_freeze 5 rfl ?_
    refine S_cons (S1_ret ?_)
    refine E_var 5 ?_
    exact q _ hns

def sp_law_is_integer : List D → (D → Prop) → Prop := fun ds Q => ∃ v, ds = [v] ∧ Q (.bool (isiD v "int" && !isiD v "bool"))
theorem len_law_is_integer : ∀ ds (Q : D → Prop), sp_law_is_integer ds Q → ds.length = 1 := fun ds Q ⟨_, h, _⟩ => by rw [h]; rfl
theorem mono_law_is_integer : ∀ ds (Q Q' : D → Prop), (∀ d, Q d → Q' d) → sp_law_is_integer ds Q → sp_law_is_integer ds Q' := fun ds Q Q' hq ⟨a, h1, h2⟩ => ⟨a, h1, hq _ h2⟩
theorem body_law_is_integer {m : Md} {k : Nat} (m_isinstance : m.mg "isinstance" = none) (m_int : m.mg "int" = none) (m_bool : m.mg "bool" = none) (ds : List D) (Q : D → Prop) (h : sp_law_is_integer ds Q) : S (c_law_is_integer m k) (defBody s_law_is_integer) (start0 ["value"] ds) { nx := fun _ => Q .none, rt := Q } := by
  obtain ⟨i, rfl, q⟩ := h
  show S _ _ [.v _] _
  refine S_cons (S1_ret ?_)
  apply EJ_and
  ·
    refine E_isi (T := "int") ?_ m_isinstance m_int
    refine E_var 0 ?_
    exact rfl
  ·
    intro hb
    refine E_one ?_
    refine E_not ?_
    refine E_isi (T := "bool") ?_ m_isinstance m_bool
    refine E_var 0 ?_
    refine ⟨_, rfl, ?_⟩
    exact rfl
  exact q

def sp_law_is (n : Nat) : List D → (D → Prop) → Prop := fun ds Q => ∃ v d, ds = [v, d] ∧ plainD n d ∧ Q (.bool (sameD v d))
theorem len_law_is (n : Nat) : ∀ ds (Q : D → Prop), sp_law_is n ds Q → ds.length = 2 := fun ds Q ⟨_, _, h, _⟩ => by rw [h]; rfl
theorem mono_law_is (n : Nat) : ∀ ds (Q Q' : D → Prop), (∀ d, Q d → Q' d) → sp_law_is n ds Q → sp_law_is n ds Q' := fun ds Q Q' hq ⟨a, b, h1, h2, h3⟩ => ⟨a, b, h1, h2, hq _ h3⟩
theorem body_law_is {m : Md} {n : Nat} (m_isinstance : m.mg "isinstance" = none) (m_bool : m.mg "bool" = none) (m_int : m.mg "int" = none) (m_str : m.mg "str" = none) (m_all : m.mg "all" = none) (m_tuple : m.mg "tuple" = none) (m_len : m.mg "len" = none) (m_range : m.mg "range" = none) (F_law_is_integer : Fd m "_law_is_integer" 1 1 sp_law_is_integer)
    (F_law_is : ∀ n', n = n' + 1 → Fd m "_law_is" (n' + 2) 2 (sp_law_is n')) (ds : List D) (Q : D → Prop) (h : sp_law_is n ds Q) : S (c_law_is m (n + 1)) (defBody s_law_is) (start0 ["value", "due", "at"] ds) { nx := fun _ => Q .none, rt := Q } := by
  obtain ⟨v, d, rfl, hp, q⟩ := h
  show S _ _ [.v _, .v _, .un] _
  refine S_cons (S1_if ?_)
  refine T_cmp ?_
  refine E_var 1 ?_
  refine E_none ?_
  refine opp_is ?_
  refine ⟨_, rfl, ?_⟩
  have step1 : isNon d = false → S (c_law_is m (n + 1)) ((defBody s_law_is).drop 1) [.v v, .v d, .un] { nx := fun _ => Q .none, rt := Q } := by
    intro hd
    refine S_cons (S1_if ?_)
    refine T_val ?_
    refine E_isi (T := "bool") ?_ m_isinstance m_bool
    refine E_var 1 ?_
    refine ⟨_, rfl, ?_⟩
    cases d with
    | none => cases hd
    | dict kvs => cases n <;> exact hp.elim
    | list xs => cases n <;> exact hp.elim
    | bool b =>
      refine iteT' (by simp [isiD]) ?_
      refine S_cons (S1_ret ?_)
      refine EJ_and (k := isiD v "bool") (k' := (match v with | .bool a => a == b | _ => false)) ?_ ?_ ?_
      · refine E_isi (T := "bool") ?_ m_isinstance m_bool
        refine E_var 0 ?_
        exact rfl
      · intro hb
        refine E_one ?_
        cases v with
        | bool a =>
          refine E_cmp ?_
          refine E_var 0 ?_
          refine E_var 1 ?_
          refine opp_eqB ?_
          exact rfl
        | _ => exact absurd hb (by simp [isiD])
      · cases v with
        | bool a => exact q
        | _ => exact q
    | int b =>
      refine iteF' (by simp [isiD]) ?_
      refine S_nil ?_
      refine S_cons (S1_if ?_)
      refine T_val ?_
      refine E_isi (T := "int") ?_ m_isinstance m_int
      refine E_var 1 ?_
      refine ⟨_, rfl, ?_⟩
      refine iteT' (by simp [isiD]) ?_
      refine S_cons (S1_ret ?_)
      refine EJ_and (k := (isiD v "int" && !isiD v "bool")) (k' := (match v with | .int a => decide (a = b) | _ => false)) ?_ ?_ ?_
      · refine E_call F_law_is_integer (show 1 ≤ n + 1 by omega) ?_
        refine A_cons ?_
        refine E_var 0 ?_
        refine A_nil ?_
        exact ⟨_, rfl, rfl⟩
      · intro hb
        refine E_one ?_
        cases v with
        | int a =>
          refine E_cmp ?_
          refine E_var 0 ?_
          refine E_var 1 ?_
          refine opp_eqI ?_
          exact rfl
        | _ => exact absurd hb (by simp [isiD])
      · cases v with
        | int a => exact q
        | _ => exact q
    | str b =>
      refine iteF' (by simp [isiD]) ?_
      refine S_nil ?_
      refine S_cons (S1_if ?_)
      refine T_val ?_
      refine E_isi (T := "int") ?_ m_isinstance m_int
      refine E_var 1 ?_
      refine ⟨_, rfl, ?_⟩
      refine iteF' (by simp [isiD]) ?_
      refine S_nil ?_
      refine S_cons (S1_if ?_)
      refine T_val ?_
      refine E_isi (T := "str") ?_ m_isinstance m_str
      refine E_var 1 ?_
      refine ⟨_, rfl, ?_⟩
      refine iteT' (by simp [isiD]) ?_
      refine S_cons (S1_ret ?_)
      refine EJ_and (k := isiD v "str") (k' := (match v with | .str a => decide (a = b) | _ => false)) ?_ ?_ ?_
      · refine E_isi (T := "str") ?_ m_isinstance m_str
        refine E_var 0 ?_
        exact rfl
      · intro hb
        refine E_one ?_
        cases v with
        | str a =>
          refine E_cmp ?_
          refine E_var 0 ?_
          refine E_var 1 ?_
          refine opp_eqS ?_
          exact rfl
        | _ => exact absurd hb (by simp [isiD])
      · cases v with
        | str a => exact q
        | _ => exact q
    | tuple ys =>
      cases n with
      | zero => exact hp.elim
      | succ n' =>
        obtain ⟨hsz, hp⟩ : ys.length ≤ sizeLine ∧ ∀ x ∈ ys, plainD n' x := hp
        have hs62 : (ys.length : Int) < 2 ^ 62 := by
          have : sizeLine = 16777216 := sizeLine_eq
          omega
        refine iteF' (by simp [isiD]) ?_
        refine S_nil ?_
        refine S_cons (S1_if ?_)
        refine T_val ?_
        refine E_isi (T := "int") ?_ m_isinstance m_int
        refine E_var 1 ?_
        refine ⟨_, rfl, ?_⟩
        refine iteF' (by simp [isiD]) ?_
        refine S_nil ?_
        refine S_cons (S1_if ?_)
        refine T_val ?_
        refine E_isi (T := "str") ?_ m_isinstance m_str
        refine E_var 1 ?_
        refine ⟨_, rfl, ?_⟩
        refine iteF' (by simp [isiD]) ?_
        refine S_nil ?_
        refine S_cons (S1_if ?_)
        refine Wt_T ?_
        refine TJ_or (k := !isiD v "tuple") (k' := (match v with | .tuple xs => !decide ((xs.length : Int) = (ys.length : Int)) | _ => false)) ?_ ?_ ?_
        · refine T_not ?_
          refine T_val ?_
          refine E_isi (T := "tuple") ?_ m_isinstance m_tuple
          refine E_var 0 ?_
          refine ⟨_, rfl, ?_⟩
          exact rfl
        · intro hb
          refine Wt_or1 ?_
          cases v with
          | tuple xs =>
            refine T_cmp ?_
            refine E_callB ?_ m_len boot_len
            refine A_cons ?_
            refine E_var 0 ?_
            refine A_nil ?_
            refine cp_lenT ?_
            refine E_callB ?_ m_len boot_len
            refine A_cons ?_
            refine E_var 1 ?_
            refine A_nil ?_
            refine cp_lenT ?_
            refine opp_neI ?_
            exact ⟨_, rfl, rfl⟩
          | _ => exact absurd hb (by simp [isiD])
        · refine iteB (fun h => ?_) (fun h => ?_)
          · refine S_cons (S1_ret ?_)
            refine E_bool ?_
            have e : sameD v (.tuple ys) = false := by
              cases v with
              | tuple xs =>
                cases hs : sameD (.tuple xs) (.tuple ys) with
                | false => rfl
                | true =>
                  have := sameL_len hs
                  simp [isiD, this] at h
              | _ => rfl
            rw [e] at q
            exact q
          · refine S_nil ?_
            cases v with
            | tuple xs =>
              have hl : xs.length = ys.length := by
                have h2 : (!isiD (.tuple xs) "tuple" || !decide ((xs.length : Int) = (ys.length : Int))) = false := h
                rw [Bool.or_eq_false_iff] at h2
                have h3 := h2.2
                simp at h3
                omega
              refine S_cons (S1_ret ?_)
              refine E_callB ?_ m_all boot_all
              refine A_cons ?_
              refine E_EF ?_
              refine EF_lc (own := [("at", 2)]) (ws := [2]) sc_law_is.nd (by show blkC ["value", "due", "at"] (defScope s_law_is) _ _ = true; decide +kernel) (by decide) ?_
              refine W_range1 ?_ m_range
              refine E_callB ?_ m_len boot_len
              refine A_cons ?_
              refine E_var 1 ?_
              refine A_nil ?_
              refine cp_lenT ?_
              refine ⟨_, rfl, ⟨by omega, by omega⟩, ?_⟩
              rw [show ((ys.length : Int)).toNat = ys.length from by omega]
              refine Lc_map (rangeI 0 ys.length) PyData.int (fun x => .bool (sameD (xs.getD x.toNat .none) (ys.getD x.toNat .none))) (rangeD_eq _ _) (by rw [rangeI_len]; exact hsz) (fun x hx => ?_) ?_
              · have hx' := mem_rangeI.mp hx
                have h1 : x.toNat < ys.length := by omega
                have h2 : x.toNat < xs.length := by omega
                refine Asg_name 2 sc_law_is.nd ?_
                refine E_call (F_law_is n' rfl) (show n' + 2 ≤ n' + 1 + 1 by omega) ?_
                refine A_cons ?_
                refine E_ix ?_
                refine E_var 0 ?_
                refine E_var 2 ?_
                refine ixp_tup (d := xs.getD x.toNat .none) (by rw [atI_of_nonneg hx'.1, List.getElem?_eq_getElem h2, List.getD_eq_getElem?_getD, List.getElem?_eq_getElem h2]; rfl) ?_
                refine A_cons ?_
                refine E_ix ?_
                refine E_var 1 ?_
                refine E_var 2 ?_
                refine ixp_tup (d := ys.getD x.toNat .none) (by rw [atI_of_nonneg hx'.1, List.getElem?_eq_getElem h1, List.getD_eq_getElem?_getD, List.getElem?_eq_getElem h1]; rfl) ?_
                refine A_nil ?_
                refine ⟨_, _, rfl, hp _ ?_, rfl⟩
                rw [List.getD_eq_getElem?_getD, List.getElem?_eq_getElem h1]
                exact List.getElem_mem h1
              · refine A_nil ?_
                have e1 : ((rangeI 0 ys.length).map fun x => PyData.bool (sameD (xs.getD x.toNat .none) (ys.getD x.toNat .none))) = ((List.range ys.length).map fun i => sameD (xs.getD i .none) (ys.getD i .none)).map PyData.bool := by
                  unfold rangeI
                  rw [List.map_map, List.map_map]
                  apply List.map_congr_left
                  intro i _
                  show PyData.bool (sameD (xs.getD (0 + (i : Int)).toNat .none) (ys.getD (0 + (i : Int)).toNat .none)) = _
                  rw [show (0 + (i : Int)).toNat = i from by omega]
                  rfl
                rw [e1]
                refine cp_all ?_
                have e2 : ((List.range ys.length).map fun i => sameD (xs.getD i .none) (ys.getD i .none)).all id = sameD (.tuple xs) (.tuple ys) := by
                  show _ = sameL xs ys
                  rw [sameL_all hl, List.all_map]
                  rfl
                rw [e2]
                exact q
            | _ => exact absurd h (by simp [isiD])
  cases d with
  | none =>
    refine iteT' rfl ?_
    refine S_cons (S1_ret ?_)
    refine E_cmp ?_
    refine E_var 0 ?_
    refine E_none ?_
    refine opp_is ?_
    have e : sameD v .none = isNon v := by cases v <;> rfl
    rw [e] at q
    exact q
  | _ => exact iteF' rfl (S_nil (step1 rfl))
end K10
set_option autoImplicit false
set_option linter.all false
namespace LW
open PySem Pl
/-! words over 0 and 1, all of one length -/
abbrev Wd := List Bool
def bit (w : Wd) (i : Nat) : Bool := w.getD i false
def zr (n : Nat) : Wd := List.replicate n false
def xr (a b : Wd) : Wd := (List.range a.length).map fun i => bit a i != bit b i
theorem bit_of {w : Wd} {i : Nat} (h : i < w.length) : bit w i = w[i] := by
  unfold bit
  rw [List.getD_eq_getElem?_getD, List.getElem?_eq_getElem h]; rfl
theorem bit_ge {w : Wd} {i : Nat} (h : w.length ≤ i) : bit w i = false := by
  unfold bit
  rw [List.getD_eq_getElem?_getD, List.getElem?_eq_none h]; rfl
theorem wext {a b : Wd} (hl : a.length = b.length) (h : ∀ i, i < a.length → bit a i = bit b i) : a = b := by
  refine List.ext_getElem hl fun i h1 h2 => ?_
  rw [← bit_of h1, ← bit_of h2, h i h1]
theorem xr_len (a b : Wd) : (xr a b).length = a.length := by unfold xr; rw [List.length_map, List.length_range]
theorem xr_bit {a b : Wd} {i : Nat} (h : i < a.length) : bit (xr a b) i = (bit a i != bit b i) := by
  rw [bit_of (by rw [xr_len]; exact h)]
  unfold xr
  rw [List.getElem_map, List.getElem_range]
theorem zr_len (n : Nat) : (zr n).length = n := List.length_replicate
theorem zr_bit (n i : Nat) : bit (zr n) i = false := by
  by_cases h : i < n
  · rw [bit_of (by rw [zr_len]; exact h)]
    unfold zr
    rw [List.getElem_replicate]
  · exact bit_ge (by rw [zr_len]; omega)
theorem xr_zr {a : Wd} {n : Nat} : xr a (zr n) = a := wext (xr_len _ _) fun i h => by
  rw [xr_len] at h
  rw [xr_bit h, zr_bit]; cases bit a i <;> rfl
theorem zr_xr {a : Wd} {n : Nat} (h : a.length = n) : xr (zr n) a = a := wext (by rw [xr_len, zr_len, h]) fun i hi => by
  rw [xr_len] at hi
  rw [xr_bit hi, zr_bit]; cases bit a i <;> rfl
theorem xr_self {a : Wd} {n : Nat} (h : a.length = n) : xr a a = zr n := wext (by rw [xr_len, zr_len, h]) fun i hi => by
  rw [xr_len] at hi
  rw [xr_bit hi, zr_bit]; cases bit a i <;> rfl
theorem xr_comm {a b : Wd} (h : a.length = b.length) : xr a b = xr b a := wext (by rw [xr_len, xr_len, h]) fun i hi => by
  rw [xr_len] at hi
  rw [xr_bit hi, xr_bit (by omega)]; cases bit a i <;> cases bit b i <;> rfl
theorem xr_assoc {a b d : Wd} (h : a.length = b.length) : xr (xr a b) d = xr a (xr b d) := wext (by rw [xr_len, xr_len, xr_len]) fun i hi => by
  rw [xr_len, xr_len] at hi
  rw [xr_bit (by rw [xr_len]; exact hi), xr_bit hi, xr_bit hi, xr_bit (by omega)]
  cases bit a i <;> cases bit b i <;> cases bit d i <;> rfl
theorem xr_back {a b : Wd} (h : a.length = b.length) : xr (xr a b) b = a := by rw [xr_assoc h, xr_self rfl, xr_zr]
theorem xr_iff {a b d : Wd} (h : a.length = b.length) (h2 : d.length = b.length) : xr a b = d ↔ a = xr d b := by
  constructor
  · rintro rfl; rw [xr_back h]
  · rintro rfl; rw [xr_back h2]
/-! what is spanned -/
inductive Sp (n : Nat) (ws : List Wd) : Wd → Prop
  | zero : Sp n ws (zr n)
  | add {v w : Wd} : Sp n ws v → w ∈ ws → Sp n ws (xr v w)
def Lens (n : Nat) (ws : List Wd) : Prop := ∀ w ∈ ws, w.length = n
theorem Sp.len {n : Nat} {ws : List Wd} {v : Wd} (h : Sp n ws v) : v.length = n := by
  induction h with
  | zero => exact zr_len n
  | add _ _ ih => rw [xr_len, ih]
theorem Sp.sum {n : Nat} {ws : List Wd} (hl : Lens n ws) {v u : Wd} (hv : Sp n ws v) (hu : Sp n ws u) : Sp n ws (xr v u) := by
  induction hu with
  | zero => rw [xr_zr]; exact hv
  | add h1 h2 ih => rw [← xr_assoc (by rw [hv.len, h1.len])]; exact .add ih h2
theorem Sp.one {n : Nat} {ws : List Wd} {w : Wd} (hw : w ∈ ws) (h : w.length = n) : Sp n ws w := by
  have := Sp.add (n := n) (Sp.zero (ws := ws)) hw
  rwa [zr_xr h] at this
theorem Sp.mono {n : Nat} {ws vs : List Wd} (hl : Lens n vs) (h : ∀ w ∈ ws, Sp n vs w) {v : Wd} (hv : Sp n ws v) : Sp n vs v := by
  induction hv with
  | zero => exact .zero
  | add _ h2 ih => exact ih.sum hl (h _ h2)
theorem Lens.snoc {n : Nat} {ws : List Wd} {w : Wd} (h : Lens n ws) (hw : w.length = n) : Lens n (ws ++ [w]) := fun v hv => by
  rcases List.mem_append.mp hv with z | z
  · exact h v z
  · rw [List.mem_singleton.mp z]; exact hw
theorem sp_snoc {n : Nat} {ws : List Wd} {w : Wd} (hl : Lens n ws) (hw : w.length = n) {t : Wd} (ht : t.length = n) : Sp n (ws ++ [w]) t ↔ Sp n ws t ∨ Sp n ws (xr t w) := by
  have hl2 := hl.snoc hw
  constructor
  · intro h
    induction h with
    | zero => exact .inl .zero
    | @add v u h1 h2 ih =>
      have hv := h1.len
      have ih := ih hv
      rcases List.mem_append.mp h2 with z | z
      · rcases ih with y | y
        · exact .inl (.add y z)
        · refine .inr ?_
          have hu := hl u z
          rw [show xr (xr v u) w = xr (xr v w) u from by rw [xr_assoc (by omega), xr_assoc (by omega), xr_comm (a := u) (by omega)]]
          exact .add y z
      · rw [List.mem_singleton.mp z]
        rcases ih with y | y
        · refine .inr ?_
          rw [xr_back (by omega)]; exact y
        · exact .inl y
  · rintro (h | h)
    · exact h.mono hl2 fun v hv => .one (List.mem_append.mpr (.inl hv)) (hl v hv)
    · have h2 : Sp n (ws ++ [w]) (xr t w) := h.mono hl2 fun v hv => .one (List.mem_append.mpr (.inl hv)) (hl v hv)
      have := Sp.add h2 (List.mem_append.mpr (.inr (List.mem_singleton.mpr rfl)))
      rwa [xr_back (by omega)] at this
theorem sp_cons {n : Nat} {ws : List Wd} {w : Wd} (hl : Lens n ws) (hw : w.length = n) {t : Wd} (ht : t.length = n) : Sp n (w :: ws) t ↔ Sp n ws t ∨ Sp n ws (xr t w) := by
  rw [← sp_snoc hl hw ht]
  have hl1 : Lens n (w :: ws) := fun v hv => by
    rcases List.mem_cons.mp hv with rfl | z
    · exact hw
    · exact hl v z
  constructor
  · exact fun h => h.mono (hl.snoc hw) fun v hv => .one (by rw [List.mem_append, List.mem_singleton]; rcases List.mem_cons.mp hv with rfl | z; exact .inr rfl; exact .inl z) (hl1 v hv)
  · exact fun h => h.mono hl1 fun v hv => .one (by rw [List.mem_append, List.mem_singleton] at hv; rcases hv with z | rfl; exact .tail _ z; exact .head _) (hl.snoc hw v hv)
/-! elimination -/
abbrev St := List (Nat × Wd)
def rst (st : St) (w : Wd) : Wd := st.foldl (fun w s => if bit w s.1 = true then xr w s.2 else w) w
theorem rst_cons (s : Nat × Wd) (st : St) (w : Wd) : rst (s :: st) w = rst st (if bit w s.1 = true then xr w s.2 else w) := rfl
theorem rst_len : ∀ (st : St) (w : Wd), (rst st w).length = w.length
  | [], w => rfl
  | s :: st, w => by
    rw [rst_cons, rst_len]
    by_cases h : bit w s.1 = true
    · rw [if_pos h, xr_len]
    · rw [if_neg h]
structure Ech (n : Nat) (st : St) : Prop where
  lt : ∀ s ∈ st, s.1 < n ∧ s.2.length = n
  own : ∀ s ∈ st, bit s.2 s.1 = true
  oth : st.Pairwise fun s t => bit s.2 t.1 = false ∧ bit t.2 s.1 = false
theorem Ech.tail {n : Nat} {s : Nat × Wd} {st : St} (h : Ech n (s :: st)) : Ech n st := ⟨fun t ht => h.lt t (.tail _ ht), fun t ht => h.own t (.tail _ ht), (List.pairwise_cons.mp h.oth).2⟩
def rows (st : St) : List Wd := st.map (·.2)
theorem Ech.lens {n : Nat} {st : St} (h : Ech n st) : Lens n (rows st) := fun w hw => by
  obtain ⟨s, hs, rfl⟩ := List.mem_map.mp hw
  exact (h.lt s hs).2
theorem rst_sp {n : Nat} : ∀ {st : St} {w : Wd}, Lens n (rows st) → w.length = n → Sp n (rows st) (xr w (rst st w))
  | [], w, _, hw => by
    show Sp n _ (xr w w)
    rw [xr_self hw]; exact .zero
  | s :: st, w, hl, hw => by
    have hl' : Lens n (rows st) := fun v hv => hl v (.tail _ hv)
    have hs : s.2.length = n := hl s.2 (.head _)
    rw [rst_cons]
    by_cases h : bit w s.1 = true
    · rw [if_pos h]
      have ih := rst_sp (st := st) (w := xr w s.2) hl' (by rw [xr_len, hw])
      have ih2 : Sp n (rows (s :: st)) (xr (xr w s.2) (rst st (xr w s.2))) := ih.mono hl fun v hv => .one (.tail _ hv) (hl' v hv)
      have := Sp.add ih2 (w := s.2) (.head _)
      have hr : (rst st (xr w s.2)).length = n := by rw [rst_len, xr_len, hw]
      rw [show xr (xr (xr w s.2) (rst st (xr w s.2))) s.2 = xr w (rst st (xr w s.2)) from by
        rw [xr_assoc (a := w) (by omega), xr_assoc (a := w) (by rw [xr_len]; omega), xr_comm (a := s.2) (by omega), xr_back (by omega)]] at this
      exact this
    · rw [if_neg h]
      exact (rst_sp (st := st) hl' hw).mono hl fun v hv => .one (.tail _ hv) (hl' v hv)
theorem rst_lin {n : Nat} : ∀ {st : St} {v w : Wd}, (∀ s ∈ st, s.1 < n ∧ s.2.length = n) → v.length = n → w.length = n → rst st (xr v w) = xr (rst st v) (rst st w)
  | [], v, w, _, _, _ => rfl
  | s :: st, v, w, hl, hv, hw => by
    have hs := hl s (.head _)
    have hl' : ∀ s ∈ st, s.1 < n ∧ s.2.length = n := fun t ht => hl t (.tail _ ht)
    rw [rst_cons, rst_cons, rst_cons, xr_bit (by omega)]
    have e1 : xr (xr v w) s.2 = xr (xr v s.2) w := by rw [xr_assoc (by omega), xr_assoc (by omega), xr_comm (a := w) (by omega)]
    have e2 : xr (xr v w) s.2 = xr v (xr w s.2) := xr_assoc (by omega)
    cases h1 : bit v s.1 <;> cases h2 : bit w s.1
    · exact rst_lin hl' hv hw
    · show rst st (xr (xr v w) s.2) = xr (rst st v) (rst st (xr w s.2))
      rw [e2]; exact rst_lin hl' hv (by rw [xr_len, hw])
    · show rst st (xr (xr v w) s.2) = xr (rst st (xr v s.2)) (rst st w)
      rw [e1]; exact rst_lin hl' (by rw [xr_len, hv]) hw
    · show rst st (xr v w) = xr (rst st (xr v s.2)) (rst st (xr w s.2))
      rw [← rst_lin hl' (by rw [xr_len, hv]) (by rw [xr_len, hw])]
      congr 1
      rw [← xr_assoc (by rw [xr_len]; omega), xr_assoc (a := v) (by omega), xr_comm (a := s.2) (by omega), ← xr_assoc (by omega), xr_back (by rw [xr_len]; omega)]
theorem rst_zr {n : Nat} : ∀ st : St, rst st (zr n) = zr n
  | [] => rfl
  | s :: st => by
    rw [rst_cons, zr_bit, if_neg Bool.false_ne_true]
    exact rst_zr st
theorem rst_row {n : Nat} : ∀ {st : St}, Ech n st → ∀ {t : Nat × Wd}, t ∈ st → rst st t.2 = zr n
  | s :: st, h, t, ht => by
    rw [rst_cons]
    rcases List.mem_cons.mp ht with rfl | z
    · rw [if_pos (h.own _ (.head _)), xr_self (h.lt _ (.head _)).2]
      exact rst_zr st
    · rw [if_neg (by rw [((List.pairwise_cons.mp h.oth).1 t z).2]; exact Bool.false_ne_true)]
      exact rst_row h.tail z
theorem rst_keep {p : Nat} : ∀ {st : St} {w : Wd}, (∀ t ∈ st, bit t.2 p = false) → p < w.length → bit (rst st w) p = bit w p
  | [], w, _, _ => rfl
  | s :: st, w, h, hp => by
    rw [rst_cons]
    have h' : ∀ t ∈ st, bit t.2 p = false := fun t ht => h t (.tail _ ht)
    by_cases z : bit w s.1 = true
    · rw [if_pos z, rst_keep h' (by rw [xr_len]; exact hp), xr_bit hp, h s (.head _)]
      cases bit w p <;> rfl
    · rw [if_neg z]; exact rst_keep h' hp
theorem rst_zero {n : Nat} : ∀ {st : St} {w : Wd}, Ech n st → w.length = n → ∀ s ∈ st, bit (rst st w) s.1 = false
  | s :: st, w, h, hw, t, ht => by
    rw [rst_cons]
    have hs := h.lt s (.head _)
    rcases List.mem_cons.mp ht with rfl | z
    · have hk : ∀ u ∈ st, bit u.2 t.1 = false := fun u hu => ((List.pairwise_cons.mp h.oth).1 u hu).2
      by_cases z : bit w t.1 = true
      · rw [if_pos z, rst_keep hk (by rw [xr_len]; omega), xr_bit (by omega), z, h.own _ (.head _)]; rfl
      · rw [if_neg z, rst_keep hk (by omega)]
        cases e : bit w t.1
        · rfl
        · exact absurd e z
    · refine rst_zero h.tail ?_ t z
      by_cases y : bit w s.1 = true
      · rw [if_pos y, xr_len, hw]
      · rw [if_neg y, hw]
theorem made_iff {n : Nat} {st : St} (h : Ech n st) {v : Wd} (hv : v.length = n) : Sp n (rows st) v ↔ rst st v = zr n := by
  constructor
  · intro k
    induction k with
    | zero => exact rst_zr st
    | @add u w k1 k2 ih =>
      have hu := k1.len
      rw [rst_lin h.lt hu (h.lens w k2), ih hu]
      obtain ⟨s, hs, rfl⟩ := List.mem_map.mp k2
      rw [rst_row h hs, xr_self (zr_len n)]
  · intro e
    have := rst_sp h.lens hv
    rwa [e, xr_zr] at this
theorem idx_ok {r : Wd} (h : true ∈ r) : r.idxOf true < r.length ∧ bit r (r.idxOf true) = true := by
  have hl : r.idxOf true < r.length := List.idxOf_lt_length_iff.mpr h
  refine ⟨hl, ?_⟩
  rw [bit_of hl]
  exact List.getElem_idxOf hl
def stp (st : St) (w : Wd) : St :=
  if true ∈ rst st w then st.map (fun s => (s.1, if bit s.2 ((rst st w).idxOf true) = true then xr s.2 (rst st w) else s.2)) ++ [((rst st w).idxOf true, rst st w)] else st
theorem stp_ech {n : Nat} {st : St} {w : Wd} (h : Ech n st) (hw : w.length = n) : Ech n (stp st w) := by
  unfold stp
  have hr : (rst st w).length = n := by rw [rst_len, hw]
  have hz := rst_zero h hw
  by_cases z : true ∈ rst st w
  · rw [if_pos z]
    obtain ⟨i1, i2⟩ := idx_ok z
    generalize (rst st w).idxOf true = p at *
    generalize rst st w = r at *
    have rb : ∀ s : Nat × Wd, s ∈ st → ∀ j, j < n → bit (if bit s.2 p = true then xr s.2 r else s.2) j = (bit s.2 j != (bit s.2 p && bit r j)) := fun s hs j hj => by
      have := (h.lt s hs).2
      by_cases y : bit s.2 p = true
      · rw [if_pos y, xr_bit (by omega), y, Bool.true_and]
      · rw [if_neg y]
        cases e : bit s.2 p
        · cases bit s.2 j <;> rfl
        · exact absurd e y
    refine ⟨fun t ht => ?_, fun t ht => ?_, ?_⟩
    · rcases List.mem_append.mp ht with y | y
      · obtain ⟨s, hs, rfl⟩ := List.mem_map.mp y
        refine ⟨(h.lt s hs).1, ?_⟩
        show (if bit s.2 p = true then xr s.2 r else s.2).length = n
        by_cases y : bit s.2 p = true
        · rw [if_pos y, xr_len]; exact (h.lt s hs).2
        · rw [if_neg y]; exact (h.lt s hs).2
      · rw [List.mem_singleton.mp y]; exact ⟨by show p < n; omega, hr⟩
    · rcases List.mem_append.mp ht with y | y
      · obtain ⟨s, hs, rfl⟩ := List.mem_map.mp y
        show bit (if bit s.2 p = true then xr s.2 r else s.2) s.1 = true
        rw [rb s hs _ (h.lt s hs).1, h.own s hs, hz s hs]
        cases bit s.2 p <;> rfl
      · rw [List.mem_singleton.mp y]; exact i2
    · rw [List.pairwise_append]
      refine ⟨?_, List.pairwise_singleton _ _, fun a ha b hb => ?_⟩
      · rw [List.pairwise_map]
        refine h.oth.imp_of_mem fun {s t} hs ht ⟨e1, e2⟩ => ⟨?_, ?_⟩
        · show bit (if bit s.2 p = true then xr s.2 r else s.2) t.1 = false
          rw [rb s hs _ (h.lt t ht).1, e1, hz t ht]; cases bit s.2 p <;> rfl
        · show bit (if bit t.2 p = true then xr t.2 r else t.2) s.1 = false
          rw [rb t ht _ (h.lt s hs).1, e2, hz s hs]; cases bit t.2 p <;> rfl
      · obtain ⟨s, hs, rfl⟩ := List.mem_map.mp ha
        rw [List.mem_singleton.mp hb]
        refine ⟨?_, hz s hs⟩
        show bit (if bit s.2 p = true then xr s.2 r else s.2) p = false
        rw [rb s hs p (by omega), i2]; cases bit s.2 p <;> rfl
  · rw [if_neg z]; exact h
theorem no_one {n : Nat} {r : Wd} (h : r.length = n) : r = zr n ↔ true ∉ r := by
  unfold zr
  rw [List.eq_replicate_iff]
  constructor
  · rintro ⟨_, k⟩ m; exact absurd (k _ m) (by decide)
  · intro k
    refine ⟨h, fun b hb => ?_⟩
    cases b
    · rfl
    · exact absurd hb k
theorem stp_sp {n : Nat} {st : St} {w : Wd} (h : Ech n st) (hw : w.length = n) {v : Wd} : Sp n (rows (stp st w)) v ↔ Sp n (rows st ++ [w]) v := by
  have hr : (rst st w).length = n := by rw [rst_len, hw]
  have hl2 := h.lens.snoc hw
  have he := (stp_ech h hw).lens
  have hd := rst_sp h.lens hw
  have up : ∀ {u : Wd}, Sp n (rows st) u → Sp n (rows st ++ [w]) u := fun k => k.mono hl2 fun v hv => .one (List.mem_append.mpr (.inl hv)) (h.lens v hv)
  have hrest : Sp n (rows st ++ [w]) (rst st w) := by
    have := (up hd).sum hl2 (.one (List.mem_append.mpr (.inr (List.mem_singleton.mpr rfl))) hw)
    rwa [xr_comm (a := w) (by omega), xr_back (by omega)] at this
  unfold stp at he ⊢
  by_cases z : true ∈ rst st w
  · rw [if_pos z] at he ⊢
    generalize (rst st w).idxOf true = p at *
    constructor
    · refine fun k => k.mono hl2 fun u hu => ?_
      obtain ⟨t, ht, rfl⟩ := List.mem_map.mp hu
      rcases List.mem_append.mp ht with y | y
      · obtain ⟨s, hs, rfl⟩ := List.mem_map.mp y
        have k1 := up (.one (List.mem_map.mpr ⟨s, hs, rfl⟩) (h.lt s hs).2)
        show Sp n _ (if bit s.2 p = true then xr s.2 (rst st w) else s.2)
        by_cases y : bit s.2 p = true
        · rw [if_pos y]; exact k1.sum hl2 hrest
        · rw [if_neg y]; exact k1
      · rw [List.mem_singleton.mp y]; exact hrest
    · have kr : Sp n (rows (st.map (fun s => (s.1, if bit s.2 p = true then xr s.2 (rst st w) else s.2)) ++ [(p, rst st w)])) (rst st w) := .one (List.mem_map.mpr ⟨(p, rst st w), List.mem_append.mpr (.inr (List.mem_singleton.mpr rfl)), rfl⟩) hr
      have ks : ∀ s ∈ st, Sp n (rows (st.map (fun s => (s.1, if bit s.2 p = true then xr s.2 (rst st w) else s.2)) ++ [(p, rst st w)])) s.2 := fun s hs => by
        have hm : (if bit s.2 p = true then xr s.2 (rst st w) else s.2) ∈ rows (st.map (fun s => (s.1, if bit s.2 p = true then xr s.2 (rst st w) else s.2)) ++ [(p, rst st w)]) := List.mem_map.mpr ⟨(s.1, if bit s.2 p = true then xr s.2 (rst st w) else s.2), List.mem_append.mpr (.inl (List.mem_map.mpr ⟨s, hs, rfl⟩)), rfl⟩
        have k1 : Sp n _ _ := Sp.one hm (he _ hm)
        have hs2 := (h.lt s hs).2
        by_cases y : bit s.2 p = true
        · rw [if_pos y] at k1
          have := k1.sum he kr
          rwa [xr_back (by omega)] at this
        · rw [if_neg y] at k1; exact k1
      refine fun k => k.mono he fun u hu => ?_
      rcases List.mem_append.mp hu with y | y
      · obtain ⟨s, hs, rfl⟩ := List.mem_map.mp y
        exact ks s hs
      · rw [List.mem_singleton.mp y]
        have k2 : Sp n _ (xr w (rst st w)) := hd.mono he fun u hu => by
          obtain ⟨s, hs, rfl⟩ := List.mem_map.mp hu
          exact ks s hs
        have := k2.sum he kr
        rwa [xr_back (by omega)] at this
  · rw [if_neg z]
    constructor
    · exact up
    · have : Sp n (rows st) w := (made_iff h hw).mpr ((no_one hr).mpr z)
      exact fun k => k.mono h.lens fun u hu => by
        rcases List.mem_append.mp hu with y | y
        · exact .one y (h.lens u y)
        · rw [List.mem_singleton.mp y]; exact this
def sts (ws : List Wd) : St := ws.foldl stp []
theorem sts_snoc (ws : List Wd) (w : Wd) : sts (ws ++ [w]) = stp (sts ws) w := by unfold sts; rw [List.foldl_append]; rfl
theorem sts_ok {n : Nat} : ∀ (m : Nat) (ws : List Wd), ws.length = m → Lens n ws → Ech n (sts ws) ∧ ∀ v, Sp n (rows (sts ws)) v ↔ Sp n ws v
  | 0, ws, hm, _ => by
    rw [List.length_eq_zero_iff.mp hm]
    exact ⟨⟨fun s h => (by cases h), fun s h => (by cases h), .nil⟩, fun v => Iff.rfl⟩
  | m + 1, ws, hm, hl => by
    rcases List.eq_nil_or_concat ws with rfl | ⟨vs, w, rfl⟩
    · cases hm
    · rw [List.concat_eq_append] at *
      have hw : w.length = n := hl w (by simp)
      have hv : Lens n vs := fun u hu => hl u (by simp [hu])
      obtain ⟨h1, h2⟩ := sts_ok m vs (by rw [List.length_append] at hm; simp at hm; exact hm) hv
      rw [sts_snoc]
      refine ⟨stp_ech h1 hw, fun v => ?_⟩
      rw [stp_sp h1 hw]
      constructor
      · refine fun k => k.mono (hv.snoc hw) fun u hu => ?_
        rcases List.mem_append.mp hu with y | y
        · exact ((h2 u).mp (.one y (h1.lens u y))).mono (hv.snoc hw) fun x hx => .one (List.mem_append.mpr (.inl hx)) (hv x hx)
        · exact .one (List.mem_append.mpr (.inr y)) (by rw [List.mem_singleton.mp y]; exact hw)
      · refine fun k => k.mono (h1.lens.snoc hw) fun u hu => ?_
        rcases List.mem_append.mp hu with y | y
        · exact ((h2 u).mpr (.one y (hv u y))).mono (h1.lens.snoc hw) fun x hx => .one (List.mem_append.mpr (.inl hx)) (h1.lens x hx)
        · exact .one (List.mem_append.mpr (.inr y)) (by rw [List.mem_singleton.mp y]; exact hw)
theorem sts_ech {n : Nat} {ws : List Wd} (h : Lens n ws) : Ech n (sts ws) := (sts_ok _ ws rfl h).1
def mdB (ws : List Wd) (t : Wd) : Bool := !decide (true ∈ rst (sts ws) t)
theorem mdB_iff {n : Nat} {ws : List Wd} (h : Lens n ws) {t : Wd} (ht : t.length = n) : mdB ws t = true ↔ Sp n ws t := by
  obtain ⟨h1, h2⟩ := sts_ok _ ws rfl h
  rw [← h2, made_iff h1 ht, no_one (by rw [rst_len, ht])]
  unfold mdB
  rw [Bool.not_eq_true', decide_eq_false_iff_not]
theorem sts_len : ∀ (m : Nat) (ws : List Wd), ws.length = m → (sts ws).length ≤ m
  | 0, ws, hm => by rw [List.length_eq_zero_iff.mp hm]; exact Nat.le_refl _
  | m + 1, ws, hm => by
    rcases List.eq_nil_or_concat ws with rfl | ⟨vs, w, rfl⟩
    · cases hm
    · rw [List.concat_eq_append] at *
      have ih := sts_len m vs (by rw [List.length_append] at hm; simp at hm; exact hm)
      rw [sts_snoc]
      unfold stp
      by_cases z : true ∈ rst (sts vs) w
      · rw [if_pos z, List.length_append, List.length_map]; exact Nat.succ_le_succ ih
      · rw [if_neg z]; omega
/-! choices -/
def allc : Nat → List Wd
  | 0 => [[]]
  | m + 1 => (allc m).map (false :: ·) ++ (allc m).map (true :: ·)
def two (c : Wd) : List Wd := [c ++ [false], c ++ [true]]
theorem allc_snoc : ∀ m, allc (m + 1) = (allc m).flatMap two
  | 0 => rfl
  | m + 1 => by
    have ih := allc_snoc m
    show (allc (m + 1)).map (false :: ·) ++ (allc (m + 1)).map (true :: ·) = (allc (m + 1)).flatMap two
    rw [show (allc (m + 1)).flatMap two = ((allc m).map (false :: ·) ++ (allc m).map (true :: ·)).flatMap two from rfl, List.flatMap_append, ih]
    congr 1 <;> rw [List.map_flatMap, List.flatMap_map] <;> rfl
theorem mem_allc : ∀ {m : Nat} {c : Wd}, c ∈ allc m ↔ c.length = m
  | 0, c => by
    show c ∈ [[]] ↔ _
    rw [List.mem_singleton, List.length_eq_zero_iff]
  | m + 1, c => by
    show c ∈ (allc m).map (false :: ·) ++ (allc m).map (true :: ·) ↔ _
    rw [List.mem_append, List.mem_map, List.mem_map]
    constructor
    · rintro (⟨d, hd, rfl⟩ | ⟨d, hd, rfl⟩) <;> rw [List.length_cons, mem_allc.mp hd]
    · intro h
      match c, h with
      | false :: d, h => exact .inl ⟨d, mem_allc.mpr (Nat.succ.inj h), rfl⟩
      | true :: d, h => exact .inr ⟨d, mem_allc.mpr (Nat.succ.inj h), rfl⟩
theorem allc_len : ∀ m, (allc m).length = 2 ^ m
  | 0 => rfl
  | m + 1 => by
    show ((allc m).map (false :: ·) ++ (allc m).map (true :: ·)).length = _
    rw [List.length_append, List.length_map, List.length_map, allc_len m, Nat.pow_succ]; omega
theorem allc_pw : ∀ m, (allc m).Pairwise fun a b => leB a b = true
  | 0 => List.pairwise_singleton _ _
  | m + 1 => by
    show ((allc m).map (false :: ·) ++ (allc m).map (true :: ·)).Pairwise _
    rw [List.pairwise_append, List.pairwise_map, List.pairwise_map]
    refine ⟨(allc_pw m).imp fun {a b} h => (by show (if false = false then leB a b else _) = true; rw [if_pos rfl]; exact h), (allc_pw m).imp fun {a b} h => (by show (if true = true then leB a b else _) = true; rw [if_pos rfl]; exact h), fun a ha b hb => ?_⟩
    obtain ⟨x, _, rfl⟩ := List.mem_map.mp ha
    obtain ⟨y, _, rfl⟩ := List.mem_map.mp hb
    rfl
def cmb (n : Nat) (ws : List Wd) (c : Wd) : Wd := (ws.zip c).foldl (fun v p => if p.2 = true then xr v p.1 else v) (zr n)
theorem cmb_snoc {n : Nat} {ws : List Wd} {w c : Wd} {b : Bool} (h : c.length = ws.length) : cmb n (ws ++ [w]) (c ++ [b]) = if b = true then xr (cmb n ws c) w else cmb n ws c := by
  unfold cmb
  rw [List.zip_append h.symm, List.foldl_append]; rfl
theorem fold_from {n : Nat} : ∀ {ps : List (Wd × Bool)} {v : Wd}, (∀ p ∈ ps, p.1.length = n) → v.length = n → ps.foldl (fun v p => if p.2 = true then xr v p.1 else v) v = xr (ps.foldl (fun v p => if p.2 = true then xr v p.1 else v) (zr n)) v ∧ (ps.foldl (fun v p => if p.2 = true then xr v p.1 else v) v).length = n
  | [], v, _, hv => by
    refine ⟨?_, hv⟩
    show v = xr (zr n) v
    rw [zr_xr hv]
  | p :: ps, v, hl, hv => by
    have hl' : ∀ q ∈ ps, q.1.length = n := fun q hq => hl q (.tail _ hq)
    have hp := hl p (.head _)
    rw [List.foldl_cons, List.foldl_cons]
    cases e : p.2
    · exact fold_from hl' hv
    · show ps.foldl _ (xr v p.1) = xr (ps.foldl _ (xr (zr n) p.1)) v ∧ (ps.foldl _ (xr v p.1)).length = n
      have k1 := fold_from (ps := ps) (v := xr v p.1) hl' (by rw [xr_len, hv])
      have k2 := fold_from (ps := ps) (v := xr (zr n) p.1) hl' (by rw [xr_len, zr_len])
      have k3 := fold_from (ps := ps) (v := zr n) hl' (zr_len n)
      refine ⟨?_, k1.2⟩
      rw [k1.1, k2.1, zr_xr hp, xr_assoc (by rw [k3.2, hp]), xr_comm (a := v) (by omega)]
theorem cmb_len {n : Nat} {ws : List Wd} {c : Wd} (hl : Lens n ws) : (cmb n ws c).length = n := (fold_from (fun p hp => hl p.1 (List.of_mem_zip hp).1) (zr_len n)).2
theorem cmb_cons {n : Nat} {ws : List Wd} {w c : Wd} {b : Bool} (hl : Lens n ws) (hw : w.length = n) : cmb n (w :: ws) (b :: c) = if b = true then xr (cmb n ws c) w else cmb n ws c := by
  unfold cmb
  rw [List.zip_cons_cons, List.foldl_cons]
  cases b
  · rfl
  · show (ws.zip c).foldl _ (xr (zr n) w) = xr _ w
    rw [zr_xr hw, (fold_from (v := w) (fun p hp => hl p.1 (List.of_mem_zip hp).1) hw).1]
def cho (n : Nat) (ws : List Wd) (t : Wd) : List Wd := (allc ws.length).filter fun c => decide (cmb n ws c = t)
theorem mem_cho {n : Nat} {ws : List Wd} {t c : Wd} : c ∈ cho n ws t ↔ c.length = ws.length ∧ cmb n ws c = t := by
  unfold cho
  rw [List.mem_filter, mem_allc, decide_eq_true_iff]
theorem cho_pw (n : Nat) (ws : List Wd) (t : Wd) : (cho n ws t).Pairwise fun a b => leB a b = true := (allc_pw _).filter _
theorem filter_map_dec {α β : Type} {f : α → β} {p : β → Bool} {q : α → Bool} {l : List α} (h : ∀ a ∈ l, p (f a) = q a) : (l.map f).filter p = (l.filter q).map f := by
  rw [List.filter_map]
  congr 1
  exact List.filter_congr fun a ha => h a ha
theorem cho_cons {n : Nat} {ws : List Wd} {w t : Wd} (hl : Lens n ws) (hw : w.length = n) (ht : t.length = n) : cho n (w :: ws) t = (cho n ws t).map (false :: ·) ++ (cho n ws (xr t w)).map (true :: ·) := by
  unfold cho
  show ((allc ws.length).map (false :: ·) ++ (allc ws.length).map (true :: ·)).filter _ = _
  rw [List.filter_append]
  congr 1
  · exact filter_map_dec fun c hc => by rw [cmb_cons hl hw, if_neg Bool.false_ne_true]
  · refine filter_map_dec fun c hc => ?_
    rw [cmb_cons hl hw, if_pos rfl]
    exact decide_eq_decide.mpr (xr_iff (by rw [cmb_len hl, hw]) (by omega))
theorem sp_cho {n : Nat} : ∀ {ws : List Wd} {t : Wd}, Lens n ws → t.length = n → (Sp n ws t ↔ cho n ws t ≠ [])
  | [], t, _, ht => by
    constructor
    · intro h
      cases h with
      | zero => show (List.filter _ [[]]) ≠ []; simp [cmb]
      | add _ h2 => cases h2
    · intro h
      obtain ⟨c, hc⟩ := List.exists_mem_of_ne_nil _ h
      have := (mem_cho.mp hc).2
      rw [← this]
      exact .zero
  | w :: ws, t, hl, ht => by
    have hw : w.length = n := hl w (.head _)
    have hl' : Lens n ws := fun v hv => hl v (.tail _ hv)
    rw [sp_cons hl' hw ht, cho_cons hl' hw ht, sp_cho hl' ht, sp_cho (t := xr t w) hl' (by rw [xr_len, ht])]
    simp only [ne_eq, List.append_eq_nil_iff, List.map_eq_nil_iff, not_and]
    constructor
    · rintro (h | h) h2
      · exact absurd h2 h
      · exact h
    · intro h
      by_cases z : cho n ws t = []
      · exact .inr (h z)
      · exact .inl z
def told : List Wd → Wd → Wd
  | [], _ => []
  | w :: ws, t => if mdB ws t = true then false :: told ws t else true :: told ws (xr t w)
theorem told_hd {n : Nat} : ∀ {ws : List Wd} {t : Wd}, Lens n ws → t.length = n → Sp n ws t → (cho n ws t).head? = some (told ws t)
  | [], t, _, ht, h => by
    cases h with
    | zero => show (List.filter _ [[]]).head? = _; simp [cmb, told]
    | add _ h2 => cases h2
  | w :: ws, t, hl, ht, h => by
    have hw : w.length = n := hl w (.head _)
    have hl' : Lens n ws := fun v hv => hl v (.tail _ hv)
    rw [cho_cons hl' hw ht, List.head?_append]
    unfold told
    by_cases z : mdB ws t = true
    · rw [if_pos z, List.head?_map, told_hd hl' ht ((mdB_iff hl' ht).mp z)]; rfl
    · rw [if_neg z]
      have z1 : ¬ Sp n ws t := fun k => z ((mdB_iff hl' ht).mpr k)
      have z2 : cho n ws t = [] := Classical.byContradiction fun k => z1 ((sp_cho hl' ht).mpr k)
      rw [z2]
      have z3 : Sp n ws (xr t w) := ((sp_cons hl' hw ht).mp h).resolve_left z1
      show (none : Option Wd).or _ = _
      rw [Option.none_or, List.head?_map, told_hd hl' (by rw [xr_len, ht]) z3]; rfl
theorem told_len : ∀ (ws : List Wd) (t : Wd), (told ws t).length = ws.length
  | [], _ => rfl
  | w :: ws, t => by
    unfold told
    by_cases z : mdB ws t = true
    · rw [if_pos z, List.length_cons, told_len, List.length_cons]
    · rw [if_neg z, List.length_cons, told_len, List.length_cons]
theorem flat_two (p : Wd → Bool) : ∀ L : List Wd, ((L.flatMap two).filter p).length = (L.filter fun c => p (c ++ [false])).length + (L.filter fun c => p (c ++ [true])).length
  | [] => rfl
  | c :: L => by
    rw [List.flatMap_cons, List.filter_append, List.length_append, flat_two p L, List.filter_cons, List.filter_cons]
    unfold two
    rw [List.filter_cons, List.filter_cons, List.filter_nil]
    cases p (c ++ [false]) <;> cases p (c ++ [true]) <;> simp <;> omega
theorem cho_snoc_len {n : Nat} {ws : List Wd} {w t : Wd} (hl : Lens n ws) (hw : w.length = n) (ht : t.length = n) : (cho n (ws ++ [w]) t).length = (cho n ws t).length + (cho n ws (xr t w)).length := by
  unfold cho
  rw [List.length_append, show [w].length = 1 from rfl, allc_snoc, flat_two]
  congr 1
  · congr 1
    refine List.filter_congr fun c hc => ?_
    rw [cmb_snoc (mem_allc.mp hc), if_neg Bool.false_ne_true]
  · congr 1
    refine List.filter_congr fun c hc => ?_
    rw [cmb_snoc (mem_allc.mp hc), if_pos rfl]
    exact decide_eq_decide.mpr (xr_iff (by rw [cmb_len hl, hw]) (by omega))
theorem md_f {n : Nat} {ws : List Wd} (h : Lens n ws) {t : Wd} (ht : t.length = n) (k : ¬ Sp n ws t) : mdB ws t = false := by
  cases e : mdB ws t
  · rfl
  · exact absurd ((mdB_iff h ht).mp e) k
theorem cho_count {n : Nat} : ∀ (m : Nat) (ws : List Wd), ws.length = m → Lens n ws → ∀ t : Wd, t.length = n → (cho n ws t).length = if mdB ws t = true then 2 ^ (m - (sts ws).length) else 0
  | 0, ws, hm, hl, t, ht => by
    have e := List.length_eq_zero_iff.mp hm
    subst e
    by_cases z : Sp n [] t
    · rw [if_pos ((mdB_iff hl ht).mpr z)]
      cases z with
      | zero => show (List.filter _ [[]]).length = _; simp [cmb]
      | add _ h2 => cases h2
    · rw [if_neg (by rw [md_f hl ht z]; exact Bool.false_ne_true)]
      have : cho n [] t = [] := Classical.byContradiction fun k => z ((sp_cho hl ht).mpr k)
      rw [this]; rfl
  | m + 1, ws, hm, hl, t, ht => by
    rcases List.eq_nil_or_concat ws with rfl | ⟨vs, w, rfl⟩
    · cases hm
    · rw [List.concat_eq_append] at *
      have hw : w.length = n := hl w (by simp)
      have hv : Lens n vs := fun u hu => hl u (by simp [hu])
      have hvm : vs.length = m := by rw [List.length_append] at hm; simp at hm; exact hm
      have ih := cho_count m vs hvm hv
      have hx : (xr t w).length = n := by rw [xr_len, ht]
      rw [cho_snoc_len hv hw ht, ih t ht, ih _ hx]
      have hlen := sts_len m vs hvm
      have hs := sp_snoc hv hw ht
      by_cases z : Sp n vs w
      · have e1 : sts (vs ++ [w]) = sts vs := by
          rw [sts_snoc]
          unfold stp
          rw [if_neg]
          have := (mdB_iff hv hw).mpr z
          unfold mdB at this
          rw [Bool.not_eq_true', decide_eq_false_iff_not] at this
          exact this
        rw [e1]
        have k : Sp n vs t ↔ Sp n vs (xr t w) := ⟨fun a => a.sum hv z, fun a => by
          have := a.sum hv z
          rwa [xr_back (by omega)] at this⟩
        by_cases y : Sp n vs t
        · rw [if_pos ((mdB_iff hv ht).mpr y), if_pos ((mdB_iff hv hx).mpr (k.mp y)), if_pos ((mdB_iff hl ht).mpr (hs.mpr (.inl y)))]
          rw [show m + 1 - (sts vs).length = (m - (sts vs).length) + 1 from by omega, Nat.pow_succ]; omega
        · rw [md_f hv ht y, md_f hv hx fun a => y (k.mpr a), md_f hl ht fun a => (hs.mp a).elim y fun b => y (k.mpr b)]; rfl
      · have e1 : (sts (vs ++ [w])).length = (sts vs).length + 1 := by
          rw [sts_snoc]
          unfold stp
          have := md_f hv hw z
          unfold mdB at this
          rw [Bool.not_eq_false', decide_eq_true_eq] at this
          rw [if_pos this, List.length_append, List.length_map]; rfl
        rw [e1, show m + 1 - ((sts vs).length + 1) = m - (sts vs).length from by omega]
        have no : ¬ (Sp n vs t ∧ Sp n vs (xr t w)) := fun ⟨a, b⟩ => z (by
          have := a.sum hv b
          rwa [← xr_assoc (by omega), xr_self ht, zr_xr hw] at this)
        by_cases y : Sp n vs t
        · rw [if_pos ((mdB_iff hv ht).mpr y), md_f hv hx fun a => no ⟨y, a⟩, if_pos ((mdB_iff hl ht).mpr (hs.mpr (.inl y)))]; rfl
        · by_cases x : Sp n vs (xr t w)
          · rw [md_f hv ht y, if_pos ((mdB_iff hv hx).mpr x), if_pos ((mdB_iff hl ht).mpr (hs.mpr (.inr x)))]
            show 0 + _ = _; omega
          · rw [md_f hv ht y, md_f hv hx x, md_f hl ht fun a => (hs.mp a).elim y x]; rfl
/-! meeting evenly -/
def par (L : List Nat) (f : Nat → Bool) : Bool := L.foldr (fun i b => f i != b) false
theorem par_count (f : Nat → Bool) : ∀ L : List Nat, decide ((L.filter f).length % 2 = 1) = par L f
  | [] => rfl
  | i :: L => by
    have ih := par_count f L
    show _ = (f i != par L f)
    rw [← ih, List.filter_cons]
    cases f i
    · show decide ((L.filter f).length % 2 = 1) = _
      cases decide ((L.filter f).length % 2 = 1) <;> rfl
    · show decide (((L.filter f).length + 1) % 2 = 1) = _
      by_cases z : (L.filter f).length % 2 = 1
      · rw [decide_eq_true z, decide_eq_false (by omega)]; rfl
      · rw [decide_eq_false z, decide_eq_true (by omega)]; rfl
theorem par_xor (f g : Nat → Bool) : ∀ L : List Nat, par L (fun i => f i != g i) = (par L f != par L g)
  | [] => rfl
  | i :: L => by
    show ((f i != g i) != par L _) = ((f i != par L f) != (g i != par L g))
    rw [par_xor f g L]
    cases f i <;> cases g i <;> cases par L f <;> cases par L g <;> rfl
theorem par_congr {f g : Nat → Bool} : ∀ {L : List Nat}, (∀ i ∈ L, f i = g i) → par L f = par L g
  | [], _ => rfl
  | i :: L, h => by
    show (f i != par L f) = (g i != par L g)
    rw [h i (.head _), par_congr fun j hj => h j (.tail _ hj)]
theorem par_none {f : Nat → Bool} : ∀ {L : List Nat}, (∀ i ∈ L, f i = false) → par L f = false
  | [], _ => rfl
  | i :: L, h => by
    show (f i != par L f) = false
    rw [h i (.head _), par_none fun j hj => h j (.tail _ hj)]; rfl
theorem par_one {p : Nat} {b : Bool} : ∀ {n : Nat}, p < n → par (List.range n) (fun i => decide (i = p) && b) = b
  | n + 1, h => by
    have app : ∀ (L M : List Nat) (f : Nat → Bool), par (L ++ M) f = (par L f != par M f) := fun L M f => by
      induction L with
      | nil => show par M f = (false != par M f); cases par M f <;> rfl
      | cons i L ih =>
        show (f i != par (L ++ M) f) = ((f i != par L f) != par M f)
        rw [ih]; cases f i <;> cases par L f <;> cases par M f <;> rfl
    rw [List.range_succ, app]
    rcases Nat.lt_or_ge p n with z | z
    · rw [par_one z]
      show (b != ((decide (n = p) && b) != false)) = b
      rw [decide_eq_false (by omega)]; cases b <;> rfl
    · obtain rfl : p = n := by omega
      rw [par_none fun i hi => by have := List.mem_range.mp hi; rw [decide_eq_false (by omega)]; rfl]
      show (false != ((decide (p = p) && b) != false)) = b
      rw [decide_eq_true rfl]; cases b <;> rfl
def dt (a b : Wd) : Bool := par (List.range a.length) fun i => bit a i && bit b i
theorem dt_xr {a b d : Wd} (h : a.length = b.length) : dt a (xr b d) = (dt a b != dt a d) := by
  unfold dt
  rw [← par_xor]
  refine par_congr fun i hi => ?_
  have := List.mem_range.mp hi
  rw [xr_bit (by omega)]
  cases bit a i <;> cases bit b i <;> cases bit d i <;> rfl
theorem dt_zr (n : Nat) (v : Wd) : dt (zr n) v = false := par_none fun i _ => by rw [zr_bit]; rfl
theorem dt_zr' (n : Nat) (v : Wd) : dt v (zr n) = false := par_none fun i _ => by rw [zr_bit, Bool.and_false]
theorem set_bit {l : Wd} {p i : Nat} {b : Bool} (hp : p < l.length) : bit (l.set p b) i = if i = p then b else bit l i := by
  by_cases hi : i < l.length
  · rw [bit_of (by rw [List.length_set]; exact hi), List.getElem_set]
    by_cases e : i = p
    · rw [if_pos e.symm, if_pos e]
    · rw [if_neg (Ne.symm e), if_neg e, bit_of hi]
  · rw [bit_ge (by rw [List.length_set]; omega), if_neg (by omega), bit_ge (by omega)]
theorem dt_set {l v : Wd} {p : Nat} {b : Bool} (hp : p < l.length) : dt (l.set p b) v = (dt l v != ((bit l p != b) && bit v p)) := by
  unfold dt
  rw [List.length_set]
  rw [← par_one (b := (bit l p != b) && bit v p) hp, ← par_xor]
  refine par_congr fun i hi => ?_
  rw [set_bit hp]
  by_cases e : i = p
  · subst e
    rw [if_pos rfl, decide_eq_true rfl]
    cases b <;> cases bit v i <;> cases bit l i <;> rfl
  · rw [if_neg e, decide_eq_false e]
    cases bit l i <;> cases bit v i <;> rfl
def sm (st : St) (fr : Nat) (v : Wd) : Bool := st.foldr (fun s b => (bit v s.1 && bit s.2 fr) != b) false
theorem rst_sm {n fr : Nat} (hf : fr < n) : ∀ {st : St} {v : Wd}, Ech n st → v.length = n → bit (rst st v) fr = (bit v fr != sm st fr v)
  | [], v, _, _ => by
    show bit v fr = (bit v fr != false)
    cases bit v fr <;> rfl
  | s :: st, v, h, hv => by
    have hs := h.lt s (.head _)
    have hsm : sm (s :: st) fr v = ((bit v s.1 && bit s.2 fr) != sm st fr v) := rfl
    rw [rst_cons, hsm]
    by_cases z : bit v s.1 = true
    · rw [if_pos z, rst_sm hf h.tail (by rw [xr_len, hv]), xr_bit (by omega), z]
      have : sm st fr (xr v s.2) = sm st fr v := by
        have oth := (List.pairwise_cons.mp h.oth).1
        have lt' := h.tail.lt
        clear h hsm
        unfold sm
        induction st with
        | nil => rfl
        | cons t st ih =>
          rw [List.foldr_cons, List.foldr_cons, ih (fun u hu => oth u (.tail _ hu)) (fun u hu => lt' u (.tail _ hu)), xr_bit (by have := lt' t (.head _); omega), (oth t (.head _)).1]
          cases bit v t.1 <;> rfl
      rw [this]
      cases bit v fr <;> cases bit s.2 fr <;> cases sm st fr v <;> rfl
    · rw [if_neg z, rst_sm hf h.tail hv]
      have : bit v s.1 = false := by cases e : bit v s.1; rfl; exact absurd e z
      rw [this]; cases bit v fr <;> cases sm st fr v <;> rfl
def dsg (st : St) (fr : Nat) (l : Wd) : Wd := st.foldl (fun l s => l.set s.1 (bit s.2 fr)) l
theorem dsg_len : ∀ (st : St) (fr : Nat) (l : Wd), (dsg st fr l).length = l.length
  | [], _, _ => rfl
  | s :: st, fr, l => by
    show (dsg st fr (l.set s.1 (bit s.2 fr))).length = _
    rw [dsg_len, List.length_set]
theorem dsg_dt {n fr : Nat} {v : Wd} : ∀ {st : St} {l : Wd}, Ech n st → l.length = n → (∀ s ∈ st, bit l s.1 = false) → dt (dsg st fr l) v = (dt l v != sm st fr v)
  | [], l, _, _, _ => by
    show dt l v = (dt l v != false)
    cases dt l v <;> rfl
  | s :: st, l, h, hl, hz => by
    have hs := h.lt s (.head _)
    have oth := (List.pairwise_cons.mp h.oth).1
    have own := h.own s (.head _)
    have hsm : sm (s :: st) fr v = ((bit v s.1 && bit s.2 fr) != sm st fr v) := rfl
    show dt (dsg st fr (l.set s.1 (bit s.2 fr))) v = _
    rw [dsg_dt h.tail (by rw [List.length_set, hl]) fun t ht => ?_, dt_set (by omega), hz s (.head _), hsm]
    · cases dt l v <;> cases bit v s.1 <;> cases bit s.2 fr <;> cases sm st fr v <;> rfl
    · rw [set_bit (by omega), if_neg, hz t (.tail _ ht)]
      intro e
      have := (oth t ht).1
      rw [e, own] at this; cases this
theorem dn_ok {n fr : Nat} {st : St} {v : Wd} (h : Ech n st) (hf : fr < n) (hne : ∀ s ∈ st, s.1 ≠ fr) (hv : v.length = n) : dt (dsg st fr ((zr n).set fr true)) v = bit (rst st v) fr := by
  rw [dsg_dt h (by rw [List.length_set, zr_len]) fun s hs => by rw [set_bit (by rw [zr_len]; exact hf), if_neg (hne s hs), zr_bit], rst_sm hf h hv, dt_set (by rw [zr_len]; exact hf), dt_zr, zr_bit]
  cases bit v fr <;> cases sm st fr v <;> rfl
/-- the denial of a word that is not made -/
theorem denies {n : Nat} {ws : List Wd} (hl : Lens n ws) {t : Wd} (ht : t.length = n) (h1 : true ∈ rst (sts ws) t) : (rst (sts ws) t).idxOf true < n ∧ (∀ s ∈ sts ws, s.1 ≠ (rst (sts ws) t).idxOf true) ∧ (∀ w ∈ ws, dt (dsg (sts ws) ((rst (sts ws) t).idxOf true) ((zr n).set ((rst (sts ws) t).idxOf true) true)) w = false) ∧ dt (dsg (sts ws) ((rst (sts ws) t).idxOf true) ((zr n).set ((rst (sts ws) t).idxOf true) true)) t = true := by
  obtain ⟨he, hsp⟩ := sts_ok _ ws rfl hl
  obtain ⟨i1, i2⟩ := idx_ok h1
  rw [rst_len, ht] at i1
  have hz := rst_zero he ht
  generalize (rst (sts ws) t).idxOf true = fr at *
  have hne : ∀ s ∈ sts ws, s.1 ≠ fr := fun s hs e => by
    have := hz s hs
    rw [e, i2] at this; cases this
  refine ⟨i1, hne, fun w hw => ?_, ?_⟩
  · rw [dn_ok he i1 hne (hl w hw), (made_iff he (hl w hw)).mp ((hsp w).mpr (.one hw (hl w hw))), zr_bit]
  · rw [dn_ok he i1 hne ht, i2]
/-- no word that is made can be denied -/
theorem made_even {n : Nat} {ws : List Wd} {d t : Wd} (hd : d.length = n) (h : Sp n ws t) (he : ∀ w ∈ ws, dt d w = false) : dt d t = false := by
  induction h with
  | zero => exact dt_zr' n d
  | add h1 h2 ih => rw [dt_xr (by rw [hd, h1.len]), ih, he _ h2]; rfl
end LW
set_option Elab.async false
set_option linter.all false
set_option maxRecDepth 100000
set_option maxHeartbeats 4000000
set_option autoImplicit false
namespace LW
open PySem PySem.Spec PyProof.Rows L2 Pl
/-! words as data, for the walks -/
abbrev encW (w : Wd) : PyData := .str (bt w)
def encS (s : Nat × Wd) : PyData := .tuple [.int (s.1 : Int), .str (bt s.2)]
def Seq (d : PyData) (ds : List PyData) : Prop := d = .list ds ∨ d = .tuple ds
theorem xr_r (a b : Wd) : (rangeI 0 a.length).map (fun i : Int => ch (bit a i.toNat != bit b i.toNat)) = (xr a b).map ch := by
  unfold xr rangeI
  rw [List.map_map, List.map_map]
  refine List.map_congr_left fun i _ => ?_
  show ch (bit a (0 + (i : Int)).toNat != bit b (0 + (i : Int)).toNat) = ch (bit a i != bit b i)
  rw [show (0 + (i : Int)).toNat = i from by omega]
theorem dt_len (a b : Wd) : ((rangeI 0 a.length).filter fun i : Int => bit a i.toNat && bit b i.toNat).length = ((List.range a.length).filter fun i => bit a i && bit b i).length := by
  unfold rangeI
  rw [List.filter_map, List.length_map]
  congr 1
  refine List.filter_congr fun i _ => ?_
  show (bit a (0 + (i : Int)).toNat && bit b (0 + (i : Int)).toNat) = _
  rw [show (0 + (i : Int)).toNat = i from by omega]
theorem dt_odd (a b : Wd) : decide ((((rangeI 0 a.length).filter fun i : Int => bit a i.toNat && bit b i.toNat).length : Int) % 2 = 1) = dt a b := by
  rw [dt_len]
  unfold dt
  rw [← par_count]
  exact decide_eq_decide.mpr (by omega)
theorem dt_even (a b : Wd) : decide ((((rangeI 0 a.length).filter fun i : Int => bit a i.toNat && bit b i.toNat).length : Int) % 2 = 0) = !dt a b := by
  rw [← dt_odd]
  by_cases z : (((rangeI 0 a.length).filter fun i : Int => bit a i.toNat && bit b i.toNat).length : Int) % 2 = 1
  · rw [decide_eq_true z, decide_eq_false (by omega)]; rfl
  · rw [decide_eq_false z, decide_eq_true (by omega)]; rfl
theorem rst_next {st : St} {w : Wd} {i : Nat} {s : Nat × Wd} (h : st[i]? = some s) : rst (st.take (i + 1)) w = if bit (rst (st.take i) w) s.1 = true then xr (rst (st.take i) w) s.2 else rst (st.take i) w := by
  unfold rst
  rw [List.take_succ, h, List.foldl_append]; rfl
theorem sts_next {ws : List Wd} {w : Wd} {i : Nat} (h : ws[i]? = some w) : sts (ws.take (i + 1)) = stp (sts (ws.take i)) w := by
  unfold sts
  rw [List.take_succ, h, List.foldl_append]; rfl
theorem Lens.take {n : Nat} {ws : List Wd} (h : Lens n ws) (i : Nat) : Lens n (ws.take i) := fun w hw => h w (List.mem_of_mem_take hw)
theorem Lens.drop {n : Nat} {ws : List Wd} (h : Lens n ws) (i : Nat) : Lens n (ws.drop i) := fun w hw => h w (List.mem_of_mem_drop hw)
def upd (r : Wd) (p : Nat) (s : Nat × Wd) : Nat × Wd := (s.1, if bit s.2 p = true then xr s.2 r else s.2)
theorem stp_eq (st : St) (w : Wd) : stp st w = if true ∈ rst st w then st.map (upd (rst st w) ((rst st w).idxOf true)) ++ [((rst st w).idxOf true, rst st w)] else st := rfl
/-- what told_choice holds at a place -/
theorem told_step {ws : List Wd} {i : Nat} {w t : Wd} (h : ws[i]? = some w) : told (ws.drop i) t = if mdB (ws.drop (i + 1)) t = true then false :: told (ws.drop (i + 1)) t else true :: told (ws.drop (i + 1)) (xr t w) := by
  obtain ⟨hi, e⟩ := List.getElem?_eq_some_iff.mp h
  rw [List.drop_eq_getElem_cons hi, e]
  rfl
def toldD (ws : List Wd) (t : Wd) : PyData := if mdB ws t = true then .str (bt (told ws t)) else .none
section
variable {c : Cc} {sp : List Sl} {e : Expr} {pos p : Pos} {Q : PyData → Prop}
theorem W_enumQ {elts : List Expr} {kk : Nat} {tpos : Pos} {QL : List PyData → Prop} (d : PyData) (ds : List PyData) (hd : d = .list ds ∨ d = .tuple ds) (h : E c e sp fun z => z = d) (hm : c.m.mg "enumerate" = none) (q : QL (enumD ds)) (hg : GlS c.sc "enumerate" := by rfl) (hs : ∀ env, starEach [e] env = [(false, eval e env)] := by intro _; rfl) :
    W c (.Tuple elts kk tpos) (.Call (.Name "enumerate" p) [e] [] pos) sp QL := by
  rcases hd with rfl | rfl
  · exact W_enum (h.mono fun z hz => ⟨ds, hz, q⟩) hm hg hs
  · exact W_enumT (h.mono fun z hz => ⟨ds, hz, q⟩) hm hg hs
theorem slp_seq {d : PyData} {ds : List PyData} {lo hi : Option Int} (hd : d = .list ds ∨ d = .tuple ds) (q : ∀ d', (d' = .list (cutD ds lo hi) ∨ d' = .tuple (cutD ds lo hi)) → Q d') : SlP c d lo hi Q := by
  rcases hd with rfl | rfl
  · exact slp_list (q _ (.inl rfl))
  · exact slp_tup (q _ (.inr rfl))
end
theorem enum_map {α : Type} (f : α → PyData) (xs : List α) (x0 : α) : enumD (xs.map f) = (List.range xs.length).map fun (i : Nat) => PyData.tuple [.int (i : Int), f (xs.getD i x0)] := by
  unfold enumD
  refine List.ext_getElem (by rw [List.length_mapIdx, List.length_map, List.length_map, List.length_range]) fun i h1 h2 => ?_
  rw [List.length_mapIdx, List.length_map] at h1
  rw [List.getElem_mapIdx, List.getElem_map, List.getElem_map, List.getElem_range, List.getD_eq_getElem?_getD, List.getElem?_eq_getElem h1]; rfl
/-! texts of any signs, short ones -/
structure Zs (L : Nat) (z : Str) : Prop where
  len : z.length ≤ L
  low : ∀ x ∈ z.cps.toList, x < 128
theorem Zs.mono {L M : Nat} {z : Str} (h : Zs L z) (hl : L ≤ M) : Zs M z := ⟨Nat.le_trans h.len hl, h.low⟩
theorem Zs.bt (l : Wd) : Zs l.length (bt l) := ⟨Nat.le_of_eq (bt_len l), fun x hx => by
  rw [bt_codes] at hx
  obtain ⟨b, _, rfl⟩ := List.mem_map.mp hx
  cases b <;> decide⟩
theorem cat_codes (x y : Str) : (x ++ y).cps.toList = x.cps.toList ++ y.cps.toList := by
  show (x.cps ++ y.cps).toList = _
  simp
theorem Zs.cat {L M : Nat} {x y : Str} (h : Zs L x) (g : Zs M y) : Zs (L + M) (x ++ y) := by
  refine ⟨?_, fun z hz => ?_⟩
  · have a := h.len
    have b := g.len
    rw [← str_len, cat_codes, List.length_append, str_len, str_len]; omega
  · rw [cat_codes, List.mem_append] at hz
    exact hz.elim (h.low z) (g.low z)
theorem Zs.cut {L : Nat} {z : Str} (h : Zs L z) (lo hi : Option Int) : Zs L (cutS z lo hi) := by
  have e : (cutS z lo hi).cps.toList.Sublist z.cps.toList := by
    unfold cutS
    show (List.take _ (List.drop _ _)).toArray.toList.Sublist _
    rw [List.toList_toArray]
    exact (List.take_sublist _ _).trans (List.drop_sublist _ _)
  refine ⟨?_, fun x hx => h.low x (e.subset hx)⟩
  have := e.length_le
  rw [str_len, str_len] at this
  exact Nat.le_trans this h.len
theorem Zs.rev {L : Nat} {z : Str} (h : Zs L z) : Zs L ⟨z.cps.toList.reverse.toArray⟩ := by
  have e : (⟨z.cps.toList.reverse.toArray⟩ : Str).cps.toList = z.cps.toList.reverse := by simp
  refine ⟨?_, fun x hx => h.low x ?_⟩
  · rw [← str_len, e, List.length_reverse, str_len]; exact h.len
  · rw [e, List.mem_reverse] at hx; exact hx
theorem Zs.fits {L : Nat} {z : Str} (h : Zs L z) (hl : L ≤ 100000) : z.length ≤ sizeLine := by have := h.len; exact small_le (by omega)
def oddS : List Str := [("0" : Str), "1", "2", "01"]
theorem odd_at {k : Int} (h0 : 0 ≤ k) (h1 : k < 4) : ∃ z : Str, Zs 2 z ∧ atI [PyData.str ("0" : Str), .str ("1" : Str), .str ("2" : Str), .str ("01" : Str)] k = some (.str z) := by
  have h : k = 0 ∨ k = 1 ∨ k = 2 ∨ k = 3 := by omega
  have l2 : ("2" : Str) = ⟨#[50]⟩ := by decide +kernel
  rcases h with rfl | rfl | rfl | rfl
  · exact ⟨("0" : Str), by rw [lit0]; exact (Zs.bt _).mono (by decide), rfl⟩
  · exact ⟨("1" : Str), by rw [lit1]; exact (Zs.bt _).mono (by decide), rfl⟩
  · exact ⟨("2" : Str), by rw [l2]; exact ⟨by decide, fun x hx => by
      have : x = 50 := List.mem_singleton.mp hx
      omega⟩, rfl⟩
  · exact ⟨("01" : Str), by rw [lit01]; exact (Zs.bt _).mono (by decide), rfl⟩
theorem older_snoc {st : St} {k : Nat} {s : Nat × Wd} (h : st[k]? = some s) (r : Wd) (p : Nat) : (((st.take k).map (upd r p)).map encS) ++ [PyData.tuple [.int (s.1 : Int), if bit s.2 p = true then .str (bt (xr s.2 r)) else .str (bt s.2)]] = ((st.take (k + 1)).map (upd r p)).map encS := by
  rw [List.take_succ, h, List.map_append, List.map_append]
  congr 1
  show [PyData.tuple _] = [PyData.tuple [.int (s.1 : Int), .str (bt (if bit s.2 p = true then xr s.2 r else s.2))]]
  by_cases e : bit s.2 p = true
  · rw [if_pos e, if_pos e]
  · rw [if_neg e, if_neg e]
theorem rngN_at {n i j : Nat} (h : (List.range n)[i]? = some j) : j = i ∧ i < n := by
  obtain ⟨h1, h2⟩ := List.getElem?_eq_some_iff.mp h
  rw [List.length_range] at h1
  rw [List.getElem_range] at h2
  exact ⟨h2.symm, h1⟩
theorem ixp_w {c : Cc} {Q : PyData → Prop} {l : Wd} {j : Int} (h0 : 0 ≤ j) (h1 : j < l.length) (hl : l.length ≤ 100000) (q : Q (ch (bit l j.toNat))) : IxP c (.str (bt l)) (.int j) Q := ixp_bt h0 h1 hl q
/-! slices of draws as functions -/
def cutN (ns : List Int) (lo hi : Int) : List Int := (ns.drop lo.toNat).take (hi.toNat - lo.toNat)
theorem cutN_ok {n : Nat} {ns : List Int} (h : okDraws n ns) {lo hi : Int} (h0 : 0 ≤ lo) (h1 : lo ≤ hi) (h2 : hi ≤ n) : cutD (ns.map PyData.int) (some lo) (some hi) = (cutN ns lo hi).map PyData.int ∧ okDraws (hi - lo).toNat (cutN ns lo hi) := by
  unfold cutN
  refine ⟨?_, ?_, fun x hx => h.2 x (List.mem_of_mem_drop (List.mem_of_mem_take hx))⟩
  · rw [cutD_in h0 h1 (by rw [List.length_map, h.1]; exact h2), ← List.map_drop, ← List.map_take]
  · rw [List.length_take, List.length_drop, h.1]; omega
/-! words drawn -/
def wdn (ns : List Int) (n : Nat) : Wd := (rangeI 0 n).map fun a => bit [false, true] (drawV ns a % 2).toNat
theorem wdn_len (ns : List Int) (n : Nat) : (wdn ns n).length = n := by unfold wdn; rw [List.length_map, rangeI_len]
theorem allc_r (m : Nat) : (allc m).flatMap (fun c => [encW (c ++ [false]), encW (c ++ [true])]) = (allc (m + 1)).map encW := by
  rw [allc_snoc, List.map_flatMap]; rfl
theorem allc_small {m k : Nat} (h : m ≤ 10) (hk : k = m) : ((allc k).map encW).length ≤ 1024 := by
  rw [hk, List.length_map, allc_len]
  exact Nat.le_trans (Nat.pow_le_pow_right (by decide) h) (by decide)
theorem two_perm : ∀ L : List Wd, (L.flatMap two).Perm (L.map (· ++ [false]) ++ L.map (· ++ [true]))
  | [] => .nil
  | c :: L => by
    rw [List.flatMap_cons, List.map_cons, List.map_cons, List.cons_append]
    show ((c ++ [false]) :: (c ++ [true]) :: L.flatMap two).Perm _
    refine .cons _ ?_
    exact ((two_perm L).cons _).trans List.perm_middle.symm
theorem allc_perm (m : Nat) : (allc (m + 1)).Perm ((allc m).map (· ++ [false]) ++ (allc m).map (· ++ [true])) := by
  rw [allc_snoc]; exact two_perm _
/-! one text in a list of words -/
theorem lay_words : ∀ L : List Wd, PyData.canLayAll0 (L.map encW) = true
  | [] => rfl
  | w :: L => by
    rw [List.map_cons, PyData.canLayAll0, lay_words L, Bool.and_true, PyData.canLay0]
    unfold PyData.strOk
    rw [Array.all_eq_true']
    intro x hx
    have : x ∈ (bt w).cps.toList := by simpa using hx
    have := (Zs.bt w).low x this
    exact decide_eq_true (by omega)
theorem depth_words : ∀ L : List Wd, PyData.depthAll (L.map encW) ≤ 1
  | [] => by decide
  | w :: L => by
    have := depth_words L
    simp only [List.map_cons, PyData.depthAll, PyData.depth]
    omega
theorem shaped_words (L : List Wd) : SeqAt.shaped (.list (L.map encW)) = true := by
  unfold SeqAt.shaped
  rw [Bool.and_eq_true, decide_eq_true_eq]
  have := depth_words L
  exact ⟨by rw [PyData.canLay0]; exact lay_words L, by simp only [PyData.depth]; omega⟩
theorem shaped_str {L : Nat} {z : Str} (h : Zs L z) : SeqAt.shaped (.str z) = true := by
  unfold SeqAt.shaped
  rw [Bool.and_eq_true, decide_eq_true_eq]
  refine ⟨?_, by simp only [PyData.depth]; omega⟩
  rw [PyData.canLay0]
  unfold PyData.strOk
  rw [Array.all_eq_true']
  intro x hx
  have : x ∈ z.cps.toList := by simpa using hx
  have := h.low x this
  exact decide_eq_true (by omega)
theorem eqv_str (x y : Str) : PyData.eqv (.str x) (.str y) = decide (y = x) := by
  show (x == y) = _
  rw [Bool.eq_iff_iff, beq_iff_eq, decide_eq_true_iff]
  exact eq_comm
section
variable {c : Cc} {Q : PyData → Prop}
theorem opp_inZ {L : Nat} {z : Str} {ws : List Wd} (h : Zs L z) (q : Q (.bool (ws.any fun w => decide (z = bt w)))) : OpP c (compareOp .In) (.str z) (.list (ws.map encW)) Q := by
  refine opp_inD (shaped_str h) (shaped_words ws) ?_
  have e : ((ws.map encW).any fun x => PyData.eqv x (.str z)) = ws.any fun w => decide (z = bt w) := by
    rw [List.any_map]
    congr 1
    funext w
    exact eqv_str _ _
  rw [e]; exact q
end
theorem any_bt (ws : List Wd) (c : Wd) : (ws.any fun w => decide (bt c = bt w)) = decide (c ∈ ws) := by
  rw [Bool.eq_iff_iff, List.any_eq_true, decide_eq_true_iff]
  constructor
  · rintro ⟨w, hw, e⟩
    rw [bt_inj (of_decide_eq_true e)]; exact hw
  · intro h
    exact ⟨c, h, decide_eq_true rfl⟩
def optW : Option Wd → PyData
  | some w => encW w
  | none => .none
theorem head_filter {α : Type} {p : α → Bool} {l : List α} {i : Nat} {x : α} (h : l[i]? = some x) (hno : ∀ y ∈ l.take i, p y = false) (hx : p x = true) : (l.filter p).head? = some x := by
  obtain ⟨hi, e⟩ := List.getElem?_eq_some_iff.mp h
  have : l = l.take i ++ x :: l.drop (i + 1) := by rw [← e, ← List.drop_eq_getElem_cons hi, List.take_append_drop]
  have e0 : (l.take i).filter p = [] := List.filter_eq_nil_iff.mpr fun y hy => by rw [hno y hy]; exact Bool.false_ne_true
  have e1 : l.filter p = (l.take i).filter p ++ (x :: l.drop (i + 1)).filter p := by rw [← List.filter_append, ← this]
  rw [e1, e0, List.nil_append, List.filter_cons_of_pos hx]; rfl
theorem no_filter {α : Type} {p : α → Bool} {l : List α} (hno : ∀ y ∈ l, p y = false) : l.filter p = [] := List.filter_eq_nil_iff.mpr fun y hy => by rw [hno y hy]; exact Bool.false_ne_true
theorem take_no {α : Type} {p : α → Bool} {l : List α} {i : Nat} {x : α} (h : l[i]? = some x) (hno : ∀ y ∈ l.take i, p y = false) (hx : p x = false) : ∀ y ∈ l.take (i + 1), p y = false := fun y hy => by
  rw [List.take_succ, h] at hy
  rcases List.mem_append.mp hy with z | z
  · exact hno y z
  · have z : y = x := by simpa using z
    rw [z]; exact hx
theorem mod_ex {n : Nat} (h : 0 < n) (x : Int) : ∃ j : Nat, j < n ∧ PyData.int (x % (n : Int)) = .int (j : Int) := by
  have a := Int.emod_nonneg x (show (n : Int) ≠ 0 by omega)
  have b := Int.emod_lt_of_pos x (show 0 < (n : Int) by omega)
  exact ⟨(x % (n : Int)).toNat, by omega, by rw [Int.toNat_of_nonneg a]⟩
theorem Zs.fit2 {L M : Nat} {x y : Str} (h : Zs L x) (g : Zs M y) (hl : L + M ≤ 100000) : x.length + y.length ≤ sizeLine := by
  have a := h.len
  have b := g.len
  exact small_le (by omega)
theorem Zs.ite {L : Nat} {b : Bool} {x y : Str} (h : Zs L x) (g : Zs L y) : ∃ z, (if b = true then PyData.str x else .str y) = .str z ∧ Zs L z := by
  cases b
  · exact ⟨y, rfl, g⟩
  · exact ⟨x, rfl, h⟩
theorem cutA_le {α : Type} (xs : List α) (lo hi : Option Int) : (cutA xs lo hi).length ≤ xs.length := by
  unfold cutA
  rw [List.length_take, List.length_drop]; omega
theorem mem_cutA {α : Type} {xs : List α} {lo hi : Option Int} {x : α} (h : x ∈ cutA xs lo hi) : x ∈ xs := List.mem_of_mem_drop (List.mem_of_mem_take h)
theorem plain_words {k : Nat} {L : List Wd} (h : L.length ≤ 100000) : plainD (k + 1) (.tuple (L.map encW)) := by
  refine ⟨by rw [List.length_map]; exact small_le (by omega), fun x hx => ?_⟩
  obtain ⟨i, _, rfl⟩ := List.mem_map.mp hx
  cases k <;> trivial
theorem getW {L : List Wd} {i : Nat} (h : i < L.length) : L[i]? = some (L.getD i []) := by
  rw [List.getD_eq_getElem?_getD, List.getElem?_eq_getElem h]; rfl
/-! texts that are bent again and again -/
def bd : Nat → Nat
  | 0 => 7
  | k + 1 => 2 * bd k + 2
theorem bd_le {k : Nat} (h : k ≤ 5) : bd k ≤ 300 := by
  match k, h with
  | 0, _ => decide
  | 1, _ => decide
  | 2, _ => decide
  | 3, _ => decide
  | 4, _ => decide
  | 5, _ => decide
theorem bd_up (k : Nat) : bd k ≤ bd (k + 1) := by show bd k ≤ 2 * bd k + 2; omega
theorem cat_words (A : List Wd) (B : List PyData) : A.map encW = (A.map bt).map PyData.str := by rw [List.map_map]; rfl
end LW
set_option autoImplicit false
set_option linter.all false
namespace K10
open PySem Pl LW L2
/-! figures to many bases -/
def prd (bs : List Int) : Int := bs.foldl (· * ·) 1
def fgR : List Int → Int → List Int
  | [], _ => []
  | b :: bs, x => x % b :: fgR bs (x / b)
def qU (bs : List Int) (x : Int) : Int := bs.foldl (· / ·) x
theorem fgR_snoc (b : Int) : ∀ (bs : List Int) (x : Int), fgR (bs ++ [b]) x = fgR bs x ++ [qU bs x % b]
  | [], x => rfl
  | a :: bs, x => by
    show x % a :: fgR (bs ++ [b]) (x / a) = _
    rw [fgR_snoc b bs]; rfl
theorem qU_snoc (b : Int) (bs : List Int) (x : Int) : qU (bs ++ [b]) x = qU bs x / b := by unfold qU; rw [List.foldl_append]; rfl
theorem fgR_len : ∀ (bs : List Int) (x : Int), (fgR bs x).length = bs.length
  | [], _ => rfl
  | b :: bs, x => congrArg (· + 1) (fgR_len bs (x / b))
def pr : List Int → Int
  | [] => 1
  | b :: bs => b * pr bs
def fD : List Int → Int → List Int
  | [], _ => []
  | b :: bs, x => x / pr bs % b :: fD bs x
def Bs (bs : List Int) : Prop := ∀ b ∈ bs, 2 ≤ b ∧ b ≤ 20
theorem pr_pos : ∀ {bs : List Int}, Bs bs → 1 ≤ pr bs
  | [], _ => by decide
  | b :: bs, h => by
    have h1 := (h b (.head _)).1
    have h2 := pr_pos (bs := bs) fun x hx => h x (.tail _ hx)
    have := Int.mul_le_mul h1 h2 (by decide) (by omega)
    show 1 ≤ b * pr bs
    omega
theorem prd_go : ∀ (bs : List Int) (a : Int), bs.foldl (· * ·) a = a * pr bs
  | [], a => (Int.mul_one a).symm
  | b :: bs, a => by
    show bs.foldl (· * ·) (a * b) = a * (b * pr bs)
    rw [prd_go bs, Int.mul_assoc]
theorem prd_eq (bs : List Int) : prd bs = pr bs := by unfold prd; rw [prd_go, Int.one_mul]
theorem qU_rev : ∀ (bs : List Int) (x : Int), Bs bs → qU bs.reverse x = x / pr bs
  | [], x, _ => (Int.ediv_one x).symm
  | b :: bs, x, h => by
    have h2 : Bs bs := fun x hx => h x (.tail _ hx)
    rw [List.reverse_cons, qU_snoc, qU_rev bs x h2, Int.ediv_ediv_of_nonneg (by have := pr_pos h2; omega), Int.mul_comm]; rfl
theorem fg_eq : ∀ (bs : List Int) (x : Int), Bs bs → (fgR bs.reverse x).reverse = fD bs x
  | [], x, _ => rfl
  | b :: bs, x, h => by
    have h2 : Bs bs := fun x hx => h x (.tail _ hx)
    rw [List.reverse_cons, fgR_snoc, List.reverse_append, qU_rev bs x h2, fg_eq bs x h2]; rfl
theorem fD_len : ∀ (bs : List Int) (x : Int), (fD bs x).length = bs.length
  | [], _ => rfl
  | b :: bs, x => congrArg (· + 1) (fD_len bs x)
def numU (ps : List (Int × Int)) (a : Int) : Int := ps.foldl (fun n p => n * p.1 + p.2) a
theorem mod_split {x b P : Int} (hb : 0 < b) (hP : 0 < P) : x % (b * P) = x / P % b * P + x % P := by
  have h1 := Int.emod_add_mul_ediv x P
  have h2 := Int.emod_add_mul_ediv (x / P) b
  have h3 := Int.emod_nonneg x (show P ≠ 0 by omega)
  have h4 := Int.emod_lt_of_pos x hP
  have h5 := Int.emod_nonneg (x / P) (show b ≠ 0 by omega)
  have h6 := Int.emod_lt_of_pos (x / P) hb
  have e : x = (x / P % b * P + x % P) + b * P * (x / P / b) := by
    have : P * (x / P) = P * (x / P % b + b * (x / P / b)) := by rw [h2]
    rw [Int.mul_add, ← Int.mul_assoc, Int.mul_comm P b] at this
    rw [Int.mul_comm (x / P % b) P]
    omega
  have b1 : 0 ≤ x / P % b * P + x % P := by have := Int.mul_nonneg h5 (show 0 ≤ P by omega); omega
  have b2 : x / P % b * P + x % P < b * P := by
    have : (x / P % b + 1) * P ≤ b * P := Int.mul_le_mul_of_nonneg_right (by omega) (by omega)
    rw [Int.add_mul, Int.one_mul] at this
    omega
  conv => lhs; rw [e]
  rw [Int.add_mul_emod_self_left]
  exact Int.emod_eq_of_lt b1 b2
theorem num_fD : ∀ (bs : List Int) (x a : Int), Bs bs → numU (bs.zip (fD bs x)) a = a * pr bs + x % pr bs
  | [], x, a, _ => by
    show a = a * 1 + x % 1
    rw [Int.emod_one]; omega
  | b :: bs, x, a, h => by
    have h1 := (h b (.head _)).1
    have h2 : Bs bs := fun x hx => h x (.tail _ hx)
    have hp := pr_pos h2
    show numU (bs.zip (fD bs x)) (a * b + x / pr bs % b) = a * (b * pr bs) + x % (b * pr bs)
    rw [num_fD bs x _ h2, mod_split (by omega) (by omega), Int.add_mul, Int.mul_assoc]
    omega
theorem fD_mod : ∀ (bs : List Int) (x y : Int), Bs bs → x % pr bs = y % pr bs → fD bs x = fD bs y
  | [], _, _, _, _ => rfl
  | b :: bs, x, y, h, e => by
    have h1 := (h b (.head _)).1
    have h2 : Bs bs := fun x hx => h x (.tail _ hx)
    have hp := pr_pos h2
    have e2 : x % pr bs = y % pr bs := by
      have hd : pr bs ∣ b * pr bs := ⟨b, Int.mul_comm _ _⟩
      have := congrArg (· % pr bs) e
      simp only [show pr (b :: bs) = b * pr bs from rfl, Int.emod_emod_of_dvd _ hd] at this
      exact this
    have e3 : x / pr bs % b = y / pr bs % b := by
      have e := e
      rw [show pr (b :: bs) = b * pr bs from rfl, mod_split (by omega) (by omega), mod_split (x := y) (by omega) (by omega), e2] at e
      exact Int.eq_of_mul_eq_mul_right (show pr bs ≠ 0 by omega) (by omega)
    show _ :: _ = _ :: _
    rw [e3, fD_mod bs x y h2 e2]
theorem fD_wrap {bs : List Int} (h : Bs bs) (x : Int) : fD bs (x % pr bs) = fD bs x := fD_mod bs _ _ h (by rw [Int.emod_emod])
/-! carries -/
def dif (us vs : List Int) : Nat := ((us.zip vs).filter fun p => !decide (p.1 = p.2)).length
def cr (bs : List Int) (x : Int) : Nat := dif (fD bs x) (fD bs (x + 1))
def cb : List Int → Int → Int
  | [], _ => 0
  | b :: bs, x => x / pr bs + cb bs x
theorem dif_cons (u v : Int) (us vs : List Int) : dif (u :: us) (v :: vs) = (if u = v then 0 else 1) + dif us vs := by
  unfold dif
  rw [List.zip_cons_cons, List.filter_cons]
  by_cases h : u = v
  · rw [if_pos h, decide_eq_true h, if_neg (by decide)]; omega
  · rw [if_neg h, decide_eq_false h, if_pos (by decide), List.length_cons]; omega
theorem div_next {x P : Int} (hP : 0 < P) : (x + 1) / P = x / P ∨ (x + 1) / P = x / P + 1 := by
  have h1 := Int.emod_add_mul_ediv x P
  have h3 := Int.emod_nonneg x (show P ≠ 0 by omega)
  have h4 := Int.emod_lt_of_pos x hP
  by_cases z : x % P + 1 < P
  · left
    have e : x + 1 = (x % P + 1) + P * (x / P) := by omega
    rw [e, Int.add_mul_ediv_left _ _ (by omega), Int.ediv_eq_zero_of_lt (by omega) z]; omega
  · right
    have e : x + 1 = P * (x / P + 1) := by rw [Int.mul_add]; omega
    rw [e, Int.mul_ediv_cancel_left _ (by omega)]
theorem cb_next : ∀ (bs : List Int) (x : Int), Bs bs → cb bs (x + 1) = cb bs x + (cr bs x : Int)
  | [], _, _ => rfl
  | b :: bs, x, h => by
    have h1 := (h b (.head _)).1
    have h2 : Bs bs := fun x hx => h x (.tail _ hx)
    have hp := pr_pos h2
    have ih := cb_next bs x h2
    unfold cr at ih ⊢
    show (x + 1) / pr bs + cb bs (x + 1) = x / pr bs + cb bs x + _
    rw [show fD (b :: bs) x = x / pr bs % b :: fD bs x from rfl, show fD (b :: bs) (x + 1) = (x + 1) / pr bs % b :: fD bs (x + 1) from rfl, dif_cons, ih]
    rcases div_next (x := x) (P := pr bs) (by omega) with e | e
    · rw [e, if_pos rfl]; omega
    · rw [e, if_neg]
      · omega
      · intro z
        have z1 := Int.emod_nonneg (x / pr bs) (show b ≠ 0 by omega)
        have z2 := Int.emod_lt_of_pos (x / pr bs) (show 0 < b by omega)
        have z3 := Int.emod_emod_of_dvd (x / pr bs + 1) (Int.dvd_refl b)
        have z4 : (x / pr bs + 1 - x / pr bs) % b = 0 := by rw [Int.sub_emod, ← z, Int.sub_self]; exact Int.zero_emod b
        rw [show x / pr bs + 1 - x / pr bs = 1 by omega, Int.emod_eq_of_lt (by omega) (by omega)] at z4
        omega
theorem cb_zero : ∀ bs : List Int, cb bs 0 = 0
  | [] => rfl
  | b :: bs => by show 0 / pr bs + cb bs 0 = 0; rw [cb_zero bs, Int.zero_ediv]; rfl
def cbU (bs : List Int) (x : Int) (s : Int × Int) : Int × Int := bs.foldl (fun s b => (s.1 + x / s.2, s.2 * b)) s
theorem cbU_rev : ∀ (bs : List Int) (x : Int), cbU bs.reverse x (0, 1) = (cb bs x, pr bs)
  | [], x => rfl
  | b :: bs, x => by
    unfold cbU
    rw [List.reverse_cons, List.foldl_append]
    have := cbU_rev bs x
    unfold cbU at this
    rw [this]
    show (cb bs x + x / pr bs, pr bs * b) = (x / pr bs + cb bs x, b * pr bs)
    rw [Int.add_comm, Int.mul_comm]
theorem dif_r : ∀ (us vs : List Int), us.length = vs.length → ((List.range us.length).filter fun i => !decide (us.getD i 0 = vs.getD i 0)).length = dif us vs
  | [], [], _ => rfl
  | u :: us, v :: vs, h => by
    rw [List.length_cons, List.range_succ_eq_map, List.filter_cons, List.filter_map, dif_cons, ← dif_r us vs (Nat.succ.inj h)]
    by_cases e : u = v
    · rw [if_neg (by show ¬ (!decide (u = v)) = true; rw [decide_eq_true e]; decide), if_pos e, List.length_map]
      exact (Nat.zero_add _).symm
    · rw [if_pos (by show (!decide (u = v)) = true; rw [decide_eq_false e]; rfl), if_neg e, List.length_cons, List.length_map, Nat.add_comm]; rfl
/-! rabbits -/
def rbP : Nat → Int × Int
  | 0 => (1, 2)
  | i + 1 => ((rbP i).2, (rbP i).1 + (rbP i).2)
def rb (i : Nat) : Int := (rbP i).1
theorem rb_two (i : Nat) : rb (i + 1 + 1) = rb i + rb (i + 1) := rfl
theorem rb_pos : ∀ i, 1 ≤ rb i ∧ rb i < rb (i + 1)
  | 0 => by decide
  | i + 1 => by
    have := rb_pos i
    have e := rb_two i
    constructor <;> omega
theorem rb_mono : ∀ {i j : Nat}, i ≤ j → rb i ≤ rb j
  | i, 0, h => by rw [show i = 0 by omega]; omega
  | i, j + 1, h => by
    by_cases z : i = j + 1
    · rw [z]; omega
    · have := rb_mono (i := i) (j := j) (by omega)
      have := (rb_pos j).2
      omega
theorem rb_big : (1000000000000 : Int) < rb 60 := by decide +kernel
def fl (k : Nat) : List Int := (List.range k).map rb
theorem fl_len (k : Nat) : (fl k).length = k := by unfold fl; rw [List.length_map, List.length_range]
theorem fl_get {k i : Nat} (h : i < k) : (fl k)[i]? = some (rb i) := by unfold fl; rw [List.getElem?_map, List.getElem?_range h]; rfl
theorem fl_snoc (k : Nat) : fl (k + 1) = fl k ++ [rb k] := by unfold fl; rw [List.range_succ, List.map_append]; rfl
/-- how many rabbits are at most x -/
def nr (x : Int) : Nat := ((List.range 61).find? fun k => decide (x < rb k)).getD 0
theorem nr_ok {x : Int} (h0 : 0 ≤ x) (h : x ≤ 1000000000000) : nr x ≤ 60 ∧ x < rb (nr x) ∧ ∀ j, j < nr x → rb j ≤ x := by
  have hex : (List.range 61).find? (fun k => decide (x < rb k)) ≠ none := by
    intro z
    have := List.find?_eq_none.mp z 60 (List.mem_range.mpr (by decide))
    have b := rb_big
    exact this (decide_eq_true (by omega))
  obtain ⟨k, hk⟩ := Option.ne_none_iff_exists'.mp hex
  have e : nr x = k := by unfold nr; rw [hk]; rfl
  rw [e]
  have h1 := List.find?_some hk
  have h2 := List.mem_range.mp (List.mem_of_find?_eq_some hk)
  refine ⟨by omega, of_decide_eq_true h1, fun j hj => ?_⟩
  rw [List.find?_range_eq_some] at hk
  have := hk.2.2 j hj
  simp at this
  exact this
theorem up_of {x : Int} {k : Nat} (h0 : 0 ≤ x) (h : x ≤ 1000000000000) (hk : nr x ≤ k) : ((fl k).filter fun r => decide (r ≤ x)) = fl (nr x) := by
  obtain ⟨_, h2, h3⟩ := nr_ok h0 h
  induction k with
  | zero => rw [show nr x = 0 by omega]; rfl
  | succ k ih =>
    by_cases z : nr x = k + 1
    · rw [z]
      refine List.filter_eq_self.mpr fun r hr => ?_
      obtain ⟨j, hj, rfl⟩ := List.mem_map.mp hr
      exact decide_eq_true (h3 j (by have := List.mem_range.mp hj; omega))
    · rw [fl_snoc, List.filter_append, ih (by omega), List.filter_cons, if_neg]
      · exact List.append_nil _
      · have := rb_mono (show nr x ≤ k by omega)
        simp; omega
def grd : Nat → Int → List Bool
  | 0, _ => []
  | k + 1, x => if rb k ≤ x then true :: grd k (x - rb k) else false :: grd k x
def figs (x : Int) : List Bool := grd (nr x) x
theorem grd_len : ∀ (k : Nat) (x : Int), (grd k x).length = k
  | 0, _ => rfl
  | k + 1, x => by unfold grd; split <;> rw [List.length_cons, grd_len k]
def vlu : List Bool → Int
  | [] => 0
  | b :: t => (if b = true then rb t.length else 0) + vlu t
theorem grd_val : ∀ (k : Nat) {x : Int}, 0 ≤ x → x < rb k → vlu (grd k x) = x
  | 0, x, h0, h1 => by
    have : rb 0 = 1 := rfl
    show (0 : Int) = x; omega
  | k + 1, x, h0, h1 => by
    unfold grd
    by_cases z : rb k ≤ x
    · rw [if_pos z]
      have hlt : x - rb k < rb k := by
        cases k with
        | zero => have a : rb 0 = 1 := rfl; have b : rb (0 + 1) = 2 := rfl; omega
        | succ j => have := rb_two j; have := (rb_pos j).2; omega
      show (if true = true then rb (grd k (x - rb k)).length else 0) + vlu (grd k (x - rb k)) = x
      rw [if_pos rfl, grd_len, grd_val k (by omega) hlt]; omega
    · rw [if_neg z]
      show (if false = true then rb (grd k x).length else 0) + vlu (grd k x) = x
      rw [if_neg Bool.false_ne_true, grd_val k h0 (by omega)]; omega
def no11 : List Bool → Bool
  | true :: true :: _ => false
  | _ :: t => no11 t
  | [] => true
theorem grd_11 : ∀ (k : Nat) {x : Int}, 0 ≤ x → x < rb k → no11 (grd k x) = true
  | 0, x, _, _ => rfl
  | k + 1, x, h0, h1 => by
    unfold grd
    by_cases z : rb k ≤ x
    · rw [if_pos z]
      cases k with
      | zero => rfl
      | succ j =>
        have e := rb_two j
        have hj : ¬ rb j ≤ x - rb (j + 1) := by omega
        have ih := grd_11 (j + 1) (x := x - rb (j + 1)) (by omega) (by have := (rb_pos j).2; omega)
        unfold grd at ih ⊢
        rw [if_neg hj] at ih ⊢
        exact ih
    · rw [if_neg z]
      exact grd_11 k h0 (by omega)
theorem figs_head {x : Int} (h0 : 0 ≤ x) (h : x ≤ 1000000000000) : (figs x).head? ≠ some false := by
  obtain ⟨_, h2, h3⟩ := nr_ok h0 h
  unfold figs
  cases e : nr x with
  | zero => intro z; cases z
  | succ k =>
    unfold grd
    rw [if_pos (h3 k (by omega))]
    intro z; cases z
/-! the loops over rabbits -/
def fstp (s : List Bool × Int) (r : Int) : List Bool × Int := (s.1 ++ [decide (r ≤ s.2)], s.2 - if decide (r ≤ s.2) = true then r else 0)
def figA (L : List Int) (x : Int) (i : Nat) : List Bool × Int := (L.take i).foldl fstp ([], x)
theorem figA_succ {L : List Int} {x r : Int} {i : Nat} (h : L[i]? = some r) : figA L x (i + 1) = fstp (figA L x i) r := by
  unfold figA
  rw [List.take_add_one, h, List.foldl_append]; rfl
theorem figA_len (L : List Int) (x : Int) : ∀ i, (figA L x i).1.length ≤ i
  | 0 => Nat.le_refl 0
  | i + 1 => by
    cases h : L[i]? with
    | none =>
      have := figA_len L x i
      unfold figA at this ⊢
      rw [List.take_add_one, h]
      show ((L.take i ++ []).foldl fstp ([], x)).1.length ≤ i + 1
      rw [List.append_nil]; omega
    | some r =>
      have := figA_len L x i
      rw [figA_succ h]
      show (_ ++ [_]).length ≤ i + 1
      rw [List.length_append]; show _ + 1 ≤ _; omega
theorem grd_fold : ∀ (k : Nat) (t : List Bool) (x : Int), ((fl k).reverse.foldl fstp (t, x)).1 = t ++ grd k x
  | 0, t, x => (List.append_nil t).symm
  | k + 1, t, x => by
    rw [fl_snoc, List.reverse_append]
    show ((fl k).reverse.foldl fstp (t ++ [decide (rb k ≤ x)], x - if decide (rb k ≤ x) = true then rb k else 0)).1 = _
    rw [grd_fold k]
    show _ = t ++ (if rb k ≤ x then true :: grd k (x - rb k) else false :: grd k x)
    by_cases z : rb k ≤ x
    · rw [decide_eq_true z, if_pos rfl, if_pos z, List.append_assoc]; rfl
    · rw [decide_eq_false z, if_neg Bool.false_ne_true, if_neg z, List.append_assoc, Int.sub_zero]; rfl
theorem figA_all (x : Int) : (figA (fl (nr x)).reverse x (nr x)).1 = figs x := by
  unfold figA figs
  rw [List.take_of_length_le (by rw [List.length_reverse, fl_len]; exact Nat.le_refl _), grd_fold]; rfl
def nrec : List Bool → Nat → Int
  | [], _ => 0
  | b :: t, i => (if b = true then rb i else 0) + nrec t (i + 1)
theorem nrec_snoc (b : Bool) : ∀ (l : List Bool) (i : Nat), nrec (l ++ [b]) i = nrec l i + if b = true then rb (i + l.length) else 0
  | [], i => by
    show (if b = true then rb i else 0) + 0 = 0 + _
    rw [Int.add_zero, Int.zero_add]; rfl
  | a :: l, i => by
    show (if a = true then rb i else 0) + nrec (l ++ [b]) (i + 1) = (if a = true then rb i else 0) + nrec l (i + 1) + _
    rw [nrec_snoc b l (i + 1), List.length_cons, show i + 1 + l.length = i + (l.length + 1) by omega, Int.add_assoc]
theorem nrec_vlu : ∀ l : List Bool, nrec l.reverse 0 = vlu l
  | [] => rfl
  | b :: l => by
    rw [List.reverse_cons, nrec_snoc, nrec_vlu l, List.length_reverse, Nat.zero_add, Int.add_comm]; rfl
theorem nrec_next {l : List Bool} {i : Nat} {b : Bool} (h : l[i]? = some b) : nrec (l.take (i + 1)) 0 = nrec (l.take i) 0 + (if b = true then rb i else 0) := by
  have hil := (List.getElem?_eq_some_iff.mp h).1
  rw [List.take_add_one, h, show l.take i ++ (some b).toList = l.take i ++ [b] from rfl, nrec_snoc, List.length_take, Nat.min_eq_left (by omega), Nat.zero_add]
/-- the law's value of a text -/
theorem sum_vlu : ∀ l : List Bool, (((List.range l.length).filter fun i => bit l i).map fun i => rb (l.length - 1 - i)).sum = vlu l
  | [] => rfl
  | b :: l => by
    rw [List.length_cons, List.range_succ_eq_map, List.filter_cons, List.filter_map]
    have e : ((List.range l.length).filter ((fun i => bit (b :: l) i) ∘ Nat.succ)).map Nat.succ = ((List.range l.length).filter fun i => bit l i).map Nat.succ := rfl
    have e2 : (((List.range l.length).filter fun i => bit l i).map Nat.succ).map (fun i => rb (l.length + 1 - 1 - i)) = ((List.range l.length).filter fun i => bit l i).map fun i => rb (l.length - 1 - i) := by
      rw [List.map_map]
      exact List.map_congr_left fun i _ => congrArg rb (by show l.length + 1 - 1 - (i + 1) = _; omega)
    by_cases z : b = true
    · rw [if_pos (show bit (b :: l) 0 = true from z), List.map_cons, e, e2, List.sum_cons, sum_vlu l]
      show rb (l.length + 1 - 1 - 0) + vlu l = ((if b = true then rb l.length else 0) + vlu l)
      rw [if_pos z, show l.length + 1 - 1 - 0 = l.length by omega]
    · rw [if_neg (show ¬ bit (b :: l) 0 = true from z), e, e2, sum_vlu l]
      show vlu l = ((if b = true then rb l.length else 0) + vlu l)
      rw [if_neg z, Int.zero_add]
theorem fl_take {s k : Nat} (h : k ≤ s) : (fl s).take k = fl k := by unfold fl; rw [← List.map_take, List.take_range, Nat.min_eq_left h]
theorem fl_rev {k i : Nat} (h : i < k) : (fl k).reverse[i]? = some (rb (k - 1 - i)) := by
  rw [List.getElem?_reverse (by rw [fl_len]; exact h), fl_len, fl_get (by omega)]
/-! texts -/
def s11 : Str := "11"
theorem s11_bt : ("11" : Str) = bt [true, true] := by decide +kernel
theorem no11_iff : ∀ (l : List Bool), (∃ i, i + 2 ≤ l.length ∧ (l.drop i).take 2 = [true, true]) → no11 l = false
  | [], ⟨i, h, _⟩ => by simp at h
  | [a], ⟨i, h, e⟩ => by simp at h
  | a :: b :: l, ⟨0, h, e⟩ => by
    have : [a, b] = [true, true] := e
    cases this; rfl
  | a :: b :: l, ⟨i + 1, h, e⟩ => by
    have ih := no11_iff (b :: l) ⟨i, by rw [List.length_cons] at h; omega, e⟩
    cases a <;> cases b <;> first | rfl | exact ih
theorem sub11 {l : List Bool} (h : no11 l = true) : subB ("11" : Str) (bt l) = false := by
  cases z : subB ("11" : Str) (bt l) with
  | false => rfl
  | true =>
    rw [s11_bt] at z
    rw [no11_iff l (bt_sub.mp z)] at h
    cases h
def arV (z : Str) : Bool := isB z && (!subB ("11" : Str) z && !decide (cutS z none (some 1) = ("0" : Str)))
theorem head_01 (l : List Bool) : decide (cutS (bt l) none (some 1) = ("0" : Str)) = decide (l.head? = some false) := by
  rw [bt_cut, lit0, bt_eq]
  refine decide_eq_decide.mpr ?_
  cases l with
  | nil => exact ⟨fun h => (by cases h), fun h => (by cases h)⟩
  | cons b l =>
    have e : cutA (b :: l) none (some 1) = [b] := by rw [cutA_lo' (by decide)]; rfl
    rw [e]
    exact ⟨fun h => (by cases h; rfl), fun h => (by cases h; rfl)⟩
/-! three signs -/
def dg : Nat → Nat
  | 0 => 48
  | 1 => 43
  | _ => 45
def sg : Nat → Int
  | 0 => 0
  | 1 => 1
  | _ => -1
def tb (l : List Nat) : Str := ⟨(l.map dg).toArray⟩
def bv (l : List Nat) : Int := l.foldl (fun n d => 3 * n + sg d) 0
theorem bv_go : ∀ (l : List Nat) (a : Int), l.foldl (fun n d => 3 * n + sg d) a = a * 3 ^ l.length + bv l
  | [], a => by show a = a * 1 + 0; omega
  | d :: l, a => by
    unfold bv
    rw [List.foldl_cons, List.foldl_cons, bv_go l, bv_go l (3 * 0 + sg d), List.length_cons, Int.pow_succ, Int.add_mul, Int.mul_comm (3 ^ l.length) 3, ← Int.mul_assoc, Int.mul_comm a 3]
    have : (3 * 0 + sg d : Int) = sg d := by omega
    rw [this]; omega
theorem bv_cons (d : Nat) (l : List Nat) : bv (d :: l) = sg d * 3 ^ l.length + bv l := by
  have := bv_go l (sg d)
  show l.foldl (fun n d => 3 * n + sg d) (3 * 0 + sg d) = _
  rw [show (3 * 0 + sg d : Int) = sg d by omega]; exact this
structure BI (x0 x : Int) (l : List Nat) (k : Nat) : Prop where
  val : x0 = x * 3 ^ l.length + bv l
  small : 2 * (x.natAbs : Int) + 1 ≤ 3 ^ k
  len : l.length + k = 30
  dig : ∀ d ∈ l, d < 3
  hd : x ≠ 0 ∨ l.head? ≠ some 0
theorem bi_start {x : Int} (h1 : -1000000000000 ≤ x) (h2 : x ≤ 1000000000000) : BI x x [] 30 := by
  refine ⟨?_, ?_, rfl, fun d h => (by cases h), .inr (fun h => by cases h)⟩
  · show x = x * 1 + 0
    omega
  · have : (3 : Int) ^ 30 = 205891132094649 := by decide +kernel
    rw [this]; omega
def nx3 (x : Int) : Int := if x % 3 = 2 then (x + 1) / 3 else x / 3
theorem nx3_eq (x : Int) : x = 3 * nx3 x + sg (x % 3).toNat := by
  unfold nx3
  have h : x % 3 = 0 ∨ x % 3 = 1 ∨ x % 3 = 2 := by omega
  rcases h with h | h | h <;> rw [h]
  · rw [if_neg (by decide)]; show x = 3 * (x / 3) + 0; omega
  · rw [if_neg (by decide)]; show x = 3 * (x / 3) + 1; omega
  · rw [if_pos rfl]; show x = 3 * ((x + 1) / 3) + -1; omega
theorem pow3_odd : ∀ k : Nat, (3 : Int) ^ k % 2 = 1
  | 0 => by decide
  | k + 1 => by have := pow3_odd k; rw [Int.pow_succ]; omega
theorem bi_next {x0 x : Int} {l : List Nat} {k : Nat} (h : BI x0 x l k) (hx : x ≠ 0) : ∃ k', k = k' + 1 ∧ BI x0 (nx3 x) ((x % 3).toNat :: l) k' := by
  have e := nx3_eq x
  have hs := h.small
  have h3 : x % 3 = 0 ∨ x % 3 = 1 ∨ x % 3 = 2 := by omega
  cases k with
  | zero => rw [Int.pow_zero] at hs; omega
  | succ k =>
    refine ⟨k, rfl, ?_, ?_, by have := h.len; rw [List.length_cons]; omega, ?_, ?_⟩
    · have hv := h.val
      rw [bv_cons, List.length_cons, Int.pow_succ]
      rw [e, Int.add_mul] at hv
      rw [hv, Int.mul_comm (3 ^ l.length) 3, ← Int.mul_assoc, Int.mul_comm (nx3 x) 3, Int.add_assoc]
    · rw [Int.pow_succ] at hs
      have hb : sg (x % 3).toNat = 0 ∨ sg (x % 3).toNat = 1 ∨ sg (x % 3).toNat = -1 := by
        rcases h3 with z | z | z <;> rw [z]
        · exact .inl rfl
        · exact .inr (.inl rfl)
        · exact .inr (.inr rfl)
      have ho := pow3_odd k
      generalize (3 : Int) ^ k = T at hs ho ⊢
      generalize nx3 x = y at e ⊢
      generalize sg (x % 3).toNat = s at e hb
      omega
    · intro d hd
      rcases List.mem_cons.mp hd with rfl | z
      · omega
      · exact h.dig d z
    · by_cases z : nx3 x = 0
      · right
        intro w
        have : (x % 3).toNat = 0 := Option.some.inj w
        rw [this, z] at e
        exact hx e
      · exact .inl z
theorem bi_end {x0 : Int} {l : List Nat} {k : Nat} (h : BI x0 0 l k) : bv l = x0 ∧ l.head? ≠ some 0 := by
  refine ⟨?_, ?_⟩
  · have := h.val; rw [Int.zero_mul, Int.zero_add] at this; exact this.symm
  · rcases h.hd with z | z
    · exact absurd rfl z
    · exact z
/-! the loops over bases -/
theorem rev_at {bs : List Int} {i : Nat} {b : Int} (h : bs.reverse[i]? = some b) : i < bs.length ∧ bs.drop (bs.length - (i + 1)) = b :: bs.drop (bs.length - i) := by
  have hil := (List.getElem?_eq_some_iff.mp h).1
  rw [List.length_reverse] at hil
  rw [List.getElem?_reverse hil] at h
  refine ⟨hil, ?_⟩
  obtain ⟨h1, h2⟩ := List.getElem?_eq_some_iff.mp h
  rw [show bs.length - (i + 1) = bs.length - 1 - i by omega, List.drop_eq_getElem_cons h1, h2, show bs.length - 1 - i + 1 = bs.length - i by omega]
theorem Bs.drop {bs : List Int} (h : Bs bs) (k : Nat) : Bs (bs.drop k) := fun b hb => h b (List.mem_of_mem_drop hb)
theorem rev_mem {bs : List Int} {i : Nat} {b : Int} (h : bs.reverse[i]? = some b) : b ∈ bs := List.mem_reverse.mp (List.mem_of_getElem? h)
theorem div_turn {S : List Int} {x b : Int} (h : Bs S) : x / pr S / b = x / pr (b :: S) := by
  rw [Int.ediv_ediv_of_nonneg (by have := pr_pos h; omega), Int.mul_comm]; rfl
theorem fD_turn (S : List Int) (x b : Int) : (fD S x).reverse.map PyData.int ++ [PyData.int (x / pr S % b)] = (fD (b :: S) x).reverse.map PyData.int := by
  show _ = ((_ :: _).reverse).map _
  rw [List.reverse_cons, List.map_append]; rfl
theorem pr_nil (x : Int) : x / pr [] = x := Int.ediv_one x
theorem pr_le : ∀ {bs : List Int}, Bs bs → pr bs ≤ 20 ^ bs.length
  | [], _ => by decide
  | b :: bs, h => by
    have h2 : Bs bs := fun x hx => h x (.tail _ hx)
    have h3 := pr_le h2
    have h4 := pr_pos h2
    have := (h b (.head _)).2
    rw [List.length_cons, Int.pow_succ, Int.mul_comm]
    show b * pr bs ≤ 20 * 20 ^ bs.length
    have a := Int.mul_le_mul_of_nonneg_right this (show 0 ≤ pr bs by omega)
    omega
theorem pr_lt {bs : List Int} (h : Bs bs) (hn : bs.length ≤ 6) : pr bs ≤ 64000000 := by
  have := pr_le h
  have e : ∀ n : Nat, n ≤ 6 → (20 : Int) ^ n ≤ 64000000 := by decide +kernel
  have := e _ hn
  omega
theorem divw_ok {i j : Int} (h : 0 < j) (h2 : j ≤ 64000000) : CDivW i j := by
  refine ⟨h, ?_⟩
  have hz : j.natAbs ≠ 0 := by omega
  have := (Nat.log2_lt (n := j.natAbs) (k := 30) hz).mpr (by omega)
  omega
theorem num_next {ps : List (Int × Int)} {i : Nat} {p : Int × Int} (h : ps[i]? = some p) : numU (ps.take (i + 1)) 0 = numU (ps.take i) 0 * p.1 + p.2 := by
  unfold numU
  rw [List.take_add_one, h, List.foldl_append]; rfl
def encP (p : Int × Int) : D := .tuple [.int p.1, .int p.2]
def arB (bs fs : List Int) : Bool := decide ((fs.length : Int) = (bs.length : Int)) && (fs.zip bs).all fun p => decide (0 ≤ p.1) && decide (p.1 < p.2)
theorem sub01 (cp : Nat) : subB ⟨#[cp]⟩ ("01" : Str) = is01 cp := by
  have hs : ("01" : Str) = ⟨#[48, 49]⟩ := by decide +kernel
  rw [hs, Bool.eq_iff_iff, subB_iff]
  unfold is01
  rw [Bool.or_eq_true, decide_eq_true_iff, decide_eq_true_iff]
  constructor
  · rintro ⟨i, h1, h2⟩
    have h1 : i + 1 ≤ 2 := h1
    have h3 : i = 0 ∨ i = 1 := by omega
    rcases h3 with rfl | rfl
    · left
      have : [48] = [cp] := h2
      exact (List.cons.inj this).1.symm
    · right
      have : [49] = [cp] := h2
      exact (List.cons.inj this).1.symm
  · rintro (rfl | rfl)
    · exact ⟨0, by show 0 + 1 ≤ 2; decide, rfl⟩
    · exact ⟨1, by show 1 + 1 ≤ 2; decide, rfl⟩
theorem ar_bt (l : List Bool) : (decide (bt l = ("" : Str)) || bit l 0) = !decide (cutS (bt l) none (some 1) = ("0" : Str)) := by
  rw [head_01, litE, bt_eq]
  cases l with
  | nil => rfl
  | cons b l => cases b <;> simp [bit]
theorem tb_cat (d : Nat) (l : List Nat) : (⟨#[dg d]⟩ : Str) ++ tb l = tb (d :: l) := by
  show SX.S [dg d] ++ SX.S (l.map dg) = SX.S ((d :: l).map dg)
  rw [SX.S_cat]; rfl
theorem tb_len (l : List Nat) : (tb l).length = l.length := by
  show (l.map dg).toArray.size = _
  rw [List.size_toArray, List.length_map]
theorem tb_nil : ("" : Str) = tb [] := by decide +kernel
theorem lit3 : ("0+-" : Str) = ⟨#[48, 43, 45]⟩ := by decide +kernel
theorem litp : ("+" : Str) = ⟨#[43]⟩ := by decide +kernel
theorem litm : ("-" : Str) = ⟨#[45]⟩ := by decide +kernel
theorem at3 {r : Int} (h0 : 0 ≤ r) (h1 : r < 3) : atI ([48, 43, 45] : List Nat) r = some (dg r.toNat) := by
  have : r = 0 ∨ r = 1 ∨ r = 2 := by omega
  rcases this with rfl | rfl | rfl <;> rfl
theorem signs_tb (l : List Nat) : signsD (tb l) = l.map fun d => PyData.str ⟨#[dg d]⟩ := by
  unfold signsD tb
  rw [List.map_map]; rfl
theorem bv_next {l : List Nat} {i d : Nat} (h : l[i]? = some d) : bv (l.take (i + 1)) = 3 * bv (l.take i) + sg d := by
  unfold bv
  rw [List.take_add_one, h, List.foldl_append]; rfl
theorem sg_get {d : Nat} (h : d < 3) : getK [(.inr ("+" : Str), PyData.int 1), (.inr ("0" : Str), PyData.int 0), (.inr ("-" : Str), PyData.int (-1))] (.inr ⟨#[dg d]⟩ : Key) = some (PyData.int (sg d)) := by
  rw [litp, lit0c, litm]
  have : d = 0 ∨ d = 1 ∨ d = 2 := by omega
  rcases this with rfl | rfl | rfl <;> rfl
theorem sg_if {d : Nat} (h : d < 3) : (if decide ((⟨#[dg d]⟩ : Str) = ("+" : Str)) = true then PyData.int 1 else if decide ((⟨#[dg d]⟩ : Str) = ("-" : Str)) = true then PyData.int (0 - 1) else PyData.int 0) = .int (sg d) := by
  rw [litp, litm]
  have : d = 0 ∨ d = 1 ∨ d = 2 := by omega
  rcases this with rfl | rfl | rfl <;> rfl
theorem more_nr {x : Int} {k : Nat} (h2 : x < rb (nr x)) (h : rb (k - 1) ≤ x) : k - 1 < nr x := by
  apply Classical.byContradiction
  intro z
  have := rb_mono (show nr x ≤ k - 1 by omega)
  omega
theorem ar_no {z : Str} (h : ((!isB z) || subB ("11" : Str) z) = true) : arV z = false := by
  unfold arV
  cases a : isB z
  · rfl
  · rw [a] at h
    have : subB ("11" : Str) z = true := h
    rw [this]; rfl
theorem ar_yes {z : Str} (h : ((!isB z) || subB ("11" : Str) z) = false) : ∃ b, z = bt b ∧ subB ("11" : Str) (bt b) = false := by
  obtain ⟨h1, h2⟩ := Bool.or_eq_false_iff.mp h
  obtain ⟨b, rfl⟩ := isB_ex (by rw [Bool.not_eq_false'] at h1; exact h1)
  exact ⟨b, rfl, h2⟩
theorem ar_bool {b : List Bool} (h : subB ("11" : Str) (bt b) = false) : arV (bt b) = !decide (cutS (bt b) none (some 1) = ("0" : Str)) := by
  unfold arV
  rw [isB_bt, h]; rfl
theorem ne_len {b : List Bool} (h : decide (bt b = ("" : Str)) = false) : (0 : Int) < (b.length : Int) := by
  cases b with
  | nil => rw [litE, decide_eq_true rfl] at h; cases h
  | cons a b => rw [List.length_cons]; omega
theorem max_nat (n : Nat) : max (2 : Int) (n : Int) = ((Nat.max 2 n : Nat) : Int) := by
  rcases Nat.le_total 2 n with h | h
  · rw [show Nat.max 2 n = n from Nat.max_eq_right h]; omega
  · rw [show Nat.max 2 n = 2 from Nat.max_eq_left h]; omega
theorem rangeN (n : Nat) : (rangeI 0 n).map PyData.int = (List.range n).map fun i : Nat => PyData.int (i : Int) := by
  unfold rangeI
  rw [List.map_map]
  exact List.map_congr_left fun i _ => congrArg PyData.int (by show (0 : Int) + (i : Int) = i; omega)
theorem at_neg {α : Type} {f : α → D} {xs : List α} {j : Nat} {z : α} (h1 : 1 ≤ j) (h2 : j ≤ xs.length) (h : xs[xs.length - j]? = some z) {i : Int} (e : i = -(j : Int)) : atI (xs.map f) i = some (f z) := by
  subst e
  unfold atI L2.ixN
  rw [List.length_map, if_neg (by omega), if_pos (by omega)]
  show (xs.map f)[(-(j : Int) + (xs.length : Int)).toNat]? = _
  rw [show (-(j : Int) + (xs.length : Int)).toNat = xs.length - j from by omega, List.getElem?_map, h]
  rfl
def oddI (ns : List Int) (mo : Int) : Int := [drawV ns 2 % (mo + 3) - 1, 10 ^ (20 : Int).toNat, 0 - 1].getD (drawV ns 2 / 60 % 12 / 10).toNat 0
def bentI (xs ns : List Int) (mo : Int) : List Int :=
  if drawV ns 0 % 6 = 0 then cutA xs none (some (drawV ns 1 % ((xs.length : Int) + 1))) ++ cutA xs (some (drawV ns 1 % ((xs.length : Int) + 1) + 1)) none
  else if drawV ns 0 % 6 = 1 then cutA xs none (some (drawV ns 1 % ((xs.length : Int) + 1))) ++ [oddI ns mo] ++ cutA xs (some (drawV ns 1 % ((xs.length : Int) + 1))) none
  else if drawV ns 0 % 6 < 4 then cutA xs none (some (drawV ns 1 % ((xs.length : Int) + 1))) ++ [oddI ns mo] ++ cutA xs (some (drawV ns 1 % ((xs.length : Int) + 1) + 1)) none
  else if drawV ns 0 % 6 = 4 then xs.reverse else cutA xs none (some (drawV ns 1 % ((xs.length : Int) + 1))) ++ cutA xs (some (max 0 (drawV ns 1 % ((xs.length : Int) + 1) - 1))) none
theorem bent_end {b : Prop} [Decidable b] {xs ys : List Int} : PyData.tuple ((if b then xs else ys).map PyData.int) = if decide b = true then PyData.tuple (xs.map .int) else PyData.tuple (ys.map .int) := by
  by_cases h : b
  · rw [if_pos h, if_pos (decide_eq_true h)]
  · rw [if_neg h, if_neg (fun z => h (of_decide_eq_true z))]
/-! for the law -/
theorem opp_ins01 {c : Cc} {Q : D → Prop} {x : Nat} (q : Q (.bool (is01 x))) : OpP c (compareOp .In) (.str ⟨#[x]⟩) (.str ("01" : Str)) Q := opp_inS (by rw [sub01]; exact q)
theorem two_md (x : Int) : ∃ md : Int, [19, 3].getD (x % 2).toNat 0 = md ∧ (md = 19 ∨ md = 3) := by
  have : x % 2 = 0 ∨ x % 2 = 1 := by omega
  rcases this with h | h <;> rw [h]
  · exact ⟨19, rfl, .inl rfl⟩
  · exact ⟨3, rfl, .inr rfl⟩
def bsL (ns : List Int) (md c : Int) : List Int := (rangeI 0 c.toNat).map fun a => 2 + drawV ns (1 + a) % md
theorem bsL_ok (ns : List Int) {md c : Int} (hm : md = 19 ∨ md = 3) (h1 : 1 ≤ c) (h2 : c ≤ 6) : Bs (bsL ns md c) ∧ 1 ≤ (bsL ns md c).length ∧ (bsL ns md c).length ≤ 6 := by
  refine ⟨fun b hb => ?_, ?_, ?_⟩
  · obtain ⟨a, _, rfl⟩ := List.mem_map.mp hb
    rcases hm with rfl | rfl <;> omega
  · unfold bsL; rw [List.length_map, rangeI_len]; omega
  · unfold bsL; rw [List.length_map, rangeI_len]; omega
theorem prd_next {bs : List Int} {i : Nat} {b : Int} (h : bs[i]? = some b) : prd (bs.take (i + 1)) = prd (bs.take i) * b := by
  unfold prd
  rw [List.take_add_one, h, List.foldl_append]; rfl
abbrev sm (bs : List Int) (N : Nat) : List D := (List.range (N + 1)).map fun j : Nat => PyData.int (cb bs (j : Int))
theorem sm_zero (bs : List Int) : sm bs 0 = [PyData.int 0] := by
  show [PyData.int (cb bs 0)] = _
  rw [cb_zero]
theorem sm_next {bs : List Int} (h : Bs bs) (N : Nat) : sm bs N ++ [PyData.int (cb bs (N : Int) + (cr bs (N : Int) : Int))] = sm bs (N + 1) := by
  have e : cb bs (N : Int) + (cr bs (N : Int) : Int) = cb bs ((N + 1 : Nat) : Int) := by rw [← cb_next bs _ h]; rfl
  rw [e]
  unfold sm
  rw [List.range_succ (n := N + 1), List.map_append]; rfl
theorem sm_len (bs : List Int) (N : Nat) : (sm bs N).length = N + 1 := by unfold sm; rw [List.length_map, List.length_range]
theorem sm_at {bs : List Int} {N : Nat} {x : Int} (h0 : 0 ≤ x) (h1 : x < (N : Int) + 1) : atI (sm bs N) x = some (.int (cb bs x)) := by
  obtain ⟨j, rfl⟩ : ∃ j : Nat, x = (j : Int) := ⟨x.toNat, by omega⟩
  exact at_natD (f := fun j : Nat => PyData.int (cb bs (j : Int))) (List.getElem?_range (by omega))
theorem sm_last (bs : List Int) (N : Nat) : atI (sm bs N) (-1) = some (.int (cb bs (N : Int))) :=
  at_neg (f := fun j : Nat => PyData.int (cb bs (j : Int))) (j := 1) (by omega) (by rw [List.length_range]; omega) (by rw [List.length_range]; exact List.getElem?_range (by omega)) rfl
theorem at_gd {us : List Int} {a : Nat} (h : a < us.length) : atI (us.map PyData.int) (a : Int) = some (.int (us.getD a 0)) :=
  at_natD (f := PyData.int) (by rw [List.getD_eq_getElem?_getD, List.getElem?_eq_getElem h]; rfl)
abbrev chg (bs us vs : List Int) : List Nat := (List.range bs.length).filter fun a => !decide (us.getD a 0 = vs.getD a 0)
theorem chg_len (bs : List Int) (x : Int) : (chg bs (fD bs x) (fD bs (x + 1))).length = cr bs x := by
  unfold chg cr
  rw [← dif_r _ _ (by rw [fD_len, fD_len]), fD_len]
theorem num_ex {b : Bool} {y P : Int} (h : 1 ≤ P) : ∃ x, (0 ≤ x ∧ x < P) ∧ (if b = true then PyData.int (y % P) else PyData.int (P - 1)) = .int x := by
  have h1 := Int.emod_nonneg y (show P ≠ 0 by omega)
  have h2 := Int.emod_lt_of_pos y (show 0 < P by omega)
  cases b
  · exact ⟨P - 1, by omega, rfl⟩
  · exact ⟨y % P, by omega, rfl⟩
theorem bent_len {xs ns : List Int} {mo : Int} (h : xs.length ≤ 6) : (bentI xs ns mo).length ≤ 100 := by
  have k := fun lo hi => cutA_len xs lo hi
  unfold bentI
  split
  · rw [List.length_append]; have := k none (some (drawV ns 1 % ((xs.length : Int) + 1))); have := k (some (drawV ns 1 % ((xs.length : Int) + 1) + 1)) none; omega
  · split
    · rw [List.length_append, List.length_append]; have := k none (some (drawV ns 1 % ((xs.length : Int) + 1))); have := k (some (drawV ns 1 % ((xs.length : Int) + 1))) none; show _ + 1 + _ ≤ 100; omega
    · split
      · rw [List.length_append, List.length_append]; have := k none (some (drawV ns 1 % ((xs.length : Int) + 1))); have := k (some (drawV ns 1 % ((xs.length : Int) + 1) + 1)) none; show _ + 1 + _ ≤ 100; omega
      · split
        · rw [List.length_reverse]; omega
        · rw [List.length_append]; have := k none (some (drawV ns 1 % ((xs.length : Int) + 1))); have := k (some (max 0 (drawV ns 1 % ((xs.length : Int) + 1) - 1))) none; omega
theorem ar_all : ∀ (bs : List Int) (x : Int), Bs bs → ((fD bs x).zip bs).all (fun p => decide (0 ≤ p.1) && decide (p.1 < p.2)) = true
  | [], _, _ => rfl
  | b :: bs, x, h => by
    have h1 := (h b (.head _)).1
    have h2 : Bs bs := fun x hx => h x (.tail _ hx)
    show (decide (0 ≤ x / pr bs % b) && decide (x / pr bs % b < b) && ((fD bs x).zip bs).all _) = true
    rw [ar_all bs x h2, decide_eq_true (Int.emod_nonneg _ (by omega)), decide_eq_true (Int.emod_lt_of_pos _ (by omega))]; rfl
theorem ar_fD {bs : List Int} (h : Bs bs) (x : Int) : arB bs (fD bs x) = true := by
  unfold arB
  rw [fD_len, decide_eq_true rfl, ar_all bs x h]; rfl
theorem four_ex {a b c : Int} {i : Nat} {hi : Int} (hi4 : i < 4) (ha : 0 ≤ a ∧ a ≤ hi) (hb : 0 ≤ b ∧ b ≤ hi) (hc : 0 ≤ c ∧ c ≤ hi) : ∃ x, (0 ≤ x ∧ x ≤ hi) ∧ PyData.int ([a, b, c, 0].getD (0 + (i : Int)).toNat 0) = .int x := by
  refine ⟨_, ?_, rfl⟩
  have : i = 0 ∨ i = 1 ∨ i = 2 ∨ i = 3 := by omega
  rcases this with rfl | rfl | rfl | rfl
  · exact ha
  · exact hb
  · exact hc
  · show 0 ≤ (0 : Int) ∧ (0 : Int) ≤ hi; omega
theorem figs_ok {x : Int} (h0 : 0 ≤ x) (h : x ≤ 1000000000000) : (figs x).length ≤ 60 ∧ vlu (figs x) = x ∧ subB ("11" : Str) (bt (figs x)) = false ∧ decide (cutS (bt (figs x)) none (some 1) = ("0" : Str)) = false := by
  obtain ⟨h1, h2, h3⟩ := nr_ok h0 h
  refine ⟨by unfold figs; rw [grd_len]; exact h1, grd_val _ h0 h2, sub11 (grd_11 _ h0 h2), ?_⟩
  rw [head_01, decide_eq_false (figs_head h0 h)]
structure Tx (z : Str) : Prop where
  zs : Zs 100 z
  or : isB z = true ∨ subB ("x" : Str) z = true
theorem tx_bt {l : List Bool} (h : l.length ≤ 100) : Tx (bt l) := ⟨(Zs.bt l).mono h, .inl (isB_bt l)⟩
theorem litx : ("x" : Str) = ⟨#[120]⟩ := by decide +kernel
theorem lit01x : ("01x" : Str) = ⟨#[48, 49, 120]⟩ := by decide +kernel
def c3 (r : Int) : Nat := [48, 49, 120].getD r.toNat 0
theorem at_c3 {r : Int} (h0 : 0 ≤ r) (h1 : r < 3) : atI ([48, 49, 120] : List Nat) r = some (c3 r) := by
  have : r = 0 ∨ r = 1 ∨ r = 2 := by omega
  rcases this with rfl | rfl | rfl <;> rfl
theorem tx_mid {a b : List Bool} {r : Int} (h0 : 0 ≤ r) (h1 : r < 3) (h : a.length + b.length ≤ 99) : Tx (bt a ++ (⟨#[c3 r]⟩ : Str) ++ bt b) := by
  have hz : Zs 1 (⟨#[c3 r]⟩ : Str) := ⟨Nat.le_refl 1, fun x hx => by
    have : x = c3 r := by simpa using hx
    have h3 : r = 0 ∨ r = 1 ∨ r = 2 := by omega
    rw [this]
    rcases h3 with rfl | rfl | rfl <;> decide⟩
  refine ⟨(((Zs.bt a).cat hz).cat (Zs.bt b)).mono (by omega), ?_⟩
  have h3 : r = 0 ∨ r = 1 ∨ r = 2 := by omega
  rcases h3 with rfl | rfl | rfl
  · left
    rw [show (⟨#[c3 0]⟩ : Str) = bt [false] from rfl, bt_app, bt_app]; exact isB_bt _
  · left
    rw [show (⟨#[c3 1]⟩ : Str) = bt [true] from rfl, bt_app, bt_app]; exact isB_bt _
  · right
    rw [litx, subB_iff]
    refine ⟨a.length, ?_, ?_⟩
    · show a.length + 1 ≤ (bt a ++ (⟨#[c3 2]⟩ : Str) ++ bt b).cps.size
      rw [← Array.length_toList, cat_codes, cat_codes, List.length_append, List.length_append, bt_codes, List.length_map]
      show a.length + 1 ≤ a.length + 1 + _; omega
    · rw [cat_codes, cat_codes, List.append_assoc, bt_codes, List.drop_append_of_le_length (by rw [List.length_map]; exact Nat.le_refl _), List.drop_of_length_le (by rw [List.length_map]; exact Nat.le_refl _)]
      rfl
theorem five_tx {a b c d e : Str} (h1 : Tx a) (h2 : Tx b) (h3 : Tx c) (h4 : Tx d) (h5 : Tx e) : ∀ z ∈ [a, b, c, d, e], Tx z := fun z hz => by
  simp only [List.mem_cons, List.not_mem_nil, or_false] at hz
  rcases hz with rfl | rfl | rfl | rfl | rfl
  · exact h1
  · exact h2
  · exact h3
  · exact h4
  · exact h5
def bitsOf (z : Str) : List Bool := z.cps.toList.map fun c => decide (c = 49)
theorem bitsOf_bt (l : List Bool) : bitsOf (bt l) = l := by
  unfold bitsOf
  rw [bt_codes, List.map_map]
  exact (List.map_congr_left fun b _ => (by cases b <;> rfl)).trans (List.map_id _)
theorem tx_no {z : Str} (h : Tx z) (hx : (!subB ("x" : Str) z) = true) : bt (bitsOf z) = z ∧ (bitsOf z).length ≤ 100 := by
  rcases h.or with k | k
  · obtain ⟨b, rfl⟩ := isB_ex k
    have := h.zs.len
    rw [bt_len] at this
    rw [bitsOf_bt]
    exact ⟨rfl, this⟩
  · rw [k] at hx; cases hx
theorem opp_0cat {c : Cc} {Q : D → Prop} {a : List Bool} (h : a.length ≤ 1000) (q : Q (.str (bt ([false] ++ a)))) : OpP c (binaryOp .Add) (.str ("0" : Str)) (.str (bt a)) Q := by
  rw [lit0]
  exact opp_catBt (a := [false]) (by show 1 + _ ≤ _; omega) q
theorem tb_head (l : List Nat) (hd : ∀ d ∈ l, d < 3) : decide (cutS (tb l) none (some 1) = ("0" : Str)) = decide (l.head? = some 0) := by
  cases l with
  | nil => decide +kernel
  | cons d l =>
    have h3 := hd d (.head _)
    have e : cutS (tb (d :: l)) none (some 1) = ⟨#[dg d]⟩ := by
      show (⟨(cutA ((d :: l).map dg) none (some 1)).toArray⟩ : Str) = _
      rw [cutA_lo' (by decide)]; rfl
    rw [e, lit0c]
    have : d = 0 ∨ d = 1 ∨ d = 2 := by omega
    rcases this with rfl | rfl | rfl
    · exact (decide_eq_true (show (⟨#[dg 0]⟩ : Str) = ⟨#[48]⟩ from rfl)).trans (decide_eq_true rfl).symm
    · rw [decide_eq_false (by decide)]; exact (decide_eq_false (fun h => by cases h)).symm
    · rw [decide_eq_false (by decide)]; exact (decide_eq_false (fun h => by cases h)).symm
theorem in3 {d : Nat} (h : d < 3) : ((signsD ("+0-" : Str)).any fun z => PyData.eqv z (.str ⟨#[dg d]⟩)) = true := by
  have : d = 0 ∨ d = 1 ∨ d = 2 := by omega
  rcases this with rfl | rfl | rfl <;> decide +kernel
theorem tx_len (l : List Bool) (a : Nat) (r : Int) (h : l.length ≤ 60) : (bt (l.take a) ++ (⟨#[c3 r]⟩ : Str)).length + (bt (l.drop (a + 1))).length ≤ 200 := by
  rw [bt_len, List.length_drop]
  have e : (bt (l.take a) ++ (⟨#[c3 r]⟩ : Str)).length = (l.take a).length + 1 := by
    show (bt (l.take a) ++ (⟨#[c3 r]⟩ : Str)).cps.size = _
    rw [← Array.length_toList, cat_codes, List.length_append, bt_codes, List.length_map]; rfl
  rw [e, List.length_take]; omega
theorem sh3 {d : Nat} (h : d < 3) : SeqAt.shaped (.str ⟨#[dg d]⟩) = true := by
  have : d = 0 ∨ d = 1 ∨ d = 2 := by omega
  rcases this with rfl | rfl | rfl <;> decide +kernel
theorem sh4 : SeqAt.shaped (.list (signsD ("+0-" : Str))) = true := by decide +kernel
section
variable {c : Cc} {Q : D → Prop}
theorem cp_allM {α : Type} {xs : List α} {f : α → Bool} (q : Q (.bool (xs.all f))) : CallP c (.builtin "all") [.list ((xs.map f).map .bool)] Q := cp_all (by rw [List.all_map]; exact q)
theorem opp_ch01 {b : Bool} (q : Q (.bool true)) : OpP c (compareOp .In) (ch b) (.tuple [.str ("0" : Str), .str ("1" : Str)]) Q := opp_in01 (x := Pl.cb b) (by cases b <;> decide) (by rw [show is01 (Pl.cb b) = true from by cases b <;> rfl]; exact q)
theorem opp_in3 {d : Nat} (h : d < 3) (q : Q (.bool true)) : OpP c (compareOp .In) (.str ⟨#[dg d]⟩) (.list (signsD ("+0-" : Str))) Q := opp_inD (sh3 h) sh4 (by rw [in3 h]; exact q)
end
end K10
set_option Elab.async false
set_option linter.all false
set_option maxRecDepth 100000
set_option maxHeartbeats 4000000
set_option autoImplicit false
namespace K10
open PySem PySem.Spec PyProof.Rows L2 Pl LW
local macro_rules | `(tactic| walk_at "int1") => `(tactic| refine cp_int ?_)
local macro_rules | `(tactic| walk_at "abs1") => `(tactic| refine cp_abs ?_)
local macro_rules | `(tactic| walk_at "len1") => `(tactic| first | refine cp_lenL ?_ | refine cp_lenT ?_ | refine cp_lenS (by assumption) ?_)
local macro_rules | `(tactic| walk_at "max2") => `(tactic| refine cp_max ?_)
local macro_rules | `(tactic| walk_at "min2") => `(tactic| refine cp_min ?_)
local macro_rules | `(tactic| walk_at "tuple1") => `(tactic| first | refine cp_tuple ?_ | refine cp_tupleT ?_)
local macro_rules | `(tactic| walk_at "list1") => `(tactic| first | refine cp_listL ?_ | refine cp_listT ?_)
local macro_rules | `(tactic| walk_at "sum1") => `(tactic| first | refine cp_sum ?_ | refine cp_sumT ?_)
local macro_rules | `(tactic| walk_at "all1") => `(tactic| refine cp_all ?_)
local macro_rules | `(tactic| walk_at "any1") => `(tactic| refine cp_any ?_)
local macro_rules | `(tactic| walk_at "add") => `(tactic| first | refine opp_add ?_ | refine opp_catS ?sz ?_ | refine opp_catA ?sz ?_)
local macro_rules | `(tactic| walk_at "iadd") => `(tactic| first | refine ipp_add ?_ | refine ipp_addS ?sz ?_)
local macro_rules | `(tactic| walk_at "mul") => `(tactic| first | exact .inl ⟨by omega, by omega⟩ | exact .inr ⟨by omega, by omega⟩)
local macro_rules | `(tactic| walk_at "eq") => `(tactic| first | refine opp_eqI ?_ | refine opp_eqS ?_ | refine opp_eqB ?_ | refine opp_eq2 ?_ | refine opp_eq rfl rfl ?_)
local macro_rules | `(tactic| walk_at "ne") => `(tactic| first | refine opp_neI ?_ | refine opp_neS ?_ | refine opp_neB ?_ | refine opp_ne2 ?_ | refine opp_ne rfl rfl ?_)
local macro_rules | `(tactic| walk_at "ix") => `(tactic| first | refine ixp_t20 ?_ | refine ixp_t21 ?_ | refine ixp_t30 ?_ | refine ixp_t31 ?_ | refine ixp_t32 ?_ | refine ixp_list ?ix ?_ | refine ixp_tup ?ix ?_ | refine ixp_str ?sz ?ix ?_)
local macro_rules | `(tactic| walk_at "slice") => `(tactic| first | refine slp_list ?_ | refine slp_tup ?_ | refine slp_str ?sz ?_)
local macro_rules | `(tactic| walk_at "max3") => `(tactic| refine cp_max3 ?_)
local macro_rules | `(tactic| walk_at "min3") => `(tactic| refine cp_min3 ?_)
/-! figures_of -/
def sp_figures_of : List D → (D → Prop) → Prop := fun dz Q => ∃ (bs : List Int) (x : Int), dz = [.tuple (bs.map .int), .int x] ∧ (Bs bs ∧ bs.length ≤ 6) ∧ Q (.tuple ((fD bs x).map .int))
theorem len_figures_of : ∀ ds (Q : D → Prop), sp_figures_of ds Q → ds.length = 2 := fun ds Q ⟨_, _, h, _⟩ => by rw [h]; rfl
theorem mono_figures_of : ∀ ds (Q Q' : D → Prop), (∀ d, Q d → Q' d) → sp_figures_of ds Q → sp_figures_of ds Q' := fun ds Q Q' hq ⟨bs, x, h1, h2, h3⟩ => ⟨bs, x, h1, h2, hq _ h3⟩
theorem body_figures_of {m : Md} (m_tuple : m.mg "tuple" = none) (ds : List D) (Q : D → Prop) (h : sp_figures_of ds Q) : S (c_figures_of m 0) (defBody s_figures_of) (start0 ["bases", "number", "found", "base"] ds) { nx := fun _ => Q .none, rt := Q } := by
  obtain ⟨bs, x, rfl, hp, q⟩ := h
  obtain ⟨hB, hn⟩ := hp
  show S _ _ [.v (.tuple (bs.map .int)), .v (.int x), .un, .un] _
  refine S_cons (S1_setL 2 sc_figures_of.nd (EF_lst ?_))
  refine A_nil ?_
  refine ⟨(by show (0 : Nat) ≤ sizeLine; decide), ?_⟩
  refine S_cons (S1_for (ws := [3]) ?_)
  refine W_tup ?_
  refine E_revT ?_
  refine E_var 0 ?_
  refine ⟨_, rfl, ?_⟩
  rw [← List.map_reverse]
  refine ⟨_, rfl, ?_⟩
  refine For_list bs.reverse PyData.int rfl (fun i sp' => ∃ y3 : Sl, sp' = [.v (.tuple (bs.map .int)), .v (.int (x / pr (bs.drop (bs.length - i)))), .l ((fD (bs.drop (bs.length - i)) x).reverse.map .int), y3]) ⟨_, by rw [Nat.sub_zero, List.drop_length, pr_nil]; rfl⟩ (fun i b sp' hb hI => ?_) (fun sp' hI => ?_)
  ·
    obtain ⟨y3, rfl⟩ := hI
    obtain ⟨hil, hd⟩ := rev_at hb
    have hbb := hB b (rev_mem hb)
    refine Asg_name 3 sc_figures_of.nd ?_
    refine S_cons (S1_append 2 rfl ?_)
    refine E_bin ?_
    refine E_var 1 ?_
    refine E_var 3 ?_
    refine opp_mod (by omega) ?_
    refine ⟨by rw [List.length_map, List.length_reverse, fD_len, List.length_drop]; exact small_of (by omega), ?_⟩
    refine S_cons (S1_aug 1 sc_figures_of.nd rfl ?_)
    refine E_var 3 ?_
    refine ipp_divW (divw_ok (by omega) (by omega)) ?_
    refine S_nil ?_
    exact ⟨_, by rw [hd, div_turn (hB.drop _), fD_turn]; rfl⟩
  ·
    obtain ⟨y3, rfl⟩ := hI
    rw [List.length_reverse, Nat.sub_self, List.drop_zero]
    refine S_freeze 2 rfl ?_
    refine S_cons (S1_ret ?_)
    refine E_callTy ?_ m_tuple boot_tuple
    refine A_cons ?_
    refine E_EF ?_
    refine EF_revL ?_
    refine E_var 2 ?_
    refine ⟨_, rfl, ?_⟩
    rw [← List.map_reverse, List.reverse_reverse]
    refine A_nil ?_
    walk_at "tuple1"
    exact q
/-! number_of -/
def sp_number_of : List D → (D → Prop) → Prop := fun dz Q => ∃ (bs : List Int) (fs : List Int), dz = [.tuple (bs.map .int), .tuple (fs.map .int)] ∧ (Bs bs ∧ bs.length ≤ 6) ∧ Q (.int (numU (bs.zip fs) 0))
theorem len_number_of : ∀ ds (Q : D → Prop), sp_number_of ds Q → ds.length = 2 := fun ds Q ⟨_, _, h, _⟩ => by rw [h]; rfl
theorem mono_number_of : ∀ ds (Q Q' : D → Prop), (∀ d, Q d → Q' d) → sp_number_of ds Q → sp_number_of ds Q' := fun ds Q Q' hq ⟨bs, fs, h1, h2, h3⟩ => ⟨bs, fs, h1, h2, hq _ h3⟩
theorem body_number_of {m : Md} (m_zip : m.mg "zip" = none) (ds : List D) (Q : D → Prop) (h : sp_number_of ds Q) : S (c_number_of m 0) (defBody s_number_of) (start0 ["bases", "figures", "number", "base", "figure"] ds) { nx := fun _ => Q .none, rt := Q } := by
  obtain ⟨bs, fs, rfl, hp, q⟩ := h
  obtain ⟨hB, hn⟩ := hp
  show S _ _ [.v (.tuple (bs.map .int)), .v (.tuple (fs.map .int)), .un, .un, .un] _
  refine S_cons (S1_set 2 sc_number_of.nd (E.mono (Q := fun z => z = .int 0) ?_ ?_))
  ·
    refine E_int ?_
    first | done | exact rfl
  rintro _ rfl
  refine S_cons (S1_for (ws := ([3] ++ ([4] ++ ([] : List Nat)))) ?_)
  refine W_zipT ?_ m_zip
  refine E_var 0 ?_
  refine E_var 1 ?_
  refine ⟨_, _, rfl, rfl, ?_⟩
  refine For_list (bs.zip fs) encP (zip_pairs bs fs) (fun i sp' => ∃ y3 y4 : Sl, sp' = [_, _, .v (.int (numU ((bs.zip fs).take i) 0)), y3, y4]) ⟨_, _, rfl⟩ (fun i p sp' hp9 hI => ?_) (fun sp' hI => ?_)
  ·
    obtain ⟨y3, y4, rfl⟩ := hI
    have hbb := hB p.1 (List.of_mem_zip (List.mem_of_getElem? hp9)).1
    first | refine Asg_tup ?_ | refine Asg_lst ?_
    refine AsgL_cons ?_
    refine Asg_name 3 sc_number_of.nd ?_
    refine AsgL_cons ?_
    refine Asg_name 4 sc_number_of.nd ?_
    refine AsgL_nil ?_
    refine S_cons (S1_set 2 sc_number_of.nd (E.mono (Q := fun z => z = .int (numU ((bs.zip fs).take (i + 1)) 0)) ?_ ?_))
    ·
      refine E_bin ?_
      refine E_bin ?_
      refine E_var 2 ?_
      refine E_var 3 ?_
      refine opp_mul (.inr ⟨by omega, by omega⟩) ?_
      refine E_var 4 ?_
      walk_at "add"
      (rw [num_next hp9])
    rintro _ rfl
    refine S_nil ?_
    exact ⟨_, _, rfl⟩
  ·
    obtain ⟨y3, y4, rfl⟩ := hI
    rw [List.take_length]
    refine S_cons (S1_ret ?_)
    refine E_var 2 ?_
    exact q
/-! are_figures -/
def sp_are_figures : List D → (D → Prop) → Prop := fun dz Q => ∃ (bs : List Int) (fs : List Int), dz = [.tuple (bs.map .int), .tuple (fs.map .int)] ∧ (bs.length ≤ 6 ∧ fs.length ≤ 100) ∧ Q (.bool (arB bs fs))
theorem len_are_figures : ∀ ds (Q : D → Prop), sp_are_figures ds Q → ds.length = 2 := fun ds Q ⟨_, _, h, _⟩ => by rw [h]; rfl
theorem mono_are_figures : ∀ ds (Q Q' : D → Prop), (∀ d, Q d → Q' d) → sp_are_figures ds Q → sp_are_figures ds Q' := fun ds Q Q' hq ⟨bs, fs, h1, h2, h3⟩ => ⟨bs, fs, h1, h2, hq _ h3⟩
theorem body_are_figures {m : Md} (m_all : m.mg "all" = none) (m_len : m.mg "len" = none) (m_zip : m.mg "zip" = none) (ds : List D) (Q : D → Prop) (h : sp_are_figures ds Q) : S (c_are_figures m 1) (defBody s_are_figures) (start0 ["bases", "figures", "figure", "base"] ds) { nx := fun _ => Q .none, rt := Q } := by
  obtain ⟨bs, fs, rfl, hp, q⟩ := h
  obtain ⟨hn, hf⟩ := hp
  show S _ _ [.v (.tuple (bs.map .int)), .v (.tuple (fs.map .int)), .un, .un] _
  refine S_cons (S1_ret ?_)
  apply EJ_and
  ·
    refine E_cmp ?_
    refine E_callB ?_ m_len boot_len
    refine A_cons ?_
    refine E_var 1 ?_
    refine A_nil ?_
    refine cp_lenTm ?_
    refine E_callB ?_ m_len boot_len
    refine A_cons ?_
    refine E_var 0 ?_
    refine A_nil ?_
    refine cp_lenTm ?_
    walk_at "eq"
    exact rfl
  ·
    intro hb
    refine E_one ?_
    refine E_allG [("figure", 2), ("base", 3)] ([2] ++ ([3] ++ ([] : List Nat))) m_all sc_are_figures.nd (by show gnOkB ["bases", "figures", "figure", "base"] (defScope s_are_figures) _ _ = true; decide +kernel) (by decide) ?_
    refine W_zipT ?_ m_zip
    refine E_var 1 ?_
    refine E_var 0 ?_
    refine ⟨_, _, rfl, rfl, ?_⟩
    refine Gn_all (fs.zip bs) encP (fun p => decide (0 ≤ p.1) && decide (p.1 < p.2)) (zip_pairs fs bs) (fun i p hp9 hbefore => ?_) ?_
    ·
      first | refine Asg_tup ?_ | refine Asg_lst ?_
      refine AsgL_cons ?_
      refine Asg_name 2 sc_are_figures.nd ?_
      refine AsgL_cons ?_
      refine Asg_name 3 sc_are_figures.nd ?_
      refine AsgL_nil ?_
      apply E_chainJ
      ·
        refine E_int ?_
        exact rfl
      ·
        refine E_var 2 ?_
        exact rfl
      ·
        refine opp_le ?_
        exact rfl
      ·
        intro hc
        refine E_var 3 ?_
        exact rfl
      ·
        intro hc
        refine opp_lt ?_
        exact rfl
      · with_unfolding_all rfl
      exact rfl
    exact rfl
  exact q
/-! carry -/
def sp_carry : List D → (D → Prop) → Prop := fun dz Q => ∃ (bs : List Int) (x : Int), dz = [.tuple (bs.map .int), .int x] ∧ (Bs bs ∧ bs.length ≤ 6) ∧ Q (.int ((cr bs x : Nat) : Int))
theorem len_carry : ∀ ds (Q : D → Prop), sp_carry ds Q → ds.length = 2 := fun ds Q ⟨_, _, h, _⟩ => by rw [h]; rfl
theorem mono_carry : ∀ ds (Q Q' : D → Prop), (∀ d, Q d → Q' d) → sp_carry ds Q → sp_carry ds Q' := fun ds Q Q' hq ⟨bs, x, h1, h2, h3⟩ => ⟨bs, x, h1, h2, hq _ h3⟩
theorem body_carry {m : Md} (m_len : m.mg "len" = none) (m_zip : m.mg "zip" = none) (F_figures_of : Fd m "figures_of" 1 2 sp_figures_of) (ds : List D) (Q : D → Prop) (h : sp_carry ds Q) : S (c_carry m 1) (defBody s_carry) (start0 ["bases", "number", "before", "behind", "one", "other"] ds) { nx := fun _ => Q .none, rt := Q } := by
  obtain ⟨bs, x, rfl, hp, q⟩ := h
  obtain ⟨hB, hn⟩ := hp
  show S _ _ [.v (.tuple (bs.map .int)), .v (.int x), .un, .un, .un, .un] _
  refine S_cons (S1_set 2 sc_carry.nd (E.mono (Q := fun z => z = .tuple ((fD bs x).map .int)) ?_ ?_))
  ·
    refine E_call F_figures_of (show 1 ≤ 1 by decide) ?_
    refine A_cons ?_
    refine E_var 0 ?_
    refine A_cons ?_
    refine E_var 1 ?_
    refine A_nil ?_
    refine ⟨bs, x, rfl, ⟨hB, hn⟩, ?_⟩
    first | done | exact rfl
  rintro _ rfl
  refine S_cons (S1_set 3 sc_carry.nd (E.mono (Q := fun z => z = .tuple ((fD bs (x + 1)).map .int)) ?_ ?_))
  ·
    refine E_call F_figures_of (show 1 ≤ 1 by decide) ?_
    refine A_cons ?_
    refine E_var 0 ?_
    refine A_cons ?_
    refine E_bin ?_
    refine E_var 1 ?_
    refine E_int ?_
    walk_at "add"
    refine A_nil ?_
    refine ⟨bs, x + 1, rfl, ⟨hB, hn⟩, ?_⟩
    first | done | exact rfl
  rintro _ rfl
  refine S_cons (S1_ret ?_)
  refine E_callB ?_ m_len boot_len
  refine A_cons ?_
  refine E_EF ?_
  refine EF_lc (own := [("one", 4), ("other", 5)]) (ws := ([4] ++ ([5] ++ ([] : List Nat)))) sc_carry.nd (by show blkC ["bases", "number", "before", "behind", "one", "other"] (defScope s_carry) _ _ = true; decide +kernel) (by decide) ?_
  refine W_zipT ?_ m_zip
  refine E_var 2 ?_
  refine E_var 3 ?_
  refine ⟨_, _, rfl, rfl, ?_⟩
  refine Lc_fil' (r := (((fD bs x).zip (fD bs (x + 1))).filter fun p => !decide (p.1 = p.2)).map fun _ => PyData.int 1) ((fD bs x).zip (fD bs (x + 1))) encP (fun p => !decide (p.1 = p.2)) (fun _ => PyData.int 1) rfl (zip_pairs _ _) (by rw [List.length_zip, fD_len, fD_len]; exact small_le (by omega)) (fun p hp9 => ?_) ?_
  ·
    first | refine Asg_tup ?_ | refine Asg_lst ?_
    refine AsgL_cons ?_
    refine Asg_name 4 sc_carry.nd ?_
    refine AsgL_cons ?_
    refine Asg_name 5 sc_carry.nd ?_
    refine AsgL_nil ?_
    refine T_cmp ?_
    refine E_var 4 ?_
    refine E_var 5 ?_
    walk_at "ne"
    refine ⟨_, rfl, ?_⟩
    refine ⟨rfl, fun hp => ?_⟩
    refine E_int ?_
    exact rfl
  refine A_nil ?_
  refine cp_lenLm ?_
  exact q
/-! carries_before -/
def sp_carries_before : List D → (D → Prop) → Prop := fun dz Q => ∃ (bs : List Int) (x : Int), dz = [.tuple (bs.map .int), .int x] ∧ (Bs bs ∧ bs.length ≤ 6) ∧ Q (.int (cb bs x))
theorem len_carries_before : ∀ ds (Q : D → Prop), sp_carries_before ds Q → ds.length = 2 := fun ds Q ⟨_, _, h, _⟩ => by rw [h]; rfl
theorem mono_carries_before : ∀ ds (Q Q' : D → Prop), (∀ d, Q d → Q' d) → sp_carries_before ds Q → sp_carries_before ds Q' := fun ds Q Q' hq ⟨bs, x, h1, h2, h3⟩ => ⟨bs, x, h1, h2, hq _ h3⟩
theorem body_carries_before {m : Md}  (ds : List D) (Q : D → Prop) (h : sp_carries_before ds Q) : S (c_carries_before m 0) (defBody s_carries_before) (start0 ["bases", "number", "whole", "step", "base"] ds) { nx := fun _ => Q .none, rt := Q } := by
  obtain ⟨bs, x, rfl, hp, q⟩ := h
  obtain ⟨hB, hn⟩ := hp
  show S _ _ [.v (.tuple (bs.map .int)), .v (.int x), .un, .un, .un] _
  refine S_cons (S1_set 2 sc_carries_before.nd (E.mono (Q := fun z => z = .int 0) ?_ ?_))
  ·
    refine E_int ?_
    first | done | exact rfl
  rintro _ rfl
  refine S_cons (S1_set 3 sc_carries_before.nd (E.mono (Q := fun z => z = .int 1) ?_ ?_))
  ·
    refine E_int ?_
    first | done | exact rfl
  rintro _ rfl
  refine S_cons (S1_for (ws := [4]) ?_)
  refine W_tup ?_
  refine E_revT ?_
  refine E_var 0 ?_
  refine ⟨_, rfl, ?_⟩
  rw [← List.map_reverse]
  refine ⟨_, rfl, ?_⟩
  refine For_list bs.reverse PyData.int rfl (fun i sp' => ∃ y4 : Sl, sp' = [.v (.tuple (bs.map .int)), .v (.int x), .v (.int (cb (bs.drop (bs.length - i)) x)), .v (.int (pr (bs.drop (bs.length - i)))), y4]) ⟨_, by rw [Nat.sub_zero, List.drop_length]; rfl⟩ (fun i b sp' hb hI => ?_) (fun sp' hI => ?_)
  ·
    obtain ⟨y4, rfl⟩ := hI
    obtain ⟨hil, hd⟩ := rev_at hb
    have hbb := hB b (rev_mem hb)
    have hp1 := pr_pos (hB.drop (bs.length - i))
    have hp2 := pr_lt (hB.drop (bs.length - i)) (by rw [List.length_drop]; omega)
    refine Asg_name 4 sc_carries_before.nd ?_
    refine S_cons (S1_aug 2 sc_carries_before.nd rfl ?_)
    refine E_bin ?_
    refine E_var 1 ?_
    refine E_var 3 ?_
    refine opp_div ⟨by omega, by omega⟩ ?_
    walk_at "iadd"
    refine S_cons (S1_aug 3 sc_carries_before.nd rfl ?_)
    refine E_var 4 ?_
    refine ipp_mul (.inr ⟨by omega, by omega⟩) ?_
    refine S_nil ?_
    exact ⟨_, by rw [hd, show cb (b :: bs.drop (bs.length - i)) x = cb (bs.drop (bs.length - i)) x + x / pr (bs.drop (bs.length - i)) from Int.add_comm _ _, show pr (b :: bs.drop (bs.length - i)) = pr (bs.drop (bs.length - i)) * b from Int.mul_comm _ _]; rfl⟩
  ·
    obtain ⟨y4, rfl⟩ := hI
    rw [List.length_reverse, Nat.sub_self, List.drop_zero]
    refine S_cons (S1_ret ?_)
    refine E_var 2 ?_
    exact q
/-! rabbits_up_to -/
def sp_rabbits_up_to : List D → (D → Prop) → Prop := fun dz Q => ∃ (x : Int), dz = [.int x] ∧ (0 ≤ x ∧ x ≤ 1000000000000) ∧ Q (.list ((fl (nr x)).map .int))
theorem len_rabbits_up_to : ∀ ds (Q : D → Prop), sp_rabbits_up_to ds Q → ds.length = 1 := fun ds Q ⟨_, h, _⟩ => by rw [h]; rfl
theorem mono_rabbits_up_to : ∀ ds (Q Q' : D → Prop), (∀ d, Q d → Q' d) → sp_rabbits_up_to ds Q → sp_rabbits_up_to ds Q' := fun ds Q Q' hq ⟨x, h1, h2, h3⟩ => ⟨x, h1, h2, hq _ h3⟩
theorem body_rabbits_up_to {m : Md}  (ds : List D) (Q : D → Prop) (h : sp_rabbits_up_to ds Q) : S (c_rabbits_up_to m 0) (defBody s_rabbits_up_to) (start0 ["number", "found", "rabbit"] ds) { nx := fun _ => Q .none, rt := Q } := by
  obtain ⟨x, rfl, hp, q⟩ := h
  obtain ⟨hx0, hx1⟩ := hp
  show S _ _ [.v (.int x), .un, .un] _
  obtain ⟨hr1, hr2, hr3⟩ := nr_ok hx0 hx1
  refine S_cons (S1_setL 1 sc_rabbits_up_to.nd (EF_lst ?_))
  refine A_cons ?_
  refine E_int ?_
  refine A_cons ?_
  refine E_int ?_
  refine A_nil ?_
  refine ⟨(by show (2 : Nat) ≤ sizeLine; decide), ?_⟩
  refine S_cons (S1_while (fun n' sp' => ∃ k : Nat, 2 ≤ k ∧ k ≤ 62 ∧ n' = 62 - k ∧ sp' = [_, .l ((fl k).map .int), _]) ⟨_, 2, by omega, by omega, rfl, rfl⟩ (fun n' sp' hI => ?_))
  obtain ⟨k, hk1, hk2, rfl, rfl⟩ := hI
  refine T_borrow 1 ?_
  refine T_cmp ?_
  refine E_ix ?_
  refine E_var 1 ?_
  refine E_neg ?_
  refine E_int ?_
  refine ⟨_, rfl, ?_⟩
  refine ixp_list (at_neg (j := 1) (by omega) (by rw [fl_len]; omega) (by rw [fl_len]; exact fl_get (by omega)) rfl) ?_
  refine E_var 0 ?_
  refine opp_le ?_
  refine ⟨_, rfl, ?_⟩
  refine iteD (fun h => ?_) (fun h => ?_)
  ·
    refine S_cons (S1_append 1 rfl ?_)
    refine E_bor 1 ?_
    refine E_bin ?_
    refine E_ix ?_
    refine E_var 1 ?_
    refine E_neg ?_
    refine E_int ?_
    refine ⟨_, rfl, ?_⟩
    refine ixp_list (at_neg (j := 1) (by omega) (by rw [fl_len]; omega) (by rw [fl_len]; exact fl_get (by omega)) rfl) ?_
    refine E_ix ?_
    refine E_var 1 ?_
    refine E_neg ?_
    refine E_int ?_
    refine ⟨_, rfl, ?_⟩
    refine ixp_list (at_neg (j := 2) (by omega) (by rw [fl_len]; omega) (by rw [fl_len]; exact fl_get (by omega)) rfl) ?_
    walk_at "add"
    refine ⟨rfl, ?_⟩
    refine ⟨by rw [List.length_map, fl_len]; exact small_of (by omega), ?_⟩
    refine S_nil ?_
    have hm : k - 1 < nr x := more_nr hr2 h
    refine ⟨62 - (k + 1), by omega, k + 1, by omega, by omega, rfl, ?_⟩
    rw [fl_snoc, List.map_append]
    have e := rb_two (k - 2)
    rw [show k - 2 + 1 + 1 = k by omega, show k - 2 + 1 = k - 1 by omega, Int.add_comm] at e
    rw [e]
    rfl
  ·
    refine S_freeze 1 rfl ?_
    refine S_cons (S1_ret ?_)
    refine E_EF ?_
    refine EF_lc (own := [("rabbit", 2)]) (ws := [2]) sc_rabbits_up_to.nd (by show blkC ["number", "found", "rabbit"] (defScope s_rabbits_up_to) _ _ = true; decide +kernel) (by decide) ?_
    refine W_list ?_
    refine E_var 1 ?_
    refine ⟨_, rfl, ?_⟩
    have hkn : nr x ≤ k := by
      apply Classical.byContradiction
      intro z
      exact h (hr3 (k - 1) (by omega))
    refine Lc_fil' (r := (fl (nr x)).map PyData.int) (fl k) PyData.int (fun r => decide (r ≤ x)) PyData.int (by rw [up_of hx0 hx1 hkn]) rfl (by rw [fl_len]; exact small_le (by omega)) (fun r hr => ?_) ?_
    ·
      refine Asg_name 2 sc_rabbits_up_to.nd ?_
      refine T_cmp ?_
      refine E_var 2 ?_
      refine E_var 0 ?_
      refine opp_le ?_
      refine ⟨_, rfl, ?_⟩
      refine ⟨rfl, fun hp => ?_⟩
      refine E_var 2 ?_
      exact rfl
    exact q
/-! rabbit_figures -/
def sp_rabbit_figures : List D → (D → Prop) → Prop := fun dz Q => ∃ (x : Int), dz = [.int x] ∧ (0 ≤ x ∧ x ≤ 1000000000000) ∧ Q (.str (bt (figs x)))
theorem len_rabbit_figures : ∀ ds (Q : D → Prop), sp_rabbit_figures ds Q → ds.length = 1 := fun ds Q ⟨_, h, _⟩ => by rw [h]; rfl
theorem mono_rabbit_figures : ∀ ds (Q Q' : D → Prop), (∀ d, Q d → Q' d) → sp_rabbit_figures ds Q → sp_rabbit_figures ds Q' := fun ds Q Q' hq ⟨x, h1, h2, h3⟩ => ⟨x, h1, h2, hq _ h3⟩
theorem body_rabbit_figures {m : Md} (F_rabbits_up_to : Fd m "rabbits_up_to" 1 1 sp_rabbits_up_to) (ds : List D) (Q : D → Prop) (h : sp_rabbit_figures ds Q) : S (c_rabbit_figures m 1) (defBody s_rabbit_figures) (start0 ["number", "text", "rabbit"] ds) { nx := fun _ => Q .none, rt := Q } := by
  obtain ⟨x, rfl, hp, q⟩ := h
  show S _ _ [.v (.int x), .un, .un] _
  obtain ⟨hr1, hr2, hr3⟩ := nr_ok hp.1 hp.2
  refine S_cons (S1_set 1 sc_rabbit_figures.nd (E.mono (Q := fun d => d = .str (bt [])) ?_ ?_))
  ·
    refine E_str ?_
    exact congrArg _ litE
  rintro _ rfl
  refine S_cons (S1_for (ws := [2]) ?_)
  refine W_list ?_
  refine E_EF ?_
  refine EF_revL ?_
  refine E_call F_rabbits_up_to (show 1 ≤ 1 by decide) ?_
  refine A_cons ?_
  refine E_var 0 ?_
  refine A_nil ?_
  refine ⟨x, rfl, hp, ?_⟩
  refine ⟨_, rfl, ?_⟩
  rw [← List.map_reverse]
  refine ⟨_, rfl, ?_⟩
  refine For_list (fl (nr x)).reverse PyData.int rfl (fun i sp' => ∃ y2 : Sl, sp' = [.v (.int (figA (fl (nr x)).reverse x i).2), .v (.str (bt (figA (fl (nr x)).reverse x i).1)), y2]) ⟨_, rfl⟩ (fun i r sp' hx hI => ?_) (fun sp' hI => ?_)
  ·
    obtain ⟨y2, rfl⟩ := hI
    have hfl := figA_len (fl (nr x)).reverse x i
    have hil := (List.getElem?_eq_some_iff.mp hx).1
    rw [List.length_reverse, fl_len] at hil
    refine Asg_name 2 sc_rabbit_figures.nd ?_
    refine S_cons (S1_aug 1 sc_rabbit_figures.nd rfl ?_)
    apply E_ifS
    ·
      refine T_cmp ?_
      refine E_var 2 ?_
      refine E_var 0 ?_
      refine opp_le ?_
      refine ⟨_, rfl, ?_⟩
      exact rfl
    ·
      intro hi
      refine E_str ?_
      exact rfl
    ·
      intro hi
      refine E_str ?_
      exact rfl
    rw [lit1, lit0, show (if decide (r ≤ (figA (fl (nr x)).reverse x i).2) = true then bt [true] else bt [false]) = bt [decide (r ≤ (figA (fl (nr x)).reverse x i).2)] by cases decide (r ≤ (figA (fl (nr x)).reverse x i).2) <;> rfl]
    refine ipp_addS (by rw [bt_len, bt_len]; exact small_le (by show _ + 1 ≤ _; omega)) ?_
    rw [bt_app]
    refine S_cons (S1_aug 0 sc_rabbit_figures.nd rfl ?_)
    apply E_ifI
    ·
      refine T_cmp ?_
      refine E_var 2 ?_
      refine E_var 0 ?_
      refine opp_le ?_
      refine ⟨_, rfl, ?_⟩
      exact rfl
    ·
      intro hi
      refine E_var 2 ?_
      exact rfl
    ·
      intro hi
      refine E_int ?_
      exact rfl
    refine ipp_sub ?_
    refine S_nil ?_
    exact ⟨_, by rw [figA_succ hx]; rfl⟩
  ·
    obtain ⟨y2, rfl⟩ := hI
    rw [List.length_reverse, fl_len, figA_all]
    refine S_cons (S1_ret ?_)
    refine E_var 1 ?_
    exact q
/-! rabbit_number -/
def sp_rabbit_number : List D → (D → Prop) → Prop := fun dz Q => ∃ (l : List Bool), dz = [.str (bt l)] ∧ (l.length ≤ 100) ∧ Q (.int (vlu l))
theorem len_rabbit_number : ∀ ds (Q : D → Prop), sp_rabbit_number ds Q → ds.length = 1 := fun ds Q ⟨_, h, _⟩ => by rw [h]; rfl
theorem mono_rabbit_number : ∀ ds (Q Q' : D → Prop), (∀ d, Q d → Q' d) → sp_rabbit_number ds Q → sp_rabbit_number ds Q' := fun ds Q Q' hq ⟨l, h1, h2, h3⟩ => ⟨l, h1, h2, hq _ h3⟩
theorem body_rabbit_number {m : Md}  (ds : List D) (Q : D → Prop) (h : sp_rabbit_number ds Q) : S (c_rabbit_number m 0) (defBody s_rabbit_number) (start0 ["text", "number", "one", "other", "figure"] ds) { nx := fun _ => Q .none, rt := Q } := by
  obtain ⟨l, rfl, hp, q⟩ := h
  show S _ _ [.v (.str (bt l)), .un, .un, .un, .un] _
  refine S_cons (S1_set 1 sc_rabbit_number.nd ?_)
  refine E_int ?_
  refine S_cons (S1_asg (ws := ([2] ++ ([3] ++ ([] : List Nat)))) ?_)
  refine E_tup ?_
  refine A_cons ?_
  refine E_int ?_
  refine A_cons ?_
  refine E_int ?_
  refine A_nil ?_
  refine ⟨(by show (2 : Nat) ≤ sizeLine; decide), ?_⟩
  first | refine Asg_tup ?_ | refine Asg_lst ?_
  refine AsgL_cons ?_
  refine Asg_name 2 sc_rabbit_number.nd ?_
  refine AsgL_cons ?_
  refine Asg_name 3 sc_rabbit_number.nd ?_
  refine AsgL_nil ?_
  refine S_cons (S1_for (ws := [4]) ?_)
  refine W_str ?_
  refine E_revS ?_
  refine E_var 0 ?_
  refine ⟨_, rfl, by rw [bt_len]; exact small_le (by omega), ?_⟩
  rw [bt_rev]
  refine ⟨_, rfl, ?_⟩
  refine For_list l.reverse ch (signs_bt l.reverse) (fun i sp' => ∃ y4 : Sl, sp' = [_, .v (.int (nrec (l.reverse.take i) 0)), .v (.int (rb i)), .v (.int (rb (i + 1))), y4]) ⟨_, rfl⟩ (fun i b sp' hx hI => ?_) (fun sp' hI => ?_)
  ·
    obtain ⟨y4, rfl⟩ := hI
    refine Asg_name 4 sc_rabbit_number.nd ?_
    refine S_cons (S1_aug 1 sc_rabbit_number.nd rfl ?_)
    apply E_ifI
    ·
      refine T_cmp ?_
      refine E_var 4 ?_
      refine E_str ?_
      refine opp_eqS ?_
      rw [lit1, bt_eq, show decide ([b] = [true]) = b by cases b <;> rfl]
      refine ⟨_, rfl, ?_⟩
      exact rfl
    ·
      intro hi
      refine E_var 2 ?_
      exact rfl
    ·
      intro hi
      refine E_int ?_
      exact rfl
    walk_at "iadd"
    refine S_cons (S1_par 2 3 sc_rabbit_number.nd ?_)
    refine E_var 3 ?_
    refine E_bin ?_
    refine E_var 2 ?_
    refine E_var 3 ?_
    walk_at "add"
    refine S_nil ?_
    exact ⟨_, by rw [nrec_next hx, rb_two i]; rfl⟩
  ·
    obtain ⟨y4, rfl⟩ := hI
    rw [List.take_length, nrec_vlu]
    refine S_cons (S1_ret ?_)
    refine E_var 1 ?_
    exact q
/-! are_rabbit_figures -/
def sp_are_rabbit_figures : List D → (D → Prop) → Prop := fun dz Q => ∃ (z : Str), dz = [.str z] ∧ (Zs 1000 z) ∧ Q (.bool (arV z))
theorem len_are_rabbit_figures : ∀ ds (Q : D → Prop), sp_are_rabbit_figures ds Q → ds.length = 1 := fun ds Q ⟨_, h, _⟩ => by rw [h]; rfl
theorem mono_are_rabbit_figures : ∀ ds (Q Q' : D → Prop), (∀ d, Q d → Q' d) → sp_are_rabbit_figures ds Q → sp_are_rabbit_figures ds Q' := fun ds Q Q' hq ⟨z, h1, h2, h3⟩ => ⟨z, h1, h2, hq _ h3⟩
theorem body_are_rabbit_figures {m : Md} (m_all : m.mg "all" = none) (ds : List D) (Q : D → Prop) (h : sp_are_rabbit_figures ds Q) : S (c_are_rabbit_figures m 1) (defBody s_are_rabbit_figures) (start0 ["text", "figure"] ds) { nx := fun _ => Q .none, rt := Q } := by
  obtain ⟨z, rfl, hp, q⟩ := h
  show S _ _ [.v (.str z), .un] _
  refine S_cons (S1_if ?_)
  refine Wt_T ?_
  apply TJ_or
  ·
    refine T_not ?_
    refine T_val ?_
    refine E_allG [("figure", 1)] [1] m_all sc_are_rabbit_figures.nd (by show gnOkB ["text", "figure"] (defScope s_are_rabbit_figures) _ _ = true; decide +kernel) (by decide) ?_
    refine W_str ?_
    refine E_var 0 ?_
    refine ⟨_, rfl, ?_⟩
    refine Gn_all z.cps.toList (fun cp => PyData.str ⟨#[cp]⟩) is01 rfl (fun i x hx hbefore => ?_) ?_
    ·
      refine Asg_name 1 sc_are_rabbit_figures.nd ?_
      refine E_cmp ?_
      refine E_var 1 ?_
      refine E_str ?_
      refine opp_ins01 ?_
      exact rfl
    refine ⟨_, rfl, ?_⟩
    exact rfl
  ·
    intro hb
    refine Wt_or1 ?_
    refine T_cmp ?_
    refine E_str ?_
    refine E_var 0 ?_
    refine opp_inS ?_
    refine ⟨_, rfl, ?_⟩
    exact rfl
  refine iteB (fun h => ?_) (fun h => ?_)
  ·
    refine S_cons (S1_ret ?_)
    refine E_bool ?_
    rw [ar_no h] at q
    exact q
  ·
    obtain ⟨b, hbz, hb11⟩ := ar_yes h
    subst hbz
    rw [ar_bool hb11, ← ar_bt] at q
    refine S_nil ?_
    refine S_cons (S1_ret ?_)
    apply EJ_or
    ·
      refine E_cmp ?_
      refine E_var 0 ?_
      refine E_str ?_
      walk_at "eq"
      exact rfl
    ·
      intro hb
      refine E_one ?_
      refine E_cmp ?_
      refine E_ix ?_
      refine E_var 0 ?_
      refine E_int ?_
      refine ixp_w (by omega) (ne_len (by assumption)) (by have := hp.len; rw [bt_len] at this; omega) ?_
      refine E_str ?_
      refine opp_eqc1 ?_
      exact rfl
    exact q
/-! balanced_figures -/
def sp_balanced_figures : List D → (D → Prop) → Prop := fun ds Q => ∃ x : Int, ds = [.int x] ∧ (-1000000000000 ≤ x ∧ x ≤ 1000000000000) ∧ ∀ l : List Nat, l.length ≤ 30 → (∀ d ∈ l, d < 3) → bv l = x → l.head? ≠ some 0 → Q (.str (tb l))
theorem len_balanced_figures : ∀ ds (Q : D → Prop), sp_balanced_figures ds Q → ds.length = 1 := fun ds Q ⟨_, h, _⟩ => by rw [h]; rfl
theorem mono_balanced_figures : ∀ ds (Q Q' : D → Prop), (∀ d, Q d → Q' d) → sp_balanced_figures ds Q → sp_balanced_figures ds Q' := fun ds Q Q' hq ⟨a, h1, h2, h3⟩ => ⟨a, h1, h2, fun l z1 z2 z3 z4 => hq _ (h3 l z1 z2 z3 z4)⟩
theorem body_balanced_figures {m : Md}  (ds : List D) (Q : D → Prop) (h : sp_balanced_figures ds Q) : S (c_balanced_figures m 0) (defBody s_balanced_figures) (start0 ["number", "text", "rest"] ds) { nx := fun _ => Q .none, rt := Q } := by
  obtain ⟨x, rfl, ⟨hx0, hx1⟩, q⟩ := h
  show S _ _ [.v (.int x), .un, .un] _
  refine S_cons (S1_set 1 sc_balanced_figures.nd (E.mono (Q := fun z => z = .str (tb [])) ?_ ?_))
  ·
    refine E_str ?_
    exact congrArg _ tb_nil
  rintro _ rfl
  refine S_cons (S1_while (fun n' sp' => ∃ (y : Int) (l : List Nat) (y2 : Sl), BI x y l n' ∧ sp' = [.v (.int y), .v (.str (tb l)), y2]) ⟨30, x, [], _, bi_start hx0 hx1, rfl⟩ (fun n' sp' hI => ?_))
  obtain ⟨y, l, y2, hb, rfl⟩ := hI
  refine T_cmp ?_
  refine E_var 0 ?_
  refine E_int ?_
  walk_at "ne"
  refine ⟨_, rfl, ?_⟩
  refine iteN (fun h => ?_) (fun h => ?_)
  ·
    obtain ⟨k', rfl, hbn⟩ := bi_next hb h
    have hll := hb.len
    refine S_cons (S1_set 2 sc_balanced_figures.nd (E.mono (Q := fun z => z = .int (y % 3)) ?_ ?_))
    ·
      refine E_bin ?_
      refine E_var 0 ?_
      refine E_int ?_
      refine opp_mod (by omega) ?_
      first | done | exact rfl
    rintro _ rfl
    refine S_cons (S1_set 1 sc_balanced_figures.nd (E.mono (Q := fun z => z = .str (tb ((y % 3).toNat :: l))) ?_ ?_))
    ·
      refine E_bin ?_
      refine E_ix ?_
      refine E_str ?_
      refine E_var 2 ?_
      rw [lit3]
      refine ixp_str (by decide) (at3 (by omega) (by omega)) ?_
      refine E_var 1 ?_
      refine opp_catS (by rw [tb_len]; exact small_le (by show 1 + _ ≤ _; omega)) ?_
      rw [tb_cat]
      first | done | exact rfl
    rintro _ rfl
    refine S_cons (S1_set 0 sc_balanced_figures.nd (E.mono (Q := fun z => z = .int (nx3 y)) ?_ ?_))
    ·
      apply E_ifI
      ·
        refine T_cmp ?_
        refine E_var 2 ?_
        refine E_int ?_
        walk_at "eq"
        refine ⟨_, rfl, ?_⟩
        exact rfl
      ·
        intro hi
        refine E_bin ?_
        refine E_bin ?_
        refine E_var 0 ?_
        refine E_int ?_
        walk_at "add"
        refine E_int ?_
        refine opp_div ⟨by omega, by omega⟩ ?_
        exact rfl
      ·
        intro hi
        refine E_bin ?_
        refine E_var 0 ?_
        refine E_int ?_
        refine opp_div ⟨by omega, by omega⟩ ?_
        exact rfl
      exact (by unfold nx3; by_cases z : y % 3 = 2 <;> simp [z])
    rintro _ rfl
    refine S_nil ?_
    exact ⟨k', by omega, _, _, _, hbn, rfl⟩
  ·
    refine S_cons (S1_ret ?_)
    refine E_var 1 ?_
    subst h
    obtain ⟨he1, he2⟩ := bi_end hb
    have hll := hb.len
    exact q l (by omega) hb.dig he1 he2
/-! balanced_number -/
def sp_balanced_number : List D → (D → Prop) → Prop := fun dz Q => ∃ (l : List Nat), dz = [.str (tb l)] ∧ (l.length ≤ 30 ∧ ∀ d ∈ l, d < 3) ∧ Q (.int (bv l))
theorem len_balanced_number : ∀ ds (Q : D → Prop), sp_balanced_number ds Q → ds.length = 1 := fun ds Q ⟨_, h, _⟩ => by rw [h]; rfl
theorem mono_balanced_number : ∀ ds (Q Q' : D → Prop), (∀ d, Q d → Q' d) → sp_balanced_number ds Q → sp_balanced_number ds Q' := fun ds Q Q' hq ⟨l, h1, h2, h3⟩ => ⟨l, h1, h2, hq _ h3⟩
theorem body_balanced_number {m : Md}  (ds : List D) (Q : D → Prop) (h : sp_balanced_number ds Q) : S (c_balanced_number m 0) (defBody s_balanced_number) (start0 ["text", "number", "figure"] ds) { nx := fun _ => Q .none, rt := Q } := by
  obtain ⟨l, rfl, hp, q⟩ := h
  obtain ⟨hl, hd⟩ := hp
  show S _ _ [.v (.str (tb l)), .un, .un] _
  refine S_cons (S1_set 1 sc_balanced_number.nd (E.mono (Q := fun z => z = .int (bv (l.take 0))) ?_ ?_))
  ·
    refine E_int ?_
    first | done | exact rfl
  rintro _ rfl
  refine S_cons (S1_for (ws := [2]) ?_)
  refine W_str ?_
  refine E_var 0 ?_
  refine ⟨_, rfl, ?_⟩
  refine For_list l (fun d => PyData.str ⟨#[dg d]⟩) (signs_tb l) (fun i sp' => ∃ y2 : Sl, sp' = [_, .v (.int (bv (l.take i))), y2]) ⟨_, rfl⟩ (fun i d sp' hx hI => ?_) (fun sp' hI => ?_)
  ·
    obtain ⟨y2, rfl⟩ := hI
    have hd3 := hd d (List.mem_of_getElem? hx)
    refine Asg_name 2 sc_balanced_number.nd ?_
    refine S_cons (S1_set 1 sc_balanced_number.nd (E.mono (Q := fun z => z = .int (bv (l.take (i + 1)))) ?_ ?_))
    ·
      refine E_bin ?_
      refine E_bin ?_
      refine E_int ?_
      refine E_var 1 ?_
      refine opp_mul (by walk_at "mul") ?_
      refine E_kGet ?_
      refine E_disp3 ?_
      refine E_str ?_
      refine E_int ?_
      refine E_str ?_
      refine E_int ?_
      refine E_str ?_
      refine E_neg ?_
      refine E_int ?_
      refine ⟨_, rfl, ?_⟩
      refine ⟨.inr ("+" : Str), .inr ("0" : Str), .inr ("-" : Str), ⟨rfl, rfl, rfl⟩, ⟨by decide, by decide, by decide⟩, ?_⟩
      refine E_var 2 ?_
      refine ⟨_, .inr ⟨#[dg d]⟩, _, rfl, rfl, sg_get hd3, ?_⟩
      walk_at "add"
      (rw [bv_next hx])
    rintro _ rfl
    refine S_nil ?_
    exact ⟨_, rfl⟩
  ·
    obtain ⟨y2, rfl⟩ := hI
    rw [List.take_length]
    refine S_cons (S1_ret ?_)
    refine E_var 1 ?_
    exact q
/-! _law_bent -/
def sp_law_bent : List D → (D → Prop) → Prop := fun dz Q => ∃ (xs : List Int) (ns : List Int) (mo : Int), dz = [.tuple (xs.map .int), .list (ns.map .int), .int mo] ∧ (xs.length ≤ 100 ∧ okDraws 3 ns ∧ 0 ≤ mo ∧ mo ≤ 100) ∧ Q (.tuple ((bentI xs ns mo).map .int))
theorem len_law_bent : ∀ ds (Q : D → Prop), sp_law_bent ds Q → ds.length = 3 := fun ds Q ⟨_, _, _, h, _⟩ => by rw [h]; rfl
theorem mono_law_bent : ∀ ds (Q Q' : D → Prop), (∀ d, Q d → Q' d) → sp_law_bent ds Q → sp_law_bent ds Q' := fun ds Q Q' hq ⟨xs, ns, mo, h1, h2, h3⟩ => ⟨xs, ns, mo, h1, h2, hq _ h3⟩
theorem body_law_bent {m : Md} (m_int : m.mg "int" = none) (m_len : m.mg "len" = none) (m_max : m.mg "max" = none) (ds : List D) (Q : D → Prop) (h : sp_law_bent ds Q) : S (c_law_bent m 0) (defBody s_law_bent) (start0 ["row", "draws", "most", "way", "at", "odd"] ds) { nx := fun _ => Q .none, rt := Q } := by
  obtain ⟨xs, ns, mo, rfl, hp, q⟩ := h
  obtain ⟨hxl, hns, hmo, hmo2⟩ := hp
  show S _ _ [.v (.tuple (xs.map .int)), .v (.list (ns.map .int)), .v (.int mo), .un, .un, .un] _
  have hd2 := draw_bd hns (j := 2) (by omega) (by omega)
  refine S_cons (S1_set 3 sc_law_bent.nd (E.mono (Q := fun d => d = .int (drawV ns 0 % 6)) ?_ ?_))
  ·
    refine E_bin ?_
    refine E_callTy ?_ m_int boot_int
    refine A_cons ?_
    refine E_ix ?_
    refine E_var 1 ?_
    refine E_int ?_
    refine ixp_list (at_draw hns (by omega) (by omega)) ?_
    refine A_nil ?_
    walk_at "int1"
    refine E_int ?_
    refine opp_mod (by omega) ?_
    first | done | exact rfl
  rintro _ rfl
  refine S_cons (S1_set 4 sc_law_bent.nd (E.mono (Q := fun d => d = .int (drawV ns 1 % ((xs.length : Int) + 1))) ?_ ?_))
  ·
    refine E_bin ?_
    refine E_callTy ?_ m_int boot_int
    refine A_cons ?_
    refine E_ix ?_
    refine E_var 1 ?_
    refine E_int ?_
    refine ixp_list (at_draw hns (by omega) (by omega)) ?_
    refine A_nil ?_
    walk_at "int1"
    refine E_bin ?_
    refine E_callB ?_ m_len boot_len
    refine A_cons ?_
    refine E_var 0 ?_
    refine A_nil ?_
    refine cp_lenTm ?_
    refine E_int ?_
    walk_at "add"
    refine opp_mod (by omega) ?_
    first | done | exact rfl
  rintro _ rfl
  refine S_cons (S1_set 5 sc_law_bent.nd (E.mono (Q := fun d => d = .int (oddI ns mo)) ?_ ?_))
  ·
    refine E_ix ?_
    refine E_tup ?_
    refine A_cons ?_
    refine E_bin ?_
    refine E_bin ?_
    refine E_callTy ?_ m_int boot_int
    refine A_cons ?_
    refine E_ix ?_
    refine E_var 1 ?_
    refine E_int ?_
    refine ixp_list (at_draw hns (by omega) (by omega)) ?_
    refine A_nil ?_
    walk_at "int1"
    refine E_bin ?_
    refine E_var 2 ?_
    refine E_int ?_
    walk_at "add"
    refine opp_mod (by omega) ?_
    refine E_int ?_
    refine opp_sub ?_
    refine A_cons ?_
    refine E_bin ?_
    refine E_int ?_
    refine E_int ?_
    refine opp_pow ⟨by decide, by decide, by decide⟩ ?_
    refine A_cons ?_
    refine E_bin ?_
    refine E_int ?_
    refine E_int ?_
    refine opp_sub ?_
    refine A_nil ?_
    refine ⟨(by show (3 : Nat) ≤ sizeLine; decide), ?_⟩
    refine E_bin ?_
    refine E_bin ?_
    refine E_bin ?_
    refine E_callTy ?_ m_int boot_int
    refine A_cons ?_
    refine E_ix ?_
    refine E_var 1 ?_
    refine E_int ?_
    refine ixp_list (at_draw hns (by omega) (by omega)) ?_
    refine A_nil ?_
    walk_at "int1"
    refine E_int ?_
    refine opp_div ⟨by omega, by omega⟩ ?_
    refine E_int ?_
    refine opp_mod (by omega) ?_
    refine E_int ?_
    refine opp_div ⟨by omega, by omega⟩ ?_
    refine ixp_tup (at_ints (xs := [_, _, _]) (by omega) (by show _ < (3 : Int); omega)) ?_
    first | done | exact rfl
  rintro _ rfl
  refine S_cons (S1_if ?_)
  refine T_cmp ?_
  refine E_var 3 ?_
  refine E_int ?_
  refine opp_eqI ?_
  refine ⟨_, rfl, ?_⟩
  refine iteD (fun h => ?_) (fun h => ?_)
  ·
    refine S_cons (S1_ret ?_)
    refine E_bin ?_
    refine E_slice ?_
    refine E_var 0 ?_
    refine O_none ?_
    refine O_some ?_
    refine E_var 4 ?_
    refine ⟨_, rfl, ?_⟩
    refine slp_tup ?_
    rw [cutA_map]
    refine E_slice ?_
    refine E_var 0 ?_
    refine O_some ?_
    refine E_bin ?_
    refine E_var 4 ?_
    refine E_int ?_
    walk_at "add"
    refine ⟨_, rfl, ?_⟩
    refine O_none ?_
    refine slp_tup ?_
    rw [cutA_map]
    refine opp_catA (by rw [List.length_map, List.length_map]; exact small_le (Nat.le_trans (Nat.add_le_add (cutA_len _ _ _) (cutA_len _ _ _)) (by omega))) ?_
    rw [← List.map_append]
    unfold bentI at q
    rw [if_pos h] at q
    exact q
  ·
    refine S_nil ?_
    refine S_cons (S1_if ?_)
    refine T_cmp ?_
    refine E_var 3 ?_
    refine E_int ?_
    walk_at "eq"
    refine ⟨_, rfl, ?_⟩
    refine iteD (fun h1 => ?_) (fun h1 => ?_)
    ·
      refine S_cons (S1_ret ?_)
      refine E_bin ?_
      refine E_bin ?_
      refine E_slice ?_
      refine E_var 0 ?_
      refine O_none ?_
      refine O_some ?_
      refine E_var 4 ?_
      refine ⟨_, rfl, ?_⟩
      refine slp_tup ?_
      rw [cutA_map]
      refine E_tup ?_
      refine A_cons ?_
      refine E_var 5 ?_
      refine A_nil ?_
      refine ⟨(by show (1 : Nat) ≤ sizeLine; decide), ?_⟩
      refine opp_catA (by rw [List.length_map]; exact small_le (Nat.le_trans (Nat.add_le_add (cutA_len _ _ _) (Nat.le_refl 1)) (by omega))) ?_
      refine E_slice ?_
      refine E_var 0 ?_
      refine O_some ?_
      refine E_var 4 ?_
      refine ⟨_, rfl, ?_⟩
      refine O_none ?_
      refine slp_tup ?_
      rw [cutA_map]
      refine opp_catA (by rw [List.length_append, List.length_map, List.length_map]; exact small_le (Nat.le_trans (Nat.add_le_add (Nat.add_le_add (cutA_len _ _ _) (Nat.le_refl 1)) (cutA_len _ _ _)) (by omega))) ?_
      unfold bentI at q
      rw [if_neg h, if_pos h1, List.map_append, List.map_append] at q
      exact q
    ·
      refine S_nil ?_
      refine S_cons (S1_if ?_)
      refine T_cmp ?_
      refine E_var 3 ?_
      refine E_int ?_
      refine opp_lt ?_
      refine ⟨_, rfl, ?_⟩
      refine iteD (fun h2 => ?_) (fun h2 => ?_)
      ·
        refine S_cons (S1_ret ?_)
        refine E_bin ?_
        refine E_bin ?_
        refine E_slice ?_
        refine E_var 0 ?_
        refine O_none ?_
        refine O_some ?_
        refine E_var 4 ?_
        refine ⟨_, rfl, ?_⟩
        refine slp_tup ?_
        rw [cutA_map]
        refine E_tup ?_
        refine A_cons ?_
        refine E_var 5 ?_
        refine A_nil ?_
        refine ⟨(by show (1 : Nat) ≤ sizeLine; decide), ?_⟩
        refine opp_catA (by rw [List.length_map]; exact small_le (Nat.le_trans (Nat.add_le_add (cutA_len _ _ _) (Nat.le_refl 1)) (by omega))) ?_
        refine E_slice ?_
        refine E_var 0 ?_
        refine O_some ?_
        refine E_bin ?_
        refine E_var 4 ?_
        refine E_int ?_
        walk_at "add"
        refine ⟨_, rfl, ?_⟩
        refine O_none ?_
        refine slp_tup ?_
        rw [cutA_map]
        refine opp_catA (by rw [List.length_append, List.length_map, List.length_map]; exact small_le (Nat.le_trans (Nat.add_le_add (Nat.add_le_add (cutA_len _ _ _) (Nat.le_refl 1)) (cutA_len _ _ _)) (by omega))) ?_
        unfold bentI at q
        rw [if_neg h, if_neg h1, if_pos h2, List.map_append, List.map_append] at q
        exact q
      ·
        refine S_nil ?_
        refine S_cons (S1_ret ?_)
        apply E_ifJ
        ·
          refine T_cmp ?_
          refine E_var 3 ?_
          refine E_int ?_
          walk_at "eq"
          refine ⟨_, rfl, ?_⟩
          exact rfl
        ·
          intro hi
          refine E_revT ?_
          refine E_var 0 ?_
          refine ⟨_, rfl, ?_⟩
          exact rfl
        ·
          intro hi
          refine E_bin ?_
          refine E_slice ?_
          refine E_var 0 ?_
          refine O_none ?_
          refine O_some ?_
          refine E_var 4 ?_
          refine ⟨_, rfl, ?_⟩
          refine slp_tup ?_
          rw [cutA_map]
          refine E_slice ?_
          refine E_var 0 ?_
          refine O_some ?_
          refine E_callB ?_ m_max boot_max
          refine A_cons ?_
          refine E_int ?_
          refine A_cons ?_
          refine E_bin ?_
          refine E_var 4 ?_
          refine E_int ?_
          refine opp_sub ?_
          refine A_nil ?_
          walk_at "max2"
          refine ⟨_, rfl, ?_⟩
          refine O_none ?_
          refine slp_tup ?_
          rw [cutA_map]
          refine opp_catA (by rw [List.length_map, List.length_map]; exact small_le (Nat.le_trans (Nat.add_le_add (cutA_len _ _ _) (cutA_len _ _ _)) (by omega))) ?_
          exact rfl
        unfold bentI at q
        rw [if_neg h, if_neg h1, if_neg h2] at q
        rw [← List.map_reverse, ← List.map_append, ← bent_end]
        exact q
/-! _law_figures -/
def sp_law_figures : List D → (D → Prop) → Prop := fun dz Q => ∃ (bs : List Int) (x : Int), dz = [.tuple (bs.map .int), .int x] ∧ (Bs bs ∧ bs.length ≤ 6) ∧ Q (.tuple ((fD bs x).map .int))
theorem len_law_figures : ∀ ds (Q : D → Prop), sp_law_figures ds Q → ds.length = 2 := fun ds Q ⟨_, _, h, _⟩ => by rw [h]; rfl
theorem mono_law_figures : ∀ ds (Q Q' : D → Prop), (∀ d, Q d → Q' d) → sp_law_figures ds Q → sp_law_figures ds Q' := fun ds Q Q' hq ⟨bs, x, h1, h2, h3⟩ => ⟨bs, x, h1, h2, hq _ h3⟩
theorem body_law_figures {m : Md} (m_tuple : m.mg "tuple" = none) (ds : List D) (Q : D → Prop) (h : sp_law_figures ds Q) : S (c_law_figures m 0) (defBody s_law_figures) (start0 ["bases", "number", "found", "base"] ds) { nx := fun _ => Q .none, rt := Q } := by
  obtain ⟨bs, x, rfl, hp, q⟩ := h
  obtain ⟨hB, hn⟩ := hp
  show S _ _ [.v (.tuple (bs.map .int)), .v (.int x), .un, .un] _
  refine S_cons (S1_setL 2 sc_law_figures.nd (EF_lst ?_))
  refine A_nil ?_
  refine ⟨(by show (0 : Nat) ≤ sizeLine; decide), ?_⟩
  refine S_cons (S1_for (ws := [3]) ?_)
  refine W_tup ?_
  refine E_revT ?_
  refine E_var 0 ?_
  refine ⟨_, rfl, ?_⟩
  rw [← List.map_reverse]
  refine ⟨_, rfl, ?_⟩
  refine For_list bs.reverse PyData.int rfl (fun i sp' => ∃ y3 : Sl, sp' = [.v (.tuple (bs.map .int)), .v (.int (x / pr (bs.drop (bs.length - i)))), .l ((fD (bs.drop (bs.length - i)) x).reverse.map .int), y3]) ⟨_, by rw [Nat.sub_zero, List.drop_length, pr_nil]; rfl⟩ (fun i b sp' hb hI => ?_) (fun sp' hI => ?_)
  ·
    obtain ⟨y3, rfl⟩ := hI
    obtain ⟨hil, hd⟩ := rev_at hb
    have hbb := hB b (rev_mem hb)
    refine Asg_name 3 sc_law_figures.nd ?_
    refine S_cons (S1_append 2 rfl ?_)
    refine E_bin ?_
    refine E_var 1 ?_
    refine E_var 3 ?_
    refine opp_mod (by omega) ?_
    refine ⟨by rw [List.length_map, List.length_reverse, fD_len, List.length_drop]; exact small_of (by omega), ?_⟩
    refine S_cons (S1_set 1 sc_law_figures.nd (E.mono (Q := fun z => z = .int (x / pr (bs.drop (bs.length - i)) / b)) ?_ ?_))
    ·
      refine E_bin ?_
      refine E_var 1 ?_
      refine E_var 3 ?_
      refine opp_div ⟨by omega, by omega⟩ ?_
      first | done | exact rfl
    rintro _ rfl
    refine S_nil ?_
    exact ⟨_, by rw [hd, ← div_turn (hB.drop _), ← fD_turn]; rfl⟩
  ·
    obtain ⟨y3, rfl⟩ := hI
    rw [List.length_reverse, Nat.sub_self, List.drop_zero]
    refine S_freeze 2 rfl ?_
    refine S_cons (S1_ret ?_)
    refine E_callTy ?_ m_tuple boot_tuple
    refine A_cons ?_
    refine E_EF ?_
    refine EF_revL ?_
    refine E_var 2 ?_
    refine ⟨_, rfl, ?_⟩
    rw [← List.map_reverse, List.reverse_reverse]
    refine A_nil ?_
    walk_at "tuple1"
    exact q
/-! _law_rabbits -/
def sp_law_rabbits : List D → (D → Prop) → Prop := fun dz Q => ∃ (k0 : Nat), dz = [.int (k0 : Int)] ∧ (2 ≤ k0 ∧ k0 ≤ 1000) ∧ Q (.list ((fl k0).map .int))
theorem len_law_rabbits : ∀ ds (Q : D → Prop), sp_law_rabbits ds Q → ds.length = 1 := fun ds Q ⟨_, h, _⟩ => by rw [h]; rfl
theorem mono_law_rabbits : ∀ ds (Q Q' : D → Prop), (∀ d, Q d → Q' d) → sp_law_rabbits ds Q → sp_law_rabbits ds Q' := fun ds Q Q' hq ⟨k0, h1, h2, h3⟩ => ⟨k0, h1, h2, hq _ h3⟩
theorem body_law_rabbits {m : Md} (m_len : m.mg "len" = none) (ds : List D) (Q : D → Prop) (h : sp_law_rabbits ds Q) : S (c_law_rabbits m 0) (defBody s_law_rabbits) (start0 ["size", "found"] ds) { nx := fun _ => Q .none, rt := Q } := by
  obtain ⟨k0, rfl, hp, q⟩ := h
  obtain ⟨hk0, hk9⟩ := hp
  show S _ _ [.v (.int (k0 : Int)), .un] _
  refine S_cons (S1_setL 1 sc_law_rabbits.nd (EF_lst ?_))
  refine A_cons ?_
  refine E_int ?_
  refine A_cons ?_
  refine E_int ?_
  refine A_nil ?_
  refine ⟨(by show (2 : Nat) ≤ sizeLine; decide), ?_⟩
  refine S_cons (S1_while (fun n' sp' => ∃ k : Nat, 2 ≤ k ∧ k ≤ k0 ∧ n' = k0 - k ∧ sp' = [_, .l ((fl k).map .int)]) ⟨_, 2, by omega, by omega, rfl, rfl⟩ (fun n' sp' hI => ?_))
  obtain ⟨k, hk1, hk2, rfl, rfl⟩ := hI
  refine T_borrow 1 ?_
  refine T_cmp ?_
  refine E_callB ?_ m_len boot_len
  refine A_cons ?_
  refine E_var 1 ?_
  refine A_nil ?_
  refine cp_lenLm ?_
  rw [fl_len]
  refine E_var 0 ?_
  refine opp_lt ?_
  refine ⟨_, rfl, ?_⟩
  refine iteD (fun h => ?_) (fun h => ?_)
  ·
    refine S_cons (S1_append 1 rfl ?_)
    refine E_bor 1 ?_
    refine E_bin ?_
    refine E_ix ?_
    refine E_var 1 ?_
    refine E_neg ?_
    refine E_int ?_
    refine ⟨_, rfl, ?_⟩
    refine ixp_list (at_neg (j := 1) (by omega) (by rw [fl_len]; omega) (by rw [fl_len]; exact fl_get (by omega)) rfl) ?_
    refine E_ix ?_
    refine E_var 1 ?_
    refine E_neg ?_
    refine E_int ?_
    refine ⟨_, rfl, ?_⟩
    refine ixp_list (at_neg (j := 2) (by omega) (by rw [fl_len]; omega) (by rw [fl_len]; exact fl_get (by omega)) rfl) ?_
    walk_at "add"
    refine ⟨rfl, ?_⟩
    refine ⟨by rw [List.length_map, fl_len]; exact small_of (by omega), ?_⟩
    refine S_nil ?_
    refine ⟨k0 - (k + 1), by omega, k + 1, by omega, by omega, rfl, ?_⟩
    rw [fl_snoc, List.map_append]
    have e := rb_two (k - 2)
    rw [show k - 2 + 1 + 1 = k by omega, show k - 2 + 1 = k - 1 by omega, Int.add_comm] at e
    rw [e]
    rfl
  ·
    refine S_freeze 1 rfl ?_
    refine S_cons (S1_ret ?_)
    refine E_slice ?_
    refine E_var 1 ?_
    refine O_none ?_
    refine O_some ?_
    refine E_var 0 ?_
    refine ⟨_, rfl, ?_⟩
    have hke : k = k0 := by omega
    subst hke
    refine slp_list ?_
    rw [cutA_map, cutA_lo' (by omega), Int.toNat_natCast, fl_take (Nat.le_refl _)]
    exact q
/-! _law_rabbit_value -/
def sp_law_rabbit_value : List D → (D → Prop) → Prop := fun dz Q => ∃ (l : List Bool), dz = [.str (bt l)] ∧ (l.length ≤ 100) ∧ Q (.int (vlu l))
theorem len_law_rabbit_value : ∀ ds (Q : D → Prop), sp_law_rabbit_value ds Q → ds.length = 1 := fun ds Q ⟨_, h, _⟩ => by rw [h]; rfl
theorem mono_law_rabbit_value : ∀ ds (Q Q' : D → Prop), (∀ d, Q d → Q' d) → sp_law_rabbit_value ds Q → sp_law_rabbit_value ds Q' := fun ds Q Q' hq ⟨l, h1, h2, h3⟩ => ⟨l, h1, h2, hq _ h3⟩
theorem body_law_rabbit_value {m : Md} (m_sum : m.mg "sum" = none) (m_max : m.mg "max" = none) (m_len : m.mg "len" = none) (m_range : m.mg "range" = none) (F_law_rabbits : Fd m "_law_rabbits" 1 1 sp_law_rabbits) (ds : List D) (Q : D → Prop) (h : sp_law_rabbit_value ds Q) : S (c_law_rabbit_value m 1) (defBody s_law_rabbit_value) (start0 ["text", "row", "at"] ds) { nx := fun _ => Q .none, rt := Q } := by
  obtain ⟨l, rfl, hp, q⟩ := h
  show S _ _ [.v (.str (bt l)), .un, .un] _
  refine S_cons (S1_set 1 sc_law_rabbit_value.nd (E.mono (Q := fun z => z = .list ((fl l.length).reverse.map .int)) ?_ ?_))
  ·
    refine E_EF ?_
    refine EF_revL ?_
    refine E_slice ?_
    refine E_call F_law_rabbits (show 1 ≤ 1 by decide) ?_
    refine A_cons ?_
    refine E_callB ?_ m_max boot_max
    refine A_cons ?_
    refine E_int ?_
    refine A_cons ?_
    refine E_callB ?_ m_len boot_len
    refine A_cons ?_
    refine E_var 0 ?_
    refine A_nil ?_
    refine cp_lenB (by omega) ?_
    refine A_nil ?_
    refine cp_max ?_
    rw [max_nat l.length]
    refine A_nil ?_
    refine ⟨Nat.max 2 l.length, rfl, ⟨Nat.le_max_left _ _, by have := Nat.max_le.mpr ⟨show 2 ≤ 1000 by decide, show l.length ≤ 1000 by omega⟩; exact this⟩, ?_⟩
    refine O_none ?_
    refine O_some ?_
    refine E_callB ?_ m_len boot_len
    refine A_cons ?_
    refine E_var 0 ?_
    refine A_nil ?_
    refine cp_lenB (by omega) ?_
    refine ⟨_, rfl, ?_⟩
    refine slp_list ?_
    rw [cutA_map, cutA_lo' (by omega), Int.toNat_natCast, fl_take (Nat.le_max_right _ _)]
    refine ⟨_, rfl, ?_⟩
    rw [← List.map_reverse]
    first | done | exact rfl
  rintro _ rfl
  refine S_cons (S1_ret ?_)
  refine E_callB ?_ m_sum boot_sum
  refine A_cons ?_
  refine E_EF ?_
  refine EF_lc (own := [("at", 2)]) (ws := [2]) sc_law_rabbit_value.nd (by show blkC ["text", "row", "at"] (defScope s_law_rabbit_value) _ _ = true; decide +kernel) (by decide) ?_
  refine W_range1 ?_ m_range
  refine E_callB ?_ m_len boot_len
  refine A_cons ?_
  refine E_var 0 ?_
  refine A_nil ?_
  refine cp_lenB (by omega) ?_
  refine ⟨_, rfl, ⟨by omega, by omega⟩, ?_⟩
  rw [Int.toNat_natCast]
  refine Lc_fil' (r := (((List.range l.length).filter fun i => bit l i).map fun i => rb (l.length - 1 - i)).map .int) (List.range l.length) (fun i : Nat => PyData.int (i : Int)) (fun i => bit l i) (fun i => .int (rb (l.length - 1 - i))) (by rw [List.map_map]; rfl) ((rangeD_eq _ _).trans (rangeN l.length)) (by rw [List.length_range]; exact small_le (by omega)) (fun i hi => ?_) ?_
  have hi9 := List.mem_range.mp hi
  ·
    refine Asg_name 2 sc_law_rabbit_value.nd ?_
    refine T_cmp ?_
    refine E_ix ?_
    refine E_var 0 ?_
    refine E_var 2 ?_
    refine ixp_w (by omega) (by omega) (by omega) ?_
    refine E_str ?_
    refine opp_eqc1 ?_
    refine ⟨_, rfl, ?_⟩
    refine ⟨rfl, fun hp => ?_⟩
    refine E_ix ?_
    refine E_var 1 ?_
    refine E_var 2 ?_
    refine ixp_list (at_natD (fl_rev hi9)) ?_
    exact rfl
  refine A_nil ?_
  refine cp_sum ?_
  rw [sum_vlu]
  exact q
/-! _law_balanced_value -/
def sp_law_balanced_value : List D → (D → Prop) → Prop := fun dz Q => ∃ (l : List Nat), dz = [.str (tb l)] ∧ (l.length ≤ 30 ∧ ∀ d ∈ l, d < 3) ∧ Q (.int (bv l))
theorem len_law_balanced_value : ∀ ds (Q : D → Prop), sp_law_balanced_value ds Q → ds.length = 1 := fun ds Q ⟨_, h, _⟩ => by rw [h]; rfl
theorem mono_law_balanced_value : ∀ ds (Q Q' : D → Prop), (∀ d, Q d → Q' d) → sp_law_balanced_value ds Q → sp_law_balanced_value ds Q' := fun ds Q Q' hq ⟨l, h1, h2, h3⟩ => ⟨l, h1, h2, hq _ h3⟩
theorem body_law_balanced_value {m : Md}  (ds : List D) (Q : D → Prop) (h : sp_law_balanced_value ds Q) : S (c_law_balanced_value m 0) (defBody s_law_balanced_value) (start0 ["text", "number", "sign"] ds) { nx := fun _ => Q .none, rt := Q } := by
  obtain ⟨l, rfl, hp, q⟩ := h
  obtain ⟨hl, hd⟩ := hp
  show S _ _ [.v (.str (tb l)), .un, .un] _
  refine S_cons (S1_set 1 sc_law_balanced_value.nd (E.mono (Q := fun z => z = .int (bv (l.take 0))) ?_ ?_))
  ·
    refine E_int ?_
    first | done | exact rfl
  rintro _ rfl
  refine S_cons (S1_for (ws := [2]) ?_)
  refine W_str ?_
  refine E_var 0 ?_
  refine ⟨_, rfl, ?_⟩
  refine For_list l (fun d => PyData.str ⟨#[dg d]⟩) (signs_tb l) (fun i sp' => ∃ y2 : Sl, sp' = [_, .v (.int (bv (l.take i))), y2]) ⟨_, rfl⟩ (fun i d sp' hx hI => ?_) (fun sp' hI => ?_)
  ·
    obtain ⟨y2, rfl⟩ := hI
    have hd3 := hd d (List.mem_of_getElem? hx)
    refine Asg_name 2 sc_law_balanced_value.nd ?_
    refine S_cons (S1_set 1 sc_law_balanced_value.nd (E.mono (Q := fun z => z = .int (bv (l.take (i + 1)))) ?_ ?_))
    ·
      refine E_bin ?_
      refine E_bin ?_
      refine E_int ?_
      refine E_var 1 ?_
      refine opp_mul (by walk_at "mul") ?_
      apply E_ifJ
      ·
        refine T_cmp ?_
        refine E_var 2 ?_
        refine E_str ?_
        walk_at "eq"
        refine ⟨_, rfl, ?_⟩
        exact rfl
      ·
        intro hi
        refine E_int ?_
        exact rfl
      ·
        intro hi
        apply E_ifJ
        ·
          refine T_cmp ?_
          refine E_var 2 ?_
          refine E_str ?_
          walk_at "eq"
          refine ⟨_, rfl, ?_⟩
          exact rfl
        ·
          intro hi
          refine E_bin ?_
          refine E_int ?_
          refine E_int ?_
          refine opp_sub ?_
          exact rfl
        ·
          intro hi
          refine E_int ?_
          exact rfl
        exact rfl
      rw [sg_if hd3]
      refine opp_add ?_
      (rw [bv_next hx])
    rintro _ rfl
    refine S_nil ?_
    exact ⟨_, rfl⟩
  ·
    obtain ⟨y2, rfl⟩ := hI
    rw [List.take_length]
    refine S_cons (S1_ret ?_)
    refine E_var 1 ?_
    exact q
/-! law -/
abbrev sp_law := specLaw
theorem body_law {m : Md} (m_tuple : m.mg "tuple" = none) (m_range : m.mg "range" = none) (m_min : m.mg "min" = none) (m_int : m.mg "int" = none) (m_len : m.mg "len" = none) (m_all : m.mg "all" = none) (m_isinstance : m.mg "isinstance" = none) (m_str : m.mg "str" = none) (m_zip : m.mg "zip" = none) (m_list : m.mg "list" = none) (F_law_draws : Fd m "_law_draws" 1 2 sp_law_draws) (F_law_cell : Fd m "_law_cell" 1 2 sp_law_cell) (F_law_figures : Fd m "_law_figures" 1 2 sp_law_figures) (F_law_bent : Fd m "_law_bent" 1 3 sp_law_bent) (F_law_is : Fd m "_law_is" 5 2 (sp_law_is 3)) (F_rabbit_figures : Fd m "rabbit_figures" 2 1 sp_rabbit_figures) (F_carries_before : Fd m "carries_before" 1 2 sp_carries_before) (F_balanced_figures : Fd m "balanced_figures" 1 1 sp_balanced_figures) (F_carry : Fd m "carry" 2 2 sp_carry) (F_law_rabbit_value : Fd m "_law_rabbit_value" 2 1 sp_law_rabbit_value) (F_figures_of : Fd m "figures_of" 1 2 sp_figures_of) (F_number_of : Fd m "number_of" 1 2 sp_number_of) (F_are_figures : Fd m "are_figures" 2 2 sp_are_figures) (F_rabbit_number : Fd m "rabbit_number" 1 1 sp_rabbit_number) (F_are_rabbit_figures : Fd m "are_rabbit_figures" 2 1 sp_are_rabbit_figures) (F_law_balanced_value : Fd m "_law_balanced_value" 1 1 sp_law_balanced_value) (F_balanced_number : Fd m "balanced_number" 1 1 sp_balanced_number) (ds : List D) (Q : D → Prop) (h : sp_law ds Q) : S (c_law m 5) (defBody s_law) (start0 ["script", "draws", "bases", "product", "base", "sums", "number", "one", "other", "k", "due", "after", "asked", "fine", "small", "text", "at", "bent", "signed", "told", "figure", "sign"] ds) { nx := fun _ => Q .none, rt := Q } := by
  obtain ⟨script, rfl, hscript, q⟩ := h
  show S _ _ [.v (.list (script.map .int)), .un, .un, .un, .un, .un, .un, .un, .un, .un, .un, .un, .un, .un, .un, .un, .un, .un, .un, .un, .un, .un] _
  refine S_cons (S1_set 1 sc_law.nd ?_)
  refine E_call F_law_draws (show 1 ≤ 5 by decide) ?_
  refine A_cons ?_
  refine E_call F_law_cell (show 1 ≤ 5 by decide) ?_
  refine A_cons ?_
  refine E_var 0 ?_
  refine A_cons ?_
  refine E_int ?_
  refine A_nil ?_
  refine ⟨_, _, rfl, by omega, fun x0 => ?_⟩
  refine A_cons ?_
  refine E_int ?_
  refine A_nil ?_
  refine ⟨x0, 40, rfl, by omega, fun ns hns => ?_⟩
  refine S_cons (S1_set 2 sc_law.nd (E.mono (Q := fun z => ∃ bs, (Bs bs ∧ 1 ≤ bs.length ∧ bs.length ≤ 6) ∧ z = .tuple (bs.map .int)) ?_ ?_))
  ·
    refine E_callTy ?_ m_tuple boot_tuple
    refine A_cons ?_
    refine E_EF ?_
    refine EF_lc (own := [("at", 16)]) (ws := [16]) sc_law.nd (by show blkC ["script", "draws", "bases", "product", "base", "sums", "number", "one", "other", "k", "due", "after", "asked", "fine", "small", "text", "at", "bent", "signed", "told", "figure", "sign"] (defScope s_law) _ _ = true; decide +kernel) (by decide) ?_
    refine W_range1 ?_ m_range
    refine E_bin ?_
    refine E_int ?_
    refine E_bin ?_
    refine E_callTy ?_ m_int boot_int
    refine A_cons ?_
    refine E_ix ?_
    refine E_var 1 ?_
    refine E_int ?_
    refine ixp_list (at_draw hns (by omega) (by omega)) ?_
    refine A_nil ?_
    walk_at "int1"
    refine E_int ?_
    refine opp_mod (by omega) ?_
    walk_at "add"
    refine ⟨_, rfl, ⟨by omega, by omega⟩, ?_⟩
    obtain ⟨md, hmd, hmd2⟩ := two_md (drawV ns 7)
    refine Lc_map' (r := (bsL ns md (1 + drawV ns 0 % 6)).map .int) (rangeI 0 (1 + drawV ns 0 % 6).toNat) PyData.int (fun a => .int (2 + drawV ns (1 + a) % md)) (by unfold bsL; rw [List.map_map]; rfl) (rangeD_eq _ _) (by rw [rangeI_len]; exact small_le (by omega)) (fun a ha => ?_) ?_
    have ha' := mem_rangeI.mp ha
    ·
      refine Asg_name 16 sc_law.nd ?_
      refine E_bin ?_
      refine E_int ?_
      refine E_bin ?_
      refine E_callTy ?_ m_int boot_int
      refine A_cons ?_
      refine E_ix ?_
      refine E_var 1 ?_
      refine E_bin ?_
      refine E_int ?_
      refine E_var 16 ?_
      walk_at "add"
      refine ixp_list (at_draw hns (by omega) (by omega)) ?_
      refine A_nil ?_
      walk_at "int1"
      refine E_ix ?_
      refine E_tup ?_
      refine A_cons ?_
      refine E_int ?_
      refine A_cons ?_
      refine E_int ?_
      refine A_nil ?_
      refine ⟨(by show (2 : Nat) ≤ sizeLine; decide), ?_⟩
      refine E_bin ?_
      refine E_callTy ?_ m_int boot_int
      refine A_cons ?_
      refine E_ix ?_
      refine E_var 1 ?_
      refine E_int ?_
      refine ixp_list (at_draw hns (by omega) (by omega)) ?_
      refine A_nil ?_
      walk_at "int1"
      refine E_int ?_
      refine opp_mod (by omega) ?_
      refine ixp_tup (at_ints (xs := [19, 3]) (by omega) (by show _ < (2 : Int); omega)) ?_
      rw [hmd]
      refine opp_mod (by omega) ?_
      walk_at "add"
      exact rfl
    refine A_nil ?_
    walk_at "tuple1"
    exact ⟨bsL ns md (1 + drawV ns 0 % 6), bsL_ok ns hmd2 (by omega) (by omega), rfl⟩
  rintro _ ⟨bs, ⟨hB, hn1, hn6⟩, rfl⟩; have hP1 := pr_pos hB; have hP2 := pr_lt hB hn6
  refine S_cons (S1_set 3 sc_law.nd (E.mono (Q := fun z => z = .int (prd (bs.take 0))) ?_ ?_))
  ·
    refine E_int ?_
    first | done | exact rfl
  rintro _ rfl
  refine S_cons (S1_for (ws := [4]) ?_)
  refine W_tup ?_
  refine E_var 2 ?_
  refine ⟨_, rfl, ?_⟩
  refine For_list bs PyData.int rfl (fun i sp' => ∃ y4 : Sl, sp' = [_, _, _, .v (.int (prd (bs.take i))), y4, _, _, _, _, _, _, _, _, _, _, _, _, _, _, _, _, _]) ⟨_, rfl⟩ (fun i b sp' hb9 hI => ?_) (fun sp' hI => ?_)
  ·
    obtain ⟨y4, rfl⟩ := hI
    have hbb := hB b (List.mem_of_getElem? hb9)
    refine Asg_name 4 sc_law.nd ?_
    refine S_cons (S1_set 3 sc_law.nd (E.mono (Q := fun z => z = .int (prd (bs.take (i + 1)))) ?_ ?_))
    ·
      refine E_bin ?_
      refine E_var 3 ?_
      refine E_var 4 ?_
      refine opp_mul (.inr ⟨by omega, by omega⟩) ?_
      (rw [prd_next hb9])
    rintro _ rfl
    refine S_nil ?_
    exact ⟨_, rfl⟩
  ·
    obtain ⟨y4, rfl⟩ := hI
    rw [List.take_length, prd_eq]
    refine S_cons (S1_setL 5 sc_law.nd (EF_lst ?_))
    refine A_cons ?_
    refine E_int ?_
    refine A_nil ?_
    refine ⟨(by show (1 : Nat) ≤ sizeLine; decide), ?_⟩
    refine S_cons (S1_for (ws := [6]) ?_)
    refine W_range1 ?_ m_range
    refine E_callB ?_ m_min boot_min
    refine A_cons ?_
    refine E_bin ?_
    refine E_var 3 ?_
    refine E_int ?_
    refine opp_sub ?_
    refine A_cons ?_
    refine E_int ?_
    refine A_nil ?_
    refine cp_min ?_
    obtain ⟨N, hN, hN2⟩ : ∃ N : Nat, min (pr bs - 1) 300 = (N : Int) ∧ N ≤ 300 := ⟨(min (pr bs - 1) 300).toNat, by omega, by omega⟩
    rw [hN]
    refine ⟨_, rfl, ⟨by omega, by omega⟩, ?_⟩
    rw [Int.toNat_natCast]
    refine For_range (fun i sp' => ∃ y6 y7 y8 : Sl, sp' = [_, _, _, _, _, .l (sm bs i), y6, y7, y8, _, _, _, _, _, _, _, _, _, _, _, _, _]) ⟨_, _, _, by rw [sm_zero]; rfl⟩ (fun i sp' hi hI => ?_) (fun sp' hI => ?_)
    ·
      obtain ⟨y6, y7, y8, rfl⟩ := hI
      rw [show (0 : Int) + (i : Int) = (i : Int) from by omega]
      refine Asg_name 6 sc_law.nd ?_
      refine S_cons (S1_set 7 sc_law.nd (E.mono (Q := fun z => z = .tuple ((fD bs (i : Int)).map .int)) ?_ ?_))
      ·
        refine E_call F_law_figures (show 1 ≤ 5 by decide) ?_
        refine A_cons ?_
        refine E_var 2 ?_
        refine A_cons ?_
        refine E_var 6 ?_
        refine A_nil ?_
        refine ⟨bs, (i : Int), rfl, ⟨hB, hn6⟩, ?_⟩
        first | done | exact rfl
      rintro _ rfl
      refine S_cons (S1_set 8 sc_law.nd (E.mono (Q := fun z => z = .tuple ((fD bs ((i : Int) + 1)).map .int)) ?_ ?_))
      ·
        refine E_call F_law_figures (show 1 ≤ 5 by decide) ?_
        refine A_cons ?_
        refine E_var 2 ?_
        refine A_cons ?_
        refine E_bin ?_
        refine E_var 6 ?_
        refine E_int ?_
        walk_at "add"
        refine A_nil ?_
        refine ⟨bs, (i : Int) + 1, rfl, ⟨hB, hn6⟩, ?_⟩
        first | done | exact rfl
      rintro _ rfl
      refine S_cons (S1_append 5 rfl ?_)
      refine E_bor 5 ?_
      refine E_bin ?_
      refine E_ix ?_
      refine E_var 5 ?_
      refine E_neg ?_
      refine E_int ?_
      refine ⟨_, rfl, ?_⟩
      refine ixp_list (sm_last bs i) ?_
      refine E_callB ?_ m_len boot_len
      refine A_cons ?_
      refine E_EF ?_
      refine EF_lc (own := [("at", 16)]) (ws := [16]) sc_law.nd (by show blkC ["script", "draws", "bases", "product", "base", "sums", "number", "one", "other", "k", "due", "after", "asked", "fine", "small", "text", "at", "bent", "signed", "told", "figure", "sign"] (defScope s_law) _ _ = true; decide +kernel) (by decide) ?_
      refine W_range1 ?_ m_range
      refine E_callB ?_ m_len boot_len
      refine A_cons ?_
      refine E_var 2 ?_
      refine A_nil ?_
      refine cp_lenTm ?_
      refine ⟨_, rfl, ⟨by omega, by omega⟩, ?_⟩
      rw [Int.toNat_natCast]
      refine Lc_fil' (r := (chg bs (fD bs (i : Int)) (fD bs ((i : Int) + 1))).map fun a : Nat => PyData.int (a : Int)) (List.range bs.length) (fun a : Nat => PyData.int (a : Int)) (fun a => !decide ((fD bs (i : Int)).getD a 0 = (fD bs ((i : Int) + 1)).getD a 0)) (fun a : Nat => PyData.int (a : Int)) rfl ((rangeD_eq _ _).trans (rangeN _)) (by rw [List.length_range]; exact small_le (by omega)) (fun a ha => ?_) ?_
      have ha9 := List.mem_range.mp ha
      ·
        refine Asg_name 16 sc_law.nd ?_
        refine T_cmp ?_
        refine E_ix ?_
        refine E_var 7 ?_
        refine E_var 16 ?_
        refine ixp_tup (at_gd (by rw [fD_len]; exact ha9)) ?_
        refine E_ix ?_
        refine E_var 8 ?_
        refine E_var 16 ?_
        refine ixp_tup (at_gd (by rw [fD_len]; exact ha9)) ?_
        walk_at "ne"
        refine ⟨_, rfl, ?_⟩
        refine ⟨rfl, fun hp => ?_⟩
        refine E_var 16 ?_
        exact rfl
      refine A_nil ?_
      refine cp_lenLm ?_
      rw [chg_len]
      walk_at "add"
      refine ⟨rfl, ?_⟩
      refine ⟨by rw [sm_len]; exact small_of (by omega), ?_⟩
      rw [sm_next hB]
      refine S_nil ?_
      exact ⟨_, _, _, rfl⟩
    ·
      obtain ⟨y6, y7, y8, rfl⟩ := hI
      refine S_cons (S1_for (ws := [9]) ?_)
      refine W_range1 ?_ m_range
      refine E_int ?_
      refine ⟨_, rfl, ⟨by omega, by omega⟩, ?_⟩
      refine For_range (fun i sp' => ∃ y6 y9 y10 y11 y12 y13 : Sl, sp' = [_, _, _, _, _, .l (sm bs N), y6, _, _, y9, y10, y11, y12, y13, _, _, _, _, _, _, _, _]) ⟨_, _, _, _, _, _, rfl⟩ (fun i sp' hi hI => ?_) (fun sp' hI => ?_)
      ·
        obtain ⟨y6, y9, y10, y11, y12, y13, rfl⟩ := hI
        have hi4 : i < 4 := hi
        refine Asg_name 9 sc_law.nd ?_
        refine S_cons (S1_set 6 sc_law.nd (E.mono (Q := fun z => ∃ x, (0 ≤ x ∧ x < pr bs) ∧ z = .int x) ?_ ?_))
        ·
          apply E_ifJ
          ·
            refine T_cmp ?_
            refine E_var 9 ?_
            refine E_int ?_
            refine opp_gt ?_
            refine ⟨_, rfl, ?_⟩
            exact rfl
          ·
            intro hi
            refine E_bin ?_
            refine E_bin ?_
            refine E_bin ?_
            refine E_callTy ?_ m_int boot_int
            refine A_cons ?_
            refine E_ix ?_
            refine E_var 1 ?_
            refine E_bin ?_
            refine E_int ?_
            refine E_var 9 ?_
            walk_at "add"
            refine ixp_list (at_draw hns (by omega) (by omega)) ?_
            refine A_nil ?_
            walk_at "int1"
            refine E_callTy ?_ m_int boot_int
            refine A_cons ?_
            refine E_ix ?_
            refine E_var 1 ?_
            refine E_bin ?_
            refine E_int ?_
            refine E_var 9 ?_
            walk_at "add"
            refine ixp_list (at_draw hns (by omega) (by omega)) ?_
            refine A_nil ?_
            walk_at "int1"
            refine opp_mul (.inl (by have := draw_bd hns (j := 8 + (0 + (i : Int))) (by omega) (by omega); exact ⟨by omega, by omega⟩)) ?_
            refine E_callTy ?_ m_int boot_int
            refine A_cons ?_
            refine E_ix ?_
            refine E_var 1 ?_
            refine E_int ?_
            refine ixp_list (at_draw hns (by omega) (by omega)) ?_
            refine A_nil ?_
            walk_at "int1"
            walk_at "add"
            refine E_var 3 ?_
            refine opp_mod (by omega) ?_
            exact rfl
          ·
            intro hi
            refine E_bin ?_
            refine E_var 3 ?_
            refine E_int ?_
            refine opp_sub ?_
            exact rfl
          exact num_ex (by omega)
        rintro _ ⟨x, ⟨hx0, hx1⟩, rfl⟩
        refine S_cons (S1_set 10 sc_law.nd (E.mono (Q := fun z => z = .tuple ((fD bs x).map .int)) ?_ ?_))
        ·
          refine E_call F_law_figures (show 1 ≤ 5 by decide) ?_
          refine A_cons ?_
          refine E_var 2 ?_
          refine A_cons ?_
          refine E_var 6 ?_
          refine A_nil ?_
          refine ⟨bs, x, rfl, ⟨hB, hn6⟩, ?_⟩
          first | done | exact rfl
        rintro _ rfl
        refine S_cons (S1_set 11 sc_law.nd (E.mono (Q := fun z => z = .tuple ((fD bs (x + 1)).map .int)) ?_ ?_))
        ·
          refine E_call F_law_figures (show 1 ≤ 5 by decide) ?_
          refine A_cons ?_
          refine E_var 2 ?_
          refine A_cons ?_
          refine E_bin ?_
          refine E_bin ?_
          refine E_var 6 ?_
          refine E_int ?_
          walk_at "add"
          refine E_var 3 ?_
          refine opp_mod (by omega) ?_
          refine A_nil ?_
          refine ⟨bs, (x + 1) % pr bs, rfl, ⟨hB, hn6⟩, ?_⟩
          rw [fD_wrap hB]
          first | done | exact rfl
        rintro _ rfl
        refine S_cons (S1_if ?_)
        refine Wt_T ?_
        apply TJ_or
        ·
          refine T_not ?_
          refine T_val ?_
          refine E_call F_law_is (show 5 ≤ 5 by decide) ?_
          refine A_cons ?_
          refine E_call F_figures_of (show 1 ≤ 5 by decide) ?_
          refine A_cons ?_
          refine E_var 2 ?_
          refine A_cons ?_
          refine E_var 6 ?_
          refine A_nil ?_
          refine ⟨bs, x, rfl, ⟨hB, hn6⟩, ?_⟩
          refine A_cons ?_
          refine E_var 10 ?_
          refine A_nil ?_
          refine ⟨_, _, rfl, plain_ints (n := 2) (small_le (by rw [fD_len]; omega)), ?_⟩
          refine ⟨_, rfl, ?_⟩
          exact rfl
        ·
          intro hb
          refine Wt_or1 ?_
          refine T_not ?_
          refine T_val ?_
          refine E_call F_law_is (show 5 ≤ 5 by decide) ?_
          refine A_cons ?_
          refine E_call F_number_of (show 1 ≤ 5 by decide) ?_
          refine A_cons ?_
          refine E_var 2 ?_
          refine A_cons ?_
          refine E_var 10 ?_
          refine A_nil ?_
          refine ⟨bs, fD bs x, rfl, ⟨hB, hn6⟩, ?_⟩
          rw [show numU (bs.zip (fD bs x)) 0 = x from by rw [num_fD bs x 0 hB, Int.zero_mul, Int.zero_add, Int.emod_eq_of_lt hx0 hx1]]
          refine A_cons ?_
          refine E_var 6 ?_
          refine A_nil ?_
          refine ⟨_, _, rfl, trivial, ?_⟩
          refine ⟨_, rfl, ?_⟩
          exact rfl
        refine iteB (fun h => absurd h (by rw [not_same (n := 3) (plain_ints (n := 2) (ns := fD bs x) (small_le (by rw [fD_len]; omega))), not_sameI]; exact Bool.false_ne_true)) (fun h => ?_)
        ·
          refine S_nil ?_
          refine S_cons (S1_if ?_)
          refine T_not ?_
          refine T_val ?_
          refine E_call F_law_is (show 5 ≤ 5 by decide) ?_
          refine A_cons ?_
          refine E_call F_carry (show 2 ≤ 5 by decide) ?_
          refine A_cons ?_
          refine E_var 2 ?_
          refine A_cons ?_
          refine E_var 6 ?_
          refine A_nil ?_
          refine ⟨bs, x, rfl, ⟨hB, hn6⟩, ?_⟩
          refine A_cons ?_
          refine E_callB ?_ m_len boot_len
          refine A_cons ?_
          refine E_EF ?_
          refine EF_lc (own := [("at", 16)]) (ws := [16]) sc_law.nd (by show blkC ["script", "draws", "bases", "product", "base", "sums", "number", "one", "other", "k", "due", "after", "asked", "fine", "small", "text", "at", "bent", "signed", "told", "figure", "sign"] (defScope s_law) _ _ = true; decide +kernel) (by decide) ?_
          refine W_range1 ?_ m_range
          refine E_callB ?_ m_len boot_len
          refine A_cons ?_
          refine E_var 2 ?_
          refine A_nil ?_
          refine cp_lenTm ?_
          refine ⟨_, rfl, ⟨by omega, by omega⟩, ?_⟩
          rw [Int.toNat_natCast]
          refine Lc_fil' (r := (chg bs (fD bs x) (fD bs (x + 1))).map fun a : Nat => PyData.int (a : Int)) (List.range bs.length) (fun a : Nat => PyData.int (a : Int)) (fun a => !decide ((fD bs x).getD a 0 = (fD bs (x + 1)).getD a 0)) (fun a : Nat => PyData.int (a : Int)) rfl ((rangeD_eq _ _).trans (rangeN _)) (by rw [List.length_range]; exact small_le (by omega)) (fun a ha => ?_) ?_
          have ha9 := List.mem_range.mp ha
          ·
            refine Asg_name 16 sc_law.nd ?_
            refine T_cmp ?_
            refine E_ix ?_
            refine E_var 10 ?_
            refine E_var 16 ?_
            refine ixp_tup (at_gd (by rw [fD_len]; exact ha9)) ?_
            refine E_ix ?_
            refine E_var 11 ?_
            refine E_var 16 ?_
            refine ixp_tup (at_gd (by rw [fD_len]; exact ha9)) ?_
            walk_at "ne"
            refine ⟨_, rfl, ?_⟩
            refine ⟨rfl, fun hp => ?_⟩
            refine E_var 16 ?_
            exact rfl
          refine A_nil ?_
          refine cp_lenLm ?_
          rw [chg_len]
          refine A_nil ?_
          refine ⟨_, _, rfl, trivial, ?_⟩
          refine ⟨_, rfl, ?_⟩
          refine iteB (fun h => absurd h (by rw [not_sameI]; exact Bool.false_ne_true)) (fun h => ?_)
          ·
            refine S_nil ?_
            refine S_cons (S1_if ?_)
            refine T_borrow 5 ?_
            refine Wt_T ?_
            apply TJ_and
            ·
              refine T_cmp ?_
              refine E_var 6 ?_
              refine E_callB ?_ m_len boot_len
              refine A_cons ?_
              refine E_var 5 ?_
              refine A_nil ?_
              refine cp_lenLm ?_
              rw [List.length_range]
              refine opp_lt ?_
              refine ⟨_, rfl, ?_⟩
              exact rfl
            ·
              intro hb
              refine Wt_and1 ?_
              refine T_not ?_
              refine T_val ?_
              refine E_call F_law_is (show 5 ≤ 5 by decide) ?_
              refine A_cons ?_
              refine E_call F_carries_before (show 1 ≤ 5 by decide) ?_
              refine A_cons ?_
              refine E_var 2 ?_
              refine A_cons ?_
              refine E_var 6 ?_
              refine A_nil ?_
              refine ⟨bs, x, rfl, ⟨hB, hn6⟩, ?_⟩
              refine A_cons ?_
              refine E_ix ?_
              refine E_var 5 ?_
              refine E_var 6 ?_
              refine ixp_list (sm_at hx0 (by have := of_decide_eq_true hb; omega)) ?_
              refine A_nil ?_
              refine ⟨_, _, rfl, trivial, ?_⟩
              refine ⟨_, rfl, ?_⟩
              exact rfl
            refine iteB (fun h => absurd h (by rw [not_sameI, Bool.and_false]; exact Bool.false_ne_true)) (fun h => ?_)
            ·
              refine S_nil ?_
              refine S_cons (S1_set 12 sc_law.nd (E.mono (Q := fun z => ∃ ws : List Int, ws.length ≤ 100 ∧ z = .tuple (ws.map .int)) ?_ ?_))
              ·
                refine E_call F_law_bent (show 1 ≤ 5 by decide) ?_
                refine A_cons ?_
                refine E_var 10 ?_
                refine A_cons ?_
                refine E_slice ?_
                refine E_var 1 ?_
                refine O_some ?_
                refine E_bin ?_
                refine E_int ?_
                refine E_bin ?_
                refine E_int ?_
                refine E_var 9 ?_
                refine opp_mul (by walk_at "mul") ?_
                walk_at "add"
                refine ⟨_, rfl, ?_⟩
                refine O_some ?_
                refine E_bin ?_
                refine E_int ?_
                refine E_bin ?_
                refine E_int ?_
                refine E_var 9 ?_
                refine opp_mul (by walk_at "mul") ?_
                walk_at "add"
                refine ⟨_, rfl, ?_⟩
                obtain ⟨n1, en1, hn1'⟩ := cut_draws hns (lo := 17 + 3 * (0 + (i : Int))) (hi := 20 + 3 * (0 + (i : Int))) (by omega) (by omega) (by omega)
                rw [show (20 + 3 * (0 + (i : Int)) - (17 + 3 * (0 + (i : Int)))).toNat = 3 from by omega] at hn1'
                refine slp_list ?_
                rw [en1]
                refine A_cons ?_
                refine E_int ?_
                refine A_nil ?_
                refine ⟨fD bs x, n1, 20, rfl, ⟨by rw [fD_len]; omega, hn1', by omega, by omega⟩, ?_⟩
                exact ⟨bentI (fD bs x) n1 20, bent_len (by rw [fD_len]; omega), rfl⟩
              rintro _ ⟨ws, hws, rfl⟩
              refine S_cons (S1_set 13 sc_law.nd (E.mono (Q := fun z => z = .bool (arB bs ws)) ?_ ?_))
              ·
                apply EJ_and
                ·
                  refine E_cmp ?_
                  refine E_callB ?_ m_len boot_len
                  refine A_cons ?_
                  refine E_var 12 ?_
                  refine A_nil ?_
                  refine cp_lenTm ?_
                  refine E_callB ?_ m_len boot_len
                  refine A_cons ?_
                  refine E_var 2 ?_
                  refine A_nil ?_
                  refine cp_lenTm ?_
                  walk_at "eq"
                  exact rfl
                ·
                  intro hb
                  refine E_one ?_
                  refine E_callB ?_ m_all boot_all
                  refine A_cons ?_
                  refine E_EF ?_
                  refine EF_lc (own := [("figure", 20), ("base", 4)]) (ws := ([20] ++ ([4] ++ ([] : List Nat)))) sc_law.nd (by show blkC ["script", "draws", "bases", "product", "base", "sums", "number", "one", "other", "k", "due", "after", "asked", "fine", "small", "text", "at", "bent", "signed", "told", "figure", "sign"] (defScope s_law) _ _ = true; decide +kernel) (by decide) ?_
                  refine W_zipT ?_ m_zip
                  refine E_var 12 ?_
                  refine E_var 2 ?_
                  refine ⟨_, _, rfl, rfl, ?_⟩
                  refine Lc_map' (r := ((ws.zip bs).map fun p => decide (0 ≤ p.1) && decide (p.1 < p.2)).map .bool) (ws.zip bs) encP (fun p => .bool (decide (0 ≤ p.1) && decide (p.1 < p.2))) (by rw [List.map_map]; rfl) (zip_pairs ws bs) (by rw [List.length_zip]; exact small_le (by omega)) (fun p hp9 => ?_) ?_
                  ·
                    first | refine Asg_tup ?_ | refine Asg_lst ?_
                    refine AsgL_cons ?_
                    refine Asg_name 20 sc_law.nd ?_
                    refine AsgL_cons ?_
                    refine Asg_name 4 sc_law.nd ?_
                    refine AsgL_nil ?_
                    apply E_chainJ
                    ·
                      refine E_int ?_
                      exact rfl
                    ·
                      refine E_var 20 ?_
                      exact rfl
                    ·
                      refine opp_le ?_
                      exact rfl
                    ·
                      intro hc
                      refine E_var 4 ?_
                      exact rfl
                    ·
                      intro hc
                      refine opp_lt ?_
                      exact rfl
                    · with_unfolding_all rfl
                    exact rfl
                  refine A_nil ?_
                  refine cp_allM ?_
                  exact rfl
                first | done | exact rfl
              rintro _ rfl
              refine S_cons (S1_if ?_)
              refine Wt_T ?_
              apply TJ_or
              ·
                refine T_not ?_
                refine T_val ?_
                refine E_call F_law_is (show 5 ≤ 5 by decide) ?_
                refine A_cons ?_
                refine E_call F_are_figures (show 2 ≤ 5 by decide) ?_
                refine A_cons ?_
                refine E_var 2 ?_
                refine A_cons ?_
                refine E_var 12 ?_
                refine A_nil ?_
                refine ⟨bs, ws, rfl, ⟨hn6, hws⟩, ?_⟩
                refine A_cons ?_
                refine E_var 13 ?_
                refine A_nil ?_
                refine ⟨_, _, rfl, trivial, ?_⟩
                refine ⟨_, rfl, ?_⟩
                exact rfl
              ·
                intro hb
                refine Wt_or1 ?_
                refine T_not ?_
                refine T_val ?_
                refine E_call F_law_is (show 5 ≤ 5 by decide) ?_
                refine A_cons ?_
                refine E_call F_are_figures (show 2 ≤ 5 by decide) ?_
                refine A_cons ?_
                refine E_var 2 ?_
                refine A_cons ?_
                refine E_var 10 ?_
                refine A_nil ?_
                refine ⟨bs, fD bs x, rfl, ⟨hn6, by rw [fD_len]; omega⟩, ?_⟩
                rw [ar_fD hB]
                refine A_cons ?_
                refine E_bool ?_
                refine A_nil ?_
                refine ⟨_, _, rfl, trivial, ?_⟩
                refine ⟨_, rfl, ?_⟩
                exact rfl
              refine iteB (fun h => absurd h (by rw [not_sameB (arB bs ws), not_sameB true]; exact Bool.false_ne_true)) (fun h => ?_)
              ·
                refine S_nil ?_
                refine S_nil ?_
                exact ⟨_, _, _, _, _, _, rfl⟩
      ·
        obtain ⟨y6, y9, y10, y11, y12, y13, rfl⟩ := hI
        refine S_cons (S1_set 14 sc_law.nd (E.mono (Q := fun z => ∃ x : Int, (0 ≤ x ∧ x < (N : Int) + 1) ∧ z = .int x) ?_ ?_))
        ·
          refine E_bor 5 ?_
          refine E_bin ?_
          refine E_callTy ?_ m_int boot_int
          refine A_cons ?_
          refine E_ix ?_
          refine E_var 1 ?_
          refine E_int ?_
          refine ixp_list (at_draw hns (by omega) (by omega)) ?_
          refine A_nil ?_
          walk_at "int1"
          refine E_callB ?_ m_len boot_len
          refine A_cons ?_
          refine E_var 5 ?_
          refine A_nil ?_
          refine cp_lenLm ?_
          rw [List.length_range]
          refine opp_mod (by omega) ?_
          refine ⟨rfl, ?_⟩
          exact ⟨drawV ns 30 % ((N : Int) + 1), ⟨Int.emod_nonneg _ (by omega), Int.emod_lt_of_pos _ (by omega)⟩, rfl⟩
        rintro _ ⟨x, ⟨hx0, hx1⟩, rfl⟩
        refine S_cons (S1_if ?_)
        refine T_borrow 5 ?_
        refine T_not ?_
        refine T_val ?_
        refine E_call F_law_is (show 5 ≤ 5 by decide) ?_
        refine A_cons ?_
        refine E_call F_carries_before (show 1 ≤ 5 by decide) ?_
        refine A_cons ?_
        refine E_var 2 ?_
        refine A_cons ?_
        refine E_var 14 ?_
        refine A_nil ?_
        refine ⟨bs, x, rfl, ⟨hB, hn6⟩, ?_⟩
        refine A_cons ?_
        refine E_ix ?_
        refine E_var 5 ?_
        refine E_var 14 ?_
        refine ixp_list (sm_at hx0 hx1) ?_
        refine A_nil ?_
        refine ⟨_, _, rfl, trivial, ?_⟩
        refine ⟨_, rfl, ?_⟩
        refine iteB (fun h => absurd h (by rw [not_sameI]; exact Bool.false_ne_true)) (fun h => ?_)
        ·
          refine S_nil ?_
          refine S_cons (S1_for (ws := [9]) ?_)
          refine W_range1 ?_ m_range
          refine E_int ?_
          refine ⟨_, rfl, ⟨by omega, by omega⟩, ?_⟩
          refine For_range (fun i sp' => ∃ y6 y9 y13 y15 y16 y17 y18 y19 : Sl, sp' = [_, _, _, _, _, .l (sm bs N), y6, _, _, y9, _, _, _, y13, _, y15, y16, y17, y18, y19, _, _]) ⟨_, _, _, _, _, _, _, _, rfl⟩ (fun i sp' hi hI => ?_) (fun sp' hI => ?_)
          ·
            obtain ⟨y6, y9, y13, y15, y16, y17, y18, y19, rfl⟩ := hI
            have hi4 : i < 4 := hi
            have hdk := draw_bd hns (j := 31 + (0 + (i : Int))) (by omega) (by omega)
            refine Asg_name 9 sc_law.nd ?_
            refine S_cons (S1_set 6 sc_law.nd (E.mono (Q := fun z => ∃ x, (0 ≤ x ∧ x ≤ 1000000000000) ∧ z = .int x) ?_ ?_))
            ·
              refine E_ix ?_
              refine E_tup ?_
              refine A_cons ?_
              refine E_bin ?_
              refine E_callTy ?_ m_int boot_int
              refine A_cons ?_
              refine E_ix ?_
              refine E_var 1 ?_
              refine E_bin ?_
              refine E_int ?_
              refine E_var 9 ?_
              walk_at "add"
              refine ixp_list (at_draw hns (by omega) (by omega)) ?_
              refine A_nil ?_
              walk_at "int1"
              refine E_int ?_
              refine opp_mul (.inr ⟨by omega, by omega⟩) ?_
              refine A_cons ?_
              refine E_callTy ?_ m_int boot_int
              refine A_cons ?_
              refine E_ix ?_
              refine E_var 1 ?_
              refine E_bin ?_
              refine E_int ?_
              refine E_var 9 ?_
              walk_at "add"
              refine ixp_list (at_draw hns (by omega) (by omega)) ?_
              refine A_nil ?_
              walk_at "int1"
              refine A_cons ?_
              refine E_bin ?_
              refine E_callTy ?_ m_int boot_int
              refine A_cons ?_
              refine E_ix ?_
              refine E_var 1 ?_
              refine E_bin ?_
              refine E_int ?_
              refine E_var 9 ?_
              walk_at "add"
              refine ixp_list (at_draw hns (by omega) (by omega)) ?_
              refine A_nil ?_
              walk_at "int1"
              refine E_int ?_
              refine opp_mod (by omega) ?_
              refine A_cons ?_
              refine E_int ?_
              refine A_nil ?_
              refine ⟨(by show (4 : Nat) ≤ sizeLine; decide), ?_⟩
              refine E_var 9 ?_
              refine ixp_tup (at_ints (xs := [_, _, _, _]) (by omega) (by show _ < (4 : Int); omega)) ?_
              exact four_ex hi4 (by omega) (by omega) (by omega)
            rintro _ ⟨x, ⟨hx0, hx1⟩, rfl⟩; obtain ⟨hf1, hf2, hf3, hf4⟩ := figs_ok hx0 hx1
            refine S_cons (S1_set 15 sc_law.nd (E.mono (Q := fun z => z = .str (bt (figs x))) ?_ ?_))
            ·
              refine E_call F_rabbit_figures (show 2 ≤ 5 by decide) ?_
              refine A_cons ?_
              refine E_var 6 ?_
              refine A_nil ?_
              refine ⟨x, rfl, ⟨hx0, hx1⟩, ?_⟩
              first | done | exact rfl
            rintro _ rfl
            refine S_cons (S1_if ?_)
            refine Wt_T ?_
            apply TJ_or
            ·
              refine T_not ?_
              refine T_val ?_
              refine E_isi (T := "str") ?_ m_isinstance m_str
              refine E_var 15 ?_
              refine ⟨_, rfl, ?_⟩
              exact rfl
            ·
              intro hb
              apply TJ_or
              ·
                refine T_not ?_
                refine T_val ?_
                refine E_callB ?_ m_all boot_all
                refine A_cons ?_
                refine E_EF ?_
                refine EF_lc (own := [("sign", 21)]) (ws := [21]) sc_law.nd (by show blkC ["script", "draws", "bases", "product", "base", "sums", "number", "one", "other", "k", "due", "after", "asked", "fine", "small", "text", "at", "bent", "signed", "told", "figure", "sign"] (defScope s_law) _ _ = true; decide +kernel) (by decide) ?_
                refine W_str ?_
                refine E_var 15 ?_
                refine ⟨_, rfl, ?_⟩
                refine Lc_map' (r := ((figs x).map fun _ => true).map .bool) (figs x) ch (fun _ => .bool true) (by rw [List.map_map]; rfl) (signs_bt _) (small_le (by omega)) (fun b hb => ?_) ?_
                ·
                  refine Asg_name 21 sc_law.nd ?_
                  refine E_cmp ?_
                  refine E_var 21 ?_
                  refine E_tup ?_
                  refine A_cons ?_
                  refine E_str ?_
                  refine A_cons ?_
                  refine E_str ?_
                  refine A_nil ?_
                  refine ⟨(by show (2 : Nat) ≤ sizeLine; decide), ?_⟩
                  refine opp_ch01 ?_
                  exact rfl
                refine A_nil ?_
                refine cp_all ?_
                refine ⟨_, rfl, ?_⟩
                exact rfl
              ·
                intro hb2
                apply TJ_or
                ·
                  refine T_cmp ?_
                  refine E_str ?_
                  refine E_var 15 ?_
                  refine opp_inS ?_
                  rw [hf3]
                  refine ⟨_, rfl, ?_⟩
                  exact rfl
                ·
                  intro hb3
                  refine Wt_or1 ?_
                  refine T_cmp ?_
                  refine E_slice ?_
                  refine E_var 15 ?_
                  refine O_none ?_
                  refine O_some ?_
                  refine E_int ?_
                  refine ⟨_, rfl, ?_⟩
                  refine slp_str (bt_small (by omega)) ?_
                  refine E_str ?_
                  refine opp_eqS ?_
                  rw [hf4]
                  refine ⟨_, rfl, ?_⟩
                  exact rfl
                exact rfl
              exact rfl
            refine iteB (fun h => absurd h (by simp [isiD])) (fun h => ?_)
            ·
              refine S_nil ?_
              refine S_cons (S1_if ?_)
              refine Wt_T ?_
              apply TJ_or
              ·
                refine T_cmp ?_
                refine E_call F_law_rabbit_value (show 2 ≤ 5 by decide) ?_
                refine A_cons ?_
                refine E_var 15 ?_
                refine A_nil ?_
                refine ⟨figs x, rfl, by omega, ?_⟩
                rw [hf2]
                refine E_var 6 ?_
                walk_at "ne"
                refine ⟨_, rfl, ?_⟩
                exact rfl
              ·
                intro hb
                refine Wt_or1 ?_
                refine T_not ?_
                refine T_val ?_
                refine E_call F_law_is (show 5 ≤ 5 by decide) ?_
                refine A_cons ?_
                refine E_call F_rabbit_number (show 1 ≤ 5 by decide) ?_
                refine A_cons ?_
                refine E_var 15 ?_
                refine A_nil ?_
                refine ⟨figs x, rfl, by omega, ?_⟩
                rw [hf2]
                refine A_cons ?_
                refine E_var 6 ?_
                refine A_nil ?_
                refine ⟨_, _, rfl, trivial, ?_⟩
                refine ⟨_, rfl, ?_⟩
                exact rfl
              refine iteB (fun h => absurd h (by rw [not_sameI, decide_eq_true rfl]; exact Bool.false_ne_true)) (fun h => ?_)
              ·
                refine S_nil ?_
                refine S_cons (S1_set 16 sc_law.nd (E.mono (Q := fun z => ∃ a : Nat, a ≤ (figs x).length ∧ z = .int (a : Int)) ?_ ?_))
                ·
                  refine E_bin ?_
                  refine E_callTy ?_ m_int boot_int
                  refine A_cons ?_
                  refine E_ix ?_
                  refine E_var 1 ?_
                  refine E_bin ?_
                  refine E_int ?_
                  refine E_var 9 ?_
                  walk_at "add"
                  refine ixp_list (at_draw hns (by omega) (by omega)) ?_
                  refine A_nil ?_
                  walk_at "int1"
                  refine E_bin ?_
                  refine E_callB ?_ m_len boot_len
                  refine A_cons ?_
                  refine E_var 15 ?_
                  refine A_nil ?_
                  refine cp_lenB (by omega) ?_
                  refine E_int ?_
                  walk_at "add"
                  have hme := Int.emod_nonneg (drawV ns (35 + (0 + (i : Int)))) (show (((figs x).length : Nat) : Int) + 1 ≠ 0 by omega)
                  have hme2 := Int.emod_lt_of_pos (drawV ns (35 + (0 + (i : Int)))) (show 0 < (((figs x).length : Nat) : Int) + 1 by omega)
                  refine opp_mod (by omega) ?_
                  exact ⟨_, by omega, congrArg PyData.int (Int.toNat_of_nonneg hme).symm⟩
                rintro _ ⟨a, ha, rfl⟩
                refine S_cons (S1_for (ws := [17]) ?_)
                refine W_list ?_
                refine E_lst ?_
                refine A_cons ?_
                refine E_var 15 ?_
                refine A_cons ?_
                refine E_bin ?_
                refine E_bin ?_
                refine E_slice ?_
                refine E_var 15 ?_
                refine O_none ?_
                refine O_some ?_
                refine E_var 16 ?_
                refine ⟨_, rfl, ?_⟩
                refine slp_str (bt_small (by omega)) ?_
                rw [bt_cut, cutA_lo' (by omega), Int.toNat_natCast]
                refine E_ix ?_
                refine E_str ?_
                refine E_bin ?_
                refine E_callTy ?_ m_int boot_int
                refine A_cons ?_
                refine E_ix ?_
                refine E_var 1 ?_
                refine E_int ?_
                refine ixp_list (at_draw hns (by omega) (by omega)) ?_
                refine A_nil ?_
                walk_at "int1"
                refine E_int ?_
                refine opp_mod (by omega) ?_
                rw [lit01x]
                refine ixp_str (by decide) (at_c3 (by omega) (by omega)) ?_
                refine opp_catS (by rw [bt_len, List.length_take]; exact small_le (by show _ + 1 ≤ _; omega)) ?_
                refine E_slice ?_
                refine E_var 15 ?_
                refine O_some ?_
                refine E_bin ?_
                refine E_var 16 ?_
                refine E_int ?_
                walk_at "add"
                refine ⟨_, rfl, ?_⟩
                refine O_none ?_
                refine slp_str (bt_small (by omega)) ?_
                rw [bt_cut, cutA_hi' (by omega), show ((a : Int) + 1).toNat = a + 1 from by omega]
                refine opp_catS (by have := tx_len (figs x) a (drawV ns 39 % 3) (by omega); exact small_le (by omega)) ?_
                refine A_cons ?_
                refine E_bin ?_
                refine E_str ?_
                refine E_var 15 ?_
                refine opp_0cat (by omega) ?_
                refine A_cons ?_
                refine E_bin ?_
                refine E_var 15 ?_
                refine E_str ?_
                refine opp_cat1 (by omega) ?_
                refine A_cons ?_
                refine E_revS ?_
                refine E_var 15 ?_
                refine ⟨_, rfl, by rw [bt_len]; exact small_le (by omega), ?_⟩
                rw [bt_rev]
                refine A_nil ?_
                refine ⟨(by show (5 : Nat) ≤ sizeLine; decide), ?_⟩
                refine ⟨_, rfl, ?_⟩
                refine For_list [bt (figs x), bt ((figs x).take a) ++ (⟨#[c3 (drawV ns 39 % 3)]⟩ : Str) ++ bt ((figs x).drop (a + 1)), bt ([false] ++ figs x), bt (figs x ++ [true]), bt (figs x).reverse] PyData.str rfl (fun i2 sp' => ∃ y13 y17 : Sl, sp' = [_, _, _, _, _, _, _, _, _, _, _, _, _, y13, _, _, _, y17, _, _, _, _]) ⟨_, _, rfl⟩ (fun i2 w sp' hw9 hI => ?_) (fun sp' hI => ?_)
                ·
                  obtain ⟨y13, y17, rfl⟩ := hI
                  have hT : Tx w := five_tx (tx_bt (by omega)) (tx_mid (by omega) (by omega) (by rw [List.length_take, List.length_drop]; omega)) (tx_bt (by rw [List.length_append]; show 1 + _ ≤ _; omega)) (tx_bt (by rw [List.length_append]; show _ + 1 ≤ _; omega)) (tx_bt (by rw [List.length_reverse]; omega)) w (List.mem_of_getElem? hw9)
                  refine Asg_name 17 sc_law.nd ?_
                  refine S_cons (S1_set 13 sc_law.nd (E.mono (Q := fun z => z = .bool (arV w)) ?_ ?_))
                  ·
                    apply EJ_and
                    ·
                      refine E_callB ?_ m_all boot_all
                      refine A_cons ?_
                      refine E_EF ?_
                      refine EF_lc (own := [("sign", 21)]) (ws := [21]) sc_law.nd (by show blkC ["script", "draws", "bases", "product", "base", "sums", "number", "one", "other", "k", "due", "after", "asked", "fine", "small", "text", "at", "bent", "signed", "told", "figure", "sign"] (defScope s_law) _ _ = true; decide +kernel) (by decide) ?_
                      refine W_str ?_
                      refine E_var 17 ?_
                      refine ⟨_, rfl, ?_⟩
                      refine Lc_map' (r := (w.cps.toList.map is01).map .bool) w.cps.toList (fun cp => PyData.str ⟨#[cp]⟩) (fun cp => .bool (is01 cp)) (by rw [List.map_map]; rfl) rfl (by have := hT.zs.len; exact small_le (by rw [Array.length_toList]; exact Nat.le_trans this (by decide))) (fun cp hcp => ?_) ?_
                      ·
                        refine Asg_name 21 sc_law.nd ?_
                        refine E_cmp ?_
                        refine E_var 21 ?_
                        refine E_tup ?_
                        refine A_cons ?_
                        refine E_str ?_
                        refine A_cons ?_
                        refine E_str ?_
                        refine A_nil ?_
                        refine ⟨(by show (2 : Nat) ≤ sizeLine; decide), ?_⟩
                        refine opp_in01 (hT.zs.low cp hcp) ?_
                        exact rfl
                      refine A_nil ?_
                      refine cp_allM ?_
                      exact rfl
                    ·
                      intro hb
                      apply EJ_and
                      ·
                        refine E_cmp ?_
                        refine E_str ?_
                        refine E_var 17 ?_
                        refine opp_ninS ?_
                        exact rfl
                      ·
                        intro hb2
                        refine E_one ?_
                        refine E_cmp ?_
                        refine E_slice ?_
                        refine E_var 17 ?_
                        refine O_none ?_
                        refine O_some ?_
                        refine E_int ?_
                        refine ⟨_, rfl, ?_⟩
                        refine slp_str (hT.zs.fits (by decide)) ?_
                        refine E_str ?_
                        walk_at "ne"
                        exact rfl
                      exact rfl
                    first | done | exact rfl
                  rintro _ rfl
                  refine S_cons (S1_if ?_)
                  refine T_not ?_
                  refine T_val ?_
                  refine E_call F_law_is (show 5 ≤ 5 by decide) ?_
                  refine A_cons ?_
                  refine E_call F_are_rabbit_figures (show 2 ≤ 5 by decide) ?_
                  refine A_cons ?_
                  refine E_var 17 ?_
                  refine A_nil ?_
                  refine ⟨w, rfl, hT.zs.mono (by decide), ?_⟩
                  refine A_cons ?_
                  refine E_var 13 ?_
                  refine A_nil ?_
                  refine ⟨_, _, rfl, trivial, ?_⟩
                  refine ⟨_, rfl, ?_⟩
                  refine iteB (fun h => absurd h (by rw [not_sameB]; exact Bool.false_ne_true)) (fun h => ?_)
                  ·
                    refine S_nil ?_
                    refine S_cons (S1_if ?_)
                    refine Wt_T ?_
                    apply TJ_and
                    ·
                      refine T_cmp ?_
                      refine E_str ?_
                      refine E_var 17 ?_
                      refine opp_ninS ?_
                      refine ⟨_, rfl, ?_⟩
                      exact rfl
                    ·
                      intro hb
                      refine Wt_and1 ?_
                      refine T_not ?_
                      refine T_val ?_
                      refine E_call F_law_is (show 5 ≤ 5 by decide) ?_
                      refine A_cons ?_
                      refine E_call F_rabbit_number (show 1 ≤ 5 by decide) ?_
                      refine A_cons ?_
                      refine E_var 17 ?_
                      refine A_nil ?_
                      obtain ⟨hwe, hbl⟩ := tx_no hT hb
                      refine ⟨bitsOf w, by rw [hwe], hbl, ?_⟩
                      refine A_cons ?_
                      refine E_call F_law_rabbit_value (show 2 ≤ 5 by decide) ?_
                      refine A_cons ?_
                      refine E_var 17 ?_
                      refine A_nil ?_
                      refine ⟨bitsOf w, by rw [hwe], hbl, ?_⟩
                      refine A_nil ?_
                      refine ⟨_, _, rfl, trivial, ?_⟩
                      refine ⟨_, rfl, ?_⟩
                      exact rfl
                    refine iteB (fun h => absurd h (by rw [not_sameI, Bool.and_false]; exact Bool.false_ne_true)) (fun h => ?_)
                    ·
                      refine S_nil ?_
                      refine S_nil ?_
                      exact ⟨_, _, rfl⟩
                ·
                  obtain ⟨y13, y17, rfl⟩ := hI
                  refine S_cons (S1_for (ws := [18]) ?_)
                  refine W_tup ?_
                  refine E_tup ?_
                  refine A_cons ?_
                  refine E_var 6 ?_
                  refine A_cons ?_
                  refine E_bin ?_
                  refine E_int ?_
                  refine E_var 6 ?_
                  refine opp_sub ?_
                  refine A_nil ?_
                  refine ⟨(by show (2 : Nat) ≤ sizeLine; decide), ?_⟩
                  refine ⟨_, rfl, ?_⟩
                  refine For_list [x, 0 - x] PyData.int rfl (fun i2 sp' => ∃ y18 y19 : Sl, sp' = [_, _, _, _, _, _, _, _, _, _, _, _, _, _, _, _, _, _, y18, y19, _, _]) ⟨_, _, rfl⟩ (fun i2 y sp' hy9 hI => ?_) (fun sp' hI => ?_)
                  ·
                    obtain ⟨y18, y19, rfl⟩ := hI
                    have hyb : -1000000000000 ≤ y ∧ y ≤ 1000000000000 := by
                      have := List.mem_of_getElem? hy9
                      simp only [List.mem_cons, List.not_mem_nil, or_false] at this
                      omega
                    refine Asg_name 18 sc_law.nd ?_
                    refine S_cons (S1_set 19 sc_law.nd (E.mono (Q := fun z => ∃ l : List Nat, (l.length ≤ 30 ∧ (∀ d ∈ l, d < 3) ∧ bv l = y ∧ l.head? ≠ some 0) ∧ z = .str (tb l)) ?_ ?_))
                    ·
                      refine E_call F_balanced_figures (show 1 ≤ 5 by decide) ?_
                      refine A_cons ?_
                      refine E_var 18 ?_
                      refine A_nil ?_
                      refine ⟨y, rfl, hyb, fun l hl1 hl2 hl3 hl4 => ?_⟩
                      exact ⟨l, ⟨hl1, hl2, hl3, hl4⟩, rfl⟩
                    rintro _ ⟨l, ⟨hl1, hl2, hl3, hl4⟩, rfl⟩
                    refine S_cons (S1_if ?_)
                    refine Wt_T ?_
                    apply TJ_or
                    ·
                      refine T_not ?_
                      refine T_val ?_
                      refine E_isi (T := "str") ?_ m_isinstance m_str
                      refine E_var 19 ?_
                      refine ⟨_, rfl, ?_⟩
                      exact rfl
                    ·
                      intro hb
                      apply TJ_or
                      ·
                        refine T_not ?_
                        refine T_val ?_
                        refine E_callB ?_ m_all boot_all
                        refine A_cons ?_
                        refine E_EF ?_
                        refine EF_lc (own := [("sign", 21)]) (ws := [21]) sc_law.nd (by show blkC ["script", "draws", "bases", "product", "base", "sums", "number", "one", "other", "k", "due", "after", "asked", "fine", "small", "text", "at", "bent", "signed", "told", "figure", "sign"] (defScope s_law) _ _ = true; decide +kernel) (by decide) ?_
                        refine W_str ?_
                        refine E_var 19 ?_
                        refine ⟨_, rfl, ?_⟩
                        refine Lc_map' (r := (l.map fun _ => true).map .bool) l (fun d => PyData.str ⟨#[dg d]⟩) (fun _ => .bool true) (by rw [List.map_map]; rfl) (signs_tb l) (small_le (by omega)) (fun d hd => ?_) ?_
                        ·
                          refine Asg_name 21 sc_law.nd ?_
                          refine E_cmp ?_
                          refine E_var 21 ?_
                          refine E_EF ?_
                          refine EF_listS ?_ m_list boot_list
                          refine E_str ?_
                          refine ⟨_, rfl, by decide, ?_⟩
                          refine opp_in3 (hl2 d hd) ?_
                          exact rfl
                        refine A_nil ?_
                        refine cp_all ?_
                        refine ⟨_, rfl, ?_⟩
                        exact rfl
                      ·
                        intro hb2
                        refine Wt_or1 ?_
                        refine T_cmp ?_
                        refine E_slice ?_
                        refine E_var 19 ?_
                        refine O_none ?_
                        refine O_some ?_
                        refine E_int ?_
                        refine ⟨_, rfl, ?_⟩
                        refine slp_str (by rw [tb_len]; exact small_le (by omega)) ?_
                        refine E_str ?_
                        refine opp_eqS ?_
                        rw [tb_head l hl2, decide_eq_false hl4]
                        refine ⟨_, rfl, ?_⟩
                        exact rfl
                      exact rfl
                    refine iteB (fun h => absurd h (by simp [isiD])) (fun h => ?_)
                    ·
                      refine S_nil ?_
                      refine S_cons (S1_if ?_)
                      refine Wt_T ?_
                      apply TJ_or
                      ·
                        refine T_cmp ?_
                        refine E_call F_law_balanced_value (show 1 ≤ 5 by decide) ?_
                        refine A_cons ?_
                        refine E_var 19 ?_
                        refine A_nil ?_
                        refine ⟨l, rfl, ⟨hl1, hl2⟩, ?_⟩
                        rw [hl3]
                        refine E_var 18 ?_
                        walk_at "ne"
                        refine ⟨_, rfl, ?_⟩
                        exact rfl
                      ·
                        intro hb
                        refine Wt_or1 ?_
                        refine T_not ?_
                        refine T_val ?_
                        refine E_call F_law_is (show 5 ≤ 5 by decide) ?_
                        refine A_cons ?_
                        refine E_call F_balanced_number (show 1 ≤ 5 by decide) ?_
                        refine A_cons ?_
                        refine E_var 19 ?_
                        refine A_nil ?_
                        refine ⟨l, rfl, ⟨hl1, hl2⟩, ?_⟩
                        rw [hl3]
                        refine A_cons ?_
                        refine E_var 18 ?_
                        refine A_nil ?_
                        refine ⟨_, _, rfl, trivial, ?_⟩
                        refine ⟨_, rfl, ?_⟩
                        exact rfl
                      refine iteB (fun h => absurd h (by rw [not_sameI, decide_eq_true rfl]; exact Bool.false_ne_true)) (fun h => ?_)
                      ·
                        refine S_nil ?_
                        refine S_nil ?_
                        exact ⟨_, _, rfl⟩
                  ·
                    obtain ⟨y18, y19, rfl⟩ := hI
                    refine S_nil ?_
                    exact ⟨_, _, _, _, _, _, _, _, rfl⟩
          ·
            obtain ⟨y6, y9, y13, y15, y16, y17, y18, y19, rfl⟩ := hI
            refine S_cons (S1_ret ?_)
            refine E_bool ?_
            exact q
theorem all_mk {l : PySem.W.OpenLaw} {w : World} {K : PySem.W.Frag} {h : Heap} {mg : Str → Option Value} {fa f1 f2 f3 f4 f5 f6 f7 f8 f9 f10 f11 f12 f13 f14 f15 f16 f17 f18 f19 f20 f21 : Addr} (X : K.In h) (G : h.Ns mainGlobals mg) (hfa : mg "law" = some (.ref fa)) (TB : TabsOf ["are_figures", "are_rabbit_figures"] K mg h)
    {oc1 kV1 dc1 pm1 cd1 ct1 : Value} {od1 an1 : Option Addr} {sl1 : Array (Option Value)} (a1 : PySem.W.nsIn K mainGlobals "figures_of" = some (some (.ref f1))) (l1 : K.lookup f1 = some ⟨oc1, od1, .func (PySem.W.fnOf "figures_of" "figures_of" (defArgs s_figures_of) (defBody s_figures_of) (defScope s_figures_of) .none kV1 dc1 pm1 an1 cd1 ct1), sl1⟩) (c1 : PySem.W.codeIn K cd1 "figures_of" = true) (k1 : PySem.W.keepIn K (.ref f1) = true)
    {oc2 kV2 dc2 pm2 cd2 ct2 : Value} {od2 an2 : Option Addr} {sl2 : Array (Option Value)} (a2 : PySem.W.nsIn K mainGlobals "number_of" = some (some (.ref f2))) (l2 : K.lookup f2 = some ⟨oc2, od2, .func (PySem.W.fnOf "number_of" "number_of" (defArgs s_number_of) (defBody s_number_of) (defScope s_number_of) .none kV2 dc2 pm2 an2 cd2 ct2), sl2⟩) (c2 : PySem.W.codeIn K cd2 "number_of" = true) (k2 : PySem.W.keepIn K (.ref f2) = true)
    {oc3 kV3 dc3 pm3 cd3 ct3 : Value} {od3 an3 : Option Addr} {sl3 : Array (Option Value)} (a3 : PySem.W.nsIn K mainGlobals "are_figures" = some (some (.ref f3))) (l3 : K.lookup f3 = some ⟨oc3, od3, .func (PySem.W.fnOf "are_figures" "are_figures" (defArgs s_are_figures) (defBody s_are_figures) (defScope s_are_figures) .none kV3 dc3 pm3 an3 cd3 ct3), sl3⟩) (c3 : PySem.W.codeIn K cd3 "are_figures" = true) (k3 : PySem.W.keepIn K (.ref f3) = true)
    {oc4 kV4 dc4 pm4 cd4 ct4 : Value} {od4 an4 : Option Addr} {sl4 : Array (Option Value)} (a4 : PySem.W.nsIn K mainGlobals "carry" = some (some (.ref f4))) (l4 : K.lookup f4 = some ⟨oc4, od4, .func (PySem.W.fnOf "carry" "carry" (defArgs s_carry) (defBody s_carry) (defScope s_carry) .none kV4 dc4 pm4 an4 cd4 ct4), sl4⟩) (c4 : PySem.W.codeIn K cd4 "carry" = true) (k4 : PySem.W.keepIn K (.ref f4) = true)
    {oc5 kV5 dc5 pm5 cd5 ct5 : Value} {od5 an5 : Option Addr} {sl5 : Array (Option Value)} (a5 : PySem.W.nsIn K mainGlobals "carries_before" = some (some (.ref f5))) (l5 : K.lookup f5 = some ⟨oc5, od5, .func (PySem.W.fnOf "carries_before" "carries_before" (defArgs s_carries_before) (defBody s_carries_before) (defScope s_carries_before) .none kV5 dc5 pm5 an5 cd5 ct5), sl5⟩) (c5 : PySem.W.codeIn K cd5 "carries_before" = true) (k5 : PySem.W.keepIn K (.ref f5) = true)
    {oc6 kV6 dc6 pm6 cd6 ct6 : Value} {od6 an6 : Option Addr} {sl6 : Array (Option Value)} (a6 : PySem.W.nsIn K mainGlobals "rabbits_up_to" = some (some (.ref f6))) (l6 : K.lookup f6 = some ⟨oc6, od6, .func (PySem.W.fnOf "rabbits_up_to" "rabbits_up_to" (defArgs s_rabbits_up_to) (defBody s_rabbits_up_to) (defScope s_rabbits_up_to) .none kV6 dc6 pm6 an6 cd6 ct6), sl6⟩) (c6 : PySem.W.codeIn K cd6 "rabbits_up_to" = true) (k6 : PySem.W.keepIn K (.ref f6) = true)
    {oc7 kV7 dc7 pm7 cd7 ct7 : Value} {od7 an7 : Option Addr} {sl7 : Array (Option Value)} (a7 : PySem.W.nsIn K mainGlobals "rabbit_figures" = some (some (.ref f7))) (l7 : K.lookup f7 = some ⟨oc7, od7, .func (PySem.W.fnOf "rabbit_figures" "rabbit_figures" (defArgs s_rabbit_figures) (defBody s_rabbit_figures) (defScope s_rabbit_figures) .none kV7 dc7 pm7 an7 cd7 ct7), sl7⟩) (c7 : PySem.W.codeIn K cd7 "rabbit_figures" = true) (k7 : PySem.W.keepIn K (.ref f7) = true)
    {oc8 kV8 dc8 pm8 cd8 ct8 : Value} {od8 an8 : Option Addr} {sl8 : Array (Option Value)} (a8 : PySem.W.nsIn K mainGlobals "rabbit_number" = some (some (.ref f8))) (l8 : K.lookup f8 = some ⟨oc8, od8, .func (PySem.W.fnOf "rabbit_number" "rabbit_number" (defArgs s_rabbit_number) (defBody s_rabbit_number) (defScope s_rabbit_number) .none kV8 dc8 pm8 an8 cd8 ct8), sl8⟩) (c8 : PySem.W.codeIn K cd8 "rabbit_number" = true) (k8 : PySem.W.keepIn K (.ref f8) = true)
    {oc9 kV9 dc9 pm9 cd9 ct9 : Value} {od9 an9 : Option Addr} {sl9 : Array (Option Value)} (a9 : PySem.W.nsIn K mainGlobals "are_rabbit_figures" = some (some (.ref f9))) (l9 : K.lookup f9 = some ⟨oc9, od9, .func (PySem.W.fnOf "are_rabbit_figures" "are_rabbit_figures" (defArgs s_are_rabbit_figures) (defBody s_are_rabbit_figures) (defScope s_are_rabbit_figures) .none kV9 dc9 pm9 an9 cd9 ct9), sl9⟩) (c9 : PySem.W.codeIn K cd9 "are_rabbit_figures" = true) (k9 : PySem.W.keepIn K (.ref f9) = true)
    {oc10 kV10 dc10 pm10 cd10 ct10 : Value} {od10 an10 : Option Addr} {sl10 : Array (Option Value)} (a10 : PySem.W.nsIn K mainGlobals "balanced_figures" = some (some (.ref f10))) (l10 : K.lookup f10 = some ⟨oc10, od10, .func (PySem.W.fnOf "balanced_figures" "balanced_figures" (defArgs s_balanced_figures) (defBody s_balanced_figures) (defScope s_balanced_figures) .none kV10 dc10 pm10 an10 cd10 ct10), sl10⟩) (c10 : PySem.W.codeIn K cd10 "balanced_figures" = true) (k10 : PySem.W.keepIn K (.ref f10) = true)
    {oc11 kV11 dc11 pm11 cd11 ct11 : Value} {od11 an11 : Option Addr} {sl11 : Array (Option Value)} (a11 : PySem.W.nsIn K mainGlobals "balanced_number" = some (some (.ref f11))) (l11 : K.lookup f11 = some ⟨oc11, od11, .func (PySem.W.fnOf "balanced_number" "balanced_number" (defArgs s_balanced_number) (defBody s_balanced_number) (defScope s_balanced_number) .none kV11 dc11 pm11 an11 cd11 ct11), sl11⟩) (c11 : PySem.W.codeIn K cd11 "balanced_number" = true) (k11 : PySem.W.keepIn K (.ref f11) = true)
    {oc12 kV12 dc12 pm12 cd12 ct12 : Value} {od12 an12 : Option Addr} {sl12 : Array (Option Value)} (a12 : PySem.W.nsIn K mainGlobals "_law_cell" = some (some (.ref f12))) (l12 : K.lookup f12 = some ⟨oc12, od12, .func (PySem.W.fnOf "_law_cell" "_law_cell" (defArgs s_law_cell) (defBody s_law_cell) (defScope s_law_cell) .none kV12 dc12 pm12 an12 cd12 ct12), sl12⟩) (c12 : PySem.W.codeIn K cd12 "_law_cell" = true) (k12 : PySem.W.keepIn K (.ref f12) = true)
    {oc13 kV13 dc13 pm13 cd13 ct13 : Value} {od13 an13 : Option Addr} {sl13 : Array (Option Value)} (a13 : PySem.W.nsIn K mainGlobals "_law_draws" = some (some (.ref f13))) (l13 : K.lookup f13 = some ⟨oc13, od13, .func (PySem.W.fnOf "_law_draws" "_law_draws" (defArgs s_law_draws) (defBody s_law_draws) (defScope s_law_draws) .none kV13 dc13 pm13 an13 cd13 ct13), sl13⟩) (c13 : PySem.W.codeIn K cd13 "_law_draws" = true) (k13 : PySem.W.keepIn K (.ref f13) = true)
    {oc14 kV14 dc14 pm14 cd14 ct14 : Value} {od14 an14 : Option Addr} {sl14 : Array (Option Value)} (a14 : PySem.W.nsIn K mainGlobals "_law_is_integer" = some (some (.ref f14))) (l14 : K.lookup f14 = some ⟨oc14, od14, .func (PySem.W.fnOf "_law_is_integer" "_law_is_integer" (defArgs s_law_is_integer) (defBody s_law_is_integer) (defScope s_law_is_integer) .none kV14 dc14 pm14 an14 cd14 ct14), sl14⟩) (c14 : PySem.W.codeIn K cd14 "_law_is_integer" = true) (k14 : PySem.W.keepIn K (.ref f14) = true)
    {oc15 kV15 dc15 pm15 cd15 ct15 : Value} {od15 an15 : Option Addr} {sl15 : Array (Option Value)} (a15 : PySem.W.nsIn K mainGlobals "_law_is" = some (some (.ref f15))) (l15 : K.lookup f15 = some ⟨oc15, od15, .func (PySem.W.fnOf "_law_is" "_law_is" (defArgs s_law_is) (defBody s_law_is) (defScope s_law_is) .none kV15 dc15 pm15 an15 cd15 ct15), sl15⟩) (c15 : PySem.W.codeIn K cd15 "_law_is" = true) (k15 : PySem.W.keepIn K (.ref f15) = true)
    {oc16 kV16 dc16 pm16 cd16 ct16 : Value} {od16 an16 : Option Addr} {sl16 : Array (Option Value)} (a16 : PySem.W.nsIn K mainGlobals "_law_bent" = some (some (.ref f16))) (l16 : K.lookup f16 = some ⟨oc16, od16, .func (PySem.W.fnOf "_law_bent" "_law_bent" (defArgs s_law_bent) (defBody s_law_bent) (defScope s_law_bent) .none kV16 dc16 pm16 an16 cd16 ct16), sl16⟩) (c16 : PySem.W.codeIn K cd16 "_law_bent" = true) (k16 : PySem.W.keepIn K (.ref f16) = true)
    {oc17 kV17 dc17 pm17 cd17 ct17 : Value} {od17 an17 : Option Addr} {sl17 : Array (Option Value)} (a17 : PySem.W.nsIn K mainGlobals "_law_figures" = some (some (.ref f17))) (l17 : K.lookup f17 = some ⟨oc17, od17, .func (PySem.W.fnOf "_law_figures" "_law_figures" (defArgs s_law_figures) (defBody s_law_figures) (defScope s_law_figures) .none kV17 dc17 pm17 an17 cd17 ct17), sl17⟩) (c17 : PySem.W.codeIn K cd17 "_law_figures" = true) (k17 : PySem.W.keepIn K (.ref f17) = true)
    {oc18 kV18 dc18 pm18 cd18 ct18 : Value} {od18 an18 : Option Addr} {sl18 : Array (Option Value)} (a18 : PySem.W.nsIn K mainGlobals "_law_rabbits" = some (some (.ref f18))) (l18 : K.lookup f18 = some ⟨oc18, od18, .func (PySem.W.fnOf "_law_rabbits" "_law_rabbits" (defArgs s_law_rabbits) (defBody s_law_rabbits) (defScope s_law_rabbits) .none kV18 dc18 pm18 an18 cd18 ct18), sl18⟩) (c18 : PySem.W.codeIn K cd18 "_law_rabbits" = true) (k18 : PySem.W.keepIn K (.ref f18) = true)
    {oc19 kV19 dc19 pm19 cd19 ct19 : Value} {od19 an19 : Option Addr} {sl19 : Array (Option Value)} (a19 : PySem.W.nsIn K mainGlobals "_law_rabbit_value" = some (some (.ref f19))) (l19 : K.lookup f19 = some ⟨oc19, od19, .func (PySem.W.fnOf "_law_rabbit_value" "_law_rabbit_value" (defArgs s_law_rabbit_value) (defBody s_law_rabbit_value) (defScope s_law_rabbit_value) .none kV19 dc19 pm19 an19 cd19 ct19), sl19⟩) (c19 : PySem.W.codeIn K cd19 "_law_rabbit_value" = true) (k19 : PySem.W.keepIn K (.ref f19) = true)
    {oc20 kV20 dc20 pm20 cd20 ct20 : Value} {od20 an20 : Option Addr} {sl20 : Array (Option Value)} (a20 : PySem.W.nsIn K mainGlobals "_law_balanced_value" = some (some (.ref f20))) (l20 : K.lookup f20 = some ⟨oc20, od20, .func (PySem.W.fnOf "_law_balanced_value" "_law_balanced_value" (defArgs s_law_balanced_value) (defBody s_law_balanced_value) (defScope s_law_balanced_value) .none kV20 dc20 pm20 an20 cd20 ct20), sl20⟩) (c20 : PySem.W.codeIn K cd20 "_law_balanced_value" = true) (k20 : PySem.W.keepIn K (.ref f20) = true)
    {oc21 kV21 dc21 pm21 cd21 ct21 : Value} {od21 an21 : Option Addr} {sl21 : Array (Option Value)} (a21 : PySem.W.nsIn K mainGlobals "law" = some (some (.ref f21))) (l21 : K.lookup f21 = some ⟨oc21, od21, .func (PySem.W.fnOf "law" "law" (defArgs s_law) (defBody s_law) (defScope s_law) .none kV21 dc21 pm21 an21 cd21 ct21), sl21⟩) (c21 : PySem.W.codeIn K cd21 "law" = true) (k21 : PySem.W.keepIn K (.ref f21) = true)
    (z_tuple : PySem.W.nsIn K mainGlobals "tuple" = some none) (z_zip : PySem.W.nsIn K mainGlobals "zip" = some none) (z_all : PySem.W.nsIn K mainGlobals "all" = some none) (z_len : PySem.W.nsIn K mainGlobals "len" = some none) (z_abs : PySem.W.nsIn K mainGlobals "abs" = some none) (z_range : PySem.W.nsIn K mainGlobals "range" = some none) (z_int : PySem.W.nsIn K mainGlobals "int" = some none) (z_isinstance : PySem.W.nsIn K mainGlobals "isinstance" = some none) (z_bool : PySem.W.nsIn K mainGlobals "bool" = some none) (z_str : PySem.W.nsIn K mainGlobals "str" = some none) (z_max : PySem.W.nsIn K mainGlobals "max" = some none) (z_sum : PySem.W.nsIn K mainGlobals "sum" = some none) (z_min : PySem.W.nsIn K mainGlobals "min" = some none) (z_list : PySem.W.nsIn K mainGlobals "list" = some none) :
    LamX.LawAtS l w K CX0 6 63 "script" mg fa h := by
  have e := hfa.symm.trans (PySem.W.mg_of X G a21)
  cases e
  have m_tuple := PySem.W.mg_none_of X G z_tuple
  have m_zip := PySem.W.mg_none_of X G z_zip
  have m_all := PySem.W.mg_none_of X G z_all
  have m_len := PySem.W.mg_none_of X G z_len
  have m_abs := PySem.W.mg_none_of X G z_abs
  have m_range := PySem.W.mg_none_of X G z_range
  have m_int := PySem.W.mg_none_of X G z_int
  have m_isinstance := PySem.W.mg_none_of X G z_isinstance
  have m_bool := PySem.W.mg_none_of X G z_bool
  have m_str := PySem.W.mg_none_of X G z_str
  have m_max := PySem.W.mg_none_of X G z_max
  have m_sum := PySem.W.mg_none_of X G z_sum
  have m_min := PySem.W.mg_none_of X G z_min
  have m_list := PySem.W.mg_none_of X G z_list
  have G1 := fun_mk (st := s_figures_of) l1 c1 k1
  have b1 := G1.binds (ps := ["bases", "number"]) fun _ _ _ _ _ _ us hl => match us, hl with | [_, _], _ => rfl
  have G2 := fun_mk (st := s_number_of) l2 c2 k2
  have b2 := G2.binds (ps := ["bases", "figures"]) fun _ _ _ _ _ _ us hl => match us, hl with | [_, _], _ => rfl
  have G3 := fun_mk (st := s_are_figures) l3 c3 k3
  have b3 := G3.binds (ps := ["bases", "figures"]) fun _ _ _ _ _ _ us hl => match us, hl with | [_, _], _ => rfl
  have G4 := fun_mk (st := s_carry) l4 c4 k4
  have b4 := G4.binds (ps := ["bases", "number"]) fun _ _ _ _ _ _ us hl => match us, hl with | [_, _], _ => rfl
  have G5 := fun_mk (st := s_carries_before) l5 c5 k5
  have b5 := G5.binds (ps := ["bases", "number"]) fun _ _ _ _ _ _ us hl => match us, hl with | [_, _], _ => rfl
  have G6 := fun_mk (st := s_rabbits_up_to) l6 c6 k6
  have b6 := G6.binds (ps := ["number"]) fun _ _ _ _ _ _ us hl => match us, hl with | [_], _ => rfl
  have G7 := fun_mk (st := s_rabbit_figures) l7 c7 k7
  have b7 := G7.binds (ps := ["number"]) fun _ _ _ _ _ _ us hl => match us, hl with | [_], _ => rfl
  have G8 := fun_mk (st := s_rabbit_number) l8 c8 k8
  have b8 := G8.binds (ps := ["text"]) fun _ _ _ _ _ _ us hl => match us, hl with | [_], _ => rfl
  have G9 := fun_mk (st := s_are_rabbit_figures) l9 c9 k9
  have b9 := G9.binds (ps := ["text"]) fun _ _ _ _ _ _ us hl => match us, hl with | [_], _ => rfl
  have G10 := fun_mk (st := s_balanced_figures) l10 c10 k10
  have b10 := G10.binds (ps := ["number"]) fun _ _ _ _ _ _ us hl => match us, hl with | [_], _ => rfl
  have G11 := fun_mk (st := s_balanced_number) l11 c11 k11
  have b11 := G11.binds (ps := ["text"]) fun _ _ _ _ _ _ us hl => match us, hl with | [_], _ => rfl
  have G12 := fun_mk (st := s_law_cell) l12 c12 k12
  have b12 := G12.binds (ps := ["script", "k"]) fun _ _ _ _ _ _ us hl => match us, hl with | [_, _], _ => rfl
  have G13 := fun_mk (st := s_law_draws) l13 c13 k13
  have b13 := G13.binds (ps := ["cell", "count"]) fun _ _ _ _ _ _ us hl => match us, hl with | [_, _], _ => rfl
  have G14 := fun_mk (st := s_law_is_integer) l14 c14 k14
  have b14 := G14.binds (ps := ["value"]) fun _ _ _ _ _ _ us hl => match us, hl with | [_], _ => rfl
  have G15 := fun_mk (st := s_law_is) l15 c15 k15
  have b15 := G15.binds (ps := ["value", "due"]) fun _ _ _ _ _ _ us hl => match us, hl with | [_, _], _ => rfl
  have G16 := fun_mk (st := s_law_bent) l16 c16 k16
  have b16 := G16.binds (ps := ["row", "draws", "most"]) fun _ _ _ _ _ _ us hl => match us, hl with | [_, _, _], _ => rfl
  have G17 := fun_mk (st := s_law_figures) l17 c17 k17
  have b17 := G17.binds (ps := ["bases", "number"]) fun _ _ _ _ _ _ us hl => match us, hl with | [_, _], _ => rfl
  have G18 := fun_mk (st := s_law_rabbits) l18 c18 k18
  have b18 := G18.binds (ps := ["size"]) fun _ _ _ _ _ _ us hl => match us, hl with | [_], _ => rfl
  have G19 := fun_mk (st := s_law_rabbit_value) l19 c19 k19
  have b19 := G19.binds (ps := ["text"]) fun _ _ _ _ _ _ us hl => match us, hl with | [_], _ => rfl
  have G20 := fun_mk (st := s_law_balanced_value) l20 c20 k20
  have b20 := G20.binds (ps := ["text"]) fun _ _ _ _ _ _ us hl => match us, hl with | [_], _ => rfl
  have G21 := fun_mk (st := s_law) l21 c21 k21
  obtain ⟨t3, u3, ec3, hd3, em3, nl3⟩ := TB "are_figures" _ _ _ _ _ (by decide) (PySem.W.mg_of X G a3) l3
  obtain ⟨t9, u9, ec9, hd9, em9, nl9⟩ := TB "are_rabbit_figures" _ _ _ _ _ (by decide) (PySem.W.mg_of X G a9) l9
  refine lawAt_of (PySem.W.fnOf "law" "law" (defArgs s_law) (defBody s_law) (defScope s_law) .none kV21 dc21 pm21 an21 cd21 ct21) [(t3, u3), (t9, u9)] (all_cons ⟨hd3, em3, nl3⟩ (all_cons ⟨hd9, em9, nl9⟩ (all_nil))) (fun s v => .of_eq rfl) fun base _ _ TG => ?_
  have hB3 := TG (t3, u3) (by simp)
  have hB9 := TG (t9, u9) (by simp)
  have F_figures_of : Fd ⟨fun a => a ∈ [(t3, u3), (t9, u9)].map (·.2), l.prog, w, K, mg, base⟩ "figures_of" 1 2 sp_figures_of := Fd.mk' G1 (PySem.W.mg_of X G a1) sc_figures_of b1 rfl mono_figures_of len_figures_of fun ds Q h => body_figures_of m_tuple ds Q h
  have F_number_of : Fd ⟨fun a => a ∈ [(t3, u3), (t9, u9)].map (·.2), l.prog, w, K, mg, base⟩ "number_of" 1 2 sp_number_of := Fd.mk' G2 (PySem.W.mg_of X G a2) sc_number_of b2 rfl mono_number_of len_number_of fun ds Q h => body_number_of m_zip ds Q h
  have F_are_figures : Fd ⟨fun a => a ∈ [(t3, u3), (t9, u9)].map (·.2), l.prog, w, K, mg, base⟩ "are_figures" 2 2 sp_are_figures := Fd.mkT G3 ⟨t3, u3, ec3, hB3, by simp⟩ (PySem.W.mg_of X G a3) sc_are_figures b3 rfl mono_are_figures len_are_figures fun ds Q h => body_are_figures m_all m_len m_zip ds Q h
  have F_carry : Fd ⟨fun a => a ∈ [(t3, u3), (t9, u9)].map (·.2), l.prog, w, K, mg, base⟩ "carry" 2 2 sp_carry := Fd.mk' G4 (PySem.W.mg_of X G a4) sc_carry b4 rfl mono_carry len_carry fun ds Q h => body_carry m_len m_zip F_figures_of ds Q h
  have F_carries_before : Fd ⟨fun a => a ∈ [(t3, u3), (t9, u9)].map (·.2), l.prog, w, K, mg, base⟩ "carries_before" 1 2 sp_carries_before := Fd.mk' G5 (PySem.W.mg_of X G a5) sc_carries_before b5 rfl mono_carries_before len_carries_before fun ds Q h => body_carries_before  ds Q h
  have F_rabbits_up_to : Fd ⟨fun a => a ∈ [(t3, u3), (t9, u9)].map (·.2), l.prog, w, K, mg, base⟩ "rabbits_up_to" 1 1 sp_rabbits_up_to := Fd.mk' G6 (PySem.W.mg_of X G a6) sc_rabbits_up_to b6 rfl mono_rabbits_up_to len_rabbits_up_to fun ds Q h => body_rabbits_up_to  ds Q h
  have F_rabbit_figures : Fd ⟨fun a => a ∈ [(t3, u3), (t9, u9)].map (·.2), l.prog, w, K, mg, base⟩ "rabbit_figures" 2 1 sp_rabbit_figures := Fd.mk' G7 (PySem.W.mg_of X G a7) sc_rabbit_figures b7 rfl mono_rabbit_figures len_rabbit_figures fun ds Q h => body_rabbit_figures F_rabbits_up_to ds Q h
  have F_rabbit_number : Fd ⟨fun a => a ∈ [(t3, u3), (t9, u9)].map (·.2), l.prog, w, K, mg, base⟩ "rabbit_number" 1 1 sp_rabbit_number := Fd.mk' G8 (PySem.W.mg_of X G a8) sc_rabbit_number b8 rfl mono_rabbit_number len_rabbit_number fun ds Q h => body_rabbit_number  ds Q h
  have F_are_rabbit_figures : Fd ⟨fun a => a ∈ [(t3, u3), (t9, u9)].map (·.2), l.prog, w, K, mg, base⟩ "are_rabbit_figures" 2 1 sp_are_rabbit_figures := Fd.mkT G9 ⟨t9, u9, ec9, hB9, by simp⟩ (PySem.W.mg_of X G a9) sc_are_rabbit_figures b9 rfl mono_are_rabbit_figures len_are_rabbit_figures fun ds Q h => body_are_rabbit_figures m_all ds Q h
  have F_balanced_figures : Fd ⟨fun a => a ∈ [(t3, u3), (t9, u9)].map (·.2), l.prog, w, K, mg, base⟩ "balanced_figures" 1 1 sp_balanced_figures := Fd.mk' G10 (PySem.W.mg_of X G a10) sc_balanced_figures b10 rfl mono_balanced_figures len_balanced_figures fun ds Q h => body_balanced_figures  ds Q h
  have F_balanced_number : Fd ⟨fun a => a ∈ [(t3, u3), (t9, u9)].map (·.2), l.prog, w, K, mg, base⟩ "balanced_number" 1 1 sp_balanced_number := Fd.mk' G11 (PySem.W.mg_of X G a11) sc_balanced_number b11 rfl mono_balanced_number len_balanced_number fun ds Q h => body_balanced_number  ds Q h
  have F_law_cell : Fd ⟨fun a => a ∈ [(t3, u3), (t9, u9)].map (·.2), l.prog, w, K, mg, base⟩ "_law_cell" 1 2 sp_law_cell := Fd.mk' G12 (PySem.W.mg_of X G a12) sc_law_cell b12 rfl mono_law_cell len_law_cell fun ds Q h => body_law_cell m_len ds Q h
  have F_law_draws : Fd ⟨fun a => a ∈ [(t3, u3), (t9, u9)].map (·.2), l.prog, w, K, mg, base⟩ "_law_draws" 1 2 sp_law_draws := Fd.mk' G13 (PySem.W.mg_of X G a13) sc_law_draws b13 rfl mono_law_draws len_law_draws fun ds Q h => body_law_draws m_abs m_range m_int ds Q h
  have F_law_is_integer : Fd ⟨fun a => a ∈ [(t3, u3), (t9, u9)].map (·.2), l.prog, w, K, mg, base⟩ "_law_is_integer" 1 1 sp_law_is_integer := Fd.mk' G14 (PySem.W.mg_of X G a14) sc_law_is_integer b14 rfl mono_law_is_integer len_law_is_integer fun ds Q h => body_law_is_integer m_isinstance m_int m_bool ds Q h
  have F_law_is : Fd ⟨fun a => a ∈ [(t3, u3), (t9, u9)].map (·.2), l.prog, w, K, mg, base⟩ "_law_is" 5 2 (sp_law_is 3) := by
    have all : ∀ n, Fd ⟨fun a => a ∈ [(t3, u3), (t9, u9)].map (·.2), l.prog, w, K, mg, base⟩ "_law_is" (n + 2) 2 (sp_law_is n) := fun n => by
      induction n with
      | zero => exact Fd.mk' G15 (PySem.W.mg_of X G a15) sc_law_is b15 rfl (mono_law_is 0) (len_law_is 0) fun ds Q h => body_law_is m_isinstance m_bool m_int m_str m_all m_tuple m_len m_range F_law_is_integer (fun n' h => absurd h (by omega)) ds Q h
      | succ n ih => exact Fd.mk' G15 (PySem.W.mg_of X G a15) sc_law_is b15 rfl (mono_law_is (n + 1)) (len_law_is (n + 1)) fun ds Q h => body_law_is m_isinstance m_bool m_int m_str m_all m_tuple m_len m_range F_law_is_integer (fun n' h => by cases h; exact ih) ds Q h
    exact all 3
  have F_law_bent : Fd ⟨fun a => a ∈ [(t3, u3), (t9, u9)].map (·.2), l.prog, w, K, mg, base⟩ "_law_bent" 1 3 sp_law_bent := Fd.mk' G16 (PySem.W.mg_of X G a16) sc_law_bent b16 rfl mono_law_bent len_law_bent fun ds Q h => body_law_bent m_int m_len m_max ds Q h
  have F_law_figures : Fd ⟨fun a => a ∈ [(t3, u3), (t9, u9)].map (·.2), l.prog, w, K, mg, base⟩ "_law_figures" 1 2 sp_law_figures := Fd.mk' G17 (PySem.W.mg_of X G a17) sc_law_figures b17 rfl mono_law_figures len_law_figures fun ds Q h => body_law_figures m_tuple ds Q h
  have F_law_rabbits : Fd ⟨fun a => a ∈ [(t3, u3), (t9, u9)].map (·.2), l.prog, w, K, mg, base⟩ "_law_rabbits" 1 1 sp_law_rabbits := Fd.mk' G18 (PySem.W.mg_of X G a18) sc_law_rabbits b18 rfl mono_law_rabbits len_law_rabbits fun ds Q h => body_law_rabbits m_len ds Q h
  have F_law_rabbit_value : Fd ⟨fun a => a ∈ [(t3, u3), (t9, u9)].map (·.2), l.prog, w, K, mg, base⟩ "_law_rabbit_value" 2 1 sp_law_rabbit_value := Fd.mk' G19 (PySem.W.mg_of X G a19) sc_law_rabbit_value b19 rfl mono_law_rabbit_value len_law_rabbit_value fun ds Q h => body_law_rabbit_value m_sum m_max m_len m_range F_law_rabbits ds Q h
  have F_law_balanced_value : Fd ⟨fun a => a ∈ [(t3, u3), (t9, u9)].map (·.2), l.prog, w, K, mg, base⟩ "_law_balanced_value" 1 1 sp_law_balanced_value := Fd.mk' G20 (PySem.W.mg_of X G a20) sc_law_balanced_value b20 rfl mono_law_balanced_value len_law_balanced_value fun ds Q h => body_law_balanced_value  ds Q h
  exact fnok_mk (m := ⟨fun a => a ∈ [(t3, u3), (t9, u9)].map (·.2), l.prog, w, K, mg, base⟩) G21 sc_law rfl fun ds Q h => body_law m_tuple m_range m_min m_int m_len m_all m_isinstance m_str m_zip m_list F_law_draws F_law_cell F_law_figures F_law_bent F_law_is F_rabbit_figures F_carries_before F_balanced_figures F_carry F_law_rabbit_value F_figures_of F_number_of F_are_figures F_rabbit_number F_are_rabbit_figures F_law_balanced_value F_balanced_number ds Q h
end K10
open PySem PySem.W PyProof.Rows
set_option maxHeartbeats 0 in
theorem PySem.Challenge.cw_gearwright_k10_whole_figures_of_counters_holds : PySem.Challenge.rw_gearwright_k10_whole_figures_of_counters.Holds := by
  w_on; o_law; k_head; (case hw => w_witness2)
  k_fill
  refine Pl.walk_ofTabs (l := PySem.Challenge.rw_gearwright_k10_whole_figures_of_counters) (n := 63) (k := 6) (x := "script") (CX := fun _ => L2.CX0) ["are_figures", "are_rabbit_figures"] rfl (by decide) rfl ⟨rfl, by decide, by decide⟩ (by decide +kernel) (fun w h Y => PySem.W.kIn_of Y) (fun w => by rfl) ?F (fun _ _ _ _ _ h => h)
  case F =>
    intro w mg fa h KX G hmg TB
    refine' K10.all_mk KX G hmg TB ?a1 ?l1 ?c1 ?k1 ?a2 ?l2 ?c2 ?k2 ?a3 ?l3 ?c3 ?k3 ?a4 ?l4 ?c4 ?k4 ?a5 ?l5 ?c5 ?k5 ?a6 ?l6 ?c6 ?k6 ?a7 ?l7 ?c7 ?k7 ?a8 ?l8 ?c8 ?k8 ?a9 ?l9 ?c9 ?k9 ?a10 ?l10 ?c10 ?k10 ?a11 ?l11 ?c11 ?k11 ?a12 ?l12 ?c12 ?k12 ?a13 ?l13 ?c13 ?k13 ?a14 ?l14 ?c14 ?k14 ?a15 ?l15 ?c15 ?k15 ?a16 ?l16 ?c16 ?k16 ?a17 ?l17 ?c17 ?k17 ?a18 ?l18 ?c18 ?k18 ?a19 ?l19 ?c19 ?k19 ?a20 ?l20 ?c20 ?k20 ?a21 ?l21 ?c21 ?k21 ?z_tuple ?z_zip ?z_all ?z_len ?z_abs ?z_range ?z_int ?z_isinstance ?z_bool ?z_str ?z_max ?z_sum ?z_min ?z_list
    (case a1 => k_is); (case l1 => k_is); (case c1 => k_is); (case k1 => k_is); (case a2 => k_is); (case l2 => k_is); (case c2 => k_is); (case k2 => k_is); (case a3 => k_is); (case l3 => k_is); (case c3 => k_is); (case k3 => k_is); (case a4 => k_is); (case l4 => k_is); (case c4 => k_is); (case k4 => k_is); (case a5 => k_is); (case l5 => k_is); (case c5 => k_is); (case k5 => k_is); (case a6 => k_is); (case l6 => k_is); (case c6 => k_is); (case k6 => k_is); (case a7 => k_is); (case l7 => k_is); (case c7 => k_is); (case k7 => k_is); (case a8 => k_is); (case l8 => k_is); (case c8 => k_is); (case k8 => k_is); (case a9 => k_is); (case l9 => k_is); (case c9 => k_is); (case k9 => k_is); (case a10 => k_is); (case l10 => k_is); (case c10 => k_is); (case k10 => k_is); (case a11 => k_is); (case l11 => k_is); (case c11 => k_is); (case k11 => k_is); (case a12 => k_is); (case l12 => k_is); (case c12 => k_is); (case k12 => k_is); (case a13 => k_is); (case l13 => k_is); (case c13 => k_is); (case k13 => k_is); (case a14 => k_is); (case l14 => k_is); (case c14 => k_is); (case k14 => k_is); (case a15 => k_is); (case l15 => k_is); (case c15 => k_is); (case k15 => k_is); (case a16 => k_is); (case l16 => k_is); (case c16 => k_is); (case k16 => k_is); (case a17 => k_is); (case l17 => k_is); (case c17 => k_is); (case k17 => k_is); (case a18 => k_is); (case l18 => k_is); (case c18 => k_is); (case k18 => k_is); (case a19 => k_is); (case l19 => k_is); (case c19 => k_is); (case k19 => k_is); (case a20 => k_is); (case l20 => k_is); (case c20 => k_is); (case k20 => k_is); (case a21 => k_is); (case l21 => k_is); (case c21 => k_is); (case k21 => k_is); (case z_tuple => k_is); (case z_zip => k_is); (case z_all => k_is); (case z_len => k_is); (case z_abs => k_is); (case z_range => k_is); (case z_int => k_is); (case z_isinstance => k_is); (case z_bool => k_is); (case z_str => k_is); (case z_max => k_is); (case z_sum => k_is); (case z_min => k_is); (case z_list => k_is)
#print axioms PySem.Challenge.cw_gearwright_k10_whole_figures_of_counters_holds
