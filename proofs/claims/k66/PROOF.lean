import PyProof.Rows.All
import Wide.All
import OpenK.AllK
import Wide.FinOn
import HandS.ForMost
import HandS.ForExc
import HandS.Defaults
import HandS.Flow
import HandS.Wide
import HandS.Deep
import HandS.TupAny
import HandS.IsInst
import HandS.Style
import HandS.Small
import HandS.Strs
import HandS.Conv
import HandS.SortInts
import HandS.SortRule
import HandS.More
import HandS.Zip
import HandS.Head0
import HandS.Head1
import HandS.Head2
import HandS.HeadEnd
import HandS.HeadHook1
import HandS.HeadHook2
import PySem.Challenge.RW_neverpass_k66_whole_lifts_through_books
set_option Elab.async false
set_option linter.all false
set_option maxRecDepth 100000
set_option maxHeartbeats 4000000
/-! A layer over the hand layer: values as plain data (D), the objects that may still change as a list of cells. -/
namespace DL
open PySem PySem.Spec L2

/-! ### data -/
inductive D where
  | non | bl (b : Bool) | int (i : Int) | str (s : Str) | ty (n : String)
  | ref (a : Addr)
  | tup (ds : List D) | tupx (ds : List D) | lst (ds : List D)
  | obj (C : Addr) (ns : List Str) (ds : List D)
  | scr (ds : List D)

/-- an object that may change -/
inductive MO where
  | lst (ds : List D)
  | ins (C : Addr) (ns : List Str) (ds : List D)
  | dK (ks : List Key) (ds : List D)
  | dT (ks : List (List Key)) (ds : List D)
  | lkK (o : Obj) (ks : List Key) (ds : List D)
  | lkT (o : Obj) (ks : List (List Key)) (ds : List D)
  | raw (o : HO)

mutual
/-- v is the data d, in the part Hi that never changes -/
def Rep (Hi : Hp) : D → V → Prop
  | .non, v => v = .non
  | .bl b, v => v = .bl b
  | .int i, v => v = .int i
  | .str s, v => v = .str s
  | .ty n, v => v = .ty n
  | .ref a, v => v = .ref a
  | .tup ds, v => ∃ a vs, v = .ref a ∧ Hi a = some (.tup vs) ∧ RepL Hi ds vs
  | .tupx ds, v => ∃ a vs o, v = .ref a ∧ Hi a = some (.frz o (.tup vs)) ∧ o.dict = none ∧ RepL Hi ds vs
  | .lst ds, v => ∃ a vs, v = .ref a ∧ Hi a = some (.lst vs) ∧ RepL Hi ds vs
  | .obj C ns ds, v => ∃ a dx vs, v = .ref a ∧ Hi a = some (.ins C dx (ns.zip vs)) ∧ ns.length = ds.length ∧ RepL Hi ds vs
  | .scr ds, v => ∃ a vs, v = .ref a ∧ Rd Hi a (.lst vs) ∧ RepL Hi ds vs
def RepL (Hi : Hp) : List D → List V → Prop
  | [], vs => vs = []
  | d :: ds, vs => ∃ v r, vs = v :: r ∧ Rep Hi d v ∧ RepL Hi ds r
end

def Ext (H H' : Hp) : Prop := ∀ a o, H a = some o → H' a = some o
theorem Ext.refl (H : Hp) : Ext H H := fun _ _ h => h
theorem Ext.trans {H H1 H2 : Hp} (a : Ext H H1) (b : Ext H1 H2) : Ext H H2 := fun c o h => b c o (a c o h)
theorem Ext.new {H : Hp} {p : Addr} {o : HO} (h : H p = none) : Ext H (upd H p o) := fun a u e => by
  rw [upd_ne (ne_of_none e h)]
  exact e
theorem Ext.free {H H' : Hp} {p : Addr} (e : Ext H H') (h : H' p = none) : H p = none := by
  cases h1 : H p with
  | none => rfl
  | some o =>
    rw [e p o h1] at h
    cases h
theorem Ext.rd {H H' : Hp} {a : Addr} {u : HO} (e : Ext H H') (h : Rd H a u) : Rd H' a u := by
  rcases h with h | ⟨o, h⟩
  · exact Or.inl (e a _ h)
  · exact Or.inr ⟨o, e a _ h⟩
mutual
theorem Rep.mono {H H' : Hp} (e : Ext H H') : ∀ {d : D} {v : V}, Rep H d v → Rep H' d v
  | .non, _, h => h
  | .bl _, _, h => h
  | .int _, _, h => h
  | .str _, _, h => h
  | .ty _, _, h => h
  | .ref _, _, h => h
  | .tup _, _, ⟨a, vs, h1, h2, h3⟩ => ⟨a, vs, h1, e _ _ h2, RepL.mono e h3⟩
  | .tupx _, _, ⟨a, vs, o, h1, h2, h0, h3⟩ => ⟨a, vs, o, h1, e _ _ h2, h0, RepL.mono e h3⟩
  | .lst _, _, ⟨a, vs, h1, h2, h3⟩ => ⟨a, vs, h1, e _ _ h2, RepL.mono e h3⟩
  | .obj _ _ _, _, ⟨a, dx, vs, h1, h2, h0, h3⟩ => ⟨a, dx, vs, h1, e _ _ h2, h0, RepL.mono e h3⟩
  | .scr _, _, ⟨a, vs, h1, h2, h3⟩ => ⟨a, vs, h1, e.rd h2, RepL.mono e h3⟩
theorem RepL.mono {H H' : Hp} (e : Ext H H') : ∀ {ds : List D} {vs : List V}, RepL H ds vs → RepL H' ds vs
  | [], _, h => h
  | _ :: _, _, ⟨v, r, h0, h1, h2⟩ => ⟨v, r, h0, Rep.mono e h1, RepL.mono e h2⟩
end
theorem RepL.length {H : Hp} : ∀ {ds : List D} {vs : List V}, RepL H ds vs → ds.length = vs.length
  | [], _, h => by cases h; rfl
  | _ :: _, _, ⟨_, _, h0, _, h2⟩ => by rw [h0]; exact congrArg Nat.succ (RepL.length h2)
theorem RepL.nil {H : Hp} : RepL H [] [] := rfl
theorem RepL.cons {H : Hp} {d : D} {ds : List D} {v : V} {vs : List V} (h : Rep H d v) (t : RepL H ds vs) : RepL H (d :: ds) (v :: vs) := ⟨v, vs, rfl, h, t⟩
theorem RepL.cons_inv {H : Hp} {d : D} {ds : List D} {v : V} {vs : List V} (h : RepL H (d :: ds) (v :: vs)) : Rep H d v ∧ RepL H ds vs := by
  obtain ⟨_, _, e, h1, h2⟩ := h
  cases e
  exact ⟨h1, h2⟩
theorem RepL.append {H : Hp} : ∀ {ds es : List D} {vs ws : List V}, RepL H ds vs → RepL H es ws → RepL H (ds ++ es) (vs ++ ws)
  | [], _, _, _, h, t => by cases h; exact t
  | _ :: _, _, _, _, ⟨v, r, h0, h1, h2⟩, t => by subst h0; exact ⟨v, _, rfl, h1, RepL.append h2 t⟩
theorem RepL.get {H : Hp} : ∀ {ds : List D} {vs : List V} {i : Nat} {d : D}, RepL H ds vs → ds[i]? = some d → ∃ v, vs[i]? = some v ∧ Rep H d v
  | [], _, _, _, _, e => by simp at e
  | _ :: _, _, 0, _, ⟨v, r, h0, h1, h2⟩, e => by subst h0; simp at e; subst e; exact ⟨v, rfl, h1⟩
  | _ :: _, _, i + 1, _, ⟨v, r, h0, h1, h2⟩, e => by
    subst h0
    obtain ⟨w, e1, e2⟩ := RepL.get (i := i) h2 (by simpa using e)
    exact ⟨w, by simpa using e1, e2⟩
theorem RepL.getV {H : Hp} : ∀ {ds : List D} {vs : List V} {i : Nat} {v : V}, RepL H ds vs → vs[i]? = some v → ∃ d, ds[i]? = some d ∧ Rep H d v
  | [], _, _, _, h, e => by cases h; simp at e
  | d :: _, _, 0, _, ⟨v, r, h0, h1, h2⟩, e => by subst h0; simp at e; subst e; exact ⟨d, rfl, h1⟩
  | _ :: _, _, i + 1, _, ⟨v, r, h0, h1, h2⟩, e => by
    subst h0
    obtain ⟨w, e1, e2⟩ := RepL.getV (i := i) h2 (by simpa using e)
    exact ⟨w, by simpa using e1, e2⟩
theorem RepL.set {H : Hp} {d : D} {v : V} (h : Rep H d v) : ∀ {ds : List D} {vs : List V} (i : Nat), RepL H ds vs → RepL H (ds.set i d) (vs.set i v)
  | [], _, _, t => by cases t; rfl
  | _ :: _, _, 0, ⟨w, r, h0, h1, h2⟩ => by subst h0; exact ⟨v, r, rfl, h, h2⟩
  | _ :: _, _, i + 1, ⟨w, r, h0, h1, h2⟩ => by subst h0; exact ⟨w, _, rfl, h1, RepL.set h i h2⟩
theorem RepL.take {H : Hp} : ∀ {ds : List D} {vs : List V} (n : Nat), RepL H ds vs → RepL H (ds.take n) (vs.take n)
  | _, _, 0, _ => by simp [RepL]
  | [], _, _ + 1, t => by cases t; rfl
  | _ :: _, _, n + 1, ⟨w, r, h0, h1, h2⟩ => by subst h0; exact ⟨w, _, rfl, h1, RepL.take n h2⟩
theorem RepL.drop {H : Hp} : ∀ {ds : List D} {vs : List V} (n : Nat), RepL H ds vs → RepL H (ds.drop n) (vs.drop n)
  | _, _, 0, h => by simpa using h
  | [], _, _ + 1, t => by cases t; rfl
  | _ :: _, _, n + 1, ⟨w, r, h0, h1, h2⟩ => by subst h0; simpa using RepL.drop n h2
theorem RepL.reverse {H : Hp} : ∀ {ds : List D} {vs : List V}, RepL H ds vs → RepL H ds.reverse vs.reverse
  | [], _, h => by cases h; rfl
  | _ :: _, _, ⟨w, r, h0, h1, h2⟩ => by
    subst h0
    rw [List.reverse_cons, List.reverse_cons]
    exact RepL.append (RepL.reverse h2) ⟨w, [], rfl, h1, rfl⟩
theorem RepL.ints {H : Hp} : ∀ {ns : List Int} {vs : List V}, RepL H (ns.map D.int) vs → vs = ns.map V.int
  | [], _, h => h
  | _ :: _, _, ⟨w, r, h0, h1, h2⟩ => by
    have e := RepL.ints h2
    have e1 : w = _ := h1
    rw [h0, e, e1]; rfl
theorem RepL.bls {H : Hp} : ∀ {ns : List Bool} {vs : List V}, RepL H (ns.map D.bl) vs → vs = ns.map V.bl
  | [], _, h => h
  | _ :: _, _, ⟨w, r, h0, h1, h2⟩ => by
    have e := RepL.bls h2
    have e1 : w = _ := h1
    rw [h0, e, e1]; rfl
theorem RepL.ofInts {H : Hp} : ∀ {ns : List Int}, RepL H (ns.map D.int) (ns.map V.int)
  | [] => rfl
  | _ :: _ => ⟨_, _, rfl, rfl, RepL.ofInts⟩

abbrev Cells := List (Addr × MO)
/-- what the heap holds of a cell -/
def CellOk (Hi : Hp) : MO → HO → Prop
  | .lst ds, o => ∃ vs, o = .lst vs ∧ RepL Hi ds vs
  | .ins C ns ds, o => ∃ dx vs, o = .ins C dx (ns.zip vs) ∧ ns.length = ds.length ∧ RepL Hi ds vs
  | .dK ks ds, o => ∃ vs, o = .dK (ks.zip vs) ∧ ks.length = ds.length ∧ RepL Hi ds vs
  | .dT ks ds, o => ∃ vs, o = .dT (ks.zip vs) ∧ ks.length = ds.length ∧ RepL Hi ds vs
  | .lkK ob ks ds, o => ∃ vs, o = .frz ob (.dK (ks.zip vs)) ∧ ks.length = ds.length ∧ RepL Hi ds vs
  | .lkT ob ks ds, o => ∃ vs, o = .frz ob (.dT (ks.zip vs)) ∧ ks.length = ds.length ∧ RepL Hi ds vs
  | .raw u, o => o = u
theorem CellOk.mono {H H' : Hp} (e : Ext H H') : ∀ {m : MO} {o : HO}, CellOk H m o → CellOk H' m o
  | .lst _, _, ⟨vs, h1, h2⟩ => ⟨vs, h1, RepL.mono e h2⟩
  | .ins _ _ _, _, ⟨dx, vs, h1, h0, h2⟩ => ⟨dx, vs, h1, h0, RepL.mono e h2⟩
  | .dK _ _, _, ⟨vs, h1, h0, h2⟩ => ⟨vs, h1, h0, RepL.mono e h2⟩
  | .dT _ _, _, ⟨vs, h1, h0, h2⟩ => ⟨vs, h1, h0, RepL.mono e h2⟩
  | .lkK _ _ _, _, ⟨vs, h1, h0, h2⟩ => ⟨vs, h1, h0, RepL.mono e h2⟩
  | .lkT _ _ _, _, ⟨vs, h1, h0, h2⟩ => ⟨vs, h1, h0, RepL.mono e h2⟩
  | .raw _, _, h => h
/-- the heap H: the part Hi that never changes, and the cells M -/
structure Own (Hi : Hp) (M : Cells) (H : Hp) : Prop where
  ext : Ext Hi H
  nd : (M.map (·.1)).Nodup
  cell : ∀ p ∈ M, Hi p.1 = none ∧ ∃ o, H p.1 = some o ∧ CellOk Hi p.2 o
theorem Own.at {Hi : Hp} {M : Cells} {H : Hp} (w : Own Hi M H) {i : Nat} {a : Addr} {m : MO} (e : M[i]? = some (a, m)) : Hi a = none ∧ ∃ o, H a = some o ∧ CellOk Hi m o :=
  w.cell (a, m) (List.mem_of_getElem? e)
/-- an object that never changes is laid -/
theorem Own.laid {Hi : Hp} {M : Cells} {H : Hp} {p : Addr} {o : HO} (w : Own Hi M H) (hp : H p = none) : Own (upd Hi p o) M (upd H p o) := by
  have hi := w.ext.free hp
  refine ⟨fun a u e => ?_, w.nd, fun q hq => ?_⟩
  · by_cases h : a = p
    · subst h; rw [upd_same] at e ⊢; exact e
    · rw [upd_ne h] at e ⊢; exact w.ext a u e
  · obtain ⟨h1, u, h2, h3⟩ := w.cell q hq
    have ne : q.1 ≠ p := ne_of_none h2 hp
    exact ⟨by rw [upd_ne ne]; exact h1, u, by rw [upd_ne ne]; exact h2, h3.mono (Ext.new hi)⟩
/-- something that the view does not know is laid -/
theorem Own.hid {Hi : Hp} {M : Cells} {H : Hp} {p : Addr} {o : HO} (w : Own Hi M H) (hp : H p = none) : Own Hi M (upd H p o) := by
  refine ⟨fun a u e => ?_, w.nd, fun q hq => ?_⟩
  · rw [upd_ne (ne_of_none (w.ext a u e) hp)]; exact w.ext a u e
  · obtain ⟨h1, u, h2, h3⟩ := w.cell q hq
    exact ⟨h1, u, by rw [upd_ne (ne_of_none h2 hp)]; exact h2, h3⟩
theorem Own.fresh {Hi : Hp} {M : Cells} {H : Hp} {p : Addr} (w : Own Hi M H) (hp : H p = none) : p ∉ M.map (·.1) := fun h => by
  obtain ⟨q, hq, e⟩ := List.mem_map.mp h
  obtain ⟨_, u, h2, _⟩ := w.cell q hq
  rw [e, hp] at h2
  cases h2
/-- a cell is laid -/
theorem Own.laidM {Hi : Hp} {M : Cells} {H : Hp} {p : Addr} {o : HO} {m : MO} (w : Own Hi M H) (hp : H p = none) (ho : CellOk Hi m o) : Own Hi ((p, m) :: M) (upd H p o) := by
  have w2 := w.hid (o := o) hp
  refine ⟨w2.ext, List.nodup_cons.mpr ⟨w.fresh hp, w.nd⟩, fun q hq => ?_⟩
  rcases List.mem_cons.mp hq with rfl | hq
  · exact ⟨w.ext.free hp, o, upd_same, ho⟩
  · exact w2.cell q hq
theorem set_fst (M : Cells) (i : Nat) {a : Addr} {m m' : MO} (e : M[i]? = some (a, m)) : (M.set i (a, m')).map (·.1) = M.map (·.1) := by
  induction M generalizing i with
  | nil => simp at e
  | cons q M ih =>
    cases i with
    | zero => simp at e; subst e; rfl
    | succ i =>
      have e' : M[i]? = some (a, m) := by simpa using e
      rw [List.set_cons_succ, List.map_cons, List.map_cons, ih i e']
theorem mem_set_ne {M : Cells} {i : Nat} {a : Addr} {m m' : MO} (nd : (M.map (·.1)).Nodup) (e : M[i]? = some (a, m)) {q : Addr × MO} (h : q ∈ M.set i (a, m')) : q = (a, m') ∨ (q ∈ M ∧ q.1 ≠ a) := by
  induction M generalizing i with
  | nil => simp at e
  | cons r M ih =>
    have nd' := List.nodup_cons.mp nd
    cases i with
    | zero =>
      simp at e; subst e
      simp only [List.set_cons_zero, List.mem_cons] at h
      rcases h with h | h
      · exact .inl h
      · exact .inr ⟨List.mem_cons_of_mem _ h, fun z => nd'.1 (List.mem_map.mpr ⟨q, h, z⟩)⟩
    | succ i =>
      simp at e
      simp only [List.set_cons_succ, List.mem_cons] at h
      rcases h with h | h
      · refine .inr ⟨by rw [h]; exact List.mem_cons_self, fun z => nd'.1 ?_⟩
        exact List.mem_map.mpr ⟨(a, m), List.mem_of_getElem? e, by rw [← h]; exact z.symm⟩
      · rcases ih nd'.2 e h with h | ⟨h, z⟩
        · exact .inl h
        · exact .inr ⟨List.mem_cons_of_mem _ h, z⟩
/-- a cell is written -/
theorem Own.write {Hi : Hp} {M : Cells} {H : Hp} {i : Nat} {a : Addr} {m m' : MO} {o : HO} (w : Own Hi M H) (e : M[i]? = some (a, m)) (ho : CellOk Hi m' o) : Own Hi (M.set i (a, m')) (upd H a o) := by
  obtain ⟨hi, _⟩ := w.at e
  refine ⟨fun b u q => ?_, by rw [set_fst M i e]; exact w.nd, fun q hq => ?_⟩
  · rw [upd_ne (ne_of_none q hi)]; exact w.ext b u q
  · rcases mem_set_ne w.nd e hq with rfl | ⟨hq, ne⟩
    · exact ⟨hi, o, upd_same, ho⟩
    · obtain ⟨h1, u, h2, h3⟩ := w.cell q hq
      exact ⟨h1, u, by rw [upd_ne ne]; exact h2, h3⟩
/-- some cells alone, in another order -/
theorem Own.sub {Hi : Hp} {M M' : Cells} {H : Hp} (w : Own Hi M H) (nd : (M'.map (·.1)).Nodup) (h : ∀ q ∈ M', q ∈ M) : Own Hi M' H := ⟨w.ext, nd, fun q hq => w.cell q (h q hq)⟩
theorem Own.mono {Hi : Hp} {M : Cells} {H : Hp} (w : Own Hi M H) {Hi' : Hp} (e : Ext Hi Hi') (e' : Ext Hi' H) (hn : ∀ q ∈ M, Hi' q.1 = none) : Own Hi' M H :=
  ⟨e', w.nd, fun q hq => let ⟨_, u, h2, h3⟩ := w.cell q hq; ⟨hn q hq, u, h2, h3.mono e⟩⟩

abbrev Loc := List (Option D)
/-- the names' values -/
def LocOk (Hi : Hp) (ds : Loc) (σ : St) : Prop := ds.length = σ.length ∧ ∀ (i : Nat) (d : D), ds[i]? = some (some d) → ∃ v, σ[i]? = some (some v) ∧ Rep Hi d v
theorem LocOk.mono {H H' : Hp} {ds : Loc} {σ : St} (h : LocOk H ds σ) (e : Ext H H') : LocOk H' ds σ := ⟨h.1, fun i d hd => let ⟨v, h1, h2⟩ := h.2 i d hd; ⟨v, h1, h2.mono e⟩⟩
theorem LocOk.set {H : Hp} {ds : Loc} {σ : St} {d : D} {v : V} (h : LocOk H ds σ) (r : Rep H d v) (i : Nat) : LocOk H (ds.set i (some d)) (σ.set i (some v)) := by
  refine ⟨by simp [h.1], fun j e he => ?_⟩
  by_cases hj : j = i
  · subst hj
    by_cases hl : j < ds.length
    · rw [List.getElem?_set_self hl] at he
      cases he
      exact ⟨v, List.getElem?_set_self (h.1 ▸ hl), r⟩
    · rw [List.getElem?_eq_none (by simpa using hl)] at he
      cases he
  · rw [List.getElem?_set_ne (Ne.symm hj)] at he ⊢
    exact h.2 j e he
theorem LocOk.unset {H : Hp} {ds : Loc} {σ : St} (h : LocOk H ds σ) (i : Nat) : LocOk H (ds.set i none) (σ.set i none) := by
  refine ⟨by simp [h.1], fun j e he => ?_⟩
  by_cases hj : j = i
  · subst hj
    by_cases hl : j < ds.length
    · rw [List.getElem?_set_self hl] at he
      cases he
    · rw [List.getElem?_eq_none (by simpa using hl)] at he
      cases he
  · rw [List.getElem?_set_ne (Ne.symm hj)] at he ⊢
    exact h.2 j e he
end DL

set_option Elab.async false
set_option linter.all false
set_option maxRecDepth 100000
set_option maxHeartbeats 4000000
namespace DL
open PySem PySem.Spec L2

/-! ### readings over data -/
abbrev XQ := D → Cells → Prop
abbrev XE := Loc → Cells → XQ → Prop
abbrev XT := Loc → Cells → (Bool → Cells → Prop) → Prop
abbrev XA := Loc → Cells → (List D → Cells → Prop) → Prop
structure XEnds where
  nx : Loc → Cells → Prop
  rt : XQ
  bk : Loc → Cells → Prop := fun _ _ => False
  ct : Loc → Cells → Prop := fun _ _ => False
abbrev XS := XEnds → Loc → Cells → Prop
abbrev XG := D → Loc → Cells → (Loc → Cells → Prop) → Prop
abbrev XGs := List D → Loc → Cells → (Loc → Cells → Prop) → Prop

def SimE (te : TE) (t : XE) : Prop := ∀ (σ : L2.St) (H Hi : Hp) (ds : Loc) (M N : Cells) (Q : XQ) (R : VK), LocOk Hi ds σ → Own Hi (M ++ N) H → t ds M Q →
  (∀ v H' Hi' d M', Ext Hi Hi' → Own Hi' (M' ++ N) H' → Rep Hi' d v → Q d M' → R v H') → te σ H R
def SimT (te : TT) (t : XT) : Prop := ∀ (σ : L2.St) (H Hi : Hp) (ds : Loc) (M N : Cells) (Q : Bool → Cells → Prop) (R : Bool → Hp → Prop), LocOk Hi ds σ → Own Hi (M ++ N) H → t ds M Q →
  (∀ b H' Hi' M', Ext Hi Hi' → Own Hi' (M' ++ N) H' → Q b M' → R b H') → te σ H R
def SimA (te : TA) (t : XA) : Prop := ∀ (σ : L2.St) (H Hi : Hp) (ds : Loc) (M N : Cells) (Q : List D → Cells → Prop) (R : List V → Hp → Prop), LocOk Hi ds σ → Own Hi (M ++ N) H → t ds M Q →
  (∀ vs H' Hi' es M', Ext Hi Hi' → Own Hi' (M' ++ N) H' → RepL Hi' es vs → Q es M' → R vs H') → te σ H R
structure EndsOk (N : Cells) (Hi : Hp) (D : XEnds) (E : Ends) : Prop where
  nx : ∀ σ' H' Hi' ds' M', Ext Hi Hi' → LocOk Hi' ds' σ' → Own Hi' (M' ++ N) H' → D.nx ds' M' → E.nx σ' H'
  rt : ∀ v H' Hi' d M', Ext Hi Hi' → Own Hi' (M' ++ N) H' → Rep Hi' d v → D.rt d M' → E.rt v H'
  bk : ∀ σ' H' Hi' ds' M', Ext Hi Hi' → LocOk Hi' ds' σ' → Own Hi' (M' ++ N) H' → D.bk ds' M' → E.bk σ' H'
  ct : ∀ σ' H' Hi' ds' M', Ext Hi Hi' → LocOk Hi' ds' σ' → Own Hi' (M' ++ N) H' → D.ct ds' M' → E.ct σ' H'
theorem EndsOk.mono {N : Cells} {Hi Hi' : Hp} {D : XEnds} {E : Ends} (h : EndsOk N Hi D E) (e : Ext Hi Hi') : EndsOk N Hi' D E :=
  ⟨fun σ' H' Hi2 ds' M' x => h.nx σ' H' Hi2 ds' M' (e.trans x), fun v H' Hi2 d M' x => h.rt v H' Hi2 d M' (e.trans x), fun σ' H' Hi2 ds' M' x => h.bk σ' H' Hi2 ds' M' (e.trans x), fun σ' H' Hi2 ds' M' x => h.ct σ' H' Hi2 ds' M' (e.trans x)⟩
def SimS (ts : TS) (t : XS) : Prop := ∀ (σ : L2.St) (H Hi : Hp) (ds : Loc) (M N : Cells) (D : XEnds) (E : Ends), LocOk Hi ds σ → Own Hi (M ++ N) H → t D ds M → EndsOk N Hi D E → ts E σ H
def SimG (tg : TG) (g : XG) : Prop := ∀ (v : V) (d : D) (σ : L2.St) (H Hi : Hp) (ds : Loc) (M N : Cells) (Q : Loc → Cells → Prop) (R : L2.St → Hp → Prop), Rep Hi d v → LocOk Hi ds σ → Own Hi (M ++ N) H → g d ds M Q →
  (∀ σ' H' Hi' ds' M', Ext Hi Hi' → LocOk Hi' ds' σ' → Own Hi' (M' ++ N) H' → Q ds' M' → R σ' H') → tg v σ H R
def SimGs (tg : TGs) (g : XGs) : Prop := ∀ (vs : List V) (es : List D) (σ : L2.St) (H Hi : Hp) (ds : Loc) (M N : Cells) (Q : Loc → Cells → Prop) (R : L2.St → Hp → Prop), RepL Hi es vs → LocOk Hi ds σ → Own Hi (M ++ N) H → g es ds M Q →
  (∀ σ' H' Hi' ds' M', Ext Hi Hi' → LocOk Hi' ds' σ' → Own Hi' (M' ++ N) H' → Q ds' M' → R σ' H') → tg vs σ H R

structure DE (X : Cx) (e : Expr) (t : XE) : Prop where
  ex : ∃ te, PE X e te ∧ SimE te t
structure DT (X : Cx) (e : Expr) (t : XT) : Prop where
  ex : ∃ te, PT X e te ∧ SimT te t
structure DW (X : Cx) (e : Expr) (t : XT) : Prop where
  ex : ∃ te, PW X e te ∧ SimT te t
structure DA (X : Cx) (es : List Expr) (t : XA) : Prop where
  ex : ∃ te, PA X es te ∧ SimA te t
structure DS (X : Cx) (s : Stmt) (t : XS) : Prop where
  ex : ∃ te, PS X s te ∧ SimS te t
structure DSs (X : Cx) (s : List Stmt) (t : XS) : Prop where
  ex : ∃ te, PSs X s te ∧ SimS te t
structure DG (X : Cx) (e : Expr) (t : XG) : Prop where
  ex : ∃ te, PG X e te ∧ SimG te t
structure DGs (X : Cx) (e : List Expr) (t : XGs) : Prop where
  ex : ∃ te, PGs X e te ∧ SimGs te t

section
variable {X : Cx} {e a b : Expr} {ta tb : XE} {pos : Pos}
/-! ### names, constants -/
def xVar (i : Nat) : XE := fun ds M Q => match ds[i]? with
  | some (some d) => Q d M
  | _ => False
theorem de_var {i : Nat} {x : Str} (hN : X.N[i]? = some x) (hv : Vis X.env.scope x) (hd : (x == ("__debug__" : Str)) = false) (hcd : (x == ("__classdict__" : Str)) = false) : DE X (.Name x pos) (xVar i) :=
  ⟨tVar i, pe_var hN hv hd hcd, fun σ H Hi ds M N Q R hl w h k => by
    unfold xVar at h
    split at h
    · rename_i d hd'
      obtain ⟨v, h1, h2⟩ := hl.2 i d hd'
      exact ⟨v, h1, k v H Hi d M (Ext.refl _) w h2 h⟩
    · exact h.elim⟩
theorem vv (i : Nat) {x : Str} {pos : Pos} (hN : X.N[i]? = some x := by rfl) (hv : Vis X.env.scope x := by first | exact Or.inl rfl | exact Or.inr (Or.inl rfl) | exact Or.inr (Or.inr rfl)) (hd : (x == ("__debug__" : Str)) = false := by decide)
    (hcd : (x == ("__classdict__" : Str)) = false := by decide) : DE X (.Name x pos) (xVar i) := de_var hN hv hd hcd
/-- a written value -/
def xC (d : D) : XE := fun _ M Q => Q d M
theorem sim_c {v : V} {d : D} (h : ∀ Hi, Rep Hi d v) : SimE (tC v) (xC d) := fun σ H Hi ds M N Q R hl w q k => k v H Hi d M (Ext.refl _) w (h Hi) q
theorem de_int {i : Int} {j pos} : DE X (.Constant (.int i) j pos) (xC (.int i)) := ⟨_, pe_int, sim_c fun _ => rfl⟩
theorem de_bl {b : Bool} {j pos} : DE X (.Constant (.bool b) j pos) (xC (.bl b)) := ⟨_, pe_bl, sim_c fun _ => rfl⟩
theorem de_non {j pos} : DE X (.Constant .none j pos) (xC .non) := ⟨_, pe_non, sim_c fun _ => rfl⟩
theorem de_str {x : Str} {j pos} : DE X (.Constant (.str x) j pos) (xC (.str x)) := ⟨_, pe_str, sim_c fun _ => rfl⟩
theorem de_glob {x : Str} {v : V} {d : D} {u : Value} (hg : Gl X x) (hm : X.mg x = some u) (r : RelV v u) (h : ∀ Hi, Rep Hi d v) (hd : (x == ("__debug__" : Str)) = false := by decide) : DE X (.Name x pos) (xC d) := ⟨_, pe_glob hg hm r hd, sim_c h⟩
theorem de_globI {x : Str} {i : Int} (hm : ∃ t, X.mg x = some (.int i t)) (hg : Gl X x := by rfl) (hd : (x == ("__debug__" : Str)) = false := by decide) : DE X (.Name x pos) (xC (.int i)) := by
  obtain ⟨t, hm⟩ := hm
  exact ⟨_, pe_glob (v := .int i) hg hm ⟨t, rfl⟩ hd, sim_c fun _ => rfl⟩
theorem de_globR {x : Str} {a : Addr} (hm : X.mg x = some (.ref a)) (hg : Gl X x := by rfl) (hd : (x == ("__debug__" : Str)) = false := by decide) : DE X (.Name x pos) (xC (.ref a)) := ⟨_, pe_glob (v := .ref a) hg hm rfl hd, sim_c fun _ => rfl⟩
/-- a built-in class as a value -/
theorem de_bty {x : Str} {n : String} (hm : X.mg x = none) (hv : bootBuiltins x = some (.type n)) (hg : Gl X x := by rfl) (hn : x ≠ "__name__" := by decide) (hd : (x == ("__debug__" : Str)) = false := by decide) : DE X (.Name x pos) (xC (.ty n)) := ⟨_, pe_bltn (v := .ty n) hg hm hv rfl hn hd, sim_c fun _ => rfl⟩

/-! ### operators by values -/
abbrev RD := D → D → Cells → XQ → Prop
/-- the operation r of the values does what rd says of the data -/
def SimR (r : R2) (rd : RD) : Prop := ∀ (x y : V) (d e : D) (H Hi : Hp) (M N : Cells) (Q : XQ) (R : VK), Rep Hi d x → Rep Hi e y → Own Hi (M ++ N) H → rd d e M Q →
  (∀ v H' Hi' d M', Ext Hi Hi' → Own Hi' (M' ++ N) H' → Rep Hi' d v → Q d M' → R v H') → r x y H R
def xOp (rd : RD) (ta tb : XE) : XE := fun ds M Q => ta ds M fun d M1 => tb ds M1 fun e M2 => rd d e M2 Q
theorem sim_op {r : R2} {rd : RD} {pa pb : TE} (hr : SimR r rd) (ha : SimE pa ta) (hb : SimE pb tb) : SimE (tOp r pa pb) (xOp rd ta tb) := fun σ H Hi ds M N Q R hl w h k =>
  ha σ H Hi ds M N _ _ hl w h fun v1 H1 Hi1 d1 M1 e1 w1 r1 q1 => hb σ H1 Hi1 ds M1 N _ _ (hl.mono e1) w1 q1 fun v2 H2 Hi2 d2 M2 e2 w2 r2 q2 =>
    hr v1 v2 d1 d2 H2 Hi2 M2 N Q R (r1.mono e2) r2 w2 q2 fun v3 H3 Hi3 d3 M3 e3 => k v3 H3 Hi3 d3 M3 ((e1.trans e2).trans e3)
theorem de_op {op : Operator} {r : R2} {rd : RD} (ho : OpR X (binaryOp op) r) (hr : SimR r rd) (ha : DE X a ta) (hb : DE X b tb) : DE X (.BinOp a op b pos) (xOp rd ta tb) := by
  obtain ⟨pa, ha1, ha2⟩ := ha.ex
  obtain ⟨pb, hb1, hb2⟩ := hb.ex
  exact ⟨_, pe_op ho ha1 hb1, sim_op hr ha2 hb2⟩
theorem de_cmp {op : CmpOp} {r : R2} {rd : RD} (ho : OpR X (compareOp op) r) (hr : SimR r rd) (ha : DE X a ta) (hb : DE X b tb) (hm : behindInMarks op b = false := by first | exact nomark _ | rfl) : DE X (.Compare a [op] [b] pos) (xOp rd ta tb) := by
  obtain ⟨pa, ha1, ha2⟩ := ha.ex
  obtain ⟨pb, hb1, hb2⟩ := hb.ex
  exact ⟨_, pe_cmpR ho ha1 hb1 hm, sim_op hr ha2 hb2⟩
/-- a test that is a truth value -/
def blK (k : Bool → Cells → Prop) : XQ := fun d M => match d with
  | .bl b => k b M
  | _ => False
def xB (t : XE) : XT := fun ds M Q => t ds M (blK Q)
theorem rep_bl {Hi : Hp} {d : D} {v : V} {k : Bool → Cells → Prop} {M : Cells} (r : Rep Hi d v) (h : blK k d M) : ∃ b, v = .bl b ∧ k b M := by
  cases d <;> first | exact h.elim | (exact ⟨_, r, h⟩)
theorem sim_B {te : TE} {t : XE} (h : SimE te t) : SimT (tTest te) (xB t) := fun σ H Hi ds M N Q R hl w q k =>
  h σ H Hi ds M N _ _ hl w q fun v H' Hi' d M' e w' r q' => by
    obtain ⟨b, rfl, q2⟩ := rep_bl r q'
    exact ⟨b, rfl, k b H' Hi' M' e w' q2⟩
theorem dt_cmp {op : CmpOp} {r : R2} {rd : RD} (ho : OpR X (compareOp op) r) (hr : SimR r rd) (ha : DE X a ta) (hb : DE X b tb) (hm : behindInMarks op b = false := by first | exact nomark _ | rfl) : DT X (.Compare a [op] [b] pos) (xB (xOp rd ta tb)) := by
  obtain ⟨pa, ha1, ha2⟩ := ha.ex
  obtain ⟨pb, hb1, hb2⟩ := hb.ex
  exact ⟨_, pt_cmpR ho ha1 hb1 hm, sim_B (sim_op hr ha2 hb2)⟩
/-- any expression's truth -/
def truK (d : D) (M : Cells) (k : Bool → Cells → Prop) : Prop := match d with
  | .non => k false M
  | .bl b => k b M
  | .int i => k (i != 0) M
  | .str s => s.length ≤ 16777216 ∧ k ((s.length : Int) != 0) M
  | .lst ds => k (!ds.isEmpty) M
  | .scr ds => k (!ds.isEmpty) M
  | .tup ds => k (!ds.isEmpty) M
  | .tupx ds => k (!ds.isEmpty) M
  | .ref a => (∃ (i : Nat) (ds : List D), M[i]? = some (a, MO.lst ds) ∧ k (!ds.isEmpty) M) ∨ (∃ (i : Nat) (ks : List Key) (ds : List D), M[i]? = some (a, MO.dK ks ds) ∧ k (!ks.isEmpty) M)
  | _ => False
def xTru (t : XE) : XT := fun ds M Q => t ds M fun d M1 => truK d M1 Q
theorem isEmpty_eq {α β : Type} {l : List α} {m : List β} (h : l.length = m.length) : (!l.isEmpty) = !m.isEmpty := by
  cases l <;> cases m <;> simp_all
theorem Own.getL {Hi : Hp} {M N : Cells} {H : Hp} (w : Own Hi (M ++ N) H) {i : Nat} {a : Addr} {m : MO} (e : M[i]? = some (a, m)) : Hi a = none ∧ ∃ o, H a = some o ∧ CellOk Hi m o :=
  w.cell (a, m) (List.mem_append_left _ (List.mem_of_getElem? e))
theorem zip_isEmpty {α β : Type} : ∀ {l : List α} {m : List β}, l.length = m.length → (!(l.zip m).isEmpty) = !l.isEmpty
  | [], [], _ => rfl
  | _ :: _, _ :: _, _ => rfl
theorem tru_sim {K : PySem.W.Frag} {Hi : Hp} {d : D} {v : V} {M N : Cells} {H : Hp} {k : Bool → Cells → Prop} (r : Rep Hi d v) (w : Own Hi (M ++ N) H) (h : truK d M k) : ∃ b, TruV K v H b ∧ k b M := by
  cases d with
  | non => cases (show v = .non from r); exact ⟨false, rfl, h⟩
  | bl b => cases (show v = .bl b from r); exact ⟨b, rfl, h⟩
  | int i => cases (show v = .int i from r); exact ⟨_, rfl, h⟩
  | str s => cases (show v = .str s from r); exact ⟨_, ⟨by rw [sizeLine_eq]; exact h.1, rfl⟩, h.2⟩
  | lst ds =>
    obtain ⟨a, vs, rfl, h1, h2⟩ := r
    exact ⟨_, .inl ⟨vs, SqL.of (w.ext _ _ h1), rfl⟩, by rw [isEmpty_eq h2.length.symm]; exact h⟩
  | scr ds =>
    obtain ⟨a, vs, rfl, h1, h2⟩ := r
    exact ⟨_, .inl ⟨vs, .inl (w.ext.rd h1), rfl⟩, by rw [isEmpty_eq h2.length.symm]; exact h⟩
  | tup ds =>
    obtain ⟨a, vs, rfl, h1, h2⟩ := r
    exact ⟨_, .inr (.inl ⟨vs, SqT.of (w.ext _ _ h1), rfl⟩), by rw [isEmpty_eq h2.length.symm]; exact h⟩
  | tupx ds =>
    obtain ⟨a, vs, o, rfl, h1, _, h2⟩ := r
    exact ⟨_, .inr (.inl ⟨vs, .inl (.inr ⟨o, w.ext _ _ h1⟩), rfl⟩), by rw [isEmpty_eq h2.length.symm]; exact h⟩
  | ref a =>
    cases (show v = .ref a from r)
    rcases h with ⟨i, ds, e, h⟩ | ⟨i, ks, ds, e, h⟩
    · obtain ⟨_, o, ho, vs, rfl, rv⟩ := w.getL e
      exact ⟨_, .inl ⟨vs, SqL.of ho, rfl⟩, by rw [isEmpty_eq rv.length.symm]; exact h⟩
    · obtain ⟨_, o, ho, vs, rfl, hl, rv⟩ := w.getL e
      exact ⟨_, .inr (.inr ⟨_, ho, rfl⟩), by rw [zip_isEmpty (hl.trans rv.length)]; exact h⟩
  | ty _ => exact h.elim
  | obj _ _ _ => exact h.elim
theorem dt_tru (ha : DE X a ta) (he : ∀ whole, isTrue a X.env whole = (do let v ← whole; standAt a.pos; holding [v] (truthy v)) := by intro _; rfl) : DT X a (xTru ta) := by
  obtain ⟨pa, ha1, ha2⟩ := ha.ex
  refine ⟨_, pt_truth ha1 he, fun σ H Hi ds M N Q R hl w q k => ?_⟩
  refine ha2 σ H Hi ds M N _ _ hl w q fun v H' Hi' d M' e w' r q' => ?_
  obtain ⟨b, h1, h2⟩ := tru_sim (K := X.K) r w' q'
  exact ⟨b, h1, k b H' Hi' M' e w' h2⟩
/-! ### and, or, not -/
variable {t u : XT} {rest : List Expr}
def xAnd (t u : XT) : XT := fun ds M Q => t ds M fun c M1 => if c = true then u ds M1 Q else Q false M1
def xOr (t u : XT) : XT := fun ds M Q => t ds M fun c M1 => if c = true then Q true M1 else u ds M1 Q
def xNot (t : XT) : XT := fun ds M Q => t ds M fun c M1 => Q (!c) M1
theorem DW.dt (h : DW X e t) : DT X e t := let ⟨te, h1, h2⟩ := h.ex; ⟨te, h1.pt, h2⟩
theorem dw_and1 (ha : DT X a t) : DW X (.BoolOp .And [a] pos) t := let ⟨_, h1, h2⟩ := ha.ex; ⟨_, pw_and1 h1, h2⟩
theorem dw_or1 (ha : DT X a t) : DW X (.BoolOp .Or [a] pos) t := let ⟨_, h1, h2⟩ := ha.ex; ⟨_, pw_or1 h1, h2⟩
theorem dw_and (ha : DT X a t) (hb : DW X (.BoolOp .And (b :: rest) pos) u) : DW X (.BoolOp .And (a :: b :: rest) pos) (xAnd t u) := by
  obtain ⟨pa, ha1, ha2⟩ := ha.ex
  obtain ⟨pb, hb1, hb2⟩ := hb.ex
  refine ⟨_, pw_and ha1 hb1, fun σ H Hi ds M N Q R hl w q k => ?_⟩
  refine ha2 σ H Hi ds M N _ _ hl w q fun c H1 Hi1 M1 e1 w1 q1 => ?_
  cases c with
  | true => exact hb2 σ H1 Hi1 ds M1 N _ _ (hl.mono e1) w1 q1 fun c2 H2 Hi2 M2 e2 => k c2 H2 Hi2 M2 (e1.trans e2)
  | false => exact k false H1 Hi1 M1 e1 w1 q1
theorem dw_or (ha : DT X a t) (hb : DW X (.BoolOp .Or (b :: rest) pos) u) : DW X (.BoolOp .Or (a :: b :: rest) pos) (xOr t u) := by
  obtain ⟨pa, ha1, ha2⟩ := ha.ex
  obtain ⟨pb, hb1, hb2⟩ := hb.ex
  refine ⟨_, pw_or ha1 hb1, fun σ H Hi ds M N Q R hl w q k => ?_⟩
  refine ha2 σ H Hi ds M N _ _ hl w q fun c H1 Hi1 M1 e1 w1 q1 => ?_
  cases c with
  | false => exact hb2 σ H1 Hi1 ds M1 N _ _ (hl.mono e1) w1 q1 fun c2 H2 Hi2 M2 e2 => k c2 H2 Hi2 M2 (e1.trans e2)
  | true => exact k true H1 Hi1 M1 e1 w1 q1
theorem dt_not (ha : DT X a t) : DT X (.UnaryOp .Not a pos) (xNot t) := by
  obtain ⟨pa, ha1, ha2⟩ := ha.ex
  exact ⟨_, pt_not ha1, fun σ H Hi ds M N Q R hl w q k => ha2 σ H Hi ds M N _ _ hl w q fun c H1 Hi1 M1 e1 w1 q1 => k (!c) H1 Hi1 M1 e1 w1 q1⟩
/-- .. as values, all but the last truth values -/
def xAndV (ta tb : XE) : XE := fun ds M Q => ta ds M (blK fun c M1 => if c = true then tb ds M1 Q else Q (.bl false) M1)
def xOrV (ta tb : XE) : XE := fun ds M Q => ta ds M (blK fun c M1 => if c = true then Q (.bl true) M1 else tb ds M1 Q)
def xNotV (ta : XE) : XE := fun ds M Q => ta ds M (blK fun c M1 => Q (.bl (!c)) M1)
theorem de_one {op} (ha : DE X a ta) : DE X (.BoolOp op [a] pos) ta := let ⟨_, h1, h2⟩ := ha.ex; ⟨_, pe_one h1, h2⟩
theorem de_and (ha : DE X a ta) (hb : DE X (.BoolOp .And (b :: rest) pos) tb) : DE X (.BoolOp .And (a :: b :: rest) pos) (xAndV ta tb) := by
  obtain ⟨pa, ha1, ha2⟩ := ha.ex
  obtain ⟨pb, hb1, hb2⟩ := hb.ex
  refine ⟨_, pe_and ha1 hb1, fun σ H Hi ds M N Q R hl w q k => ?_⟩
  refine ha2 σ H Hi ds M N _ _ hl w q fun v H1 Hi1 d M1 e1 w1 r1 q1 => ?_
  obtain ⟨c, rfl, q2⟩ := rep_bl r1 q1
  refine ⟨c, rfl, ?_⟩
  cases c with
  | true => exact hb2 σ H1 Hi1 ds M1 N _ _ (hl.mono e1) w1 q2 fun c2 H2 Hi2 d2 M2 e2 => k c2 H2 Hi2 d2 M2 (e1.trans e2)
  | false => exact k (.bl false) H1 Hi1 (.bl false) M1 e1 w1 rfl q2
theorem de_or (ha : DE X a ta) (hb : DE X (.BoolOp .Or (b :: rest) pos) tb) : DE X (.BoolOp .Or (a :: b :: rest) pos) (xOrV ta tb) := by
  obtain ⟨pa, ha1, ha2⟩ := ha.ex
  obtain ⟨pb, hb1, hb2⟩ := hb.ex
  refine ⟨_, pe_or ha1 hb1, fun σ H Hi ds M N Q R hl w q k => ?_⟩
  refine ha2 σ H Hi ds M N _ _ hl w q fun v H1 Hi1 d M1 e1 w1 r1 q1 => ?_
  obtain ⟨c, rfl, q2⟩ := rep_bl r1 q1
  refine ⟨c, rfl, ?_⟩
  cases c with
  | false => exact hb2 σ H1 Hi1 ds M1 N _ _ (hl.mono e1) w1 q2 fun c2 H2 Hi2 d2 M2 e2 => k c2 H2 Hi2 d2 M2 (e1.trans e2)
  | true => exact k (.bl true) H1 Hi1 (.bl true) M1 e1 w1 rfl q2
theorem de_not (ha : DE X a ta) : DE X (.UnaryOp .Not a pos) (xNotV ta) := by
  obtain ⟨pa, ha1, ha2⟩ := ha.ex
  refine ⟨_, pe_not ha1, fun σ H Hi ds M N Q R hl w q k => ha2 σ H Hi ds M N _ _ hl w q fun v H1 Hi1 d M1 e1 w1 r1 q1 => ?_⟩
  obtain ⟨c, rfl, q2⟩ := rep_bl r1 q1
  exact ⟨c, rfl, k _ H1 Hi1 (.bl (!c)) M1 e1 w1 rfl q2⟩
def xIf (t : XT) (ta tb : XE) : XE := fun ds M Q => t ds M fun c M1 => if c = true then ta ds M1 Q else tb ds M1 Q
theorem de_if {c : Expr} (hc : DT X c t) (ha : DE X a ta) (hb : DE X b tb) : DE X (.IfExp c a b pos) (xIf t ta tb) := by
  obtain ⟨pc, hc1, hc2⟩ := hc.ex
  obtain ⟨pa, ha1, ha2⟩ := ha.ex
  obtain ⟨pb, hb1, hb2⟩ := hb.ex
  refine ⟨_, pe_ifExp hc1 ha1 hb1, fun σ H Hi ds M N Q R hl w q k => ?_⟩
  refine hc2 σ H Hi ds M N _ _ hl w q fun c H1 Hi1 M1 e1 w1 q1 => ?_
  cases c with
  | true => exact ha2 σ H1 Hi1 ds M1 N _ _ (hl.mono e1) w1 q1 fun c2 H2 Hi2 d2 M2 e2 => k c2 H2 Hi2 d2 M2 (e1.trans e2)
  | false => exact hb2 σ H1 Hi1 ds M1 N _ _ (hl.mono e1) w1 q1 fun c2 H2 Hi2 d2 M2 e2 => k c2 H2 Hi2 d2 M2 (e1.trans e2)
/-! ### argument lists, displays -/
variable {es : List Expr} {tr : XA}
def xNil : XA := fun _ M Q => Q [] M
def xCons (ta : XE) (tr : XA) : XA := fun ds M Q => ta ds M fun d M1 => tr ds M1 fun es M2 => Q (d :: es) M2
theorem da_nil : DA X [] xNil := ⟨_, pa_nil, fun σ H Hi ds M N Q R hl w q k => k [] H Hi [] M (Ext.refl _) w rfl q⟩
theorem da_cons (ha : DE X e ta) (hr : DA X es tr) (hs : starEach (e :: es) X.env = (false, eval e X.env) :: starEach es X.env := by rfl) : DA X (e :: es) (xCons ta tr) := by
  obtain ⟨pa, ha1, ha2⟩ := ha.ex
  obtain ⟨pr, hr1, hr2⟩ := hr.ex
  refine ⟨_, pa_cons ha1 hr1 hs, fun σ H Hi ds M N Q R hl w q k => ?_⟩
  refine ha2 σ H Hi ds M N _ _ hl w q fun v H1 Hi1 d M1 e1 w1 r1 q1 => ?_
  exact hr2 σ H1 Hi1 ds M1 N _ _ (hl.mono e1) w1 q1 fun vs H2 Hi2 es M2 e2 w2 r2 => k (v :: vs) H2 Hi2 (d :: es) M2 (e1.trans e2) w2 (.cons (r1.mono e2) r2)
theorem le_line {n : Nat} (h : n ≤ 16777216) : n ≤ sizeLine := by rw [sizeLine_eq]; exact h
theorem of_line {n : Nat} (h : n ≤ sizeLine) : n ≤ 16777216 := by rw [sizeLine_eq] at h; exact h
def xTup (t : XA) : XE := fun ds M Q => t ds M fun es M1 => es.length ≤ 16777216 ∧ Q (.tup es) M1
/-- a list that will not change | one that may -/
def xLst (t : XA) : XE := fun ds M Q => t ds M fun es M1 => es.length ≤ 16777216 ∧ Q (.lst es) M1
def xLstM (t : XA) : XE := fun ds M Q => t ds M fun es M1 => es.length ≤ 16777216 ∧ ∀ a, Q (.ref a) ((a, .lst es) :: M1)
theorem de_tup {x1} (h : DA X es tr) : DE X (.Tuple es x1 pos) (xTup tr) := by
  obtain ⟨pr, hr1, hr2⟩ := h.ex
  refine ⟨_, pe_tup hr1, fun σ H Hi ds M N Q R hl w q k => ?_⟩
  refine hr2 σ H Hi ds M N _ _ hl w q fun vs H1 Hi1 es M1 e1 w1 r1 q1 => ⟨le_line (by rw [← r1.length]; exact q1.1), fun p hp => ?_⟩
  exact k _ _ (upd Hi1 p (.tup vs)) (.tup es) M1 (e1.trans (Ext.new (w1.ext.free hp))) (w1.laid hp) ⟨p, vs, rfl, upd_same, r1.mono (Ext.new (w1.ext.free hp))⟩ q1.2
theorem de_lst (h : DA X es tr) : DE X (.List es pos) (xLst tr) := by
  obtain ⟨pr, hr1, hr2⟩ := h.ex
  refine ⟨_, pe_lst hr1, fun σ H Hi ds M N Q R hl w q k => ?_⟩
  refine hr2 σ H Hi ds M N _ _ hl w q fun vs H1 Hi1 es M1 e1 w1 r1 q1 => ⟨le_line (by rw [← r1.length]; exact q1.1), fun p hp => ?_⟩
  exact k _ _ (upd Hi1 p (.lst vs)) (.lst es) M1 (e1.trans (Ext.new (w1.ext.free hp))) (w1.laid hp) ⟨p, vs, rfl, upd_same, r1.mono (Ext.new (w1.ext.free hp))⟩ q1.2
theorem de_lstM (h : DA X es tr) : DE X (.List es pos) (xLstM tr) := by
  obtain ⟨pr, hr1, hr2⟩ := h.ex
  refine ⟨_, pe_lst hr1, fun σ H Hi ds M N Q R hl w q k => ?_⟩
  refine hr2 σ H Hi ds M N _ _ hl w q fun vs H1 Hi1 es M1 e1 w1 r1 q1 => ⟨le_line (by rw [← r1.length]; exact q1.1), fun p hp => ?_⟩
  exact k _ _ Hi1 (.ref p) ((p, .lst es) :: M1) e1 (w1.laidM hp ⟨vs, rfl, r1⟩) rfl (q1.2 p)
end
end DL

set_option Elab.async false
set_option linter.all false
set_option maxRecDepth 100000
set_option maxHeartbeats 4000000
namespace DL
open PySem PySem.Spec L2

/-! ### cells taken out -/
def split : List Nat → Cells → Option (Cells × Cells)
  | [], M => some ([], M)
  | i :: is, M => match M[i]? with
    | some c => (split is (M.eraseIdx i)).map fun p => (c :: p.1, p.2)
    | none => none
theorem perm_erase : ∀ {M : Cells} {i : Nat} {c : Addr × MO}, M[i]? = some c → M.Perm (c :: M.eraseIdx i)
  | [], _, _, e => by simp at e
  | d :: M, 0, c, e => by simp at e; subst e; simp
  | d :: M, i + 1, c, e => by
    have e' : M[i]? = some c := by simpa using e
    rw [List.eraseIdx_cons_succ]
    exact ((perm_erase e').cons d).trans (List.Perm.swap c d _)
theorem split_perm : ∀ {is : List Nat} {M M0 F : Cells}, split is M = some (M0, F) → M.Perm (M0 ++ F)
  | [], M, M0, F, e => by
    simp only [split, Option.some.injEq, Prod.mk.injEq] at e
    obtain ⟨rfl, rfl⟩ := e
    exact List.Perm.refl _
  | i :: is, M, M0, F, e => by
    unfold split at e
    split at e
    · rename_i c hc
      cases hs : split is (M.eraseIdx i) with
      | none => rw [hs] at e; cases e
      | some p =>
        rw [hs] at e
        simp only [Option.map_some, Option.some.injEq, Prod.mk.injEq] at e
        obtain ⟨rfl, rfl⟩ := e
        exact (perm_erase hc).trans ((split_perm (M0 := p.1) (F := p.2) hs).cons c)
    · cases e
theorem Own.perm {Hi : Hp} {M M' : Cells} {H : Hp} (w : Own Hi M H) (p : M.Perm M') : Own Hi M' H := ⟨w.ext, (p.map (·.1)).nodup_iff.mp w.nd, fun q hq => w.cell q (p.mem_iff.mpr hq)⟩
theorem Own.permL {Hi : Hp} {M M' N : Cells} {H : Hp} (w : Own Hi (M ++ N) H) (p : M.Perm M') : Own Hi (M' ++ N) H := w.perm (p.append_right N)
theorem Own.splits {Hi : Hp} {M M0 F N : Cells} {H : Hp} {is : List Nat} (w : Own Hi (M ++ N) H) (e : split is M = some (M0, F)) : Own Hi (M0 ++ (F ++ N)) H := by
  rw [← List.append_assoc]
  exact w.permL (split_perm e)
theorem Own.drop {Hi : Hp} {M N : Cells} {H : Hp} (w : Own Hi (M ++ N) H) : Own Hi N H := ⟨w.ext, (List.nodup_append.mp (by simpa using w.nd)).2.1, fun q hq => w.cell q (List.mem_append_right _ hq)⟩
theorem Own.keep {Hi : Hp} {M0 F N : Cells} {H : Hp} (w : Own Hi (M0 ++ (F ++ N)) H) : Own Hi (M0 ++ N) H := by
  have w2 : Own Hi (F ++ (M0 ++ N)) H := w.perm (by
    rw [← List.append_assoc, ← List.append_assoc]
    exact List.perm_append_comm.append_right N)
  exact w2.drop
theorem Own.write' {Hi : Hp} {M N : Cells} {H : Hp} {i : Nat} {a : Addr} {m m' : MO} {o : HO} (w : Own Hi (M ++ N) H) (e : M[i]? = some (a, m)) (ho : CellOk Hi m' o) : Own Hi (M.set i (a, m') ++ N) (upd H a o) := by
  have hi : i < M.length := (List.getElem?_eq_some_iff.mp e).1
  have e2 : (M ++ N)[i]? = some (a, m) := by rw [List.getElem?_append_left hi]; exact e
  have w2 := w.write e2 ho
  rw [List.set_append_left i (a, m') hi] at w2
  exact w2
/-- a cell becomes unchanging -/
theorem Own.freezeHd {Hi : Hp} {a : Addr} {m : MO} {o : HO} {N : Cells} {H : Hp} (w : Own Hi ((a, m) :: N) H) (ho : H a = some o) : Own (upd Hi a o) N H ∧ Ext Hi (upd Hi a o) := by
  have hn := (w.cell (a, m) List.mem_cons_self).1
  have nd := List.nodup_cons.mp (show ((a, m).1 :: N.map (·.1)).Nodup from w.nd)
  refine ⟨⟨fun b u q => ?_, nd.2, fun q hq => ?_⟩, Ext.new hn⟩
  · by_cases h : b = a
    · subst h; rw [upd_same] at q; cases q; exact ho
    · rw [upd_ne h] at q; exact w.ext b u q
  · obtain ⟨h1, u, h2, h3⟩ := w.cell q (List.mem_cons_of_mem _ hq)
    have ne : q.1 ≠ a := fun z => nd.1 (z ▸ List.mem_map.mpr ⟨q, hq, rfl⟩)
    exact ⟨by rw [upd_ne ne]; exact h1, u, h2, h3.mono (Ext.new hn)⟩

/-! ### promises -/
abbrev XX := Value → List Str → List D → Cells → Prop
abbrev DSp := List D → Cells → XQ → XX → Prop
/-- an exception's own dict -/
def ExcAt (Hi : Hp) (H : Hp) (dx : Option Addr) (ns : List Str) (es : List D) : Prop := ∃ d vs, dx = some d ∧ H d = some (.xd (ns.zip vs)) ∧ ns.length = es.length ∧ RepL Hi es vs
def X0 : XX := fun _ _ _ _ => False
def lift (dsp : DSp) : Sp := fun vs H Q E => ∃ (Hi : Hp) (M N : Cells) (args : List D) (Qd : XQ) (Ed : XX), RepL Hi args vs ∧ Own Hi (M ++ N) H ∧ dsp args M Qd Ed ∧
  (∀ v H' Hi' d M', Ext Hi Hi' → Own Hi' (M' ++ N) H' → Rep Hi' d v → Qd d M' → Q v H') ∧
  (∀ cls dx H' Hi' ns es M', Ext Hi Hi' → Own Hi' (M' ++ N) H' → ExcAt Hi' H' dx ns es → Ed cls ns es M' → E cls dx H')
abbrev DFn (P : Program) (w : World) (K : PySem.W.Frag) (mg : Str → Option Value) (base : Heap) (k : Nat) (f : Addr) (fd : FuncData) (ps : List Str) (dsp : DSp) : Prop := FnOk P w K mg base (L2.CX P w) k f fd ps (lift dsp)
/-- what is handed back: of the cells those that are promised -/
def Rtn (Q : XQ) : XQ := fun d M => ∃ is M0 F, split is M = some (M0, F) ∧ Q d M0
def startD (N : List Str) (es : List D) : Loc := es.map some ++ List.replicate (N.length - es.length) none
theorem start_loc {Hi : Hp} {N : List Str} : ∀ {es : List D} {vs : List V}, RepL Hi es vs → LocOk Hi (startD N es) (L2.start N vs) := fun {es vs} r => by
  have hl := r.length
  refine ⟨by simp [startD, L2.start, hl], fun i d hd => ?_⟩
  unfold startD at hd
  by_cases h : i < es.length
  · rw [List.getElem?_append_left (by simpa using h), List.getElem?_map] at hd
    cases e : es[i]? with
    | none => rw [e] at hd; cases hd
    | some d' =>
      rw [e] at hd
      cases (Option.some.inj hd)
      obtain ⟨v, h1, h2⟩ := r.get e
      refine ⟨v, ?_, h2⟩
      unfold L2.start
      rw [List.getElem?_append_left (by simpa [← hl] using h), List.getElem?_map, h1]
      rfl
  · rw [List.getElem?_append_right (by simpa using h)] at hd
    have := List.mem_of_getElem? hd
    simp at this
section
variable {P : Program} {w : World} {K : PySem.W.Frag} {mg : Str → Option Value} {base : Heap} {x qual : Str} {params : Arguments} {body : List Stmt} {scope : Scope} {dvs : List V} {kws : List (Str × V)} {f : Addr} {fd : FuncData}
/-- THE RULE for a def that raises nothing -/
theorem dfn_ok {N ps : List Str} {k : Nat} {dsp : DSp} {t : XS} (F : FunD K x qual params body scope dvs kws f fd) (S : FnScope N ps scope) (len : ∀ es M Q E, dsp es M Q E → es.length = ps.length)
    (hb : ∀ (cdv : Value) (A : Around) (outer : List Env) (s : Shared) (H : Hp) (E : XK), Room k (A.deeper (PyProof.Rows.envOfC qual scope s.heap.objs.size f cdv)) → DSs (cxOf (L2.CX P w) P w K mg base N qual scope f cdv A outer s H E) body t)
    (rd : ∀ es M Q E, dsp es M Q E → t { nx := fun _ M => Rtn Q .non M, rt := Rtn Q } (startD N es) M) : DFn P w K mg base (k + 1) f fd ps dsp := by
  refine F.ok (CX := L2.CX P w) S (fun vs H Q E h => ?_) (fun cdv A outer s H vs Q E hr h => ?_)
  · obtain ⟨Hi, M, N', args, Qd, Ed, r, _, h, _⟩ := h
    rw [← r.length]
    exact len _ _ _ _ h
  · obtain ⟨Hi, M, N', args, Qd, Ed, r, ow, h, k1, _⟩ := h
    obtain ⟨te, h1, h2⟩ := (hb cdv A outer s H E hr).ex
    refine ⟨te, h1, h2 _ H Hi _ M N' _ _ (start_loc r) ow (rd _ _ _ _ h) ⟨fun σ' H' Hi' ds' M' e _ w' q => ?_, fun v H' Hi' d M' e w' r' q => ?_, fun _ _ _ _ _ _ _ _ q => q, fun _ _ _ _ _ _ _ _ q => q⟩⟩
    · obtain ⟨is, M0, F, hs, q⟩ := q
      exact k1 .non H' Hi' .non M0 e (w'.splits hs).keep rfl q
    · obtain ⟨is, M0, F, hs, q⟩ := q
      exact k1 v H' Hi' d M0 e (w'.splits hs).keep r' q
end
/-! ### calls -/
def CallAt (dsp : DSp) (es : List D) (M : Cells) (Q : XQ) : Prop := ∃ is M0 F, split is M = some (M0, F) ∧ dsp es M0 (fun d M' => Q d (M' ++ F)) X0
def xCall (dsp : DSp) (dd : List D) (t : XA) : XE := fun ds M Q => t ds M fun es M1 => CallAt dsp (es ++ dd) M1 Q
/-- a call of what touches none of our cells -/
def xCallP (dsp : DSp) (dd : List D) (t : XA) : XE := fun ds M Q => t ds M fun es M1 => dsp (es ++ dd) [] (fun d M' => Q d (M' ++ M1)) X0
theorem call_lift {dsp : DSp} {es : List D} {vs : List V} {M N : Cells} {H Hi : Hp} {Q : XQ} {R : VK} (r : RepL Hi es vs) (w : Own Hi (M ++ N) H) (h : CallAt dsp es M Q)
    (k : ∀ v H' Hi' d M', Ext Hi Hi' → Own Hi' (M' ++ N) H' → Rep Hi' d v → Q d M' → R v H') : lift dsp vs H R E0 := by
  obtain ⟨is, M0, F, hs, h⟩ := h
  refine ⟨Hi, M0, F ++ N, es, _, X0, r, w.splits hs, h, fun v H' Hi' d M' e w' r' q => ?_, fun _ _ _ _ _ _ _ _ _ _ q => q.elim⟩
  rw [← List.append_assoc] at w'
  exact k v H' Hi' d (M' ++ F) e w' r' q
theorem callP_at {dsp : DSp} {es : List D} {M : Cells} {Q : XQ} (h : dsp es [] (fun d M' => Q d (M' ++ M)) X0) : CallAt dsp es M Q := ⟨[], [], M, rfl, h⟩
section
variable {X : Cx} {k : Nat} {f C : Addr} {fd : FuncData} {ps : List Str} {dsp : DSp} {dd : List D} {dvs : List V} {dus : List Value} {x m : Str} {p pos apos : Pos} {e o : Expr} {es : List Expr} {ta : XE} {t : XA}
theorem sim_call {pt : TA} (ht : SimA pt t) (hd : ∀ Hi, RepL Hi dd dvs) : SimE (tCall (lift dsp) dvs E0 pt) (xCall dsp dd t) := fun σ H Hi ds M N Q R hl w q k =>
  ht σ H Hi ds M N _ _ hl w q fun vs H1 Hi1 es1 M1 e1 w1 r1 q1 => call_lift (r1.append (hd _)) w1 q1 fun v H2 Hi2 d M2 e2 => k v H2 Hi2 d M2 (e1.trans e2)
theorem SimE.weak {te : TE} {t u : XE} (h : SimE te t) (hu : ∀ ds M Q, u ds M Q → t ds M Q) : SimE te u := fun σ H Hi ds M N Q R hl w q k => h σ H Hi ds M N Q R hl w (hu _ _ _ q) k
def MonA (t : XA) : Prop := ∀ ds M (Q Q' : List D → Cells → Prop), (∀ es M', Q es M' → Q' es M') → t ds M Q → t ds M Q'
theorem sim_callP {pt : TA} (ht : SimA pt t) (hd : ∀ Hi, RepL Hi dd dvs) : SimE (tCall (lift dsp) dvs E0 pt) (xCallP dsp dd t) := fun σ H Hi ds M N Q R hl w q k =>
  ht σ H Hi ds M N _ _ hl w q fun vs H1 Hi1 es1 M1 e1 w1 r1 q1 => call_lift (r1.append (hd _)) w1 (callP_at q1) fun v H2 Hi2 d M2 e2 => k v H2 Hi2 d M2 (e1.trans e2)
theorem de_call (F : DFn X.prog X.w X.K X.mg X.base k f fd ps dsp) (hr : Room k X.A) (hm : X.mg x = some (.ref f)) (hk : PySem.W.keepIn X.K (.ref f) = true) (hb : Binds X.K fd ps dus) (hdu : Vals dvs dus) (hd : ∀ Hi, RepL Hi dd dvs) (ha : DA X (e :: es) t)
    (hg : Gl X x := by rfl) (hdb : (x == ("__debug__" : Str)) = false := by decide) (he : starEach (e :: es) X.env = (false, eval e X.env) :: starEach es X.env := by rfl) (hpl : (backTo pos (starEach es X.env)).any (·.1) = false := by rfl) :
    DE X (.Call (.Name x p) (e :: es) [] pos) (xCall dsp dd t) := by
  obtain ⟨pt, h1, h2⟩ := ha.ex
  exact ⟨_, pe_call F hr hg hm hk hb hdu passL h1 hdb he hpl, sim_call h2 hd⟩
theorem de_callP (F : DFn X.prog X.w X.K X.mg X.base k f fd ps dsp) (hr : Room k X.A) (hm : X.mg x = some (.ref f)) (hk : PySem.W.keepIn X.K (.ref f) = true) (hb : Binds X.K fd ps dus) (hdu : Vals dvs dus) (hd : ∀ Hi, RepL Hi dd dvs) (ha : DA X (e :: es) t)
    (hg : Gl X x := by rfl) (hdb : (x == ("__debug__" : Str)) = false := by decide) (he : starEach (e :: es) X.env = (false, eval e X.env) :: starEach es X.env := by rfl) (hpl : (backTo pos (starEach es X.env)).any (·.1) = false := by rfl) :
    DE X (.Call (.Name x p) (e :: es) [] pos) (xCallP dsp dd t) := by
  obtain ⟨pt, h1, h2⟩ := ha.ex
  exact ⟨_, pe_call F hr hg hm hk hb hdu passL h1 hdb he hpl, sim_callP h2 hd⟩
/-- f(e, .., k = v, ..), every parameter given -/
def xCallK (dsp : DSp) (g : List D → List D → List D) (t u : XA) : XE := fun ds M Q => t ds M fun es M1 => u ds M1 fun ws M2 => dsp (g es ws) [] (fun d M' => Q d (M' ++ M2)) X0
structure DK (X : Cx) (kws : List Keyword) (t : XA) : Prop where
  ex : ∃ te, PK X kws te ∧ SimA te t
theorem dk_nil : DK X [] xNil := ⟨_, pk_nil, fun σ H Hi ds M N Q R hl w q k => k [] H Hi [] M (Ext.refl _) w rfl q⟩
theorem dk_cons {nm : Option Str} {kpos : Pos} {kws : List Keyword} {tr : XA} (ha : DE X e ta) (hr : DK X kws tr) : DK X (⟨nm, e, kpos⟩ :: kws) (xCons ta tr) := by
  obtain ⟨pa, ha1, ha2⟩ := ha.ex
  obtain ⟨pr, hr1, hr2⟩ := hr.ex
  refine ⟨_, pk_cons ha1 hr1, fun σ H Hi ds M N Q R hl w q k => ?_⟩
  refine ha2 σ H Hi ds M N _ _ hl w q fun v H1 Hi1 d M1 e1 w1 r1 q1 => ?_
  exact hr2 σ H1 Hi1 ds M1 N _ _ (hl.mono e1) w1 q1 fun vs H2 Hi2 es M2 e2 w2 r2 => k (v :: vs) H2 Hi2 (d :: es) M2 (e1.trans e2) w2 (.cons (r1.mono e2) r2)
theorem de_callK {ks : List Str} {kws : List Keyword} {u : XA} {g : List Value → List Value → List Value} {gV : List V → List V → List V} {gD : List D → List D → List D} (F : DFn X.prog X.w X.K X.mg X.base k f fd ps dsp) (hr : Room k X.A) (hm : X.mg x = some (.ref f)) (hk : PySem.W.keepIn X.K (.ref f) = true)
    (hb : KBinds X.K fd ps ks g gV) (hgd : ∀ {Hi es vs ws us}, RepL Hi es vs → RepL Hi ws us → RepL Hi (gD es ws) (gV vs us)) (ha : DA X (e :: es) t) (hkw : DK X kws u)
    (hall : (backToKw pos (keywordEach kws X.env)).all (·.1.isSome) = true := by rfl) (hks : (backToKw pos (keywordEach kws X.env)).filterMap (·.1) = ks := by rfl)
    (hg : Gl X x := by rfl) (hdb : (x == ("__debug__" : Str)) = false := by decide) (he : starEach (e :: es) X.env = (false, eval e X.env) :: starEach es X.env := by rfl)
    (hpl : ((backTo pos (starEach (e :: es) X.env)).any (·.1) || (backToKw pos (keywordEach kws X.env)).any (·.1.isNone)) = false := by rfl) :
    DE X (.Call (.Name x p) (e :: es) kws pos) (xCallK dsp gD t u) := by
  obtain ⟨pt, h1, h2⟩ := ha.ex
  obtain ⟨pu, g1, g2⟩ := hkw.ex
  refine ⟨_, pe_callK F hr hg hm hk hb passL h1 g1 hall hks hdb he hpl, fun σ H Hi ds M N Q R hl w q k => ?_⟩
  exact h2 σ H Hi ds M N _ _ hl w q fun vs H1 Hi1 es1 M1 e1 w1 r1 q1 => g2 σ H1 Hi1 ds M1 N _ _ (hl.mono e1) w1 q1 fun us H2 Hi2 es2 M2 e2 w2 r2 q2 =>
    call_lift (hgd (r1.mono e2) r2) w2 (callP_at q2) fun v H3 Hi3 d M3 e3 => k v H3 Hi3 d M3 ((e1.trans e2).trans e3)

/-! ### instances -/
/-- d is an instance of the class at C without an attribute m -/
def insK (C : Addr) (m : Str) (d : D) (M : Cells) (k : Prop) : Prop := match d with
  | .obj C' ns _ => (C' = C ∧ m ∉ ns) ∧ k
  | .ref a => ∃ (i : Nat) (ns : List Str) (es : List D), M[i]? = some (a, MO.ins C ns es) ∧ m ∉ ns ∧ k
  | _ => False
theorem lookup_zip_none {α : Type} {m : Str} : ∀ {ns : List Str} {vs : List α}, m ∉ ns → (ns.zip vs).lookup m = none
  | [], _, _ => rfl
  | _ :: _, [], _ => rfl
  | n :: ns, v :: vs, h => by
    have h1 : (m == n) = false := by simpa using fun z : m = n => h (z ▸ List.mem_cons_self)
    rw [List.zip_cons_cons, List.lookup_cons, h1]
    exact lookup_zip_none fun z => h (List.mem_cons_of_mem _ z)
theorem ins_at {Hi : Hp} {C : Addr} {m : Str} {d : D} {v : V} {M N : Cells} {H : Hp} {k : Prop} (r : Rep Hi d v) (w : Own Hi (M ++ N) H) (h : insK C m d M k) : ∃ a dx fs, v = .ref a ∧ H a = some (.ins C dx fs) ∧ fs.lookup m = none ∧ k := by
  cases d with
  | obj C' ns ds =>
    obtain ⟨⟨rfl, hm⟩, h⟩ := h
    obtain ⟨a, dx, vs, rfl, h1, _, _⟩ := r
    exact ⟨a, dx, _, rfl, w.ext _ _ h1, lookup_zip_none hm, h⟩
  | ref a =>
    obtain ⟨i, ns, es, e, hm, h⟩ := h
    obtain ⟨_, o, ho, dx, vs, rfl, _, _⟩ := w.getL e
    exact ⟨a, dx, _, r, ho, lookup_zip_none hm, h⟩
  | _ => exact h.elim
def xMeth (C : Addr) (m : Str) (dsp : DSp) (dd : List D) (ta : XE) (t : XA) : XE := fun ds M Q => ta ds M fun d M1 => insK C m d M1 (t ds M1 fun es M2 => CallAt dsp (d :: (es ++ dd)) M2 Q)
def xMethP (C : Addr) (m : Str) (dsp : DSp) (dd : List D) (ta : XE) (t : XA) : XE := fun ds M Q => ta ds M fun d M1 => insK C m d M1 (t ds M1 fun es M2 => dsp (d :: (es ++ dd)) [] (fun d M' => Q d (M' ++ M2)) X0)
theorem sim_meth {pa : TE} {pt : TA} (ha : SimE pa ta) (ht : SimA pt t) (hd : ∀ Hi, RepL Hi dd dvs) : SimE (tMeth C m (lift dsp) dvs E0 pa pt) (xMeth C m dsp dd ta t) := fun σ H Hi ds M N Q R hl w q k =>
  ha σ H Hi ds M N _ _ hl w q fun v1 H1 Hi1 d1 M1 e1 w1 r1 q1 => by
    obtain ⟨a, dx, fs, h1, h2, h3, q1⟩ := ins_at r1 w1 q1
    refine ⟨a, dx, fs, h1, h2, h3, ?_⟩
    exact ht σ H1 Hi1 ds M1 N _ _ (hl.mono e1) w1 q1 fun vs H2 Hi2 es2 M2 e2 w2 r2 q2 => call_lift (.cons (r1.mono e2) (r2.append (hd _))) w2 q2 fun v H3 Hi3 d M3 e3 => k v H3 Hi3 d M3 ((e1.trans e2).trans e3)
theorem sim_methP {pa : TE} {pt : TA} (ha : SimE pa ta) (ht : SimA pt t) (hd : ∀ Hi, RepL Hi dd dvs) : SimE (tMeth C m (lift dsp) dvs E0 pa pt) (xMethP C m dsp dd ta t) := fun σ H Hi ds M N Q R hl w q k =>
  ha σ H Hi ds M N _ _ hl w q fun v1 H1 Hi1 d1 M1 e1 w1 r1 q1 => by
    obtain ⟨a, dx, fs, h1, h2, h3, q1⟩ := ins_at r1 w1 q1
    refine ⟨a, dx, fs, h1, h2, h3, ?_⟩
    exact ht σ H1 Hi1 ds M1 N _ _ (hl.mono e1) w1 q1 fun vs H2 Hi2 es2 M2 e2 w2 r2 q2 => call_lift (.cons (r1.mono e2) (r2.append (hd _))) w2 (callP_at q2) fun v H3 Hi3 d M3 e3 => k v H3 Hi3 d M3 ((e1.trans e2).trans e3)
theorem de_meth {pl : Sem Bool} (c : Cls X.K C) (hm : Meth X.K C m f) (F : DFn X.prog X.w X.K X.mg X.base k f fd ps dsp) (hr : Room k X.A) (hb : Binds X.K fd ps dus) (hdu : Vals dvs dus) (hd : ∀ Hi, RepL Hi dd dvs) (he : DE X o ta) (ha : DA X (e :: es) t)
    (hst : starEach (e :: es) X.env = (false, eval e X.env) :: starEach es X.env := by rfl) (hpl : (backTo pos (starEach es X.env)).any (·.1) = false := by rfl)
    (ht : eval (.Call (.Attribute o m apos) (e :: es) [] pos) X.env = (do
      let ov ← eval o X.env
      standAt apos.atName
      let (f, first) ← holding [ov] (getMethod ov m pl)
      callWith pos f first (backTo pos (starEach (e :: es) X.env)) (backToKw pos (keywordEach [] X.env))) := by rfl) : DE X (.Call (.Attribute o m apos) (e :: es) [] pos) (xMeth C m dsp dd ta t) := by
  obtain ⟨pt, h1, h2⟩ := ha.ex
  obtain ⟨pa, g1, g2⟩ := he.ex
  exact ⟨_, pe_meth g1 c hm F hr hb hdu passL h1 hst hpl ht, sim_meth g2 h2 hd⟩
theorem de_methP {pl : Sem Bool} (c : Cls X.K C) (hm : Meth X.K C m f) (F : DFn X.prog X.w X.K X.mg X.base k f fd ps dsp) (hr : Room k X.A) (hb : Binds X.K fd ps dus) (hdu : Vals dvs dus) (hd : ∀ Hi, RepL Hi dd dvs) (he : DE X o ta) (ha : DA X (e :: es) t)
    (hst : starEach (e :: es) X.env = (false, eval e X.env) :: starEach es X.env := by rfl) (hpl : (backTo pos (starEach es X.env)).any (·.1) = false := by rfl)
    (ht : eval (.Call (.Attribute o m apos) (e :: es) [] pos) X.env = (do
      let ov ← eval o X.env
      standAt apos.atName
      let (f, first) ← holding [ov] (getMethod ov m pl)
      callWith pos f first (backTo pos (starEach (e :: es) X.env)) (backToKw pos (keywordEach [] X.env))) := by rfl) : DE X (.Call (.Attribute o m apos) (e :: es) [] pos) (xMethP C m dsp dd ta t) := by
  obtain ⟨pt, h1, h2⟩ := ha.ex
  obtain ⟨pa, g1, g2⟩ := he.ex
  exact ⟨_, pe_meth g1 c hm F hr hb hdu passL h1 hst hpl ht, sim_methP g2 h2 hd⟩
theorem sim_nil : SimA tNil xNil := fun σ H Hi ds M N Q R hl w q k => k [] H Hi [] M (Ext.refl _) w rfl q
theorem de_meth0 {pl : Sem Bool} (c : Cls X.K C) (hm : Meth X.K C m f) (F : DFn X.prog X.w X.K X.mg X.base k f fd ps dsp) (hr : Room k X.A) (hb : Binds X.K fd ps dus) (hdu : Vals dvs dus) (hd : ∀ Hi, RepL Hi dd dvs) (he : DE X o ta)
    (ht : eval (.Call (.Attribute o m apos) [] [] pos) X.env = (do
      let ov ← eval o X.env
      standAt apos.atName
      let (f, first) ← holding [ov] (getMethod ov m pl)
      callWith pos f first (backTo pos (starEach [] X.env)) (backToKw pos (keywordEach [] X.env))) := by rfl) : DE X (.Call (.Attribute o m apos) [] [] pos) (xMeth C m dsp dd ta xNil) := by
  obtain ⟨pa, g1, g2⟩ := he.ex
  exact ⟨_, pe_meth0 g1 c hm F hr hb hdu passL ht, sim_meth g2 sim_nil hd⟩
theorem de_meth0P {pl : Sem Bool} (c : Cls X.K C) (hm : Meth X.K C m f) (F : DFn X.prog X.w X.K X.mg X.base k f fd ps dsp) (hr : Room k X.A) (hb : Binds X.K fd ps dus) (hdu : Vals dvs dus) (hd : ∀ Hi, RepL Hi dd dvs) (he : DE X o ta)
    (ht : eval (.Call (.Attribute o m apos) [] [] pos) X.env = (do
      let ov ← eval o X.env
      standAt apos.atName
      let (f, first) ← holding [ov] (getMethod ov m pl)
      callWith pos f first (backTo pos (starEach [] X.env)) (backToKw pos (keywordEach [] X.env))) := by rfl) : DE X (.Call (.Attribute o m apos) [] [] pos) (xMethP C m dsp dd ta xNil) := by
  obtain ⟨pa, g1, g2⟩ := he.ex
  exact ⟨_, pe_meth0 g1 c hm F hr hb hdu passL ht, sim_methP g2 sim_nil hd⟩
/-- C(..), the new instance never changed behind its making -/
def xMake (C : Addr) (dsp : DSp) (dd : List D) (t : XA) : XE := fun ds M Q => t ds M fun es M1 => ∀ a, dsp (.ref a :: (es ++ dd)) [(a, .ins C [] [])] (fun d M' => d = .non ∧ ∃ ns fs, M' = [(a, .ins C ns fs)] ∧ Q (.obj C ns fs) M1) X0
/-- C(..), an instance that may change -/
def xMakeM (C : Addr) (dsp : DSp) (dd : List D) (t : XA) : XE := fun ds M Q => t ds M fun es M1 => ∀ a, dsp (.ref a :: (es ++ dd)) [(a, .ins C [] [])] (fun d M' => d = .non ∧ Q (.ref a) (M' ++ M1)) X0
theorem ins_new {C : Addr} {M N : Cells} {H Hi : Hp} {x dx : Addr} (w : Own Hi (M ++ N) H) (h1 : H x = none) (h2 : H dx = none) (h3 : dx ≠ x) : Own Hi ([(x, .ins C [] [])] ++ (M ++ N)) (upd (upd H dx (.own x)) x (.ins C dx [])) := by
  have w2 := w.hid (o := .own x) h2
  exact w2.laidM (by rw [upd_ne h3.symm]; exact h1) ⟨dx, [], rfl, rfl, rfl⟩
theorem de_make (Mm : Mk X.K C f) (F : DFn X.prog X.w X.K X.mg X.base k f fd ps dsp) (hr : Room (k + 1) X.A) (hm : X.mg x = some (.ref C)) (hb : Binds X.K fd ps dus) (hdu : Vals dvs dus) (hd : ∀ Hi, RepL Hi dd dvs) (ha : DA X (e :: es) t)
    (hg : Gl X x := by rfl) (hdb : (x == ("__debug__" : Str)) = false := by decide) (he : starEach (e :: es) X.env = (false, eval e X.env) :: starEach es X.env := by rfl) (hpl : (backTo pos (starEach es X.env)).any (·.1) = false := by rfl) :
    DE X (.Call (.Name x p) (e :: es) [] pos) (xMake C dsp dd t) := by
  obtain ⟨pt, h1, h2⟩ := ha.ex
  refine ⟨_, pe_make Mm F hr hg hm hb hdu passL h1 hdb he hpl, fun σ H Hi ds M N Q R hl w q k => ?_⟩
  refine h2 σ H Hi ds M N _ _ hl w q fun vs H1 Hi1 es1 M1 e1 w1 r1 q1 => fun y dx hy hdx ne => ?_
  refine ⟨Hi1, [(y, .ins C [] [])], M1 ++ N, .ref y :: (es1 ++ dd), _, X0, .cons rfl (r1.append (hd _)), ins_new w1 hy hdx ne, q1 y, fun v H' Hi' d M' e2 w2 r2 q2 => ?_, fun _ _ _ _ _ _ _ _ _ _ q => q.elim⟩
  obtain ⟨rfl, ns, fs, rfl, q3⟩ := q2
  refine ⟨r2, ?_⟩
  obtain ⟨_, o, ho, dx', vs', rfl, hln, rv⟩ := w2.cell (y, .ins C ns fs) List.mem_cons_self
  obtain ⟨w3, e3⟩ := w2.freezeHd ho
  exact k _ H' _ (.obj C ns fs) M1 ((e1.trans e2).trans e3) w3 ⟨y, dx', vs', rfl, upd_same, hln, rv.mono e3⟩ q3
theorem de_makeM (Mm : Mk X.K C f) (F : DFn X.prog X.w X.K X.mg X.base k f fd ps dsp) (hr : Room (k + 1) X.A) (hm : X.mg x = some (.ref C)) (hb : Binds X.K fd ps dus) (hdu : Vals dvs dus) (hd : ∀ Hi, RepL Hi dd dvs) (ha : DA X (e :: es) t)
    (hg : Gl X x := by rfl) (hdb : (x == ("__debug__" : Str)) = false := by decide) (he : starEach (e :: es) X.env = (false, eval e X.env) :: starEach es X.env := by rfl) (hpl : (backTo pos (starEach es X.env)).any (·.1) = false := by rfl) :
    DE X (.Call (.Name x p) (e :: es) [] pos) (xMakeM C dsp dd t) := by
  obtain ⟨pt, h1, h2⟩ := ha.ex
  refine ⟨_, pe_make Mm F hr hg hm hb hdu passL h1 hdb he hpl, fun σ H Hi ds M N Q R hl w q k => ?_⟩
  refine h2 σ H Hi ds M N _ _ hl w q fun vs H1 Hi1 es1 M1 e1 w1 r1 q1 => fun y dx hy hdx ne => ?_
  refine ⟨Hi1, [(y, .ins C [] [])], M1 ++ N, .ref y :: (es1 ++ dd), _, X0, .cons rfl (r1.append (hd _)), ins_new w1 hy hdx ne, q1 y, fun v H' Hi' d M' e2 w2 r2 q2 => ?_, fun _ _ _ _ _ _ _ _ _ _ q => q.elim⟩
  obtain ⟨rfl, q3⟩ := q2
  refine ⟨r2, ?_⟩
  rw [← List.append_assoc] at w2
  exact k _ H' Hi' (.ref y) (M' ++ M1) (e1.trans e2) w2 rfl q3
/-! ### fields -/
def ixF (f : Str) : List Str → Option Nat
  | [] => none
  | n :: ns => if f = n then some 0 else (ixF f ns).map Nat.succ
theorem ixF_look {α : Type} {f : Str} : ∀ {ns : List Str} {j : Nat} {vs : List α}, ixF f ns = some j → ns.length = vs.length → (ns.zip vs).lookup f = vs[j]?
  | [], _, _, h, _ => by cases h
  | n :: ns, j, [], _, hl => by cases hl
  | n :: ns, j, v :: vs, h, hl => by
    unfold ixF at h
    rw [List.zip_cons_cons, List.lookup_cons]
    split at h
    · rename_i e
      cases h
      rw [show (f == n) = true by simpa using e]
      rfl
    · rename_i e
      rw [show (f == n) = false by simpa using e]
      cases h2 : ixF f ns with
      | none => rw [h2] at h; cases h
      | some i =>
        rw [h2] at h
        cases h
        simpa using ixF_look (vs := vs) h2 (by simpa using hl)
theorem ixF_set {f : Str} {y : V} : ∀ {ns : List Str} {j : Nat} {vs : List V}, ixF f ns = some j → ns.length = vs.length → putF f y (ns.zip vs) = ns.zip (vs.set j y)
  | [], _, _, h, _ => by cases h
  | n :: ns, j, [], _, hl => by cases hl
  | n :: ns, j, v :: vs, h, hl => by
    unfold ixF at h
    rw [List.zip_cons_cons]
    unfold putF
    split at h
    · rename_i e
      cases h
      subst e
      simp
    · rename_i e
      cases h2 : ixF f ns with
      | none => rw [h2] at h; cases h
      | some i =>
        rw [h2] at h
        cases h
        have ih := ixF_set (y := y) (vs := vs) h2 (by simpa using hl)
        have e' : ¬ n = f := fun z => e z.symm
        simp only [e', if_false]
        rw [ih]
        rfl
theorem putF_new {f : Str} {y : V} : ∀ {ns : List Str} {vs : List V}, f ∉ ns → ns.length = vs.length → putF f y (ns.zip vs) = (ns ++ [f]).zip (vs ++ [y])
  | [], [], _, _ => rfl
  | n :: ns, v :: vs, h, hl => by
    have e' : ¬ n = f := fun z => h (z ▸ List.mem_cons_self)
    rw [List.zip_cons_cons]
    unfold putF
    simp only [e', if_false]
    rw [putF_new (fun z => h (List.mem_cons_of_mem _ z)) (by simpa using hl)]
    rfl
def getK (es : List D) (j : Nat) (k : D → Prop) : Prop := match es[j]? with
  | some d => k d
  | none => False
theorem getK_at {es : List D} {j : Nat} {k : D → Prop} (h : getK es j k) : ∃ d, es[j]? = some d ∧ k d := by
  unfold getK at h
  split at h
  · rename_i d e; exact ⟨d, e, h⟩
  · exact h.elim
/-- o.f: the j-th of the fields ns of an instance of the class at C -/
def fldK (C : Addr) (ns : List Str) (j : Nat) (d : D) (M : Cells) (k : D → Prop) : Prop := match d with
  | .obj C' ns' es => (C' = C ∧ ns' = ns) ∧ getK es j k
  | .ref a => ∃ (i : Nat) (es : List D), M[i]? = some (a, MO.ins C ns es) ∧ getK es j k
  | _ => False
def xFld (C : Addr) (ns : List Str) (j : Nat) (ta : XE) : XE := fun ds M Q => ta ds M fun d M1 => fldK C ns j d M1 fun v => Q v M1
theorem de_fld {f : Str} {ns : List Str} {j : Nat} (c : Cls X.K C) (na : NoAttr X.K C f) (hj : ixF f ns = some j) (he : DE X e ta) (hb : attributeBase e f X.env (eval e X.env) = eval e X.env := by rfl) : DE X (.Attribute e f pos) (xFld C ns j ta) := by
  obtain ⟨pa, g1, g2⟩ := he.ex
  refine ⟨_, pe_fld g1 hb, fun σ H Hi ds M N Q R hl w q k => ?_⟩
  refine g2 σ H Hi ds M N _ _ hl w q fun v H1 Hi1 d M1 e1 w1 r1 q1 => ?_
  cases d with
  | obj C' ns' es' =>
    obtain ⟨⟨rfl, rfl⟩, q1⟩ := q1
    obtain ⟨d', h1, q1⟩ := getK_at q1
    obtain ⟨a, dx, vs, rfl, h2, h3, rv⟩ := r1
    obtain ⟨v', h4, r4⟩ := rv.get h1
    exact ⟨a, C', dx, _, v', rfl, w1.ext _ _ h2, c, na, by rw [ixF_look hj (h3.trans rv.length)]; exact h4, k v' H1 Hi1 d' M1 e1 w1 r4 q1⟩
  | ref a =>
    obtain ⟨i, es', e2, q1⟩ := q1
    obtain ⟨d', h1, q1⟩ := getK_at q1
    obtain ⟨_, o, ho, dx, vs, rfl, h3, rv⟩ := w1.getL e2
    obtain ⟨v', h4, r4⟩ := rv.get h1
    exact ⟨a, C, dx, _, v', r1, ho, c, na, by rw [ixF_look hj (h3.trans rv.length)]; exact h4, k v' H1 Hi1 d' M1 e1 w1 r4 q1⟩
  | _ => exact q1.elim
end
end DL

set_option Elab.async false
set_option linter.all false
set_option maxRecDepth 100000
set_option maxHeartbeats 4000000
namespace DL
open PySem PySem.Spec L2

/-! ### sequences: the list of the items -/
/-- d is a list (one that stays, or a cell's, or the script) -/
def lstK (d : D) (M : Cells) (k : List D → Prop) : Prop := match d with
  | .lst ds => k ds
  | .scr ds => k ds
  | .ref a => ∃ (i : Nat) (ds : List D), M[i]? = some (a, MO.lst ds) ∧ k ds
  | _ => False
def tupK (d : D) (k : List D → Prop) : Prop := match d with
  | .tup ds => k ds
  | .tupx ds => k ds
  | _ => False
def seqK (d : D) (M : Cells) (k : List D → Prop) : Prop := match d with
  | .lst ds => k ds
  | .scr ds => k ds
  | .tup ds => k ds
  | .tupx ds => k ds
  | .ref a => ∃ (i : Nat) (ds : List D), M[i]? = some (a, MO.lst ds) ∧ k ds
  | _ => False
/-- a list that is tracked by itself (no script) -/
def ownK (d : D) (M : Cells) (k : List D → Prop) : Prop := match d with
  | .lst ds => k ds
  | .ref a => ∃ (i : Nat) (ds : List D), M[i]? = some (a, MO.lst ds) ∧ k ds
  | _ => False
section
variable {Hi : Hp} {d : D} {v : V} {M N : Cells} {H : Hp} {k : List D → Prop} {K : PySem.W.Frag}
theorem lst_at (r : Rep Hi d v) (w : Own Hi (M ++ N) H) (h : lstK d M k) : ∃ a vs ds, v = .ref a ∧ SqL K H a vs ∧ RepL Hi ds vs ∧ k ds := by
  cases d with
  | lst ds => obtain ⟨a, vs, rfl, h1, h2⟩ := r; exact ⟨a, vs, ds, rfl, SqL.of (w.ext _ _ h1), h2, h⟩
  | scr ds => obtain ⟨a, vs, rfl, h1, h2⟩ := r; exact ⟨a, vs, ds, rfl, .inl (w.ext.rd h1), h2, h⟩
  | ref a =>
    obtain ⟨i, ds, e, h⟩ := h
    obtain ⟨_, o, ho, vs, rfl, rv⟩ := w.getL e
    exact ⟨a, vs, ds, r, SqL.of ho, rv, h⟩
  | _ => exact h.elim
theorem own_at (r : Rep Hi d v) (w : Own Hi (M ++ N) H) (h : ownK d M k) : ∃ a vs ds, v = .ref a ∧ H a = some (.lst vs) ∧ RepL Hi ds vs ∧ k ds := by
  cases d with
  | lst ds => obtain ⟨a, vs, rfl, h1, h2⟩ := r; exact ⟨a, vs, ds, rfl, w.ext _ _ h1, h2, h⟩
  | ref a =>
    obtain ⟨i, ds, e, h⟩ := h
    obtain ⟨_, o, ho, vs, rfl, rv⟩ := w.getL e
    exact ⟨a, vs, ds, r, ho, rv, h⟩
  | _ => exact h.elim
theorem tup_at (r : Rep Hi d v) (w : Own Hi (M ++ N) H) (h : tupK d k) : ∃ a vs ds, v = .ref a ∧ SqT K H a vs ∧ RepL Hi ds vs ∧ k ds := by
  cases d with
  | tup ds => obtain ⟨a, vs, rfl, h1, h2⟩ := r; exact ⟨a, vs, ds, rfl, SqT.of (w.ext _ _ h1), h2, h⟩
  | tupx ds => obtain ⟨a, vs, o, rfl, h1, _, h2⟩ := r; exact ⟨a, vs, ds, rfl, .inl (.inr ⟨o, w.ext _ _ h1⟩), h2, h⟩
  | _ => exact h.elim
theorem seq_at (r : Rep Hi d v) (w : Own Hi (M ++ N) H) (h : seqK d M k) : ∃ a vs ds, v = .ref a ∧ (SqL K H a vs ∨ SqT K H a vs) ∧ RepL Hi ds vs ∧ k ds := by
  cases d with
  | lst ds => obtain ⟨a, vs, rfl, h1, h2⟩ := r; exact ⟨a, vs, ds, rfl, .inl (SqL.of (w.ext _ _ h1)), h2, h⟩
  | scr ds => obtain ⟨a, vs, rfl, h1, h2⟩ := r; exact ⟨a, vs, ds, rfl, .inl (.inl (w.ext.rd h1)), h2, h⟩
  | tup ds => obtain ⟨a, vs, rfl, h1, h2⟩ := r; exact ⟨a, vs, ds, rfl, .inr (SqT.of (w.ext _ _ h1)), h2, h⟩
  | tupx ds => obtain ⟨a, vs, o, rfl, h1, _, h2⟩ := r; exact ⟨a, vs, ds, rfl, .inr (.inl (.inr ⟨o, w.ext _ _ h1⟩)), h2, h⟩
  | ref a =>
    obtain ⟨i, ds, e, h⟩ := h
    obtain ⟨_, o, ho, vs, rfl, rv⟩ := w.getL e
    exact ⟨a, vs, ds, r, .inl (SqL.of ho), rv, h⟩
  | _ => exact h.elim
end
/-! ### plain data, equality -/
def flatD : D → Bool
  | .non => true
  | .bl _ => true
  | .int _ => true
  | .str s => PySem.PyData.strOk s
  | _ => false
/-- plain data of depth n at most -/
def pl : Nat → D → Bool
  | 0, d => flatD d
  | n + 1, d => match d with
    | .lst ds => ds.all (pl n)
    | .scr ds => ds.all (pl n)
    | .tup ds => ds.all (pl n)
    | .tupx ds => ds.all (pl n)
    | d => flatD d
mutual
def toPy : D → PyData
  | .non => .none
  | .bl b => .bool b
  | .int i => .int i
  | .str s => .str s
  | .lst ds => .list (toPyL ds)
  | .scr ds => .list (toPyL ds)
  | .tup ds => .tuple (toPyL ds)
  | .tupx ds => .tuple (toPyL ds)
  | _ => .none
def toPyL : List D → List PyData
  | [] => []
  | d :: ds => toPy d :: toPyL ds
end
theorem flatD_ok {d : D} (h : flatD d = true) : (toPy d).canLay0 = true ∧ (toPy d).depth = 0 := by
  cases d with
  | str s => exact ⟨by simp only [toPy, PyData.canLay0]; exact h, by simp [toPy, PyData.depth]⟩
  | non => simp [toPy, PyData.canLay0, PyData.depth]
  | bl b => simp [toPy, PyData.canLay0, PyData.depth]
  | int b => simp [toPy, PyData.canLay0, PyData.depth]
  | _ => cases h
mutual
theorem pl_ok : ∀ (n : Nat) (d : D), pl n d = true → (toPy d).canLay0 = true ∧ (toPy d).depth ≤ n
  | 0, d, h => by obtain ⟨h1, h2⟩ := flatD_ok (show flatD d = true from h); exact ⟨h1, by omega⟩
  | n + 1, d, h => by
    have fl : flatD d = true → (toPy d).canLay0 = true ∧ (toPy d).depth ≤ n + 1 := fun h => by
      obtain ⟨h1, h2⟩ := flatD_ok h
      exact ⟨h1, by omega⟩
    cases d with
    | lst ds =>
      obtain ⟨h1, h2⟩ := plL_ok n ds h
      exact ⟨by simpa [toPy, PyData.canLay0] using h1, by simp only [toPy, PyData.depth]; omega⟩
    | scr ds =>
      obtain ⟨h1, h2⟩ := plL_ok n ds h
      exact ⟨by simpa [toPy, PyData.canLay0] using h1, by simp only [toPy, PyData.depth]; omega⟩
    | tup ds =>
      obtain ⟨h1, h2⟩ := plL_ok n ds h
      exact ⟨by simpa [toPy, PyData.canLay0] using h1, by simp only [toPy, PyData.depth]; omega⟩
    | tupx ds =>
      obtain ⟨h1, h2⟩ := plL_ok n ds h
      exact ⟨by simpa [toPy, PyData.canLay0] using h1, by simp only [toPy, PyData.depth]; omega⟩
    | non => exact fl h
    | bl b => exact fl h
    | int b => exact fl h
    | str b => exact fl h
    | ty _ => cases h
    | ref _ => cases h
    | obj _ _ _ => cases h
theorem plL_ok : ∀ (n : Nat) (ds : List D), ds.all (pl n) = true → PyData.canLayAll0 (toPyL ds) = true ∧ PyData.depthAll (toPyL ds) ≤ n
  | n, [], _ => by simp [toPyL, PyData.canLayAll0, PyData.depthAll]
  | n, d :: ds, h => by
    rw [List.all_cons, Bool.and_eq_true] at h
    obtain ⟨h1, h2⟩ := pl_ok n d h.1
    obtain ⟨h3, h4⟩ := plL_ok n ds h.2
    refine ⟨by simp [toPyL, PyData.canLayAll0, h1, h3], ?_⟩
    simp only [toPyL, PyData.depthAll]
    omega
end
theorem pl_shaped {d : D} (h : pl 8 d = true) : SeqAt.shaped (toPy d) = true := by
  obtain ⟨h1, h2⟩ := pl_ok 8 d h
  unfold SeqAt.shaped
  rw [h1, decide_eq_true (show (toPy d).depth ≤ 64 by omega)]
  rfl
mutual
theorem rep_dp {K : PySem.W.Frag} {H Hi : Hp} (e : Ext Hi H) : ∀ (n : Nat) {d : D} {v : V}, pl n d = true → Rep Hi d v → Dp K H v (toPy d)
  | n, .non, v, _, r => by cases (show v = .non from r); exact .non
  | n, .bl b, v, _, r => by cases (show v = .bl b from r); exact .bl b
  | n, .int b, v, _, r => by cases (show v = .int b from r); exact .int b
  | n, .str b, v, _, r => by cases (show v = .str b from r); exact .str b
  | n + 1, .lst ds, v, h, r => by
    obtain ⟨a, vs, rfl, h1, h2⟩ := r
    exact .lst (SqL.of (e _ _ h1)) (rep_dpL e n h h2)
  | n + 1, .scr ds, v, h, r => by
    obtain ⟨a, vs, rfl, h1, h2⟩ := r
    exact .lst (.inl (e.rd h1)) (rep_dpL e n h h2)
  | n + 1, .tup ds, v, h, r => by
    obtain ⟨a, vs, rfl, h1, h2⟩ := r
    exact .tup (SqT.of (e _ _ h1)) (rep_dpL e n h h2)
  | n + 1, .tupx ds, v, h, r => by
    obtain ⟨a, vs, o, rfl, h1, _, h2⟩ := r
    exact .tup (.inl (.inr ⟨o, e _ _ h1⟩)) (rep_dpL e n h h2)
  | 0, .lst ds, _, h, _ => by cases h
  | 0, .scr ds, _, h, _ => by cases h
  | 0, .tup ds, _, h, _ => by cases h
  | 0, .tupx ds, _, h, _ => by cases h
  | 0, .ty _, _, h, _ => by cases h
  | 0, .ref _, _, h, _ => by cases h
  | 0, .obj _ _ _, _, h, _ => by cases h
  | n + 1, .ty _, _, h, _ => by cases h
  | n + 1, .ref _, _, h, _ => by cases h
  | n + 1, .obj _ _ _, _, h, _ => by cases h
theorem rep_dpL {K : PySem.W.Frag} {H Hi : Hp} (e : Ext Hi H) : ∀ (n : Nat) {ds : List D} {vs : List V}, ds.all (pl n) = true → RepL Hi ds vs → DpAll K H vs (toPyL ds)
  | n, [], _, _, r => by cases r; exact .nil
  | n, d :: ds, _, h, ⟨v, r, h0, h1, h2⟩ => by
    subst h0
    rw [List.all_cons, Bool.and_eq_true] at h
    exact .cons (rep_dp e n h.1 h1) (rep_dpL e n h.2 h2)
end
mutual
def beq : D → D → Bool
  | .non, .non => true
  | .bl a, .bl b => a == b
  | .bl a, .int j => (if a then 1 else 0) == j
  | .int i, .bl b => i == (if b then 1 else 0)
  | .int i, .int j => i == j
  | .str x, .str y => x == y
  | .lst xs, .lst ys => beqL xs ys
  | .lst xs, .scr ys => beqL xs ys
  | .scr xs, .lst ys => beqL xs ys
  | .scr xs, .scr ys => beqL xs ys
  | .tup xs, .tup ys => beqL xs ys
  | .tup xs, .tupx ys => beqL xs ys
  | .tupx xs, .tup ys => beqL xs ys
  | .tupx xs, .tupx ys => beqL xs ys
  | _, _ => false
def beqL : List D → List D → Bool
  | [], [] => true
  | x :: xs, y :: ys => beq x y && beqL xs ys
  | [], _ :: _ => false
  | _ :: _, [] => false
end
mutual
theorem eqv_beq : ∀ (n m : Nat) (d e : D), pl n d = true → pl m e = true → PyData.eqv (toPy d) (toPy e) = beq d e := by
  intro n m d e hd he
  have np : ∀ (n : Nat) (x : D), pl n x = true → (∃ z, x = .ty z) ∨ (∃ z, x = .ref z) ∨ (∃ a b c, x = .obj a b c) → False := by
    intro n x h q
    rcases q with ⟨z, rfl⟩ | ⟨z, rfl⟩ | ⟨a, b, c, rfl⟩ <;> cases n <;> cases h
  cases d with
  | ty z => exact (np n _ hd (.inl ⟨z, rfl⟩)).elim
  | ref z => exact (np n _ hd (.inr (.inl ⟨z, rfl⟩))).elim
  | obj a b c => exact (np n _ hd (.inr (.inr ⟨a, b, c, rfl⟩))).elim
  | _ =>
    cases e with
    | ty z => exact (np m _ he (.inl ⟨z, rfl⟩)).elim
    | ref z => exact (np m _ he (.inr (.inl ⟨z, rfl⟩))).elim
    | obj a b c => exact (np m _ he (.inr (.inr ⟨a, b, c, rfl⟩))).elim
    | _ =>
      first
      | (simp only [toPy, PyData.eqv, beq]; done)
      | (cases n with
         | zero => cases hd
         | succ n => cases m with
           | zero => cases he
           | succ m =>
             simp only [toPy, PyData.eqv, beq]
             exact eqvL_beq n m _ _ hd he)
theorem eqvL_beq : ∀ (n m : Nat) (ds es : List D), ds.all (pl n) = true → es.all (pl m) = true → PyData.eqvAll (toPyL ds) (toPyL es) = beqL ds es
  | n, m, [], [], _, _ => by simp [toPyL, PyData.eqvAll, beqL]
  | n, m, [], _ :: _, _, _ => by simp [toPyL, PyData.eqvAll, beqL]
  | n, m, _ :: _, [], _, _ => by simp [toPyL, PyData.eqvAll, beqL]
  | n, m, d :: ds, e :: es, hd, he => by
    rw [List.all_cons, Bool.and_eq_true] at hd he
    simp only [toPyL, PyData.eqvAll, beqL, eqv_beq n m d e hd.1 he.1, eqvL_beq n m ds es hd.2 he.2]
end
end DL

set_option Elab.async false
set_option linter.all false
set_option maxRecDepth 100000
set_option maxHeartbeats 4000000
namespace DL
open PySem PySem.Spec L2

/-! ### a list, a tuple is handed back -/
theorem mk_lst {Hi H : Hp} {M N : Cells} {es : List D} {vs : List V} {Q : XQ} {R : VK} {Hi0 : Hp} (e0 : Ext Hi0 Hi) (w : Own Hi (M ++ N) H) (r : RepL Hi es vs) (q : Q (.lst es) M)
    (k : ∀ v H' Hi' d M', Ext Hi0 Hi' → Own Hi' (M' ++ N) H' → Rep Hi' d v → Q d M' → R v H') : ∀ p, H p = none → R (.ref p) (upd H p (.lst vs)) := fun p hp =>
  k _ _ (upd Hi p (.lst vs)) (.lst es) M (e0.trans (Ext.new (w.ext.free hp))) (w.laid hp) ⟨p, vs, rfl, upd_same, r.mono (Ext.new (w.ext.free hp))⟩ q
theorem mk_lstM {Hi H : Hp} {M N : Cells} {es : List D} {vs : List V} {Q : XQ} {R : VK} {Hi0 : Hp} (e0 : Ext Hi0 Hi) (w : Own Hi (M ++ N) H) (r : RepL Hi es vs) (q : ∀ a, Q (.ref a) ((a, .lst es) :: M))
    (k : ∀ v H' Hi' d M', Ext Hi0 Hi' → Own Hi' (M' ++ N) H' → Rep Hi' d v → Q d M' → R v H') : ∀ p, H p = none → R (.ref p) (upd H p (.lst vs)) := fun p hp =>
  k _ _ Hi (.ref p) ((p, .lst es) :: M) e0 (w.laidM hp ⟨vs, rfl, r⟩) rfl (q p)
theorem mk_tup {Hi H : Hp} {M N : Cells} {es : List D} {vs : List V} {Q : XQ} {R : VK} {Hi0 : Hp} (e0 : Ext Hi0 Hi) (w : Own Hi (M ++ N) H) (r : RepL Hi es vs) (q : Q (.tup es) M)
    (k : ∀ v H' Hi' d M', Ext Hi0 Hi' → Own Hi' (M' ++ N) H' → Rep Hi' d v → Q d M' → R v H') : ∀ p, H p = none → R (.ref p) (upd H p (.tup vs)) := fun p hp =>
  k _ _ (upd Hi p (.tup vs)) (.tup es) M (e0.trans (Ext.new (w.ext.free hp))) (w.laid hp) ⟨p, vs, rfl, upd_same, r.mono (Ext.new (w.ext.free hp))⟩ q

/-! ### + -/
def rdAdd : RD := fun d e M Q => match d, e with
  | .int i, .int j => Q (.int (i + j)) M
  | .str a, .str b => a.length + b.length ≤ 16777216 ∧ Q (.str (a ++ b)) M
  | .tup xs, .tup ys => xs.length + ys.length ≤ 16777216 ∧ Q (.tup (xs ++ ys)) M
  | .int i, .bl b => Q (.int (i + PyProof.Rows.b2i b)) M
  | d, e => ownK d M fun xs => ownK e M fun ys => xs.length + ys.length ≤ 16777216 ∧ Q (.lst (xs ++ ys)) M
def rAddAll (K : PySem.W.Frag) : R2 := fun x y H Q => rI0 (fun i j => .int (i + j)) x y H Q ∨ (rCatA K x y H Q ∨ (rCat x y H Q ∨ ((∃ i j, x = .str i ∧ y = .str j ∧ i.length + j.length ≤ sizeLine ∧ Q (.str (i ++ j)) H) ∨ (∃ i k, x = .int i ∧ y = .bl k ∧ Q (.int (i + PyProof.Rows.b2i k)) H))))
theorem or_add {X : Cx} : OpR X (binaryOp .Add) (rAddAll X.K) := op_add.or (op_catA.or (op_cat.or (op_add_str.or op_add_ib)))
theorem sim_add {K : PySem.W.Frag} : SimR (rAddAll K) rdAdd := fun x y d e H Hi M N Q R rx ry w h k => by
  unfold rdAdd at h
  split at h
  · cases (show x = .int _ from rx); cases (show y = .int _ from ry)
    exact .inl ⟨_, _, rfl, rfl, k _ H Hi (.int _) M (Ext.refl _) w rfl h⟩
  · cases (show x = .str _ from rx); cases (show y = .str _ from ry)
    exact .inr (.inr (.inr (.inl ⟨_, _, rfl, rfl, le_line h.1, k _ H Hi (.str _) M (Ext.refl _) w rfl h.2⟩)))
  · rename_i xs ys
    obtain ⟨a, vs, rfl, h1, r1⟩ := rx
    obtain ⟨b, us, rfl, h2, r2⟩ := ry
    refine .inr (.inl ⟨a, b, vs, us, rfl, rfl, SqT.of (w.ext _ _ h1), SqT.of (w.ext _ _ h2), le_line (by rw [← r1.length, ← r2.length]; exact h.1), fun e => ?_, fun _ e => ?_, fun _ _ => mk_tup (Ext.refl _) w (r1.append r2) h.2 k⟩)
    · subst e
      have : xs = [] := by simpa using r1.length
      subst this
      exact k _ H Hi (.tup ys) M (Ext.refl _) w ⟨b, us, rfl, h2, r2⟩ h.2
    · subst e
      have : ys = [] := by simpa using r2.length
      subst this
      rw [List.append_nil] at h
      exact k _ H Hi (.tup xs) M (Ext.refl _) w ⟨a, vs, rfl, h1, r1⟩ h.2
  · cases (show x = .int _ from rx); cases (show y = .bl _ from ry)
    exact .inr (.inr (.inr (.inr ⟨_, _, rfl, rfl, k _ H Hi (.int _) M (Ext.refl _) w rfl h⟩)))
  · obtain ⟨a, vs, ds, rfl, h1, r1, h⟩ := own_at rx w h
    obtain ⟨b, us, es, rfl, h2, r2, h⟩ := own_at ry w h
    exact .inr (.inr (.inl ⟨a, b, vs, us, rfl, rfl, h1, h2, le_line (by rw [← r1.length, ← r2.length]; exact h.1), mk_lst (Ext.refl _) w (r1.append r2) h.2 k⟩))
/-! ### the other operators on ints -/
def rdI (C : Int → Int → Prop) (g : Int → Int → Int) : RD := fun d e M Q => match d, e with
  | .int i, .int j => C i j ∧ Q (.int (g i j)) M
  | _, _ => False
def rdI0 (g : Int → Int → Int) : RD := fun d e M Q => match d, e with
  | .int i, .int j => Q (.int (g i j)) M
  | _, _ => False
def rdB0 (g : Int → Int → Bool) : RD := fun d e M Q => match d, e with
  | .int i, .int j => Q (.bl (g i j)) M
  | _, _ => False
theorem sim_I {C : Int → Int → Prop} {g : Int → Int → Int} : SimR (rI C fun i j => .int (g i j)) (rdI C g) := fun x y d e H Hi M N Q R rx ry w h k => by
  unfold rdI at h
  split at h
  · cases (show x = .int _ from rx); cases (show y = .int _ from ry)
    exact ⟨_, _, rfl, rfl, h.1, k _ H Hi (.int _) M (Ext.refl _) w rfl h.2⟩
  · exact h.elim
theorem sim_I0 {g : Int → Int → Int} : SimR (rI0 fun i j => .int (g i j)) (rdI0 g) := fun x y d e H Hi M N Q R rx ry w h k => by
  unfold rdI0 at h
  split at h
  · cases (show x = .int _ from rx); cases (show y = .int _ from ry)
    exact ⟨_, _, rfl, rfl, k _ H Hi (.int _) M (Ext.refl _) w rfl h⟩
  · exact h.elim
theorem sim_B0 {g : Int → Int → Bool} : SimR (rI0 fun i j => .bl (g i j)) (rdB0 g) := fun x y d e H Hi M N Q R rx ry w h k => by
  unfold rdB0 at h
  split at h
  · cases (show x = .int _ from rx); cases (show y = .int _ from ry)
    exact ⟨_, _, rfl, rfl, k _ H Hi (.bl _) M (Ext.refl _) w rfl h⟩
  · exact h.elim
/-- *: ints, or a list by an int -/
def rdMul : RD := fun d e M Q => match d, e with
  | .int i, .int j => CMulW i j ∧ Q (.int (i * j)) M
  | d, .int j => ownK d M fun xs => -(2 ^ 63) ≤ j ∧ j < 2 ^ 63 ∧ xs.length * j.toNat ≤ 16777216 ∧ Q (.lst (List.replicate j.toNat xs).flatten) M
  | _, _ => False
def rMulAll : R2 := fun x y H Q => rI CMulW (fun i j => .int (i * j)) x y H Q ∨ rRep x y H Q
theorem or_mul {X : Cx} : OpR X (binaryOp .Mult) rMulAll := op_mulW.or op_rep
theorem RepL.rep {H : Hp} {ds : List D} {vs : List V} (h : RepL H ds vs) : ∀ n, RepL H (List.replicate n ds).flatten (List.replicate n vs).flatten
  | 0 => rfl
  | n + 1 => by
    rw [List.replicate_succ, List.replicate_succ, List.flatten_cons, List.flatten_cons]
    exact h.append (RepL.rep h n)
theorem sim_mul : SimR rMulAll rdMul := fun x y d e H Hi M N Q R rx ry w h k => by
  unfold rdMul at h
  split at h
  · cases (show x = .int _ from rx); cases (show y = .int _ from ry)
    exact .inl ⟨_, _, rfl, rfl, h.1, k _ H Hi (.int _) M (Ext.refl _) w rfl h.2⟩
  · cases (show y = .int _ from ry)
    obtain ⟨a, vs, ds, rfl, h1, r1, h2, h3, h4, h⟩ := own_at rx w h
    exact .inr ⟨a, _, vs, rfl, rfl, h1, h2, h3, le_line (by rw [← r1.length]; exact h4), mk_lst (Ext.refl _) w (r1.rep _) h k⟩
  · exact h.elim
/-! ### comparisons -/
def viewK (d : D) (M : Cells) (k : D → Prop) : Prop := match d with
  | .ref a => ∃ (i : Nat) (ds : List D), M[i]? = some (a, MO.lst ds) ∧ k (.lst ds)
  | d => k d
theorem view_dp {K : PySem.W.Frag} {Hi : Hp} {d : D} {v : V} {M N : Cells} {H : Hp} {k : D → Prop} (r : Rep Hi d v) (w : Own Hi (M ++ N) H) (h : viewK d M k) : ∃ d', k d' ∧ (pl 8 d' = true → Dp K H v (toPy d')) := by
  unfold viewK at h
  split at h
  · rename_i a
    obtain ⟨i, ds, e, h⟩ := h
    obtain ⟨_, o, ho, vs, rfl, rv⟩ := w.getL e
    exact ⟨_, h, fun hp => by cases (show v = .ref a from r); exact .lst (SqL.of ho) (rep_dpL w.ext 7 hp rv)⟩
  · exact ⟨_, h, fun hp => rep_dp w.ext 8 hp r⟩
def rdEqA (neg : Bool) : RD := fun d e M Q => match d, e with
  | .int i, .int j => Q (.bl (if neg then !decide (i = j) else decide (i = j))) M
  | d, e => viewK d M fun d' => viewK e M fun e' => pl 8 d' = true ∧ pl 8 e' = true ∧ Q (.bl (if neg then !beq d' e' else beq d' e')) M
theorem sim_eqA {K : PySem.W.Frag} : SimR (rEqD K) (rdEqA false) := fun x y d e H Hi M N Q R rx ry w h k => by
  unfold rdEqA at h
  split at h
  · cases (show x = .int _ from rx); cases (show y = .int _ from ry)
    refine ⟨_, _, .int _, .int _, ?_, ?_, k _ H Hi (.bl _) M (Ext.refl _) w (by simp [Rep, PyData.eqv, Bool.beq_eq_decide_eq]) h⟩ <;> exact pl_shaped (d := .int _) rfl
  · obtain ⟨d', h, h1⟩ := view_dp (K := K) rx w h
    obtain ⟨e', ⟨p1, p2, h⟩, h2⟩ := view_dp (K := K) ry w h
    refine ⟨_, _, h1 p1, h2 p2, pl_shaped p1, pl_shaped p2, k _ H Hi (.bl _) M (Ext.refl _) w ?_ h⟩
    rw [eqv_beq 8 8 _ _ p1 p2]; rfl
theorem sim_neA {K : PySem.W.Frag} : SimR (rNeD K) (rdEqA true) := fun x y d e H Hi M N Q R rx ry w h k => by
  unfold rdEqA at h
  split at h
  · cases (show x = .int _ from rx); cases (show y = .int _ from ry)
    refine ⟨_, _, .int _, .int _, ?_, ?_, k _ H Hi (.bl _) M (Ext.refl _) w (by simp [Rep, PyData.eqv, Bool.beq_eq_decide_eq]) h⟩ <;> exact pl_shaped (d := .int _) rfl
  · obtain ⟨d', h, h1⟩ := view_dp (K := K) rx w h
    obtain ⟨e', ⟨p1, p2, h⟩, h2⟩ := view_dp (K := K) ry w h
    refine ⟨_, _, h1 p1, h2 p2, pl_shaped p1, pl_shaped p2, k _ H Hi (.bl _) M (Ext.refl _) w ?_ h⟩
    rw [eqv_beq 8 8 _ _ p1 p2]; rfl
/-- is None -/
def isN : D → Bool
  | .non => true
  | _ => false
def rdIsN (neg : Bool) : RD := fun d e M Q => match e with
  | .non => Q (.bl (if neg then !isN d else isN d)) M
  | _ => False
theorem isN_dec {Hi : Hp} {d : D} {v : V} (r : Rep Hi d v) : decide (v = .non) = isN d := by
  cases d with
  | non => cases (show v = .non from r); rfl
  | bl _ => cases (show v = .bl _ from r); rfl
  | int _ => cases (show v = .int _ from r); rfl
  | str _ => cases (show v = .str _ from r); rfl
  | ty _ => cases (show v = .ty _ from r); rfl
  | ref _ => cases (show v = .ref _ from r); rfl
  | tup _ => obtain ⟨_, _, rfl, _⟩ := r; rfl
  | tupx _ => obtain ⟨_, _, _, rfl, _⟩ := r; rfl
  | lst _ => obtain ⟨_, _, rfl, _⟩ := r; rfl
  | scr _ => obtain ⟨_, _, rfl, _⟩ := r; rfl
  | obj _ _ _ => obtain ⟨_, _, _, rfl, _⟩ := r; rfl
theorem sim_isN : SimR (fun x y H Q => y = .non ∧ Q (.bl (decide (x = .non))) H) (rdIsN false) := fun x y d e H Hi M N Q R rx ry w h k => by
  unfold rdIsN at h
  split at h
  · exact ⟨ry, k _ H Hi (.bl _) M (Ext.refl _) w (by rw [isN_dec rx]; rfl) h⟩
  · exact h.elim
theorem sim_notN : SimR (fun x y H Q => y = .non ∧ Q (.bl (!decide (x = .non))) H) (rdIsN true) := fun x y d e H Hi M N Q R rx ry w h k => by
  unfold rdIsN at h
  split at h
  · exact ⟨ry, k _ H Hi (.bl _) M (Ext.refl _) w (by rw [isN_dec rx]; rfl) h⟩
  · exact h.elim
/-- in a list, a tuple, of plain data -/
def rdIn (neg : Bool) : RD := fun d e M Q => seqK e M fun ds => viewK d M fun d' => pl 7 d' = true ∧ ds.all (pl 7) = true ∧ Q (.bl (if neg then !ds.any (fun z => beq z d') else ds.any (fun z => beq z d'))) M
def rInA (K : PySem.W.Frag) (neg : Bool) : R2 := fun x y H Q => ∃ d ds, Dp K H x d ∧ (Dp K H y (.list ds) ∨ Dp K H y (.tuple ds)) ∧ SeqAt.shaped d = true ∧ SeqAt.shaped (.list ds) = true ∧ Q (.bl (if neg then !ds.any (fun z => PyData.eqv z d) else ds.any fun z => PyData.eqv z d)) H
section
variable {X : Cx}
theorem or_in (hu : X.A.units + 65 < cLine) : OpR X (compareOp .In) (rInA X.K false) := by
  intro pins s σ H x y v u Q I rx ry h
  obtain ⟨d, ds, hd, he, sd, se, q⟩ := h
  obtain ⟨as, r1⟩ := Dp.reads I d x v hd rx
  rcases he with he | he
  · obtain ⟨bs, r2⟩ := Dp.reads I (.list ds) y u he ry
    exact SeqAt.in_list_reads r2 r1 (SeqAt.canLay_of_shaped se) (SeqAt.canLay_of_shaped sd) (PyProof.Rows.room_in_shaped sd hu) ⟨.bl _, H, I, rfl, q⟩
  · obtain ⟨bs, r2⟩ := Dp.reads I (.tuple ds) y u he ry
    exact SeqAt.in_tuple_reads r2 r1 (SeqAt.canLay_of_shaped se) (SeqAt.canLay_of_shaped sd) (PyProof.Rows.room_in_shaped sd hu) ⟨.bl _, H, I, rfl, q⟩
theorem or_notIn (hu : X.A.units + 65 < cLine) : OpR X (compareOp .NotIn) (rInA X.K true) := by
  intro pins s σ H x y v u Q I rx ry h
  obtain ⟨d, ds, hd, he, sd, se, q⟩ := h
  obtain ⟨as, r1⟩ := Dp.reads I d x v hd rx
  rcases he with he | he
  · obtain ⟨bs, r2⟩ := Dp.reads I (.list ds) y u he ry
    exact SeqAt.notIn_list_reads r2 r1 (SeqAt.canLay_of_shaped se) (SeqAt.canLay_of_shaped sd) (PyProof.Rows.room_in_shaped sd hu) ⟨.bl _, H, I, rfl, q⟩
  · obtain ⟨bs, r2⟩ := Dp.reads I (.tuple ds) y u he ry
    exact SeqAt.notIn_tuple_reads r2 r1 (SeqAt.canLay_of_shaped se) (SeqAt.canLay_of_shaped sd) (PyProof.Rows.room_in_shaped sd hu) ⟨.bl _, H, I, rfl, q⟩
end
theorem any_beq : ∀ {ds : List D} {d : D}, pl 7 d = true → ds.all (pl 7) = true → ((toPyL ds).any fun z => PyData.eqv z (toPy d)) = ds.any fun z => beq z d
  | [], _, _, _ => rfl
  | z :: ds, d, h, h2 => by
    rw [List.all_cons, Bool.and_eq_true] at h2
    simp only [toPyL, List.any_cons, eqv_beq 7 7 z d h2.1 h, any_beq (ds := ds) h h2.2]
theorem view_dp7 {K : PySem.W.Frag} {Hi : Hp} {d : D} {v : V} {M N : Cells} {H : Hp} {k : D → Prop} (r : Rep Hi d v) (w : Own Hi (M ++ N) H) (h : viewK d M k) : ∃ d', k d' ∧ (pl 7 d' = true → Dp K H v (toPy d')) := by
  unfold viewK at h
  split at h
  · rename_i a
    obtain ⟨i, ds, e, h⟩ := h
    obtain ⟨_, o, ho, vs, rfl, rv⟩ := w.getL e
    exact ⟨_, h, fun hp => by cases (show v = .ref a from r); exact .lst (SqL.of ho) (rep_dpL w.ext 6 hp rv)⟩
  · exact ⟨_, h, fun hp => rep_dp w.ext 7 hp r⟩
theorem pl7_shaped {d : D} (h : pl 7 d = true) : SeqAt.shaped (toPy d) = true := by
  obtain ⟨h1, h2⟩ := pl_ok 7 d h
  unfold SeqAt.shaped
  rw [h1, decide_eq_true (show (toPy d).depth ≤ 64 by omega)]
  rfl
theorem plL_shaped {ds : List D} (h : ds.all (pl 7) = true) : SeqAt.shaped (.list (toPyL ds)) = true := by
  obtain ⟨h1, h2⟩ := plL_ok 7 ds h
  unfold SeqAt.shaped
  rw [show (PyData.list (toPyL ds)).canLay0 = true by simpa [PyData.canLay0] using h1, decide_eq_true (show (PyData.list (toPyL ds)).depth ≤ 64 by simp only [PyData.depth]; omega)]
  rfl
theorem sim_in {K : PySem.W.Frag} {neg : Bool} : SimR (rInA K neg) (rdIn neg) := fun x y d e H Hi M N Q R rx ry w h k => by
  obtain ⟨a, vs, ds, rfl, h1, r1, h⟩ := seq_at (K := K) ry w h
  obtain ⟨d', ⟨p1, p2, h⟩, h3⟩ := view_dp7 (K := K) rx w h
  refine ⟨_, toPyL ds, h3 p1, ?_, pl7_shaped p1, plL_shaped p2, k _ H Hi (.bl _) M (Ext.refl _) w ?_ h⟩
  · rcases h1 with h1 | h1
    · exact .inl (.lst h1 (rep_dpL w.ext 7 p2 r1))
    · exact .inr (.tup h1 (rep_dpL w.ext 7 p2 r1))
  · rw [any_beq p1 p2]; rfl
/-- a chain of two comparisons -/
def xChain (rd rd' : RD) (ta tb tc : XE) : XE := fun ds M Q => ta ds M fun d M1 => tb ds M1 fun e M2 => rd d e M2 (blK fun c M3 => if c = true then tc ds M3 fun f M4 => rd' e f M4 Q else Q (.bl false) M3)
section
variable {X : Cx} {a b c : Expr} {ta tb tc : XE} {pos : Pos}
theorem sim_chain {r r' : R2} {rd rd' : RD} {pa pb pc : TE} (hr : SimR r rd) (hr' : SimR r' rd') (ha : SimE pa ta) (hb : SimE pb tb) (hc : SimE pc tc) : SimE (tChain r r' pa pb pc) (xChain rd rd' ta tb tc) := by
  intro σ H Hi ds M N Q R hl w h k
  refine ha σ H Hi ds M N _ _ hl w h ?_
  intro v1 H1 Hi1 d1 M1 e1 w1 r1 q1
  refine hb σ H1 Hi1 ds M1 N _ _ (hl.mono e1) w1 q1 ?_
  intro v2 H2 Hi2 d2 M2 e2 w2 r2 q2
  refine hr v1 v2 d1 d2 H2 Hi2 M2 N _ _ (r1.mono e2) r2 w2 q2 ?_
  intro v3 H3 Hi3 d3 M3 e3 w3 r3 q3
  obtain ⟨b, rfl, q⟩ := rep_bl r3 q3
  refine ⟨b, rfl, ?_⟩
  cases b with
  | false => exact k (.bl false) H3 Hi3 (.bl false) M3 ((e1.trans e2).trans e3) w3 rfl q
  | true =>
    refine hc σ H3 Hi3 ds M3 N _ _ (hl.mono ((e1.trans e2).trans e3)) w3 q ?_
    intro v4 H4 Hi4 d4 M4 e4 w4 r4 q4
    refine hr' v2 v4 d2 d4 H4 Hi4 M4 N _ _ (r2.mono (e3.trans e4)) r4 w4 q4 ?_
    intro v5 H5 Hi5 d5 M5 e5
    exact k v5 H5 Hi5 d5 M5 ((((e1.trans e2).trans e3).trans e4).trans e5)
theorem de_chain {op op' : CmpOp} {r r' : R2} {rd rd' : RD} (ho : OpR X (compareOp op) r) (ho' : OpR X (compareOp op') r') (hr : SimR r rd) (hr' : SimR r' rd') (ha : DE X a ta) (hb : DE X b tb) (hc : DE X c tc)
    (hm : lastMarks [op, op'] [b, c] = false := by with_unfolding_all rfl) : DE X (.Compare a [op, op'] [b, c] pos) (xChain rd rd' ta tb tc) := by
  obtain ⟨pa, ha1, ha2⟩ := ha.ex
  obtain ⟨pb, hb1, hb2⟩ := hb.ex
  obtain ⟨pc, hc1, hc2⟩ := hc.ex
  exact ⟨_, pe_chain ho ho' ha1 hb1 hc1 hm, sim_chain hr hr' ha2 hb2 hc2⟩
theorem dt_chain {op op' : CmpOp} {r r' : R2} {rd rd' : RD} (ho : OpR X (compareOp op) r) (ho' : OpR X (compareOp op') r') (hr : SimR r rd) (hr' : SimR r' rd') (ha : DE X a ta) (hb : DE X b tb) (hc : DE X c tc)
    (hm : lastMarks [op, op'] [b, c] = false := by with_unfolding_all rfl) : DT X (.Compare a [op, op'] [b, c] pos) (xB (xChain rd rd' ta tb tc)) := by
  obtain ⟨pa, ha1, ha2⟩ := ha.ex
  obtain ⟨pb, hb1, hb2⟩ := hb.ex
  obtain ⟨pc, hc1, hc2⟩ := hc.ex
  exact ⟨_, pt_chain ho ho' ha1 hb1 hc1 hm, sim_B (sim_chain hr hr' ha2 hb2 hc2)⟩
/-- - on ints -/
def xUn (g : Int → Int) (ta : XE) : XE := fun ds M Q => ta ds M fun d M1 => match d with
  | .int i => Q (.int (g i)) M1
  | _ => False
theorem de_neg (ha : DE X a ta) : DE X (.UnaryOp .USub a pos) (xUn (fun i => -i) ta) := by
  obtain ⟨pa, ha1, ha2⟩ := ha.ex
  refine ⟨_, pe_un un_neg ha1, fun σ H Hi ds M N Q R hl w h k => ha2 σ H Hi ds M N _ _ hl w h fun v H1 Hi1 d M1 e1 w1 r1 q1 => ?_⟩
  split at q1
  · exact ⟨_, r1, k _ H1 Hi1 (.int _) M1 e1 w1 rfl q1⟩
  · exact q1.elim
end
end DL

set_option Elab.async false
set_option linter.all false
set_option maxRecDepth 100000
set_option maxHeartbeats 4000000
namespace DL
open PySem PySem.Spec L2

section
variable {X : Cx} {st : Stmt} {rest : List Stmt} {t u : XS} {e : Expr} {te : XE} {pos : Pos}
/-! ### blocks, small statements -/
def xNext : XS := fun D ds M => D.nx ds M
def xSeq (t u : XS) : XS := fun D ds M => t { D with nx := u D } ds M
theorem dss_nil : DSs X [] xNext := ⟨_, pss_nil, fun σ H Hi ds M N D E hl w h k => k.nx σ H Hi ds M (Ext.refl _) hl w h⟩
theorem dss_cons (h1 : DS X st t) (h2 : DSs X rest u) : DSs X (st :: rest) (xSeq t u) := by
  obtain ⟨pa, a1, a2⟩ := h1.ex
  obtain ⟨pb, b1, b2⟩ := h2.ex
  refine ⟨_, pss_cons a1 b1, fun σ H Hi ds M N D E hl w h k => ?_⟩
  refine a2 σ H Hi ds M N _ _ hl w h ⟨fun σ' H' Hi' ds' M' x hl' w' q => ?_, k.rt, k.bk, k.ct⟩
  exact b2 σ' H' Hi' ds' M' N D E hl' w' q (k.mono x)
theorem dss_one (h1 : DS X st t) : DSs X [st] t := by
  obtain ⟨pa, a1, a2⟩ := h1.ex
  exact ⟨_, pss_one a1, a2⟩
def xBreak : XS := fun D ds M => D.bk ds M
def xCont : XS := fun D ds M => D.ct ds M
theorem ds_pass : DS X (.Pass pos) xNext := ⟨_, ps_pass, fun σ H Hi ds M N D E hl w h k => k.nx σ H Hi ds M (Ext.refl _) hl w h⟩
theorem ds_break : DS X (.Break pos) xBreak := ⟨_, ps_break, fun σ H Hi ds M N D E hl w h k => k.bk σ H Hi ds M (Ext.refl _) hl w h⟩
theorem ds_continue : DS X (.Continue pos) xCont := ⟨_, ps_continue, fun σ H Hi ds M N D E hl w h k => k.ct σ H Hi ds M (Ext.refl _) hl w h⟩
def xDrop (te : XE) : XS := fun D ds M => te ds M fun _ M1 => D.nx ds M1
theorem ds_expr (he : DE X e te) (hs : swapsWith e none pos.line X.env = pure false := by rfl) : DS X (.Expr e pos) (xDrop te) := by
  obtain ⟨pa, a1, a2⟩ := he.ex
  refine ⟨_, ps_expr a1 hs, fun σ H Hi ds M N D E hl w h k => ?_⟩
  exact a2 σ H Hi ds M N _ _ hl w h fun v H1 Hi1 d M1 e1 w1 r1 q1 => k.nx σ H1 Hi1 ds M1 e1 (hl.mono e1) w1 q1
def xRet (te : XE) : XS := fun D ds M => te ds M D.rt
theorem ds_ret (he : DE X e te) : DS X (.Return (some e) pos) (xRet te) := by
  obtain ⟨pa, a1, a2⟩ := he.ex
  exact ⟨_, ps_ret a1, fun σ H Hi ds M N D E hl w h k => a2 σ H Hi ds M N _ _ hl w h k.rt⟩
def xRetN : XS := fun D ds M => D.rt .non M
theorem ds_retN : DS X (.Return none pos) xRetN := ⟨_, ps_retN, fun σ H Hi ds M N D E hl w h k => k.rt .non H Hi .non M (Ext.refl _) w rfl h⟩
def xIfS (c : XT) (t u : XS) : XS := fun D ds M => c ds M fun b M1 => if b = true then t D ds M1 else u D ds M1
theorem ds_if {c : Expr} {a b : List Stmt} {tc : XT} (hc : DT X c tc) (ha : DSs X a t) (hb : DSs X b u) : DS X (.If c a b pos) (xIfS tc t u) := by
  obtain ⟨pc, c1, c2⟩ := hc.ex
  obtain ⟨pa, a1, a2⟩ := ha.ex
  obtain ⟨pb, b1, b2⟩ := hb.ex
  refine ⟨_, ps_if c1 a1 b1, fun σ H Hi ds M N D E hl w h k => ?_⟩
  refine c2 σ H Hi ds M N _ _ hl w h fun b H1 Hi1 M1 e1 w1 q1 => ?_
  cases b with
  | true => exact a2 σ H1 Hi1 ds M1 N D E (hl.mono e1) w1 q1 (k.mono e1)
  | false => exact b2 σ H1 Hi1 ds M1 N D E (hl.mono e1) w1 q1 (k.mono e1)
/-- code that the proof never comes to -/
def xNever : XS := fun _ _ _ => False
theorem ds_never : DS X st xNever := ⟨_, ps_never, fun _ _ _ _ _ _ _ _ _ _ h _ => h.elim⟩
theorem dss_never {sts : List Stmt} : DSs X sts xNever := ⟨_, pss_never, fun _ _ _ _ _ _ _ _ _ _ h _ => h.elim⟩

/-! ### targets -/
def xgName (i : Nat) : XG := fun d ds M Q => Q (ds.set i (some d)) M
theorem dg_name {i : Nat} {x : Str} (hN : X.N.Nodup) (hi : X.N[i]? = some x) (hx : L2.Loc X.env.scope x) (hf : X.fn x = true ∨ X.env.scope.names.lookup x = some .local := by first | exact .inl rfl | exact .inr rfl | assumption) : DG X (.Name x pos) (xgName i) :=
  ⟨_, pg_name hN hi hx hf, fun v d σ H Hi ds M N Q R r hl w q k => k _ H Hi _ M (Ext.refl _) (hl.set r i) w q⟩
def xgNil : XGs := fun es ds M Q => match es with
  | [] => Q ds M
  | _ => False
def xgCons (g : XG) (gs : XGs) : XGs := fun es ds M Q => match es with
  | d :: r => g d ds M fun ds1 M1 => gs r ds1 M1 Q
  | [] => False
theorem dgs_nil : DGs X [] xgNil := ⟨_, pgs_nil, fun vs es σ H Hi ds M N Q R r hl w q k => by
  cases es with
  | nil => cases r; exact ⟨rfl, k σ H Hi ds M (Ext.refl _) hl w q⟩
  | cons _ _ => exact q.elim⟩
theorem dgs_cons {es : List Expr} {g : XG} {gs : XGs} (h1 : DG X e g) (h2 : DGs X es gs) (hs : (assignEach (e :: es) X.env).map (·.2) = assign e X.env :: (assignEach es X.env).map (·.2) := by rfl) : DGs X (e :: es) (xgCons g gs) := by
  obtain ⟨pa, a1, a2⟩ := h1.ex
  obtain ⟨pb, b1, b2⟩ := h2.ex
  refine ⟨_, pgs_cons a1 b1 hs, fun vs es σ H Hi ds M N Q R r hl w q k => ?_⟩
  cases es with
  | nil => exact q.elim
  | cons d es =>
    obtain ⟨v, vr, rfl, r1, r2⟩ := r
    refine ⟨v, vr, rfl, a2 v d σ H Hi ds M N _ _ r1 hl w q fun σ1 H1 Hi1 ds1 M1 e1 hl1 w1 q1 => ?_⟩
    exact b2 vr es σ1 H1 Hi1 ds1 M1 N _ _ (r2.mono e1) hl1 w1 q1 fun σ2 H2 Hi2 ds2 M2 e2 => k σ2 H2 Hi2 ds2 M2 (e1.trans e2)
/-- (a, b, ..) = a tuple of that length -/
def xgTup (n : Nat) (gs : XGs) : XG := fun d ds M Q => tupK d fun es => es.length = n ∧ gs es ds M Q
theorem dg_tup {es : List Expr} {k : Nat} {gs : XGs} {n : Nat} (hc : X.calm = true) (h : DGs X es gs) (hn : (assignEach es X.env).length = n := by rfl) (hst : (assignEach es X.env).findIdx? (·.1) = none := by rfl) : DG X (.Tuple es k pos) (xgTup n gs) := by
  obtain ⟨pa, a1, a2⟩ := h.ex
  refine ⟨_, pg_tup hc a1 hn hst, fun v d σ H Hi ds M N Q R r hl w q kk => ?_⟩
  obtain ⟨a, vs, es', rfl, h1, r1, hln, q⟩ := tup_at (K := X.K) r w q
  exact ⟨a, vs, rfl, h1, r1.length.symm.trans hln, a2 vs es' σ H Hi ds M N _ _ r1 hl w q kk⟩
/-- o[i] = .., a list's item -/
abbrev XSet := D → D → D → Cells → (Cells → Prop) → Prop
def SimSet (ps : TSet) (t : XSet) : Prop := ∀ (x y z : V) (o i v : D) (H Hi : Hp) (M N : Cells) (Q : Cells → Prop) (R : Hp → Prop), Rep Hi o x → Rep Hi i y → Rep Hi v z → Own Hi (M ++ N) H → t o i v M Q → (∀ H' M', Own Hi (M' ++ N) H' → Q M' → R H') → ps x y z H R
def xgSub (to ti : XE) (t : XSet) : XG := fun v ds M Q => to ds M fun o M1 => ti ds M1 fun i M2 => t o i v M2 fun M3 => Q ds M3
theorem dg_sub {o i : Expr} {to ti : XE} {ps : TSet} {t : XSet} (hp : PSet X ps) (hs : SimSet ps t) (ho : DE X o to) (hi : DE X i ti)
    (ha : ∀ v, assign (.Subscript o i pos) X.env v = (do
      let ov ← holding [v] (eval o X.env)
      let iv ← holding [v, ov] (eval i X.env)
      standAt pos
      holding [v, ov, iv] (setItem ov iv v)
      release [v, ov, iv] []) := by intro _; rfl) : DG X (.Subscript o i pos) (xgSub to ti t) := by
  obtain ⟨pa, a1, a2⟩ := ho.ex
  obtain ⟨pb, b1, b2⟩ := hi.ex
  refine ⟨_, pg_sub a1 b1 hp ha, fun v d σ H Hi ds M N Q R r hl w q k => ?_⟩
  refine a2 σ H Hi ds M N _ _ hl w q ?_
  intro v1 H1 Hi1 d1 M1 e1 w1 r1 q1
  refine b2 σ H1 Hi1 ds M1 N _ _ (hl.mono e1) w1 q1 ?_
  intro v2 H2 Hi2 d2 M2 e2 w2 r2 q2
  refine hs v1 v2 v d1 d2 d H2 Hi2 M2 N _ _ (r1.mono e2) r2 (r.mono (e1.trans e2)) w2 q2 fun H3 M3 w3 q3 => ?_
  exact k σ H3 Hi2 ds M3 (e1.trans e2) (hl.mono (e1.trans e2)) w3 q3
def setL : XSet := fun o i v M k => match o, i with
  | .ref a, .int n => ∃ (p : Nat) (xs : List D) (j : Nat), M[p]? = some (a, MO.lst xs) ∧ ixN xs.length n = some j ∧ k (M.set p (a, MO.lst (xs.set j v)))
  | _, _ => False
theorem sim_setL : SimSet rSetL setL := fun x y z o i v H Hi M N Q R ro ri rv w h k => by
  unfold setL at h
  split at h
  · rename_i a n
    obtain ⟨p, xs, j, e, hj, h⟩ := h
    obtain ⟨_, ob, ho, vs, rfl, r⟩ := w.getL e
    refine ⟨a, vs, n, j, ro, ri, ho, by rw [← r.length]; exact hj, k _ _ (w.write' (m' := .lst (xs.set j v)) e ⟨_, rfl, r.set rv j⟩) h⟩
  · exact h.elim
/-! ### assignments -/
def xAsg (te : XE) (g : XG) : XS := fun D ds M => te ds M fun d M1 => g d ds M1 D.nx
theorem ds_asg {tg : Expr} {g : XG} (he : DE X e te) (hg : DG X tg g) (hs : swapsWithSole [tg] e pos.line X.env = pure false := by rfl) (hw : swappedStores [tg] e X.env = pure none := by rfl)
    (h1 : (assignEach [tg] X.env).map (·.2) = [assign tg X.env] := by rfl) : DS X (.Assign [tg] e pos) (xAsg te g) := by
  obtain ⟨pa, a1, a2⟩ := he.ex
  obtain ⟨pb, b1, b2⟩ := hg.ex
  refine ⟨_, ps_asg a1 b1 hs hw h1, fun σ H Hi ds M N D E hl w h k => ?_⟩
  refine a2 σ H Hi ds M N _ _ hl w h fun v H1 Hi1 d M1 e1 w1 r1 q1 => ?_
  exact b2 v d σ H1 Hi1 ds M1 N _ _ r1 (hl.mono e1) w1 q1 fun σ' H' Hi' ds' M' x => k.nx σ' H' Hi' ds' M' (e1.trans x)
def xSet (i : Nat) (te : XE) : XS := fun D ds M => te ds M fun d M1 => D.nx (ds.set i (some d)) M1
theorem ds_set {i : Nat} {x : Str} {pos' : Pos} (hN : X.N.Nodup) (he : DE X e te) (hi : X.N[i]? = some x := by rfl) (hx : L2.Loc X.env.scope x := by first | exact Or.inl rfl | exact Or.inr rfl) (hs : swapsWith e (some (.Name x pos')) pos.line X.env = pure false := by rfl)
    (hf : X.fn x = true ∨ X.env.scope.names.lookup x = some .local := by first | exact .inl rfl | exact .inr rfl | assumption) : DS X (.Assign [.Name x pos'] e pos) (xSet i te) := by
  obtain ⟨pa, a1, a2⟩ := he.ex
  refine ⟨_, ps_set hN hi hx a1 hs hf, fun σ H Hi ds M N D E hl w h k => ?_⟩
  exact a2 σ H Hi ds M N _ _ hl w h fun v H1 Hi1 d M1 e1 w1 r1 q1 => k.nx _ H1 Hi1 _ M1 e1 ((hl.mono e1).set r1 i) w1 q1
/-- a, b = x, y with plain local names -/
def xPar (i j : Nat) (ta : XA) : XS := fun D ds M => ta ds M fun es M1 => match es with
  | [d, e] => D.nx ((ds.set i (some d)).set j (some e)) M1
  | _ => False
theorem ds_par {i j : Nat} {x y : Str} {a b : Expr} {ta : XA} {px py pt : Pos} {kt k2 pt2} (hc : X.calm = true) (hN : X.N.Nodup) (hij : i ≠ j) (ha : DA X [a, b] ta) (hi : X.N[i]? = some x := by rfl) (hj : X.N[j]? = some y := by rfl)
    (hx : X.env.scope.names.lookup x = some .local := by rfl) (hy : X.env.scope.names.lookup y = some .local := by rfl)
    (hw : swappedStores [.Tuple [.Name x px, .Name y py] kt pt] (.Tuple [a, b] k2 pt2) X.env = pure (some [x, y]) := by rfl)
    (hs : swapsWithSole [.Tuple [.Name x px, .Name y py] kt pt] (.Tuple [a, b] k2 pt2) pos.line X.env = pure false := by rfl) : DS X (.Assign [.Tuple [.Name x px, .Name y py] kt pt] (.Tuple [a, b] k2 pt2) pos) (xPar i j ta) := by
  obtain ⟨pa, a1, a2⟩ := ha.ex
  refine ⟨_, ps_par hc hN hi hj hij hx hy a1 hw hs, fun σ H Hi ds M N D E hl w h k => ?_⟩
  refine a2 σ H Hi ds M N _ _ hl w h fun vs H1 Hi1 es M1 e1 w1 r1 q1 => ?_
  split at q1
  · obtain ⟨v, r, rfl, r2, v', r', rfl, r3, r4⟩ := r1
    cases r4
    exact ⟨v, v', rfl, k.nx _ H1 Hi1 _ M1 e1 (((hl.mono e1).set r2 i).set r3 j) w1 q1⟩
  · exact q1.elim
/-- name op= e, on ints -/
def xAug (i : Nat) (te : XE) (g : Int → Int → Int) : XS := fun D ds M => match ds[i]? with
  | some (some (.int x)) => te ds M fun d M1 => (match d with
    | .int y => D.nx (ds.set i (some (.int (g x y)))) M1
    | _ => False)
  | _ => False
theorem ds_aug {i : Nat} {x : Str} {op : Operator} {g : Int → Int → Int} {pos' : Pos} (ho : PIp X op (ipI g)) (hN : X.N.Nodup) (he : DE X e te) (hi : X.N[i]? = some x := by rfl) (hx : L2.Loc X.env.scope x := by first | exact Or.inl rfl | exact Or.inr rfl)
    (hf : X.fn x = true ∨ X.env.scope.names.lookup x = some .local := by first | exact .inl rfl | exact .inr rfl | assumption) : DS X (.AugAssign (.Name x pos') op e pos) (xAug i te g) := by
  obtain ⟨pa, a1, a2⟩ := he.ex
  refine ⟨_, ps_aug hN hi hx a1 ho hf, fun σ H Hi ds M N D E hl w h k => ?_⟩
  unfold xAug at h
  split at h
  · rename_i z hz
    obtain ⟨v, h1, h2⟩ := hl.2 i _ hz
    cases (show v = .int z from h2)
    refine ⟨.int z, h1, a2 σ H Hi ds M N _ _ hl w h fun v H1 Hi1 d M1 e1 w1 r1 q1 => ?_⟩
    split at q1
    · rename_i y
      cases (show v = .int y from r1)
      exact ⟨z, y, rfl, rfl, k.nx _ H1 Hi1 _ M1 e1 ((hl.mono e1).set (d := .int (g z y)) rfl i) w1 q1⟩
    · exact q1.elim
  · exact h.elim
/-- o.f = e, o an instance that may change -/
def PutF (f : Str) (d : D) (ns : List Str) (es : List D) (k : List Str → List D → Prop) : Prop := (f ∉ ns ∧ ns.length < 1000 ∧ k (ns ++ [f]) (es ++ [d])) ∨ (∃ j, ixF f ns = some j ∧ ns.length < 1000 ∧ k ns (es.set j d))
def xSetF (C : Addr) (f : Str) (ta tv : XE) : XS := fun Z ds M => tv ds M fun v M1 => ta ds M1 fun o M2 => match o with
  | .ref a => ∃ (i : Nat) (ns : List Str) (es : List D), M2[i]? = some (a, MO.ins C ns es) ∧ PutF f v ns es fun ns' es' => Z.nx ds (M2.set i (a, MO.ins C ns' es'))
  | _ => False
theorem zip_len {α β : Type} {l : List α} {m : List β} (h : l.length = m.length) : (l.zip m).length = l.length := by simp [h]
theorem ds_setF {o value : Expr} {f : Str} {C : Addr} {ta tv : XE} {pos' : Pos} (c : Cls X.K C) (na : NoAttr X.K C f) (ha : DE X o ta) (hv : DE X value tv) (hs : swapsWith value (some (.Attribute o f pos')) pos.line X.env = pure false := by rfl) :
    DS X (.Assign [.Attribute o f pos'] value pos) (xSetF C f ta tv) := by
  obtain ⟨pa, a1, a2⟩ := ha.ex
  obtain ⟨pb, b1, b2⟩ := hv.ex
  refine ⟨_, ps_fld a1 b1 hs, fun σ H Hi ds M N D E hl w h k => ?_⟩
  refine b2 σ H Hi ds M N _ _ hl w h ?_
  intro v1 H1 Hi1 d1 M1 e1 w1 r1 q1
  refine a2 σ H1 Hi1 ds M1 N _ _ (hl.mono e1) w1 q1 ?_
  intro v2 H2 Hi2 d2 M2 e2 w2 r2 q2
  cases d2 with
  | ref a =>
    obtain ⟨i, ns, es, e, q2⟩ := q2
    obtain ⟨_, ob, ho, dx, vs, rfl, hln, rv⟩ := w2.getL e
    have hlv := hln.trans rv.length
    rcases q2 with ⟨hf, hz, q2⟩ | ⟨j, hj, hz, q2⟩
    · refine ⟨a, C, dx, _, r2, ho, c, na, by rw [zip_len hlv]; exact hz, ?_⟩
      rw [putF_new hf hlv]
      exact k.nx σ _ Hi2 ds _ (e1.trans e2) (hl.mono (e1.trans e2)) (w2.write' (m' := .ins C (ns ++ [f]) (es ++ [d1])) e ⟨dx, _, rfl, by simp [hln], rv.append (.cons (r1.mono e2) .nil)⟩) q2
    · refine ⟨a, C, dx, _, r2, ho, c, na, by rw [zip_len hlv]; exact hz, ?_⟩
      rw [ixF_set hj hlv]
      exact k.nx σ _ Hi2 ds _ (e1.trans e2) (hl.mono (e1.trans e2)) (w2.write' (m' := .ins C ns (es.set j d1)) e ⟨dx, _, rfl, by simp [hln], rv.set (r1.mono e2) j⟩) q2
  | _ => exact q2.elim
/-- o.f op= e, ints -/
def xAugF (C : Addr) (ns : List Str) (j : Nat) (g : Int → Int → Int) (ta tv : XE) : XS := fun Z ds M => ta ds M fun o M1 => match o with
  | .ref a => ∃ (i : Nat) (es : List D) (x : Int), M1[i]? = some (a, MO.ins C ns es) ∧ es[j]? = some (.int x) ∧ tv ds M1 fun v M2 => (match v with
    | .int y => ∃ (i : Nat) (es : List D), M2[i]? = some (a, MO.ins C ns es) ∧ Z.nx ds (M2.set i (a, MO.ins C ns (es.set j (.int (g x y)))))
    | _ => False)
  | _ => False
end
end DL

set_option Elab.async false
set_option linter.all false
set_option maxRecDepth 100000
set_option maxHeartbeats 4000000
namespace DL
open PySem PySem.Spec L2

/-! ### what is walked -/
abbrev XI := Loc → Cells → (List D → Cells → Prop) → Prop
structure ItOk (J : It) (Hi : Hp) (items : List D) : Prop where
  go : ∀ (H2 Hi2 : Hp) (W : Cells), Ext Hi Hi2 → Own Hi2 W H2 → ∀ (i : Nat) (d : D), items[i]? = some d → J.go i H2 ∧ ∀ x H3, J.yld i H2 x H3 → ∃ Hi3, Ext Hi2 Hi3 ∧ Own Hi3 W H3 ∧ Rep Hi3 d x
  stop : ∀ (H2 Hi2 : Hp) (W : Cells), Ext Hi Hi2 → Own Hi2 W H2 → ∀ i : Nat, items.length ≤ i → J.stop i H2
def SimI (wi : TI) (t : XI) : Prop := ∀ (σ : L2.St) (H Hi : Hp) (ds : Loc) (M N : Cells) (Q : List D → Cells → Prop) (R : It → Hp → Prop), LocOk Hi ds σ → Own Hi (M ++ N) H → t ds M Q →
  (∀ items H' Hi' M' J, Ext Hi Hi' → Own Hi' (M' ++ N) H' → ItOk J Hi' items → Q items M' → R J H') → wi σ H R
structure DI (X : Cx) (tg iter : Expr) (t : XI) : Prop where
  ex : ∃ wi, PI X tg iter wi ∧ SimI wi t
section
variable {X : Cx} {tg e : Expr} {te : XE} {ta : XA} {pos p : Pos}
/-- a list that stays, a tuple -/
def xiSeq (te : XE) : XI := fun ds M Q => te ds M fun d M1 => match d with
  | .lst es => Q es M1
  | .scr es => Q es M1
  | _ => False
def xiTup (te : XE) : XI := fun ds M Q => te ds M fun d M1 => tupK d fun es => Q es M1
theorem rd_stays {Hi Hi2 H2 : Hp} {W : Cells} {a : Addr} {u : HO} (h : Rd Hi a u) (e : Ext Hi Hi2) (w : Own Hi2 W H2) : Rd H2 a u := w.ext.rd (e.rd h)
theorem it_l' {K : PySem.W.Frag} {Hi : Hp} {a : Addr} {vs : List V} {es : List D} (h : Rd Hi a (.lst vs)) (r : RepL Hi es vs) : ItOk (Itl K a) Hi es where
  go := fun H2 Hi2 W e w i d hd => by
    obtain ⟨v, h1, h2⟩ := r.get hd
    refine ⟨⟨vs, v, .inl (rd_stays h e w), h1⟩, fun x H3 y => ?_⟩
    obtain ⟨rfl, y⟩ := y
    have q := y vs (.inl (rd_stays h e w))
    rw [h1] at q
    cases q
    exact ⟨Hi2, Ext.refl _, w, h2.mono e⟩
  stop := fun H2 Hi2 W e w i hi => ⟨vs, .inl (rd_stays h e w), by rw [← r.length]; exact hi⟩
theorem it_t {K : PySem.W.Frag} {Hi : Hp} {a : Addr} {vs : List V} {es : List D} (h : Rd Hi a (.tup vs)) (r : RepL Hi es vs) : ItOk (Itt K a) Hi es where
  go := fun H2 Hi2 W e w i d hd => by
    obtain ⟨v, h1, h2⟩ := r.get hd
    refine ⟨⟨vs, v, .inl (rd_stays h e w), h1⟩, fun x H3 y => ?_⟩
    obtain ⟨rfl, y⟩ := y
    have q := y vs (.inl (rd_stays h e w))
    rw [h1] at q
    cases q
    exact ⟨Hi2, Ext.refl _, w, h2.mono e⟩
  stop := fun H2 Hi2 W e w i hi => ⟨vs, .inl (rd_stays h e w), by rw [← r.length]; exact hi⟩
theorem di_seq (he : DE X e te) : DI X tg e (xiSeq te) := by
  obtain ⟨pa, a1, a2⟩ := he.ex
  refine ⟨_, pi_list a1, fun σ H Hi ds M N Q R hl w h k => ?_⟩
  refine a2 σ H Hi ds M N _ _ hl w h fun v H1 Hi1 d M1 e1 w1 r1 q1 => ?_
  split at q1
  · obtain ⟨a, vs, rfl, h1, r⟩ := r1
    exact ⟨a, rfl, ⟨vs, SqL.of (w1.ext _ _ h1)⟩, k _ H1 Hi1 M1 _ e1 w1 (it_l' (.inl h1) r) q1⟩
  · obtain ⟨a, vs, rfl, h1, r⟩ := r1
    exact ⟨a, rfl, ⟨vs, .inl (w1.ext.rd h1)⟩, k _ H1 Hi1 M1 _ e1 w1 (it_l' h1 r) q1⟩
  · exact q1.elim
theorem di_tup (he : DE X e te) : DI X tg e (xiTup te) := by
  obtain ⟨pa, a1, a2⟩ := he.ex
  refine ⟨_, pi_tup a1, fun σ H Hi ds M N Q R hl w h k => ?_⟩
  refine a2 σ H Hi ds M N _ _ hl w h fun v H1 Hi1 d M1 e1 w1 r1 q1 => ?_
  unfold tupK at q1
  split at q1
  · obtain ⟨a, vs, rfl, h1, r⟩ := r1
    exact ⟨a, rfl, ⟨vs, SqT.of (w1.ext _ _ h1)⟩, k _ H1 Hi1 M1 _ e1 w1 (it_t (.inl h1) r) q1⟩
  · obtain ⟨a, vs, o, rfl, h1, _, r⟩ := r1
    exact ⟨a, rfl, ⟨vs, .inl (.inr ⟨o, w1.ext _ _ h1⟩)⟩, k _ H1 Hi1 M1 _ e1 w1 (it_t (.inr ⟨o, h1⟩) r) q1⟩
  · exact q1.elim
/-- lo, lo + 1, .. below hi -/
def rng (lo hi : Int) : List D := (List.range (hi - lo).toNat).map fun i => D.int (lo + (i : Nat))
theorem it_r {Hi : Hp} {lo : Int} {n : Nat} : ItOk (Itr lo n) Hi ((List.range n).map fun i => D.int (lo + (i : Nat))) where
  go := fun H2 Hi2 W e w i d hd => by
    rw [List.getElem?_map] at hd
    cases h : (List.range n)[i]? with
    | none => rw [h] at hd; cases hd
    | some j =>
      rw [h] at hd
      cases hd
      obtain ⟨hi, hj⟩ := List.getElem?_eq_some_iff.mp h
      rw [List.getElem_range] at hj
      subst hj
      refine ⟨(by simpa using hi : i < n), fun x H3 y => ?_⟩
      obtain ⟨rfl, rfl⟩ := y
      exact ⟨Hi2, Ext.refl _, w, rfl⟩
  stop := fun H2 Hi2 W e w i hi => (by simpa using hi : n ≤ i)
def Small (i : Int) : Prop := -(2 ^ 62) ≤ i ∧ i < 2 ^ 62
def xiR1 (ta : XE) : XI := fun ds M Q => ta ds M fun d M1 => match d with
  | .int j => Small j ∧ Q (rng 0 j) M1
  | _ => False
def xiR2 (ta tb : XE) : XI := fun ds M Q => ta ds M fun d M1 => tb ds M1 fun e M2 => match d, e with
  | .int i, .int j => (Small i ∧ Small j) ∧ Q (rng i j) M2
  | _, _ => False
theorem di_r1 {a : Expr} {ta : XE} (hm : X.mg "range" = none) (ha : DE X a ta) (hg : Gl X "range" := by rfl) (hs : starEach [a] X.env = [(false, eval a X.env)] := by rfl) : DI X tg (.Call (.Name "range" p) [a] [] pos) (xiR1 ta) := by
  obtain ⟨pa, a1, a2⟩ := ha.ex
  refine ⟨_, pi_range1 hg hm (pa_cons a1 pa_nil hs) hs, fun σ H Hi ds M N Q R hl w h k => ?_⟩
  refine a2 σ H Hi ds M N _ _ hl w h fun v H1 Hi1 d M1 e1 w1 r1 q1 => ?_
  split at q1
  · rename_i j
    cases (show v = .int j from r1)
    refine ⟨j, rfl, q1.1.1, q1.1.2, ?_⟩
    have e : (j - 0).toNat = j.toNat := by rw [Int.sub_zero]
    have q2 := q1.2
    unfold rng at q2
    rw [e] at q2
    exact k _ H1 Hi1 M1 _ e1 w1 it_r q2
  · exact q1.elim
theorem di_r2 {a b : Expr} {ta tb : XE} (hm : X.mg "range" = none) (ha : DE X a ta) (hb : DE X b tb) (hg : Gl X "range" := by rfl) (hs : starEach [a, b] X.env = [(false, eval a X.env), (false, eval b X.env)] := by rfl) (hs2 : starEach [b] X.env = [(false, eval b X.env)] := by rfl) :
    DI X tg (.Call (.Name "range" p) [a, b] [] pos) (xiR2 ta tb) := by
  obtain ⟨pa, a1, a2⟩ := ha.ex
  obtain ⟨pb, b1, b2⟩ := hb.ex
  refine ⟨_, pi_range2 hg hm (pa_cons a1 (pa_cons b1 pa_nil hs2) (by rw [hs, hs2])) hs hs2, fun σ H Hi ds M N Q R hl w h k => ?_⟩
  refine a2 σ H Hi ds M N _ _ hl w h ?_
  intro v H1 Hi1 d M1 e1 w1 r1 q1
  refine b2 σ H1 Hi1 ds M1 N _ _ (hl.mono e1) w1 q1 ?_
  intro v2 H2 Hi2 d2 M2 e2 w2 r2 q2
  split at q2
  · rename_i i j
    cases (show v = .int i from r1)
    cases (show v2 = .int j from r2)
    exact ⟨i, j, rfl, ⟨q2.1.1.1, q2.1.1.2, q2.1.2.1, q2.1.2.2⟩, k _ H2 Hi2 M2 _ (e1.trans e2) w2 it_r q2.2⟩
  · exact q2.elim
/-- enumerate(a list that stays) -/
def numbered : Nat → List D → List D
  | _, [] => []
  | n, d :: ds => .tup [.int (n : Nat), d] :: numbered (n + 1) ds
theorem numbered_get : ∀ {ds : List D} {n i : Nat} {e : D}, (numbered n ds)[i]? = some e → ∃ d, ds[i]? = some d ∧ e = .tup [.int ((n + i : Nat) : Int), d]
  | [], _, _, _, h => by simp [numbered] at h
  | d :: ds, n, 0, e, h => by simp [numbered] at h; exact ⟨d, rfl, by rw [← h]; rfl⟩
  | d :: ds, n, i + 1, e, h => by
    obtain ⟨d', h1, h2⟩ := numbered_get (ds := ds) (n := n + 1) (i := i) (by simpa [numbered] using h)
    exact ⟨d', by simpa using h1, by rw [h2, Nat.add_assoc, Nat.add_comm 1 i]⟩
theorem numbered_len : ∀ {ds : List D} {n : Nat}, (numbered n ds).length = ds.length
  | [], _ => rfl
  | _ :: _, _ => congrArg Nat.succ numbered_len
theorem new_pair {Hi H : Hp} {W : Cells} {T : Addr} {d e : D} {x y : V} (w : Own Hi W H) (hT : H T = none) (r1 : Rep Hi d x) (r2 : Rep Hi e y) : ∃ Hi3, Ext Hi Hi3 ∧ Own Hi3 W (upd H T (.tup [x, y])) ∧ Rep Hi3 (.tup [d, e]) (.ref T) :=
  ⟨upd Hi T (.tup [x, y]), Ext.new (w.ext.free hT), w.laid hT, ⟨T, [x, y], rfl, upd_same, .cons (r1.mono (Ext.new (w.ext.free hT))) (.cons (r2.mono (Ext.new (w.ext.free hT))) .nil)⟩⟩
theorem it_e {K : PySem.W.Frag} {Hi : Hp} {a : Addr} {vs : List V} {es : List D} (h : Rd Hi a (.lst vs)) (r : RepL Hi es vs) : ItOk (Ite K a) Hi (numbered 0 es) where
  go := fun H2 Hi2 W e w i d hd => by
    obtain ⟨d', h0, rfl⟩ := numbered_get hd
    obtain ⟨v, h1, h2⟩ := r.get h0
    refine ⟨⟨vs, v, .inl (rd_stays h e w), h1⟩, fun x H3 y => ?_⟩
    obtain ⟨T, x', rfl, hT, rfl, y⟩ := y
    have q := y vs (.inl (rd_stays h e w))
    rw [h1] at q
    cases q
    rw [Nat.zero_add]
    exact new_pair w hT (d := .int ((i : Nat) : Int)) rfl (h2.mono e)
  stop := fun H2 Hi2 W e w i hi => ⟨vs, .inl (rd_stays h e w), by rw [← r.length, ← numbered_len (n := 0)]; exact hi⟩
theorem di_enum {elts : List Expr} {kk : Nat} {tpos : Pos} (hm : X.mg "enumerate" = none) (he : DE X e te) (hg : Gl X "enumerate" := by rfl) (hs : starEach [e] X.env = [(false, eval e X.env)] := by rfl) :
    DI X (.Tuple elts kk tpos) (.Call (.Name "enumerate" p) [e] [] pos) (fun ds M Q => xiSeq te ds M fun es M1 => Q (numbered 0 es) M1) := by
  obtain ⟨pa, a1, a2⟩ := he.ex
  refine ⟨_, pi_enum hg hm (pa_cons a1 pa_nil hs) hs, fun σ H Hi ds M N Q R hl w h k => ?_⟩
  refine a2 σ H Hi ds M N _ _ hl w h fun v H1 Hi1 d M1 e1 w1 r1 q1 => ?_
  split at q1
  · obtain ⟨a, vs, rfl, h1, r⟩ := r1
    exact ⟨a, vs, rfl, SqL.of (w1.ext _ _ h1), k _ H1 Hi1 M1 _ e1 w1 (it_e (.inl h1) r) q1⟩
  · obtain ⟨a, vs, rfl, h1, r⟩ := r1
    exact ⟨a, vs, rfl, .inl (w1.ext.rd h1), k _ H1 Hi1 M1 _ e1 w1 (it_e h1 r) q1⟩
  · exact q1.elim
/-- zip of two lists that stay -/
def pairs2 : List D → List D → List D
  | a :: as, b :: bs => .tup [a, b] :: pairs2 as bs
  | _, _ => []
theorem pairs2_get : ∀ {as bs : List D} {i : Nat} {e : D}, (pairs2 as bs)[i]? = some e → ∃ a b, as[i]? = some a ∧ bs[i]? = some b ∧ e = .tup [a, b]
  | [], _, _, _, h => by simp [pairs2] at h
  | _ :: _, [], _, _, h => by simp [pairs2] at h
  | a :: as, b :: bs, 0, e, h => by simp [pairs2] at h; exact ⟨a, b, rfl, rfl, h.symm⟩
  | a :: as, b :: bs, i + 1, e, h => by
    obtain ⟨a', b', h1, h2, h3⟩ := pairs2_get (as := as) (bs := bs) (i := i) (by simpa [pairs2] using h)
    exact ⟨a', b', by simpa using h1, by simpa using h2, h3⟩
theorem pairs2_len : ∀ {as bs : List D}, (pairs2 as bs).length = min as.length bs.length
  | [], _ => by simp [pairs2]
  | _ :: _, [] => by simp [pairs2]
  | _ :: as, _ :: bs => by simp [pairs2, pairs2_len (as := as) (bs := bs)]
theorem it_z {K : PySem.W.Frag} {Hi : Hp} {a b : Addr} {vs us : List V} {es fs : List D} (h : Rd Hi a (.lst vs)) (h' : Rd Hi b (.lst us)) (r : RepL Hi es vs) (r' : RepL Hi fs us) : ItOk (Itz K a b) Hi (pairs2 es fs) where
  go := fun H2 Hi2 W e w i d hd => by
    obtain ⟨d1, d2, h1, h2, rfl⟩ := pairs2_get hd
    obtain ⟨v, h3, r3⟩ := r.get h1
    obtain ⟨u, h4, r4⟩ := r'.get h2
    refine ⟨⟨vs, us, v, u, .inl (rd_stays h e w), .inl (rd_stays h' e w), h3, h4⟩, fun x H3 y => ?_⟩
    obtain ⟨T, x', y', rfl, hT, rfl, y1, y2⟩ := y
    have q := y1 vs (.inl (rd_stays h e w))
    rw [h3] at q
    cases q
    have q := y2 us (.inl (rd_stays h' e w))
    rw [h4] at q
    cases q
    exact new_pair w hT (r3.mono e) (r4.mono e)
  stop := fun H2 Hi2 W e w i hi => ⟨vs, us, .inl (rd_stays h e w), .inl (rd_stays h' e w), by rw [← r.length, ← r'.length]; rw [pairs2_len] at hi; omega⟩
def xiZip (te tf : XE) : XI := fun ds M Q => te ds M fun d M1 => tf ds M1 fun e M2 => match d, e with
  | .lst es, .lst fs => Q (pairs2 es fs) M2
  | _, _ => False
theorem di_zip {e2 : Expr} {tf : XE} {elts : List Expr} {kk : Nat} {tpos : Pos} (hm : X.mg "zip" = none) (he : DE X e te) (hf : DE X e2 tf) (hg : Gl X "zip" := by rfl) (hs : starEach [e, e2] X.env = (false, eval e X.env) :: starEach [e2] X.env := by rfl)
    (hs2 : starEach [e2] X.env = (false, eval e2 X.env) :: starEach [] X.env := by rfl) (hpl : (backTo pos (starEach [e2] X.env)).any (·.1) = false := by rfl) : DI X (.Tuple elts kk tpos) (.Call (.Name "zip" p) [e, e2] [] pos) (xiZip te tf) := by
  obtain ⟨pa, a1, a2⟩ := he.ex
  obtain ⟨pb, b1, b2⟩ := hf.ex
  refine ⟨_, pi_zip hg hm (pa_cons a1 (pa_cons b1 pa_nil hs2) hs) hs hpl, fun σ H Hi ds M N Q R hl w h k => ?_⟩
  refine a2 σ H Hi ds M N _ _ hl w h ?_
  intro v H1 Hi1 d M1 e1 w1 r1 q1
  refine b2 σ H1 Hi1 ds M1 N _ _ (hl.mono e1) w1 q1 ?_
  intro v2 H2 Hi2 d2 M2 e2 w2 r2 q2
  split at q2
  · obtain ⟨a, vs, rfl, h1, r⟩ := r1
    obtain ⟨b, us, rfl, h2, r'⟩ := r2
    exact ⟨a, b, vs, us, rfl, SqL.of (w2.ext _ _ (e2 _ _ h1)), SqL.of (w2.ext _ _ h2), k _ H2 Hi2 M2 _ (e1.trans e2) w2 (it_z (.inl (e2 _ _ h1)) (.inl h2) (r.mono e2) r') q2⟩
  · exact q2.elim

/-! ### for -/
def xLoop (g : XG) (tb : XS) (Z : XEnds) : List D → Loc → Cells → Prop
  | [], ds, M => Z.nx ds M
  | d :: r, ds, M => g d ds M fun ds1 M1 => tb { Z with nx := xLoop g tb Z r, ct := xLoop g tb Z r, bk := Z.nx } ds1 M1
def xFor (wi : XI) (g : XG) (tb : XS) : XS := fun Z ds M => wi ds M fun items M1 => xLoop g tb Z items ds M1
theorem ds_for {iter : Expr} {body : List Stmt} {wi : XI} {g : XG} {tb : XS} (hp : PassesOwn (model X.prog X.w) X.A X.env X.xe) (hc : X.calm = true) (hi : DI X tg iter wi) (hg : DG X tg g) (hb : DSs X body tb)
    (hs : ∀ x, foldedSetIterable iter X.env x = pure x := by intro _; rfl) : DS X (.For tg iter body [] pos) (xFor wi g tb) := by
  obtain ⟨pw, w1, w2⟩ := hi.ex
  obtain ⟨pg, g1, g2⟩ := hg.ex
  obtain ⟨pb, b1, b2⟩ := hb.ex
  refine ⟨_, ps_for hp hc w1 g1 b1 hs, fun σ H Hi ds M N Z E hl w h k => ?_⟩
  refine w2 σ H Hi ds M N _ _ hl w h fun items H1 Hi1 M1 J e1 ow1 it q1 => ?_
  refine ⟨fun i m σ' H' => m = items.length - i ∧ i ≤ items.length ∧ ∃ Hi2 ds2 M2, Ext Hi1 Hi2 ∧ LocOk Hi2 ds2 σ' ∧ Own Hi2 (M2 ++ N) H' ∧ xLoop g tb Z (items.drop i) ds2 M2, ⟨_, rfl, Nat.zero_le _, Hi1, ds, M1, Ext.refl _, hl.mono e1, ow1, q1⟩, ?_⟩
  rintro i m σ' H' ⟨rfl, hi, Hi2, ds2, M2, e2, hl2, ow2, q2⟩
  by_cases hlt : i < items.length
  · have hd : items[i]? = some items[i] := List.getElem?_eq_getElem hlt
    rw [List.drop_eq_getElem_cons hlt] at q2
    obtain ⟨go, yl⟩ := it.go H' Hi2 _ e2 ow2 i _ hd
    refine .inr ⟨go, fun σ3 H3 => ∃ Hi3 ds3 M3, Ext Hi1 Hi3 ∧ LocOk Hi3 ds3 σ3 ∧ Own Hi3 (M3 ++ N) H3 ∧ xLoop g tb Z (items.drop (i + 1)) ds3 M3, fun σ3 H3 h3 => ⟨items.length - (i + 1), by omega, rfl, hlt, h3⟩, fun x H3 y => ?_⟩
    obtain ⟨Hi3, e3, ow3, r3⟩ := yl x H3 y
    refine g2 x _ σ' H3 Hi3 ds2 M2 N _ _ r3 (hl2.mono e3) ow3 q2 fun σ4 H4 Hi4 ds4 M4 e4 hl4 ow4 q4 => ?_
    have e14 := (e2.trans e3).trans e4
    refine b2 σ4 H4 Hi4 ds4 M4 N _ _ hl4 ow4 q4 ⟨fun σ5 H5 Hi5 ds5 M5 e5 hl5 ow5 q5 => ⟨Hi5, ds5, M5, e14.trans e5, hl5, ow5, q5⟩, fun v H5 Hi5 d M5 e5 ow5 r5 q5 => k.rt v H5 Hi5 d M5 ((e1.trans e14).trans e5) ow5 r5 q5,
      fun σ5 H5 Hi5 ds5 M5 e5 hl5 ow5 q5 => k.nx σ5 H5 Hi5 ds5 M5 ((e1.trans e14).trans e5) hl5 ow5 q5, fun σ5 H5 Hi5 ds5 M5 e5 hl5 ow5 q5 => ⟨Hi5, ds5, M5, e14.trans e5, hl5, ow5, q5⟩⟩
  · have e : i = items.length := by omega
    subst e
    rw [List.drop_length] at q2
    exact .inl ⟨it.stop H' Hi2 _ e2 ow2 _ (Nat.le_refl _), k.nx σ' H' Hi2 ds2 M2 (e1.trans e2) hl2 ow2 q2⟩
/-! ### while -/
def xWh (c : XT) (tb : XS) (Z : XEnds) : Nat → Loc → Cells → Prop
  | 0, _, _ => False
  | n + 1, ds, M => c ds M fun b M1 => if b = true then tb { Z with nx := xWh c tb Z n, ct := xWh c tb Z n, bk := Z.nx } ds M1 else Z.nx ds M1
def xWhile (c : XT) (tb : XS) : XS := fun Z ds M => ∃ n, xWh c tb Z n ds M
theorem ds_while {c : Expr} {body : List Stmt} {tc : XT} {tb : XS} (hp : PassesOwn (model X.prog X.w) X.A X.env X.xe) (hc : DT X c tc) (hb : DSs X body tb) : DS X (.While c body [] pos) (xWhile tc tb) := by
  obtain ⟨pc, c1, c2⟩ := hc.ex
  obtain ⟨pb, b1, b2⟩ := hb.ex
  refine ⟨_, ps_while hp c1 b1, fun σ H Hi ds M N Z E hl w h k => ?_⟩
  obtain ⟨n, h⟩ := h
  refine ⟨fun m σ' H' => ∃ Hi2 ds2 M2, Ext Hi Hi2 ∧ LocOk Hi2 ds2 σ' ∧ Own Hi2 (M2 ++ N) H' ∧ xWh tc tb Z m ds2 M2, ⟨n, Hi, ds, M, Ext.refl _, hl, w, h⟩, ?_⟩
  rintro m σ' H' ⟨Hi2, ds2, M2, e2, hl2, ow2, q2⟩
  cases m with
  | zero => exact q2.elim
  | succ m =>
    refine c2 σ' H' Hi2 ds2 M2 N _ _ hl2 ow2 q2 fun b H3 Hi3 M3 e3 ow3 q3 => ?_
    cases b with
    | false => exact k.nx σ' H3 Hi3 ds2 M3 (e2.trans e3) (hl2.mono e3) ow3 q3
    | true =>
      refine ⟨fun σ3 H3 => ∃ Hi3 ds3 M3, Ext Hi Hi3 ∧ LocOk Hi3 ds3 σ3 ∧ Own Hi3 (M3 ++ N) H3 ∧ xWh tc tb Z m ds3 M3, fun σ3 H3 h3 => ⟨m, Nat.lt_succ_self m, h3⟩, ?_⟩
      have e13 := e2.trans e3
      exact b2 σ' H3 Hi3 ds2 M3 N _ _ (hl2.mono e3) ow3 q3 ⟨fun σ5 H5 Hi5 ds5 M5 e5 hl5 ow5 q5 => ⟨Hi5, ds5, M5, e13.trans e5, hl5, ow5, q5⟩, fun v H5 Hi5 d M5 e5 ow5 r5 q5 => k.rt v H5 Hi5 d M5 (e13.trans e5) ow5 r5 q5,
        fun σ5 H5 Hi5 ds5 M5 e5 hl5 ow5 q5 => k.nx σ5 H5 Hi5 ds5 M5 (e13.trans e5) hl5 ow5 q5, fun σ5 H5 Hi5 ds5 M5 e5 hl5 ow5 q5 => ⟨Hi5, ds5, M5, e13.trans e5, hl5, ow5, q5⟩⟩
/-! ### a cell's list stays from here on: the name i -/
def xFrz (i : Nat) (u : XS) : XS := fun Z ds M => match ds[i]? with
  | some (some (.ref a)) => ∃ (k : Nat) (es : List D), M[k]? = some (a, MO.lst es) ∧ u Z (ds.set i (some (.lst es))) (M.eraseIdx k)
  | _ => False
theorem Own.frz {Hi : Hp} {M N : Cells} {H : Hp} {k : Nat} {a : Addr} {es : List D} (w : Own Hi (M ++ N) H) (e : M[k]? = some (a, MO.lst es)) : ∃ Hi', Ext Hi Hi' ∧ Own Hi' (M.eraseIdx k ++ N) H ∧ Rep Hi' (.lst es) (.ref a) := by
  obtain ⟨_, o, ho, vs, rfl, rv⟩ := w.getL e
  have w2 : Own Hi ((a, MO.lst es) :: (M.eraseIdx k ++ N)) H := w.permL (perm_erase e)
  obtain ⟨w3, e3⟩ := w2.freezeHd ho
  exact ⟨_, e3, w3, a, vs, rfl, upd_same, rv.mono e3⟩
theorem LocOk.reset {H : Hp} {ds : Loc} {σ : L2.St} {i : Nat} {d : D} {v : V} (h : LocOk H ds σ) (e : σ[i]? = some (some v)) (r : Rep H d v) : LocOk H (ds.set i (some d)) σ := by
  have q := h.set r i
  have z : σ.set i (some v) = σ := by
    refine List.ext_getElem? fun j => ?_
    by_cases hj : j = i
    · subst hj
      rw [List.getElem?_set_self (List.getElem?_eq_some_iff.mp e).1, e]
    · rw [List.getElem?_set_ne (Ne.symm hj)]
  rw [z] at q
  exact q
theorem dss_frz {sts : List Stmt} {u : XS} (i : Nat) (h : DSs X sts u) : DSs X sts (xFrz i u) := by
  obtain ⟨pa, a1, a2⟩ := h.ex
  refine ⟨_, a1, fun σ H Hi ds M N Z E hl w h k => ?_⟩
  unfold xFrz at h
  split at h
  · rename_i a hd
    obtain ⟨j, es, e, h⟩ := h
    obtain ⟨Hi', e', w', r⟩ := w.frz e
    obtain ⟨v, h1, h2⟩ := hl.2 i _ hd
    cases (show v = .ref a from h2)
    exact a2 σ H Hi' _ _ N Z E ((hl.mono e').reset h1 r) w' h (k.mono e')
  · exact h.elim
/-- an expression whose list stays from here on -/
def xFz (te : XE) : XE := fun ds M Q => te ds M fun d M1 => match d with
  | .ref a => ∃ (k : Nat) (es : List D), M1[k]? = some (a, MO.lst es) ∧ Q (.lst es) (M1.eraseIdx k)
  | _ => False
theorem de_fz (h : DE X e te) : DE X e (xFz te) := by
  obtain ⟨pa, a1, a2⟩ := h.ex
  refine ⟨_, a1, fun σ H Hi ds M N Q R hl w h k => ?_⟩
  refine a2 σ H Hi ds M N _ _ hl w h fun v H1 Hi1 d M1 e1 w1 r1 q1 => ?_
  split at q1
  · rename_i a
    obtain ⟨j, es, e, q1⟩ := q1
    cases (show v = .ref a from r1)
    obtain ⟨Hi', e', w', r⟩ := w1.frz e
    exact k _ H1 Hi' (.lst es) _ (e1.trans e') w' r q1
  · exact q1.elim
end
end DL

set_option Elab.async false
set_option linter.all false
set_option maxRecDepth 100000
set_option maxHeartbeats 4000000
namespace DL
open PySem PySem.Spec L2

/-! ### one reading for every context -/
def teOf (t : XE) : TE := fun σ H R => ∃ (Hi : Hp) (ds : Loc) (M N : Cells) (Q : XQ), LocOk Hi ds σ ∧ Own Hi (M ++ N) H ∧ t ds M Q ∧ (∀ v H' Hi' d M', Ext Hi Hi' → Own Hi' (M' ++ N) H' → Rep Hi' d v → Q d M' → R v H')
theorem simE_of (t : XE) : SimE (teOf t) t := fun σ H Hi ds M N Q R hl w h k => ⟨Hi, ds, M, N, Q, hl, w, h, k⟩
theorem DE.pe {X : Cx} {e : Expr} {t : XE} (h : DE X e t) : PE X e (teOf t) := by
  obtain ⟨te, h1, h2⟩ := h.ex
  refine ⟨fun pins s σ H Q I q => h1.run pins s σ H Q I ?_⟩
  obtain ⟨Hi, ds, M, N, Qd, hl, w, q, k⟩ := q
  exact h2 σ H Hi ds M N Qd Q hl w q k
structure DTs (X : Cx) (ifs : List Expr) (t : XT) : Prop where
  ex : ∃ tt, PTs X ifs tt ∧ SimT tt t
def ttOf (t : XT) : TT := fun σ H R => ∃ (Hi : Hp) (ds : Loc) (M N : Cells) (Q : Bool → Cells → Prop), LocOk Hi ds σ ∧ Own Hi (M ++ N) H ∧ t ds M Q ∧ (∀ b H' Hi' M', Ext Hi Hi' → Own Hi' (M' ++ N) H' → Q b M' → R b H')
theorem simT_of (t : XT) : SimT (ttOf t) t := fun σ H Hi ds M N Q R hl w h k => ⟨Hi, ds, M, N, Q, hl, w, h, k⟩
theorem DTs.pe {X : Cx} {ifs : List Expr} {t : XT} (h : DTs X ifs t) : PTs X ifs (ttOf t) := by
  obtain ⟨te, h1, h2⟩ := h.ex
  refine ⟨fun pins s σ H Q I q => h1.run pins s σ H Q I ?_⟩
  obtain ⟨Hi, ds, M, N, Qd, hl, w, q, k⟩ := q
  exact h2 σ H Hi ds M N Qd Q hl w q k
def xYes : XT := fun _ M Q => Q true M
theorem dts_nil {X : Cx} : DTs X [] xYes := ⟨_, pts_nil, fun σ H Hi ds M N Q R hl w h k => k true H Hi M (Ext.refl _) w h⟩
theorem dts_one {X : Cx} {c : Expr} {t : XT} (h : DT X c t) : DTs X [c] t := by
  obtain ⟨pc, h1, h2⟩ := h.ex
  exact ⟨_, pts_one h1, h2⟩
/-! ### comprehensions -/
def wipeD (ds : Loc) : List Nat → Loc
  | [] => ds
  | v :: vs => (wipeD ds vs).set v none
theorem LocOk.wipe {Hi : Hp} {ds : Loc} {σ : L2.St} (h : LocOk Hi ds σ) : ∀ vs : List Nat, LocOk Hi (wipeD ds vs) (L2.wipe σ vs)
  | [] => h
  | v :: vs => (LocOk.wipe h vs).unset v
theorem wipe_in {σ : L2.St} {i : Nat} : ∀ {vs : List Nat}, i ∈ vs → (L2.wipe σ vs)[i]? = σ[i]?.map fun _ => none
  | v :: vs, h => by
    unfold L2.wipe
    by_cases e : v = i
    · subst e
      by_cases hl : v < σ.length
      · rw [List.getElem?_set_self (by rw [wipe_length]; exact hl), List.getElem?_eq_getElem hl]; rfl
      · rw [List.getElem?_eq_none (by rw [List.length_set, wipe_length]; omega), List.getElem?_eq_none (by omega)]; rfl
    · rw [List.getElem?_set_ne e]
      exact wipe_in (by rcases List.mem_cons.mp h with h | h; exact absurd h.symm e; exact h)
theorem wipe_eq {σ τ : L2.St} {vs : List Nat} (hl : σ.length = τ.length) (h : ∀ i, i ∉ vs → σ[i]? = τ[i]?) : L2.wipe σ vs = L2.wipe τ vs := by
  refine List.ext_getElem? fun i => ?_
  by_cases hi : i ∈ vs
  · rw [wipe_in hi, wipe_in hi]
    by_cases hs : i < σ.length
    · rw [List.getElem?_eq_getElem hs, List.getElem?_eq_getElem (by omega)]; rfl
    · rw [List.getElem?_eq_none (by omega), List.getElem?_eq_none (by omega)]
  · rw [wipe_out hi, wipe_out hi]
    exact h i hi
/-- a target that stores in the slots vs alone -/
def Kept (vs : List Nat) (σ σ2 : L2.St) : Prop := σ2.length = σ.length ∧ ∀ i, i ∉ vs → σ2[i]? = σ[i]?
theorem Kept.trans {vs : List Nat} {a b c : L2.St} (h : Kept vs a b) (k : Kept vs b c) : Kept vs a c := ⟨k.1.trans h.1, fun i hi => (k.2 i hi).trans (h.2 i hi)⟩
def KeepG (vs : List Nat) (tg : TG) : Prop := ∀ v σ H R R', (∀ σ2 H2, Kept vs σ σ2 → R σ2 H2 → R' σ2 H2) → tg v σ H R → tg v σ H R'
def KeepGs (vs : List Nat) (tg : TGs) : Prop := ∀ v σ H R R', (∀ σ2 H2, Kept vs σ σ2 → R σ2 H2 → R' σ2 H2) → tg v σ H R → tg v σ H R'
structure DGC (X : Cx) (vs : List Nat) (e : Expr) (tg : TG) (g : XG) : Prop where
  pg : PG X e tg
  sim : SimG tg g
  keep : KeepG vs tg
structure DGCs (X : Cx) (vs : List Nat) (e : List Expr) (tg : TGs) (g : XGs) : Prop where
  pg : PGs X e tg
  sim : SimGs tg g
  keep : KeepGs vs tg
section
variable {X : Cx} {e : Expr} {pos : Pos} {vs : List Nat}
theorem dgc_name {i : Nat} {x : Str} (hN : X.N.Nodup) (hi : X.N[i]? = some x) (hx : L2.Loc X.env.scope x) (hv : vs.contains i = true) (hf : X.fn x = true ∨ X.env.scope.names.lookup x = some .local := by first | exact .inl rfl | exact .inr rfl | assumption) : DGC X vs (.Name x pos) (gName i) (xgName i) :=
  ⟨pg_name hN hi hx hf, fun v d σ H Hi ds M N Q R r hl w q k => k _ H Hi _ M (Ext.refl _) (hl.set r i) w q, fun v σ H R R' hk h => hk _ _ ⟨by simp, fun j hj => by
    have hv' : i ∈ vs := by simpa using hv
    exact List.getElem?_set_ne (show i ≠ j from fun z => hj (z ▸ hv'))⟩ h⟩
theorem dgcs_nil : DGCs X vs [] gNil xgNil := ⟨pgs_nil, fun ws es σ H Hi ds M N Q R r hl w q k => by
  cases es with
  | nil => cases r; exact ⟨rfl, k σ H Hi ds M (Ext.refl _) hl w q⟩
  | cons _ _ => exact q.elim, fun v σ H R R' hk h => ⟨h.1, hk _ _ ⟨rfl, fun _ _ => rfl⟩ h.2⟩⟩
theorem dgcs_cons {es : List Expr} {tg : TG} {tgs : TGs} {g : XG} {gs : XGs} (h1 : DGC X vs e tg g) (h2 : DGCs X vs es tgs gs) (hs : (assignEach (e :: es) X.env).map (·.2) = assign e X.env :: (assignEach es X.env).map (·.2) := by rfl) : DGCs X vs (e :: es) (gCons tg tgs) (xgCons g gs) :=
  ⟨pgs_cons h1.pg h2.pg hs, fun ws es σ H Hi ds M N Q R r hl w q k => by
    cases es with
    | nil => exact q.elim
    | cons d es =>
      obtain ⟨v, vr, rfl, r1, r2⟩ := r
      refine ⟨v, vr, rfl, h1.sim v d σ H Hi ds M N _ _ r1 hl w q fun σ1 H1 Hi1 ds1 M1 e1 hl1 w1 q1 => ?_⟩
      exact h2.sim vr es σ1 H1 Hi1 ds1 M1 N _ _ (r2.mono e1) hl1 w1 q1 fun σ2 H2 Hi2 ds2 M2 e2 => k σ2 H2 Hi2 ds2 M2 (e1.trans e2),
  fun v σ H R R' hk h => by
    obtain ⟨a, r, rfl, h⟩ := h
    exact ⟨a, r, rfl, h1.keep _ _ _ _ _ (fun σ1 H1 k1 q1 => h2.keep _ _ _ _ _ (fun σ2 H2 k2 q2 => hk σ2 H2 (k1.trans k2) q2) q1) h⟩⟩
theorem dgc_tup {es : List Expr} {k : Nat} {tgs : TGs} {gs : XGs} {n : Nat} (hc : X.calm = true) (h : DGCs X vs es tgs gs) (hn : (assignEach es X.env).length = n := by rfl) (hst : (assignEach es X.env).findIdx? (·.1) = none := by rfl) : DGC X vs (.Tuple es k pos) (gTup X.K n tgs) (xgTup n gs) :=
  ⟨pg_tup hc h.pg hn hst, fun v d σ H Hi ds M N Q R r hl w q kk => by
    obtain ⟨a, vs, es', rfl, h1, r1, hln, q⟩ := tup_at (K := X.K) r w q
    exact ⟨a, vs, rfl, h1, r1.length.symm.trans hln, h.sim vs es' σ H Hi ds M N _ _ r1 hl w q kk⟩,
  fun v σ H R R' hk h' => by
    obtain ⟨a, xs, rfl, h1, h2, h3⟩ := h'
    exact ⟨a, xs, rfl, h1, h2, h.keep _ _ _ _ _ hk h3⟩⟩
end
/-- [te for g in items if tt]: what is made so far, the items to come -/
def xCL (g : XG) (tt : XT) (te : XE) (ds : Loc) : List D → List D → Cells → (List D → Cells → Prop) → Prop
  | [], acc, M, Q => Q acc M
  | d :: r, acc, M, Q => g d ds M fun ds2 M2 => tt ds2 M2 fun b M3 => if b = true then te ds2 M3 fun y M4 => xCL g tt te ds r (acc ++ [y]) M4 Q else xCL g tt te ds r acc M3 Q
def xLc (wi : XI) (g : XG) (tt : XT) (te : XE) (vs : List Nat) : XE := fun ds M Q => wi ds M fun items M1 => items.length ≤ 16777216 ∧ xCL g tt te (wipeD ds vs) items [] M1 fun es M2 => Q (.lst es) M2
theorem SimG.ex {tg : TG} {g : XG} (h : SimG tg g) {v : V} {d : D} {σ : L2.St} {H Hi : Hp} {ds : Loc} {M N : Cells} {Q : Loc → Cells → Prop} (r : Rep Hi d v) (hl : LocOk Hi ds σ) (w : Own Hi (M ++ N) H) (q : g d ds M Q) :
    tg v σ H fun σ4 H4 => ∃ Hi4 ds4 M4, Ext Hi Hi4 ∧ LocOk Hi4 ds4 σ4 ∧ Own Hi4 (M4 ++ N) H4 ∧ Q ds4 M4 :=
  h v d σ H Hi ds M N Q _ r hl w q fun σ4 H4 Hi4 ds4 M4 e4 hl4 ow4 q4 => ⟨Hi4, ds4, M4, e4, hl4, ow4, q4⟩
theorem mid_perm {M N : Cells} {c : Addr × MO} : (M ++ (c :: N)).Perm (c :: (M ++ N)) := List.perm_middle
theorem sim_lcG {wi : TI} {xi : XI} {tg : TG} {g : XG} {tt : TT} {xt : XT} {te : TE} {xe : XE} {vs : List Nat} {out : List D → Addr → Cells → XQ → Prop}
    (hout : ∀ (Hi H : Hp) (M N : Cells) (es : List D) (D : Addr) (Q : XQ) (R : VK) (Hi0 : Hp), Ext Hi0 Hi → Own Hi ((D, .lst es) :: (M ++ N)) H → out es D M Q → (∀ v H' Hi' d M', Ext Hi0 Hi' → Own Hi' (M' ++ N) H' → Rep Hi' d v → Q d M' → R v H') → R (.ref D) H)
    (hi : SimI wi xi) (hg : SimG tg g) (hk : KeepG vs tg) (ht : SimT tt xt) (he : SimE te xe) :
    SimE (tLc wi tg tt te vs) (fun ds M Q => xi ds M fun items M1 => items.length ≤ 16777216 ∧ ∀ D, xCL g xt xe (wipeD ds vs) items [] M1 fun es M2 => out es D M2 Q) := by
  intro σ H Hi ds M N Q R hl w h k
  refine hi σ H Hi ds M N _ _ hl w h fun items H1 Hi1 M1 J e1 ow1 it q1 => ?_
  obtain ⟨hz, q1⟩ := q1
  intro D hD
  refine ⟨fun i m H' => m = items.length - i ∧ i ≤ items.length ∧ ∃ (Hi2 : Hp) (M2 : Cells) (acc : List DL.D), Ext Hi1 Hi2 ∧ Own Hi2 (M2 ++ ((D, MO.lst acc) :: N)) H' ∧ acc.length ≤ i ∧ xCL g xt xe (wipeD ds vs) (items.drop i) acc M2 fun es M3 => out es D M3 Q,
    ⟨_, rfl, Nat.zero_le _, Hi1, M1, [], Ext.refl _, (ow1.laidM (m := .lst []) hD ⟨[], rfl, rfl⟩).perm mid_perm.symm, Nat.le_refl _, q1 D⟩, ?_⟩
  rintro i m H' ⟨rfl, hi, Hi2, M2, acc, e2, ow2, ha, q2⟩
  by_cases hlt : i < items.length
  · have hd : items[i]? = some items[i] := List.getElem?_eq_getElem hlt
    rw [List.drop_eq_getElem_cons hlt] at q2
    obtain ⟨go, yl⟩ := it.go H' Hi2 _ e2 ow2 i _ hd
    refine .inr ⟨go, fun H3 => ∃ (Hi3 : Hp) (M3 : Cells) (acc : List DL.D), Ext Hi1 Hi3 ∧ Own Hi3 (M3 ++ ((D, MO.lst acc) :: N)) H3 ∧ acc.length ≤ i + 1 ∧ xCL g xt xe (wipeD ds vs) (items.drop (i + 1)) acc M3 fun es M3 => out es D M3 Q, fun H3 h3 => ⟨items.length - (i + 1), by omega, rfl, hlt, h3⟩, fun x H3 y => ?_⟩
    obtain ⟨Hi3, e3, ow3, r3⟩ := yl x H3 y
    have lw : LocOk Hi3 (wipeD ds vs) (L2.wipe σ vs) := (hl.mono ((e1.trans e2).trans e3)).wipe vs
    refine hk _ _ _ _ _ (fun σ4 H4 kp q4 => ?_) (hg.ex (N := (D, MO.lst acc) :: N) r3 lw ow3 q2)
    obtain ⟨Hi4, ds4, M4, e4, hl4, ow4, q4⟩ := q4
    refine ⟨?_, ?_⟩
    · rw [wipe_eq kp.1 kp.2]
      exact wipe_eq (wipe_length σ vs) (fun j hj => wipe_out hj)
    refine ht σ4 H4 Hi4 ds4 M4 _ _ _ hl4 ow4 q4 fun b H5 Hi5 M5 e5 ow5 q5 => ?_
    have e15 := ((e2.trans e3).trans e4).trans e5
    cases b with
    | false => exact ⟨Hi5, M5, acc, e15, ow5, by omega, q5⟩
    | true =>
      refine he σ4 H5 Hi5 ds4 M5 _ _ _ (hl4.mono e5) ow5 q5 fun v H6 Hi6 d M6 e6 ow6 r6 q6 => ?_
      obtain ⟨_, o, ho, ws, rfl, rv⟩ := ow6.cell (D, MO.lst acc) (List.mem_append_right _ List.mem_cons_self)
      refine ⟨ws, ho, ?_, Hi6, M6, acc ++ [d], e15.trans e6, ?_, by rw [List.length_append, List.length_singleton]; omega, q6⟩
      · rw [← rv.length, sizeLine_eq]; omega
      · have w7 : Own Hi6 ([(D, MO.lst acc)] ++ (M6 ++ N)) H6 := ow6.perm mid_perm
        have w8 := w7.write' (i := 0) (m' := .lst (acc ++ [d])) (o := .lst (ws ++ [v])) rfl ⟨_, rfl, rv.append (.cons r6 .nil)⟩
        exact (show Own Hi6 ((D, MO.lst (acc ++ [d])) :: (M6 ++ N)) _ from w8).perm mid_perm.symm
  · have e : i = items.length := by omega
    subst e
    rw [List.drop_length] at q2
    refine .inl ⟨it.stop H' Hi2 _ e2 ow2 _ (Nat.le_refl _), ?_⟩
    exact hout Hi2 H' M2 N acc D Q R Hi (e1.trans e2) (ow2.perm mid_perm) q2 k
theorem out_lst : ∀ (Hi H : Hp) (M N : Cells) (es : List D) (D : Addr) (Q : XQ) (R : VK) (Hi0 : Hp), Ext Hi0 Hi → Own Hi ((D, .lst es) :: (M ++ N)) H → Q (.lst es) M → (∀ v H' Hi' d M', Ext Hi0 Hi' → Own Hi' (M' ++ N) H' → Rep Hi' d v → Q d M' → R v H') → R (.ref D) H := fun Hi H M N es D Q R Hi0 e w q k => by
  obtain ⟨_, o, ho, vs, rfl, rv⟩ := w.cell (D, .lst es) List.mem_cons_self
  obtain ⟨w2, e2⟩ := w.freezeHd ho
  exact k _ H _ (.lst es) M (e.trans e2) w2 ⟨D, vs, rfl, upd_same, rv.mono e2⟩ q
theorem sim_lc {wi : TI} {xi : XI} {tg : TG} {g : XG} {tt : TT} {xt : XT} {te : TE} {xe : XE} {vs : List Nat} (hi : SimI wi xi) (hg : SimG tg g) (hk : KeepG vs tg) (ht : SimT tt xt) (he : SimE te xe) : SimE (tLc wi tg tt te vs) (xLc xi g xt xe vs) := by
  have s := sim_lcG (out := fun es _ M Q => Q (.lst es) M) out_lst hi hg hk ht he
  intro σ H Hi ds M N Q R hl w h k
  have mono : ∀ (ds : Loc) (M : Cells), xi ds M (fun items M1 => items.length ≤ 16777216 ∧ xCL g xt xe (wipeD ds vs) items [] M1 fun es M2 => Q (.lst es) M2) = xi ds M (fun items M1 => items.length ≤ 16777216 ∧ ∀ _ : Addr, xCL g xt xe (wipeD ds vs) items [] M1 fun es M2 => Q (.lst es) M2) := fun ds M => by
    congr 1
    funext items M1
    exact propext ⟨fun h => ⟨h.1, fun _ => h.2⟩, fun h => ⟨h.1, h.2 0⟩⟩
  exact s σ H Hi ds M N Q R hl w ((mono ds M).mp h) k
def xLcMA (wi : XI) (g : XG) (tt : XT) (te : XE) (vs : List Nat) : XE := fun ds M Q => wi ds M fun items M1 => items.length ≤ 16777216 ∧ ∀ D, xCL g tt te (wipeD ds vs) items [] M1 fun es M2 => Q (.ref D) ((D, .lst es) :: M2)
theorem sim_lcM {wi : TI} {xi : XI} {tg : TG} {g : XG} {tt : TT} {xt : XT} {te : TE} {xe : XE} {vs : List Nat} (hi : SimI wi xi) (hg : SimG tg g) (hk : KeepG vs tg) (ht : SimT tt xt) (he : SimE te xe) : SimE (tLc wi tg tt te vs) (xLcMA xi g xt xe vs) :=
  sim_lcG (out := fun es D M Q => Q (.ref D) ((D, .lst es) :: M)) (fun Hi H M N es D Q R Hi0 e w q k => k _ H Hi (.ref D) _ e w rfl q) hi hg hk ht he
section
variable {X : Cx} {elt tg iter : Expr} {ifs : List Expr} {scope : Scope} {own : List (Str × Nat)} {pos spos : Pos} {xi : XI} {g : XG} {pg : TG} {xt : XT} {xe : XE}
theorem de_lc (hN : X.N.Nodup) (hi : DI X tg iter xi) (ok : BlkOk X.N X.env.scope scope own) (hg : ∀ (s : Shared) (H : Hp) (C : Addr) (cl : List (Str × Addr)) (fp : List Addr), DGC (X.blk s H scope (compEnvC scope cl C X.env) fp) (own.map (·.2)) tg pg g)
    (ht : ∀ (s : Shared) (H : Hp) (C : Addr) (cl : List (Str × Addr)) (fp : List Addr), DTs (X.blk s H scope (compEnvC scope cl C X.env) fp) ifs xt) (he : ∀ (s : Shared) (H : Hp) (C : Addr) (cl : List (Str × Addr)) (fp : List Addr), DE (X.blk s H scope (compEnvC scope cl C X.env) fp) elt xe)
    (hc : X.calm = true := by rfl) (hs : ∀ x, foldedSetIterable iter X.env x = pure x := by intro _; rfl) : DE X (.ListComp elt [⟨tg, iter, ifs, 0⟩] scope pos) (xLc xi g xt xe (own.map (·.2))) := by
  obtain ⟨pi, i1, i2⟩ := hi.ex
  have hg0 := hg X.s_0 X.H_0 0 [] []
  exact ⟨_, pe_lc hc hN i1 ok (fun s H C cl fp => (hg s H C cl fp).pg) (fun s H C cl fp => (ht s H C cl fp).pe) (fun s H C cl fp => (he s H C cl fp).pe) hs, sim_lc i2 hg0.sim hg0.keep (simT_of _) (simE_of _)⟩
theorem de_lcM (hN : X.N.Nodup) (hi : DI X tg iter xi) (ok : BlkOk X.N X.env.scope scope own) (hg : ∀ (s : Shared) (H : Hp) (C : Addr) (cl : List (Str × Addr)) (fp : List Addr), DGC (X.blk s H scope (compEnvC scope cl C X.env) fp) (own.map (·.2)) tg pg g)
    (ht : ∀ (s : Shared) (H : Hp) (C : Addr) (cl : List (Str × Addr)) (fp : List Addr), DTs (X.blk s H scope (compEnvC scope cl C X.env) fp) ifs xt) (he : ∀ (s : Shared) (H : Hp) (C : Addr) (cl : List (Str × Addr)) (fp : List Addr), DE (X.blk s H scope (compEnvC scope cl C X.env) fp) elt xe)
    (hc : X.calm = true := by rfl) (hs : ∀ x, foldedSetIterable iter X.env x = pure x := by intro _; rfl) : DE X (.ListComp elt [⟨tg, iter, ifs, 0⟩] scope pos) (xLcMA xi g xt xe (own.map (·.2))) := by
  obtain ⟨pi, i1, i2⟩ := hi.ex
  have hg0 := hg X.s_0 X.H_0 0 [] []
  exact ⟨_, pe_lc hc hN i1 ok (fun s H C cl fp => (hg s H C cl fp).pg) (fun s H C cl fp => (ht s H C cl fp).pe) (fun s H C cl fp => (he s H C cl fp).pe) hs, sim_lcM i2 hg0.sim hg0.keep (simT_of _) (simE_of _)⟩
theorem sim_set {te : TE} {xe : XE} (h : SimE te xe) (i : Nat) : SimS (tAsg te (gName i)) (xSet i xe) := fun σ H Hi ds M N Z E hl w q k =>
  h σ H Hi ds M N _ _ hl w q fun v H1 Hi1 d M1 e1 w1 r1 q1 => k.nx _ H1 Hi1 _ M1 e1 ((hl.mono e1).set r1 i) w1 q1
theorem ds_setLc {i : Nat} {y : Str} {py : Pos} (hN : X.N.Nodup) (hi : DI X tg iter xi) (ok : BlkOk X.N X.env.scope scope own) (hg : ∀ (s : Shared) (H : Hp) (C : Addr) (cl : List (Str × Addr)) (fp : List Addr), DGC (X.blk s H scope (compEnvC scope cl C X.env) fp) (own.map (·.2)) tg pg g)
    (ht : ∀ (s : Shared) (H : Hp) (C : Addr) (cl : List (Str × Addr)) (fp : List Addr), DTs (X.blk s H scope (compEnvC scope cl C X.env) fp) ifs xt) (he : ∀ (s : Shared) (H : Hp) (C : Addr) (cl : List (Str × Addr)) (fp : List Addr), DE (X.blk s H scope (compEnvC scope cl C X.env) fp) elt xe)
    (hy : X.N[i]? = some y := by rfl) (hyl : X.env.scope.names.lookup y = some .local := by rfl) (hsw : swapsWith (.ListComp elt [⟨tg, iter, ifs, 0⟩] scope pos) (some (.Name y py)) spos.line X.env = pure true := by exact sw_true rfl rfl rfl (by decide +kernel))
    (hc : X.calm = true := by rfl) (hs : ∀ x, foldedSetIterable iter X.env x = pure x := by intro _; rfl) : DS X (.Assign [.Name y py] (.ListComp elt [⟨tg, iter, ifs, 0⟩] scope pos) spos) (xSet i (xLc xi g xt xe (own.map (·.2)))) := by
  obtain ⟨pi, i1, i2⟩ := hi.ex
  have hg0 := hg X.s_0 X.H_0 0 [] []
  exact ⟨_, ps_setLc hc hN hy hyl hsw i1 ok (fun s H C cl fp => (hg s H C cl fp).pg) (fun s H C cl fp => (ht s H C cl fp).pe) (fun s H C cl fp => (he s H C cl fp).pe) hs, sim_set (sim_lc i2 hg0.sim hg0.keep (simT_of _) (simE_of _)) i⟩
theorem ds_setLcM {i : Nat} {y : Str} {py : Pos} (hN : X.N.Nodup) (hi : DI X tg iter xi) (ok : BlkOk X.N X.env.scope scope own) (hg : ∀ (s : Shared) (H : Hp) (C : Addr) (cl : List (Str × Addr)) (fp : List Addr), DGC (X.blk s H scope (compEnvC scope cl C X.env) fp) (own.map (·.2)) tg pg g)
    (ht : ∀ (s : Shared) (H : Hp) (C : Addr) (cl : List (Str × Addr)) (fp : List Addr), DTs (X.blk s H scope (compEnvC scope cl C X.env) fp) ifs xt) (he : ∀ (s : Shared) (H : Hp) (C : Addr) (cl : List (Str × Addr)) (fp : List Addr), DE (X.blk s H scope (compEnvC scope cl C X.env) fp) elt xe)
    (hy : X.N[i]? = some y := by rfl) (hyl : X.env.scope.names.lookup y = some .local := by rfl) (hsw : swapsWith (.ListComp elt [⟨tg, iter, ifs, 0⟩] scope pos) (some (.Name y py)) spos.line X.env = pure true := by exact sw_true rfl rfl rfl (by decide +kernel))
    (hc : X.calm = true := by rfl) (hs : ∀ x, foldedSetIterable iter X.env x = pure x := by intro _; rfl) : DS X (.Assign [.Name y py] (.ListComp elt [⟨tg, iter, ifs, 0⟩] scope pos) spos) (xSet i (xLcMA xi g xt xe (own.map (·.2)))) := by
  obtain ⟨pi, i1, i2⟩ := hi.ex
  have hg0 := hg X.s_0 X.H_0 0 [] []
  exact ⟨_, ps_setLc hc hN hy hyl hsw i1 ok (fun s H C cl fp => (hg s H C cl fp).pg) (fun s H C cl fp => (ht s H C cl fp).pe) (fun s H C cl fp => (he s H C cl fp).pe) hs, sim_set (sim_lcM i2 hg0.sim hg0.keep (simT_of _) (simE_of _)) i⟩
end
end DL

set_option Elab.async false
set_option linter.all false
set_option maxRecDepth 100000
set_option maxHeartbeats 4000000
namespace DL
open PySem PySem.Spec L2

/-! ### built-ins by values -/
abbrev RCD := List D → Cells → XQ → Prop
def SimC (r : List V → Hp → VK → Prop) (rd : RCD) : Prop := ∀ (vs : List V) (es : List D) (H Hi : Hp) (M N : Cells) (Q : XQ) (R : VK), RepL Hi es vs → Own Hi (M ++ N) H → rd es M Q →
  (∀ v H' Hi' d M', Ext Hi Hi' → Own Hi' (M' ++ N) H' → Rep Hi' d v → Q d M' → R v H') → r vs H R
def xCB (rd : RCD) (t : XA) : XE := fun ds M Q => t ds M fun es M1 => rd es M1 Q
theorem sim_CB {r : List V → Hp → VK → Prop} {rd : RCD} {pt : TA} {t : XA} (hr : SimC r rd) (ht : SimA pt t) : SimE (tCB r pt) (xCB rd t) := by
  intro σ H Hi ds M N Q R hl w h k
  refine ht σ H Hi ds M N _ _ hl w h ?_
  intro vs H1 Hi1 es M1 e1 w1 r1 q1
  exact hr vs es H1 Hi1 M1 N Q R r1 w1 q1 fun v H2 Hi2 d M2 e2 => k v H2 Hi2 d M2 (e1.trans e2)
section
variable {X : Cx} {x : Str} {e : Expr} {es : List Expr} {p pos : Pos} {t : XA} {id T : String} {r : List V → Hp → VK → Prop} {rd : RCD}
theorem de_cb (hc : CallR X (.builtin id) r) (hr : SimC r rd) (hm : X.mg x = none) (hv : bootBuiltins x = some (.builtin id)) (ha : DA X (e :: es) t) (hg : Gl X x := by rfl) (hn : x ≠ "__name__" := by decide) (hdb : (x == ("__debug__" : Str)) = false := by decide)
    (he : starEach (e :: es) X.env = (false, eval e X.env) :: starEach es X.env := by rfl) (hpl : (backTo pos (starEach es X.env)).any (·.1) = false := by rfl) : DE X (.Call (.Name x p) (e :: es) [] pos) (xCB rd t) := by
  obtain ⟨pt, h1, h2⟩ := ha.ex
  exact ⟨_, pe_callB hc hg hm hv h1 hn hdb he hpl, sim_CB hr h2⟩
theorem de_ct (hc : CallR X (.type T) r) (hr : SimC r rd) (hm : X.mg x = none) (hv : bootBuiltins x = some (.type T)) (ha : DA X (e :: es) t) (hg : Gl X x := by rfl) (hn : x ≠ "__name__" := by decide) (hdb : (x == ("__debug__" : Str)) = false := by decide)
    (he : starEach (e :: es) X.env = (false, eval e X.env) :: starEach es X.env := by rfl) (hpl : (backTo pos (starEach es X.env)).any (·.1) = false := by rfl) : DE X (.Call (.Name x p) (e :: es) [] pos) (xCB rd t) := by
  obtain ⟨pt, h1, h2⟩ := ha.ex
  exact ⟨_, pe_callTy hc hg hm hv h1 hn hdb he hpl, sim_CB hr h2⟩
end
theorem one_rep {Hi : Hp} {d : D} {vs : List V} (r : RepL Hi [d] vs) : ∃ v, vs = [v] ∧ Rep Hi d v := by
  obtain ⟨v, r', rfl, h, h2⟩ := r
  cases h2
  exact ⟨v, rfl, h⟩
theorem two_rep {Hi : Hp} {d e : D} {vs : List V} (r : RepL Hi [d, e] vs) : ∃ v u, vs = [v, u] ∧ Rep Hi d v ∧ Rep Hi e u := by
  obtain ⟨v, r', rfl, h, u, r2, rfl, h2, h3⟩ := r
  cases h3
  exact ⟨v, u, rfl, h, h2⟩
/-- len -/
def rdLen : RCD := fun es M Q => match es with
  | [.str s] => s.length ≤ 16777216 ∧ Q (.int (s.length : Nat)) M
  | [d] => seqK d M fun ds => Q (.int (ds.length : Nat)) M
  | _ => False
theorem sim_len {K : PySem.W.Frag} : SimC (fun xs H Q => ∃ x n, xs = [x] ∧ LenV K x H n ∧ Q (.int n) H) rdLen := by
  intro vs es H Hi M N Q R rv w h k
  unfold rdLen at h
  split at h
  · obtain ⟨v, rfl, r⟩ := one_rep rv
    cases (show v = .str _ from r)
    exact ⟨_, _, rfl, ⟨le_line h.1, rfl⟩, k _ H Hi (.int _) M (Ext.refl _) w rfl h.2⟩
  · obtain ⟨v, rfl, r⟩ := one_rep rv
    obtain ⟨a, vs, ds, rfl, h1, r1, h⟩ := seq_at (K := K) r w h
    refine ⟨_, vs.length, rfl, ?_, k _ H Hi (.int (ds.length : Nat)) M (Ext.refl _) w (by rw [r1.length]; rfl) h⟩
    rcases h1 with h1 | h1
    · exact .inl ⟨vs, h1, rfl⟩
    · exact .inr ⟨vs, h1, rfl⟩
  · exact h.elim
/-- sum of ints; any, all of truths -/
def rdSum : RCD := fun es M Q => match es with
  | [d] => lstK d M fun ds => ∃ ns : List Int, ds = ns.map D.int ∧ Q (.int ns.sum) M
  | _ => False
theorem sim_sum {K : PySem.W.Frag} : SimC (rSum K) rdSum := by
  intro vs es H Hi M N Q R rv w h k
  unfold rdSum at h
  split at h
  · obtain ⟨v, rfl, r⟩ := one_rep rv
    obtain ⟨a, vs, ds, rfl, h1, r1, ns, rfl, h⟩ := lst_at (K := K) r w h
    cases r1.ints
    exact ⟨a, ns, rfl, h1, k _ H Hi (.int _) M (Ext.refl _) w rfl h⟩
  · exact h.elim
def rdAny : RCD := fun es M Q => match es with
  | [d] => lstK d M fun ds => ∃ bs : List Bool, ds = bs.map D.bl ∧ Q (.bl (bs.any id)) M
  | _ => False
theorem sim_any {K : PySem.W.Frag} : SimC (rAny K) rdAny := by
  intro vs es H Hi M N Q R rv w h k
  unfold rdAny at h
  split at h
  · obtain ⟨v, rfl, r⟩ := one_rep rv
    obtain ⟨a, vs, ds, rfl, h1, r1, ns, rfl, h⟩ := lst_at (K := K) r w h
    cases r1.bls
    exact ⟨a, ns, rfl, h1, k _ H Hi (.bl _) M (Ext.refl _) w rfl h⟩
  · exact h.elim
def rdAll : RCD := fun es M Q => match es with
  | [d] => lstK d M fun ds => ∃ bs : List Bool, ds = bs.map D.bl ∧ Q (.bl (bs.all id)) M
  | _ => False
theorem sim_all {K : PySem.W.Frag} : SimC (rAll K) rdAll := by
  intro vs es H Hi M N Q R rv w h k
  unfold rdAll at h
  split at h
  · obtain ⟨v, rfl, r⟩ := one_rep rv
    obtain ⟨a, vs, ds, rfl, h1, r1, ns, rfl, h⟩ := lst_at (K := K) r w h
    cases r1.bls
    exact ⟨a, ns, rfl, h1, k _ H Hi (.bl _) M (Ext.refl _) w rfl h⟩
  · exact h.elim
/-- min, max of two ints; abs; int -/
def rdC2 (g : Int → Int → Int) : RCD := fun es M Q => match es with
  | [.int i, .int j] => Q (.int (g i j)) M
  | _ => False
theorem sim_C2 {g : Int → Int → Int} : SimC (fun xs H Q => ∃ i j, xs = [.int i, .int j] ∧ Q (.int (g i j)) H) (rdC2 g) := by
  intro vs es H Hi M N Q R rv w h k
  unfold rdC2 at h
  split at h
  · obtain ⟨v, u, rfl, r1, r2⟩ := two_rep rv
    cases (show v = .int _ from r1); cases (show u = .int _ from r2)
    exact ⟨_, _, rfl, k _ H Hi (.int _) M (Ext.refl _) w rfl h⟩
  · exact h.elim
def rdC1 (g : Int → Int) : RCD := fun es M Q => match es with
  | [.int i] => Q (.int (g i)) M
  | _ => False
theorem sim_C1 {g : Int → Int} : SimC (fun xs H Q => ∃ i, xs = [.int i] ∧ Q (.int (g i)) H) (rdC1 g) := by
  intro vs es H Hi M N Q R rv w h k
  unfold rdC1 at h
  split at h
  · obtain ⟨v, rfl, r1⟩ := one_rep rv
    cases (show v = .int _ from r1)
    exact ⟨_, rfl, k _ H Hi (.int _) M (Ext.refl _) w rfl h⟩
  · exact h.elim
def rdInt : RCD := fun es M Q => match es with
  | [.int i] => Q (.int i) M
  | [.bl b] => Q (.int (if b then 1 else 0)) M
  | _ => False
theorem sim_int : SimC (fun xs H Q => (∃ i, xs = [.int i] ∧ Q (.int i) H) ∨ ∃ k, xs = [.bl k] ∧ Q (.int (if k then 1 else 0)) H) rdInt := by
  intro vs es H Hi M N Q R rv w h k
  unfold rdInt at h
  split at h
  · obtain ⟨v, rfl, r1⟩ := one_rep rv
    cases (show v = .int _ from r1)
    exact .inl ⟨_, rfl, k _ H Hi (.int _) M (Ext.refl _) w rfl h⟩
  · obtain ⟨v, rfl, r1⟩ := one_rep rv
    cases (show v = .bl _ from r1)
    exact .inr ⟨_, rfl, k _ H Hi (.int _) M (Ext.refl _) w rfl h⟩
  · exact h.elim
/-- list(xs), a new list that stays | that may change; tuple(xs) -/
def rdList : RCD := fun es M Q => match es with
  | [d] => seqK d M fun ds => Q (.lst ds) M
  | _ => False
def rdListM : RCD := fun es M Q => match es with
  | [d] => seqK d M fun ds => ∀ a, Q (.ref a) ((a, .lst ds) :: M)
  | _ => False
theorem sim_list {K : PySem.W.Frag} : SimC (fun xs H Q => ∃ p ys, xs = [.ref p] ∧ (SqL K H p ys ∨ SqT K H p ys) ∧ ∀ l, H l = none → Q (.ref l) (upd H l (.lst ys))) rdList := by
  intro vs es H Hi M N Q R rv w h k
  unfold rdList at h
  split at h
  · obtain ⟨v, rfl, r⟩ := one_rep rv
    obtain ⟨a, vs, ds, rfl, h1, r1, h⟩ := seq_at (K := K) r w h
    exact ⟨a, vs, rfl, h1, mk_lst (Ext.refl _) w r1 h k⟩
  · exact h.elim
theorem sim_listM {K : PySem.W.Frag} : SimC (fun xs H Q => ∃ p ys, xs = [.ref p] ∧ (SqL K H p ys ∨ SqT K H p ys) ∧ ∀ l, H l = none → Q (.ref l) (upd H l (.lst ys))) rdListM := by
  intro vs es H Hi M N Q R rv w h k
  unfold rdListM at h
  split at h
  · obtain ⟨v, rfl, r⟩ := one_rep rv
    obtain ⟨a, vs, ds, rfl, h1, r1, h⟩ := seq_at (K := K) r w h
    exact ⟨a, vs, rfl, h1, mk_lstM (Ext.refl _) w r1 h k⟩
  · exact h.elim
def rdTup : RCD := fun es M Q => match es with
  | [d] => lstK d M fun ds => Q (.tup ds) M
  | _ => False
theorem sim_tup {K : PySem.W.Frag} : SimC (fun xs H Q => ∃ p ys, xs = [.ref p] ∧ ((SqL K H p ys ∧ ∀ l, H l = none → Q (.ref l) (upd H l (.tup ys))) ∨ (SqT K H p ys ∧ Q (.ref p) H))) rdTup := by
  intro vs es H Hi M N Q R rv w h k
  unfold rdTup at h
  split at h
  · obtain ⟨v, rfl, r⟩ := one_rep rv
    obtain ⟨a, vs, ds, rfl, h1, r1, h⟩ := lst_at (K := K) r w h
    exact ⟨a, vs, rfl, .inl ⟨h1, mk_tup (Ext.refl _) w r1 h k⟩⟩
  · exact h.elim
/-- tuple(a list), known to be a bare object -/
def rTupX (K : PySem.W.Frag) : List V → Hp → VK → Prop := fun xs H Q => ∃ p ys, xs = [.ref p] ∧ SqL K H p ys ∧ ∀ l (o : Obj), o.dict = none → H l = none → Q (.ref l) (upd H l (.frz o (.tup ys)))
theorem call_tupX {X : Cx} : CallR X (.type "tuple") (rTupX X.K) := by
  intro pins s σ H xs us Q I r h
  obtain ⟨p, ys, rfl, hs, q⟩ := h
  obtain ⟨u, rfl, ru⟩ := vals1 r
  cases (show u = Value.ref p from ru)
  obtain ⟨its, rv, pl, hz⟩ := I.list hs
  refine call_tuple_list pl.isList (fun h' hk => ?_) (by rw [List.size_toArray, ← rv.length]; exact hz)
  have I1 : Inv X pins σ H { s with heap := h' } := I.kept (t' := s.toks) hk
  have I2 : Inv X pins σ (upd H h'.objs.size (.frz { cls := .type "tuple", data := .seq its.toArray } (.tup ys))) { s with heap := h'.push { cls := .type "tuple", data := .seq its.toArray } } :=
    I1.laid (t' := s.toks) (fun b o e => Heap.get?_push_of_some _ e) (Nat.le_refl _) ⟨Heap.get?_push_size _ rfl, show ObjOk X.prog X.w _ _ _ (.tup ys) from ⟨hz, its, rv, PyProof.Rows.IsTup.new _ _⟩⟩
  exact ⟨.ref h'.objs.size, _, I2, rfl, q _ _ rfl (I1.hok.fresh (Nat.le_refl _))⟩
def rdTupX : RCD := fun es M Q => match es with
  | [d] => lstK d M fun ds => Q (.tupx ds) M
  | _ => False
theorem sim_tupX {K : PySem.W.Frag} : SimC (rTupX K) rdTupX := by
  intro vs es H Hi M N Q R rv w h k
  unfold rdTupX at h
  split at h
  · obtain ⟨v, rfl, r⟩ := one_rep rv
    obtain ⟨a, vs, ds, rfl, h1, r1, h⟩ := lst_at (K := K) r w h
    refine ⟨a, vs, rfl, h1, fun l o ho hl => ?_⟩
    exact k _ _ (upd Hi l (.frz o (.tup vs))) (.tupx ds) M (Ext.new (w.ext.free hl)) (w.laid hl) ⟨l, vs, o, rfl, upd_same, ho, r1.mono (Ext.new (w.ext.free hl))⟩ h
  · exact h.elim
/-- sorted: ints; pairs of ints -/
def rdSortI : RCD := fun es M Q => match es with
  | [d] => lstK d M fun ds => ∃ ns : List Int, ds = ns.map D.int ∧ ∀ ms : List Int, ms.Perm ns → ms.Pairwise (· ≤ ·) → Q (.lst (ms.map D.int)) M
  | _ => False
theorem sim_sortI {K : PySem.W.Frag} : SimC (rSortedI K) rdSortI := by
  intro vs es H Hi M N Q R rv w h k
  unfold rdSortI at h
  split at h
  · obtain ⟨v, rfl, r⟩ := one_rep rv
    obtain ⟨a, vs, ds, rfl, h1, r1, ns, rfl, h⟩ := lst_at (K := K) r w h
    cases r1.ints
    exact ⟨a, ns, rfl, h1, fun ms p hp hs => mk_lst (Ext.refl _) w .ofInts (h ms hp hs) k p⟩
  · exact h.elim
def pairD (p : Int × Int) : D := .tup [.int p.1, .int p.2]
def pairOf (H : Hp) : V → Int × Int
  | .ref t => match H t with
    | some (.tup [.int a, .int b]) => (a, b)
    | _ => (0, 0)
  | _ => (0, 0)
theorem pairs_of {Hi H : Hp} (e : Ext Hi H) : ∀ {ps : List (Int × Int)} {vs : List V}, RepL Hi (ps.map pairD) vs → (∀ x ∈ vs, ∃ t, x = V.ref t ∧ H t = some (.tup [.int (pairOf H x).1, .int (pairOf H x).2])) ∧ vs.map (pairOf H) = ps ∧ ∀ x ∈ vs, Rep Hi (pairD (pairOf H x)) x
  | [], _, h => by cases h; exact ⟨fun _ h => absurd h (by simp), rfl, fun _ h => absurd h (by simp)⟩
  | p :: ps, _, ⟨v, r, h0, h1, h2⟩ => by
    subst h0
    obtain ⟨i1, i2, i3⟩ := pairs_of e h2
    have hr : Rep Hi (pairD p) v := h1
    obtain ⟨a, ws, rfl, h3, h4⟩ := h1
    obtain ⟨x, y, rfl, hx, hy⟩ := two_rep h4
    cases (show x = .int _ from hx); cases (show y = .int _ from hy)
    have hp : pairOf H (.ref a) = p := by
      show (match H a with | some (.tup [.int a, .int b]) => (a, b) | _ => (0, 0)) = p
      rw [e _ _ h3]
    refine ⟨fun x hx => ?_, by rw [List.map_cons, hp, i2], fun x hx => ?_⟩
    · rcases List.mem_cons.mp hx with rfl | hx
      · exact ⟨a, rfl, by rw [hp]; exact e _ _ h3⟩
      · exact i1 x hx
    · rcases List.mem_cons.mp hx with rfl | hx
      · rw [hp]; exact hr
      · exact i3 x hx
def pairLe (p q : Int × Int) : Prop := p.1 < q.1 ∨ (p.1 = q.1 ∧ p.2 ≤ q.2)
def rdSortP : RCD := fun es M Q => match es with
  | [d] => lstK d M fun ds => ∃ ps : List (Int × Int), ds = ps.map pairD ∧ ∀ qs : List (Int × Int), qs.Perm ps → qs.Pairwise pairLe → Q (.lst (qs.map pairD)) M
  | _ => False
theorem repL_of_forall {Hi : Hp} {f : V → D} : ∀ {vs : List V}, (∀ x ∈ vs, Rep Hi (f x) x) → RepL Hi (vs.map f) vs
  | [], _ => rfl
  | v :: vs, h => ⟨v, vs, rfl, h v List.mem_cons_self, repL_of_forall fun x hx => h x (List.mem_cons_of_mem _ hx)⟩
theorem lexB_le {p q : Int × Int} (h : SrtO.lexB q p = false) : pairLe p q := by
  unfold SrtO.lexB at h
  unfold pairLe
  split at h
  · have := of_decide_eq_false h; omega
  · have := of_decide_eq_false h; omega
theorem sim_sortP {K : PySem.W.Frag} : SimC (rSortedPO K) rdSortP := by
  intro vs es H Hi M N Q R rv w h k
  unfold rdSortP at h
  split at h
  · obtain ⟨v, rfl, r⟩ := one_rep rv
    obtain ⟨a, vs, ds, rfl, h1, r1, ps, rfl, h⟩ := lst_at (K := K) r w h
    obtain ⟨i1, i2, i3⟩ := pairs_of w.ext r1
    refine ⟨a, vs, pairOf H, rfl, h1, i1, fun ys p hs hb hp => ?_⟩
    have hr : RepL Hi (ys.map fun x => pairD (pairOf H x)) ys := repL_of_forall fun x hx => i3 x (hb.perm.mem_iff.mp hx)
    have hq : Q (.lst ((ys.map (pairOf H)).map pairD)) M := by
      refine h _ ?_ ?_
      · rw [← i2]; exact hb.perm.map _
      · exact List.pairwise_map.mpr (hs.imp fun z => lexB_le z)
    rw [List.map_map] at hq
    exact mk_lst (Ext.refl _) w hr hq k p hp
  · exact h.elim
/-- isinstance(x, T), T a built-in class: int, bool, list, tuple, str -/
def tyD (d : D) (M : Cells) (k : String → Prop) : Prop := match d with
  | .non => k "NoneType"
  | .bl _ => k "bool"
  | .int _ => k "int"
  | .str _ => k "str"
  | .lst _ => k "list"
  | .scr _ => k "list"
  | .tup _ => k "tuple"
  | .tupx _ => k "tuple"
  | .ref a => (∃ (i : Nat) (ds : List D), M[i]? = some (a, MO.lst ds) ∧ k "list") ∨ (∃ (i : Nat) (ks : List Key) (ds : List D), M[i]? = some (a, MO.dK ks ds) ∧ k "dict")
  | _ => False
theorem ty_at {K : PySem.W.Frag} {Hi : Hp} {d : D} {v : V} {M N : Cells} {H : Hp} {k : String → Prop} (r : Rep Hi d v) (w : Own Hi (M ++ N) H) (h : tyD d M k) : ∃ t, TyX K H v (.type t) ∧ k t := by
  cases d with
  | non => cases (show v = .non from r); exact ⟨_, .base .non, h⟩
  | bl b => cases (show v = .bl b from r); exact ⟨_, .base (.bl b), h⟩
  | int b => cases (show v = .int b from r); exact ⟨_, .base (.int b), h⟩
  | str b => cases (show v = .str b from r); exact ⟨_, .base (.str b), h⟩
  | lst ds => obtain ⟨a, vs, rfl, h1, h2⟩ := r; exact ⟨_, .base (.lst (w.ext _ _ h1)), h⟩
  | scr ds =>
    obtain ⟨a, vs, rfl, h1, h2⟩ := r
    rcases h1 with h1 | ⟨o, h1⟩
    · exact ⟨_, .base (.lst (w.ext _ _ h1)), h⟩
    · exact ⟨_, .base (.frz (w.ext _ _ h1)), h⟩
  | tup ds => obtain ⟨a, vs, rfl, h1, h2⟩ := r; exact ⟨_, .base (.tup (w.ext _ _ h1)), h⟩
  | tupx ds => obtain ⟨a, vs, o, rfl, h1, _, h2⟩ := r; exact ⟨_, .fTuple (w.ext _ _ h1), h⟩
  | ref a =>
    cases (show v = .ref a from r)
    rcases h with ⟨i, ds, e, h⟩ | ⟨i, ks, ds, e, h⟩
    · obtain ⟨_, o, ho, vs, rfl, rv⟩ := w.getL e
      exact ⟨_, .base (.lst ho), h⟩
    · obtain ⟨_, o, ho, vs, rfl, hl, rv⟩ := w.getL e
      exact ⟨_, .base (.dK ho), h⟩
  | _ => exact h.elim
/-- the answer: as the type is -/
def rdIsi (T : String) (b : String → Bool) : RCD := fun es M Q => match es with
  | [d, _] => tyD d M fun t => kitB t T = some (b t) ∧ Q (.bl (b t)) M
  | _ => False
theorem sim_isi {K : PySem.W.Frag} {T : String} {b : String → Bool} : SimC (fun xs H Q => ∃ y, rIsi K [y, .ty T] H Q ∧ xs = [y, .ty T]) (fun es M Q => ∃ d, es = [d, .ty T] ∧ rdIsi T b es M Q) := by
  intro vs es H Hi M N Q R rv w h k
  obtain ⟨d, rfl, h⟩ := h
  obtain ⟨v, u, rfl, r1, r2⟩ := two_rep rv
  cases (show u = .ty T from r2)
  have h : tyD d M fun t => kitB t T = some (b t) ∧ Q (.bl (b t)) M := h
  obtain ⟨t, h1, h2, h⟩ := ty_at (K := K) r1 w h
  exact ⟨v, ⟨v, .ty T, .type t, .type T, b t, rfl, .ty T, h1, kit_ty h2, k _ H Hi (.bl _) M (Ext.refl _) w rfl h⟩, rfl⟩
theorem call_isiB {X : Cx} {T : String} : CallR X (.builtin "isinstance") (fun xs H Q => ∃ y, rIsi X.K [y, .ty T] H Q ∧ xs = [y, .ty T]) := by
  intro pins s σ H xs us Q I r h
  obtain ⟨y, h, rfl⟩ := h
  exact call_isi pins s σ H _ us Q I r h
end DL

set_option Elab.async false
set_option linter.all false
set_option maxRecDepth 100000
set_option maxHeartbeats 4000000
namespace DL
open PySem PySem.Spec L2

/-! ### methods of lists -/
abbrev RMD := D → List D → Cells → XQ → Prop
def SimM (r : V → List V → Hp → VK → Prop) (rd : RMD) : Prop := ∀ (x : V) (vs : List V) (d : D) (es : List D) (H Hi : Hp) (M N : Cells) (Q : XQ) (R : VK), Rep Hi d x → RepL Hi es vs → Own Hi (M ++ N) H → rd d es M Q →
  (∀ v H' Hi' d M', Ext Hi Hi' → Own Hi' (M' ++ N) H' → Rep Hi' d v → Q d M' → R v H') → r x vs H R
def xML (rd : RMD) (to : XE) (t : XA) : XE := fun ds M Q => to ds M fun d M1 => lstK d M1 fun _ => t ds M1 fun es M2 => rd d es M2 Q
theorem sim_ML {K : PySem.W.Frag} {r : V → List V → Hp → VK → Prop} {rd : RMD} {po : TE} {to : XE} {pt : TA} {t : XA} (hr : SimM r rd) (ho : SimE po to) (ht : SimA pt t) : SimE (tBM K "list" r po pt) (xML rd to t) := by
  intro σ H Hi ds M N Q R hl w h k
  refine ho σ H Hi ds M N _ _ hl w h ?_
  intro v H1 Hi1 d M1 e1 w1 r1 q1
  obtain ⟨a, vs, ds', rfl, h1, r2, q1⟩ := lst_at (K := K) r1 w1 q1
  refine ⟨.inl ⟨rfl, vs, h1⟩, ?_⟩
  refine ht σ H1 Hi1 ds M1 N _ _ (hl.mono e1) w1 q1 ?_
  intro us H2 Hi2 es M2 e2 w2 r3 q2
  exact hr _ us d es H2 Hi2 M2 N Q R (r1.mono e2) r3 w2 q2 fun v H3 Hi3 d M3 e3 => k v H3 Hi3 d M3 ((e1.trans e2).trans e3)
theorem sim_ML0 {K : PySem.W.Frag} {r : V → List V → Hp → VK → Prop} {rd : RMD} {po : TE} {to : XE} (hr : SimM r rd) (ho : SimE po to) : SimE (tBM0 K "list" r po) (xML rd to xNil) := by
  intro σ H Hi ds M N Q R hl w h k
  refine ho σ H Hi ds M N _ _ hl w h ?_
  intro v H1 Hi1 d M1 e1 w1 r1 q1
  obtain ⟨a, vs, ds', rfl, h1, r2, q1⟩ := lst_at (K := K) r1 w1 q1
  refine ⟨.inl ⟨rfl, vs, h1⟩, ?_⟩
  exact hr _ [] d [] H1 Hi1 M1 N Q R r1 rfl w1 q1 fun v H3 Hi3 d M3 e3 => k v H3 Hi3 d M3 (e1.trans e3)
section
variable {X : Cx} {o e : Expr} {es : List Expr} {to : XE} {t : XA} {name : Str} {apos cpos : Pos} {id : String} {r : V → List V → Hp → VK → Prop} {rd : RMD}
theorem de_ml (slot : Slot "list" name id) (hty : typeOf (.builtin id) = pure (.type "method_descriptor")) (hm : MtR X id r) (hr : SimM r rd) (ho : DE X o to) (ha : DA X (e :: es) t)
    (hbase : attributeBase o name X.env (eval o X.env) = eval o X.env := by rfl)
    (hfew : ((backTo cpos (starEach (e :: es) X.env)).all (fun x => !x.1) && (backToKw cpos (keywordEach [] X.env)).all (fun x => x.1.isSome)
      && decide ((e :: es).length + ([] : List Keyword).length + (if ([] : List Keyword).isEmpty then 0 else 1) < 30)) = true := by rfl)
    (hline : (apos.endLine == cpos.line) = true := by rfl) (hs : starEach (e :: es) X.env = (false, eval e X.env) :: starEach es X.env := by rfl) (hplain : (backTo cpos (starEach es X.env)).any (·.1) = false := by rfl) :
    DE X (.Call (.Attribute o name apos) (e :: es) [] cpos) (xML rd to t) := by
  obtain ⟨po, o1, o2⟩ := ho.ex
  obtain ⟨pt, t1, t2⟩ := ha.ex
  exact ⟨_, pe_bm F.plainAttrs_list slot hty hm o1 t1 hbase hfew hline hs hplain, sim_ML hr o2 t2⟩
theorem de_ml0 (slot : Slot "list" name id) (hty : typeOf (.builtin id) = pure (.type "method_descriptor")) (hm : MtR X id r) (hr : SimM r rd) (ho : DE X o to)
    (hbase : attributeBase o name X.env (eval o X.env) = eval o X.env := by rfl) (hline : (apos.endLine == cpos.line) = true := by rfl) : DE X (.Call (.Attribute o name apos) [] [] cpos) (xML rd to xNil) := by
  obtain ⟨po, o1, o2⟩ := ho.ex
  exact ⟨_, pe_bm0 F.plainAttrs_list slot hty hm o1 hbase hline, sim_ML0 hr o2⟩
end
def rdAppend : RMD := fun d es M Q => match d, es with
  | .ref a, [y] => ∃ (i : Nat) (xs : List D), M[i]? = some (a, MO.lst xs) ∧ xs.length < 16777216 ∧ Q .non (M.set i (a, MO.lst (xs ++ [y])))
  | _, _ => False
theorem lt_line {n : Nat} (h : n < 16777216) : n < sizeLine := by rw [sizeLine_eq]; exact h
theorem sim_append : SimM rAppend rdAppend := by
  intro x vs d es H Hi M N Q R rx rv w h k
  unfold rdAppend at h
  split at h
  · rename_i a y
    obtain ⟨i, xs, e, hz, h⟩ := h
    obtain ⟨v, rfl, ry⟩ := one_rep rv
    obtain ⟨_, o, ho, us, rfl, ru⟩ := w.getL e
    exact ⟨a, us, v, rx, rfl, ho, lt_line (by rw [← ru.length]; exact hz), k _ _ Hi .non _ (Ext.refl _) (w.write' (m' := .lst (xs ++ [y])) e ⟨_, rfl, ru.append (.cons ry .nil)⟩) rfl h⟩
  · exact h.elim
def rdExtend : RMD := fun d es M Q => match d, es with
  | .ref a, [y] => ∃ (i : Nat) (xs : List D), M[i]? = some (a, MO.lst xs) ∧ ownK y M fun ys => xs.length + ys.length ≤ 16777216 ∧ Q .non (M.set i (a, MO.lst (xs ++ ys)))
  | _, _ => False
theorem sim_extend : SimM rExtend rdExtend := by
  intro x vs d es H Hi M N Q R rx rv w h k
  unfold rdExtend at h
  split at h
  · rename_i a y
    obtain ⟨i, xs, e, h⟩ := h
    obtain ⟨v, rfl, ry⟩ := one_rep rv
    obtain ⟨b, ws, ys, rfl, hb, rb, hz, h⟩ := own_at ry w h
    obtain ⟨_, o, ho, us, rfl, ru⟩ := w.getL e
    exact ⟨a, b, us, ws, rx, rfl, ho, hb, le_line (by rw [← ru.length, ← rb.length]; exact hz), k _ _ Hi .non _ (Ext.refl _) (w.write' (m' := .lst (xs ++ ys)) e ⟨_, rfl, ru.append rb⟩) rfl h⟩
  · exact h.elim
theorem RepL.eraseIdx {H : Hp} : ∀ {ds : List D} {vs : List V} (n : Nat), RepL H ds vs → RepL H (ds.eraseIdx n) (vs.eraseIdx n)
  | [], _, _, h => by cases h; rfl
  | _ :: _, _, 0, ⟨w, r, h0, h1, h2⟩ => by subst h0; exact h2
  | _ :: _, _, n + 1, ⟨w, r, h0, h1, h2⟩ => by subst h0; exact ⟨w, _, rfl, h1, RepL.eraseIdx n h2⟩
def rdPopAt : RMD := fun d es M Q => match d, es with
  | .ref a, [.int n] => ∃ (i : Nat) (xs : List D) (j : Nat) (y : D), M[i]? = some (a, MO.lst xs) ∧ ixN xs.length n = some j ∧ xs[j]? = some y ∧ Q y (M.set i (a, MO.lst (xs.eraseIdx j)))
  | _, _ => False
theorem line_lt63 {n : Nat} (h : n ≤ sizeLine) : (n : Int) < 2 ^ 63 := by rw [sizeLine_eq] at h; omega
theorem sim_popAt : SimM (fun x vs H Q => ∃ l xs i k y, x = .ref l ∧ vs = [.int i] ∧ H l = some (.lst xs) ∧ ixN xs.length i = some k ∧ xs[k]? = some y ∧ Q y (upd H l (.lst (xs.eraseIdx k)))) rdPopAt := by
  intro x vs d es H Hi M N Q R rx rv w h k
  unfold rdPopAt at h
  split at h
  · rename_i a n
    obtain ⟨i, xs, j, y, e, hj, hy, h⟩ := h
    obtain ⟨v, rfl, rn⟩ := one_rep rv
    cases (show v = .int n from rn)
    obtain ⟨_, o, ho, us, rfl, ru⟩ := w.getL e
    obtain ⟨z, hz, rz⟩ := ru.get hy
    exact ⟨a, us, n, j, z, rx, rfl, ho, by rw [← ru.length]; exact hj, hz, k _ _ Hi y _ (Ext.refl _) (w.write' (m' := .lst (xs.eraseIdx j)) e ⟨_, rfl, ru.eraseIdx j⟩) rz h⟩
  · exact h.elim
theorem mt_popAtN {X : Cx} : MtR X "list.pop" (fun x vs H Q => ∃ l xs i k y, x = .ref l ∧ vs = [.int i] ∧ H l = some (.lst xs) ∧ ixN xs.length i = some k ∧ xs[k]? = some y ∧ Q y (upd H l (.lst (xs.eraseIdx k)))) := by
  intro pins s σ H x xs v us Q I rx rs h
  obtain ⟨l, zs, i, k, y, rfl, rfl, hl, hk, hy, q⟩ := h
  obtain ⟨h1, h2, h3, h4⟩ := ixN_seq hk
  have hz : zs.length ≤ sizeLine := (I.list (SqL.of hl)).elim fun its z => z.2.2
  have := line_lt63 hz
  exact mt_popAt pins s σ H _ _ v us Q I rx rs ⟨l, zs, i, k, y, rfl, rfl, hl, by omega, by omega, h1, hy, q⟩
def rdPop : RMD := fun d es M Q => match d, es with
  | .ref a, [] => ∃ (i : Nat) (xs : List D) (y : D), M[i]? = some (a, MO.lst (xs ++ [y])) ∧ Q y (M.set i (a, MO.lst xs))
  | _, _ => False
theorem sim_pop : SimM rPop rdPop := by
  intro x vs d es H Hi M N Q R rx rv w h k
  unfold rdPop at h
  split at h
  · rename_i a
    obtain ⟨i, xs, y, e, h⟩ := h
    cases rv
    obtain ⟨_, o, ho, us, rfl, ru⟩ := w.getL e
    have hl := ru.length
    rw [List.length_append, List.length_singleton] at hl
    have hg : (xs ++ [y])[us.length - 1]? = some y := by
      rw [show us.length - 1 = xs.length by omega]; simp
    obtain ⟨z, hz, rz⟩ := ru.get hg
    refine ⟨a, us, z, rx, rfl, ho, hz, k _ _ Hi y _ (Ext.refl _) (w.write' (m' := .lst xs) e ⟨us.dropLast, rfl, ?_⟩) rz h⟩
    have q := ru.take (us.length - 1)
    rw [← List.dropLast_eq_take, show us.length - 1 = xs.length by omega, List.take_left] at q
    exact q
  · exact h.elim
/-- index, of ints -/
def rdIndexI : RMD := fun d es M Q => lstK d M fun ds => ∃ (ns : List Int) (i : Int), ds = ns.map D.int ∧ es = [.int i] ∧ i ∈ ns ∧ Q (.int (ns.idxOf i : Nat)) M
theorem idxOf_ne : ∀ {ns : List Int} {i : Int} (m : Nat), m < ns.idxOf i → ns[m]? ≠ some i
  | [], _, m, h => by simp
  | x :: ns, i, m, h => by
    rw [List.idxOf_cons] at h
    cases e : (x == i) with
    | true => rw [e] at h; simp at h
    | false =>
      rw [e] at h
      have ne : x ≠ i := by simpa using e
      cases m with
      | zero => simpa using ne
      | succ m => simpa using idxOf_ne m (by simpa using h)
theorem idxOf_first {ns : List Int} {i : Int} (h : i ∈ ns) : ns[ns.idxOf i]? = some i ∧ ∀ m, m < ns.idxOf i → ns[m]? ≠ some i := by
  exact ⟨by rw [List.getElem?_eq_getElem (List.idxOf_lt_length_iff.mpr h), List.getElem_idxOf], fun m hm => idxOf_ne m hm⟩
theorem sim_indexI {K : PySem.W.Frag} : SimM (rIndex K) rdIndexI := by
  intro x vs d es H Hi M N Q R rx rv w h k
  obtain ⟨a, us, ds, rfl, h1, r1, ns, i, rfl, rfl, hi, h⟩ := lst_at (K := K) rx w h
  obtain ⟨v, rfl, rn⟩ := one_rep rv
  cases (show v = .int i from rn)
  cases r1.ints
  obtain ⟨f1, f2⟩ := idxOf_first hi
  refine ⟨a, _, .int i, ns.idxOf i, .int i, rfl, rfl, h1, rfl, by rw [List.all_map]; exact List.all_eq_true.mpr fun _ _ => rfl, by rw [List.getElem?_map, f1]; rfl, by simp [eqV], fun m z hm hz => ?_, k _ H Hi (.int _) M (Ext.refl _) w rfl h⟩
  rw [List.getElem?_map] at hz
  cases e : ns[m]? with
  | none => rw [e] at hz; cases hz
  | some j =>
    rw [e] at hz
    cases hz
    have : j ≠ i := fun z => f2 m hm (z ▸ e)
    simp [eqV, this]
/-! ### t.index(i), t a bare tuple of ints -/
def rTupIx : V → List V → Hp → VK → Prop := fun x xs H Q => ∃ (p : Addr) (o : Obj) (ns : List Int) (i : Int), x = .ref p ∧ xs = [.int i] ∧ H p = some (.frz o (.tup (ns.map V.int))) ∧ o.dict = none ∧ i ∈ ns ∧ Q (.int (ns.idxOf i : Nat)) H
theorem mt_tupIx {X : Cx} : MtR X "tuple.index" rTupIx := by
  intro pins s σ H x xs v us Q I rx rs h
  obtain ⟨p, ob, ns, z, rfl, rfl, hq, hdn, hi, q⟩ := h
  cases rx
  obtain ⟨u, rfl, t, rfl⟩ := vals1 rs
  obtain ⟨its, r, pl, hz⟩ := I.tuple (.inl (.inr ⟨ob, hq⟩))
  obtain ⟨⟨cls, dd, dt, sl⟩, ho, hc, n, hd⟩ := pl
  simp only at hc hd
  subst hc
  subst hd
  obtain ⟨f1, f2⟩ := idxOf_first hi
  have hl : its.toArray.size = ns.length := by rw [List.size_toArray, ← r.length, List.length_map]
  have hj : ns.idxOf z < its.toArray.size := by rw [hl]; exact List.idxOf_lt_length_iff.mpr hi
  have at' : ∀ (m : Nat) (hm : m < its.toArray.size), ∃ y t', ns[m]? = some y ∧ its.toArray[m] = Value.int y t' := fun m hm => by
    have hm' : m < ns.length := by rw [← hl]; exact hm
    obtain ⟨w, hw, t', hw'⟩ := r.get (i := m) (x := .int ns[m]) (by simp [hm'])
    refine ⟨ns[m], t', List.getElem?_eq_getElem hm', ?_⟩
    have e := (List.getElem?_eq_some_iff.mp hw).2
    rw [← hw', ← e]
    simp
  have flat : (ns.map V.int).all flatV = true := by rw [List.all_map]; exact List.all_eq_true.mpr fun _ _ => rfl
  refine call_meets PySem.F.slot_tuple_index ⟨_, ho, rfl⟩ PySem.F.entry_tuple_index (PySem.F.args_tuple_index_2 _ _) (TI.tuple_indexAt p its.toArray n dd sl (.int z t) (eqU (.int z)) (ns.idxOf z) hj ?_ ?_)
    ⟨ho, fun w hw => mem_eqAt (x := .int z) ⟨t, rfl⟩ rfl r flat w (by simpa using hw), ⟨.int (ns.idxOf z : Nat), H, I.tok _, ⟨_, rfl⟩, q⟩⟩
  · obtain ⟨y, t', h1, h2⟩ := at' _ hj
    rw [f1] at h1
    cases h1
    rw [h2]
    simp [eqU, eqV, absV]
  · intro m hm hmj
    obtain ⟨y, t', h1, h2⟩ := at' m hm
    rw [h2]
    have : y ≠ z := fun e => f2 m hmj (e ▸ h1)
    simp [eqU, eqV, absV, this]
def tTupIx (to : TE) (t : TA) : TE := fun σ H Q => to σ H fun x H1 => (∃ a o vs, x = .ref a ∧ H1 a = some (.frz o (.tup vs)) ∧ o.dict = none) ∧ t σ H1 fun xs H2 => rTupIx x xs H2 Q
theorem pe_tupIx {X : Cx} {o e : Expr} {to : TE} {t : TA} {apos cpos : Pos} (ho : PE X o to) (ha : PA X [e] t)
    (hbase : attributeBase o "index" X.env (eval o X.env) = eval o X.env := by rfl)
    (hfew : ((backTo cpos (starEach [e] X.env)).all (fun x => !x.1) && (backToKw cpos (keywordEach [] X.env)).all (fun x => x.1.isSome)
      && decide ([e].length + ([] : List Keyword).length + (if ([] : List Keyword).isEmpty then 0 else 1) < 30)) = true := by rfl)
    (hline : (apos.endLine == cpos.line) = true := by rfl) (hs : starEach [e] X.env = (false, eval e X.env) :: starEach [] X.env := by rfl) (hplain : (backTo cpos (starEach [] X.env)).any (·.1) = false := by rfl) :
    PE X (.Call (.Attribute o "index" apos) [e] [] cpos) (tTupIx to t) := by
  refine ⟨fun pins s σ H Q I h => ?_⟩
  refine wpAny_Call_method_late hbase hfew hline rfl (thn (ho.run pins s σ H _ I h) fun v s1 ⟨x, H1, I1, r1, ty, q1⟩ => ?_)
  obtain ⟨a, ob, vs, rfl, ha', hdn⟩ := ty
  cases (show v = .ref a from r1)
  obtain ⟨g1, g2⟩ := (show s1.heap.get? a = some ob ∧ ObjOk X.prog X.w H1 s1.heap a (.tup vs) from I1.hok a _ ha')
  obtain ⟨_, its, _, o2, g3, g4, _⟩ := g2
  rw [g1] at g3
  cases g3
  refine ⟨"tuple", "tuple.index", F.plainAttrs_tuple, F.slot_tuple_index, F.type_tuple_index, ⟨ob, g1, g4⟩, fun b e => by cases e; exact ⟨ob, g1, hdn⟩, ?_⟩
  have hA := ha.run cpos pins s1 σ H1 _ I1 q1
  rw [hs] at hA ⊢
  refine Calls.callWith_builtin (by show (false || (backTo cpos (starEach [] X.env)).any (·.1)) = false; rw [hplain] <;> rfl) (Calls.evalArgs_plain ?_)
  exact thn hA fun us s2 ⟨vs, H2, I2, r2, q2⟩ => mt_tupIx pins s2 σ H2 (.ref a) vs _ us Q I2 rfl r2 q2
def tupxK (d : D) (k : List D → Prop) : Prop := match d with
  | .tupx es => k es
  | _ => False
def ixK (es : List D) (d : D) (M : Cells) (Q : XQ) : Prop := match d with
  | .int i => ∃ ns : List Int, es = ns.map D.int ∧ i ∈ ns ∧ Q (.int (ns.idxOf i : Nat)) M
  | _ => False
def xTupIx (to te : XE) : XE := fun ds M Q => to ds M fun d M1 => tupxK d fun es => te ds M1 fun e M2 => ixK es e M2 Q
theorem de_tupIx {X : Cx} {o e : Expr} {to te : XE} {apos cpos : Pos} (ho : DE X o to) (he : DE X e te) (hs : starEach [e] X.env = (false, eval e X.env) :: starEach [] X.env := by rfl)
    (hbase : attributeBase o "index" X.env (eval o X.env) = eval o X.env := by rfl)
    (hfew : ((backTo cpos (starEach [e] X.env)).all (fun x => !x.1) && (backToKw cpos (keywordEach [] X.env)).all (fun x => x.1.isSome)
      && decide ([e].length + ([] : List Keyword).length + (if ([] : List Keyword).isEmpty then 0 else 1) < 30)) = true := by rfl)
    (hline : (apos.endLine == cpos.line) = true := by rfl) (hplain : (backTo cpos (starEach [] X.env)).any (·.1) = false := by rfl) :
    DE X (.Call (.Attribute o "index" apos) [e] [] cpos) (xTupIx to te) := by
  obtain ⟨po, o1, o2⟩ := ho.ex
  obtain ⟨pe, e1, e2⟩ := he.ex
  refine ⟨_, pe_tupIx o1 (pa_cons e1 pa_nil hs) hbase hfew hline hs hplain, fun σ H Hi ds M N Q R hl w h k => ?_⟩
  refine o2 σ H Hi ds M N _ _ hl w h ?_
  intro v H1 Hi1 d M1 x1 w1 r1 q1
  unfold tupxK at q1
  split at q1
  · obtain ⟨a, vs, ob, rfl, h1, hdn, rv⟩ := r1
    refine ⟨⟨a, ob, vs, rfl, w1.ext _ _ h1, hdn⟩, ?_⟩
    refine e2 σ H1 Hi1 ds M1 N _ _ (hl.mono x1) w1 q1 ?_
    intro v2 H2 Hi2 d2 M2 x2 w2 r2 q2
    unfold ixK at q2
    split at q2
    · rename_i i
      obtain ⟨ns, rfl, hi, q2⟩ := q2
      cases (show v2 = .int i from r2)
      cases rv.ints
      exact ⟨a, ob, ns, i, rfl, rfl, w2.ext _ _ (x2 _ _ h1), hdn, hi, k _ H2 Hi2 (.int _) M2 (x1.trans x2) w2 rfl q2⟩
    · exact q2.elim
  · exact q1.elim
/-! ### subscripts, slices -/
def rdIx : RD := fun d e M Q => match e with
  | .int i => seqK d M fun ds => ∃ v, atI ds i = some v ∧ Q v M
  | _ => False
theorem ixN_eq {n m : Nat} {i : Int} (h : n = m) : ixN n i = ixN m i := by rw [h]
theorem atI_rep {Hi : Hp} {ds : List D} {vs : List V} {i : Int} {d : D} (r : RepL Hi ds vs) (h : atI ds i = some d) : ∃ v, atI vs i = some v ∧ Rep Hi d v := by
  unfold atI at h ⊢
  rw [← r.length]
  cases e : ixN ds.length i with
  | none => rw [e] at h; cases h
  | some j =>
    rw [e] at h
    obtain ⟨v, h1, h2⟩ := r.get (show ds[j]? = some d from h)
    exact ⟨v, h1, h2⟩
theorem sim_ix {K : PySem.W.Frag} : SimR (fun x y H Q => rIxL K x y H Q ∨ rIxT K x y H Q) rdIx := by
  intro x y d e H Hi M N Q R rx ry w h k
  unfold rdIx at h
  split at h
  · rename_i i
    cases (show y = .int i from ry)
    obtain ⟨a, vs, ds, rfl, h1, r1, v, hv, h⟩ := seq_at (K := K) rx w h
    obtain ⟨u, hu, ru⟩ := atI_rep r1 hv
    rcases h1 with h1 | h1
    · exact .inl ⟨a, vs, i, u, rfl, rfl, h1, hu, k _ H Hi v M (Ext.refl _) w ru h⟩
    · exact .inr ⟨a, vs, i, u, rfl, rfl, h1, hu, k _ H Hi v M (Ext.refl _) w ru h⟩
  · exact h.elim
section
variable {X : Cx} {a b : Expr} {ta tb : XE} {pos : Pos}
theorem de_ix (ha : DE X a ta) (hb : DE X b tb) (hs : PlainIx b := by exact fun _ _ => rfl) : DE X (.Subscript a b pos) (xOp rdIx ta tb) := by
  obtain ⟨pa, a1, a2⟩ := ha.ex
  obtain ⟨pb, b1, b2⟩ := hb.ex
  exact ⟨_, pe_ix (ix_list.or ix_tup) a1 b1 hs, sim_op sim_ix a2 b2⟩
/-- a part of a slice -/
abbrev XO := Loc → Cells → (Option Int → Cells → Prop) → Prop
def SimO (to : TO) (t : XO) : Prop := ∀ (σ : L2.St) (H Hi : Hp) (ds : Loc) (M N : Cells) (Q : Option Int → Cells → Prop) (R : Option Int → Hp → Prop), LocOk Hi ds σ → Own Hi (M ++ N) H → t ds M Q → (∀ o H' Hi' M', Ext Hi Hi' → Own Hi' (M' ++ N) H' → Q o M' → R o H') → to σ H R
structure DO (X : Cx) (e : Option Expr) (t : XO) : Prop where
  ex : ∃ to, PO X e to ∧ SimO to t
def xoN : XO := fun _ M Q => Q none M
def xoS (te : XE) : XO := fun ds M Q => te ds M fun d M1 => match d with
  | .int i => Q (some i) M1
  | _ => False
theorem do_none : DO X none xoN := ⟨_, po_none, fun σ H Hi ds M N Q R hl w h k => k none H Hi M (Ext.refl _) w h⟩
theorem do_some (ha : DE X a ta) : DO X (some a) (xoS ta) := by
  obtain ⟨pa, a1, a2⟩ := ha.ex
  refine ⟨_, po_some a1, fun σ H Hi ds M N Q R hl w h k => a2 σ H Hi ds M N _ _ hl w h fun v H1 Hi1 d M1 e1 w1 r1 q1 => ?_⟩
  split at q1
  · exact ⟨_, r1, k _ H1 Hi1 M1 e1 w1 q1⟩
  · exact q1.elim
def cutD (xs : List D) (lo hi : Option Int) : List D := (xs.drop (HT.sIx xs.length 0 lo)).take (HT.sIx xs.length xs.length hi - HT.sIx xs.length 0 lo)
theorem cut_rep {Hi : Hp} {ds : List D} {vs : List V} (r : RepL Hi ds vs) (lo hi : Option Int) : RepL Hi (cutD ds lo hi) (cutV vs lo hi) := by
  unfold cutD cutV
  rw [r.length]
  exact (r.drop _).take _
/-- xs[lo:hi], a new list that stays -/
def xSl (te : XE) (tl th : XO) : XE := fun ds M Q => te ds M fun d M1 => tl ds M1 fun lo M2 => th ds M2 fun hi M3 => lstK d M3 fun es => Q (.lst (cutD es lo hi)) M3
def xSlM (te : XE) (tl th : XO) : XE := fun ds M Q => te ds M fun d M1 => tl ds M1 fun lo M2 => th ds M2 fun hi M3 => lstK d M3 fun es => ∀ a, Q (.ref a) ((a, .lst (cutD es lo hi)) :: M3)
theorem de_sl {lo hi : Option Expr} {tl th : XO} {p2 : Pos} (ha : DE X a ta) (hl : DO X lo tl) (hh : DO X hi th) : DE X (.Subscript a (.Slice lo hi none p2) pos) (xSl ta tl th) := by
  obtain ⟨pa, a1, a2⟩ := ha.ex
  obtain ⟨pl, l1, l2⟩ := hl.ex
  obtain ⟨ph, h1, h2⟩ := hh.ex
  refine ⟨_, pe_slice sl_list a1 l1 h1, fun σ H Hi ds M N Q R hl w h k => ?_⟩
  refine a2 σ H Hi ds M N _ _ hl w h ?_
  intro v H1 Hi1 d M1 e1 w1 r1 q1
  refine l2 σ H1 Hi1 ds M1 N _ _ (hl.mono e1) w1 q1 ?_
  intro lo H2 Hi2 M2 e2 w2 q2
  refine h2 σ H2 Hi2 ds M2 N _ _ (hl.mono (e1.trans e2)) w2 q2 ?_
  intro hi H3 Hi3 M3 e3 w3 q3
  obtain ⟨a, vs, es, rfl, g1, r, q⟩ := lst_at (K := X.K) (r1.mono (e2.trans e3)) w3 q3
  exact ⟨a, vs, rfl, g1, mk_lst ((e1.trans e2).trans e3) w3 (cut_rep r lo hi) q k⟩
theorem de_slM {lo hi : Option Expr} {tl th : XO} {p2 : Pos} (ha : DE X a ta) (hl : DO X lo tl) (hh : DO X hi th) : DE X (.Subscript a (.Slice lo hi none p2) pos) (xSlM ta tl th) := by
  obtain ⟨pa, a1, a2⟩ := ha.ex
  obtain ⟨pl, l1, l2⟩ := hl.ex
  obtain ⟨ph, h1, h2⟩ := hh.ex
  refine ⟨_, pe_slice sl_list a1 l1 h1, fun σ H Hi ds M N Q R hl w h k => ?_⟩
  refine a2 σ H Hi ds M N _ _ hl w h ?_
  intro v H1 Hi1 d M1 e1 w1 r1 q1
  refine l2 σ H1 Hi1 ds M1 N _ _ (hl.mono e1) w1 q1 ?_
  intro lo H2 Hi2 M2 e2 w2 q2
  refine h2 σ H2 Hi2 ds M2 N _ _ (hl.mono (e1.trans e2)) w2 q2 ?_
  intro hi H3 Hi3 M3 e3 w3 q3
  obtain ⟨a, vs, es, rfl, g1, r, q⟩ := lst_at (K := X.K) (r1.mono (e2.trans e3)) w3 q3
  exact ⟨a, vs, rfl, g1, mk_lstM ((e1.trans e2).trans e3) w3 (cut_rep r lo hi) q k⟩
/-- xs[::-1] -/
def xRev (te : XE) : XE := fun ds M Q => te ds M fun d M1 => lstK d M1 fun es => Q (.lst es.reverse) M1
theorem de_rev {k : Nat} {p1 p2 p3 : Pos} (ha : DE X a ta) : DE X (.Subscript a (.Slice none none (some (.UnaryOp .USub (.Constant (.int 1) k p1) p2)) p3) pos) (xRev ta) := by
  obtain ⟨pa, a1, a2⟩ := ha.ex
  refine ⟨_, pe_revL a1, fun σ H Hi ds M N Q R hl w h k => a2 σ H Hi ds M N _ _ hl w h fun v H1 Hi1 d M1 e1 w1 r1 q1 => ?_⟩
  obtain ⟨a, vs, es, rfl, g1, r, q⟩ := lst_at (K := X.K) r1 w1 q1
  exact ⟨a, vs, rfl, g1, mk_lst e1 w1 r.reverse q k⟩
/-- list(range(..)) -/
def xLR (ta tb : XE) : XE := fun ds M Q => ta ds M fun d M1 => tb ds M1 fun e M2 => match d, e with
  | .int i, .int j => RgOk i j ∧ Q (.lst (rng i j)) M2
  | _, _ => False
def xLRM (ta tb : XE) : XE := fun ds M Q => ta ds M fun d M1 => tb ds M1 fun e M2 => match d, e with
  | .int i, .int j => RgOk i j ∧ ∀ a, Q (.ref a) ((a, .lst (rng i j)) :: M2)
  | _, _ => False
theorem rep_rng {Hi : Hp} {i j : Int} : RepL Hi (rng i j) (rgV i j) := by
  unfold rng rgV
  generalize (List.range (j - i).toNat) = l
  induction l with
  | nil => rfl
  | cons n l ih => exact ⟨_, _, rfl, rfl, ih⟩
section
variable {p p2 pos2 : Pos}
theorem de_lr (hm : X.mg "list" = none) (hm2 : X.mg "range" = none) (ha : DE X a ta) (hb : DE X b tb) (hc : X.calm = true := by rfl) (hg : Gl X "list" := by rfl) (hg2 : Gl X "range" := by rfl)
    (na : starEach [a, b] X.env = (false, eval a X.env) :: starEach [b] X.env := by rfl) (nb : starEach [b] X.env = (false, eval b X.env) :: starEach [] X.env := by rfl) (hp : (backTo pos2 (starEach [b] X.env)).any (·.1) = false := by rfl)
    (nc : starEach [.Call (.Name "range" p2) [a, b] [] pos2] X.env = (false, eval (.Call (.Name "range" p2) [a, b] [] pos2) X.env) :: starEach [] X.env := by rfl) :
    DE X (.Call (.Name "list" p) [.Call (.Name "range" p2) [a, b] [] pos2] [] pos) (xLR ta tb) := by
  obtain ⟨pa, a1, a2⟩ := ha.ex
  obtain ⟨pb, b1, b2⟩ := hb.ex
  refine ⟨_, pe_listRg hc hg hm (prg_2 hg2 hm2 a1 b1 na nb hp) nc, fun σ H Hi ds M N Q R hl w h k => ?_⟩
  refine a2 σ H Hi ds M N _ _ hl w h ?_
  intro v H1 Hi1 d M1 e1 w1 r1 q1
  refine b2 σ H1 Hi1 ds M1 N _ _ (hl.mono e1) w1 q1 ?_
  intro v2 H2 Hi2 d2 M2 e2 w2 r2 q2
  split at q2
  · exact ⟨_, _, r1, r2, q2.1, mk_lst (e1.trans e2) w2 rep_rng q2.2 k⟩
  · exact q2.elim
theorem de_lrM (hm : X.mg "list" = none) (hm2 : X.mg "range" = none) (ha : DE X a ta) (hb : DE X b tb) (hc : X.calm = true := by rfl) (hg : Gl X "list" := by rfl) (hg2 : Gl X "range" := by rfl)
    (na : starEach [a, b] X.env = (false, eval a X.env) :: starEach [b] X.env := by rfl) (nb : starEach [b] X.env = (false, eval b X.env) :: starEach [] X.env := by rfl) (hp : (backTo pos2 (starEach [b] X.env)).any (·.1) = false := by rfl)
    (nc : starEach [.Call (.Name "range" p2) [a, b] [] pos2] X.env = (false, eval (.Call (.Name "range" p2) [a, b] [] pos2) X.env) :: starEach [] X.env := by rfl) :
    DE X (.Call (.Name "list" p) [.Call (.Name "range" p2) [a, b] [] pos2] [] pos) (xLRM ta tb) := by
  obtain ⟨pa, a1, a2⟩ := ha.ex
  obtain ⟨pb, b1, b2⟩ := hb.ex
  refine ⟨_, pe_listRg hc hg hm (prg_2 hg2 hm2 a1 b1 na nb hp) nc, fun σ H Hi ds M N Q R hl w h k => ?_⟩
  refine a2 σ H Hi ds M N _ _ hl w h ?_
  intro v H1 Hi1 d M1 e1 w1 r1 q1
  refine b2 σ H1 Hi1 ds M1 N _ _ (hl.mono e1) w1 q1 ?_
  intro v2 H2 Hi2 d2 M2 e2 w2 r2 q2
  split at q2
  · exact ⟨_, _, r1, r2, q2.1, mk_lstM (e1.trans e2) w2 rep_rng q2.2 k⟩
  · exact q2.elim
end
end
end DL

set_option Elab.async false
set_option linter.all false
set_option maxRecDepth 100000
set_option maxHeartbeats 4000000
namespace DL
open PySem PySem.Spec L2

/-! ### dicts whose keys are ints and texts -/
def keyD : Key → D
  | .inl i => .int i
  | .inr s => .str s
def ixKey {κ : Type} [DecidableEq κ] (k : κ) : List κ → Option Nat
  | [] => none
  | n :: ns => if n = k then some 0 else (ixKey k ns).map Nat.succ
theorem ixKey_look {κ : Type} [DecidableEq κ] {k : κ} : ∀ {ns : List κ} {vs : List V}, ns.length = vs.length → valV (ns.zip vs) k = (ixKey k ns).bind fun j => vs[j]?
  | [], [], _ => rfl
  | n :: ns, v :: vs, hl => by
    rw [List.zip_cons_cons]
    unfold ixKey
    by_cases e : n = k
    · rw [valV_pos (p := (n, v)) e, if_pos e]; rfl
    · rw [valV_neg (p := (n, v)) e, if_neg e, ixKey_look (vs := vs) (by simpa using hl)]
      cases ixKey k ns <;> rfl
theorem ixKey_put {κ : Type} [DecidableEq κ] {k : κ} {y : V} : ∀ {ns : List κ} {vs : List V} {j : Nat}, ns.Nodup → ns.length = vs.length → ixKey k ns = some j → putK (ns.zip vs) k y = ns.zip (vs.set j y) := fun {ns vs j} nd hl h => by
  have hs : (valV (ns.zip vs) k).isSome = true := by
    rw [ixKey_look hl, h]
    have : j < vs.length := by
      rw [← hl]
      clear hl nd
      induction ns generalizing j with
      | nil => cases h
      | cons n ns ih =>
        unfold ixKey at h
        split at h
        · cases h; simp
        · cases e : ixKey k ns with
          | none => rw [e] at h; cases h
          | some i => rw [e] at h; cases h; simpa using ih e
    simp [this]
  unfold putK
  rw [valV_any, hs, if_pos rfl]
  clear hs
  induction ns generalizing vs j with
  | nil => cases h
  | cons n ns ih =>
    cases vs with
    | nil => cases hl
    | cons v vs =>
      have nd' := List.nodup_cons.mp nd
      unfold ixKey at h
      rw [List.zip_cons_cons, List.map_cons]
      split at h
      · rename_i e
        cases h
        subst e
        simp only [if_true, List.set_cons_zero, List.zip_cons_cons]
        congr 1
        have : ∀ {ms : List κ} {us : List V}, n ∉ ms → (ms.zip us).map (fun kv => if kv.1 = n then (kv.1, y) else kv) = ms.zip us := by
          intro ms
          induction ms with
          | nil => intro us _; rfl
          | cons m ms ih2 =>
            intro us hm
            cases us with
            | nil => rfl
            | cons u us =>
              rw [List.zip_cons_cons, List.map_cons, ih2 (fun z => hm (List.mem_cons_of_mem _ z)), if_neg (fun z : m = n => hm (z ▸ List.mem_cons_self))]
        exact this nd'.1
      · rename_i e
        cases h2 : ixKey k ns with
        | none => rw [h2] at h; cases h
        | some i =>
          rw [h2] at h
          cases h
          rw [ih nd'.2 (by simpa using hl) h2, if_neg e]
          rfl
theorem ixKey_none {κ : Type} [DecidableEq κ] {k : κ} {y : V} {ns : List κ} {vs : List V} (hl : ns.length = vs.length) (h : ixKey k ns = none) : putK (ns.zip vs) k y = (ns ++ [k]).zip (vs ++ [y]) := by
  unfold putK
  rw [valV_any, ixKey_look hl, h]
  simp only [Option.bind_none, Option.isSome_none, Bool.false_eq_true, if_false]
  rw [List.zip_append hl]
  rfl
theorem kV_keyD {Hi : Hp} {k : Key} {v : V} (r : Rep Hi (keyD k) v) : v = kV k := by cases k <;> exact r
/-- d[k], k written -/
def dkK (ks : List Key) (d : D) (M : Cells) (k : List D → Prop) : Prop := match d with
  | .ref a => ∃ (i : Nat) (es : List D), M[i]? = some (a, MO.dK ks es) ∧ k es
  | _ => False
theorem dk_at {Hi : Hp} {ks : List Key} {d : D} {v : V} {M N : Cells} {H : Hp} {k : List D → Prop} (r : Rep Hi d v) (w : Own Hi (M ++ N) H) (h : dkK ks d M k) : ∃ a vs es, v = .ref a ∧ H a = some (.dK (ks.zip vs)) ∧ ks.length = vs.length ∧ RepL Hi es vs ∧ k es := by
  unfold dkK at h
  split at h
  · rename_i a
    obtain ⟨i, es, e, h⟩ := h
    obtain ⟨_, o, ho, vs, rfl, hl, rv⟩ := w.getL e
    exact ⟨a, vs, es, r, ho, hl.trans rv.length, rv, h⟩
  · exact h.elim
def xDGet (ks : List Key) (j : Nat) (to : XE) : XE := fun ds M Q => to ds M fun d M1 => dkK ks d M1 fun es => getK es j fun v => Q v M1
section
variable {X : Cx} {o value : Expr} {to tv : XE} {pos pos' p2 : Pos} {kk : Nat}
theorem de_dgetS {x : Str} {ks : List Key} {j : Nat} (hj : ixKey (Sum.inr x) ks = some j) (hu : X.A.units + 1 < cLine) (ho : DE X o to) (hs : NoSl (.Constant (.str x) kk p2) := by exact fun _ _ => rfl) : DE X (.Subscript o (.Constant (.str x) kk p2) pos) (xDGet ks j to) := by
  obtain ⟨po, o1, o2⟩ := ho.ex
  refine ⟨_, pe_dget hu o1 pe_str hs, fun σ H Hi ds M N Q R hl w h k => ?_⟩
  refine o2 σ H Hi ds M N _ _ hl w h fun v H1 Hi1 d M1 e1 w1 r1 q1 => ?_
  obtain ⟨a, vs, es, rfl, h1, hlk, rv, q1⟩ := dk_at r1 w1 q1
  obtain ⟨d', h2, q1⟩ := getK_at q1
  obtain ⟨v', h3, r3⟩ := rv.get h2
  refine ⟨a, v', rfl, ?_, k v' H1 Hi1 d' M1 e1 w1 r3 q1⟩
  have q : DGet H1 a (kV (Sum.inr x)) (valV (ks.zip vs) (Sum.inr x)) := DGet.k h1
  rw [ixKey_look hlk, hj] at q
  have e3 : ((some j).bind fun j => vs[j]?) = some v' := h3
  rw [e3] at q
  exact q
/-- d[k] = e, k written, there already -/
def xDPut (ks : List Key) (j : Nat) (to tv : XE) : XS := fun Z ds M => tv ds M fun v M1 => to ds M1 fun d M2 => match d with
  | .ref a => ∃ (i : Nat) (es : List D), M2[i]? = some (a, MO.dK ks es) ∧ Z.nx ds (M2.set i (a, MO.dK ks (es.set j v)))
  | _ => False
theorem len_zip {α β : Type} {l : List α} {m : List β} (h : l.length = m.length) : (l.zip m).length = l.length := by simp [h]
theorem ds_dputS {x : Str} {ks : List Key} {j : Nat} (hj : ixKey (Sum.inr x) ks = some j) (nd : ks.Nodup) (hz : ks.length ≤ 1000) (hu : X.A.units + 1 < cLine) (ho : DE X o to) (hv : DE X value tv) (hs : swapsWith value (some (.Subscript o (.Constant (.str x) kk p2) pos')) pos.line X.env = pure false := by rfl) :
    DS X (.Assign [.Subscript o (.Constant (.str x) kk p2) pos'] value pos) (xDPut ks j to tv) := by
  obtain ⟨po, o1, o2⟩ := ho.ex
  obtain ⟨pv, v1, v2⟩ := hv.ex
  refine ⟨_, ps_dput hu o1 pe_str v1 hs, fun σ H Hi ds M N Z E hl w h k => ?_⟩
  refine v2 σ H Hi ds M N _ _ hl w h ?_
  intro v H1 Hi1 d M1 e1 w1 r1 q1
  refine o2 σ H1 Hi1 ds M1 N _ _ (hl.mono e1) w1 q1 ?_
  intro u H2 Hi2 d2 M2 e2 w2 r2 q2
  cases d2 with
  | ref a =>
    obtain ⟨i, es, e, q2⟩ := q2
    obtain ⟨_, ob, hob, vs, rfl, hln, rv⟩ := w2.getL e
    have hlk := hln.trans rv.length
    refine ⟨a, _, r2, DPut.k (k := Sum.inr x) hob (lt_line (by rw [len_zip hlk]; omega)), ?_⟩
    rw [ixKey_put nd hlk hj]
    exact k.nx σ _ Hi2 ds _ (e1.trans e2) (hl.mono (e1.trans e2)) (w2.write' (m' := .dK ks (es.set j d)) e ⟨_, rfl, by simp [hln], rv.set (r1.mono e2) j⟩) q2
  | _ => exact q2.elim
end
/-- {k: v, ..}, the keys written texts -/
def xVals : List XE → Loc → Cells → (List D → Cells → Prop) → Prop
  | [], _, M, Q => Q [] M
  | t :: ts, ds, M, Q => t ds M fun d M1 => xVals ts ds M1 fun es M2 => Q (d :: es) M2
def xDisp (ks : List Str) (ts : List XE) : XE := fun ds M Q => xVals ts ds M fun es M1 => ∀ a, Q (.ref a) ((a, .dK (ks.map Sum.inr) es) :: M1)
structure DPs (X : Cx) (pos : Pos) (keys : List (Option Expr)) (values : List Expr) (ks : List Str) (ts : List XE) : Prop where
  ex : ∃ trs, PPs X pos keys values trs ∧ ks.length = ts.length ∧ ∀ (σ : L2.St) (H Hi : Hp) (ds : Loc) (M N : Cells) (Q : List D → Cells → Prop) (R : List (V × V) → Hp → Prop), LocOk Hi ds σ → Own Hi (M ++ N) H → xVals ts ds M Q →
    (∀ vs H' Hi' es M', Ext Hi Hi' → Own Hi' (M' ++ N) H' → RepL Hi' es vs → vs.length = ks.length → Q es M' → R ((ks.map V.str).zip vs) H') → tPairs trs σ H R
section
variable {X : Cx} {pos : Pos} {keys : List (Option Expr)} {values : List Expr} {ks : List Str} {ts : List XE}
theorem dps_nil : DPs X pos [] [] [] [] := ⟨[], pps_nil, rfl, fun σ H Hi ds M N Q R hl w h k => k [] H Hi [] M (Ext.refl _) w rfl rfl h⟩
theorem dps_cons {x : Str} {j : Nat} {p2 : Pos} {v : Expr} {t : XE} (hv : DE X v t) (hr : DPs X pos keys values ks ts) : DPs X pos (some (.Constant (.str x) j p2) :: keys) (v :: values) (x :: ks) (t :: ts) := by
  obtain ⟨pv, v1, v2⟩ := hv.ex
  obtain ⟨trs, r1, r0, r2⟩ := hr.ex
  refine ⟨(tC (.str x), pv) :: trs, pps_cons pe_str v1 r1, by simp [r0], fun σ H Hi ds M N Q R hl w h k => ?_⟩
  refine v2 σ H Hi ds M N _ _ hl w h ?_
  intro u H1 Hi1 d M1 e1 w1 g1 q1
  refine r2 σ H1 Hi1 ds M1 N _ _ (hl.mono e1) w1 q1 ?_
  intro vs H2 Hi2 es M2 e2 w2 g2 hln q2
  exact k (u :: vs) H2 Hi2 (d :: es) M2 (e1.trans e2) w2 (.cons (g1.mono e2) g2) (by simp [hln]) q2
theorem merge_zip : ∀ (more kvs : List (Key × V)), ((kvs ++ more).map (·.1)).Nodup → mergeK kvs more = kvs ++ more
  | [], kvs, _ => by simp [mergeK]
  | p :: r, kvs, nd => by
    have h : putK kvs p.1 p.2 = kvs ++ [p] := by
      unfold putK
      rw [if_neg]
      intro h
      obtain ⟨q, hq, e⟩ := List.any_eq_true.mp h
      rw [List.map_append, List.map_cons] at nd
      have d := (List.nodup_append.mp nd).2.2
      exact d q.1 (List.mem_map.mpr ⟨q, hq, rfl⟩) p.1 List.mem_cons_self (of_decide_eq_true e)
    show mergeK (putK kvs p.1 p.2) r = _
    rw [h, merge_zip r (kvs ++ [p]) (by rw [List.append_assoc]; exact nd), List.append_assoc]
    rfl
theorem zip_keys : ∀ {ks : List Str} {vs : List V}, vs.length = ks.length → ((ks.map V.str).zip vs) = ((ks.map (Sum.inr : Str → Key)).zip vs).map fun kv => (kV kv.1, kv.2)
  | [], _, _ => rfl
  | _ :: _, [], _ => rfl
  | x :: ks, v :: vs, h => by
    rw [List.map_cons, List.map_cons, List.zip_cons_cons, List.zip_cons_cons, List.map_cons, zip_keys (ks := ks) (by simpa using h)]
    rfl
theorem de_disp (h : DPs X pos keys values ks ts) (nd : (ks.map (Sum.inr : Str → Key)).Nodup) (hall : keys.all (·.isSome) = true := by rfl) (hl : keys.length = values.length := by rfl) (h0 : keys ≠ [] := by exact List.cons_ne_nil _ _)
    (h15 : keys.length ≤ 15 := by decide) (h15' : ks.length ≤ 15 := by decide) : DE X (.Dict keys values pos) (xDisp ks ts) := by
  obtain ⟨trs, r1, r0, r2⟩ := h.ex
  refine ⟨_, pe_disp r1 hall hl h0 h15, fun σ H Hi ds M N Q R hlo w h k => ?_⟩
  intro p hp
  refine r2 σ _ Hi ds M ((p, .dK [] []) :: N) _ _ hlo ((w.laidM (m := .dK [] []) hp ⟨[], rfl, rfl, rfl⟩).perm mid_perm.symm) h ?_
  intro vs H2 Hi2 es M2 e2 w2 g2 hln q2
  have w3 : Own Hi2 ([(p, MO.dK [] [])] ++ (M2 ++ N)) H2 := w2.perm mid_perm
  obtain ⟨_, o, ho, us, rfl, _, ru⟩ := w3.cell (p, .dK [] []) List.mem_cons_self
  have e := zip_keys hln
  have hz : (ks.map (Sum.inr : Str → Key)).length = vs.length := by simp [hln]
  refine ⟨ho, _, e, by rw [len_zip hz, List.length_map]; exact h15', ?_⟩
  have nd' : ((([] : List (Key × V)) ++ (ks.map (Sum.inr : Str → Key)).zip vs).map (·.1)).Nodup := by
    rw [List.nil_append, List.map_fst_zip (by omega)]
    exact nd
  rw [merge_zip _ _ nd', List.nil_append]
  have w4 := w3.write' (i := 0) (m' := .dK (ks.map Sum.inr) es) (o := .dK ((ks.map (Sum.inr : Str → Key)).zip vs)) rfl ⟨vs, rfl, hz.trans g2.length.symm, g2⟩
  exact k _ _ Hi2 (.ref p) ((p, .dK (ks.map Sum.inr) es) :: M2) e2 w4 rfl (q2 p)
end
/-! ### op= -/
theorem get_list {X : Cx} : PGet X (rIxL X.K) := by
  intro pins s σ H o i ov iv Q I ro ri h
  obtain ⟨p, xs, i, z, rfl, rfl, hq, he, q⟩ := h
  cases ro
  obtain ⟨t, rfl⟩ := ri
  obtain ⟨its, r, pl, hz⟩ := I.list hq
  obtain ⟨j, h1, h2, h3, h4, h5⟩ := atI_get he
  obtain ⟨w, ew, rw'⟩ := r.get h2
  have hl := r.length
  have hn := line_lt63 hz
  have fin : EP X pins σ Q w s := ⟨z, H, I, rw', q⟩
  by_cases h0 : 0 ≤ i
  · have hj : i.toNat = j := by
      rw [seqIndex_of h0 h5] at h1
      exact Option.some.inj h1
    exact wpAny_getItem_list pl.isList h0 (by omega) (by rw [hj]; simpa using ew) fin
  · have hj : (i + (its.toArray.size : Int)).toNat = j := by
      rw [seqIndex_neg (by omega) h4] at h1
      rw [List.size_toArray, ← hl]
      exact Option.some.inj h1
    exact wpAny_getItem_list_neg pl.isList (by omega) (by rw [List.size_toArray] <;> omega) (by omega) (by rw [hj]; simpa using ew) fin
/-- xs[i] op= e, ints -/
def xAugL (to ti te : XE) (g : Int → Int → Int) : XS := fun Z ds M => to ds M fun o M1 => ti ds M1 fun i M2 => match o, i with
  | .ref a, .int n => ∃ (p : Nat) (xs : List D) (x : Int), M2[p]? = some (a, MO.lst xs) ∧ atI xs n = some (.int x) ∧ te ds M2 fun y M3 => (match y with
    | .int y => ∃ (p : Nat) (xs : List D) (j : Nat), M3[p]? = some (a, MO.lst xs) ∧ ixN xs.length n = some j ∧ Z.nx ds (M3.set p (a, MO.lst (xs.set j (.int (g x y)))))
    | _ => False)
  | _, _ => False
section
variable {X : Cx} {o i e : Expr} {to ti te : XE} {pos tpos : Pos} {op : Operator} {g : Int → Int → Int}
theorem ds_augL (hp : PIp X op (ipI g)) (ho : DE X o to) (hi : DE X i ti) (he : DE X e te) (ha : ∀ ov iv new, augStore i ov iv new = (do holding [new, ov, iv] (setItem ov iv new); release [new, ov, iv] []; pure .next) := by intros; rfl) :
    DS X (.AugAssign (.Subscript o i tpos) op e pos) (xAugL to ti te g) := by
  obtain ⟨po, o1, o2⟩ := ho.ex
  obtain ⟨pi, i1, i2⟩ := hi.ex
  obtain ⟨pe, e1, e2⟩ := he.ex
  refine ⟨_, ps_augS o1 i1 get_list e1 hp set_list ha, fun σ H Hi ds M N Z E hl w h k => ?_⟩
  refine o2 σ H Hi ds M N _ _ hl w h ?_
  intro v1 H1 Hi1 d1 M1 x1 w1 r1 q1
  refine i2 σ H1 Hi1 ds M1 N _ _ (hl.mono x1) w1 q1 ?_
  intro v2 H2 Hi2 d2 M2 x2 w2 r2 q2
  cases d1 with
  | ref a =>
    cases d2 with
    | int n =>
      obtain ⟨p, xs, x, e, hx, q2⟩ := q2
      cases (show v2 = .int n from r2)
      obtain ⟨_, ob, hob, vs, rfl, rv⟩ := w2.getL e
      obtain ⟨z, hz, rz⟩ := atI_rep rv hx
      cases (show z = .int x from rz)
      refine ⟨a, vs, n, _, r1, rfl, SqL.of hob, hz, ?_⟩
      refine e2 σ H2 Hi2 ds M2 N _ _ (hl.mono (x1.trans x2)) w2 q2 ?_
      intro v3 H3 Hi3 d3 M3 x3 w3 r3 q3
      split at q3
      · rename_i y
        obtain ⟨p, xs, j, e, hj, q3⟩ := q3
        cases (show v3 = .int y from r3)
        obtain ⟨_, ob, hob, vs, rfl, rv⟩ := w3.getL e
        refine ⟨x, y, rfl, rfl, a, vs, n, j, r1, rfl, hob, by rw [← rv.length]; exact hj, ?_⟩
        exact k.nx σ _ Hi3 ds _ ((x1.trans x2).trans x3) (hl.mono ((x1.trans x2).trans x3)) (w3.write' (m' := .lst (xs.set j (.int (g x y)))) e ⟨_, rfl, rv.set (d := .int (g x y)) rfl j⟩) q3
      · exact q3.elim
    | _ => exact q2.elim
  | _ => exact q2.elim
theorem ds_augF {f : Str} {C : Addr} {ns : List Str} {j : Nat} (hop : InOp X op (fun x y H Q => ∃ i j, x = .int i ∧ y = .int j ∧ Q (.int (g i j)) H)) (c : Cls X.K C) (na : NoAttr X.K C f) (hj : ixF f ns = some j) (hz : ns.length < 1000) (ho : DE X o to) (he : DE X e te) : DS X (.AugAssign (.Attribute o f tpos) op e pos) (xAugF C ns j g to te) := by
  obtain ⟨po, o1, o2⟩ := ho.ex
  obtain ⟨pe, e1, e2⟩ := he.ex
  refine ⟨_, ps_fldaug o1 e1 hop, fun σ H Hi ds M N Z E hl w h k => ?_⟩
  refine o2 σ H Hi ds M N _ _ hl w h ?_
  intro v1 H1 Hi1 d1 M1 x1 w1 r1 q1
  cases d1 with
  | ref a =>
    obtain ⟨i, es, x, e, hx, q1⟩ := q1
    obtain ⟨_, ob, hob, dx, vs, rfl, hln, rv⟩ := w1.getL e
    obtain ⟨z, hz', rz⟩ := rv.get hx
    cases (show z = .int x from rz)
    refine ⟨a, C, dx, _, _, r1, hob, c, na, by rw [ixF_look hj (hln.trans rv.length)]; exact hz', ?_⟩
    refine e2 σ H1 Hi1 ds M1 N _ _ (hl.mono x1) w1 q1 ?_
    intro v2 H2 Hi2 d2 M2 x2 w2 r2 q2
    split at q2
    · rename_i y
      obtain ⟨i, es, e, q2⟩ := q2
      cases (show v2 = .int y from r2)
      obtain ⟨_, ob, hob, dx', vs, rfl, hln, rv⟩ := w2.getL e
      have hlv := hln.trans rv.length
      refine ⟨x, y, rfl, rfl, dx', _, hob, by rw [zip_len hlv]; exact hz, ?_⟩
      rw [ixF_set hj hlv]
      exact k.nx σ _ Hi2 ds _ (x1.trans x2) (hl.mono (x1.trans x2)) (w2.write' (m' := .ins C ns (es.set j (.int (g x y)))) e ⟨dx', _, rfl, by simp [hln], rv.set (d := .int (g x y)) rfl j⟩) q2
    · exact q2.elim
  | _ => exact q1.elim
end
end DL

set_option Elab.async false
set_option linter.all false
set_option maxRecDepth 100000
set_option maxHeartbeats 4000000
namespace DL
open PySem PySem.Spec L2

/-! ### len(set(xs)), distinct ints -/
def xLenSet (ta : XE) : XE := fun ds M Q => ta ds M fun d M1 => lstK d M1 fun es => ∃ ns : List Int, es = ns.map D.int ∧ ns.Nodup ∧ ns.length ≤ 4000 ∧ Q (.int (ns.length : Nat)) M1
theorem de_lenSet {X : Cx} {a : Expr} {ta : XE} {p p2 q pos : Pos} (hm : X.mg "len" = none) (hm2 : X.mg "set" = none) (ha : DE X a ta) (hg : Gl X "len" := by rfl) (hg2 : Gl X "set" := by rfl) (hc : X.calm = true := by rfl)
    (na : starEach [a] X.env = (false, eval a X.env) :: starEach [] X.env := by rfl) : DE X (.Call (.Name "len" p) [.Call (.Name "set" p2) [a] [] q] [] pos) (xLenSet ta) := by
  obtain ⟨pa, h1, h2⟩ := ha.ex
  refine ⟨_, RZ.pe_lenSetI hg hm hg2 hm2 h1 hc na, fun σ H Hi ds M N Q R hl w h k => ?_⟩
  refine h2 σ H Hi ds M N _ _ hl w h ?_
  intro v H1 Hi1 d M1 e1 w1 r1 q1
  obtain ⟨a, vs, ds', rfl, g1, g2, ns, rfl, nd, hn, q1⟩ := lst_at (K := X.K) r1 w1 q1
  cases g2.ints
  exact ⟨a, ns, rfl, g1, nd, hn, k _ H1 Hi1 (.int _) M1 e1 w1 rfl q1⟩

/-! ### a def, ready to be called -/
structure Fd (P : Program) (w : World) (K : PySem.W.Frag) (mg : Str → Option Value) (base : Heap) (k : Nat) (f : Addr) (ps : List Str) (dsp : DSp) : Prop where
  ex : ∃ fd, DFn P w K mg base k f fd ps dsp ∧ Binds K fd ps []
  kp : PySem.W.keepIn K (.ref f) = true
def gSel {α : Type} (n m : Nat) (us ws : List α) : List α := if us.length = n ∧ ws.length = m then us ++ ws else []
theorem gSel_vals {n m : Nat} {vs : List V} {us : List Value} {zs : List V} {ws : List Value} (h : Vals vs us) (h2 : Vals zs ws) : Vals (gSel n m vs zs) (gSel n m us ws) := by
  unfold gSel
  rw [h.length, h2.length]
  split
  · exact h.append h2
  · exact .nil
theorem gSel_rep {n m : Nat} {Hi : Hp} {es ws : List D} {vs us : List V} (h : RepL Hi es vs) (h2 : RepL Hi ws us) : RepL Hi (gSel n m es ws) (gSel n m vs us) := by
  unfold gSel
  rw [h.length, h2.length]
  split
  · exact h.append h2
  · exact rfl
/-- one whose keyword-only parameters stand behind n others -/
structure FdK (P : Program) (w : World) (K : PySem.W.Frag) (mg : Str → Option Value) (base : Heap) (k : Nat) (f : Addr) (ps ks : List Str) (n : Nat) (dsp : DSp) : Prop where
  ex : ∃ fd, DFn P w K mg base k f fd ps dsp ∧ KBinds K fd ps ks (gSel n ks.length) (gSel n ks.length)
  kp : PySem.W.keepIn K (.ref f) = true
section
variable {P : Program} {w : World} {K : PySem.W.Frag} {mg : Str → Option Value} {base : Heap} {x qual : Str} {params : Arguments} {body : List Stmt} {scope : Scope} {f : Addr}
theorem DSs.nox {X : Cx} {sts : List Stmt} {t : XS} (h : DSs X.nox sts t) : DSs X sts t := by
  obtain ⟨te, h1, h2⟩ := h.ex
  exact ⟨te, h1.nox, h2⟩
theorem fd_ok {N ps : List Str} {k : Nat} {dsp : DSp} {t : XS} (F : ∃ fd, FunD K x qual params body scope [] [] f fd) (S : FnScope N ps scope) (len : ∀ es M Q E, dsp es M Q E → es.length = ps.length)
    (bind : ∀ (kV doc pm : Value) (an : Option Addr) (cdv ct : Value) (us : List Value), us.length = ps.length → bindArgs (PySem.W.fnOf x qual params body scope .none kV doc pm an cdv ct) ⟨us, []⟩ = pure (ps.zip us))
    (hb : ∀ (cdv : Value) (A : Around) (outer : List Env) (s : Shared) (H : Hp) (E : XK), Room k (A.deeper (PyProof.Rows.envOfC qual scope s.heap.objs.size f cdv)) → DSs (cxOf (L2.CX P w) P w K mg base N qual scope f cdv A outer s H E).nox body t)
    (rd : ∀ es M Q E, dsp es M Q E → t { nx := fun _ M => Rtn Q .non M, rt := Rtn Q } (startD N es) M) : Fd P w K mg base (k + 1) f ps dsp := by
  obtain ⟨fd, F⟩ := F
  exact ⟨⟨fd, dfn_ok F S len (fun cdv A outer s H E hr => (hb cdv A outer s H E hr).nox) rd, F.bindsN bind⟩, F.kp⟩
theorem fdk_ok {N ps ks : List Str} {k n : Nat} {dsp : DSp} {t : XS} (F : ∃ fd, FunD K x qual params body scope [] [] f fd) (S : FnScope N ps scope) (len : ∀ es M Q E, dsp es M Q E → es.length = ps.length) (hn : n + ks.length = ps.length) (hk : 0 < ks.length)
    (bind : ∀ (kV doc pm : Value) (an : Option Addr) (cdv ct : Value) (us ws : List Value), us.length = n → ws.length = ks.length → bindArgs (PySem.W.fnOf x qual params body scope .none kV doc pm an cdv ct) ⟨us, ks.zip ws⟩ = pure (ps.zip (us ++ ws)))
    (hb : ∀ (cdv : Value) (A : Around) (outer : List Env) (s : Shared) (H : Hp) (E : XK), Room k (A.deeper (PyProof.Rows.envOfC qual scope s.heap.objs.size f cdv)) → DSs (cxOf (L2.CX P w) P w K mg base N qual scope f cdv A outer s H E).nox body t)
    (rd : ∀ es M Q E, dsp es M Q E → t { nx := fun _ M => Rtn Q .non M, rt := Rtn Q } (startD N es) M) : FdK P w K mg base (k + 1) f ps ks n dsp := by
  obtain ⟨fd, F⟩ := F
  refine ⟨⟨fd, dfn_ok F S len (fun cdv A outer s H E hr => (hb cdv A outer s H E hr).nox) rd, ⟨fun s us ws X hl => ?_, gSel_vals⟩⟩, F.kp⟩
  have h : us.length = n ∧ ws.length = ks.length := by
    by_cases e : us.length = n ∧ ws.length = ks.length
    · exact e
    · unfold gSel at hl; rw [if_neg e] at hl; exact absurd hl (by simp; omega)
  unfold gSel
  rw [if_pos h]
  obtain ⟨oc, od, dV, kV, doc, pm, an, cdv, ct, osl, rfl, lk, hcd, hD, hK⟩ := F.ex
  rcases hD with ⟨_, rfl⟩ | ⟨e, _⟩
  · exact .of_eq (bind kV doc pm an cdv ct us ws h.1 h.2)
  · exact absurd rfl e
end
/-! ### calls of such -/
section
variable {X : Cx} {k n : Nat} {f C : Addr} {ps ks : List Str} {dsp : DSp} {x m : Str} {p pos apos : Pos} {e o : Expr} {es : List Expr} {ta : XE} {t u : XA}
theorem de_fn (F : Fd X.prog X.w X.K X.mg X.base k f ps dsp) (hr : Room k X.A) (hm : X.mg x = some (.ref f)) (ha : DA X (e :: es) t)
    (hg : Gl X x := by rfl) (hdb : (x == ("__debug__" : Str)) = false := by decide) (he : starEach (e :: es) X.env = (false, eval e X.env) :: starEach es X.env := by rfl) (hpl : (backTo pos (starEach es X.env)).any (·.1) = false := by rfl) :
    DE X (.Call (.Name x p) (e :: es) [] pos) (xCall dsp [] t) := by
  obtain ⟨fd, F1, F2⟩ := F.ex
  exact de_call F1 hr hm F.kp F2 .nil (fun _ => rfl) ha hg hdb he hpl
theorem de_fnP (F : Fd X.prog X.w X.K X.mg X.base k f ps dsp) (hr : Room k X.A) (hm : X.mg x = some (.ref f)) (ha : DA X (e :: es) t)
    (hg : Gl X x := by rfl) (hdb : (x == ("__debug__" : Str)) = false := by decide) (he : starEach (e :: es) X.env = (false, eval e X.env) :: starEach es X.env := by rfl) (hpl : (backTo pos (starEach es X.env)).any (·.1) = false := by rfl) :
    DE X (.Call (.Name x p) (e :: es) [] pos) (xCallP dsp [] t) := by
  obtain ⟨fd, F1, F2⟩ := F.ex
  exact de_callP F1 hr hm F.kp F2 .nil (fun _ => rfl) ha hg hdb he hpl
theorem de_fnK {kws : List Keyword} (F : FdK X.prog X.w X.K X.mg X.base k f ps ks n dsp) (hr : Room k X.A) (hm : X.mg x = some (.ref f)) (ha : DA X (e :: es) t) (hkw : DK X kws u)
    (hall : (backToKw pos (keywordEach kws X.env)).all (·.1.isSome) = true := by rfl) (hks : (backToKw pos (keywordEach kws X.env)).filterMap (·.1) = ks := by rfl)
    (hg : Gl X x := by rfl) (hdb : (x == ("__debug__" : Str)) = false := by decide) (he : starEach (e :: es) X.env = (false, eval e X.env) :: starEach es X.env := by rfl)
    (hpl : ((backTo pos (starEach (e :: es) X.env)).any (·.1) || (backToKw pos (keywordEach kws X.env)).any (·.1.isNone)) = false := by rfl) :
    DE X (.Call (.Name x p) (e :: es) kws pos) (xCallK dsp (gSel n ks.length) t u) := by
  obtain ⟨fd, F1, F2⟩ := F.ex
  exact de_callK F1 hr hm F.kp F2 (gD := gSel n ks.length) gSel_rep ha hkw hall hks hg hdb he hpl
theorem de_mk (F : Fd X.prog X.w X.K X.mg X.base k f ps dsp) (Mm : Mk X.K C f) (hr : Room (k + 1) X.A) (hm : X.mg x = some (.ref C)) (ha : DA X (e :: es) t)
    (hg : Gl X x := by rfl) (hdb : (x == ("__debug__" : Str)) = false := by decide) (he : starEach (e :: es) X.env = (false, eval e X.env) :: starEach es X.env := by rfl) (hpl : (backTo pos (starEach es X.env)).any (·.1) = false := by rfl) :
    DE X (.Call (.Name x p) (e :: es) [] pos) (xMake C dsp [] t) := by
  obtain ⟨fd, F1, F2⟩ := F.ex
  exact de_make Mm F1 hr hm F2 .nil (fun _ => rfl) ha hg hdb he hpl
theorem de_mkM (F : Fd X.prog X.w X.K X.mg X.base k f ps dsp) (Mm : Mk X.K C f) (hr : Room (k + 1) X.A) (hm : X.mg x = some (.ref C)) (ha : DA X (e :: es) t)
    (hg : Gl X x := by rfl) (hdb : (x == ("__debug__" : Str)) = false := by decide) (he : starEach (e :: es) X.env = (false, eval e X.env) :: starEach es X.env := by rfl) (hpl : (backTo pos (starEach es X.env)).any (·.1) = false := by rfl) :
    DE X (.Call (.Name x p) (e :: es) [] pos) (xMakeM C dsp [] t) := by
  obtain ⟨fd, F1, F2⟩ := F.ex
  exact de_makeM Mm F1 hr hm F2 .nil (fun _ => rfl) ha hg hdb he hpl
theorem de_me {pl : Sem Bool} (F : Fd X.prog X.w X.K X.mg X.base k f ps dsp) (c : Cls X.K C) (hm : Meth X.K C m f) (hr : Room k X.A) (he : DE X o ta) (ha : DA X (e :: es) t)
    (hst : starEach (e :: es) X.env = (false, eval e X.env) :: starEach es X.env := by rfl) (hpl : (backTo pos (starEach es X.env)).any (·.1) = false := by rfl)
    (ht : eval (.Call (.Attribute o m apos) (e :: es) [] pos) X.env = (do
      let ov ← eval o X.env
      standAt apos.atName
      let (f, first) ← holding [ov] (getMethod ov m pl)
      callWith pos f first (backTo pos (starEach (e :: es) X.env)) (backToKw pos (keywordEach [] X.env))) := by rfl) : DE X (.Call (.Attribute o m apos) (e :: es) [] pos) (xMeth C m dsp [] ta t) := by
  obtain ⟨fd, F1, F2⟩ := F.ex
  exact de_meth c hm F1 hr F2 .nil (fun _ => rfl) he ha hst hpl ht
theorem de_meP {pl : Sem Bool} (F : Fd X.prog X.w X.K X.mg X.base k f ps dsp) (c : Cls X.K C) (hm : Meth X.K C m f) (hr : Room k X.A) (he : DE X o ta) (ha : DA X (e :: es) t)
    (hst : starEach (e :: es) X.env = (false, eval e X.env) :: starEach es X.env := by rfl) (hpl : (backTo pos (starEach es X.env)).any (·.1) = false := by rfl)
    (ht : eval (.Call (.Attribute o m apos) (e :: es) [] pos) X.env = (do
      let ov ← eval o X.env
      standAt apos.atName
      let (f, first) ← holding [ov] (getMethod ov m pl)
      callWith pos f first (backTo pos (starEach (e :: es) X.env)) (backToKw pos (keywordEach [] X.env))) := by rfl) : DE X (.Call (.Attribute o m apos) (e :: es) [] pos) (xMethP C m dsp [] ta t) := by
  obtain ⟨fd, F1, F2⟩ := F.ex
  exact de_methP c hm F1 hr F2 .nil (fun _ => rfl) he ha hst hpl ht
theorem de_me0 {pl : Sem Bool} (F : Fd X.prog X.w X.K X.mg X.base k f ps dsp) (c : Cls X.K C) (hm : Meth X.K C m f) (hr : Room k X.A) (he : DE X o ta)
    (ht : eval (.Call (.Attribute o m apos) [] [] pos) X.env = (do
      let ov ← eval o X.env
      standAt apos.atName
      let (f, first) ← holding [ov] (getMethod ov m pl)
      callWith pos f first (backTo pos (starEach [] X.env)) (backToKw pos (keywordEach [] X.env))) := by rfl) : DE X (.Call (.Attribute o m apos) [] [] pos) (xMeth C m dsp [] ta xNil) := by
  obtain ⟨fd, F1, F2⟩ := F.ex
  exact de_meth0 c hm F1 hr F2 .nil (fun _ => rfl) he ht
theorem de_me0P {pl : Sem Bool} (F : Fd X.prog X.w X.K X.mg X.base k f ps dsp) (c : Cls X.K C) (hm : Meth X.K C m f) (hr : Room k X.A) (he : DE X o ta)
    (ht : eval (.Call (.Attribute o m apos) [] [] pos) X.env = (do
      let ov ← eval o X.env
      standAt apos.atName
      let (f, first) ← holding [ov] (getMethod ov m pl)
      callWith pos f first (backTo pos (starEach [] X.env)) (backToKw pos (keywordEach [] X.env))) := by rfl) : DE X (.Call (.Attribute o m apos) [] [] pos) (xMethP C m dsp [] ta xNil) := by
  obtain ⟨fd, F1, F2⟩ := F.ex
  exact de_meth0P c hm F1 hr F2 .nil (fun _ => rfl) he ht
end
/-! ### what stands behind the top -/
def Tx (fa : List He.Fa) (fn : List He.DefD) (K : PySem.W.Frag) (mg : Str → Option Value) : Prop := ∃ h : Heap, K.In h ∧ h.Ns mainGlobals mg ∧ He.SaysD fa fn K
section
variable {fa : List He.Fa} {fn : List He.DefD} {K : PySem.W.Frag} {mg : Str → Option Value} (T : Tx fa fn K mg)
include T
theorem Tx.glo (i : Nat) {x : Str} (h : fa[i]? = some (.glo x) := by rfl) : mg x = some (.ref (He.ga K x)) := by
  obtain ⟨_, X, G, c⟩ := T
  exact He.glo_ok X G (c.fact i h)
theorem Tx.free (i : Nat) {x : Str} (h : fa[i]? = some (.free x) := by rfl) : mg x = none := by
  obtain ⟨_, X, G, c⟩ := T
  exact He.free_ok X G (c.fact i h)
theorem Tx.int (i : Nat) {x : Str} {n : Int} (h : fa[i]? = some (.int x n) := by rfl) : ∃ t, mg x = some (.int n t) := by
  obtain ⟨_, X, G, c⟩ := T
  exact He.int_ok X G (c.fact i h)
theorem Tx.cls (i : Nat) {x : Str} (h : fa[i]? = some (.cls x) := by rfl) : Cls K (He.ga K x) := by
  obtain ⟨_, X, G, c⟩ := T
  exact He.cls_ok (c.fact i h)
theorem Tx.noat (i : Nat) {x f : Str} (h : fa[i]? = some (.noat x f) := by rfl) : NoAttr K (He.ga K x) f := by
  obtain ⟨_, X, G, c⟩ := T
  exact He.noat_ok (c.fact i h)
theorem Tx.meth (i : Nat) {x m : Str} (h : fa[i]? = some (.meth x m) := by rfl) : Meth K (He.ga K x) m (He.ma K (He.ga K x) m) := by
  obtain ⟨_, X, G, c⟩ := T
  exact He.meth_ok (c.fact i h)
theorem Tx.mkr (i : Nat) {x : Str} (h : fa[i]? = some (.mkr x) := by rfl) : Mk K (He.ga K x) (He.ma K (He.ga K x) "__init__") := by
  obtain ⟨_, X, G, c⟩ := T
  exact He.mkr_ok (c.fact i h)
theorem Tx.def_ (i : Nat) {d : He.DefD} (h : fn[i]? = some d := by rfl) : ∃ fd, FunD K d.name d.qual d.params d.body d.scope (d.dvs K) (d.kws K) (He.fAd K d.at_) fd := by
  obtain ⟨_, X, G, c⟩ := T
  exact c.def_ i h
end
theorem hu_1 {k : Nat} {A : Around} (hr : Room k A) : A.units + 1 < cLine := by have := hr.un; omega
theorem hu_64 {k : Nat} {A : Around} (hr : Room k A) : A.units + 64 < cLine := by have := hr.un; omega
theorem hu_65 {k : Nat} {A : Around} (hr : Room k A) : A.units + 65 < cLine := by have := hr.un; omega
/-! ### the script -/
def InK (K : PySem.W.Frag) (a : Addr) (vs : List V) : Prop := ∃ (o : Obj) (its : Array Value) (n : Nat), K.lookup a = some o ∧ o.cls = .type "list" ∧ o.dict = none ∧ o.data = .seq its n ∧ its.size ≤ sizeLine ∧ Vals vs its.toList
def scrK (K : PySem.W.Frag) (d : D) (k : List D → Prop) : Prop := match d with
  | .scr es => k es
  | .ref a => ∃ ns : List Int, InK K a (ns.map V.int) ∧ k (ns.map D.int)
  | _ => False
theorem rep_ints {Hi : Hp} : ∀ {ns : List Int}, RepL Hi (ns.map D.int) (ns.map V.int)
  | [] => rfl
  | n :: ns => .cons rfl (rep_ints (ns := ns))
theorem scr_at {K : PySem.W.Frag} {Hi : Hp} {d : D} {v : V} {W : Cells} {H : Hp} {k : List D → Prop} (r : Rep Hi d v) (w : Own Hi W H) (h : scrK K d k) : ∃ a vs ds, v = .ref a ∧ SqL K H a vs ∧ RepL Hi ds vs ∧ k ds := by
  cases d with
  | scr ds => obtain ⟨a, vs, rfl, h1, h2⟩ := r; exact ⟨a, vs, ds, rfl, .inl (w.ext.rd h1), h2, h⟩
  | ref a => obtain ⟨ns, h1, h⟩ := h; exact ⟨a, _, _, r, .inr h1, rep_ints, h⟩
  | _ => exact h.elim
def xSlS (K : PySem.W.Frag) (te : XE) (tl th : XO) : XE := fun ds M Q => te ds M fun d M1 => tl ds M1 fun lo M2 => th ds M2 fun hi M3 => scrK K d fun es => Q (.lst (cutD es lo hi)) M3
theorem de_slS {X : Cx} {a : Expr} {ta : XE} {pos : Pos} {lo hi : Option Expr} {tl th : XO} {p2 : Pos} (ha : DE X a ta) (hl : DO X lo tl) (hh : DO X hi th) : DE X (.Subscript a (.Slice lo hi none p2) pos) (xSlS X.K ta tl th) := by
  obtain ⟨pa, a1, a2⟩ := ha.ex
  obtain ⟨pl, l1, l2⟩ := hl.ex
  obtain ⟨ph, h1, h2⟩ := hh.ex
  refine ⟨_, pe_slice sl_list a1 l1 h1, fun σ H Hi ds M N Q R hl w h k => ?_⟩
  refine a2 σ H Hi ds M N _ _ hl w h ?_
  intro v H1 Hi1 d M1 e1 w1 r1 q1
  refine l2 σ H1 Hi1 ds M1 N _ _ (hl.mono e1) w1 q1 ?_
  intro lo H2 Hi2 M2 e2 w2 q2
  refine h2 σ H2 Hi2 ds M2 N _ _ (hl.mono (e1.trans e2)) w2 q2 ?_
  intro hi H3 Hi3 M3 e3 w3 q3
  obtain ⟨a, vs, es, rfl, g1, r, q⟩ := scr_at (K := X.K) (r1.mono (e2.trans e3)) w3 q3
  exact ⟨a, vs, rfl, g1, mk_lst ((e1.trans e2).trans e3) w3 (cut_rep r lo hi) q k⟩
/-! ### the law's def -/
def spLaw (n : Nat) (K : PySem.W.Frag) : DSp := fun es M Q _ => ∃ ns : List Int, ns.length ≤ n ∧ (es = [.scr (ns.map .int)] ∨ ∃ a, es = [.ref a] ∧ InK K a (ns.map V.int)) ∧ M = [] ∧ ∀ M', Q (.bl true) M'
theorem len_law {n : Nat} {K : PySem.W.Frag} : ∀ es M Q E, spLaw n K es M Q E → es.length = 1 := by
  rintro es M Q E ⟨ns, _, rfl | ⟨a, rfl, _⟩, _⟩ <;> rfl
def sp0 (n : Nat) (K : PySem.W.Frag) : Sp := fun vs H Q _ => lift (spLaw n K) vs H Q E0
theorem only_law {n : Nat} {K : PySem.W.Frag} (H : Hp) (a : Addr) (ns : List Int) (hl : ns.length ≤ n) (hS : SqL K H a (ns.map V.int)) (E : XK) : sp0 n K [.ref a] H (fun v _ => v = .bl true) E := by
  have w0 : Own H ([] ++ []) H := ⟨Ext.refl _, List.nodup_nil, fun _ h => absurd h List.not_mem_nil⟩
  rcases hS with hS | hS
  · exact ⟨H, [], [], [.scr (ns.map .int)], fun d _ => d = .bl true, X0, .cons ⟨a, _, rfl, hS, rep_ints⟩ rfl, w0, ⟨ns, hl, .inl rfl, rfl, fun _ => rfl⟩, fun v H' Hi' d M' e w r q => by subst q; exact r, fun _ _ _ _ _ _ _ _ _ _ q => q.elim⟩
  · exact ⟨H, [], [], [.ref a], fun d _ => d = .bl true, X0, .cons rfl rfl, w0, ⟨ns, hl, .inr ⟨a, rfl, hS⟩, rfl, fun _ => rfl⟩, fun v H' Hi' d M' e w r q => by subst q; exact r, fun _ _ _ _ _ _ _ _ _ _ q => q.elim⟩
section
variable {P : Program} {w : World} {K : PySem.W.Frag} {mg : Str → Option Value} {base : Heap} {x qual : Str} {params : Arguments} {body : List Stmt} {scope : Scope} {f : Addr}
theorem fn_cx0 {k n : Nat} {fd : FuncData} {ps : List Str} (F : DFn P w K mg base k f fd ps (spLaw n K)) : FnOk P w K mg base CX0 k f fd ps (sp0 n K) :=
  ⟨fun vs H Q E h => F.len vs H Q E0 h, fun A outer s H args us vs Q E hr he hb hv hs => codeAny_mono (F.run A outer s H args us vs Q E0 hr he hb hv hs) fun r s' h => by
    cases r with
    | ok fl => cases fl <;> exact h
    | error e =>
      obtain ⟨_, _, _, _, _, _, _, _, _, _, _, _, z⟩ := h
      exact z.elim⟩
theorem fd_law {N : List Str} {y : Str} {k n : Nat} {t : XS} (F : ∃ fd, FunD K x qual params body scope [] [] f fd) (S : FnScope N [y] scope)
    (bind : ∀ (kV doc pm : Value) (an : Option Addr) (cdv ct : Value) (us : List Value), us.length = 1 → bindArgs (PySem.W.fnOf x qual params body scope .none kV doc pm an cdv ct) ⟨us, []⟩ = pure ([y].zip us))
    (hb : ∀ (base : Heap) (cdv : Value) (A : Around) (outer : List Env) (s : Shared) (H : Hp) (E : XK), Room k (A.deeper (PyProof.Rows.envOfC qual scope s.heap.objs.size f cdv)) → DSs (cxOf (L2.CX P w) P w K mg base N qual scope f cdv A outer s H E).nox body t)
    (rd : ∀ es M Q E, spLaw n K es M Q E → t { nx := fun _ M => Rtn Q .non M, rt := Rtn Q } (startD N es) M) :
    ∃ fd, (∀ (s : Shared) (u : Value), BindsTo s fd ⟨[u], []⟩ [(y, u)]) ∧ ∀ base : Heap, FnOk P w K mg base CX0 (k + 1) f fd [y] (sp0 n K) := by
  obtain ⟨fd, F⟩ := F
  have b := FunD.bindsA (ps := [y]) F bind
  exact ⟨fd, fun s u => b s [u] rfl, fun base => fn_cx0 (dfn_ok F S len_law (fun cdv A outer s H E hr => (hb base cdv A outer s H E hr).nox) rd)⟩
end
/-! ### isinstance, enumerate -/
def isT (T t : String) : Bool := t == T || (T == "int" && t == "bool")
def xiEnum (te : XE) : XI := fun ds M Q => xiSeq te ds M fun es M1 => Q (numbered 0 es) M1
theorem dgc_tupK {X : Cx} {pos : Pos} {vs : List Nat} {K : PySem.W.Frag} {es : List Expr} {k : Nat} {tgs : TGs} {gs : XGs} {n : Nat} (hc : X.calm = true) (h : DGCs X vs es tgs gs) (hK : X.K = K := by rfl) (hn : (assignEach es X.env).length = n := by rfl) (hst : (assignEach es X.env).findIdx? (·.1) = none := by rfl) : DGC X vs (.Tuple es k pos) (gTup K n tgs) (xgTup n gs) := by
  subst hK
  exact dgc_tup hc h hn hst
end DL

set_option Elab.async false
set_option linter.all false
set_option maxRecDepth 100000
set_option maxHeartbeats 4000000
namespace DL
open PySem PySem.Spec L2
/-! ### words for proofs about readings -/
theorem split_zeros : ∀ M : Cells, split (List.replicate M.length 0) M = some (M, [])
  | [] => rfl
  | c :: M => by
    rw [List.length_cons, List.replicate_succ]
    unfold split
    simp [split_zeros M]
theorem rtn_all {Q : XQ} {d : D} {M : Cells} (h : Q d M) : Rtn Q d M := ⟨_, M, [], split_zeros M, h⟩
theorem rtn_at {Q : XQ} {d : D} {M M0 F : Cells} (is : List Nat) (hs : split is M = some (M0, F)) (h : Q d M0) : Rtn Q d M := ⟨is, M0, F, hs, h⟩
theorem call_at {dsp : DSp} {es : List D} {M M0 F : Cells} {Q : XQ} (is : List Nat) (hs : split is M = some (M0, F)) (h : dsp es M0 (fun d M' => Q d (M' ++ F)) X0) : CallAt dsp es M Q := ⟨is, M0, F, hs, h⟩
theorem cell_at {M : Cells} {a : Addr} {ds : List D} {P : List D → Prop} (i : Nat) (h : M[i]? = some (a, MO.lst ds)) (q : P ds) : ∃ (i : Nat) (ds : List D), M[i]? = some (a, MO.lst ds) ∧ P ds := ⟨i, ds, h, q⟩
theorem ixN_nat {n : Nat} {i : Int} (h0 : 0 ≤ i) (h : i < n) : ixN n i = some i.toNat := by
  unfold ixN
  rw [if_pos h0, if_pos h]
theorem getD_eq {α : Type} {xs : List α} {i : Nat} {z : α} (h : i < xs.length) : xs.getD i z = xs[i] := by simp [List.getD, List.getElem?_eq_getElem h]
theorem atI_map {α : Type} {f : α → D} {xs : List α} {i : Int} {z : α} (h0 : 0 ≤ i) (h : i < xs.length) : atI (xs.map f) i = some (f (xs.getD i.toNat z)) := by
  unfold atI
  have hl : i.toNat < xs.length := by omega
  rw [ixN_nat h0 (by simpa using h)]
  simp [List.getElem?_eq_getElem hl, getD_eq hl]
theorem getD_mem {α : Type} {xs : List α} {i : Nat} {z : α} (h : i < xs.length) : xs.getD i z ∈ xs := by
  rw [getD_eq h]
  exact List.getElem_mem h
theorem pl_int {n : Nat} {i : Int} : pl n (.int i) = true := by cases n <;> rfl
theorem pl_ints {n : Nat} {ns : List Int} : pl (n + 1) (.lst (ns.map .int)) = true := by
  show (ns.map D.int).all (pl n) = true
  simp [pl_int]
theorem pl_pair {n : Nat} {p : Int × Int} : pl (n + 1) (pairD p) = true := by
  show ([D.int p.1, D.int p.2]).all (pl n) = true
  simp [pl_int]
theorem pl_pairs {n : Nat} {ps : List (Int × Int)} : pl (n + 2) (.lst (ps.map pairD)) = true := by
  show (ps.map pairD).all (pl (n + 1)) = true
  simp [pl_pair]
theorem all_pl {n : Nat} {ps : List (Int × Int)} : (ps.map pairD).all (pl (n + 1)) = true := by simp [pl_pair]
theorem all_il {n : Nat} {ns : List Int} : (ns.map D.int).all (pl n) = true := by simp [pl_int]
theorem beq_int {i j : Int} : beq (.int i) (.int j) = decide (i = j) := by
  show (i == j) = _
  exact Bool.beq_eq_decide_eq i j
theorem beq_pair {p q : Int × Int} : beq (pairD p) (pairD q) = decide (p = q) := by
  show (beq (.int p.1) (.int q.1) && (beq (.int p.2) (.int q.2) && true)) = _
  rw [beq_int, beq_int, Bool.and_true, ← Bool.decide_and]
  congr 1
  exact propext ⟨fun h => Prod.ext h.1 h.2, fun h => by subst h; exact ⟨rfl, rfl⟩⟩
theorem beqL_map {α : Type} [DecidableEq α] {f : α → D} (h : ∀ x y, beq (f x) (f y) = decide (x = y)) : ∀ {xs ys : List α}, beqL (xs.map f) (ys.map f) = decide (xs = ys)
  | [], [] => rfl
  | [], y :: ys => by simp [beqL]
  | x :: xs, [] => by simp [beqL]
  | x :: xs, y :: ys => by
    show (beq (f x) (f y) && beqL (xs.map f) (ys.map f)) = _
    rw [h, beqL_map h, ← Bool.decide_and]
    congr 1
    exact propext (by simp)
theorem beq_ints {ns ms : List Int} : beq (.lst (ns.map .int)) (.lst (ms.map .int)) = decide (ns = ms) := beqL_map fun _ _ => beq_int
theorem beq_pairs {ns ms : List (Int × Int)} : beq (.lst (ns.map pairD)) (.lst (ms.map pairD)) = decide (ns = ms) := beqL_map fun _ _ => beq_pair
theorem any_map {α : Type} [DecidableEq α] {f : α → D} (h : ∀ x y, beq (f x) (f y) = decide (x = y)) {xs : List α} {x : α} : ((xs.map f).any fun z => beq z (f x)) = decide (x ∈ xs) := by
  rw [Bool.eq_iff_iff]
  simp only [List.any_eq_true, List.mem_map, decide_eq_true_eq]
  constructor
  · rintro ⟨_, ⟨y, hy, rfl⟩, e⟩
    rw [h, decide_eq_true_eq] at e
    exact e ▸ hy
  · exact fun hx => ⟨_, ⟨x, hx, rfl⟩, by rw [h]; simp⟩
theorem any_il {ns : List Int} {i : Int} : ((ns.map D.int).any fun z => beq z (.int i)) = decide (i ∈ ns) := any_map fun _ _ => beq_int
theorem any_pl {ps : List (Int × Int)} {p : Int × Int} : ((ps.map pairD).any fun z => beq z (pairD p)) = decide (p ∈ ps) := by
  rw [any_map (f := pairD) fun _ _ => beq_pair]
  congr 1
/-- a comprehension that leaves the cells alone -/
theorem cl_filt {g : XG} {tt : XT} {te : XE} {ds : Loc} {M : Cells} {Q : List D → Cells → Prop} (f : D → D) (p : D → Bool) : ∀ {items acc : List D},
    (∀ d ∈ items, ∀ (k1 : D → Cells → Prop) (k2 : Cells → Prop), (p d = true → k1 (f d) M) → (p d = false → k2 M) → g d ds M fun ds2 M2 => tt ds2 M2 fun b M3 => if b = true then te ds2 M3 k1 else k2 M3) →
    Q (acc ++ (items.filter p).map f) M → xCL g tt te ds items acc M Q
  | [], acc, _, q => by
    simpa [xCL] using q
  | d :: r, acc, h, q => by
    unfold xCL
    refine h d List.mem_cons_self (fun y M4 => xCL g tt te ds r (acc ++ [y]) M4 Q) (fun M3 => xCL g tt te ds r acc M3 Q) (fun hp => ?_) (fun hp => ?_)
    · refine cl_filt f p (fun d' hd => h d' (List.mem_cons_of_mem _ hd)) ?_
      rw [List.filter_cons_of_pos hp] at q
      simpa using q
    · refine cl_filt f p (fun d' hd => h d' (List.mem_cons_of_mem _ hd)) ?_
      rw [List.filter_cons_of_neg (by rw [hp]; exact Bool.false_ne_true)] at q
      exact q
theorem cl_map {g : XG} {te : XE} {ds : Loc} {M : Cells} {Q : List D → Cells → Prop} (f : D → D) {items acc : List D}
    (h : ∀ d ∈ items, ∀ (k : D → Cells → Prop), k (f d) M → g d ds M fun ds2 M2 => te ds2 M2 k) (q : Q (acc ++ items.map f) M) : xCL g xYes te ds items acc M Q := by
  refine cl_filt f (fun _ => true) (fun d hd k1 k2 h1 _ => ?_) (by rw [List.filter_eq_self.mpr fun _ _ => rfl]; exact q)
  have := h d hd k1 (h1 rfl)
  simpa [xYes] using this
/-- the same over a list that stands for another -/
theorem map_range_int {n : Nat} {lo : Int} : rng lo (lo + n) = (List.range n).map fun (i : Nat) => D.int (lo + i) := by
  unfold rng
  rw [show (lo + (n : Int) - lo).toNat = n by omega]
end DL
namespace DL
open PySem PySem.Spec L2
theorem log_lt {n b : Nat} (hb : 0 < b) (h : n < 2 ^ b) : n.log2 < b := by
  by_cases e : n = 0
  · subst e; simpa using hb
  · exact (Nat.log2_lt e).mpr h
theorem cdiv_ok {i j : Int} (h0 : 0 < j) (h : j < 2 ^ 100) : CDivW i j := ⟨h0, Nat.lt_trans (log_lt (b := 100) (by decide) (by omega)) (by decide)⟩
theorem cmul_ok {i j : Int} (h1 : -(2 ^ 1000) < i) (h2 : i < 2 ^ 1000) (h3 : -(2 ^ 1000) < j) (h4 : j < 2 ^ 1000) : CMulW i j := by
  have a := log_lt (n := i.natAbs) (b := 1000) (by decide) (by omega)
  have b := log_lt (n := j.natAbs) (b := 1000) (by decide) (by omega)
  unfold CMulW
  omega
theorem cpow_ok {i j : Int} (h1 : -(2 ^ 64) < i) (h2 : i < 2 ^ 64) (h3 : 0 ≤ j) (h4 : j ≤ 1000000) : CPow i j := ⟨h3, h4, by omega⟩
end DL
namespace DL
theorem small_ok {i : Int} (h0 : -1000000000 ≤ i) (h : i ≤ 1000000000) : Small i := ⟨by omega, by omega⟩
theorem rng_len {lo hi : Int} : (rng lo hi).length = (hi - lo).toNat := by simp [rng]
theorem rng_mem {lo hi : Int} {d : D} (h : d ∈ rng lo hi) : ∃ i : Int, d = .int i ∧ lo ≤ i ∧ i < hi := by
  unfold rng at h
  obtain ⟨k, hk, rfl⟩ := List.mem_map.mp h
  have := List.mem_range.mp hk
  exact ⟨_, rfl, by omega, by omega⟩
end DL
namespace DL
/-! ### lists without twice the same -/
theorem nd_len : ∀ (m : Nat) (l : List Int), l.Nodup → (∀ x ∈ l, 1 ≤ x ∧ x ≤ m) → l.length ≤ m
  | 0, l, _, h => by
    cases l with
    | nil => simp
    | cons x l => have := h x List.mem_cons_self; omega
  | m + 1, l, nd, h => by
    by_cases e : ((m + 1 : Nat) : Int) ∈ l
    · have h1 := nd_len m (l.erase ((m + 1 : Nat) : Int)) (nd.erase _) fun x hx => by
        have hm := (nd.mem_erase_iff).mp hx
        have := h x hm.2
        have := hm.1
        omega
      have h2 := List.length_erase_of_mem e
      omega
    · have h1 := nd_len m l nd fun x hx => by
        have := h x hx
        have : x ≠ ((m + 1 : Nat) : Int) := fun z => e (z ▸ hx)
        omega
      omega
theorem nd_all {l : List Int} {n : Int} (nd : l.Nodup) (h : ∀ x ∈ l, 1 ≤ x ∧ x ≤ n) (hl : (l.length : Int) = n) {p : Int} (h1 : 1 ≤ p) (h2 : p ≤ n) : p ∈ l := by
  by_cases e : p ∈ l
  · exact e
  · have := nd_len n.toNat (p :: l) (List.nodup_cons.mpr ⟨e, nd⟩) fun x hx => by
      rcases List.mem_cons.mp hx with rfl | hx
      · omega
      · have := h x hx; omega
    rw [List.length_cons] at this
    omega
theorem nd_pairs {n : Int} {ps : List (Int × Int)} (hn : n ≤ 9) (nd : ps.Nodup) (h : ∀ x ∈ ps, 1 ≤ x.1 ∧ x.1 < x.2 ∧ x.2 ≤ n) : ps.length ≤ 81 := by
  have := nd_len 81 (ps.map fun x => 9 * (x.1 - 1) + x.2) ?_ ?_
  · simpa using this
  · refine List.Pairwise.map _ ?_ (List.Pairwise.and_mem.mp nd)
    intro a b ⟨ha, hb, hne⟩ e
    have h1 := h a ha
    have h2 := h b hb
    refine hne (Prod.ext ?_ ?_) <;> omega
  · intro x hx
    obtain ⟨y, hy, rfl⟩ := List.mem_map.mp hx
    have := h y hy
    constructor <;> omega
theorem idxOf_lt' {l : List Int} {p : Int} (h : p ∈ l) : l.idxOf p < l.length := List.idxOf_lt_length_of_mem h
end DL
theorem DL.exn {P : Nat → Prop} (i : Nat) (h : P i) : ∃ i, P i := ⟨i, h⟩
namespace DL
open PySem PySem.Spec L2
/-! ### loops by what holds ahead of each turn -/
theorem loop_ind {g : XG} {tb : XS} {Z : XEnds} (I : List D → Loc → Cells → Prop) (h0 : ∀ ds M, I [] ds M → Z.nx ds M)
    (hs : ∀ (d : D) (r : List D) (ds : Loc) (M : Cells) (NX : Loc → Cells → Prop), I (d :: r) ds M → (∀ ds' M', I r ds' M' → NX ds' M') → g d ds M fun ds1 M1 => tb { nx := NX, rt := Z.rt, ct := NX, bk := Z.nx } ds1 M1) :
    ∀ {items : List D} {ds : Loc} {M : Cells}, I items ds M → xLoop g tb Z items ds M
  | [], ds, M, h => h0 ds M h
  | d :: r, ds, M, h => hs d r ds M (xLoop g tb Z r) h fun _ _ h' => loop_ind I h0 hs h'
theorem cl_ind {g : XG} {tt : XT} {te : XE} {ds : Loc} {Q : List D → Cells → Prop} (I : List D → List D → Cells → Prop) (h0 : ∀ acc M, I [] acc M → Q acc M)
    (hs : ∀ (d : D) (r acc : List D) (M : Cells) (K1 : D → Cells → Prop) (K2 : Cells → Prop), I (d :: r) acc M → (∀ y M', I r (acc ++ [y]) M' → K1 y M') → (∀ M', I r acc M' → K2 M') →
      g d ds M fun ds2 M2 => tt ds2 M2 fun b M3 => if b = true then te ds2 M3 K1 else K2 M3) :
    ∀ {items acc : List D} {M : Cells}, I items acc M → xCL g tt te ds items acc M Q
  | [], acc, M, h => h0 acc M h
  | d :: r, acc, M, h => hs d r acc M _ _ h (fun _ _ h' => cl_ind I h0 hs h') (fun _ h' => cl_ind I h0 hs h')
theorem wh_ind {c : XT} {tb : XS} {Z : XEnds} (I : Nat → Loc → Cells → Prop)
    (hs : ∀ (m : Nat) (ds : Loc) (M : Cells) (NX : Loc → Cells → Prop), I m ds M → (∀ m' ds' M', m' < m → I m' ds' M' → NX ds' M') → c ds M fun b M1 => if b = true then tb { nx := NX, rt := Z.rt, ct := NX, bk := Z.nx } ds M1 else Z.nx ds M1)
    {m : Nat} {ds : Loc} {M : Cells} (h : I m ds M) : xWhile c tb Z ds M := by
  have key : ∀ (n m : Nat) (ds : Loc) (M : Cells), m < n → I m ds M → xWh c tb Z n ds M := by
    intro n
    induction n with
    | zero => intro m ds M hm; omega
    | succ n ih =>
      intro m ds M hm hI
      exact hs m ds M (xWh c tb Z n) hI fun m' ds' M' hlt h' => ih m' ds' M' (by omega) h'
  exact ⟨m + 1, key (m + 1) m ds M (by omega) h⟩
theorem exn2 {P : Prop} (h : P) : P := h
end DL
namespace DL
open PySem PySem.Spec L2
theorem cut_take {xs : List D} {i : Nat} (h : i ≤ xs.length) : cutD xs none (some (i : Nat)) = xs.take i := by
  unfold cutD
  have e1 : HT.sIx xs.length 0 none = 0 := rfl
  have e2 : HT.sIx xs.length xs.length (some (i : Nat)) = i := by rw [HT.sIx_nat]; omega
  rw [e1, e2]
  simp
end DL
namespace DL
open PySem PySem.Spec L2
theorem ixN_natC {n i : Nat} (h : i < n) : ixN n (i : Int) = some i := by
  rw [ixN_nat (by omega) (by omega), Int.toNat_natCast]
def rngI (lo hi : Int) : List Int := (List.range (hi - lo).toNat).map fun (i : Nat) => lo + i
theorem rng_il {lo hi : Int} : rng lo hi = (rngI lo hi).map D.int := by simp [rng, rngI, Function.comp_def]
theorem mem_rngI {lo hi x : Int} : x ∈ rngI lo hi ↔ lo ≤ x ∧ x < hi := by
  unfold rngI
  rw [List.mem_map]
  constructor
  · rintro ⟨k, hk, rfl⟩
    have := List.mem_range.mp hk
    omega
  · intro h
    exact ⟨(x - lo).toNat, List.mem_range.mpr (by omega), by omega⟩
theorem len_rngI {lo hi : Int} : (rngI lo hi).length = (hi - lo).toNat := by simp [rngI]
theorem nd_rngI {lo hi : Int} : (rngI lo hi).Nodup := by
  unfold rngI
  refine List.Pairwise.map _ ?_ List.nodup_range
  intro a b h e
  exact h (by omega)
theorem rngI_cons {lo hi : Int} (h : lo < hi) : rngI lo hi = lo :: rngI (lo + 1) hi := by
  unfold rngI
  rw [show (hi - lo).toNat = (hi - (lo + 1)).toNat + 1 by omega, List.range_succ_eq_map, List.map_cons, List.map_map]
  congr 1
  · simp
  · refine List.map_congr_left fun x _ => ?_
    simp only [Function.comp]
    omega
theorem rng_cons {lo hi : Int} (h : lo < hi) : rng lo hi = .int lo :: rng (lo + 1) hi := by rw [rng_il, rngI_cons h, rng_il]; rfl
theorem rng_split {lo hi : Int} {d : D} {r : List D} (e : d :: r = rng lo hi) : lo < hi ∧ d = .int lo ∧ r = rng (lo + 1) hi := by
  by_cases h : lo < hi
  · rw [rng_cons h] at e
    cases e
    exact ⟨h, rfl, rfl⟩
  · have := congrArg List.length e
    rw [rng_len] at this
    simp at this; omega
theorem rng_end {lo hi : Int} (e : [] = rng lo hi) : hi ≤ lo := by
  have := congrArg List.length e
  rw [rng_len] at this
  simp at this; omega
theorem nd_inj {α : Type} {l : List α} {z : α} (nd : l.Nodup) {i j : Nat} (hi : i < l.length) (hj : j < l.length) (e : l.getD i z = l.getD j z) : i = j := by
  rw [getD_eq hi, getD_eq hj] at e
  rcases Nat.lt_trichotomy i j with h | h | h
  · exact absurd e (List.pairwise_iff_getElem.mp nd i j hi hj h)
  · exact h
  · exact absurd e.symm (List.pairwise_iff_getElem.mp nd j i hj hi h)
theorem atI_plain {xs : List D} {i : Nat} (h : i < xs.length) : atI xs (i : Int) = some xs[i] := by
  unfold atI
  rw [ixN_natC h]
  simp [List.getElem?_eq_getElem h]
theorem beq_nil {ds : List D} : beq (.lst ds) (.lst []) = ds.isEmpty := by
  cases ds <;> rfl
end DL
theorem DL.erase_perm {α : Type} : ∀ {l : List α} {i : Nat} (h : i < l.length), (l[i] :: l.eraseIdx i).Perm l
  | a :: l, 0, _ => List.Perm.refl _
  | a :: l, i + 1, h => by
    have := DL.erase_perm (l := l) (i := i) (by simpa using h)
    simp only [List.getElem_cons_succ, List.eraseIdx_cons_succ]
    exact (List.Perm.swap _ _ _).trans (this.cons a)
theorem DL.ifT {c a b : Prop} [Decidable c] (h : c) (q : a) : if c then a else b := by rw [if_pos h]; exact q
theorem DL.ifF {c a b : Prop} [Decidable c] (h : ¬ c) (q : b) : if c then a else b := by rw [if_neg h]; exact q
namespace DL
open PySem PySem.Spec L2
/-- a list by an int, the new list a cell -/
def rdMulM : RD := fun d e M Q => match e with
  | .int j => ownK d M fun xs => -(2 ^ 63) ≤ j ∧ j < 2 ^ 63 ∧ xs.length * j.toNat ≤ 16777216 ∧ ∀ a, Q (.ref a) ((a, .lst (List.replicate j.toNat xs).flatten) :: M)
  | _ => False
theorem sim_mulM : SimR rMulAll rdMulM := fun x y d e H Hi M N Q R rx ry w h k => by
  unfold rdMulM at h
  split at h
  · cases (show y = .int _ from ry)
    obtain ⟨a, vs, ds, rfl, h1, r1, h2, h3, h4, h⟩ := own_at rx w h
    exact .inr ⟨a, _, vs, rfl, rfl, h1, h2, h3, le_line (by rw [← r1.length]; exact h4), mk_lstM (Ext.refl _) w (r1.rep _) h k⟩
  · exact h.elim
end DL

set_option Elab.async false
set_option linter.all false
set_option maxRecDepth 100000
set_option maxHeartbeats 4000000
namespace Nk66
open PySem PySem.Spec L2 DL
def top (i : Nat) : Stmt := PySem.Challenge.pw_neverpass_k66_whole_lifts_through_books.main.body.getD i (.Pass ⟨0, 0, 0, 0⟩)
abbrev s_g_mixed : Stmt := top 28
abbrev nm_g_mixed : List Str := ["_law_cell", "_law_k", "_law_number"]
abbrev pa_g_mixed : List Str := ["_law_cell", "_law_k"]
theorem sc_g_mixed : FnScope nm_g_mixed pa_g_mixed (defScope s_g_mixed) := ⟨rfl, rfl, rfl, by decide +kernel, rfl, by decide +kernel, by decide +kernel⟩
abbrev s_g_draw : Stmt := top 30
abbrev nm_g_draw : List Str := ["_law_well_here", "_law_size", "_law_found"]
abbrev pa_g_draw : List Str := ["_law_well_here", "_law_size"]
theorem sc_g_draw : FnScope nm_g_draw pa_g_draw (defScope s_g_draw) := ⟨rfl, rfl, rfl, by decide +kernel, rfl, by decide +kernel, by decide +kernel⟩
abbrev s_g_shuffled : Stmt := top 32
abbrev nm_g_shuffled : List Str := ["_law_well_here", "_law_some", "_law_left", "_law_found"]
abbrev pa_g_shuffled : List Str := ["_law_well_here", "_law_some"]
theorem sc_g_shuffled : FnScope nm_g_shuffled pa_g_shuffled (defScope s_g_shuffled) := ⟨rfl, rfl, rfl, by decide +kernel, rfl, by decide +kernel, by decide +kernel⟩
abbrev s_g_pairs : Stmt := top 33
abbrev nm_g_pairs : List Str := ["_law_size", "_law_found", "_law_p", "_law_q"]
abbrev pa_g_pairs : List Str := ["_law_size"]
theorem sc_g_pairs : FnScope nm_g_pairs pa_g_pairs (defScope s_g_pairs) := ⟨rfl, rfl, rfl, by decide +kernel, rfl, by decide +kernel, by decide +kernel⟩
abbrev s_g_ring : Stmt := top 34
abbrev nm_g_ring : List Str := ["_law_folk", "_law_found", "_law_k", "_law_p", "_law_q"]
abbrev pa_g_ring : List Str := ["_law_folk"]
theorem sc_g_ring : FnScope nm_g_ring pa_g_ring (defScope s_g_ring) := ⟨rfl, rfl, rfl, by decide +kernel, rfl, by decide +kernel, by decide +kernel⟩
abbrev s_g_strange : Stmt := top 35
abbrev nm_g_strange : List Str := ["_law_well_here", "_law_size", "_law_sort", "_law_folk", "_law_few", "_law_pair", "_law_share"]
abbrev pa_g_strange : List Str := ["_law_well_here", "_law_size"]
theorem sc_g_strange : FnScope nm_g_strange pa_g_strange (defScope s_g_strange) := ⟨rfl, rfl, rfl, by decide +kernel, rfl, by decide +kernel, by decide +kernel⟩
abbrev s_m_Seating_count : Stmt := inClass (top 20) 2
abbrev nm_m_Seating_count : List Str := ["self"]
abbrev pa_m_Seating_count : List Str := ["self"]
theorem sc_m_Seating_count : FnScope nm_m_Seating_count pa_m_Seating_count (defScope s_m_Seating_count) := ⟨rfl, rfl, rfl, by decide +kernel, rfl, by decide +kernel, by decide +kernel⟩
abbrev s_m_Book_count : Stmt := inClass (top 14) 1
abbrev nm_m_Book_count : List Str := ["self"]
abbrev pa_m_Book_count : List Str := ["self"]
theorem sc_m_Book_count : FnScope nm_m_Book_count pa_m_Book_count (defScope s_m_Book_count) := ⟨rfl, rfl, rfl, by decide +kernel, rfl, by decide +kernel, by decide +kernel⟩
abbrev s_f_check_alike : Stmt := top 21
abbrev nm_f_check_alike : List Str := ["book", "seating"]
abbrev pa_f_check_alike : List Str := ["book", "seating"]
theorem sc_f_check_alike : FnScope nm_f_check_alike pa_f_check_alike (defScope s_f_check_alike) := ⟨rfl, rfl, rfl, by decide +kernel, rfl, by decide +kernel, by decide +kernel⟩
abbrev s_f_is_whole : Stmt := top 12
abbrev nm_f_is_whole : List Str := ["thing", "least", "most"]
abbrev pa_f_is_whole : List Str := ["thing", "least", "most"]
theorem sc_f_is_whole : FnScope nm_f_is_whole pa_f_is_whole (defScope s_f_is_whole) := ⟨rfl, rfl, rfl, by decide +kernel, rfl, by decide +kernel, by decide +kernel⟩
abbrev s_m_Seating_seat : Stmt := inClass (top 20) 3
abbrev nm_m_Seating_seat : List Str := ["self", "person"]
abbrev pa_m_Seating_seat : List Str := ["self", "person"]
theorem sc_m_Seating_seat : FnScope nm_m_Seating_seat pa_m_Seating_seat (defScope s_m_Seating_seat) := ⟨rfl, rfl, rfl, by decide +kernel, rfl, by decide +kernel, by decide +kernel⟩
abbrev s_f_first_lifts : Stmt := top 24
abbrev nm_f_first_lifts : List Str := ["seating", "person"]
abbrev pa_f_first_lifts : List Str := ["seating"]
theorem sc_f_first_lifts : FnScope nm_f_first_lifts pa_f_first_lifts (defScope s_f_first_lifts) := ⟨rfl, rfl, rfl, by decide +kernel, rfl, by decide +kernel, by decide +kernel⟩
abbrev s_m_Table_init : Stmt := inClass (top 26) 0
abbrev nm_m_Table_init : List Str := ["self", "book", "seating"]
abbrev pa_m_Table_init : List Str := ["self", "book", "seating"]
theorem sc_m_Table_init : FnScope nm_m_Table_init pa_m_Table_init (defScope s_m_Table_init) := ⟨rfl, rfl, rfl, by decide +kernel, rfl, by decide +kernel, by decide +kernel⟩
abbrev s_f_check_people : Stmt := top 19
abbrev nm_f_check_people : List Str := ["people", "one"]
abbrev pa_f_check_people : List Str := ["people"]
theorem sc_f_check_people : FnScope nm_f_check_people pa_f_check_people (defScope s_f_check_people) := ⟨rfl, rfl, rfl, by decide +kernel, rfl, by decide +kernel, by decide +kernel⟩
abbrev s_m_Seating_init : Stmt := inClass (top 20) 0
abbrev nm_m_Seating_init : List Str := ["self", "people"]
abbrev pa_m_Seating_init : List Str := ["self", "people"]
theorem sc_m_Seating_init : FnScope nm_m_Seating_init pa_m_Seating_init (defScope s_m_Seating_init) := ⟨rfl, rfl, rfl, by decide +kernel, rfl, by decide +kernel, by decide +kernel⟩
abbrev s_f_is_pair : Stmt := top 13
abbrev nm_f_is_pair : List Str := ["thing", "count", "one"]
abbrev pa_f_is_pair : List Str := ["thing", "count"]
theorem sc_f_is_pair : FnScope nm_f_is_pair pa_f_is_pair (defScope s_f_is_pair) := ⟨rfl, rfl, rfl, by decide +kernel, rfl, by decide +kernel, by decide +kernel⟩
abbrev s_m_Book_init : Stmt := inClass (top 14) 0
abbrev nm_m_Book_init : List Str := ["self", "count", "strangers", "at", "pair"]
abbrev pa_m_Book_init : List Str := ["self", "count", "strangers"]
theorem sc_m_Book_init : FnScope nm_m_Book_init pa_m_Book_init (defScope s_m_Book_init) := ⟨rfl, rfl, rfl, by decide +kernel, rfl, by decide +kernel, by decide +kernel⟩
abbrev s_m_Table_lifts : Stmt := inClass (top 26) 4
abbrev nm_m_Table_lifts : List Str := ["self"]
abbrev pa_m_Table_lifts : List Str := ["self"]
theorem sc_m_Table_lifts : FnScope nm_m_Table_lifts pa_m_Table_lifts (defScope s_m_Table_lifts) := ⟨rfl, rfl, rfl, by decide +kernel, rfl, by decide +kernel, by decide +kernel⟩
abbrev s_g_are_apart : Stmt := top 37
abbrev nm_g_are_apart : List Str := ["_law_strange_here", "_law_p", "_law_q"]
abbrev pa_g_are_apart : List Str := ["_law_strange_here", "_law_p", "_law_q"]
theorem sc_g_are_apart : FnScope nm_g_are_apart pa_g_are_apart (defScope s_g_are_apart) := ⟨rfl, rfl, rfl, by decide +kernel, rfl, by decide +kernel, by decide +kernel⟩
abbrev s_m_Seating_who : Stmt := inClass (top 20) 4
abbrev nm_m_Seating_who : List Str := ["self", "seat"]
abbrev pa_m_Seating_who : List Str := ["self", "seat"]
theorem sc_m_Seating_who : FnScope nm_m_Seating_who pa_m_Seating_who (defScope s_m_Seating_who) := ⟨rfl, rfl, rfl, by decide +kernel, rfl, by decide +kernel, by decide +kernel⟩
abbrev s_m_Book_check_person : Stmt := inClass (top 14) 3
abbrev nm_m_Book_check_person : List Str := ["self", "person"]
abbrev pa_m_Book_check_person : List Str := ["self", "person"]
theorem sc_m_Book_check_person : FnScope nm_m_Book_check_person pa_m_Book_check_person (defScope s_m_Book_check_person) := ⟨rfl, rfl, rfl, by decide +kernel, rfl, by decide +kernel, by decide +kernel⟩
abbrev s_m_Book_are_strangers : Stmt := inClass (top 14) 4
abbrev nm_m_Book_are_strangers : List Str := ["self", "one", "other"]
abbrev pa_m_Book_are_strangers : List Str := ["self", "one", "other"]
theorem sc_m_Book_are_strangers : FnScope nm_m_Book_are_strangers pa_m_Book_are_strangers (defScope s_m_Book_are_strangers) := ⟨rfl, rfl, rfl, by decide +kernel, rfl, by decide +kernel, by decide +kernel⟩
abbrev s_m_Seating_people : Stmt := inClass (top 20) 1
abbrev nm_m_Seating_people : List Str := ["self"]
abbrev pa_m_Seating_people : List Str := ["self"]
theorem sc_m_Seating_people : FnScope nm_m_Seating_people pa_m_Seating_people (defScope s_m_Seating_people) := ⟨rfl, rfl, rfl, by decide +kernel, rfl, by decide +kernel, by decide +kernel⟩
abbrev s_f_changed : Stmt := top 22
abbrev nm_f_changed : List Str := ["seating", "seat", "people", "here", "there"]
abbrev pa_f_changed : List Str := ["seating", "seat"]
theorem sc_f_changed : FnScope nm_f_changed pa_f_changed (defScope s_f_changed) := ⟨rfl, rfl, rfl, by decide +kernel, rfl, by decide +kernel, by decide +kernel⟩
abbrev s_m_Table_change : Stmt := inClass (top 26) 6
abbrev nm_m_Table_change : List Str := ["self", "seat", "one", "other"]
abbrev pa_m_Table_change : List Str := ["self", "seat"]
theorem sc_m_Table_change : FnScope nm_m_Table_change pa_m_Table_change (defScope s_m_Table_change) := ⟨rfl, rfl, rfl, by decide +kernel, rfl, by decide +kernel, by decide +kernel⟩
abbrev s_g_step : Stmt := top 36
abbrev nm_g_step : List Str := ["_law_row", "_law_spot", "_law_found", "_law_after"]
abbrev pa_g_step : List Str := ["_law_row", "_law_spot"]
theorem sc_g_step : FnScope nm_g_step pa_g_step (defScope s_g_step) := ⟨rfl, rfl, rfl, by decide +kernel, rfl, by decide +kernel, by decide +kernel⟩
abbrev s_g_one_change : Stmt := top 39
abbrev nm_g_one_change : List Str := ["_law_table", "_law_m", "_law_spot", "_law_size", "_law_p", "_law_q"]
abbrev pa_g_one_change : List Str := ["_law_table", "_law_m", "_law_spot"]
theorem sc_g_one_change : FnScope nm_g_one_change pa_g_one_change (defScope s_g_one_change) := ⟨rfl, rfl, rfl, by decide +kernel, rfl, by decide +kernel, by decide +kernel⟩
abbrev s_f_check_two : Stmt := top 15
abbrev nm_f_check_two : List Str := ["book", "one", "other"]
abbrev pa_f_check_two : List Str := ["book", "one", "other"]
theorem sc_f_check_two : FnScope nm_f_check_two pa_f_check_two (defScope s_f_check_two) := ⟨rfl, rfl, rfl, by decide +kernel, rfl, by decide +kernel, by decide +kernel⟩
abbrev s_m_Book_strangers : Stmt := inClass (top 14) 2
abbrev nm_m_Book_strangers : List Str := ["self"]
abbrev pa_m_Book_strangers : List Str := ["self"]
theorem sc_m_Book_strangers : FnScope nm_m_Book_strangers pa_m_Book_strangers (defScope s_m_Book_strangers) := ⟨rfl, rfl, rfl, by decide +kernel, rfl, by decide +kernel, by decide +kernel⟩
abbrev s_f_with_strangers : Stmt := top 16
abbrev nm_f_with_strangers : List Str := ["book", "one", "other"]
abbrev pa_f_with_strangers : List Str := ["book", "one", "other"]
theorem sc_f_with_strangers : FnScope nm_f_with_strangers pa_f_with_strangers (defScope s_f_with_strangers) := ⟨rfl, rfl, rfl, by decide +kernel, rfl, by decide +kernel, by decide +kernel⟩
abbrev s_m_Table_part : Stmt := inClass (top 26) 8
abbrev nm_m_Table_part : List Str := ["self", "one", "other"]
abbrev pa_m_Table_part : List Str := ["self", "one", "other"]
theorem sc_m_Table_part : FnScope nm_m_Table_part pa_m_Table_part (defScope s_m_Table_part) := ⟨rfl, rfl, rfl, by decide +kernel, rfl, by decide +kernel, by decide +kernel⟩
abbrev s_f_with_friends : Stmt := top 17
abbrev nm_f_with_friends : List Str := ["book", "one", "other", "pair"]
abbrev pa_f_with_friends : List Str := ["book", "one", "other"]
theorem sc_f_with_friends : FnScope nm_f_with_friends pa_f_with_friends (defScope s_f_with_friends) := ⟨rfl, rfl, rfl, by decide +kernel, rfl, by decide +kernel, by decide +kernel⟩
abbrev s_m_Table_befriend : Stmt := inClass (top 26) 7
abbrev nm_m_Table_befriend : List Str := ["self", "one", "other"]
abbrev pa_m_Table_befriend : List Str := ["self", "one", "other"]
theorem sc_m_Table_befriend : FnScope nm_m_Table_befriend pa_m_Table_befriend (defScope s_m_Table_befriend) := ⟨rfl, rfl, rfl, by decide +kernel, rfl, by decide +kernel, by decide +kernel⟩
abbrev s_g_one_turn : Stmt := top 40
abbrev nm_g_one_turn : List Str := ["_law_table", "_law_m", "_law_p", "_law_q", "_law_apart", "_law_pair", "_law_some"]
abbrev pa_g_one_turn : List Str := ["_law_table", "_law_m", "_law_p", "_law_q", "_law_apart"]
theorem sc_g_one_turn : FnScope nm_g_one_turn pa_g_one_turn (defScope s_g_one_turn) := ⟨rfl, rfl, rfl, by decide +kernel, rfl, by decide +kernel, by decide +kernel⟩
abbrev s_g_deed : Stmt := top 41
abbrev nm_g_deed : List Str := ["_law_well_here", "_law_table", "_law_m", "_law_size", "_law_sort", "_law_p", "_law_q", "_law_k", "_law_apart"]
abbrev pa_g_deed : List Str := ["_law_well_here", "_law_table", "_law_m"]
theorem sc_g_deed : FnScope nm_g_deed pa_g_deed (defScope s_g_deed) := ⟨rfl, rfl, rfl, by decide +kernel, rfl, by decide +kernel, by decide +kernel⟩
abbrev s_m_Table_times : Stmt := inClass (top 26) 5
abbrev nm_m_Table_times : List Str := ["self", "person"]
abbrev pa_m_Table_times : List Str := ["self", "person"]
theorem sc_m_Table_times : FnScope nm_m_Table_times pa_m_Table_times (defScope s_m_Table_times) := ⟨rfl, rfl, rfl, by decide +kernel, rfl, by decide +kernel, by decide +kernel⟩
abbrev s_g_rounds : Stmt := top 38
abbrev nm_g_rounds : List Str := ["_law_high", "_law_p", "_law_q", "_law_size"]
abbrev pa_g_rounds : List Str := ["_law_high", "_law_p", "_law_q", "_law_size"]
theorem sc_g_rounds : FnScope nm_g_rounds pa_g_rounds (defScope s_g_rounds) := ⟨rfl, rfl, rfl, by decide +kernel, rfl, by decide +kernel, by decide +kernel⟩
abbrev s_m_Table_changes : Stmt := inClass (top 26) 3
abbrev nm_m_Table_changes : List Str := ["self"]
abbrev pa_m_Table_changes : List Str := ["self"]
theorem sc_m_Table_changes : FnScope nm_m_Table_changes pa_m_Table_changes (defScope s_m_Table_changes) := ⟨rfl, rfl, rfl, by decide +kernel, rfl, by decide +kernel, by decide +kernel⟩
abbrev s_g_kept : Stmt := top 42
abbrev nm_g_kept : List Str := ["_law_table", "_law_m", "_law_first", "_law_size", "_law_high", "_law_thing", "_law_p", "_law_q", "_law_come"]
abbrev pa_g_kept : List Str := ["_law_table", "_law_m", "_law_first"]
theorem sc_g_kept : FnScope nm_g_kept pa_g_kept (defScope s_g_kept) := ⟨rfl, rfl, rfl, by decide +kernel, rfl, by decide +kernel, by decide +kernel⟩
abbrev s_m_Table_seating : Stmt := inClass (top 26) 2
abbrev nm_m_Table_seating : List Str := ["self"]
abbrev pa_m_Table_seating : List Str := ["self"]
theorem sc_m_Table_seating : FnScope nm_m_Table_seating pa_m_Table_seating (defScope s_m_Table_seating) := ⟨rfl, rfl, rfl, by decide +kernel, rfl, by decide +kernel, by decide +kernel⟩
abbrev s_g_right : Stmt := top 43
abbrev nm_g_right : List Str := ["_law_well_here", "_law_size", "_law_strange_here", "_law_row", "_law_table", "_law_m", "_law_first", "_law_k", "_law_p", "_law_q", "_law_spot"]
abbrev pa_g_right : List Str := ["_law_well_here"]
theorem sc_g_right : FnScope nm_g_right pa_g_right (defScope s_g_right) := ⟨rfl, rfl, rfl, by decide +kernel, rfl, by decide +kernel, by decide +kernel⟩
abbrev s_g_well : Stmt := top 29
abbrev nm_g_well : List Str := ["_law_cell"]
abbrev pa_g_well : List Str := ["_law_cell"]
theorem sc_g_well : FnScope nm_g_well pa_g_well (defScope s_g_well) := ⟨rfl, rfl, rfl, by decide +kernel, rfl, by decide +kernel, by decide +kernel⟩
abbrev s_f_law : Stmt := top 44
abbrev nm_f_law : List Str := ["_law_script", "_law_cell"]
abbrev pa_f_law : List Str := ["_law_script"]
theorem sc_f_law : FnScope nm_f_law pa_f_law (defScope s_f_law) := ⟨rfl, rfl, rfl, by decide +kernel, rfl, by decide +kernel, by decide +kernel⟩
def fn : List He.DefD := [⟨("_law_mixed", none), "_law_mixed", "_law_mixed", defArgs s_g_mixed, defBody s_g_mixed, defScope s_g_mixed, [], []⟩, ⟨("_law_draw", none), "_law_draw", "_law_draw", defArgs s_g_draw, defBody s_g_draw, defScope s_g_draw, [], []⟩, ⟨("_law_shuffled", none), "_law_shuffled", "_law_shuffled", defArgs s_g_shuffled, defBody s_g_shuffled, defScope s_g_shuffled, [], []⟩, ⟨("_law_pairs", none), "_law_pairs", "_law_pairs", defArgs s_g_pairs, defBody s_g_pairs, defScope s_g_pairs, [], []⟩, ⟨("_law_ring", none), "_law_ring", "_law_ring", defArgs s_g_ring, defBody s_g_ring, defScope s_g_ring, [], []⟩, ⟨("_law_strange", none), "_law_strange", "_law_strange", defArgs s_g_strange, defBody s_g_strange, defScope s_g_strange, [], []⟩, ⟨("Seating", some "count"), "count", "Seating.count", defArgs s_m_Seating_count, defBody s_m_Seating_count, defScope s_m_Seating_count, [], []⟩, ⟨("Book", some "count"), "count", "Book.count", defArgs s_m_Book_count, defBody s_m_Book_count, defScope s_m_Book_count, [], []⟩, ⟨("check_alike", none), "check_alike", "check_alike", defArgs s_f_check_alike, defBody s_f_check_alike, defScope s_f_check_alike, [], []⟩, ⟨("is_whole", none), "is_whole", "is_whole", defArgs s_f_is_whole, defBody s_f_is_whole, defScope s_f_is_whole, [], []⟩, ⟨("Seating", some "seat"), "seat", "Seating.seat", defArgs s_m_Seating_seat, defBody s_m_Seating_seat, defScope s_m_Seating_seat, [], []⟩, ⟨("first_lifts", none), "first_lifts", "first_lifts", defArgs s_f_first_lifts, defBody s_f_first_lifts, defScope s_f_first_lifts, [], []⟩, ⟨("Table", some "__init__"), "__init__", "Table.__init__", defArgs s_m_Table_init, defBody s_m_Table_init, defScope s_m_Table_init, [], []⟩, ⟨("check_people", none), "check_people", "check_people", defArgs s_f_check_people, defBody s_f_check_people, defScope s_f_check_people, [], []⟩, ⟨("Seating", some "__init__"), "__init__", "Seating.__init__", defArgs s_m_Seating_init, defBody s_m_Seating_init, defScope s_m_Seating_init, [], []⟩, ⟨("is_pair", none), "is_pair", "is_pair", defArgs s_f_is_pair, defBody s_f_is_pair, defScope s_f_is_pair, [], []⟩, ⟨("Book", some "__init__"), "__init__", "Book.__init__", defArgs s_m_Book_init, defBody s_m_Book_init, defScope s_m_Book_init, [], []⟩, ⟨("Table", some "lifts"), "lifts", "Table.lifts", defArgs s_m_Table_lifts, defBody s_m_Table_lifts, defScope s_m_Table_lifts, [], []⟩, ⟨("_law_are_apart", none), "_law_are_apart", "_law_are_apart", defArgs s_g_are_apart, defBody s_g_are_apart, defScope s_g_are_apart, [], []⟩, ⟨("Seating", some "who"), "who", "Seating.who", defArgs s_m_Seating_who, defBody s_m_Seating_who, defScope s_m_Seating_who, [], []⟩, ⟨("Book", some "check_person"), "check_person", "Book.check_person", defArgs s_m_Book_check_person, defBody s_m_Book_check_person, defScope s_m_Book_check_person, [], []⟩, ⟨("Book", some "are_strangers"), "are_strangers", "Book.are_strangers", defArgs s_m_Book_are_strangers, defBody s_m_Book_are_strangers, defScope s_m_Book_are_strangers, [], []⟩, ⟨("Seating", some "people"), "people", "Seating.people", defArgs s_m_Seating_people, defBody s_m_Seating_people, defScope s_m_Seating_people, [], []⟩, ⟨("changed", none), "changed", "changed", defArgs s_f_changed, defBody s_f_changed, defScope s_f_changed, [], []⟩, ⟨("Table", some "change"), "change", "Table.change", defArgs s_m_Table_change, defBody s_m_Table_change, defScope s_m_Table_change, [], []⟩, ⟨("_law_step", none), "_law_step", "_law_step", defArgs s_g_step, defBody s_g_step, defScope s_g_step, [], []⟩, ⟨("_law_one_change", none), "_law_one_change", "_law_one_change", defArgs s_g_one_change, defBody s_g_one_change, defScope s_g_one_change, [], []⟩, ⟨("check_two", none), "check_two", "check_two", defArgs s_f_check_two, defBody s_f_check_two, defScope s_f_check_two, [], []⟩, ⟨("Book", some "strangers"), "strangers", "Book.strangers", defArgs s_m_Book_strangers, defBody s_m_Book_strangers, defScope s_m_Book_strangers, [], []⟩, ⟨("with_strangers", none), "with_strangers", "with_strangers", defArgs s_f_with_strangers, defBody s_f_with_strangers, defScope s_f_with_strangers, [], []⟩, ⟨("Table", some "part"), "part", "Table.part", defArgs s_m_Table_part, defBody s_m_Table_part, defScope s_m_Table_part, [], []⟩, ⟨("with_friends", none), "with_friends", "with_friends", defArgs s_f_with_friends, defBody s_f_with_friends, defScope s_f_with_friends, [], []⟩, ⟨("Table", some "befriend"), "befriend", "Table.befriend", defArgs s_m_Table_befriend, defBody s_m_Table_befriend, defScope s_m_Table_befriend, [], []⟩, ⟨("_law_one_turn", none), "_law_one_turn", "_law_one_turn", defArgs s_g_one_turn, defBody s_g_one_turn, defScope s_g_one_turn, [], []⟩, ⟨("_law_deed", none), "_law_deed", "_law_deed", defArgs s_g_deed, defBody s_g_deed, defScope s_g_deed, [], []⟩, ⟨("Table", some "times"), "times", "Table.times", defArgs s_m_Table_times, defBody s_m_Table_times, defScope s_m_Table_times, [], []⟩, ⟨("_law_rounds", none), "_law_rounds", "_law_rounds", defArgs s_g_rounds, defBody s_g_rounds, defScope s_g_rounds, [], []⟩, ⟨("Table", some "changes"), "changes", "Table.changes", defArgs s_m_Table_changes, defBody s_m_Table_changes, defScope s_m_Table_changes, [], []⟩, ⟨("_law_kept", none), "_law_kept", "_law_kept", defArgs s_g_kept, defBody s_g_kept, defScope s_g_kept, [], []⟩, ⟨("Table", some "seating"), "seating", "Table.seating", defArgs s_m_Table_seating, defBody s_m_Table_seating, defScope s_m_Table_seating, [], []⟩, ⟨("_law_right", none), "_law_right", "_law_right", defArgs s_g_right, defBody s_g_right, defScope s_g_right, [], []⟩, ⟨("_law_well", none), "_law_well", "_law_well", defArgs s_g_well, defBody s_g_well, defScope s_g_well, [], []⟩, ⟨("law", none), "law", "law", defArgs s_f_law, defBody s_f_law, defScope s_f_law, [], []⟩]
def fa0 : List He.Fa := [.glo "_law_well", .glo "_law_right", .glo "_law_draw", .glo "_law_strange", .free "list", .free "range", .glo "_law_shuffled", .mkr "Seating", .glo "Seating", .mkr "Book", .glo "Book", .mkr "Table", .glo "Table", .cls "Table", .meth "Table" "lifts", .glo "_law_deed", .glo "_law_kept", .glo "_law_pairs", .meth "Table" "befriend", .meth "Table" "change", .meth "Table" "seating", .cls "Seating", .meth "Seating" "people", .meth "Table" "changes", .free "len", .meth "Table" "times", .glo "_law_mixed", .glo "_law_ring", .free "max", .free "min"]
def fa1 : List He.Fa := [.glo "check_alike", .noat "Table" "now_book", .noat "Table" "now_seating", .noat "Table" "made", .glo "first_lifts", .noat "Table" "counted", .meth "Seating" "count", .cls "Book", .meth "Book" "count", .noat "Seating" "row", .noat "Book" "many", .meth "Seating" "seat", .glo "is_whole", .free "int", .free "isinstance", .free "bool", .glo "check_people", .free "tuple", .int "FEWEST" 3, .int "MOST" 9, .free "all", .free "set", .free "enumerate", .glo "is_pair", .free "sorted", .noat "Book" "pairs", .glo "_law_one_change", .glo "_law_one_turn", .glo "_law_are_apart", .glo "_law_step"]
def fa2 : List He.Fa := [.meth "Seating" "who", .meth "Book" "are_strangers", .glo "changed", .meth "Book" "check_person", .meth "Table" "part", .glo "with_strangers", .glo "check_two", .meth "Book" "strangers", .glo "with_friends", .free "sum", .glo "_law_rounds", .free "abs", .glo "law"]
def fa : List He.Fa := fa0 ++ fa1 ++ fa2
abbrev ns_Book : List Str := ["many", "pairs"]
abbrev ns_Seating : List Str := ["row"]
abbrev ns_Table : List Str := ["now_book", "now_seating", "made", "counted"]
abbrev DM : List Key := [.inr "row", .inr "strange", .inr "ever", .inr "path", .inr "over", .inr "turns"]
end Nk66

set_option Elab.async false
set_option linter.all false
set_option maxRecDepth 100000
set_option maxHeartbeats 4000000
namespace Nk66
open PySem PySem.Spec L2 DL
/-! what each def does, in data -/
abbrev IL (ns : List Int) : List D := ns.map .int
abbrev PL (ps : List (Int × Int)) : List D := ps.map pairD
abbrev imin (i j : Int) : Int := if j < i then j else i
abbrev imax (i j : Int) : Int := if j > i then j else i
abbrev mx (p q : Int) : Int × Int := (imin p q, imax p q)
abbrev bk (K : PySem.W.Frag) (n : Int) (ps : List (Int × Int)) : D := .obj (He.ga K "Book") ns_Book [.int n, .tup (PL ps)]
abbrev st (K : PySem.W.Frag) (row : List Int) : D := .obj (He.ga K "Seating") ns_Seating [.tupx (IL row)]
abbrev wl (w c k : Int) : MO := .lst [.int w, .int c, .int k]
abbrev tbM (K : PySem.W.Frag) (cc : Addr) (n : Int) (ps : List (Int × Int)) (row : List Int) (made : Int) : MO := .ins (He.ga K "Table") ns_Table [bk K n ps, st K row, .int made, .ref cc]
abbrev dM (row : List Int) (sr ev : List (Int × Int)) (pa ov : Addr) (turns : Int) : MO := .dK DM [.lst (IL row), .lst (PL sr), .lst (PL ev), .ref pa, .ref ov, .int turns]
structure BkOk (n : Int) (ps : List (Int × Int)) : Prop where
  lo : 3 ≤ n
  hi : n ≤ 9
  nd : ps.Nodup
  mem : ∀ x ∈ ps, 1 ≤ x.1 ∧ x.1 < x.2 ∧ x.2 ≤ n
structure RowOk (n : Int) (row : List Int) : Prop where
  lo : 3 ≤ n
  hi : n ≤ 9
  len : (row.length : Int) = n
  nd : row.Nodup
  mem : ∀ x ∈ row, 1 ≤ x ∧ x ≤ n
def sp_g_mixed (K : PySem.W.Frag) : DSp := fun es M Q _ => ∃ c k : Int, es = [.int c, .int k] ∧ M = [] ∧ 0 ≤ k ∧ k < 2 ^ 41 ∧ ∀ r, Q (.int r) []
def sp_g_draw (K : PySem.W.Frag) : DSp := fun es M Q _ => ∃ (a : Addr) (w c k n : Int), es = [.ref a, .int n] ∧ M = [(a, wl w c k)] ∧ 0 ≤ k ∧ k < 2 ^ 40 ∧ 0 < n ∧ n < 1000 ∧ ∀ d w' k', 0 ≤ d → d < n → k ≤ k' → k' ≤ k + 1 → Q (.int d) [(a, wl w' c k')]
def sp_g_shuffled (K : PySem.W.Frag) : DSp := fun es M Q _ => ∃ (a : Addr) (w c k : Int) (ds : List D), es = [.ref a, .lst ds] ∧ M = [(a, wl w c k)] ∧ 0 ≤ k ∧ k + ds.length < 2 ^ 40 ∧ ds.length < 900 ∧ ds.all (pl 7) = true ∧
  ∀ qs w' k', qs.Perm ds → k ≤ k' → k' ≤ k + ds.length → Q (.lst qs) [(a, wl w' c k')]
def sp_g_pairs (K : PySem.W.Frag) : DSp := fun es M Q _ => ∃ n : Int, es = [.int n] ∧ M = [] ∧ 3 ≤ n ∧ n ≤ 9 ∧ ∀ ps : List (Int × Int), BkOk n ps → (∀ p q : Int, 1 ≤ p → p < q → q ≤ n → (p, q) ∈ ps) → ps.length ≤ 81 → Q (.lst (PL ps)) []
def sp_g_ring (K : PySem.W.Frag) : DSp := fun es M Q _ => ∃ (n : Int) (fs : List Int), es = [.lst (IL fs)] ∧ M = [] ∧ 3 ≤ n ∧ n ≤ 9 ∧ 3 ≤ fs.length ∧ fs.Nodup ∧ (∀ x ∈ fs, 1 ≤ x ∧ x ≤ n) ∧ fs.length ≤ 9 ∧ ∀ ps : List (Int × Int), BkOk n ps → ps.length ≤ 81 → Q (.lst (PL ps)) []
def sp_g_strange (K : PySem.W.Frag) : DSp := fun es M Q _ => ∃ (a : Addr) (w c k n : Int), es = [.ref a, .int n] ∧ M = [(a, wl w c k)] ∧ 0 ≤ k ∧ k + 1000 < 2 ^ 40 ∧ 3 ≤ n ∧ n ≤ 9 ∧
  ∀ ps w' k', BkOk n ps → ps.length ≤ 81 → k ≤ k' → k' ≤ k + 1000 → Q (.lst (PL ps)) [(a, wl w' c k')]
def sp_m_Seating_count (K : PySem.W.Frag) : DSp := fun es M Q _ => ∃ row, es = [st K row] ∧ Q (.int (row.length : Nat)) M
def sp_m_Book_count (K : PySem.W.Frag) : DSp := fun es M Q _ => ∃ n ps, es = [bk K n ps] ∧ Q (.int n) M
def sp_f_check_alike (K : PySem.W.Frag) : DSp := fun es M Q _ => ∃ n ps row, es = [bk K n ps, st K row] ∧ (row.length : Int) = n ∧ Q .non M
def sp_f_is_whole (K : PySem.W.Frag) : DSp := fun es M Q _ => ∃ i a b : Int, es = [.int i, .int a, .int b] ∧ Q (.bl (decide (a ≤ i) && decide (i ≤ b))) M
def sp_m_Seating_seat (K : PySem.W.Frag) : DSp := fun es M Q _ => ∃ n row p, es = [st K row, .int p] ∧ RowOk n row ∧ 1 ≤ p ∧ p ≤ n ∧ Q (.int (row.idxOf p : Nat)) M
def sp_f_first_lifts (K : PySem.W.Frag) : DSp := fun es M Q _ => ∃ n row, es = [st K row] ∧ M = [] ∧ RowOk n row ∧ ∀ a, Q (.ref a) [(a, .lst (IL ((List.range row.length).map fun (i : Nat) => ((row.idxOf ((i : Int) + 1) : Nat) : Int))))]
def sp_m_Table_init (K : PySem.W.Frag) : DSp := fun es M Q _ => ∃ (a : Addr) (n : Int) (ps : List (Int × Int)) (row : List Int), es = [.ref a, bk K n ps, st K row] ∧ M = [(a, .ins (He.ga K "Table") [] [])] ∧ RowOk n row ∧
  ∀ cc, Q .non [(a, tbM K cc n ps row 0), (cc, .lst (IL ((List.range row.length).map fun (i : Nat) => ((row.idxOf ((i : Int) + 1) : Nat) : Int))))]
def sp_f_check_people (K : PySem.W.Frag) : DSp := fun es M Q _ => ∃ n row, es = [.lst (IL row)] ∧ RowOk n row ∧ Q .non M
def sp_m_Seating_init (K : PySem.W.Frag) : DSp := fun es M Q _ => ∃ (a : Addr) (n : Int) (row : List Int), es = [.ref a, .lst (IL row)] ∧ M = [(a, .ins (He.ga K "Seating") [] [])] ∧ RowOk n row ∧ Q .non [(a, .ins (He.ga K "Seating") ns_Seating [.tupx (IL row)])]
def sp_f_is_pair (K : PySem.W.Frag) : DSp := fun es M Q _ => ∃ (n p q : Int), es = [pairD (p, q), .int n] ∧ Q (.bl ((decide (1 ≤ p) && decide (p ≤ n)) && (decide (1 ≤ q) && decide (q ≤ n)) && decide (p < q))) M
def sp_m_Book_init (K : PySem.W.Frag) : DSp := fun es M Q _ => ∃ (a : Addr) (n : Int) (ps : List (Int × Int)), es = [.ref a, .int n, .lst (PL ps)] ∧ M = [(a, .ins (He.ga K "Book") [] [])] ∧ BkOk n ps ∧ ps.length ≤ 1000 ∧
  ∀ qs, qs.Perm ps → Q .non [(a, .ins (He.ga K "Book") ns_Book [.int n, .tup (PL qs)])]
/-- a table's two cells -/
abbrev tb (K : PySem.W.Frag) (t cc : Addr) (n : Int) (ps : List (Int × Int)) (row : List Int) (made : Int) (hs : List Int) : Cells := [(t, tbM K cc n ps row made), (cc, .lst (IL hs))]
def sp_m_Table_lifts (K : PySem.W.Frag) : DSp := fun es M Q _ => ∃ t cc n ps row made hs, es = [.ref t] ∧ M = tb K t cc n ps row made hs ∧ Q (.lst (IL hs)) M
def sp_g_are_apart (K : PySem.W.Frag) : DSp := fun es M Q _ => ∃ ps p q, es = [.lst (PL ps), .int p, .int q] ∧ Q (.bl (decide (mx p q ∈ ps))) M
def sp_m_Seating_who (K : PySem.W.Frag) : DSp := fun es M Q _ => ∃ n row i, es = [st K row, .int i] ∧ RowOk n row ∧ 0 ≤ i ∧ Q (.int (row.getD (i % n).toNat 0)) M
def sp_m_Book_check_person (K : PySem.W.Frag) : DSp := fun es M Q _ => ∃ n ps p, es = [bk K n ps, .int p] ∧ 1 ≤ p ∧ p ≤ n ∧ Q .non M
def sp_m_Book_are_strangers (K : PySem.W.Frag) : DSp := fun es M Q _ => ∃ n ps p q, es = [bk K n ps, .int p, .int q] ∧ (1 ≤ p ∧ p ≤ n) ∧ (1 ≤ q ∧ q ≤ n) ∧ Q (.bl (decide (mx p q ∈ ps))) M
def sp_m_Seating_people (K : PySem.W.Frag) : DSp := fun es M Q _ => ∃ row, es = [st K row] ∧ M = [] ∧ ∀ a, Q (.ref a) [(a, .lst (IL row))]
/-- two neighbours change -/
def swp (row : List Int) (i : Nat) : List Int := (row.set i (row.getD ((i + 1) % row.length) 0)).set ((i + 1) % row.length) (row.getD i 0)
def sp_f_changed (K : PySem.W.Frag) : DSp := fun es M Q _ => ∃ (n : Int) (row : List Int) (i : Nat), es = [st K row, .int (i : Nat)] ∧ M = [] ∧ RowOk n row ∧ i < row.length ∧ Q (st K (swp row i)) []
/-- the lifts behind a change -/
def lft (row hs : List Int) (i : Nat) : List Int :=
  let p := (row.getD i 0 - 1).toNat
  let q := (row.getD ((i + 1) % row.length) 0 - 1).toNat
  let hs1 := hs.set p (hs.getD p 0 + 1)
  hs1.set q (hs1.getD q 0 - 1)
def sp_m_Table_change (K : PySem.W.Frag) : DSp := fun es M Q _ => ∃ t cc n ps row made hs, ∃ i : Nat, es = [.ref t, .int (i : Nat)] ∧ M = tb K t cc n ps row made hs ∧ RowOk n row ∧ hs.length = row.length ∧ i < row.length ∧
  mx (row.getD i 0) (row.getD ((i + 1) % row.length) 0) ∉ ps ∧ Q .non (tb K t cc n ps (swp row i) (made + 1) (lft row hs i))
def sp_g_step (K : PySem.W.Frag) : DSp := fun es M Q _ => ∃ (n : Int) (row : List Int) (i : Nat), es = [.lst (IL row), .int (i : Nat)] ∧ M = [] ∧ RowOk n row ∧ i < row.length ∧ Q (.lst (IL (swp row i))) []
/-- the model's three cells -/
abbrev mm (m pa ov : Addr) (row : List Int) (sr ev : List (Int × Int)) (path over : List Int) (turns : Int) : Cells := [(m, dM row sr ev pa ov turns), (pa, .lst (IL path)), (ov, .lst (IL over))]
def ovr (row over : List Int) (i : Nat) : List Int :=
  if i + 1 = row.length then
    let p := (row.getD i 0 - 1).toNat
    let q := (row.getD ((i + 1) % row.length) 0 - 1).toNat
    let o1 := over.set p (over.getD p 0 + 1)
    o1.set q (o1.getD q 0 - 1)
  else over
def sp_g_one_change (K : PySem.W.Frag) : DSp := fun es M Q _ => ∃ t cc n ps row made hs m pa ov sr ev path over turns, ∃ i : Nat, es = [.ref t, .ref m, .int (i : Nat)] ∧ M = tb K t cc n ps row made hs ++ mm m pa ov row sr ev path over turns ∧
  RowOk n row ∧ hs.length = row.length ∧ over.length = row.length ∧ i < row.length ∧ (∀ x, x ∈ ps ↔ x ∈ sr) ∧ path.length ≤ 100000 ∧
  (mx (row.getD i 0) (row.getD ((i + 1) % row.length) 0) ∈ sr → Q .non M) ∧
  (mx (row.getD i 0) (row.getD ((i + 1) % row.length) 0) ∉ sr → Q .non (tb K t cc n ps (swp row i) (made + 1) (lft row hs i) ++ mm m pa ov (swp row i) sr ev (path ++ [(i : Int)]) (ovr row over i) turns))
def sp_f_check_two (K : PySem.W.Frag) : DSp := fun es M Q _ => ∃ n ps p q, es = [bk K n ps, .int p, .int q] ∧ (1 ≤ p ∧ p ≤ n) ∧ (1 ≤ q ∧ q ≤ n) ∧ p ≠ q ∧ Q .non M
def sp_m_Book_strangers (K : PySem.W.Frag) : DSp := fun es M Q _ => ∃ n ps, es = [bk K n ps] ∧ Q (.lst (PL ps)) M
def sp_f_with_strangers (K : PySem.W.Frag) : DSp := fun es M Q _ => ∃ n ps p q, es = [bk K n ps, .int p, .int q] ∧ M = [] ∧ BkOk n ps ∧ ps.length ≤ 81 ∧ (1 ≤ p ∧ p ≤ n) ∧ (1 ≤ q ∧ q ≤ n) ∧ p ≠ q ∧
  ∀ qs, BkOk n qs → (∀ x, x ∈ qs ↔ x ∈ ps ∨ x = mx p q) → Q (bk K n qs) []
def sp_m_Table_part (K : PySem.W.Frag) : DSp := fun es M Q _ => ∃ t cc n ps row made hs p q, es = [.ref t, .int p, .int q] ∧ M = tb K t cc n ps row made hs ∧ BkOk n ps ∧ ps.length ≤ 81 ∧ (1 ≤ p ∧ p ≤ n) ∧ (1 ≤ q ∧ q ≤ n) ∧ p ≠ q ∧
  ∀ qs, BkOk n qs → (∀ x, x ∈ qs ↔ x ∈ ps ∨ x = mx p q) → Q .non (tb K t cc n qs row made hs)
def sp_f_with_friends (K : PySem.W.Frag) : DSp := fun es M Q _ => ∃ n ps p q, es = [bk K n ps, .int p, .int q] ∧ M = [] ∧ BkOk n ps ∧ ps.length ≤ 81 ∧ (1 ≤ p ∧ p ≤ n) ∧ (1 ≤ q ∧ q ≤ n) ∧ p ≠ q ∧
  ∀ qs, BkOk n qs → (∀ x, x ∈ qs ↔ x ∈ ps ∧ x ≠ mx p q) → Q (bk K n qs) []
def sp_m_Table_befriend (K : PySem.W.Frag) : DSp := fun es M Q _ => ∃ t cc n ps row made hs p q, es = [.ref t, .int p, .int q] ∧ M = tb K t cc n ps row made hs ∧ BkOk n ps ∧ ps.length ≤ 81 ∧ (1 ≤ p ∧ p ≤ n) ∧ (1 ≤ q ∧ q ≤ n) ∧ p ≠ q ∧
  ∀ qs, BkOk n qs → (∀ x, x ∈ qs ↔ x ∈ ps ∧ x ≠ mx p q) → Q .non (tb K t cc n qs row made hs)
def sp_g_one_turn (K : PySem.W.Frag) : DSp := fun es M Q _ => ∃ t cc n ps row made hs m pa ov sr ev path over turns p q, ∃ b : Bool, es = [.ref t, .ref m, .int p, .int q, .bl b] ∧ M = tb K t cc n ps row made hs ++ mm m pa ov row sr ev path over turns ∧
  BkOk n ps ∧ (∀ x, x ∈ ps ↔ x ∈ sr) ∧ sr.length ≤ 100000 ∧ ev.length ≤ 100000 ∧ (1 ≤ p ∧ p ≤ n) ∧ (1 ≤ q ∧ q ≤ n) ∧ p ≠ q ∧
  (∀ qs sr' ev', BkOk n qs → (∀ x, x ∈ qs ↔ x ∈ sr') → sr'.length ≤ sr.length + 1 → ev'.length ≤ ev.length → (∀ x, x ∈ ev' → x ∈ ev) → (b = true → ev' = ev ∧ ∀ x, x ∈ sr' ↔ x ∈ sr ∨ x = mx p q) →
    (b = false → (∀ x, x ∈ sr' ↔ x ∈ sr ∧ x ≠ mx p q) ∧ (∀ x, x ∈ ev' ↔ x ∈ ev ∧ x ≠ mx p q)) → Q .non (tb K t cc n qs row made hs ++ mm m pa ov row sr' ev' path over turns))
def sp_m_Table_times (K : PySem.W.Frag) : DSp := fun es M Q _ => ∃ t cc n ps row made hs p, es = [.ref t, .int p] ∧ M = tb K t cc n ps row made hs ∧ 3 ≤ n ∧ n ≤ 9 ∧ (hs.length : Int) = n ∧ 1 ≤ p ∧ p ≤ n ∧ Q (.int (hs.getD (p - 1).toNat 0 / n)) M
def rnd (hs : List Int) (p q n : Int) : Int := (hs.getD (q - 1).toNat 0 - hs.getD (p - 1).toNat 0) / n
def sp_g_rounds (K : PySem.W.Frag) : DSp := fun es M Q _ => ∃ hs p q n, es = [.lst (IL hs), .int p, .int q, .int n] ∧ 3 ≤ n ∧ n ≤ 9 ∧ (hs.length : Int) = n ∧ (1 ≤ p ∧ p ≤ n) ∧ (1 ≤ q ∧ q ≤ n) ∧ Q (.int (rnd hs p q n)) M
def sp_m_Table_changes (K : PySem.W.Frag) : DSp := fun es M Q _ => ∃ t cc n ps row made hs, es = [.ref t] ∧ M = tb K t cc n ps row made hs ∧ Q (.int made) M
def sp_m_Table_seating (K : PySem.W.Frag) : DSp := fun es M Q _ => ∃ t cc n ps row made hs, es = [.ref t] ∧ M = tb K t cc n ps row made hs ∧ Q (st K row) M
end Nk66
namespace Nk66
open PySem PySem.Spec L2 DL
/-! ### what stays true of a table and its model -/
def iabs (i : Int) : Int := if i < 0 then -i else i
def come (n : Int) (hs first : List Int) (qs : List (Int × Int)) : Int := (qs.map fun z => iabs (rnd hs z.1 z.2 n - rnd first z.1 z.2 n)).sum
abbrev Whole (n : Int) (qs : List (Int × Int)) : Prop := ∀ p q : Int, 1 ≤ p → p < q → q ≤ n → (p, q) ∈ qs
def chg (s : List Int × List Int) (i : Nat) : List Int × List Int := (swp s.1 i, lft s.1 s.2 i)
def hs0 (row : List Int) : List Int := (List.range row.length).map fun (i : Nat) => ((row.idxOf ((i : Int) + 1) : Nat) : Int)
structure Good (n : Int) (row0 first : List Int) (ps : List (Int × Int)) (row hs : List Int) (sr ev : List (Int × Int)) (path over : List Int) : Prop where
  rok : RowOk n row
  bok : BkOk n ps
  eq : ∀ x, x ∈ ps ↔ x ∈ sr
  sub : ∀ x ∈ ev, x ∈ sr
  hl : hs.length = row.length
  fl : first.length = row.length
  ol : over.length = row.length
  seat : ∀ x : Int, 1 ≤ x → x ≤ n → hs.getD (x - 1).toNat 0 % n = (row.idxOf x : Nat)
  tim : ∀ x : Int, 1 ≤ x → x ≤ n → over.getD (x - 1).toNat 0 = hs.getD (x - 1).toNat 0 / n
  sum : hs.sum = first.sum
  evr : ∀ z ∈ ev, rnd hs z.1 z.2 n = rnd first z.1 z.2 n
  com : ∀ qs, BkOk n qs → Whole n qs → come n hs first qs ≤ path.length ∧ ((path.length : Int) - come n hs first qs) % 2 = 0
  hist : ∃ P : List Nat, path = P.map (fun (i : Nat) => (i : Int)) ∧ (∀ i ∈ P, i < row.length) ∧ P.foldl chg (row0, first) = (row, hs)
def sp_g_well (K : PySem.W.Frag) : DSp := fun es M Q _ => ∃ c : Int, es = [.int c] ∧ M = [] ∧ ∀ a, Q (.ref a) [(a, wl c c 0)]
def sp_g_deed (K : PySem.W.Frag) : DSp := fun es M Q _ => ∃ a w c k t cc m pa ov n row0 first ps row hs sr ev path over turns, es = [.ref a, .ref t, .ref m] ∧ M = (a, wl w c k) :: (tb K t cc n ps row (path.length : Nat) hs ++ mm m pa ov row sr ev path over turns) ∧
  0 ≤ k ∧ k + 1000 < 2 ^ 40 ∧ Good n row0 first ps row hs sr ev path over ∧ path.length ≤ 90000 ∧ sr.length ≤ 90000 ∧ ev.length ≤ 90000 ∧
  ∀ w' k' ps' row' hs' sr' ev' path' over' turns', k ≤ k' → k' ≤ k + 1000 → Good n row0 first ps' row' hs' sr' ev' path' over' → path'.length ≤ path.length + 3 → sr'.length ≤ sr.length + 81 → ev'.length ≤ ev.length →
    Q .non ((a, wl w' c k') :: (tb K t cc n ps' row' (path'.length : Nat) hs' ++ mm m pa ov row' sr' ev' path' over' turns'))
def sp_g_kept (K : PySem.W.Frag) : DSp := fun es M Q _ => ∃ t cc m pa ov n row0 first ps row hs sr ev path over turns, es = [.ref t, .ref m, .lst (IL first)] ∧ M = tb K t cc n ps row (path.length : Nat) hs ++ mm m pa ov row sr ev path over turns ∧
  Good n row0 first ps row hs sr ev path over ∧ path.length ≤ 100000 ∧ ev.length ≤ 100000 ∧ Q (.bl true) M
def sp_g_right (K : PySem.W.Frag) : DSp := fun es M Q _ => ∃ a w c k, es = [.ref a] ∧ M = [(a, wl w c k)] ∧ 0 ≤ k ∧ k ≤ 10 ∧ Q (.bl true) []
end Nk66

set_option Elab.async false
set_option linter.all false
set_option maxRecDepth 100000
set_option maxHeartbeats 4000000
namespace Nk66
open PySem PySem.Spec L2 DL
def t_g_mixed (K : PySem.W.Frag) : XS :=
  (xSeq (xSet 2 (xOp (rdI (fun _ j => 0 < j) fun i j => i % j) (xOp (rdI CPow fun i j => i ^ j.toNat) (xOp rdAdd (xOp rdAdd (xOp (rdI (fun _ j => 0 < j) fun i j => i % j) (xVar 0) (xC (.int 2147483629))) (xOp rdMul (xC (.int 7919)) (xVar 1))) (xC (.int 1))) (xC (.int 3))) (xC (.int 2147483647))))
  (xSeq (xSet 2 (xOp (rdI (fun _ j => 0 < j) fun i j => i % j) (xOp rdAdd (xVar 2) (xOp rdMul (xOp (rdI (fun _ j => 0 < j) fun i j => i % j) (xOp (rdI CDivW fun i j => i / j) (xVar 0) (xC (.int 2147483629))) (xC (.int 65521))) (xOp rdAdd (xVar 1) (xC (.int 29))))) (xC (.int 2147483647))))
  (xSeq (xSet 2 (xOp (rdI (fun _ j => 0 < j) fun i j => i % j) (xOp rdMul (xVar 2) (xOp rdAdd (xOp rdAdd (xOp (rdI CDivW fun i j => i / j) (xVar 2) (xC (.int 1009))) (xC (.int 69621))) (xVar 1))) (xC (.int 2147483587))))
  (xRet (xOp (rdI (fun _ j => 0 < j) fun i j => i % j) (xOp rdMul (xVar 2) (xOp rdAdd (xOp (rdI CDivW fun i j => i / j) (xVar 2) (xC (.int 2003))) (xC (.int 40692)))) (xC (.int 2147483563)))))))
def t_g_draw (K : PySem.W.Frag) : XS :=
  (xSeq (xIfS (xB (xOp (rdB0 fun i j => decide (j ≤ i)) (xOp rdIx (xVar 0) (xC (.int 0))) (xOp (rdI CPow fun i j => i ^ j.toNat) (xC (.int 10)) (xC (.int 18))))) (xSeq (xSet 2 (xOp (rdI (fun _ j => 0 < j) fun i j => i % j) (xOp rdIx (xVar 0) (xC (.int 0))) (xVar 1)))
  (xSeq (xAsg (xOp (rdI CDivW fun i j => i / j) (xOp rdIx (xVar 0) (xC (.int 0))) (xVar 1)) (xgSub (xVar 0) (xC (.int 0)) setL))
  (xRet (xVar 2)))) xNext)
  (xSeq (xAsg (xOp rdAdd (xOp rdIx (xVar 0) (xC (.int 2))) (xC (.int 1))) (xgSub (xVar 0) (xC (.int 2)) setL))
  (xRet (xOp (rdI (fun _ j => 0 < j) fun i j => i % j) (xCallP (sp_g_mixed K) [] (xCons (xOp rdIx (xVar 0) (xC (.int 1))) (xCons (xOp rdIx (xVar 0) (xC (.int 2))) xNil))) (xVar 1)))))
def t_g_shuffled (K : PySem.W.Frag) : XS :=
  (xSeq (xSet 2 (xCB rdListM (xCons (xVar 1) xNil)))
  (xSeq (xSet 3 (xLstM xNil))
  (xSeq (xWhile (xB (xOp (rdEqA true) (xVar 2) (xLst xNil))) (xDrop (xML rdAppend (xVar 3) (xCons (xML rdPopAt (xVar 2) (xCons (xCall (sp_g_draw K) [] (xCons (xVar 0) (xCons (xCB rdLen (xCons (xVar 2) xNil)) xNil))) xNil)) xNil))))
  (xRet (xFz (xVar 3))))))
def t_g_pairs (K : PySem.W.Frag) : XS :=
  (xSeq (xSet 1 (xLst xNil))
  (xSeq (xFor (xiR2 (xC (.int 1)) (xOp rdAdd (xVar 0) (xC (.int 1)))) (xgName 2) (xSet 1 (xOp rdAdd (xVar 1) (xLc (xiR2 (xOp rdAdd (xVar 2) (xC (.int 1))) (xOp rdAdd (xVar 0) (xC (.int 1)))) (xgName 3) xYes (xTup (xCons (xVar 2) (xCons (xVar 3) xNil))) [3]))))
  (xRet (xVar 1))))
def t_g_ring (K : PySem.W.Frag) : XS :=
  (xSeq (xSet 1 (xLstM xNil))
  (xSeq (xFor (xiR1 (xCB rdLen (xCons (xVar 0) xNil))) (xgName 2) (xSeq (xPar 3 4 (xCons (xOp rdIx (xVar 0) (xVar 2)) (xCons (xOp rdIx (xVar 0) (xOp (rdI (fun _ j => 0 < j) fun i j => i % j) (xOp rdAdd (xVar 2) (xC (.int 1))) (xCB rdLen (xCons (xVar 0) xNil)))) xNil)))
  (xDrop (xML rdAppend (xVar 1) (xCons (xTup (xCons (xCB (rdC2 fun i j => if j < i then j else i) (xCons (xVar 3) (xCons (xVar 4) xNil))) (xCons (xCB (rdC2 fun i j => if j > i then j else i) (xCons (xVar 3) (xCons (xVar 4) xNil))) xNil))) xNil)))))
  (xRet (xFz (xVar 1)))))
def t_g_strange (K : PySem.W.Frag) : XS :=
  (xSeq (xSet 2 (xCall (sp_g_draw K) [] (xCons (xVar 0) (xCons (xC (.int 8)) xNil))))
  (xSeq (xSet 3 (xCall (sp_g_shuffled K) [] (xCons (xVar 0) (xCons (xLR (xC (.int 1)) (xOp rdAdd (xVar 1) (xC (.int 1)))) xNil))))
  (xSeq (xSet 4 (xSl (xVar 3) xoN (xoS (xOp rdAdd (xC (.int 3)) (xCall (sp_g_draw K) [] (xCons (xVar 0) (xCons (xOp (rdI0 fun i j => i - j) (xVar 1) (xC (.int 2))) xNil)))))))
  (xSeq (xIfS (xB (xOp (rdEqA false) (xVar 2) (xC (.int 0)))) (xRet (xOp rdIx (xLst (xCons (xCallP (sp_g_pairs K) [] (xCons (xVar 1) xNil)) (xCons (xLst xNil) xNil))) (xCall (sp_g_draw K) [] (xCons (xVar 0) (xCons (xC (.int 2)) xNil))))) xNext)
  (xSeq (xIfS (xB (xOp (rdEqA false) (xVar 2) (xC (.int 1)))) (xRet (xCall (sp_g_shuffled K) [] (xCons (xVar 0) (xCons (xCallP (sp_g_ring K) [] (xCons (xVar 4) xNil)) xNil)))) xNext)
  (xSeq (xIfS (xB (xOp (rdEqA false) (xVar 2) (xC (.int 2)))) (xRet (xLc (xiSeq (xCallP (sp_g_pairs K) [] (xCons (xVar 1) xNil))) (xgName 5) (xAnd (xB (xOp (rdIn false) (xOp rdIx (xVar 5) (xC (.int 0))) (xVar 4))) (xB (xOp (rdIn false) (xOp rdIx (xVar 5) (xC (.int 1))) (xVar 4)))) (xVar 5) [5])) xNext)
  (xSeq (xSet 6 (xOp rdIx (xLst (xCons (xC (.int 0)) (xCons (xC (.int 0)) (xCons (xC (.int 0)) (xCons (xC (.int 1)) (xCons (xC (.int 2)) (xCons (xC (.int 3)) (xCons (xC (.int 4)) (xCons (xC (.int 6)) xNil))))))))) (xVar 2)))
  (xRet (xCall (sp_g_shuffled K) [] (xCons (xVar 0) (xCons (xLc (xiSeq (xCallP (sp_g_pairs K) [] (xCons (xVar 1) xNil))) (xgName 5) (xB (xOp (rdB0 fun i j => decide (i < j)) (xCall (sp_g_draw K) [] (xCons (xVar 0) (xCons (xC (.int 8)) xNil))) (xVar 6))) (xVar 5) [5]) xNil)))))))))))
def t_m_Seating_count (K : PySem.W.Frag) : XS :=
  (xRet (xCB rdLen (xCons (xFld (He.ga K "Seating") ns_Seating 0 (xVar 0)) xNil)))
def t_m_Book_count (K : PySem.W.Frag) : XS :=
  (xRet (xFld (He.ga K "Book") ns_Book 0 (xVar 0)))
def t_f_check_alike (K : PySem.W.Frag) : XS :=
  (xIfS (xB (xOp (rdEqA true) (xMethP (He.ga K "Seating") "count" (sp_m_Seating_count K) [] (xVar 1) xNil) (xMethP (He.ga K "Book") "count" (sp_m_Book_count K) [] (xVar 0) xNil))) xNever xNext)
def t_f_is_whole (K : PySem.W.Frag) : XS :=
  (xRet (xAndV (xCB (fun es M Q => ∃ d, es = [d, .ty "int"] ∧ rdIsi "int" (isT "int") es M Q) (xCons (xVar 0) (xCons (xC (.ty "int")) xNil))) (xAndV (xNotV (xCB (fun es M Q => ∃ d, es = [d, .ty "bool"] ∧ rdIsi "bool" (isT "bool") es M Q) (xCons (xVar 0) (xCons (xC (.ty "bool")) xNil)))) (xChain (rdB0 fun i j => decide (i ≤ j)) (rdB0 fun i j => decide (i ≤ j)) (xVar 1) (xVar 0) (xVar 2)))))
def t_m_Seating_seat (K : PySem.W.Frag) : XS :=
  (xSeq (xIfS (xNot (xTru (xCallK (sp_f_is_whole K) (gSel 1 2) (xCons (xVar 1) xNil) (xCons (xC (.int 1)) (xCons (xMethP (He.ga K "Seating") "count" (sp_m_Seating_count K) [] (xVar 0) xNil) xNil))))) xNever xNext)
  (xRet (xTupIx (xFld (He.ga K "Seating") ns_Seating 0 (xVar 0)) (xVar 1))))
def t_f_first_lifts (K : PySem.W.Frag) : XS :=
  (xRet (xLcMA (xiR2 (xC (.int 1)) (xOp rdAdd (xMethP (He.ga K "Seating") "count" (sp_m_Seating_count K) [] (xVar 0) xNil) (xC (.int 1)))) (xgName 1) xYes (xMethP (He.ga K "Seating") "seat" (sp_m_Seating_seat K) [] (xVar 0) (xCons (xVar 1) xNil)) [1]))
def t_m_Table_init (K : PySem.W.Frag) : XS :=
  (xSeq (xDrop (xCallP (sp_f_check_alike K) [] (xCons (xVar 1) (xCons (xVar 2) xNil))))
  (xSeq (xSetF (He.ga K "Table") "now_book" (xVar 0) (xVar 1))
  (xSeq (xSetF (He.ga K "Table") "now_seating" (xVar 0) (xVar 2))
  (xSeq (xSetF (He.ga K "Table") "made" (xVar 0) (xC (.int 0)))
  (xSetF (He.ga K "Table") "counted" (xVar 0) (xCallP (sp_f_first_lifts K) [] (xCons (xVar 2) xNil)))))))
def t_f_check_people (K : PySem.W.Frag) : XS :=
  (xSeq (xIfS (xNot (xTru (xCB (fun es M Q => ∃ d, es = [d, .ty "list"] ∧ rdIsi "list" (isT "list") es M Q) (xCons (xVar 0) (xCons (xC (.ty "list")) xNil))))) xNever xNext)
  (xSeq (xIfS (xNot (xB (xChain (rdB0 fun i j => decide (i ≤ j)) (rdB0 fun i j => decide (i ≤ j)) (xC (.int 3)) (xCB rdLen (xCons (xVar 0) xNil)) (xC (.int 9))))) xNever xNext)
  (xIfS (xOr (xNot (xTru (xCB rdAll (xCons (xLc (xiSeq (xVar 0)) (xgName 1) xYes (xCallK (sp_f_is_whole K) (gSel 1 2) (xCons (xVar 1) xNil) (xCons (xC (.int 1)) (xCons (xCB rdLen (xCons (xVar 0) xNil)) xNil))) [1]) xNil)))) (xB (xOp (rdB0 fun i j => decide (i < j)) (xLenSet (xVar 0)) (xCB rdLen (xCons (xVar 0) xNil))))) xNever xNext)))
def t_m_Seating_init (K : PySem.W.Frag) : XS :=
  (xSeq (xDrop (xCallP (sp_f_check_people K) [] (xCons (xVar 1) xNil)))
  (xSetF (He.ga K "Seating") "row" (xVar 0) (xCB rdTupX (xCons (xVar 1) xNil))))
def t_f_is_pair (K : PySem.W.Frag) : XS :=
  (xSeq (xIfS (xOr (xNot (xTru (xCB (fun es M Q => ∃ d, es = [d, .ty "tuple"] ∧ rdIsi "tuple" (isT "tuple") es M Q) (xCons (xVar 0) (xCons (xC (.ty "tuple")) xNil))))) (xB (xOp (rdEqA true) (xCB rdLen (xCons (xVar 0) xNil)) (xC (.int 2))))) (xRet (xC (.bl false))) xNext)
  (xRet (xAndV (xCB rdAll (xCons (xLc (xiTup (xVar 0)) (xgName 2) xYes (xCallK (sp_f_is_whole K) (gSel 1 2) (xCons (xVar 2) xNil) (xCons (xC (.int 1)) (xCons (xVar 1) xNil))) [2]) xNil)) (xOp (rdB0 fun i j => decide (i < j)) (xOp rdIx (xVar 0) (xC (.int 0))) (xOp rdIx (xVar 0) (xC (.int 1)))))))
def t_m_Book_init (K : PySem.W.Frag) : XS :=
  (xSeq (xIfS (xNot (xTru (xCallK (sp_f_is_whole K) (gSel 1 2) (xCons (xVar 1) xNil) (xCons (xC (.int 3)) (xCons (xC (.int 9)) xNil))))) xNever xNext)
  (xSeq (xIfS (xNot (xTru (xCB (fun es M Q => ∃ d, es = [d, .ty "list"] ∧ rdIsi "list" (isT "list") es M Q) (xCons (xVar 2) (xCons (xC (.ty "list")) xNil))))) xNever xNext)
  (xSeq (xFor (xiEnum (xVar 2)) (xgTup 2 (xgCons (xgName 3) (xgCons (xgName 4) xgNil))) (xSeq (xIfS (xNot (xTru (xCallP (sp_f_is_pair K) [] (xCons (xVar 4) (xCons (xVar 1) xNil))))) xNever xNext)
  (xIfS (xB (xOp (rdIn false) (xVar 4) (xSl (xVar 2) xoN (xoS (xVar 3))))) xNever xNext)))
  (xSeq (xSetF (He.ga K "Book") "many" (xVar 0) (xVar 1))
  (xSetF (He.ga K "Book") "pairs" (xVar 0) (xCB rdTup (xCons (xCB rdSortP (xCons (xVar 2) xNil)) xNil)))))))
def t_m_Table_lifts (K : PySem.W.Frag) : XS :=
  (xRet (xCB rdList (xCons (xFld (He.ga K "Table") ns_Table 3 (xVar 0)) xNil)))
def t_g_are_apart (K : PySem.W.Frag) : XS :=
  (xRet (xOp (rdIn false) (xTup (xCons (xCB (rdC2 fun i j => if j < i then j else i) (xCons (xVar 1) (xCons (xVar 2) xNil))) (xCons (xCB (rdC2 fun i j => if j > i then j else i) (xCons (xVar 1) (xCons (xVar 2) xNil))) xNil))) (xVar 0)))
def t_m_Seating_who (K : PySem.W.Frag) : XS :=
  (xRet (xOp rdIx (xFld (He.ga K "Seating") ns_Seating 0 (xVar 0)) (xOp (rdI (fun _ j => 0 < j) fun i j => i % j) (xVar 1) (xMethP (He.ga K "Seating") "count" (sp_m_Seating_count K) [] (xVar 0) xNil))))
def t_m_Book_check_person (K : PySem.W.Frag) : XS :=
  (xIfS (xNot (xTru (xCallK (sp_f_is_whole K) (gSel 1 2) (xCons (xVar 1) xNil) (xCons (xC (.int 1)) (xCons (xFld (He.ga K "Book") ns_Book 0 (xVar 0)) xNil))))) xNever xNext)
def t_m_Book_are_strangers (K : PySem.W.Frag) : XS :=
  (xSeq (xDrop (xMethP (He.ga K "Book") "check_person" (sp_m_Book_check_person K) [] (xVar 0) (xCons (xVar 1) xNil)))
  (xSeq (xDrop (xMethP (He.ga K "Book") "check_person" (sp_m_Book_check_person K) [] (xVar 0) (xCons (xVar 2) xNil)))
  (xRet (xOp (rdIn false) (xTup (xCons (xCB (rdC2 fun i j => if j < i then j else i) (xCons (xVar 1) (xCons (xVar 2) xNil))) (xCons (xCB (rdC2 fun i j => if j > i then j else i) (xCons (xVar 1) (xCons (xVar 2) xNil))) xNil))) (xFld (He.ga K "Book") ns_Book 1 (xVar 0))))))
def t_m_Seating_people (K : PySem.W.Frag) : XS :=
  (xRet (xCB rdListM (xCons (xFld (He.ga K "Seating") ns_Seating 0 (xVar 0)) xNil)))
def t_f_changed (K : PySem.W.Frag) : XS :=
  (xSeq (xSet 2 (xMethP (He.ga K "Seating") "people" (sp_m_Seating_people K) [] (xVar 0) xNil))
  (xSeq (xPar 3 4 (xCons (xOp (rdI (fun _ j => 0 < j) fun i j => i % j) (xVar 1) (xCB rdLen (xCons (xVar 2) xNil))) (xCons (xOp (rdI (fun _ j => 0 < j) fun i j => i % j) (xOp rdAdd (xVar 1) (xC (.int 1))) (xCB rdLen (xCons (xVar 2) xNil))) xNil)))
  (xSeq (xAsg (xTup (xCons (xOp rdIx (xVar 2) (xVar 4)) (xCons (xOp rdIx (xVar 2) (xVar 3)) xNil))) (xgTup 2 (xgCons (xgSub (xVar 2) (xVar 3) setL) (xgCons (xgSub (xVar 2) (xVar 4) setL) xgNil))))
  (xFrz 2 (xRet (xMake (He.ga K "Seating") (sp_m_Seating_init K) [] (xCons (xVar 2) xNil)))))))
def t_m_Table_change (K : PySem.W.Frag) : XS :=
  (xSeq (xIfS (xNot (xTru (xCallK (sp_f_is_whole K) (gSel 1 2) (xCons (xVar 1) xNil) (xCons (xC (.int 0)) (xCons (xOp (rdI0 fun i j => i - j) (xCB rdLen (xCons (xFld (He.ga K "Table") ns_Table 3 (xVar 0)) xNil)) (xC (.int 1))) xNil))))) xNever xNext)
  (xSeq (xPar 2 3 (xCons (xMethP (He.ga K "Seating") "who" (sp_m_Seating_who K) [] (xFld (He.ga K "Table") ns_Table 1 (xVar 0)) (xCons (xVar 1) xNil)) (xCons (xMethP (He.ga K "Seating") "who" (sp_m_Seating_who K) [] (xFld (He.ga K "Table") ns_Table 1 (xVar 0)) (xCons (xOp rdAdd (xVar 1) (xC (.int 1))) xNil)) xNil)))
  (xSeq (xIfS (xTru (xMethP (He.ga K "Book") "are_strangers" (sp_m_Book_are_strangers K) [] (xFld (He.ga K "Table") ns_Table 0 (xVar 0)) (xCons (xVar 2) (xCons (xVar 3) xNil)))) xNever xNext)
  (xSeq (xSetF (He.ga K "Table") "now_seating" (xVar 0) (xCallP (sp_f_changed K) [] (xCons (xFld (He.ga K "Table") ns_Table 1 (xVar 0)) (xCons (xVar 1) xNil))))
  (xSeq (xAugL (xFld (He.ga K "Table") ns_Table 3 (xVar 0)) (xOp (rdI0 fun i j => i - j) (xVar 2) (xC (.int 1))) (xC (.int 1)) (fun i j => i + j))
  (xSeq (xAugL (xFld (He.ga K "Table") ns_Table 3 (xVar 0)) (xOp (rdI0 fun i j => i - j) (xVar 3) (xC (.int 1))) (xC (.int 1)) (fun i j => i - j))
  (xAugF (He.ga K "Table") ns_Table 2 (fun i j => i + j) (xVar 0) (xC (.int 1)))))))))
def t_g_step (K : PySem.W.Frag) : XS :=
  (xSeq (xSet 2 (xCB rdListM (xCons (xVar 0) xNil)))
  (xSeq (xSet 3 (xOp (rdI (fun _ j => 0 < j) fun i j => i % j) (xOp rdAdd (xVar 1) (xC (.int 1))) (xCB rdLen (xCons (xVar 2) xNil))))
  (xSeq (xAsg (xTup (xCons (xOp rdIx (xVar 2) (xVar 3)) (xCons (xOp rdIx (xVar 2) (xVar 1)) xNil))) (xgTup 2 (xgCons (xgSub (xVar 2) (xVar 1) setL) (xgCons (xgSub (xVar 2) (xVar 3) setL) xgNil))))
  (xRet (xFz (xVar 2))))))
def t_g_one_change (K : PySem.W.Frag) : XS :=
  (xSeq (xSet 3 (xCB rdLen (xCons (xDGet DM 0 (xVar 1)) xNil)))
  (xSeq (xPar 4 5 (xCons (xOp rdIx (xDGet DM 0 (xVar 1)) (xVar 2)) (xCons (xOp rdIx (xDGet DM 0 (xVar 1)) (xOp (rdI (fun _ j => 0 < j) fun i j => i % j) (xOp rdAdd (xVar 2) (xC (.int 1))) (xVar 3))) xNil)))
  (xIfS (xNot (xTru (xCallP (sp_g_are_apart K) [] (xCons (xDGet DM 1 (xVar 1)) (xCons (xVar 4) (xCons (xVar 5) xNil)))))) (xSeq (xDrop (xMeth (He.ga K "Table") "change" (sp_m_Table_change K) [] (xVar 0) (xCons (xVar 2) xNil)))
  (xSeq (xDPut DM 0 (xVar 1) (xCallP (sp_g_step K) [] (xCons (xDGet DM 0 (xVar 1)) (xCons (xVar 2) xNil))))
  (xSeq (xDrop (xML rdAppend (xDGet DM 3 (xVar 1)) (xCons (xVar 2) xNil)))
  (xIfS (xB (xOp (rdEqA false) (xVar 2) (xOp (rdI0 fun i j => i - j) (xVar 3) (xC (.int 1))))) (xSeq (xAsg (xOp rdAdd (xOp rdIx (xDGet DM 4 (xVar 1)) (xOp (rdI0 fun i j => i - j) (xVar 4) (xC (.int 1)))) (xC (.int 1))) (xgSub (xDGet DM 4 (xVar 1)) (xOp (rdI0 fun i j => i - j) (xVar 4) (xC (.int 1))) setL))
  (xAsg (xOp (rdI0 fun i j => i - j) (xOp rdIx (xDGet DM 4 (xVar 1)) (xOp (rdI0 fun i j => i - j) (xVar 5) (xC (.int 1)))) (xC (.int 1))) (xgSub (xDGet DM 4 (xVar 1)) (xOp (rdI0 fun i j => i - j) (xVar 5) (xC (.int 1))) setL))) xNext)))) xNext)))
def t_f_check_two (K : PySem.W.Frag) : XS :=
  (xSeq (xDrop (xMethP (He.ga K "Book") "check_person" (sp_m_Book_check_person K) [] (xVar 0) (xCons (xVar 1) xNil)))
  (xSeq (xDrop (xMethP (He.ga K "Book") "check_person" (sp_m_Book_check_person K) [] (xVar 0) (xCons (xVar 2) xNil)))
  (xIfS (xB (xOp (rdEqA false) (xVar 1) (xVar 2))) xNever xNext)))
def t_m_Book_strangers (K : PySem.W.Frag) : XS :=
  (xRet (xCB rdList (xCons (xFld (He.ga K "Book") ns_Book 1 (xVar 0)) xNil)))
def t_f_with_strangers (K : PySem.W.Frag) : XS :=
  (xSeq (xDrop (xCallP (sp_f_check_two K) [] (xCons (xVar 0) (xCons (xVar 1) (xCons (xVar 2) xNil)))))
  (xSeq (xIfS (xTru (xMethP (He.ga K "Book") "are_strangers" (sp_m_Book_are_strangers K) [] (xVar 0) (xCons (xVar 1) (xCons (xVar 2) xNil)))) (xRet (xVar 0)) xNext)
  (xRet (xMake (He.ga K "Book") (sp_m_Book_init K) [] (xCons (xMethP (He.ga K "Book") "count" (sp_m_Book_count K) [] (xVar 0) xNil) (xCons (xOp rdAdd (xMethP (He.ga K "Book") "strangers" (sp_m_Book_strangers K) [] (xVar 0) xNil) (xLst (xCons (xTup (xCons (xCB (rdC2 fun i j => if j < i then j else i) (xCons (xVar 1) (xCons (xVar 2) xNil))) (xCons (xCB (rdC2 fun i j => if j > i then j else i) (xCons (xVar 1) (xCons (xVar 2) xNil))) xNil))) xNil))) xNil))))))
def t_m_Table_part (K : PySem.W.Frag) : XS :=
  (xSetF (He.ga K "Table") "now_book" (xVar 0) (xCallP (sp_f_with_strangers K) [] (xCons (xFld (He.ga K "Table") ns_Table 0 (xVar 0)) (xCons (xVar 1) (xCons (xVar 2) xNil)))))
def t_f_with_friends (K : PySem.W.Frag) : XS :=
  (xSeq (xDrop (xCallP (sp_f_check_two K) [] (xCons (xVar 0) (xCons (xVar 1) (xCons (xVar 2) xNil)))))
  (xSeq (xIfS (xNot (xTru (xMethP (He.ga K "Book") "are_strangers" (sp_m_Book_are_strangers K) [] (xVar 0) (xCons (xVar 1) (xCons (xVar 2) xNil))))) (xRet (xVar 0)) xNext)
  (xRet (xMake (He.ga K "Book") (sp_m_Book_init K) [] (xCons (xMethP (He.ga K "Book") "count" (sp_m_Book_count K) [] (xVar 0) xNil) (xCons (xLc (xiSeq (xMethP (He.ga K "Book") "strangers" (sp_m_Book_strangers K) [] (xVar 0) xNil)) (xgName 3) (xB (xOp (rdEqA true) (xVar 3) (xTup (xCons (xCB (rdC2 fun i j => if j < i then j else i) (xCons (xVar 1) (xCons (xVar 2) xNil))) (xCons (xCB (rdC2 fun i j => if j > i then j else i) (xCons (xVar 1) (xCons (xVar 2) xNil))) xNil))))) (xVar 3) [3]) xNil))))))
def t_m_Table_befriend (K : PySem.W.Frag) : XS :=
  (xSetF (He.ga K "Table") "now_book" (xVar 0) (xCallP (sp_f_with_friends K) [] (xCons (xFld (He.ga K "Table") ns_Table 0 (xVar 0)) (xCons (xVar 1) (xCons (xVar 2) xNil)))))
def t_g_one_turn (K : PySem.W.Frag) : XS :=
  (xSeq (xSet 5 (xTup (xCons (xCB (rdC2 fun i j => if j < i then j else i) (xCons (xVar 2) (xCons (xVar 3) xNil))) (xCons (xCB (rdC2 fun i j => if j > i then j else i) (xCons (xVar 2) (xCons (xVar 3) xNil))) xNil))))
  (xSeq (xDPut DM 1 (xVar 1) (xOp rdAdd (xLc (xiSeq (xDGet DM 1 (xVar 1))) (xgName 6) (xB (xOp (rdEqA true) (xVar 6) (xVar 5))) (xVar 6) [6]) (xOp rdMul (xLst (xCons (xVar 5) xNil)) (xCB rdInt (xCons (xVar 4) xNil)))))
  (xIfS (xTru (xVar 4)) (xDrop (xMeth (He.ga K "Table") "part" (sp_m_Table_part K) [] (xVar 0) (xCons (xVar 2) (xCons (xVar 3) xNil)))) (xSeq (xDrop (xMeth (He.ga K "Table") "befriend" (sp_m_Table_befriend K) [] (xVar 0) (xCons (xVar 2) (xCons (xVar 3) xNil))))
  (xDPut DM 2 (xVar 1) (xLc (xiSeq (xDGet DM 2 (xVar 1))) (xgName 6) (xB (xOp (rdEqA true) (xVar 6) (xVar 5))) (xVar 6) [6]))))))
def t_g_deed (K : PySem.W.Frag) : XS :=
  (xSeq (xSet 3 (xCB rdLen (xCons (xDGet DM 0 (xVar 2)) xNil)))
  (xSeq (xSet 4 (xCall (sp_g_draw K) [] (xCons (xVar 0) (xCons (xC (.int 12)) xNil))))
  (xSeq (xSet 5 (xOp rdAdd (xC (.int 1)) (xCall (sp_g_draw K) [] (xCons (xVar 0) (xCons (xVar 3) xNil)))))
  (xSeq (xSet 6 (xOp rdAdd (xC (.int 1)) (xOp (rdI (fun _ j => 0 < j) fun i j => i % j) (xOp rdAdd (xVar 5) (xCall (sp_g_draw K) [] (xCons (xVar 0) (xCons (xOp (rdI0 fun i j => i - j) (xVar 3) (xC (.int 1))) xNil)))) (xVar 3))))
  (xIfS (xB (xOp (rdB0 fun i j => decide (i < j)) (xVar 4) (xC (.int 9)))) (xFor (xiR1 (xOp rdAdd (xC (.int 1)) (xCall (sp_g_draw K) [] (xCons (xVar 0) (xCons (xC (.int 3)) xNil))))) (xgName 7) (xDrop (xCall (sp_g_one_change K) [] (xCons (xVar 1) (xCons (xVar 2) (xCons (xCall (sp_g_draw K) [] (xCons (xVar 0) (xCons (xVar 3) xNil))) xNil)))))) (xIfS (xB (xOp (rdB0 fun i j => decide (i < j)) (xVar 4) (xC (.int 11)))) (xDrop (xCall (sp_g_one_turn K) [] (xCons (xVar 1) (xCons (xVar 2) (xCons (xVar 5) (xCons (xVar 6) (xCons (xOp (rdEqA false) (xVar 4) (xC (.int 10))) xNil))))))) (xIfS (xB (xOp (rdB0 fun i j => decide (i < j)) (xDGet DM 5 (xVar 2)) (xC (.int 2)))) (xSeq (xDPut DM 5 (xVar 2) (xOp rdAdd (xDGet DM 5 (xVar 2)) (xC (.int 1))))
  (xSeq (xSet 8 (xOp (rdEqA false) (xCall (sp_g_draw K) [] (xCons (xVar 0) (xCons (xC (.int 2)) xNil))) (xC (.int 0))))
  (xFor (xiSeq (xCallP (sp_g_pairs K) [] (xCons (xVar 3) xNil))) (xgTup 2 (xgCons (xgName 5) (xgCons (xgName 6) xgNil))) (xDrop (xCall (sp_g_one_turn K) [] (xCons (xVar 1) (xCons (xVar 2) (xCons (xVar 6) (xCons (xVar 5) (xCons (xVar 8) xNil)))))))))) xNext)))))))
def t_m_Table_times (K : PySem.W.Frag) : XS :=
  (xSeq (xDrop (xMethP (He.ga K "Book") "check_person" (sp_m_Book_check_person K) [] (xFld (He.ga K "Table") ns_Table 0 (xVar 0)) (xCons (xVar 1) xNil)))
  (xRet (xOp (rdI CDivW fun i j => i / j) (xOp rdIx (xFld (He.ga K "Table") ns_Table 3 (xVar 0)) (xOp (rdI0 fun i j => i - j) (xVar 1) (xC (.int 1)))) (xCB rdLen (xCons (xFld (He.ga K "Table") ns_Table 3 (xVar 0)) xNil)))))
def t_g_rounds (K : PySem.W.Frag) : XS :=
  (xRet (xOp (rdI CDivW fun i j => i / j) (xOp (rdI0 fun i j => i - j) (xOp rdIx (xVar 0) (xOp (rdI0 fun i j => i - j) (xVar 2) (xC (.int 1)))) (xOp rdIx (xVar 0) (xOp (rdI0 fun i j => i - j) (xVar 1) (xC (.int 1))))) (xVar 3)))
def t_m_Table_changes (K : PySem.W.Frag) : XS :=
  (xRet (xFld (He.ga K "Table") ns_Table 2 (xVar 0)))
def t_g_kept (K : PySem.W.Frag) : XS :=
  (xSeq (xSet 3 (xCB rdLen (xCons (xDGet DM 0 (xVar 1)) xNil)))
  (xSeq (xSet 4 (xMeth (He.ga K "Table") "lifts" (sp_m_Table_lifts K) [] (xVar 0) xNil))
  (xSeq (xIfS (xB (xOp (rdEqA true) (xLc (xiSeq (xVar 4)) (xgName 5) xYes (xOp (rdI (fun _ j => 0 < j) fun i j => i % j) (xVar 5) (xVar 3)) [5]) (xLc (xiR2 (xC (.int 1)) (xOp rdAdd (xVar 3) (xC (.int 1)))) (xgName 6) xYes (xML rdIndexI (xDGet DM 0 (xVar 1)) (xCons (xVar 6) xNil)) [6]))) (xRet (xC (.bl false))) xNext)
  (xSeq (xIfS (xOr (xB (xOp (rdEqA true) (xCB rdSum (xCons (xVar 4) xNil)) (xCB rdSum (xCons (xVar 2) xNil)))) (xB (xOp (rdEqA true) (xLc (xiR2 (xC (.int 1)) (xOp rdAdd (xVar 3) (xC (.int 1)))) (xgName 6) xYes (xMeth (He.ga K "Table") "times" (sp_m_Table_times K) [] (xVar 0) (xCons (xVar 6) xNil)) [6]) (xDGet DM 4 (xVar 1))))) (xRet (xC (.bl false))) xNext)
  (xSeq (xFor (xiSeq (xDGet DM 2 (xVar 1))) (xgTup 2 (xgCons (xgName 6) (xgCons (xgName 7) xgNil))) (xIfS (xB (xOp (rdEqA true) (xCallP (sp_g_rounds K) [] (xCons (xVar 4) (xCons (xVar 6) (xCons (xVar 7) (xCons (xVar 3) xNil))))) (xCallP (sp_g_rounds K) [] (xCons (xVar 2) (xCons (xVar 6) (xCons (xVar 7) (xCons (xVar 3) xNil))))))) (xRet (xC (.bl false))) xNext))
  (xSeq (xSet 8 (xCB rdSum (xCons (xLc (xiSeq (xCallP (sp_g_pairs K) [] (xCons (xVar 3) xNil))) (xgTup 2 (xgCons (xgName 6) (xgCons (xgName 7) xgNil))) xYes (xCB (rdC1 fun i => if i < 0 then -i else i) (xCons (xOp (rdI0 fun i j => i - j) (xCallP (sp_g_rounds K) [] (xCons (xVar 4) (xCons (xVar 6) (xCons (xVar 7) (xCons (xVar 3) xNil))))) (xCallP (sp_g_rounds K) [] (xCons (xVar 2) (xCons (xVar 6) (xCons (xVar 7) (xCons (xVar 3) xNil)))))) xNil)) [6, 7]) xNil)))
  (xRet (xAndV (xOp (rdEqA false) (xMeth (He.ga K "Table") "changes" (sp_m_Table_changes K) [] (xVar 0) xNil) (xCB rdLen (xCons (xDGet DM 3 (xVar 1)) xNil))) (xAndV (xOp (rdB0 fun i j => decide (i ≤ j)) (xVar 8) (xCB rdLen (xCons (xDGet DM 3 (xVar 1)) xNil))) (xOp (rdEqA false) (xOp (rdI (fun _ j => 0 < j) fun i j => i % j) (xOp (rdI0 fun i j => i - j) (xCB rdLen (xCons (xDGet DM 3 (xVar 1)) xNil)) (xVar 8)) (xC (.int 2))) (xC (.int 0))))))))))))
def t_m_Table_seating (K : PySem.W.Frag) : XS :=
  (xRet (xFld (He.ga K "Table") ns_Table 1 (xVar 0)))
def t_g_right (K : PySem.W.Frag) : XS :=
  (xSeq (xSet 1 (xOp rdAdd (xC (.int 3)) (xCall (sp_g_draw K) [] (xCons (xVar 0) (xCons (xC (.int 7)) xNil)))))
  (xSeq (xSet 2 (xCall (sp_g_strange K) [] (xCons (xVar 0) (xCons (xVar 1) xNil))))
  (xSeq (xSet 3 (xCall (sp_g_shuffled K) [] (xCons (xVar 0) (xCons (xLR (xC (.int 1)) (xOp rdAdd (xVar 1) (xC (.int 1)))) xNil))))
  (xSeq (xSet 4 (xMakeM (He.ga K "Table") (sp_m_Table_init K) [] (xCons (xMake (He.ga K "Book") (sp_m_Book_init K) [] (xCons (xVar 1) (xCons (xCB rdList (xCons (xVar 2) xNil)) xNil))) (xCons (xMake (He.ga K "Seating") (sp_m_Seating_init K) [] (xCons (xCB rdList (xCons (xVar 3) xNil)) xNil)) xNil))))
  (xSeq (xSet 5 (xDisp [("row" : Str), ("strange" : Str), ("ever" : Str), ("path" : Str), ("over" : Str), ("turns" : Str)] [(xVar 3), (xVar 2), (xCB rdList (xCons (xVar 2) xNil)), (xLstM xNil), (xOp rdMulM (xLst (xCons (xC (.int 0)) xNil)) (xVar 1)), (xC (.int 0))]))
  (xSeq (xSet 6 (xMeth (He.ga K "Table") "lifts" (sp_m_Table_lifts K) [] (xVar 4) xNil))
  (xSeq (xFor (xiR1 (xCall (sp_g_draw K) [] (xCons (xVar 0) (xCons (xC (.int 61)) xNil)))) (xgName 7) (xSeq (xDrop (xCall (sp_g_deed K) [] (xCons (xVar 0) (xCons (xVar 4) (xCons (xVar 5) xNil)))))
  (xIfS (xNot (xTru (xCall (sp_g_kept K) [] (xCons (xVar 4) (xCons (xVar 5) (xCons (xVar 6) xNil)))))) (xRet (xC (.bl false))) xNext)))
  (xSeq (xFor (xiSeq (xCallP (sp_g_pairs K) [] (xCons (xVar 1) xNil))) (xgTup 2 (xgCons (xgName 8) (xgCons (xgName 9) xgNil))) (xDrop (xMeth (He.ga K "Table") "befriend" (sp_m_Table_befriend K) [] (xVar 4) (xCons (xVar 8) (xCons (xVar 9) xNil)))))
  (xSeq (xFor (xiSeq (xRev (xDGet DM 3 (xVar 5)))) (xgName 10) (xDrop (xMeth (He.ga K "Table") "change" (sp_m_Table_change K) [] (xVar 4) (xCons (xVar 10) xNil))))
  (xSeq (xIfS (xOr (xB (xOp (rdEqA true) (xMeth (He.ga K "Table") "lifts" (sp_m_Table_lifts K) [] (xVar 4) xNil) (xVar 6))) (xOr (xB (xOp (rdEqA true) (xMethP (He.ga K "Seating") "people" (sp_m_Seating_people K) [] (xMeth (He.ga K "Table") "seating" (sp_m_Table_seating K) [] (xVar 4) xNil) xNil) (xVar 3))) (xB (xOp (rdEqA true) (xMeth (He.ga K "Table") "changes" (sp_m_Table_changes K) [] (xVar 4) xNil) (xOp rdMul (xC (.int 2)) (xCB rdLen (xCons (xDGet DM 3 (xVar 5)) xNil))))))) (xRet (xC (.bl false))) xNext)
  (xRet (xOp (rdEqA false) (xLc (xiR2 (xC (.int 1)) (xOp rdAdd (xVar 1) (xC (.int 1)))) (xgName 8) xYes (xMeth (He.ga K "Table") "times" (sp_m_Table_times K) [] (xVar 4) (xCons (xVar 8) xNil)) [8]) (xOp rdMul (xLst (xCons (xC (.int 0)) xNil)) (xVar 1))))))))))))))
def t_g_well (K : PySem.W.Frag) : XS :=
  (xRet (xLstM (xCons (xVar 0) (xCons (xVar 0) (xCons (xC (.int 0)) xNil)))))
def t_f_law (K : PySem.W.Frag) : XS :=
  (xSeq (xFor (xiSeq (xOp rdAdd (xSlS K (xVar 0) xoN (xoS (xC (.int 4)))) (xLst (xCons (xC (.int 0)) xNil)))) (xgName 1) (xIfS (xNot (xTru (xCall (sp_g_right K) [] (xCons (xCallP (sp_g_well K) [] (xCons (xVar 1) xNil)) xNil)))) (xRet (xC (.bl false))) xNext))
  (xRet (xC (.bl true))))
end Nk66

set_option Elab.async false
set_option linter.all false
set_option maxRecDepth 100000
set_option maxHeartbeats 4000000
namespace Nk66
open PySem PySem.Spec L2 DL
theorem len_g_mixed {K : PySem.W.Frag} : ∀ es M Q E, sp_g_mixed K es M Q E → es.length = 2 := by
  rintro _ _ _ _ ⟨_, _, rfl, _⟩; rfl
theorem rd_g_mixed {K : PySem.W.Frag} : ∀ es M Q E, sp_g_mixed K es M Q E → t_g_mixed K { nx := fun _ M => Rtn Q .non M, rt := Rtn Q } (startD nm_g_mixed es) M := by
  rintro _ _ Q _ ⟨c, k, rfl, rfl, h0, h1, q⟩
  simp only [t_g_mixed, xSeq, xSet, xIfS, xNext, xRet, xRetN, xDrop, xNever, xBreak, xCont, xOp, xB, blK, xVar, xC, xTru, truK, xAnd, xOr, xNot, xAndV, xOrV, xNotV, xIf, xNil, xCons, xTup, xLst, xLstM, xCall, xCallP, xCallK, gSel, xMeth, xMethP, insK, xMake, xMakeM, xFld, fldK, getK, rdAdd, rdI, rdI0, rdB0, rdMul, rdEqA, viewK, ownK, seqK, lstK, tupK, tupxK, ixK, rdIsN, isN, rdIn, xChain, xUn, xgName, xgNil, xgCons, xgTup, xgSub, setL, xAsg, xPar, xAug, xSetF, PutF, xAugF, xiSeq, xiTup, xiR1, xiR2, xiEnum, xiZip, xFor, xLoop, xFrz, xFz, xYes, xLc, xLcMA, xCL, xCB, rdLen, rdSum, rdAny, rdAll, rdC2, rdC1, rdInt, rdList, rdListM, rdTup, rdTupX, rdSortI, rdSortP, rdIsi, xML, rdAppend, rdExtend, rdPopAt, rdPop, rdIndexI, xTupIx, rdIx, xoN, xoS, xSl, xSlM, xRev, xLR, xLRM, xDGet, dkK, xDPut, xVals, xDisp, xAugL, xLenSet, xSlS, scrK, startD, wipeD, List.getElem?_cons_zero, List.getElem?_cons_succ, List.set_cons_zero, List.set_cons_succ, List.map_cons, List.map_nil, List.cons_append, List.nil_append, List.append_nil, List.length_cons, List.length_nil, List.replicate_succ, List.replicate_zero, Nat.reduceSub, Nat.reduceAdd, Nat.reduceSubDiff, Nat.reduceLeDiff, decide_eq_true_eq, Bool.and_eq_true, ite_true, reduceIte, reduceCtorEq, true_and, and_true, beq_int, beq_pair, beq_ints, beq_pairs, any_il, any_pl, pl_int, pl_ints, pl_pair, pl_pairs, all_il, all_pl, tyD, List.length_map]
  generalize hx : (c % 2147483629 + 7919 * k + 1) ^ Int.toNat 3 = x
  refine ⟨by decide, cmul_ok (by omega) (by omega) (by omega) (by omega), cpow_ok (by omega) (by omega) (by omega) (by omega), by decide, cdiv_ok (by omega) (by omega), by decide, ?_⟩
  generalize hy : c / 2147483629 % 65521 = y
  have hy1 : 0 ≤ y ∧ y < 65521 := by omega
  refine ⟨cmul_ok (by omega) (by omega) (by omega) (by omega), by decide, cdiv_ok (by omega) (by omega), ?_⟩
  generalize hz : (x % 2147483647 + y * (k + 29)) % 2147483647 = z
  have hz1 : 0 ≤ z ∧ z < 2147483647 := by omega
  refine ⟨cmul_ok (by omega) (by omega) (by omega) (by omega), by decide, cdiv_ok (by omega) (by omega), ?_⟩
  generalize hu : z * (z / 1009 + 69621 + k) % 2147483587 = u
  have hu1 : 0 ≤ u ∧ u < 2147483587 := by omega
  exact ⟨cmul_ok (by omega) (by omega) (by omega) (by omega), by decide, rtn_all (q _)⟩
theorem len_f_is_whole {K : PySem.W.Frag} : ∀ es M Q E, sp_f_is_whole K es M Q E → es.length = 3 := by
  rintro _ _ _ _ ⟨_, _, _, rfl, _⟩; rfl
theorem rd_f_is_whole {K : PySem.W.Frag} : ∀ es M Q E, sp_f_is_whole K es M Q E → t_f_is_whole K { nx := fun _ M => Rtn Q .non M, rt := Rtn Q } (startD nm_f_is_whole es) M := by
  rintro _ M Q _ ⟨i, a, b, rfl, q⟩
  simp only [t_f_is_whole, xSeq, xSet, xIfS, xNext, xRet, xRetN, xDrop, xNever, xBreak, xCont, xOp, xB, blK, xVar, xC, xTru, truK, xAnd, xOr, xNot, xAndV, xOrV, xNotV, xIf, xNil, xCons, xTup, xLst, xLstM, xCall, xCallP, xCallK, gSel, xMeth, xMethP, insK, xMake, xMakeM, xFld, fldK, getK, rdAdd, rdI, rdI0, rdB0, rdMul, rdEqA, viewK, ownK, seqK, lstK, tupK, tupxK, ixK, rdIsN, isN, rdIn, xChain, xUn, xgName, xgNil, xgCons, xgTup, xgSub, setL, xAsg, xPar, xAug, xSetF, PutF, xAugF, xiSeq, xiTup, xiR1, xiR2, xiEnum, xiZip, xFor, xLoop, xFrz, xFz, xYes, xLc, xLcMA, xCL, xCB, rdLen, rdSum, rdAny, rdAll, rdC2, rdC1, rdInt, rdList, rdListM, rdTup, rdTupX, rdSortI, rdSortP, rdIsi, xML, rdAppend, rdExtend, rdPopAt, rdPop, rdIndexI, xTupIx, rdIx, xoN, xoS, xSl, xSlM, xRev, xLR, xLRM, xDGet, dkK, xDPut, xVals, xDisp, xAugL, xLenSet, xSlS, scrK, startD, wipeD, List.getElem?_cons_zero, List.getElem?_cons_succ, List.set_cons_zero, List.set_cons_succ, List.map_cons, List.map_nil, List.cons_append, List.nil_append, List.append_nil, List.length_cons, List.length_nil, List.replicate_succ, List.replicate_zero, Nat.reduceSub, Nat.reduceAdd, Nat.reduceSubDiff, Nat.reduceLeDiff, decide_eq_true_eq, Bool.and_eq_true, ite_true, reduceIte, reduceCtorEq, true_and, and_true, beq_int, beq_pair, beq_ints, beq_pairs, any_il, any_pl, pl_int, pl_ints, pl_pair, pl_pairs, all_il, all_pl, tyD, List.length_map]
  repeat (first | refine ⟨_, rfl, ?_⟩ | refine ⟨0, _, rfl, ?_⟩ | refine ⟨1, _, rfl, ?_⟩ | refine ⟨2, _, rfl, ?_⟩ | refine ⟨3, _, rfl, ?_⟩ | refine ⟨4, _, rfl, ?_⟩ | refine ⟨5, _, rfl, ?_⟩ | refine And.intro (by first | assumption | rfl | decide | omega | exact cdiv_ok (by omega) (by omega) | exact cpow_ok (by omega) (by omega) (by omega) (by omega)) ?_ | simp only [xSeq, xSet, xIfS, xNext, xRet, xRetN, xDrop, xNever, xBreak, xCont, xOp, xB, blK, xVar, xC, xTru, truK, xAnd, xOr, xNot, xAndV, xOrV, xNotV, xIf, xNil, xCons, xTup, xLst, xLstM, xCall, xCallP, xCallK, gSel, xMeth, xMethP, insK, xMake, xMakeM, xFld, fldK, getK, rdAdd, rdI, rdI0, rdB0, rdMul, rdEqA, viewK, ownK, seqK, lstK, tupK, tupxK, ixK, rdIsN, isN, rdIn, xChain, xUn, xgName, xgNil, xgCons, xgTup, xgSub, setL, xAsg, xPar, xAug, xSetF, PutF, xAugF, xiSeq, xiTup, xiR1, xiR2, xiEnum, xiZip, xFor, xLoop, xFrz, xFz, xYes, xLc, xLcMA, xCL, xCB, rdLen, rdSum, rdAny, rdAll, rdC2, rdC1, rdInt, rdList, rdListM, rdTup, rdTupX, rdSortI, rdSortP, rdIsi, xML, rdAppend, rdExtend, rdPopAt, rdPop, rdIndexI, xTupIx, rdIx, xoN, xoS, xSl, xSlM, xRev, xLR, xLRM, xDGet, dkK, xDPut, xVals, xDisp, xAugL, xLenSet, xSlS, scrK, startD, wipeD, List.getElem?_cons_zero, List.getElem?_cons_succ, List.set_cons_zero, List.set_cons_succ, List.map_cons, List.map_nil, List.cons_append, List.nil_append, List.append_nil, List.length_cons, List.length_nil, List.replicate_succ, List.replicate_zero, Nat.reduceSub, Nat.reduceAdd, Nat.reduceSubDiff, Nat.reduceLeDiff, decide_eq_true_eq, Bool.and_eq_true, ite_true, reduceIte, reduceCtorEq, true_and, and_true, beq_int, beq_pair, beq_ints, beq_pairs, any_il, any_pl, pl_int, pl_ints, pl_pair, pl_pairs, all_il, all_pl, tyD, List.length_map])
  rw [if_pos (show (!isT "bool" "int") = true by decide)]
  by_cases h : a ≤ i
  · rw [if_pos h]
    rw [decide_eq_true h, Bool.true_and] at q
    exact rtn_all q
  · rw [if_neg h]
    rw [decide_eq_false h, Bool.false_and] at q
    exact rtn_all q
theorem len_g_draw {K : PySem.W.Frag} : ∀ es M Q E, sp_g_draw K es M Q E → es.length = 2 := by
  rintro _ _ _ _ ⟨_, _, _, _, _, rfl, _⟩; rfl
theorem rd_g_draw {K : PySem.W.Frag} : ∀ es M Q E, sp_g_draw K es M Q E → t_g_draw K { nx := fun _ M => Rtn Q .non M, rt := Rtn Q } (startD nm_g_draw es) M := by
  rintro _ _ Q _ ⟨a, w, c, k, n, rfl, rfl, h0, h1, h2, h3, q⟩
  repeat (first | ((conv => whnf); refine ⟨_, rfl, ?_⟩) | ((conv => whnf); refine ⟨_, _, rfl, ?_⟩) | ((conv => whnf); refine ⟨_, _, _, rfl, ?_⟩) | ((conv => whnf); refine ⟨_, _, _, _, rfl, ?_⟩) | ((conv => whnf); refine DL.exn 0 ⟨_, rfl, ?_⟩) | ((conv => whnf); refine DL.exn 1 ⟨_, rfl, ?_⟩) | ((conv => whnf); refine DL.exn 2 ⟨_, rfl, ?_⟩) | ((conv => whnf); refine DL.exn 3 ⟨_, rfl, ?_⟩) | ((conv => whnf); refine DL.exn 4 ⟨_, rfl, ?_⟩) | ((conv => whnf); refine DL.exn 5 ⟨_, rfl, ?_⟩) | ((conv => whnf); refine DL.exn 0 ⟨_, _, rfl, rfl, ?_⟩) | ((conv => whnf); refine DL.exn 1 ⟨_, _, rfl, rfl, ?_⟩) | ((conv => whnf); refine DL.exn 2 ⟨_, _, rfl, rfl, ?_⟩) | ((conv => whnf); refine DL.exn 3 ⟨_, _, rfl, rfl, ?_⟩) | ((conv => whnf); refine DL.exn 4 ⟨_, _, rfl, rfl, ?_⟩) | ((conv => whnf); refine DL.exn 5 ⟨_, _, rfl, rfl, ?_⟩) | ((conv => whnf); refine DL.exn 0 ⟨_, _, rfl, ?_⟩) | ((conv => whnf); refine DL.exn 1 ⟨_, _, rfl, ?_⟩) | ((conv => whnf); refine DL.exn 2 ⟨_, _, rfl, ?_⟩) | ((conv => whnf); refine DL.exn 3 ⟨_, _, rfl, ?_⟩) | ((conv => whnf); refine DL.exn 4 ⟨_, _, rfl, ?_⟩) | ((conv => whnf); refine DL.exn 5 ⟨_, _, rfl, ?_⟩) | ((conv => whnf); refine DL.exn 0 ⟨_, _, _, rfl, rfl, ?_⟩) | ((conv => whnf); refine DL.exn 1 ⟨_, _, _, rfl, rfl, ?_⟩) | ((conv => whnf); refine DL.exn 2 ⟨_, _, _, rfl, rfl, ?_⟩) | ((conv => whnf); refine DL.exn 3 ⟨_, _, _, rfl, rfl, ?_⟩) | ((conv => whnf); refine DL.exn 4 ⟨_, _, _, rfl, rfl, ?_⟩) | ((conv => whnf); refine DL.exn 5 ⟨_, _, _, rfl, rfl, ?_⟩) | ((conv => whnf); refine Or.inl ⟨by decide, by decide, ?_⟩) | ((conv => whnf); refine Or.inr ⟨_, rfl, by decide, ?_⟩) | ((conv => whnf); refine And.intro (by first | assumption | rfl | decide | omega | exact ⟨rfl, by decide⟩ | exact ⟨rfl, rfl⟩ | exact small_ok (by omega) (by omega) | exact ⟨small_ok (by omega) (by omega), small_ok (by omega) (by omega)⟩ | exact cdiv_ok (by omega) (by omega) | exact cpow_ok (by omega) (by omega) (by omega) (by omega) | decide +kernel) ?_))
  by_cases h : (10 : Int) ^ 18 ≤ w
  · simp only [xSeq, xSet, xIfS, xNext, xRet, xRetN, xDrop, xNever, xBreak, xCont, xOp, xB, blK, xVar, xC, xTru, truK, xAnd, xOr, xNot, xAndV, xOrV, xNotV, xIf, xNil, xCons, xTup, xLst, xLstM, xCall, xCallP, xCallK, gSel, xMeth, xMethP, insK, xMake, xMakeM, xFld, fldK, getK, rdAdd, rdI, rdI0, rdB0, rdMul, rdEqA, viewK, ownK, seqK, lstK, tupK, tupxK, ixK, rdIsN, isN, rdIn, xChain, xUn, xgName, xgNil, xgCons, xgTup, xgSub, setL, xAsg, xPar, xAug, xSetF, PutF, xAugF, xiSeq, xiTup, xiR1, xiR2, xiEnum, xiZip, xFor, xLoop, xFrz, xFz, xYes, xLc, xLcMA, xCL, xCB, rdLen, rdSum, rdAny, rdAll, rdC2, rdC1, rdInt, rdList, rdListM, rdTup, rdTupX, rdSortI, rdSortP, rdIsi, xML, rdAppend, rdExtend, rdPopAt, rdPop, rdIndexI, xTupIx, rdIx, xoN, xoS, xSl, xSlM, xRev, xLR, xLRM, xDGet, dkK, xDPut, xVals, xDisp, xAugL, xLenSet, xSlS, scrK, startD, wipeD, List.getElem?_cons_zero, List.getElem?_cons_succ, List.set_cons_zero, List.set_cons_succ, List.map_cons, List.map_nil, List.cons_append, List.nil_append, List.append_nil, List.length_cons, List.length_nil, List.replicate_succ, List.replicate_zero, Nat.reduceSub, Nat.reduceAdd, Nat.reduceSubDiff, Nat.reduceLeDiff, decide_eq_true_eq, Bool.and_eq_true, ite_true, reduceIte, reduceCtorEq, true_and, and_true, beq_int, beq_pair, beq_ints, beq_pairs, any_il, any_pl, pl_int, pl_ints, pl_pair, pl_pairs, all_il, all_pl, tyD, List.length_map]
    rw [if_pos (by simpa using h)]
    repeat (first | ((conv => whnf); refine ⟨_, rfl, ?_⟩) | ((conv => whnf); refine ⟨_, _, rfl, ?_⟩) | ((conv => whnf); refine ⟨_, _, _, rfl, ?_⟩) | ((conv => whnf); refine ⟨_, _, _, _, rfl, ?_⟩) | ((conv => whnf); refine DL.exn 0 ⟨_, rfl, ?_⟩) | ((conv => whnf); refine DL.exn 1 ⟨_, rfl, ?_⟩) | ((conv => whnf); refine DL.exn 2 ⟨_, rfl, ?_⟩) | ((conv => whnf); refine DL.exn 3 ⟨_, rfl, ?_⟩) | ((conv => whnf); refine DL.exn 4 ⟨_, rfl, ?_⟩) | ((conv => whnf); refine DL.exn 5 ⟨_, rfl, ?_⟩) | ((conv => whnf); refine DL.exn 0 ⟨_, _, rfl, rfl, ?_⟩) | ((conv => whnf); refine DL.exn 1 ⟨_, _, rfl, rfl, ?_⟩) | ((conv => whnf); refine DL.exn 2 ⟨_, _, rfl, rfl, ?_⟩) | ((conv => whnf); refine DL.exn 3 ⟨_, _, rfl, rfl, ?_⟩) | ((conv => whnf); refine DL.exn 4 ⟨_, _, rfl, rfl, ?_⟩) | ((conv => whnf); refine DL.exn 5 ⟨_, _, rfl, rfl, ?_⟩) | ((conv => whnf); refine DL.exn 0 ⟨_, _, rfl, ?_⟩) | ((conv => whnf); refine DL.exn 1 ⟨_, _, rfl, ?_⟩) | ((conv => whnf); refine DL.exn 2 ⟨_, _, rfl, ?_⟩) | ((conv => whnf); refine DL.exn 3 ⟨_, _, rfl, ?_⟩) | ((conv => whnf); refine DL.exn 4 ⟨_, _, rfl, ?_⟩) | ((conv => whnf); refine DL.exn 5 ⟨_, _, rfl, ?_⟩) | ((conv => whnf); refine DL.exn 0 ⟨_, _, _, rfl, rfl, ?_⟩) | ((conv => whnf); refine DL.exn 1 ⟨_, _, _, rfl, rfl, ?_⟩) | ((conv => whnf); refine DL.exn 2 ⟨_, _, _, rfl, rfl, ?_⟩) | ((conv => whnf); refine DL.exn 3 ⟨_, _, _, rfl, rfl, ?_⟩) | ((conv => whnf); refine DL.exn 4 ⟨_, _, _, rfl, rfl, ?_⟩) | ((conv => whnf); refine DL.exn 5 ⟨_, _, _, rfl, rfl, ?_⟩) | ((conv => whnf); refine Or.inl ⟨by decide, by decide, ?_⟩) | ((conv => whnf); refine Or.inr ⟨_, rfl, by decide, ?_⟩) | ((conv => whnf); refine And.intro (by first | assumption | rfl | decide | omega | exact ⟨rfl, by decide⟩ | exact ⟨rfl, rfl⟩ | exact small_ok (by omega) (by omega) | exact ⟨small_ok (by omega) (by omega), small_ok (by omega) (by omega)⟩ | exact cdiv_ok (by omega) (by omega) | exact cpow_ok (by omega) (by omega) (by omega) (by omega) | decide +kernel) ?_))
    exact rtn_all (q _ (w / n) k (Int.emod_nonneg _ (by omega)) (Int.emod_lt_of_pos _ h2) (by omega) (by omega))
  · simp only [xSeq, xSet, xIfS, xNext, xRet, xRetN, xDrop, xNever, xBreak, xCont, xOp, xB, blK, xVar, xC, xTru, truK, xAnd, xOr, xNot, xAndV, xOrV, xNotV, xIf, xNil, xCons, xTup, xLst, xLstM, xCall, xCallP, xCallK, gSel, xMeth, xMethP, insK, xMake, xMakeM, xFld, fldK, getK, rdAdd, rdI, rdI0, rdB0, rdMul, rdEqA, viewK, ownK, seqK, lstK, tupK, tupxK, ixK, rdIsN, isN, rdIn, xChain, xUn, xgName, xgNil, xgCons, xgTup, xgSub, setL, xAsg, xPar, xAug, xSetF, PutF, xAugF, xiSeq, xiTup, xiR1, xiR2, xiEnum, xiZip, xFor, xLoop, xFrz, xFz, xYes, xLc, xLcMA, xCL, xCB, rdLen, rdSum, rdAny, rdAll, rdC2, rdC1, rdInt, rdList, rdListM, rdTup, rdTupX, rdSortI, rdSortP, rdIsi, xML, rdAppend, rdExtend, rdPopAt, rdPop, rdIndexI, xTupIx, rdIx, xoN, xoS, xSl, xSlM, xRev, xLR, xLRM, xDGet, dkK, xDPut, xVals, xDisp, xAugL, xLenSet, xSlS, scrK, startD, wipeD, List.getElem?_cons_zero, List.getElem?_cons_succ, List.set_cons_zero, List.set_cons_succ, List.map_cons, List.map_nil, List.cons_append, List.nil_append, List.append_nil, List.length_cons, List.length_nil, List.replicate_succ, List.replicate_zero, Nat.reduceSub, Nat.reduceAdd, Nat.reduceSubDiff, Nat.reduceLeDiff, decide_eq_true_eq, Bool.and_eq_true, ite_true, reduceIte, reduceCtorEq, true_and, and_true, beq_int, beq_pair, beq_ints, beq_pairs, any_il, any_pl, pl_int, pl_ints, pl_pair, pl_pairs, all_il, all_pl, tyD, List.length_map]
    rw [if_neg (by simpa using h)]
    repeat (first | ((conv => whnf); refine ⟨_, rfl, ?_⟩) | ((conv => whnf); refine ⟨_, _, rfl, ?_⟩) | ((conv => whnf); refine ⟨_, _, _, rfl, ?_⟩) | ((conv => whnf); refine ⟨_, _, _, _, rfl, ?_⟩) | ((conv => whnf); refine DL.exn 0 ⟨_, rfl, ?_⟩) | ((conv => whnf); refine DL.exn 1 ⟨_, rfl, ?_⟩) | ((conv => whnf); refine DL.exn 2 ⟨_, rfl, ?_⟩) | ((conv => whnf); refine DL.exn 3 ⟨_, rfl, ?_⟩) | ((conv => whnf); refine DL.exn 4 ⟨_, rfl, ?_⟩) | ((conv => whnf); refine DL.exn 5 ⟨_, rfl, ?_⟩) | ((conv => whnf); refine DL.exn 0 ⟨_, _, rfl, rfl, ?_⟩) | ((conv => whnf); refine DL.exn 1 ⟨_, _, rfl, rfl, ?_⟩) | ((conv => whnf); refine DL.exn 2 ⟨_, _, rfl, rfl, ?_⟩) | ((conv => whnf); refine DL.exn 3 ⟨_, _, rfl, rfl, ?_⟩) | ((conv => whnf); refine DL.exn 4 ⟨_, _, rfl, rfl, ?_⟩) | ((conv => whnf); refine DL.exn 5 ⟨_, _, rfl, rfl, ?_⟩) | ((conv => whnf); refine DL.exn 0 ⟨_, _, rfl, ?_⟩) | ((conv => whnf); refine DL.exn 1 ⟨_, _, rfl, ?_⟩) | ((conv => whnf); refine DL.exn 2 ⟨_, _, rfl, ?_⟩) | ((conv => whnf); refine DL.exn 3 ⟨_, _, rfl, ?_⟩) | ((conv => whnf); refine DL.exn 4 ⟨_, _, rfl, ?_⟩) | ((conv => whnf); refine DL.exn 5 ⟨_, _, rfl, ?_⟩) | ((conv => whnf); refine DL.exn 0 ⟨_, _, _, rfl, rfl, ?_⟩) | ((conv => whnf); refine DL.exn 1 ⟨_, _, _, rfl, rfl, ?_⟩) | ((conv => whnf); refine DL.exn 2 ⟨_, _, _, rfl, rfl, ?_⟩) | ((conv => whnf); refine DL.exn 3 ⟨_, _, _, rfl, rfl, ?_⟩) | ((conv => whnf); refine DL.exn 4 ⟨_, _, _, rfl, rfl, ?_⟩) | ((conv => whnf); refine DL.exn 5 ⟨_, _, _, rfl, rfl, ?_⟩) | ((conv => whnf); refine Or.inl ⟨by decide, by decide, ?_⟩) | ((conv => whnf); refine Or.inr ⟨_, rfl, by decide, ?_⟩) | ((conv => whnf); refine And.intro (by first | assumption | rfl | decide | omega | exact ⟨rfl, by decide⟩ | exact ⟨rfl, rfl⟩ | exact small_ok (by omega) (by omega) | exact ⟨small_ok (by omega) (by omega), small_ok (by omega) (by omega)⟩ | exact cdiv_ok (by omega) (by omega) | exact cpow_ok (by omega) (by omega) (by omega) (by omega) | decide +kernel) ?_))
    intro r
    repeat (first | ((conv => whnf); refine ⟨_, rfl, ?_⟩) | ((conv => whnf); refine ⟨_, _, rfl, ?_⟩) | ((conv => whnf); refine ⟨_, _, _, rfl, ?_⟩) | ((conv => whnf); refine ⟨_, _, _, _, rfl, ?_⟩) | ((conv => whnf); refine DL.exn 0 ⟨_, rfl, ?_⟩) | ((conv => whnf); refine DL.exn 1 ⟨_, rfl, ?_⟩) | ((conv => whnf); refine DL.exn 2 ⟨_, rfl, ?_⟩) | ((conv => whnf); refine DL.exn 3 ⟨_, rfl, ?_⟩) | ((conv => whnf); refine DL.exn 4 ⟨_, rfl, ?_⟩) | ((conv => whnf); refine DL.exn 5 ⟨_, rfl, ?_⟩) | ((conv => whnf); refine DL.exn 0 ⟨_, _, rfl, rfl, ?_⟩) | ((conv => whnf); refine DL.exn 1 ⟨_, _, rfl, rfl, ?_⟩) | ((conv => whnf); refine DL.exn 2 ⟨_, _, rfl, rfl, ?_⟩) | ((conv => whnf); refine DL.exn 3 ⟨_, _, rfl, rfl, ?_⟩) | ((conv => whnf); refine DL.exn 4 ⟨_, _, rfl, rfl, ?_⟩) | ((conv => whnf); refine DL.exn 5 ⟨_, _, rfl, rfl, ?_⟩) | ((conv => whnf); refine DL.exn 0 ⟨_, _, rfl, ?_⟩) | ((conv => whnf); refine DL.exn 1 ⟨_, _, rfl, ?_⟩) | ((conv => whnf); refine DL.exn 2 ⟨_, _, rfl, ?_⟩) | ((conv => whnf); refine DL.exn 3 ⟨_, _, rfl, ?_⟩) | ((conv => whnf); refine DL.exn 4 ⟨_, _, rfl, ?_⟩) | ((conv => whnf); refine DL.exn 5 ⟨_, _, rfl, ?_⟩) | ((conv => whnf); refine DL.exn 0 ⟨_, _, _, rfl, rfl, ?_⟩) | ((conv => whnf); refine DL.exn 1 ⟨_, _, _, rfl, rfl, ?_⟩) | ((conv => whnf); refine DL.exn 2 ⟨_, _, _, rfl, rfl, ?_⟩) | ((conv => whnf); refine DL.exn 3 ⟨_, _, _, rfl, rfl, ?_⟩) | ((conv => whnf); refine DL.exn 4 ⟨_, _, _, rfl, rfl, ?_⟩) | ((conv => whnf); refine DL.exn 5 ⟨_, _, _, rfl, rfl, ?_⟩) | ((conv => whnf); refine Or.inl ⟨by decide, by decide, ?_⟩) | ((conv => whnf); refine Or.inr ⟨_, rfl, by decide, ?_⟩) | ((conv => whnf); refine And.intro (by first | assumption | rfl | decide | omega | exact ⟨rfl, by decide⟩ | exact ⟨rfl, rfl⟩ | exact small_ok (by omega) (by omega) | exact ⟨small_ok (by omega) (by omega), small_ok (by omega) (by omega)⟩ | exact cdiv_ok (by omega) (by omega) | exact cpow_ok (by omega) (by omega) (by omega) (by omega) | decide +kernel) ?_))
    exact rtn_all (q _ w (k + 1) (Int.emod_nonneg _ (by omega)) (Int.emod_lt_of_pos _ h2) (by omega) (by omega))
theorem len_m_Seating_count {K : PySem.W.Frag} : ∀ es M Q E, sp_m_Seating_count K es M Q E → es.length = 1 := by
  rintro _ _ _ _ ⟨_, rfl, _⟩; rfl
theorem rd_m_Seating_count {K : PySem.W.Frag} : ∀ es M Q E, sp_m_Seating_count K es M Q E → t_m_Seating_count K { nx := fun _ M => Rtn Q .non M, rt := Rtn Q } (startD nm_m_Seating_count es) M := by
  rintro _ M Q _ ⟨row, rfl, q⟩
  simp only [t_m_Seating_count, xSeq, xSet, xIfS, xNext, xRet, xRetN, xDrop, xNever, xBreak, xCont, xOp, xB, blK, xVar, xC, xTru, truK, xAnd, xOr, xNot, xAndV, xOrV, xNotV, xIf, xNil, xCons, xTup, xLst, xLstM, xCall, xCallP, xCallK, gSel, xMeth, xMethP, insK, xMake, xMakeM, xFld, fldK, getK, rdAdd, rdI, rdI0, rdB0, rdMul, rdEqA, viewK, ownK, seqK, lstK, tupK, tupxK, ixK, rdIsN, isN, rdIn, xChain, xUn, xgName, xgNil, xgCons, xgTup, xgSub, setL, xAsg, xPar, xAug, xSetF, PutF, xAugF, xiSeq, xiTup, xiR1, xiR2, xiEnum, xiZip, xFor, xLoop, xFrz, xFz, xYes, xLc, xLcMA, xCL, xCB, rdLen, rdSum, rdAny, rdAll, rdC2, rdC1, rdInt, rdList, rdListM, rdTup, rdTupX, rdSortI, rdSortP, rdIsi, xML, rdAppend, rdExtend, rdPopAt, rdPop, rdIndexI, xTupIx, rdIx, xoN, xoS, xSl, xSlM, xRev, xLR, xLRM, xDGet, dkK, xDPut, xVals, xDisp, xAugL, xLenSet, xSlS, scrK, startD, wipeD, List.getElem?_cons_zero, List.getElem?_cons_succ, List.set_cons_zero, List.set_cons_succ, List.map_cons, List.map_nil, List.cons_append, List.nil_append, List.append_nil, List.length_cons, List.length_nil, List.replicate_succ, List.replicate_zero, Nat.reduceSub, Nat.reduceAdd, Nat.reduceSubDiff, Nat.reduceLeDiff, decide_eq_true_eq, Bool.and_eq_true, ite_true, reduceIte, reduceCtorEq, true_and, and_true, beq_int, beq_pair, beq_ints, beq_pairs, any_il, any_pl, pl_int, pl_ints, pl_pair, pl_pairs, all_il, all_pl, tyD, List.length_map]
  exact rtn_all q
theorem len_m_Book_count {K : PySem.W.Frag} : ∀ es M Q E, sp_m_Book_count K es M Q E → es.length = 1 := by
  rintro _ _ _ _ ⟨_, _, rfl, _⟩; rfl
theorem rd_m_Book_count {K : PySem.W.Frag} : ∀ es M Q E, sp_m_Book_count K es M Q E → t_m_Book_count K { nx := fun _ M => Rtn Q .non M, rt := Rtn Q } (startD nm_m_Book_count es) M := by
  rintro _ M Q _ ⟨n, ps, rfl, q⟩
  simp only [t_m_Book_count, xSeq, xSet, xIfS, xNext, xRet, xRetN, xDrop, xNever, xBreak, xCont, xOp, xB, blK, xVar, xC, xTru, truK, xAnd, xOr, xNot, xAndV, xOrV, xNotV, xIf, xNil, xCons, xTup, xLst, xLstM, xCall, xCallP, xCallK, gSel, xMeth, xMethP, insK, xMake, xMakeM, xFld, fldK, getK, rdAdd, rdI, rdI0, rdB0, rdMul, rdEqA, viewK, ownK, seqK, lstK, tupK, tupxK, ixK, rdIsN, isN, rdIn, xChain, xUn, xgName, xgNil, xgCons, xgTup, xgSub, setL, xAsg, xPar, xAug, xSetF, PutF, xAugF, xiSeq, xiTup, xiR1, xiR2, xiEnum, xiZip, xFor, xLoop, xFrz, xFz, xYes, xLc, xLcMA, xCL, xCB, rdLen, rdSum, rdAny, rdAll, rdC2, rdC1, rdInt, rdList, rdListM, rdTup, rdTupX, rdSortI, rdSortP, rdIsi, xML, rdAppend, rdExtend, rdPopAt, rdPop, rdIndexI, xTupIx, rdIx, xoN, xoS, xSl, xSlM, xRev, xLR, xLRM, xDGet, dkK, xDPut, xVals, xDisp, xAugL, xLenSet, xSlS, scrK, startD, wipeD, List.getElem?_cons_zero, List.getElem?_cons_succ, List.set_cons_zero, List.set_cons_succ, List.map_cons, List.map_nil, List.cons_append, List.nil_append, List.append_nil, List.length_cons, List.length_nil, List.replicate_succ, List.replicate_zero, Nat.reduceSub, Nat.reduceAdd, Nat.reduceSubDiff, Nat.reduceLeDiff, decide_eq_true_eq, Bool.and_eq_true, ite_true, reduceIte, reduceCtorEq, true_and, and_true, beq_int, beq_pair, beq_ints, beq_pairs, any_il, any_pl, pl_int, pl_ints, pl_pair, pl_pairs, all_il, all_pl, tyD, List.length_map]
  exact rtn_all q
theorem len_f_check_alike {K : PySem.W.Frag} : ∀ es M Q E, sp_f_check_alike K es M Q E → es.length = 2 := by
  rintro _ _ _ _ ⟨_, _, _, rfl, _⟩; rfl
theorem rd_f_check_alike {K : PySem.W.Frag} : ∀ es M Q E, sp_f_check_alike K es M Q E → t_f_check_alike K { nx := fun _ M => Rtn Q .non M, rt := Rtn Q } (startD nm_f_check_alike es) M := by
  rintro _ M Q _ ⟨n, ps, row, rfl, hl, q⟩
  repeat (first | ((conv => whnf); refine ⟨_, rfl, ?_⟩) | ((conv => whnf); refine ⟨_, _, rfl, ?_⟩) | ((conv => whnf); refine ⟨_, _, _, rfl, ?_⟩) | ((conv => whnf); refine ⟨_, _, _, _, rfl, ?_⟩) | ((conv => whnf); refine DL.exn 0 ⟨_, rfl, ?_⟩) | ((conv => whnf); refine DL.exn 1 ⟨_, rfl, ?_⟩) | ((conv => whnf); refine DL.exn 2 ⟨_, rfl, ?_⟩) | ((conv => whnf); refine DL.exn 3 ⟨_, rfl, ?_⟩) | ((conv => whnf); refine DL.exn 4 ⟨_, rfl, ?_⟩) | ((conv => whnf); refine DL.exn 5 ⟨_, rfl, ?_⟩) | ((conv => whnf); refine DL.exn 0 ⟨_, _, rfl, rfl, ?_⟩) | ((conv => whnf); refine DL.exn 1 ⟨_, _, rfl, rfl, ?_⟩) | ((conv => whnf); refine DL.exn 2 ⟨_, _, rfl, rfl, ?_⟩) | ((conv => whnf); refine DL.exn 3 ⟨_, _, rfl, rfl, ?_⟩) | ((conv => whnf); refine DL.exn 4 ⟨_, _, rfl, rfl, ?_⟩) | ((conv => whnf); refine DL.exn 5 ⟨_, _, rfl, rfl, ?_⟩) | ((conv => whnf); refine DL.exn 0 ⟨_, _, rfl, ?_⟩) | ((conv => whnf); refine DL.exn 1 ⟨_, _, rfl, ?_⟩) | ((conv => whnf); refine DL.exn 2 ⟨_, _, rfl, ?_⟩) | ((conv => whnf); refine DL.exn 3 ⟨_, _, rfl, ?_⟩) | ((conv => whnf); refine DL.exn 4 ⟨_, _, rfl, ?_⟩) | ((conv => whnf); refine DL.exn 5 ⟨_, _, rfl, ?_⟩) | ((conv => whnf); refine DL.exn 0 ⟨_, _, _, rfl, rfl, ?_⟩) | ((conv => whnf); refine DL.exn 1 ⟨_, _, _, rfl, rfl, ?_⟩) | ((conv => whnf); refine DL.exn 2 ⟨_, _, _, rfl, rfl, ?_⟩) | ((conv => whnf); refine DL.exn 3 ⟨_, _, _, rfl, rfl, ?_⟩) | ((conv => whnf); refine DL.exn 4 ⟨_, _, _, rfl, rfl, ?_⟩) | ((conv => whnf); refine DL.exn 5 ⟨_, _, _, rfl, rfl, ?_⟩) | ((conv => whnf); refine Or.inl ⟨by decide, by decide, ?_⟩) | ((conv => whnf); refine Or.inr ⟨_, rfl, by decide, ?_⟩) | ((conv => whnf); refine And.intro (by first | assumption | rfl | decide | omega | exact ⟨rfl, by decide⟩ | exact ⟨rfl, rfl⟩ | exact small_ok (by omega) (by omega) | exact ⟨small_ok (by omega) (by omega), small_ok (by omega) (by omega)⟩ | exact cdiv_ok (by omega) (by omega) | exact cpow_ok (by omega) (by omega) (by omega) (by omega) | decide +kernel) ?_))
  simp only [xSeq, xSet, xIfS, xNext, xRet, xRetN, xDrop, xNever, xBreak, xCont, xOp, xB, blK, xVar, xC, xTru, truK, xAnd, xOr, xNot, xAndV, xOrV, xNotV, xIf, xNil, xCons, xTup, xLst, xLstM, xCall, xCallP, xCallK, gSel, xMeth, xMethP, insK, xMake, xMakeM, xFld, fldK, getK, rdAdd, rdI, rdI0, rdB0, rdMul, rdEqA, viewK, ownK, seqK, lstK, tupK, tupxK, ixK, rdIsN, isN, rdIn, xChain, xUn, xgName, xgNil, xgCons, xgTup, xgSub, setL, xAsg, xPar, xAug, xSetF, PutF, xAugF, xiSeq, xiTup, xiR1, xiR2, xiEnum, xiZip, xFor, xLoop, xFrz, xFz, xYes, xLc, xLcMA, xCL, xCB, rdLen, rdSum, rdAny, rdAll, rdC2, rdC1, rdInt, rdList, rdListM, rdTup, rdTupX, rdSortI, rdSortP, rdIsi, xML, rdAppend, rdExtend, rdPopAt, rdPop, rdIndexI, xTupIx, rdIx, xoN, xoS, xSl, xSlM, xRev, xLR, xLRM, xDGet, dkK, xDPut, xVals, xDisp, xAugL, xLenSet, xSlS, scrK, startD, wipeD, List.getElem?_cons_zero, List.getElem?_cons_succ, List.set_cons_zero, List.set_cons_succ, List.map_cons, List.map_nil, List.cons_append, List.nil_append, List.append_nil, List.length_cons, List.length_nil, List.replicate_succ, List.replicate_zero, Nat.reduceSub, Nat.reduceAdd, Nat.reduceSubDiff, Nat.reduceLeDiff, decide_eq_true_eq, Bool.and_eq_true, ite_true, reduceIte, reduceCtorEq, true_and, and_true, beq_int, beq_pair, beq_ints, beq_pairs, any_il, any_pl, pl_int, pl_ints, pl_pair, pl_pairs, all_il, all_pl, tyD, List.length_map]
  rw [if_neg (by simp [hl])]
  exact rtn_all q
theorem len_m_Seating_seat {K : PySem.W.Frag} : ∀ es M Q E, sp_m_Seating_seat K es M Q E → es.length = 2 := by
  rintro _ _ _ _ ⟨_, _, _, rfl, _⟩; rfl
theorem RowOk.has {n : Int} {row : List Int} (ok : RowOk n row) {p : Int} (h1 : 1 ≤ p) (h2 : p ≤ n) : p ∈ row := nd_all ok.nd ok.mem ok.len h1 h2
theorem BkOk.len {n : Int} {ps : List (Int × Int)} (ok : BkOk n ps) : ps.length ≤ 81 := nd_pairs ok.hi ok.nd ok.mem
theorem rd_m_Seating_seat {K : PySem.W.Frag} : ∀ es M Q E, sp_m_Seating_seat K es M Q E → t_m_Seating_seat K { nx := fun _ M => Rtn Q .non M, rt := Rtn Q } (startD nm_m_Seating_seat es) M := by
  rintro _ M Q _ ⟨n, row, p, rfl, ok, h1, h2, q⟩
  have hl := ok.len
  repeat (first | ((conv => whnf); refine ⟨_, rfl, ?_⟩) | ((conv => whnf); refine ⟨_, _, rfl, ?_⟩) | ((conv => whnf); refine ⟨_, _, _, rfl, ?_⟩) | ((conv => whnf); refine ⟨_, _, _, _, rfl, ?_⟩) | ((conv => whnf); refine DL.exn 0 ⟨_, rfl, ?_⟩) | ((conv => whnf); refine DL.exn 1 ⟨_, rfl, ?_⟩) | ((conv => whnf); refine DL.exn 2 ⟨_, rfl, ?_⟩) | ((conv => whnf); refine DL.exn 3 ⟨_, rfl, ?_⟩) | ((conv => whnf); refine DL.exn 4 ⟨_, rfl, ?_⟩) | ((conv => whnf); refine DL.exn 5 ⟨_, rfl, ?_⟩) | ((conv => whnf); refine DL.exn 0 ⟨_, _, rfl, rfl, ?_⟩) | ((conv => whnf); refine DL.exn 1 ⟨_, _, rfl, rfl, ?_⟩) | ((conv => whnf); refine DL.exn 2 ⟨_, _, rfl, rfl, ?_⟩) | ((conv => whnf); refine DL.exn 3 ⟨_, _, rfl, rfl, ?_⟩) | ((conv => whnf); refine DL.exn 4 ⟨_, _, rfl, rfl, ?_⟩) | ((conv => whnf); refine DL.exn 5 ⟨_, _, rfl, rfl, ?_⟩) | ((conv => whnf); refine DL.exn 0 ⟨_, _, rfl, ?_⟩) | ((conv => whnf); refine DL.exn 1 ⟨_, _, rfl, ?_⟩) | ((conv => whnf); refine DL.exn 2 ⟨_, _, rfl, ?_⟩) | ((conv => whnf); refine DL.exn 3 ⟨_, _, rfl, ?_⟩) | ((conv => whnf); refine DL.exn 4 ⟨_, _, rfl, ?_⟩) | ((conv => whnf); refine DL.exn 5 ⟨_, _, rfl, ?_⟩) | ((conv => whnf); refine DL.exn 0 ⟨_, _, _, rfl, rfl, ?_⟩) | ((conv => whnf); refine DL.exn 1 ⟨_, _, _, rfl, rfl, ?_⟩) | ((conv => whnf); refine DL.exn 2 ⟨_, _, _, rfl, rfl, ?_⟩) | ((conv => whnf); refine DL.exn 3 ⟨_, _, _, rfl, rfl, ?_⟩) | ((conv => whnf); refine DL.exn 4 ⟨_, _, _, rfl, rfl, ?_⟩) | ((conv => whnf); refine DL.exn 5 ⟨_, _, _, rfl, rfl, ?_⟩) | ((conv => whnf); refine Or.inl ⟨by decide, by decide, ?_⟩) | ((conv => whnf); refine Or.inr ⟨_, rfl, by decide, ?_⟩) | ((conv => whnf); refine And.intro (by first | assumption | rfl | decide | omega | exact ⟨rfl, by decide⟩ | exact ⟨rfl, rfl⟩ | exact small_ok (by omega) (by omega) | exact ⟨small_ok (by omega) (by omega), small_ok (by omega) (by omega)⟩ | exact cdiv_ok (by omega) (by omega) | exact cpow_ok (by omega) (by omega) (by omega) (by omega) | decide +kernel) ?_))
  simp only [xSeq, xSet, xIfS, xNext, xRet, xRetN, xDrop, xNever, xBreak, xCont, xOp, xB, blK, xVar, xC, xTru, truK, xAnd, xOr, xNot, xAndV, xOrV, xNotV, xIf, xNil, xCons, xTup, xLst, xLstM, xCall, xCallP, xCallK, gSel, xMeth, xMethP, insK, xMake, xMakeM, xFld, fldK, getK, rdAdd, rdI, rdI0, rdB0, rdMul, rdEqA, viewK, ownK, seqK, lstK, tupK, tupxK, ixK, rdIsN, isN, rdIn, xChain, xUn, xgName, xgNil, xgCons, xgTup, xgSub, setL, xAsg, xPar, xAug, xSetF, PutF, xAugF, xiSeq, xiTup, xiR1, xiR2, xiEnum, xiZip, xFor, xLoop, xFrz, xFz, xYes, xLc, xLcMA, xCL, xCB, rdLen, rdSum, rdAny, rdAll, rdC2, rdC1, rdInt, rdList, rdListM, rdTup, rdTupX, rdSortI, rdSortP, rdIsi, xML, rdAppend, rdExtend, rdPopAt, rdPop, rdIndexI, xTupIx, rdIx, xoN, xoS, xSl, xSlM, xRev, xLR, xLRM, xDGet, dkK, xDPut, xVals, xDisp, xAugL, xLenSet, xSlS, scrK, startD, wipeD, List.getElem?_cons_zero, List.getElem?_cons_succ, List.set_cons_zero, List.set_cons_succ, List.map_cons, List.map_nil, List.cons_append, List.nil_append, List.append_nil, List.length_cons, List.length_nil, List.replicate_succ, List.replicate_zero, Nat.reduceSub, Nat.reduceAdd, Nat.reduceSubDiff, Nat.reduceLeDiff, decide_eq_true_eq, Bool.and_eq_true, ite_true, reduceIte, reduceCtorEq, true_and, and_true, beq_int, beq_pair, beq_ints, beq_pairs, any_il, any_pl, pl_int, pl_ints, pl_pair, pl_pairs, all_il, all_pl, tyD, List.length_map]
  rw [if_neg (by simp; omega)]
  exact ⟨row, rfl, ok.has h1 h2, rtn_all q⟩
theorem len_f_first_lifts {K : PySem.W.Frag} : ∀ es M Q E, sp_f_first_lifts K es M Q E → es.length = 1 := by
  rintro _ _ _ _ ⟨_, _, rfl, _⟩; rfl
theorem rd_f_first_lifts {K : PySem.W.Frag} : ∀ es M Q E, sp_f_first_lifts K es M Q E → t_f_first_lifts K { nx := fun _ M => Rtn Q .non M, rt := Rtn Q } (startD nm_f_first_lifts es) M := by
  rintro _ M Q _ ⟨n, row, rfl, rfl, ok, q⟩
  have hl := ok.len
  have hn := ok.hi
  have hn3 := ok.lo
  repeat (first | ((conv => whnf); refine ⟨_, rfl, ?_⟩) | ((conv => whnf); refine ⟨_, _, rfl, ?_⟩) | ((conv => whnf); refine ⟨_, _, _, rfl, ?_⟩) | ((conv => whnf); refine ⟨_, _, _, _, rfl, ?_⟩) | ((conv => whnf); refine DL.exn 0 ⟨_, rfl, ?_⟩) | ((conv => whnf); refine DL.exn 1 ⟨_, rfl, ?_⟩) | ((conv => whnf); refine DL.exn 2 ⟨_, rfl, ?_⟩) | ((conv => whnf); refine DL.exn 3 ⟨_, rfl, ?_⟩) | ((conv => whnf); refine DL.exn 4 ⟨_, rfl, ?_⟩) | ((conv => whnf); refine DL.exn 5 ⟨_, rfl, ?_⟩) | ((conv => whnf); refine DL.exn 0 ⟨_, _, rfl, rfl, ?_⟩) | ((conv => whnf); refine DL.exn 1 ⟨_, _, rfl, rfl, ?_⟩) | ((conv => whnf); refine DL.exn 2 ⟨_, _, rfl, rfl, ?_⟩) | ((conv => whnf); refine DL.exn 3 ⟨_, _, rfl, rfl, ?_⟩) | ((conv => whnf); refine DL.exn 4 ⟨_, _, rfl, rfl, ?_⟩) | ((conv => whnf); refine DL.exn 5 ⟨_, _, rfl, rfl, ?_⟩) | ((conv => whnf); refine DL.exn 0 ⟨_, _, rfl, ?_⟩) | ((conv => whnf); refine DL.exn 1 ⟨_, _, rfl, ?_⟩) | ((conv => whnf); refine DL.exn 2 ⟨_, _, rfl, ?_⟩) | ((conv => whnf); refine DL.exn 3 ⟨_, _, rfl, ?_⟩) | ((conv => whnf); refine DL.exn 4 ⟨_, _, rfl, ?_⟩) | ((conv => whnf); refine DL.exn 5 ⟨_, _, rfl, ?_⟩) | ((conv => whnf); refine DL.exn 0 ⟨_, _, _, rfl, rfl, ?_⟩) | ((conv => whnf); refine DL.exn 1 ⟨_, _, _, rfl, rfl, ?_⟩) | ((conv => whnf); refine DL.exn 2 ⟨_, _, _, rfl, rfl, ?_⟩) | ((conv => whnf); refine DL.exn 3 ⟨_, _, _, rfl, rfl, ?_⟩) | ((conv => whnf); refine DL.exn 4 ⟨_, _, _, rfl, rfl, ?_⟩) | ((conv => whnf); refine DL.exn 5 ⟨_, _, _, rfl, rfl, ?_⟩) | ((conv => whnf); refine Or.inl ⟨by decide, by decide, ?_⟩) | ((conv => whnf); refine Or.inr ⟨_, rfl, by decide, ?_⟩) | ((conv => whnf); refine And.intro (by first | assumption | rfl | decide | omega | exact ⟨rfl, by decide⟩ | exact ⟨rfl, rfl⟩ | exact small_ok (by omega) (by omega) | exact ⟨small_ok (by omega) (by omega), small_ok (by omega) (by omega)⟩ | exact cdiv_ok (by omega) (by omega) | exact cpow_ok (by omega) (by omega) (by omega) (by omega) | decide +kernel) ?_))
  refine ⟨by rw [rng_len]; omega, fun a => ?_⟩
  refine cl_map (fun d => match d with | .int i => .int (row.idxOf i : Nat) | d => d) (fun d hd k hk => ?_) ?_
  · obtain ⟨i, rfl, h1, h2⟩ := rng_mem hd
    simp only [xSeq, xSet, xIfS, xNext, xRet, xRetN, xDrop, xNever, xBreak, xCont, xOp, xB, blK, xVar, xC, xTru, truK, xAnd, xOr, xNot, xAndV, xOrV, xNotV, xIf, xNil, xCons, xTup, xLst, xLstM, xCall, xCallP, xCallK, gSel, xMeth, xMethP, insK, xMake, xMakeM, xFld, fldK, getK, rdAdd, rdI, rdI0, rdB0, rdMul, rdEqA, viewK, ownK, seqK, lstK, tupK, tupxK, ixK, rdIsN, isN, rdIn, xChain, xUn, xgName, xgNil, xgCons, xgTup, xgSub, setL, xAsg, xPar, xAug, xSetF, PutF, xAugF, xiSeq, xiTup, xiR1, xiR2, xiEnum, xiZip, xFor, xLoop, xFrz, xFz, xYes, xLc, xLcMA, xCL, xCB, rdLen, rdSum, rdAny, rdAll, rdC2, rdC1, rdInt, rdList, rdListM, rdTup, rdTupX, rdSortI, rdSortP, rdIsi, xML, rdAppend, rdExtend, rdPopAt, rdPop, rdIndexI, xTupIx, rdIx, xoN, xoS, xSl, xSlM, xRev, xLR, xLRM, xDGet, dkK, xDPut, xVals, xDisp, xAugL, xLenSet, xSlS, scrK, startD, wipeD, List.getElem?_cons_zero, List.getElem?_cons_succ, List.set_cons_zero, List.set_cons_succ, List.map_cons, List.map_nil, List.cons_append, List.nil_append, List.append_nil, List.length_cons, List.length_nil, List.replicate_succ, List.replicate_zero, Nat.reduceSub, Nat.reduceAdd, Nat.reduceSubDiff, Nat.reduceLeDiff, decide_eq_true_eq, Bool.and_eq_true, ite_true, reduceIte, reduceCtorEq, true_and, and_true, beq_int, beq_pair, beq_ints, beq_pairs, any_il, any_pl, pl_int, pl_ints, pl_pair, pl_pairs, all_il, all_pl, tyD, List.length_map]
    refine ⟨by decide, n, row, i, rfl, ok, h1, by omega, hk⟩
  · refine rtn_all ?_
    have := q a
    rw [Int.add_comm, map_range_int]
    simpa [IL, Int.add_comm, Function.comp_def] using this
theorem len_m_Table_init {K : PySem.W.Frag} : ∀ es M Q E, sp_m_Table_init K es M Q E → es.length = 3 := by
  rintro _ _ _ _ ⟨_, _, _, _, rfl, _⟩; rfl
theorem rd_m_Table_init {K : PySem.W.Frag} : ∀ es M Q E, sp_m_Table_init K es M Q E → t_m_Table_init K { nx := fun _ M => Rtn Q .non M, rt := Rtn Q } (startD nm_m_Table_init es) M := by
  rintro _ M Q _ ⟨a, n, ps, row, rfl, rfl, ok, q⟩
  have hl := ok.len
  repeat (first | ((conv => whnf); refine ⟨_, rfl, ?_⟩) | ((conv => whnf); refine ⟨_, _, rfl, ?_⟩) | ((conv => whnf); refine ⟨_, _, _, rfl, ?_⟩) | ((conv => whnf); refine ⟨_, _, _, _, rfl, ?_⟩) | ((conv => whnf); refine DL.exn 0 ⟨_, rfl, ?_⟩) | ((conv => whnf); refine DL.exn 1 ⟨_, rfl, ?_⟩) | ((conv => whnf); refine DL.exn 2 ⟨_, rfl, ?_⟩) | ((conv => whnf); refine DL.exn 3 ⟨_, rfl, ?_⟩) | ((conv => whnf); refine DL.exn 4 ⟨_, rfl, ?_⟩) | ((conv => whnf); refine DL.exn 5 ⟨_, rfl, ?_⟩) | ((conv => whnf); refine DL.exn 0 ⟨_, _, rfl, rfl, ?_⟩) | ((conv => whnf); refine DL.exn 1 ⟨_, _, rfl, rfl, ?_⟩) | ((conv => whnf); refine DL.exn 2 ⟨_, _, rfl, rfl, ?_⟩) | ((conv => whnf); refine DL.exn 3 ⟨_, _, rfl, rfl, ?_⟩) | ((conv => whnf); refine DL.exn 4 ⟨_, _, rfl, rfl, ?_⟩) | ((conv => whnf); refine DL.exn 5 ⟨_, _, rfl, rfl, ?_⟩) | ((conv => whnf); refine DL.exn 0 ⟨_, _, rfl, ?_⟩) | ((conv => whnf); refine DL.exn 1 ⟨_, _, rfl, ?_⟩) | ((conv => whnf); refine DL.exn 2 ⟨_, _, rfl, ?_⟩) | ((conv => whnf); refine DL.exn 3 ⟨_, _, rfl, ?_⟩) | ((conv => whnf); refine DL.exn 4 ⟨_, _, rfl, ?_⟩) | ((conv => whnf); refine DL.exn 5 ⟨_, _, rfl, ?_⟩) | ((conv => whnf); refine DL.exn 0 ⟨_, _, _, rfl, rfl, ?_⟩) | ((conv => whnf); refine DL.exn 1 ⟨_, _, _, rfl, rfl, ?_⟩) | ((conv => whnf); refine DL.exn 2 ⟨_, _, _, rfl, rfl, ?_⟩) | ((conv => whnf); refine DL.exn 3 ⟨_, _, _, rfl, rfl, ?_⟩) | ((conv => whnf); refine DL.exn 4 ⟨_, _, _, rfl, rfl, ?_⟩) | ((conv => whnf); refine DL.exn 5 ⟨_, _, _, rfl, rfl, ?_⟩) | ((conv => whnf); refine Or.inl ⟨by decide, by decide, ?_⟩) | ((conv => whnf); refine Or.inr ⟨_, rfl, by decide, ?_⟩) | ((conv => whnf); refine And.intro (by first | assumption | rfl | decide | omega | exact ⟨rfl, by decide⟩ | exact ⟨rfl, rfl⟩ | exact small_ok (by omega) (by omega) | exact ⟨small_ok (by omega) (by omega), small_ok (by omega) (by omega)⟩ | exact cdiv_ok (by omega) (by omega) | exact cpow_ok (by omega) (by omega) (by omega) (by omega) | decide +kernel) ?_))
  refine ⟨n, row, rfl, rfl, ok, fun c => ?_⟩
  repeat (first | ((conv => whnf); refine ⟨_, rfl, ?_⟩) | ((conv => whnf); refine ⟨_, _, rfl, ?_⟩) | ((conv => whnf); refine ⟨_, _, _, rfl, ?_⟩) | ((conv => whnf); refine ⟨_, _, _, _, rfl, ?_⟩) | ((conv => whnf); refine DL.exn 0 ⟨_, rfl, ?_⟩) | ((conv => whnf); refine DL.exn 1 ⟨_, rfl, ?_⟩) | ((conv => whnf); refine DL.exn 2 ⟨_, rfl, ?_⟩) | ((conv => whnf); refine DL.exn 3 ⟨_, rfl, ?_⟩) | ((conv => whnf); refine DL.exn 4 ⟨_, rfl, ?_⟩) | ((conv => whnf); refine DL.exn 5 ⟨_, rfl, ?_⟩) | ((conv => whnf); refine DL.exn 0 ⟨_, _, rfl, rfl, ?_⟩) | ((conv => whnf); refine DL.exn 1 ⟨_, _, rfl, rfl, ?_⟩) | ((conv => whnf); refine DL.exn 2 ⟨_, _, rfl, rfl, ?_⟩) | ((conv => whnf); refine DL.exn 3 ⟨_, _, rfl, rfl, ?_⟩) | ((conv => whnf); refine DL.exn 4 ⟨_, _, rfl, rfl, ?_⟩) | ((conv => whnf); refine DL.exn 5 ⟨_, _, rfl, rfl, ?_⟩) | ((conv => whnf); refine DL.exn 0 ⟨_, _, rfl, ?_⟩) | ((conv => whnf); refine DL.exn 1 ⟨_, _, rfl, ?_⟩) | ((conv => whnf); refine DL.exn 2 ⟨_, _, rfl, ?_⟩) | ((conv => whnf); refine DL.exn 3 ⟨_, _, rfl, ?_⟩) | ((conv => whnf); refine DL.exn 4 ⟨_, _, rfl, ?_⟩) | ((conv => whnf); refine DL.exn 5 ⟨_, _, rfl, ?_⟩) | ((conv => whnf); refine DL.exn 0 ⟨_, _, _, rfl, rfl, ?_⟩) | ((conv => whnf); refine DL.exn 1 ⟨_, _, _, rfl, rfl, ?_⟩) | ((conv => whnf); refine DL.exn 2 ⟨_, _, _, rfl, rfl, ?_⟩) | ((conv => whnf); refine DL.exn 3 ⟨_, _, _, rfl, rfl, ?_⟩) | ((conv => whnf); refine DL.exn 4 ⟨_, _, _, rfl, rfl, ?_⟩) | ((conv => whnf); refine DL.exn 5 ⟨_, _, _, rfl, rfl, ?_⟩) | ((conv => whnf); refine Or.inl ⟨by decide, by decide, ?_⟩) | ((conv => whnf); refine Or.inr ⟨_, rfl, by decide, ?_⟩) | ((conv => whnf); refine And.intro (by first | assumption | rfl | decide | omega | exact ⟨rfl, by decide⟩ | exact ⟨rfl, rfl⟩ | exact small_ok (by omega) (by omega) | exact ⟨small_ok (by omega) (by omega), small_ok (by omega) (by omega)⟩ | exact cdiv_ok (by omega) (by omega) | exact cpow_ok (by omega) (by omega) (by omega) (by omega) | decide +kernel) ?_))
  exact rtn_at [1, 0] rfl (q c)
theorem len_m_Table_lifts {K : PySem.W.Frag} : ∀ es M Q E, sp_m_Table_lifts K es M Q E → es.length = 1 := by
  rintro _ _ _ _ ⟨_, _, _, _, _, _, _, rfl, _⟩; rfl
theorem rd_m_Table_lifts {K : PySem.W.Frag} : ∀ es M Q E, sp_m_Table_lifts K es M Q E → t_m_Table_lifts K { nx := fun _ M => Rtn Q .non M, rt := Rtn Q } (startD nm_m_Table_lifts es) M := by
  rintro _ M Q _ ⟨t, cc, n, ps, row, made, hs, rfl, rfl, q⟩
  repeat (first | ((conv => whnf); refine ⟨_, rfl, ?_⟩) | ((conv => whnf); refine ⟨_, _, rfl, ?_⟩) | ((conv => whnf); refine ⟨_, _, _, rfl, ?_⟩) | ((conv => whnf); refine ⟨_, _, _, _, rfl, ?_⟩) | ((conv => whnf); refine DL.exn 0 ⟨_, rfl, ?_⟩) | ((conv => whnf); refine DL.exn 1 ⟨_, rfl, ?_⟩) | ((conv => whnf); refine DL.exn 2 ⟨_, rfl, ?_⟩) | ((conv => whnf); refine DL.exn 3 ⟨_, rfl, ?_⟩) | ((conv => whnf); refine DL.exn 4 ⟨_, rfl, ?_⟩) | ((conv => whnf); refine DL.exn 5 ⟨_, rfl, ?_⟩) | ((conv => whnf); refine DL.exn 0 ⟨_, _, rfl, rfl, ?_⟩) | ((conv => whnf); refine DL.exn 1 ⟨_, _, rfl, rfl, ?_⟩) | ((conv => whnf); refine DL.exn 2 ⟨_, _, rfl, rfl, ?_⟩) | ((conv => whnf); refine DL.exn 3 ⟨_, _, rfl, rfl, ?_⟩) | ((conv => whnf); refine DL.exn 4 ⟨_, _, rfl, rfl, ?_⟩) | ((conv => whnf); refine DL.exn 5 ⟨_, _, rfl, rfl, ?_⟩) | ((conv => whnf); refine DL.exn 0 ⟨_, _, rfl, ?_⟩) | ((conv => whnf); refine DL.exn 1 ⟨_, _, rfl, ?_⟩) | ((conv => whnf); refine DL.exn 2 ⟨_, _, rfl, ?_⟩) | ((conv => whnf); refine DL.exn 3 ⟨_, _, rfl, ?_⟩) | ((conv => whnf); refine DL.exn 4 ⟨_, _, rfl, ?_⟩) | ((conv => whnf); refine DL.exn 5 ⟨_, _, rfl, ?_⟩) | ((conv => whnf); refine DL.exn 0 ⟨_, _, _, rfl, rfl, ?_⟩) | ((conv => whnf); refine DL.exn 1 ⟨_, _, _, rfl, rfl, ?_⟩) | ((conv => whnf); refine DL.exn 2 ⟨_, _, _, rfl, rfl, ?_⟩) | ((conv => whnf); refine DL.exn 3 ⟨_, _, _, rfl, rfl, ?_⟩) | ((conv => whnf); refine DL.exn 4 ⟨_, _, _, rfl, rfl, ?_⟩) | ((conv => whnf); refine DL.exn 5 ⟨_, _, _, rfl, rfl, ?_⟩) | ((conv => whnf); refine Or.inl ⟨by decide, by decide, ?_⟩) | ((conv => whnf); refine Or.inr ⟨_, rfl, by decide, ?_⟩) | ((conv => whnf); refine And.intro (by first | assumption | rfl | decide | omega | exact ⟨rfl, by decide⟩ | exact ⟨rfl, rfl⟩ | exact small_ok (by omega) (by omega) | exact ⟨small_ok (by omega) (by omega), small_ok (by omega) (by omega)⟩ | exact cdiv_ok (by omega) (by omega) | exact cpow_ok (by omega) (by omega) (by omega) (by omega) | decide +kernel) ?_))
  exact rtn_all q
theorem whole_yes {K : PySem.W.Frag} {i a b : Int} {M : Cells} {Q : XQ} {E : XX} (h1 : a ≤ i) (h2 : i ≤ b) (q : Q (.bl true) M) : sp_f_is_whole K [.int i, .int a, .int b] M Q E := ⟨i, a, b, rfl, by rw [decide_eq_true h1, decide_eq_true h2]; exact q⟩
theorem len_f_check_people {K : PySem.W.Frag} : ∀ es M Q E, sp_f_check_people K es M Q E → es.length = 1 := by
  rintro _ _ _ _ ⟨_, _, rfl, _⟩; rfl
theorem rd_f_check_people {K : PySem.W.Frag} : ∀ es M Q E, sp_f_check_people K es M Q E → t_f_check_people K { nx := fun _ M => Rtn Q .non M, rt := Rtn Q } (startD nm_f_check_people es) M := by
  rintro _ M Q _ ⟨n, row, rfl, ok, q⟩
  have hl := ok.len
  have h3 := ok.lo
  have h9 := ok.hi
  repeat (first | ((conv => whnf); refine ⟨_, rfl, ?_⟩) | ((conv => whnf); refine ⟨_, _, rfl, ?_⟩) | ((conv => whnf); refine ⟨_, _, _, rfl, ?_⟩) | ((conv => whnf); refine ⟨_, _, _, _, rfl, ?_⟩) | ((conv => whnf); refine DL.exn 0 ⟨_, rfl, ?_⟩) | ((conv => whnf); refine DL.exn 1 ⟨_, rfl, ?_⟩) | ((conv => whnf); refine DL.exn 2 ⟨_, rfl, ?_⟩) | ((conv => whnf); refine DL.exn 3 ⟨_, rfl, ?_⟩) | ((conv => whnf); refine DL.exn 4 ⟨_, rfl, ?_⟩) | ((conv => whnf); refine DL.exn 5 ⟨_, rfl, ?_⟩) | ((conv => whnf); refine DL.exn 0 ⟨_, _, rfl, rfl, ?_⟩) | ((conv => whnf); refine DL.exn 1 ⟨_, _, rfl, rfl, ?_⟩) | ((conv => whnf); refine DL.exn 2 ⟨_, _, rfl, rfl, ?_⟩) | ((conv => whnf); refine DL.exn 3 ⟨_, _, rfl, rfl, ?_⟩) | ((conv => whnf); refine DL.exn 4 ⟨_, _, rfl, rfl, ?_⟩) | ((conv => whnf); refine DL.exn 5 ⟨_, _, rfl, rfl, ?_⟩) | ((conv => whnf); refine DL.exn 0 ⟨_, _, rfl, ?_⟩) | ((conv => whnf); refine DL.exn 1 ⟨_, _, rfl, ?_⟩) | ((conv => whnf); refine DL.exn 2 ⟨_, _, rfl, ?_⟩) | ((conv => whnf); refine DL.exn 3 ⟨_, _, rfl, ?_⟩) | ((conv => whnf); refine DL.exn 4 ⟨_, _, rfl, ?_⟩) | ((conv => whnf); refine DL.exn 5 ⟨_, _, rfl, ?_⟩) | ((conv => whnf); refine DL.exn 0 ⟨_, _, _, rfl, rfl, ?_⟩) | ((conv => whnf); refine DL.exn 1 ⟨_, _, _, rfl, rfl, ?_⟩) | ((conv => whnf); refine DL.exn 2 ⟨_, _, _, rfl, rfl, ?_⟩) | ((conv => whnf); refine DL.exn 3 ⟨_, _, _, rfl, rfl, ?_⟩) | ((conv => whnf); refine DL.exn 4 ⟨_, _, _, rfl, rfl, ?_⟩) | ((conv => whnf); refine DL.exn 5 ⟨_, _, _, rfl, rfl, ?_⟩) | ((conv => whnf); refine Or.inl ⟨by decide, by decide, ?_⟩) | ((conv => whnf); refine Or.inr ⟨_, rfl, by decide, ?_⟩) | ((conv => whnf); refine And.intro (by first | assumption | rfl | decide | omega | exact ⟨rfl, by decide⟩ | exact ⟨rfl, rfl⟩ | exact small_ok (by omega) (by omega) | exact ⟨small_ok (by omega) (by omega), small_ok (by omega) (by omega)⟩ | exact cdiv_ok (by omega) (by omega) | exact cpow_ok (by omega) (by omega) (by omega) (by omega) | decide +kernel) ?_))
  simp only [xSeq, xSet, xIfS, xNext, xRet, xRetN, xDrop, xNever, xBreak, xCont, xOp, xB, blK, xVar, xC, xTru, truK, xAnd, xOr, xNot, xAndV, xOrV, xNotV, xIf, xNil, xCons, xTup, xLst, xLstM, xCall, xCallP, xCallK, gSel, xMeth, xMethP, insK, xMake, xMakeM, xFld, fldK, getK, rdAdd, rdI, rdI0, rdB0, rdMul, rdEqA, viewK, ownK, seqK, lstK, tupK, tupxK, ixK, rdIsN, isN, rdIn, xChain, xUn, xgName, xgNil, xgCons, xgTup, xgSub, setL, xAsg, xPar, xAug, xSetF, PutF, xAugF, xiSeq, xiTup, xiR1, xiR2, xiEnum, xiZip, xFor, xLoop, xFrz, xFz, xYes, xLc, xLcMA, xCL, xCB, rdLen, rdSum, rdAny, rdAll, rdC2, rdC1, rdInt, rdList, rdListM, rdTup, rdTupX, rdSortI, rdSortP, rdIsi, xML, rdAppend, rdExtend, rdPopAt, rdPop, rdIndexI, xTupIx, rdIx, xoN, xoS, xSl, xSlM, xRev, xLR, xLRM, xDGet, dkK, xDPut, xVals, xDisp, xAugL, xLenSet, xSlS, scrK, startD, wipeD, List.getElem?_cons_zero, List.getElem?_cons_succ, List.set_cons_zero, List.set_cons_succ, List.map_cons, List.map_nil, List.cons_append, List.nil_append, List.append_nil, List.length_cons, List.length_nil, List.replicate_succ, List.replicate_zero, Nat.reduceSub, Nat.reduceAdd, Nat.reduceSubDiff, Nat.reduceLeDiff, decide_eq_true_eq, Bool.and_eq_true, ite_true, reduceIte, reduceCtorEq, true_and, and_true, beq_int, beq_pair, beq_ints, beq_pairs, any_il, any_pl, pl_int, pl_ints, pl_pair, pl_pairs, all_il, all_pl, tyD, List.length_map]
  rw [if_neg (by decide), if_pos (by omega), if_neg (by simp; omega)]
  refine ⟨by omega, cl_map (fun _ => .bl true) (fun d hd k hk => ?_) ?_⟩
  · obtain ⟨i, hi, rfl⟩ := List.mem_map.mp hd
    have := ok.mem i hi
    simp only [xSeq, xSet, xIfS, xNext, xRet, xRetN, xDrop, xNever, xBreak, xCont, xOp, xB, blK, xVar, xC, xTru, truK, xAnd, xOr, xNot, xAndV, xOrV, xNotV, xIf, xNil, xCons, xTup, xLst, xLstM, xCall, xCallP, xCallK, gSel, xMeth, xMethP, insK, xMake, xMakeM, xFld, fldK, getK, rdAdd, rdI, rdI0, rdB0, rdMul, rdEqA, viewK, ownK, seqK, lstK, tupK, tupxK, ixK, rdIsN, isN, rdIn, xChain, xUn, xgName, xgNil, xgCons, xgTup, xgSub, setL, xAsg, xPar, xAug, xSetF, PutF, xAugF, xiSeq, xiTup, xiR1, xiR2, xiEnum, xiZip, xFor, xLoop, xFrz, xFz, xYes, xLc, xLcMA, xCL, xCB, rdLen, rdSum, rdAny, rdAll, rdC2, rdC1, rdInt, rdList, rdListM, rdTup, rdTupX, rdSortI, rdSortP, rdIsi, xML, rdAppend, rdExtend, rdPopAt, rdPop, rdIndexI, xTupIx, rdIx, xoN, xoS, xSl, xSlM, xRev, xLR, xLRM, xDGet, dkK, xDPut, xVals, xDisp, xAugL, xLenSet, xSlS, scrK, startD, wipeD, List.getElem?_cons_zero, List.getElem?_cons_succ, List.set_cons_zero, List.set_cons_succ, List.map_cons, List.map_nil, List.cons_append, List.nil_append, List.append_nil, List.length_cons, List.length_nil, List.replicate_succ, List.replicate_zero, Nat.reduceSub, Nat.reduceAdd, Nat.reduceSubDiff, Nat.reduceLeDiff, decide_eq_true_eq, Bool.and_eq_true, ite_true, reduceIte, reduceCtorEq, true_and, and_true, beq_int, beq_pair, beq_ints, beq_pairs, any_il, any_pl, pl_int, pl_ints, pl_pair, pl_pairs, all_il, all_pl, tyD, List.length_map]
    exact whole_yes (by omega) (by omega) hk
  · refine ⟨row.map fun _ => true, by simp [IL, Function.comp_def], ?_⟩
    rw [if_neg (by simp)]
    refine ⟨row, rfl, ok.nd, by omega, ?_⟩
    rw [if_neg (by omega)]
    exact rtn_all q
theorem len_m_Seating_init {K : PySem.W.Frag} : ∀ es M Q E, sp_m_Seating_init K es M Q E → es.length = 2 := by
  rintro _ _ _ _ ⟨_, _, _, rfl, _⟩; rfl
theorem rd_m_Seating_init {K : PySem.W.Frag} : ∀ es M Q E, sp_m_Seating_init K es M Q E → t_m_Seating_init K { nx := fun _ M => Rtn Q .non M, rt := Rtn Q } (startD nm_m_Seating_init es) M := by
  rintro _ M Q _ ⟨a, n, row, rfl, rfl, ok, q⟩
  repeat (first | ((conv => whnf); refine ⟨_, rfl, ?_⟩) | ((conv => whnf); refine ⟨_, _, rfl, ?_⟩) | ((conv => whnf); refine ⟨_, _, _, rfl, ?_⟩) | ((conv => whnf); refine ⟨_, _, _, _, rfl, ?_⟩) | ((conv => whnf); refine DL.exn 0 ⟨_, rfl, ?_⟩) | ((conv => whnf); refine DL.exn 1 ⟨_, rfl, ?_⟩) | ((conv => whnf); refine DL.exn 2 ⟨_, rfl, ?_⟩) | ((conv => whnf); refine DL.exn 3 ⟨_, rfl, ?_⟩) | ((conv => whnf); refine DL.exn 4 ⟨_, rfl, ?_⟩) | ((conv => whnf); refine DL.exn 5 ⟨_, rfl, ?_⟩) | ((conv => whnf); refine DL.exn 0 ⟨_, _, rfl, rfl, ?_⟩) | ((conv => whnf); refine DL.exn 1 ⟨_, _, rfl, rfl, ?_⟩) | ((conv => whnf); refine DL.exn 2 ⟨_, _, rfl, rfl, ?_⟩) | ((conv => whnf); refine DL.exn 3 ⟨_, _, rfl, rfl, ?_⟩) | ((conv => whnf); refine DL.exn 4 ⟨_, _, rfl, rfl, ?_⟩) | ((conv => whnf); refine DL.exn 5 ⟨_, _, rfl, rfl, ?_⟩) | ((conv => whnf); refine DL.exn 0 ⟨_, _, rfl, ?_⟩) | ((conv => whnf); refine DL.exn 1 ⟨_, _, rfl, ?_⟩) | ((conv => whnf); refine DL.exn 2 ⟨_, _, rfl, ?_⟩) | ((conv => whnf); refine DL.exn 3 ⟨_, _, rfl, ?_⟩) | ((conv => whnf); refine DL.exn 4 ⟨_, _, rfl, ?_⟩) | ((conv => whnf); refine DL.exn 5 ⟨_, _, rfl, ?_⟩) | ((conv => whnf); refine DL.exn 0 ⟨_, _, _, rfl, rfl, ?_⟩) | ((conv => whnf); refine DL.exn 1 ⟨_, _, _, rfl, rfl, ?_⟩) | ((conv => whnf); refine DL.exn 2 ⟨_, _, _, rfl, rfl, ?_⟩) | ((conv => whnf); refine DL.exn 3 ⟨_, _, _, rfl, rfl, ?_⟩) | ((conv => whnf); refine DL.exn 4 ⟨_, _, _, rfl, rfl, ?_⟩) | ((conv => whnf); refine DL.exn 5 ⟨_, _, _, rfl, rfl, ?_⟩) | ((conv => whnf); refine Or.inl ⟨by decide, by decide, ?_⟩) | ((conv => whnf); refine Or.inr ⟨_, rfl, by decide, ?_⟩) | ((conv => whnf); refine And.intro (by first | assumption | rfl | decide | omega | exact ⟨rfl, by decide⟩ | exact ⟨rfl, rfl⟩ | exact small_ok (by omega) (by omega) | exact ⟨small_ok (by omega) (by omega), small_ok (by omega) (by omega)⟩ | exact cdiv_ok (by omega) (by omega) | exact cpow_ok (by omega) (by omega) (by omega) (by omega) | decide +kernel) ?_))
  refine ⟨n, row, rfl, ok, ?_⟩
  repeat (first | ((conv => whnf); refine ⟨_, rfl, ?_⟩) | ((conv => whnf); refine ⟨_, _, rfl, ?_⟩) | ((conv => whnf); refine ⟨_, _, _, rfl, ?_⟩) | ((conv => whnf); refine ⟨_, _, _, _, rfl, ?_⟩) | ((conv => whnf); refine DL.exn 0 ⟨_, rfl, ?_⟩) | ((conv => whnf); refine DL.exn 1 ⟨_, rfl, ?_⟩) | ((conv => whnf); refine DL.exn 2 ⟨_, rfl, ?_⟩) | ((conv => whnf); refine DL.exn 3 ⟨_, rfl, ?_⟩) | ((conv => whnf); refine DL.exn 4 ⟨_, rfl, ?_⟩) | ((conv => whnf); refine DL.exn 5 ⟨_, rfl, ?_⟩) | ((conv => whnf); refine DL.exn 0 ⟨_, _, rfl, rfl, ?_⟩) | ((conv => whnf); refine DL.exn 1 ⟨_, _, rfl, rfl, ?_⟩) | ((conv => whnf); refine DL.exn 2 ⟨_, _, rfl, rfl, ?_⟩) | ((conv => whnf); refine DL.exn 3 ⟨_, _, rfl, rfl, ?_⟩) | ((conv => whnf); refine DL.exn 4 ⟨_, _, rfl, rfl, ?_⟩) | ((conv => whnf); refine DL.exn 5 ⟨_, _, rfl, rfl, ?_⟩) | ((conv => whnf); refine DL.exn 0 ⟨_, _, rfl, ?_⟩) | ((conv => whnf); refine DL.exn 1 ⟨_, _, rfl, ?_⟩) | ((conv => whnf); refine DL.exn 2 ⟨_, _, rfl, ?_⟩) | ((conv => whnf); refine DL.exn 3 ⟨_, _, rfl, ?_⟩) | ((conv => whnf); refine DL.exn 4 ⟨_, _, rfl, ?_⟩) | ((conv => whnf); refine DL.exn 5 ⟨_, _, rfl, ?_⟩) | ((conv => whnf); refine DL.exn 0 ⟨_, _, _, rfl, rfl, ?_⟩) | ((conv => whnf); refine DL.exn 1 ⟨_, _, _, rfl, rfl, ?_⟩) | ((conv => whnf); refine DL.exn 2 ⟨_, _, _, rfl, rfl, ?_⟩) | ((conv => whnf); refine DL.exn 3 ⟨_, _, _, rfl, rfl, ?_⟩) | ((conv => whnf); refine DL.exn 4 ⟨_, _, _, rfl, rfl, ?_⟩) | ((conv => whnf); refine DL.exn 5 ⟨_, _, _, rfl, rfl, ?_⟩) | ((conv => whnf); refine Or.inl ⟨by decide, by decide, ?_⟩) | ((conv => whnf); refine Or.inr ⟨_, rfl, by decide, ?_⟩) | ((conv => whnf); refine And.intro (by first | assumption | rfl | decide | omega | exact ⟨rfl, by decide⟩ | exact ⟨rfl, rfl⟩ | exact small_ok (by omega) (by omega) | exact ⟨small_ok (by omega) (by omega), small_ok (by omega) (by omega)⟩ | exact cdiv_ok (by omega) (by omega) | exact cpow_ok (by omega) (by omega) (by omega) (by omega) | decide +kernel) ?_))
  exact rtn_all q
theorem len_f_is_pair {K : PySem.W.Frag} : ∀ es M Q E, sp_f_is_pair K es M Q E → es.length = 2 := by
  rintro _ _ _ _ ⟨_, _, _, rfl, _⟩; rfl
theorem rd_f_is_pair {K : PySem.W.Frag} : ∀ es M Q E, sp_f_is_pair K es M Q E → t_f_is_pair K { nx := fun _ M => Rtn Q .non M, rt := Rtn Q } (startD nm_f_is_pair es) M := by
  rintro _ M Q _ ⟨n, x, y, rfl, q⟩
  repeat (first | ((conv => whnf); refine ⟨_, rfl, ?_⟩) | ((conv => whnf); refine ⟨_, _, rfl, ?_⟩) | ((conv => whnf); refine ⟨_, _, _, rfl, ?_⟩) | ((conv => whnf); refine ⟨_, _, _, _, rfl, ?_⟩) | ((conv => whnf); refine DL.exn 0 ⟨_, rfl, ?_⟩) | ((conv => whnf); refine DL.exn 1 ⟨_, rfl, ?_⟩) | ((conv => whnf); refine DL.exn 2 ⟨_, rfl, ?_⟩) | ((conv => whnf); refine DL.exn 3 ⟨_, rfl, ?_⟩) | ((conv => whnf); refine DL.exn 4 ⟨_, rfl, ?_⟩) | ((conv => whnf); refine DL.exn 5 ⟨_, rfl, ?_⟩) | ((conv => whnf); refine DL.exn 0 ⟨_, _, rfl, rfl, ?_⟩) | ((conv => whnf); refine DL.exn 1 ⟨_, _, rfl, rfl, ?_⟩) | ((conv => whnf); refine DL.exn 2 ⟨_, _, rfl, rfl, ?_⟩) | ((conv => whnf); refine DL.exn 3 ⟨_, _, rfl, rfl, ?_⟩) | ((conv => whnf); refine DL.exn 4 ⟨_, _, rfl, rfl, ?_⟩) | ((conv => whnf); refine DL.exn 5 ⟨_, _, rfl, rfl, ?_⟩) | ((conv => whnf); refine DL.exn 0 ⟨_, _, rfl, ?_⟩) | ((conv => whnf); refine DL.exn 1 ⟨_, _, rfl, ?_⟩) | ((conv => whnf); refine DL.exn 2 ⟨_, _, rfl, ?_⟩) | ((conv => whnf); refine DL.exn 3 ⟨_, _, rfl, ?_⟩) | ((conv => whnf); refine DL.exn 4 ⟨_, _, rfl, ?_⟩) | ((conv => whnf); refine DL.exn 5 ⟨_, _, rfl, ?_⟩) | ((conv => whnf); refine DL.exn 0 ⟨_, _, _, rfl, rfl, ?_⟩) | ((conv => whnf); refine DL.exn 1 ⟨_, _, _, rfl, rfl, ?_⟩) | ((conv => whnf); refine DL.exn 2 ⟨_, _, _, rfl, rfl, ?_⟩) | ((conv => whnf); refine DL.exn 3 ⟨_, _, _, rfl, rfl, ?_⟩) | ((conv => whnf); refine DL.exn 4 ⟨_, _, _, rfl, rfl, ?_⟩) | ((conv => whnf); refine DL.exn 5 ⟨_, _, _, rfl, rfl, ?_⟩) | ((conv => whnf); refine Or.inl ⟨by decide, by decide, ?_⟩) | ((conv => whnf); refine Or.inr ⟨_, rfl, by decide, ?_⟩) | ((conv => whnf); refine And.intro (by first | assumption | rfl | decide | omega | exact ⟨rfl, by decide⟩ | exact ⟨rfl, rfl⟩ | exact small_ok (by omega) (by omega) | exact ⟨small_ok (by omega) (by omega), small_ok (by omega) (by omega)⟩ | exact cdiv_ok (by omega) (by omega) | exact cpow_ok (by omega) (by omega) (by omega) (by omega) | decide +kernel) ?_))
  simp only [pairD, xSeq, xSet, xIfS, xNext, xRet, xRetN, xDrop, xNever, xBreak, xCont, xOp, xB, blK, xVar, xC, xTru, truK, xAnd, xOr, xNot, xAndV, xOrV, xNotV, xIf, xNil, xCons, xTup, xLst, xLstM, xCall, xCallP, xCallK, gSel, xMeth, xMethP, insK, xMake, xMakeM, xFld, fldK, getK, rdAdd, rdI, rdI0, rdB0, rdMul, rdEqA, viewK, ownK, seqK, lstK, tupK, tupxK, ixK, rdIsN, isN, rdIn, xChain, xUn, xgName, xgNil, xgCons, xgTup, xgSub, setL, xAsg, xPar, xAug, xSetF, PutF, xAugF, xiSeq, xiTup, xiR1, xiR2, xiEnum, xiZip, xFor, xLoop, xFrz, xFz, xYes, xLc, xLcMA, xCL, xCB, rdLen, rdSum, rdAny, rdAll, rdC2, rdC1, rdInt, rdList, rdListM, rdTup, rdTupX, rdSortI, rdSortP, rdIsi, xML, rdAppend, rdExtend, rdPopAt, rdPop, rdIndexI, xTupIx, rdIx, xoN, xoS, xSl, xSlM, xRev, xLR, xLRM, xDGet, dkK, xDPut, xVals, xDisp, xAugL, xLenSet, xSlS, scrK, startD, wipeD, List.getElem?_cons_zero, List.getElem?_cons_succ, List.set_cons_zero, List.set_cons_succ, List.map_cons, List.map_nil, List.cons_append, List.nil_append, List.append_nil, List.length_cons, List.length_nil, List.replicate_succ, List.replicate_zero, Nat.reduceSub, Nat.reduceAdd, Nat.reduceSubDiff, Nat.reduceLeDiff, decide_eq_true_eq, Bool.and_eq_true, ite_true, reduceIte, reduceCtorEq, true_and, and_true, beq_int, beq_pair, beq_ints, beq_pairs, any_il, any_pl, pl_int, pl_ints, pl_pair, pl_pairs, all_il, all_pl, tyD, List.length_map]
  rw [if_neg (show ¬ ((!isT "tuple" "tuple") = true) by decide), if_neg (by simp)]
  refine ⟨x, 1, n, rfl, y, 1, n, rfl, [_, _], rfl, ?_⟩
  simp only [List.all_cons, List.all_nil, id, Bool.and_true, xSeq, xSet, xIfS, xNext, xRet, xRetN, xDrop, xNever, xBreak, xCont, xOp, xB, blK, xVar, xC, xTru, truK, xAnd, xOr, xNot, xAndV, xOrV, xNotV, xIf, xNil, xCons, xTup, xLst, xLstM, xCall, xCallP, xCallK, gSel, xMeth, xMethP, insK, xMake, xMakeM, xFld, fldK, getK, rdAdd, rdI, rdI0, rdB0, rdMul, rdEqA, viewK, ownK, seqK, lstK, tupK, tupxK, ixK, rdIsN, isN, rdIn, xChain, xUn, xgName, xgNil, xgCons, xgTup, xgSub, setL, xAsg, xPar, xAug, xSetF, PutF, xAugF, xiSeq, xiTup, xiR1, xiR2, xiEnum, xiZip, xFor, xLoop, xFrz, xFz, xYes, xLc, xLcMA, xCL, xCB, rdLen, rdSum, rdAny, rdAll, rdC2, rdC1, rdInt, rdList, rdListM, rdTup, rdTupX, rdSortI, rdSortP, rdIsi, xML, rdAppend, rdExtend, rdPopAt, rdPop, rdIndexI, xTupIx, rdIx, xoN, xoS, xSl, xSlM, xRev, xLR, xLRM, xDGet, dkK, xDPut, xVals, xDisp, xAugL, xLenSet, xSlS, scrK, startD, wipeD, List.getElem?_cons_zero, List.getElem?_cons_succ, List.set_cons_zero, List.set_cons_succ, List.map_cons, List.map_nil, List.cons_append, List.nil_append, List.append_nil, List.length_cons, List.length_nil, List.replicate_succ, List.replicate_zero, Nat.reduceSub, Nat.reduceAdd, Nat.reduceSubDiff, Nat.reduceLeDiff, decide_eq_true_eq, Bool.and_eq_true, ite_true, reduceIte, reduceCtorEq, true_and, and_true, beq_int, beq_pair, beq_ints, beq_pairs, any_il, any_pl, pl_int, pl_ints, pl_pair, pl_pairs, all_il, all_pl, tyD, List.length_map]
  split
  · rename_i h
    refine ⟨_, rfl, _, rfl, ?_⟩
    have : (decide (1 ≤ x) && decide (x ≤ n) && (decide (1 ≤ y) && decide (y ≤ n))) = true := by simpa using h
    rw [this, Bool.true_and] at q
    exact rtn_all q
  · rename_i h
    have : (decide (1 ≤ x) && decide (x ≤ n) && (decide (1 ≤ y) && decide (y ≤ n))) = false := by simpa using h
    rw [this, Bool.false_and] at q
    exact rtn_all q
theorem len_m_Book_init {K : PySem.W.Frag} : ∀ es M Q E, sp_m_Book_init K es M Q E → es.length = 3 := by
  rintro _ _ _ _ ⟨_, _, _, rfl, _⟩; rfl
theorem rd_m_Book_init {K : PySem.W.Frag} : ∀ es M Q E, sp_m_Book_init K es M Q E → t_m_Book_init K { nx := fun _ M => Rtn Q .non M, rt := Rtn Q } (startD nm_m_Book_init es) M := by
  rintro _ M Q _ ⟨a, n, ps, rfl, rfl, ok, hz, q⟩
  have h3 := ok.lo
  have h9 := ok.hi
  repeat (first | ((conv => whnf); refine ⟨_, rfl, ?_⟩) | ((conv => whnf); refine ⟨_, _, rfl, ?_⟩) | ((conv => whnf); refine ⟨_, _, _, rfl, ?_⟩) | ((conv => whnf); refine ⟨_, _, _, _, rfl, ?_⟩) | ((conv => whnf); refine DL.exn 0 ⟨_, rfl, ?_⟩) | ((conv => whnf); refine DL.exn 1 ⟨_, rfl, ?_⟩) | ((conv => whnf); refine DL.exn 2 ⟨_, rfl, ?_⟩) | ((conv => whnf); refine DL.exn 3 ⟨_, rfl, ?_⟩) | ((conv => whnf); refine DL.exn 4 ⟨_, rfl, ?_⟩) | ((conv => whnf); refine DL.exn 5 ⟨_, rfl, ?_⟩) | ((conv => whnf); refine DL.exn 0 ⟨_, _, rfl, rfl, ?_⟩) | ((conv => whnf); refine DL.exn 1 ⟨_, _, rfl, rfl, ?_⟩) | ((conv => whnf); refine DL.exn 2 ⟨_, _, rfl, rfl, ?_⟩) | ((conv => whnf); refine DL.exn 3 ⟨_, _, rfl, rfl, ?_⟩) | ((conv => whnf); refine DL.exn 4 ⟨_, _, rfl, rfl, ?_⟩) | ((conv => whnf); refine DL.exn 5 ⟨_, _, rfl, rfl, ?_⟩) | ((conv => whnf); refine DL.exn 0 ⟨_, _, rfl, ?_⟩) | ((conv => whnf); refine DL.exn 1 ⟨_, _, rfl, ?_⟩) | ((conv => whnf); refine DL.exn 2 ⟨_, _, rfl, ?_⟩) | ((conv => whnf); refine DL.exn 3 ⟨_, _, rfl, ?_⟩) | ((conv => whnf); refine DL.exn 4 ⟨_, _, rfl, ?_⟩) | ((conv => whnf); refine DL.exn 5 ⟨_, _, rfl, ?_⟩) | ((conv => whnf); refine DL.exn 0 ⟨_, _, _, rfl, rfl, ?_⟩) | ((conv => whnf); refine DL.exn 1 ⟨_, _, _, rfl, rfl, ?_⟩) | ((conv => whnf); refine DL.exn 2 ⟨_, _, _, rfl, rfl, ?_⟩) | ((conv => whnf); refine DL.exn 3 ⟨_, _, _, rfl, rfl, ?_⟩) | ((conv => whnf); refine DL.exn 4 ⟨_, _, _, rfl, rfl, ?_⟩) | ((conv => whnf); refine DL.exn 5 ⟨_, _, _, rfl, rfl, ?_⟩) | ((conv => whnf); refine Or.inl ⟨by decide, by decide, ?_⟩) | ((conv => whnf); refine Or.inr ⟨_, rfl, by decide, ?_⟩) | ((conv => whnf); refine And.intro (by first | assumption | rfl | decide | omega | exact ⟨rfl, by decide⟩ | exact ⟨rfl, rfl⟩ | exact small_ok (by omega) (by omega) | exact ⟨small_ok (by omega) (by omega), small_ok (by omega) (by omega)⟩ | exact cdiv_ok (by omega) (by omega) | exact cpow_ok (by omega) (by omega) (by omega) (by omega) | decide +kernel) ?_))
  simp only [xSeq, xSet, xIfS, xNext, xRet, xRetN, xDrop, xNever, xBreak, xCont, xOp, xB, blK, xVar, xC, xTru, truK, xAnd, xOr, xNot, xAndV, xOrV, xNotV, xIf, xNil, xCons, xTup, xLst, xLstM, xCall, xCallP, xCallK, gSel, xMeth, xMethP, insK, xMake, xMakeM, xFld, fldK, getK, rdAdd, rdI, rdI0, rdB0, rdMul, rdEqA, viewK, ownK, seqK, lstK, tupK, tupxK, ixK, rdIsN, isN, rdIn, xChain, xUn, xgName, xgNil, xgCons, xgTup, xgSub, setL, xAsg, xPar, xAug, xSetF, PutF, xAugF, xiSeq, xiTup, xiR1, xiR2, xiEnum, xiZip, xFor, xLoop, xFrz, xFz, xYes, xLc, xLcMA, xCL, xCB, rdLen, rdSum, rdAny, rdAll, rdC2, rdC1, rdInt, rdList, rdListM, rdTup, rdTupX, rdSortI, rdSortP, rdIsi, xML, rdAppend, rdExtend, rdPopAt, rdPop, rdIndexI, xTupIx, rdIx, xoN, xoS, xSl, xSlM, xRev, xLR, xLRM, xDGet, dkK, xDPut, xVals, xDisp, xAugL, xLenSet, xSlS, scrK, startD, wipeD, List.getElem?_cons_zero, List.getElem?_cons_succ, List.set_cons_zero, List.set_cons_succ, List.map_cons, List.map_nil, List.cons_append, List.nil_append, List.append_nil, List.length_cons, List.length_nil, List.replicate_succ, List.replicate_zero, Nat.reduceSub, Nat.reduceAdd, Nat.reduceSubDiff, Nat.reduceLeDiff, decide_eq_true_eq, Bool.and_eq_true, ite_true, reduceIte, reduceCtorEq, true_and, and_true, beq_int, beq_pair, beq_ints, beq_pairs, any_il, any_pl, pl_int, pl_ints, pl_pair, pl_pairs, all_il, all_pl, tyD, List.length_map]
  rw [if_neg (by simp; omega)]
  refine ⟨_, rfl, by decide, ?_⟩
  rw [if_neg (by decide)]
  refine loop_ind (fun its ds M => ∃ (qs : List (Int × Int)) (i : Nat) (x y : Option D), its = DL.numbered i (PL qs) ∧ ps.drop i = qs ∧ ds = [some (.ref a), some (.int n), some (.lst (PL ps)), x, y] ∧ M = [(a, .ins (He.ga K "Book") [] [])]) ?_ ?_ ⟨ps, 0, none, none, rfl, rfl, rfl, rfl⟩
  · rintro _ _ ⟨qs, i, x, y, e, hd, rfl, rfl⟩
    repeat (first | ((conv => whnf); refine ⟨_, rfl, ?_⟩) | ((conv => whnf); refine ⟨_, _, rfl, ?_⟩) | ((conv => whnf); refine ⟨_, _, _, rfl, ?_⟩) | ((conv => whnf); refine ⟨_, _, _, _, rfl, ?_⟩) | ((conv => whnf); refine DL.exn 0 ⟨_, rfl, ?_⟩) | ((conv => whnf); refine DL.exn 1 ⟨_, rfl, ?_⟩) | ((conv => whnf); refine DL.exn 2 ⟨_, rfl, ?_⟩) | ((conv => whnf); refine DL.exn 3 ⟨_, rfl, ?_⟩) | ((conv => whnf); refine DL.exn 4 ⟨_, rfl, ?_⟩) | ((conv => whnf); refine DL.exn 5 ⟨_, rfl, ?_⟩) | ((conv => whnf); refine DL.exn 0 ⟨_, _, rfl, rfl, ?_⟩) | ((conv => whnf); refine DL.exn 1 ⟨_, _, rfl, rfl, ?_⟩) | ((conv => whnf); refine DL.exn 2 ⟨_, _, rfl, rfl, ?_⟩) | ((conv => whnf); refine DL.exn 3 ⟨_, _, rfl, rfl, ?_⟩) | ((conv => whnf); refine DL.exn 4 ⟨_, _, rfl, rfl, ?_⟩) | ((conv => whnf); refine DL.exn 5 ⟨_, _, rfl, rfl, ?_⟩) | ((conv => whnf); refine DL.exn 0 ⟨_, _, rfl, ?_⟩) | ((conv => whnf); refine DL.exn 1 ⟨_, _, rfl, ?_⟩) | ((conv => whnf); refine DL.exn 2 ⟨_, _, rfl, ?_⟩) | ((conv => whnf); refine DL.exn 3 ⟨_, _, rfl, ?_⟩) | ((conv => whnf); refine DL.exn 4 ⟨_, _, rfl, ?_⟩) | ((conv => whnf); refine DL.exn 5 ⟨_, _, rfl, ?_⟩) | ((conv => whnf); refine DL.exn 0 ⟨_, _, _, rfl, rfl, ?_⟩) | ((conv => whnf); refine DL.exn 1 ⟨_, _, _, rfl, rfl, ?_⟩) | ((conv => whnf); refine DL.exn 2 ⟨_, _, _, rfl, rfl, ?_⟩) | ((conv => whnf); refine DL.exn 3 ⟨_, _, _, rfl, rfl, ?_⟩) | ((conv => whnf); refine DL.exn 4 ⟨_, _, _, rfl, rfl, ?_⟩) | ((conv => whnf); refine DL.exn 5 ⟨_, _, _, rfl, rfl, ?_⟩) | ((conv => whnf); refine Or.inl ⟨by decide, by decide, ?_⟩) | ((conv => whnf); refine Or.inr ⟨_, rfl, by decide, ?_⟩) | ((conv => whnf); refine And.intro (by first | assumption | rfl | decide | omega | exact ⟨rfl, by decide⟩ | exact ⟨rfl, rfl⟩ | exact small_ok (by omega) (by omega) | exact ⟨small_ok (by omega) (by omega), small_ok (by omega) (by omega)⟩ | exact cdiv_ok (by omega) (by omega) | exact cpow_ok (by omega) (by omega) (by omega) (by omega) | decide +kernel) ?_))
    intro rs hp _
    repeat (first | ((conv => whnf); refine ⟨_, rfl, ?_⟩) | ((conv => whnf); refine ⟨_, _, rfl, ?_⟩) | ((conv => whnf); refine ⟨_, _, _, rfl, ?_⟩) | ((conv => whnf); refine ⟨_, _, _, _, rfl, ?_⟩) | ((conv => whnf); refine DL.exn 0 ⟨_, rfl, ?_⟩) | ((conv => whnf); refine DL.exn 1 ⟨_, rfl, ?_⟩) | ((conv => whnf); refine DL.exn 2 ⟨_, rfl, ?_⟩) | ((conv => whnf); refine DL.exn 3 ⟨_, rfl, ?_⟩) | ((conv => whnf); refine DL.exn 4 ⟨_, rfl, ?_⟩) | ((conv => whnf); refine DL.exn 5 ⟨_, rfl, ?_⟩) | ((conv => whnf); refine DL.exn 0 ⟨_, _, rfl, rfl, ?_⟩) | ((conv => whnf); refine DL.exn 1 ⟨_, _, rfl, rfl, ?_⟩) | ((conv => whnf); refine DL.exn 2 ⟨_, _, rfl, rfl, ?_⟩) | ((conv => whnf); refine DL.exn 3 ⟨_, _, rfl, rfl, ?_⟩) | ((conv => whnf); refine DL.exn 4 ⟨_, _, rfl, rfl, ?_⟩) | ((conv => whnf); refine DL.exn 5 ⟨_, _, rfl, rfl, ?_⟩) | ((conv => whnf); refine DL.exn 0 ⟨_, _, rfl, ?_⟩) | ((conv => whnf); refine DL.exn 1 ⟨_, _, rfl, ?_⟩) | ((conv => whnf); refine DL.exn 2 ⟨_, _, rfl, ?_⟩) | ((conv => whnf); refine DL.exn 3 ⟨_, _, rfl, ?_⟩) | ((conv => whnf); refine DL.exn 4 ⟨_, _, rfl, ?_⟩) | ((conv => whnf); refine DL.exn 5 ⟨_, _, rfl, ?_⟩) | ((conv => whnf); refine DL.exn 0 ⟨_, _, _, rfl, rfl, ?_⟩) | ((conv => whnf); refine DL.exn 1 ⟨_, _, _, rfl, rfl, ?_⟩) | ((conv => whnf); refine DL.exn 2 ⟨_, _, _, rfl, rfl, ?_⟩) | ((conv => whnf); refine DL.exn 3 ⟨_, _, _, rfl, rfl, ?_⟩) | ((conv => whnf); refine DL.exn 4 ⟨_, _, _, rfl, rfl, ?_⟩) | ((conv => whnf); refine DL.exn 5 ⟨_, _, _, rfl, rfl, ?_⟩) | ((conv => whnf); refine Or.inl ⟨by decide, by decide, ?_⟩) | ((conv => whnf); refine Or.inr ⟨_, rfl, by decide, ?_⟩) | ((conv => whnf); refine And.intro (by first | assumption | rfl | decide | omega | exact ⟨rfl, by decide⟩ | exact ⟨rfl, rfl⟩ | exact small_ok (by omega) (by omega) | exact ⟨small_ok (by omega) (by omega), small_ok (by omega) (by omega)⟩ | exact cdiv_ok (by omega) (by omega) | exact cpow_ok (by omega) (by omega) (by omega) (by omega) | decide +kernel) ?_))
    simp only [xSeq, xSet, xIfS, xNext, xRet, xRetN, xDrop, xNever, xBreak, xCont, xOp, xB, blK, xVar, xC, xTru, truK, xAnd, xOr, xNot, xAndV, xOrV, xNotV, xIf, xNil, xCons, xTup, xLst, xLstM, xCall, xCallP, xCallK, gSel, xMeth, xMethP, insK, xMake, xMakeM, xFld, fldK, getK, rdAdd, rdI, rdI0, rdB0, rdMul, rdEqA, viewK, ownK, seqK, lstK, tupK, tupxK, ixK, rdIsN, isN, rdIn, xChain, xUn, xgName, xgNil, xgCons, xgTup, xgSub, setL, xAsg, xPar, xAug, xSetF, PutF, xAugF, xiSeq, xiTup, xiR1, xiR2, xiEnum, xiZip, xFor, xLoop, xFrz, xFz, xYes, xLc, xLcMA, xCL, xCB, rdLen, rdSum, rdAny, rdAll, rdC2, rdC1, rdInt, rdList, rdListM, rdTup, rdTupX, rdSortI, rdSortP, rdIsi, xML, rdAppend, rdExtend, rdPopAt, rdPop, rdIndexI, xTupIx, rdIx, xoN, xoS, xSl, xSlM, xRev, xLR, xLRM, xDGet, dkK, xDPut, xVals, xDisp, xAugL, xLenSet, xSlS, scrK, startD, wipeD, List.getElem?_cons_zero, List.getElem?_cons_succ, List.set_cons_zero, List.set_cons_succ, List.map_cons, List.map_nil, List.cons_append, List.nil_append, List.append_nil, List.length_cons, List.length_nil, List.replicate_succ, List.replicate_zero, Nat.reduceSub, Nat.reduceAdd, Nat.reduceSubDiff, Nat.reduceLeDiff, decide_eq_true_eq, Bool.and_eq_true, ite_true, reduceIte, reduceCtorEq, true_and, and_true, beq_int, beq_pair, beq_ints, beq_pairs, any_il, any_pl, pl_int, pl_ints, pl_pair, pl_pairs, all_il, all_pl, tyD, List.length_map]
    exact rtn_all (q rs hp)
  · rintro d r _ _ NX ⟨qs, i, x, y, e, hd, rfl, rfl⟩ nx
    cases qs with
    | nil => cases e
    | cons p qs =>
      cases e
      have hi : i < ps.length := by
        have := congrArg List.length hd
        simp at this; omega
      have hp : p ∈ ps := List.mem_of_mem_drop (i := i) (by rw [hd]; exact List.mem_cons_self)
      have hm := ok.mem p hp
      repeat (first | ((conv => whnf); refine ⟨_, rfl, ?_⟩) | ((conv => whnf); refine ⟨_, _, rfl, ?_⟩) | ((conv => whnf); refine ⟨_, _, _, rfl, ?_⟩) | ((conv => whnf); refine ⟨_, _, _, _, rfl, ?_⟩) | ((conv => whnf); refine DL.exn 0 ⟨_, rfl, ?_⟩) | ((conv => whnf); refine DL.exn 1 ⟨_, rfl, ?_⟩) | ((conv => whnf); refine DL.exn 2 ⟨_, rfl, ?_⟩) | ((conv => whnf); refine DL.exn 3 ⟨_, rfl, ?_⟩) | ((conv => whnf); refine DL.exn 4 ⟨_, rfl, ?_⟩) | ((conv => whnf); refine DL.exn 5 ⟨_, rfl, ?_⟩) | ((conv => whnf); refine DL.exn 0 ⟨_, _, rfl, rfl, ?_⟩) | ((conv => whnf); refine DL.exn 1 ⟨_, _, rfl, rfl, ?_⟩) | ((conv => whnf); refine DL.exn 2 ⟨_, _, rfl, rfl, ?_⟩) | ((conv => whnf); refine DL.exn 3 ⟨_, _, rfl, rfl, ?_⟩) | ((conv => whnf); refine DL.exn 4 ⟨_, _, rfl, rfl, ?_⟩) | ((conv => whnf); refine DL.exn 5 ⟨_, _, rfl, rfl, ?_⟩) | ((conv => whnf); refine DL.exn 0 ⟨_, _, rfl, ?_⟩) | ((conv => whnf); refine DL.exn 1 ⟨_, _, rfl, ?_⟩) | ((conv => whnf); refine DL.exn 2 ⟨_, _, rfl, ?_⟩) | ((conv => whnf); refine DL.exn 3 ⟨_, _, rfl, ?_⟩) | ((conv => whnf); refine DL.exn 4 ⟨_, _, rfl, ?_⟩) | ((conv => whnf); refine DL.exn 5 ⟨_, _, rfl, ?_⟩) | ((conv => whnf); refine DL.exn 0 ⟨_, _, _, rfl, rfl, ?_⟩) | ((conv => whnf); refine DL.exn 1 ⟨_, _, _, rfl, rfl, ?_⟩) | ((conv => whnf); refine DL.exn 2 ⟨_, _, _, rfl, rfl, ?_⟩) | ((conv => whnf); refine DL.exn 3 ⟨_, _, _, rfl, rfl, ?_⟩) | ((conv => whnf); refine DL.exn 4 ⟨_, _, _, rfl, rfl, ?_⟩) | ((conv => whnf); refine DL.exn 5 ⟨_, _, _, rfl, rfl, ?_⟩) | ((conv => whnf); refine Or.inl ⟨by decide, by decide, ?_⟩) | ((conv => whnf); refine Or.inr ⟨_, rfl, by decide, ?_⟩) | ((conv => whnf); refine And.intro (by first | assumption | rfl | decide | omega | exact ⟨rfl, by decide⟩ | exact ⟨rfl, rfl⟩ | exact small_ok (by omega) (by omega) | exact ⟨small_ok (by omega) (by omega), small_ok (by omega) (by omega)⟩ | exact cdiv_ok (by omega) (by omega) | exact cpow_ok (by omega) (by omega) (by omega) (by omega) | decide +kernel) ?_))
      simp only [xSeq, xSet, xIfS, xNext, xRet, xRetN, xDrop, xNever, xBreak, xCont, xOp, xB, blK, xVar, xC, xTru, truK, xAnd, xOr, xNot, xAndV, xOrV, xNotV, xIf, xNil, xCons, xTup, xLst, xLstM, xCall, xCallP, xCallK, gSel, xMeth, xMethP, insK, xMake, xMakeM, xFld, fldK, getK, rdAdd, rdI, rdI0, rdB0, rdMul, rdEqA, viewK, ownK, seqK, lstK, tupK, tupxK, ixK, rdIsN, isN, rdIn, xChain, xUn, xgName, xgNil, xgCons, xgTup, xgSub, setL, xAsg, xPar, xAug, xSetF, PutF, xAugF, xiSeq, xiTup, xiR1, xiR2, xiEnum, xiZip, xFor, xLoop, xFrz, xFz, xYes, xLc, xLcMA, xCL, xCB, rdLen, rdSum, rdAny, rdAll, rdC2, rdC1, rdInt, rdList, rdListM, rdTup, rdTupX, rdSortI, rdSortP, rdIsi, xML, rdAppend, rdExtend, rdPopAt, rdPop, rdIndexI, xTupIx, rdIx, xoN, xoS, xSl, xSlM, xRev, xLR, xLRM, xDGet, dkK, xDPut, xVals, xDisp, xAugL, xLenSet, xSlS, scrK, startD, wipeD, List.getElem?_cons_zero, List.getElem?_cons_succ, List.set_cons_zero, List.set_cons_succ, List.map_cons, List.map_nil, List.cons_append, List.nil_append, List.append_nil, List.length_cons, List.length_nil, List.replicate_succ, List.replicate_zero, Nat.reduceSub, Nat.reduceAdd, Nat.reduceSubDiff, Nat.reduceLeDiff, decide_eq_true_eq, Bool.and_eq_true, ite_true, reduceIte, reduceCtorEq, true_and, and_true, beq_int, beq_pair, beq_ints, beq_pairs, any_il, any_pl, pl_int, pl_ints, pl_pair, pl_pairs, all_il, all_pl, tyD, List.length_map]
      rw [if_neg (by simp; omega)]
      repeat (first | ((conv => whnf); refine ⟨_, rfl, ?_⟩) | ((conv => whnf); refine ⟨_, _, rfl, ?_⟩) | ((conv => whnf); refine ⟨_, _, _, rfl, ?_⟩) | ((conv => whnf); refine ⟨_, _, _, _, rfl, ?_⟩) | ((conv => whnf); refine DL.exn 0 ⟨_, rfl, ?_⟩) | ((conv => whnf); refine DL.exn 1 ⟨_, rfl, ?_⟩) | ((conv => whnf); refine DL.exn 2 ⟨_, rfl, ?_⟩) | ((conv => whnf); refine DL.exn 3 ⟨_, rfl, ?_⟩) | ((conv => whnf); refine DL.exn 4 ⟨_, rfl, ?_⟩) | ((conv => whnf); refine DL.exn 5 ⟨_, rfl, ?_⟩) | ((conv => whnf); refine DL.exn 0 ⟨_, _, rfl, rfl, ?_⟩) | ((conv => whnf); refine DL.exn 1 ⟨_, _, rfl, rfl, ?_⟩) | ((conv => whnf); refine DL.exn 2 ⟨_, _, rfl, rfl, ?_⟩) | ((conv => whnf); refine DL.exn 3 ⟨_, _, rfl, rfl, ?_⟩) | ((conv => whnf); refine DL.exn 4 ⟨_, _, rfl, rfl, ?_⟩) | ((conv => whnf); refine DL.exn 5 ⟨_, _, rfl, rfl, ?_⟩) | ((conv => whnf); refine DL.exn 0 ⟨_, _, rfl, ?_⟩) | ((conv => whnf); refine DL.exn 1 ⟨_, _, rfl, ?_⟩) | ((conv => whnf); refine DL.exn 2 ⟨_, _, rfl, ?_⟩) | ((conv => whnf); refine DL.exn 3 ⟨_, _, rfl, ?_⟩) | ((conv => whnf); refine DL.exn 4 ⟨_, _, rfl, ?_⟩) | ((conv => whnf); refine DL.exn 5 ⟨_, _, rfl, ?_⟩) | ((conv => whnf); refine DL.exn 0 ⟨_, _, _, rfl, rfl, ?_⟩) | ((conv => whnf); refine DL.exn 1 ⟨_, _, _, rfl, rfl, ?_⟩) | ((conv => whnf); refine DL.exn 2 ⟨_, _, _, rfl, rfl, ?_⟩) | ((conv => whnf); refine DL.exn 3 ⟨_, _, _, rfl, rfl, ?_⟩) | ((conv => whnf); refine DL.exn 4 ⟨_, _, _, rfl, rfl, ?_⟩) | ((conv => whnf); refine DL.exn 5 ⟨_, _, _, rfl, rfl, ?_⟩) | ((conv => whnf); refine Or.inl ⟨by decide, by decide, ?_⟩) | ((conv => whnf); refine Or.inr ⟨_, rfl, by decide, ?_⟩) | ((conv => whnf); refine And.intro (by first | assumption | rfl | decide | omega | exact ⟨rfl, by decide⟩ | exact ⟨rfl, rfl⟩ | exact small_ok (by omega) (by omega) | exact ⟨small_ok (by omega) (by omega), small_ok (by omega) (by omega)⟩ | exact cdiv_ok (by omega) (by omega) | exact cpow_ok (by omega) (by omega) (by omega) (by omega) | decide +kernel) ?_))
      have hc : cutD (PL ps) none (some (i : Int)) = PL (ps.take i) := by rw [cut_take (by simp; omega)]; simp [PL, List.map_take]
      rw [hc]
      refine ⟨all_pl, ?_⟩
      have hq : p ∉ ps.take i := by
        have h1 := ok.nd
        rw [← List.take_append_drop i ps, hd] at h1
        exact fun z => (List.nodup_append.mp h1).2.2 p z p List.mem_cons_self rfl
      rw [if_neg (by rw [any_pl]; simpa using hq)]
      exact nx _ _ ⟨qs, i + 1, _, _, rfl, by rw [← List.drop_drop, hd]; rfl, rfl, rfl⟩
theorem len_g_are_apart {K : PySem.W.Frag} : ∀ es M Q E, sp_g_are_apart K es M Q E → es.length = 3 := by
  rintro _ _ _ _ ⟨_, _, _, rfl, _⟩; rfl
theorem rd_g_are_apart {K : PySem.W.Frag} : ∀ es M Q E, sp_g_are_apart K es M Q E → t_g_are_apart K { nx := fun _ M => Rtn Q .non M, rt := Rtn Q } (startD nm_g_are_apart es) M := by
  rintro _ M Q _ ⟨ps, x, y, rfl, q⟩
  simp only [t_g_are_apart, xSeq, xSet, xIfS, xNext, xRet, xRetN, xDrop, xNever, xBreak, xCont, xOp, xB, blK, xVar, xC, xTru, truK, xAnd, xOr, xNot, xAndV, xOrV, xNotV, xIf, xNil, xCons, xTup, xLst, xLstM, xCall, xCallP, xCallK, gSel, xMeth, xMethP, insK, xMake, xMakeM, xFld, fldK, getK, rdAdd, rdI, rdI0, rdB0, rdMul, rdEqA, viewK, ownK, seqK, lstK, tupK, tupxK, ixK, rdIsN, isN, rdIn, xChain, xUn, xgName, xgNil, xgCons, xgTup, xgSub, setL, xAsg, xPar, xAug, xSetF, PutF, xAugF, xiSeq, xiTup, xiR1, xiR2, xiEnum, xiZip, xFor, xLoop, xFrz, xFz, xYes, xLc, xLcMA, xCL, xCB, rdLen, rdSum, rdAny, rdAll, rdC2, rdC1, rdInt, rdList, rdListM, rdTup, rdTupX, rdSortI, rdSortP, rdIsi, xML, rdAppend, rdExtend, rdPopAt, rdPop, rdIndexI, xTupIx, rdIx, xoN, xoS, xSl, xSlM, xRev, xLR, xLRM, xDGet, dkK, xDPut, xVals, xDisp, xAugL, xLenSet, xSlS, scrK, startD, wipeD, List.getElem?_cons_zero, List.getElem?_cons_succ, List.set_cons_zero, List.set_cons_succ, List.map_cons, List.map_nil, List.cons_append, List.nil_append, List.append_nil, List.length_cons, List.length_nil, List.replicate_succ, List.replicate_zero, Nat.reduceSub, Nat.reduceAdd, Nat.reduceSubDiff, Nat.reduceLeDiff, decide_eq_true_eq, Bool.and_eq_true, ite_true, reduceIte, reduceCtorEq, true_and, and_true, beq_int, beq_pair, beq_ints, beq_pairs, any_il, any_pl, pl_int, pl_ints, pl_pair, pl_pairs, all_il, all_pl, tyD, List.length_map]
  refine ⟨pl_pair (p := mx x y), ?_⟩
  have e := any_pl (ps := ps) (p := mx x y)
  rw [show D.tup [D.int (imin x y), D.int (imax x y)] = pairD (mx x y) from rfl, e]
  exact rtn_all q
theorem len_m_Seating_who {K : PySem.W.Frag} : ∀ es M Q E, sp_m_Seating_who K es M Q E → es.length = 2 := by
  rintro _ _ _ _ ⟨_, _, _, rfl, _⟩; rfl
theorem rd_m_Seating_who {K : PySem.W.Frag} : ∀ es M Q E, sp_m_Seating_who K es M Q E → t_m_Seating_who K { nx := fun _ M => Rtn Q .non M, rt := Rtn Q } (startD nm_m_Seating_who es) M := by
  rintro _ M Q _ ⟨n, row, i, rfl, ok, h0, q⟩
  have hl := ok.len
  have h3 := ok.lo
  repeat (first | ((conv => whnf); refine ⟨_, rfl, ?_⟩) | ((conv => whnf); refine ⟨_, _, rfl, ?_⟩) | ((conv => whnf); refine ⟨_, _, _, rfl, ?_⟩) | ((conv => whnf); refine ⟨_, _, _, _, rfl, ?_⟩) | ((conv => whnf); refine DL.exn 0 ⟨_, rfl, ?_⟩) | ((conv => whnf); refine DL.exn 1 ⟨_, rfl, ?_⟩) | ((conv => whnf); refine DL.exn 2 ⟨_, rfl, ?_⟩) | ((conv => whnf); refine DL.exn 3 ⟨_, rfl, ?_⟩) | ((conv => whnf); refine DL.exn 4 ⟨_, rfl, ?_⟩) | ((conv => whnf); refine DL.exn 5 ⟨_, rfl, ?_⟩) | ((conv => whnf); refine DL.exn 0 ⟨_, _, rfl, rfl, ?_⟩) | ((conv => whnf); refine DL.exn 1 ⟨_, _, rfl, rfl, ?_⟩) | ((conv => whnf); refine DL.exn 2 ⟨_, _, rfl, rfl, ?_⟩) | ((conv => whnf); refine DL.exn 3 ⟨_, _, rfl, rfl, ?_⟩) | ((conv => whnf); refine DL.exn 4 ⟨_, _, rfl, rfl, ?_⟩) | ((conv => whnf); refine DL.exn 5 ⟨_, _, rfl, rfl, ?_⟩) | ((conv => whnf); refine DL.exn 0 ⟨_, _, rfl, ?_⟩) | ((conv => whnf); refine DL.exn 1 ⟨_, _, rfl, ?_⟩) | ((conv => whnf); refine DL.exn 2 ⟨_, _, rfl, ?_⟩) | ((conv => whnf); refine DL.exn 3 ⟨_, _, rfl, ?_⟩) | ((conv => whnf); refine DL.exn 4 ⟨_, _, rfl, ?_⟩) | ((conv => whnf); refine DL.exn 5 ⟨_, _, rfl, ?_⟩) | ((conv => whnf); refine DL.exn 0 ⟨_, _, _, rfl, rfl, ?_⟩) | ((conv => whnf); refine DL.exn 1 ⟨_, _, _, rfl, rfl, ?_⟩) | ((conv => whnf); refine DL.exn 2 ⟨_, _, _, rfl, rfl, ?_⟩) | ((conv => whnf); refine DL.exn 3 ⟨_, _, _, rfl, rfl, ?_⟩) | ((conv => whnf); refine DL.exn 4 ⟨_, _, _, rfl, rfl, ?_⟩) | ((conv => whnf); refine DL.exn 5 ⟨_, _, _, rfl, rfl, ?_⟩) | ((conv => whnf); refine Or.inl ⟨by decide, by decide, ?_⟩) | ((conv => whnf); refine Or.inr ⟨_, rfl, by decide, ?_⟩) | ((conv => whnf); refine And.intro (by first | assumption | rfl | decide | omega | exact ⟨rfl, by decide⟩ | exact ⟨rfl, rfl⟩ | exact small_ok (by omega) (by omega) | exact ⟨small_ok (by omega) (by omega), small_ok (by omega) (by omega)⟩ | exact cdiv_ok (by omega) (by omega) | exact cpow_ok (by omega) (by omega) (by omega) (by omega) | decide +kernel) ?_))
  have h1 := Int.emod_nonneg i (show n ≠ 0 by omega)
  have h2 := Int.emod_lt_of_pos i (show 0 < n by omega)
  rw [hl]
  refine ⟨_, atI_map (z := 0) h1 (by show i % n < _; omega), ?_⟩
  exact rtn_all q
theorem len_m_Book_check_person {K : PySem.W.Frag} : ∀ es M Q E, sp_m_Book_check_person K es M Q E → es.length = 2 := by
  rintro _ _ _ _ ⟨_, _, _, rfl, _⟩; rfl
theorem rd_m_Book_check_person {K : PySem.W.Frag} : ∀ es M Q E, sp_m_Book_check_person K es M Q E → t_m_Book_check_person K { nx := fun _ M => Rtn Q .non M, rt := Rtn Q } (startD nm_m_Book_check_person es) M := by
  rintro _ M Q _ ⟨n, ps, x, rfl, h1, h2, q⟩
  repeat (first | ((conv => whnf); refine ⟨_, rfl, ?_⟩) | ((conv => whnf); refine ⟨_, _, rfl, ?_⟩) | ((conv => whnf); refine ⟨_, _, _, rfl, ?_⟩) | ((conv => whnf); refine ⟨_, _, _, _, rfl, ?_⟩) | ((conv => whnf); refine DL.exn 0 ⟨_, rfl, ?_⟩) | ((conv => whnf); refine DL.exn 1 ⟨_, rfl, ?_⟩) | ((conv => whnf); refine DL.exn 2 ⟨_, rfl, ?_⟩) | ((conv => whnf); refine DL.exn 3 ⟨_, rfl, ?_⟩) | ((conv => whnf); refine DL.exn 4 ⟨_, rfl, ?_⟩) | ((conv => whnf); refine DL.exn 5 ⟨_, rfl, ?_⟩) | ((conv => whnf); refine DL.exn 0 ⟨_, _, rfl, rfl, ?_⟩) | ((conv => whnf); refine DL.exn 1 ⟨_, _, rfl, rfl, ?_⟩) | ((conv => whnf); refine DL.exn 2 ⟨_, _, rfl, rfl, ?_⟩) | ((conv => whnf); refine DL.exn 3 ⟨_, _, rfl, rfl, ?_⟩) | ((conv => whnf); refine DL.exn 4 ⟨_, _, rfl, rfl, ?_⟩) | ((conv => whnf); refine DL.exn 5 ⟨_, _, rfl, rfl, ?_⟩) | ((conv => whnf); refine DL.exn 0 ⟨_, _, rfl, ?_⟩) | ((conv => whnf); refine DL.exn 1 ⟨_, _, rfl, ?_⟩) | ((conv => whnf); refine DL.exn 2 ⟨_, _, rfl, ?_⟩) | ((conv => whnf); refine DL.exn 3 ⟨_, _, rfl, ?_⟩) | ((conv => whnf); refine DL.exn 4 ⟨_, _, rfl, ?_⟩) | ((conv => whnf); refine DL.exn 5 ⟨_, _, rfl, ?_⟩) | ((conv => whnf); refine DL.exn 0 ⟨_, _, _, rfl, rfl, ?_⟩) | ((conv => whnf); refine DL.exn 1 ⟨_, _, _, rfl, rfl, ?_⟩) | ((conv => whnf); refine DL.exn 2 ⟨_, _, _, rfl, rfl, ?_⟩) | ((conv => whnf); refine DL.exn 3 ⟨_, _, _, rfl, rfl, ?_⟩) | ((conv => whnf); refine DL.exn 4 ⟨_, _, _, rfl, rfl, ?_⟩) | ((conv => whnf); refine DL.exn 5 ⟨_, _, _, rfl, rfl, ?_⟩) | ((conv => whnf); refine Or.inl ⟨by decide, by decide, ?_⟩) | ((conv => whnf); refine Or.inr ⟨_, rfl, by decide, ?_⟩) | ((conv => whnf); refine And.intro (by first | assumption | rfl | decide | omega | exact ⟨rfl, by decide⟩ | exact ⟨rfl, rfl⟩ | exact small_ok (by omega) (by omega) | exact ⟨small_ok (by omega) (by omega), small_ok (by omega) (by omega)⟩ | exact cdiv_ok (by omega) (by omega) | exact cpow_ok (by omega) (by omega) (by omega) (by omega) | decide +kernel) ?_))
  simp only [xSeq, xSet, xIfS, xNext, xRet, xRetN, xDrop, xNever, xBreak, xCont, xOp, xB, blK, xVar, xC, xTru, truK, xAnd, xOr, xNot, xAndV, xOrV, xNotV, xIf, xNil, xCons, xTup, xLst, xLstM, xCall, xCallP, xCallK, gSel, xMeth, xMethP, insK, xMake, xMakeM, xFld, fldK, getK, rdAdd, rdI, rdI0, rdB0, rdMul, rdEqA, viewK, ownK, seqK, lstK, tupK, tupxK, ixK, rdIsN, isN, rdIn, xChain, xUn, xgName, xgNil, xgCons, xgTup, xgSub, setL, xAsg, xPar, xAug, xSetF, PutF, xAugF, xiSeq, xiTup, xiR1, xiR2, xiEnum, xiZip, xFor, xLoop, xFrz, xFz, xYes, xLc, xLcMA, xCL, xCB, rdLen, rdSum, rdAny, rdAll, rdC2, rdC1, rdInt, rdList, rdListM, rdTup, rdTupX, rdSortI, rdSortP, rdIsi, xML, rdAppend, rdExtend, rdPopAt, rdPop, rdIndexI, xTupIx, rdIx, xoN, xoS, xSl, xSlM, xRev, xLR, xLRM, xDGet, dkK, xDPut, xVals, xDisp, xAugL, xLenSet, xSlS, scrK, startD, wipeD, List.getElem?_cons_zero, List.getElem?_cons_succ, List.set_cons_zero, List.set_cons_succ, List.map_cons, List.map_nil, List.cons_append, List.nil_append, List.append_nil, List.length_cons, List.length_nil, List.replicate_succ, List.replicate_zero, Nat.reduceSub, Nat.reduceAdd, Nat.reduceSubDiff, Nat.reduceLeDiff, decide_eq_true_eq, Bool.and_eq_true, ite_true, reduceIte, reduceCtorEq, true_and, and_true, beq_int, beq_pair, beq_ints, beq_pairs, any_il, any_pl, pl_int, pl_ints, pl_pair, pl_pairs, all_il, all_pl, tyD, List.length_map]
  rw [if_neg (by simp; omega)]
  exact rtn_all q
theorem len_m_Book_are_strangers {K : PySem.W.Frag} : ∀ es M Q E, sp_m_Book_are_strangers K es M Q E → es.length = 3 := by
  rintro _ _ _ _ ⟨_, _, _, _, rfl, _⟩; rfl
theorem rd_m_Book_are_strangers {K : PySem.W.Frag} : ∀ es M Q E, sp_m_Book_are_strangers K es M Q E → t_m_Book_are_strangers K { nx := fun _ M => Rtn Q .non M, rt := Rtn Q } (startD nm_m_Book_are_strangers es) M := by
  rintro _ M Q _ ⟨n, ps, x, y, rfl, h1, h2, q⟩
  repeat (first | ((conv => whnf); refine ⟨_, rfl, ?_⟩) | ((conv => whnf); refine ⟨_, _, rfl, ?_⟩) | ((conv => whnf); refine ⟨_, _, _, rfl, ?_⟩) | ((conv => whnf); refine ⟨_, _, _, _, rfl, ?_⟩) | ((conv => whnf); refine DL.exn 0 ⟨_, rfl, ?_⟩) | ((conv => whnf); refine DL.exn 1 ⟨_, rfl, ?_⟩) | ((conv => whnf); refine DL.exn 2 ⟨_, rfl, ?_⟩) | ((conv => whnf); refine DL.exn 3 ⟨_, rfl, ?_⟩) | ((conv => whnf); refine DL.exn 4 ⟨_, rfl, ?_⟩) | ((conv => whnf); refine DL.exn 5 ⟨_, rfl, ?_⟩) | ((conv => whnf); refine DL.exn 0 ⟨_, _, rfl, rfl, ?_⟩) | ((conv => whnf); refine DL.exn 1 ⟨_, _, rfl, rfl, ?_⟩) | ((conv => whnf); refine DL.exn 2 ⟨_, _, rfl, rfl, ?_⟩) | ((conv => whnf); refine DL.exn 3 ⟨_, _, rfl, rfl, ?_⟩) | ((conv => whnf); refine DL.exn 4 ⟨_, _, rfl, rfl, ?_⟩) | ((conv => whnf); refine DL.exn 5 ⟨_, _, rfl, rfl, ?_⟩) | ((conv => whnf); refine DL.exn 0 ⟨_, _, rfl, ?_⟩) | ((conv => whnf); refine DL.exn 1 ⟨_, _, rfl, ?_⟩) | ((conv => whnf); refine DL.exn 2 ⟨_, _, rfl, ?_⟩) | ((conv => whnf); refine DL.exn 3 ⟨_, _, rfl, ?_⟩) | ((conv => whnf); refine DL.exn 4 ⟨_, _, rfl, ?_⟩) | ((conv => whnf); refine DL.exn 5 ⟨_, _, rfl, ?_⟩) | ((conv => whnf); refine DL.exn 0 ⟨_, _, _, rfl, rfl, ?_⟩) | ((conv => whnf); refine DL.exn 1 ⟨_, _, _, rfl, rfl, ?_⟩) | ((conv => whnf); refine DL.exn 2 ⟨_, _, _, rfl, rfl, ?_⟩) | ((conv => whnf); refine DL.exn 3 ⟨_, _, _, rfl, rfl, ?_⟩) | ((conv => whnf); refine DL.exn 4 ⟨_, _, _, rfl, rfl, ?_⟩) | ((conv => whnf); refine DL.exn 5 ⟨_, _, _, rfl, rfl, ?_⟩) | ((conv => whnf); refine Or.inl ⟨by decide, by decide, ?_⟩) | ((conv => whnf); refine Or.inr ⟨_, rfl, by decide, ?_⟩) | ((conv => whnf); refine And.intro (by first | assumption | rfl | decide | omega | exact ⟨rfl, by decide⟩ | exact ⟨rfl, rfl⟩ | exact small_ok (by omega) (by omega) | exact ⟨small_ok (by omega) (by omega), small_ok (by omega) (by omega)⟩ | exact cdiv_ok (by omega) (by omega) | exact cpow_ok (by omega) (by omega) (by omega) (by omega) | decide +kernel) ?_))
  simp only [xSeq, xSet, xIfS, xNext, xRet, xRetN, xDrop, xNever, xBreak, xCont, xOp, xB, blK, xVar, xC, xTru, truK, xAnd, xOr, xNot, xAndV, xOrV, xNotV, xIf, xNil, xCons, xTup, xLst, xLstM, xCall, xCallP, xCallK, gSel, xMeth, xMethP, insK, xMake, xMakeM, xFld, fldK, getK, rdAdd, rdI, rdI0, rdB0, rdMul, rdEqA, viewK, ownK, seqK, lstK, tupK, tupxK, ixK, rdIsN, isN, rdIn, xChain, xUn, xgName, xgNil, xgCons, xgTup, xgSub, setL, xAsg, xPar, xAug, xSetF, PutF, xAugF, xiSeq, xiTup, xiR1, xiR2, xiEnum, xiZip, xFor, xLoop, xFrz, xFz, xYes, xLc, xLcMA, xCL, xCB, rdLen, rdSum, rdAny, rdAll, rdC2, rdC1, rdInt, rdList, rdListM, rdTup, rdTupX, rdSortI, rdSortP, rdIsi, xML, rdAppend, rdExtend, rdPopAt, rdPop, rdIndexI, xTupIx, rdIx, xoN, xoS, xSl, xSlM, xRev, xLR, xLRM, xDGet, dkK, xDPut, xVals, xDisp, xAugL, xLenSet, xSlS, scrK, startD, wipeD, List.getElem?_cons_zero, List.getElem?_cons_succ, List.set_cons_zero, List.set_cons_succ, List.map_cons, List.map_nil, List.cons_append, List.nil_append, List.append_nil, List.length_cons, List.length_nil, List.replicate_succ, List.replicate_zero, Nat.reduceSub, Nat.reduceAdd, Nat.reduceSubDiff, Nat.reduceLeDiff, decide_eq_true_eq, Bool.and_eq_true, ite_true, reduceIte, reduceCtorEq, true_and, and_true, beq_int, beq_pair, beq_ints, beq_pairs, any_il, any_pl, pl_int, pl_ints, pl_pair, pl_pairs, all_il, all_pl, tyD, List.length_map]
  refine ⟨pl_pair (p := mx x y), ?_⟩
  have e := any_pl (ps := ps) (p := mx x y)
  rw [show D.tup [D.int (imin x y), D.int (imax x y)] = pairD (mx x y) from rfl, e]
  exact rtn_all q
theorem len_m_Seating_people {K : PySem.W.Frag} : ∀ es M Q E, sp_m_Seating_people K es M Q E → es.length = 1 := by
  rintro _ _ _ _ ⟨_, rfl, _⟩; rfl
theorem rd_m_Seating_people {K : PySem.W.Frag} : ∀ es M Q E, sp_m_Seating_people K es M Q E → t_m_Seating_people K { nx := fun _ M => Rtn Q .non M, rt := Rtn Q } (startD nm_m_Seating_people es) M := by
  rintro _ M Q _ ⟨row, rfl, rfl, q⟩
  repeat (first | ((conv => whnf); refine ⟨_, rfl, ?_⟩) | ((conv => whnf); refine ⟨_, _, rfl, ?_⟩) | ((conv => whnf); refine ⟨_, _, _, rfl, ?_⟩) | ((conv => whnf); refine ⟨_, _, _, _, rfl, ?_⟩) | ((conv => whnf); refine DL.exn 0 ⟨_, rfl, ?_⟩) | ((conv => whnf); refine DL.exn 1 ⟨_, rfl, ?_⟩) | ((conv => whnf); refine DL.exn 2 ⟨_, rfl, ?_⟩) | ((conv => whnf); refine DL.exn 3 ⟨_, rfl, ?_⟩) | ((conv => whnf); refine DL.exn 4 ⟨_, rfl, ?_⟩) | ((conv => whnf); refine DL.exn 5 ⟨_, rfl, ?_⟩) | ((conv => whnf); refine DL.exn 0 ⟨_, _, rfl, rfl, ?_⟩) | ((conv => whnf); refine DL.exn 1 ⟨_, _, rfl, rfl, ?_⟩) | ((conv => whnf); refine DL.exn 2 ⟨_, _, rfl, rfl, ?_⟩) | ((conv => whnf); refine DL.exn 3 ⟨_, _, rfl, rfl, ?_⟩) | ((conv => whnf); refine DL.exn 4 ⟨_, _, rfl, rfl, ?_⟩) | ((conv => whnf); refine DL.exn 5 ⟨_, _, rfl, rfl, ?_⟩) | ((conv => whnf); refine DL.exn 0 ⟨_, _, rfl, ?_⟩) | ((conv => whnf); refine DL.exn 1 ⟨_, _, rfl, ?_⟩) | ((conv => whnf); refine DL.exn 2 ⟨_, _, rfl, ?_⟩) | ((conv => whnf); refine DL.exn 3 ⟨_, _, rfl, ?_⟩) | ((conv => whnf); refine DL.exn 4 ⟨_, _, rfl, ?_⟩) | ((conv => whnf); refine DL.exn 5 ⟨_, _, rfl, ?_⟩) | ((conv => whnf); refine DL.exn 0 ⟨_, _, _, rfl, rfl, ?_⟩) | ((conv => whnf); refine DL.exn 1 ⟨_, _, _, rfl, rfl, ?_⟩) | ((conv => whnf); refine DL.exn 2 ⟨_, _, _, rfl, rfl, ?_⟩) | ((conv => whnf); refine DL.exn 3 ⟨_, _, _, rfl, rfl, ?_⟩) | ((conv => whnf); refine DL.exn 4 ⟨_, _, _, rfl, rfl, ?_⟩) | ((conv => whnf); refine DL.exn 5 ⟨_, _, _, rfl, rfl, ?_⟩) | ((conv => whnf); refine Or.inl ⟨by decide, by decide, ?_⟩) | ((conv => whnf); refine Or.inr ⟨_, rfl, by decide, ?_⟩) | ((conv => whnf); refine And.intro (by first | assumption | rfl | decide | omega | exact ⟨rfl, by decide⟩ | exact ⟨rfl, rfl⟩ | exact small_ok (by omega) (by omega) | exact ⟨small_ok (by omega) (by omega), small_ok (by omega) (by omega)⟩ | exact cdiv_ok (by omega) (by omega) | exact cpow_ok (by omega) (by omega) (by omega) (by omega) | decide +kernel) ?_))
  intro a
  exact rtn_all (q a)
theorem len_m_Book_strangers {K : PySem.W.Frag} : ∀ es M Q E, sp_m_Book_strangers K es M Q E → es.length = 1 := by
  rintro _ _ _ _ ⟨_, _, rfl, _⟩; rfl
theorem rd_m_Book_strangers {K : PySem.W.Frag} : ∀ es M Q E, sp_m_Book_strangers K es M Q E → t_m_Book_strangers K { nx := fun _ M => Rtn Q .non M, rt := Rtn Q } (startD nm_m_Book_strangers es) M := by
  rintro _ M Q _ ⟨n, ps, rfl, q⟩
  repeat (first | ((conv => whnf); refine ⟨_, rfl, ?_⟩) | ((conv => whnf); refine ⟨_, _, rfl, ?_⟩) | ((conv => whnf); refine ⟨_, _, _, rfl, ?_⟩) | ((conv => whnf); refine ⟨_, _, _, _, rfl, ?_⟩) | ((conv => whnf); refine DL.exn 0 ⟨_, rfl, ?_⟩) | ((conv => whnf); refine DL.exn 1 ⟨_, rfl, ?_⟩) | ((conv => whnf); refine DL.exn 2 ⟨_, rfl, ?_⟩) | ((conv => whnf); refine DL.exn 3 ⟨_, rfl, ?_⟩) | ((conv => whnf); refine DL.exn 4 ⟨_, rfl, ?_⟩) | ((conv => whnf); refine DL.exn 5 ⟨_, rfl, ?_⟩) | ((conv => whnf); refine DL.exn 0 ⟨_, _, rfl, rfl, ?_⟩) | ((conv => whnf); refine DL.exn 1 ⟨_, _, rfl, rfl, ?_⟩) | ((conv => whnf); refine DL.exn 2 ⟨_, _, rfl, rfl, ?_⟩) | ((conv => whnf); refine DL.exn 3 ⟨_, _, rfl, rfl, ?_⟩) | ((conv => whnf); refine DL.exn 4 ⟨_, _, rfl, rfl, ?_⟩) | ((conv => whnf); refine DL.exn 5 ⟨_, _, rfl, rfl, ?_⟩) | ((conv => whnf); refine DL.exn 0 ⟨_, _, rfl, ?_⟩) | ((conv => whnf); refine DL.exn 1 ⟨_, _, rfl, ?_⟩) | ((conv => whnf); refine DL.exn 2 ⟨_, _, rfl, ?_⟩) | ((conv => whnf); refine DL.exn 3 ⟨_, _, rfl, ?_⟩) | ((conv => whnf); refine DL.exn 4 ⟨_, _, rfl, ?_⟩) | ((conv => whnf); refine DL.exn 5 ⟨_, _, rfl, ?_⟩) | ((conv => whnf); refine DL.exn 0 ⟨_, _, _, rfl, rfl, ?_⟩) | ((conv => whnf); refine DL.exn 1 ⟨_, _, _, rfl, rfl, ?_⟩) | ((conv => whnf); refine DL.exn 2 ⟨_, _, _, rfl, rfl, ?_⟩) | ((conv => whnf); refine DL.exn 3 ⟨_, _, _, rfl, rfl, ?_⟩) | ((conv => whnf); refine DL.exn 4 ⟨_, _, _, rfl, rfl, ?_⟩) | ((conv => whnf); refine DL.exn 5 ⟨_, _, _, rfl, rfl, ?_⟩) | ((conv => whnf); refine Or.inl ⟨by decide, by decide, ?_⟩) | ((conv => whnf); refine Or.inr ⟨_, rfl, by decide, ?_⟩) | ((conv => whnf); refine And.intro (by first | assumption | rfl | decide | omega | exact ⟨rfl, by decide⟩ | exact ⟨rfl, rfl⟩ | exact small_ok (by omega) (by omega) | exact ⟨small_ok (by omega) (by omega), small_ok (by omega) (by omega)⟩ | exact cdiv_ok (by omega) (by omega) | exact cpow_ok (by omega) (by omega) (by omega) (by omega) | decide +kernel) ?_))
  exact rtn_all q
theorem len_m_Table_changes {K : PySem.W.Frag} : ∀ es M Q E, sp_m_Table_changes K es M Q E → es.length = 1 := by
  rintro _ _ _ _ ⟨_, _, _, _, _, _, _, rfl, _⟩; rfl
theorem rd_m_Table_changes {K : PySem.W.Frag} : ∀ es M Q E, sp_m_Table_changes K es M Q E → t_m_Table_changes K { nx := fun _ M => Rtn Q .non M, rt := Rtn Q } (startD nm_m_Table_changes es) M := by
  rintro _ M Q _ ⟨t, cc, n, ps, row, made, hs, rfl, rfl, q⟩
  repeat (first | ((conv => whnf); refine ⟨_, rfl, ?_⟩) | ((conv => whnf); refine ⟨_, _, rfl, ?_⟩) | ((conv => whnf); refine ⟨_, _, _, rfl, ?_⟩) | ((conv => whnf); refine ⟨_, _, _, _, rfl, ?_⟩) | ((conv => whnf); refine DL.exn 0 ⟨_, rfl, ?_⟩) | ((conv => whnf); refine DL.exn 1 ⟨_, rfl, ?_⟩) | ((conv => whnf); refine DL.exn 2 ⟨_, rfl, ?_⟩) | ((conv => whnf); refine DL.exn 3 ⟨_, rfl, ?_⟩) | ((conv => whnf); refine DL.exn 4 ⟨_, rfl, ?_⟩) | ((conv => whnf); refine DL.exn 5 ⟨_, rfl, ?_⟩) | ((conv => whnf); refine DL.exn 0 ⟨_, _, rfl, rfl, ?_⟩) | ((conv => whnf); refine DL.exn 1 ⟨_, _, rfl, rfl, ?_⟩) | ((conv => whnf); refine DL.exn 2 ⟨_, _, rfl, rfl, ?_⟩) | ((conv => whnf); refine DL.exn 3 ⟨_, _, rfl, rfl, ?_⟩) | ((conv => whnf); refine DL.exn 4 ⟨_, _, rfl, rfl, ?_⟩) | ((conv => whnf); refine DL.exn 5 ⟨_, _, rfl, rfl, ?_⟩) | ((conv => whnf); refine DL.exn 0 ⟨_, _, rfl, ?_⟩) | ((conv => whnf); refine DL.exn 1 ⟨_, _, rfl, ?_⟩) | ((conv => whnf); refine DL.exn 2 ⟨_, _, rfl, ?_⟩) | ((conv => whnf); refine DL.exn 3 ⟨_, _, rfl, ?_⟩) | ((conv => whnf); refine DL.exn 4 ⟨_, _, rfl, ?_⟩) | ((conv => whnf); refine DL.exn 5 ⟨_, _, rfl, ?_⟩) | ((conv => whnf); refine DL.exn 0 ⟨_, _, _, rfl, rfl, ?_⟩) | ((conv => whnf); refine DL.exn 1 ⟨_, _, _, rfl, rfl, ?_⟩) | ((conv => whnf); refine DL.exn 2 ⟨_, _, _, rfl, rfl, ?_⟩) | ((conv => whnf); refine DL.exn 3 ⟨_, _, _, rfl, rfl, ?_⟩) | ((conv => whnf); refine DL.exn 4 ⟨_, _, _, rfl, rfl, ?_⟩) | ((conv => whnf); refine DL.exn 5 ⟨_, _, _, rfl, rfl, ?_⟩) | ((conv => whnf); refine Or.inl ⟨by decide, by decide, ?_⟩) | ((conv => whnf); refine Or.inr ⟨_, rfl, by decide, ?_⟩) | ((conv => whnf); refine And.intro (by first | assumption | rfl | decide | omega | exact ⟨rfl, by decide⟩ | exact ⟨rfl, rfl⟩ | exact small_ok (by omega) (by omega) | exact ⟨small_ok (by omega) (by omega), small_ok (by omega) (by omega)⟩ | exact cdiv_ok (by omega) (by omega) | exact cpow_ok (by omega) (by omega) (by omega) (by omega) | decide +kernel) ?_))
  exact rtn_all q
theorem len_m_Table_seating {K : PySem.W.Frag} : ∀ es M Q E, sp_m_Table_seating K es M Q E → es.length = 1 := by
  rintro _ _ _ _ ⟨_, _, _, _, _, _, _, rfl, _⟩; rfl
theorem rd_m_Table_seating {K : PySem.W.Frag} : ∀ es M Q E, sp_m_Table_seating K es M Q E → t_m_Table_seating K { nx := fun _ M => Rtn Q .non M, rt := Rtn Q } (startD nm_m_Table_seating es) M := by
  rintro _ M Q _ ⟨t, cc, n, ps, row, made, hs, rfl, rfl, q⟩
  repeat (first | ((conv => whnf); refine ⟨_, rfl, ?_⟩) | ((conv => whnf); refine ⟨_, _, rfl, ?_⟩) | ((conv => whnf); refine ⟨_, _, _, rfl, ?_⟩) | ((conv => whnf); refine ⟨_, _, _, _, rfl, ?_⟩) | ((conv => whnf); refine DL.exn 0 ⟨_, rfl, ?_⟩) | ((conv => whnf); refine DL.exn 1 ⟨_, rfl, ?_⟩) | ((conv => whnf); refine DL.exn 2 ⟨_, rfl, ?_⟩) | ((conv => whnf); refine DL.exn 3 ⟨_, rfl, ?_⟩) | ((conv => whnf); refine DL.exn 4 ⟨_, rfl, ?_⟩) | ((conv => whnf); refine DL.exn 5 ⟨_, rfl, ?_⟩) | ((conv => whnf); refine DL.exn 0 ⟨_, _, rfl, rfl, ?_⟩) | ((conv => whnf); refine DL.exn 1 ⟨_, _, rfl, rfl, ?_⟩) | ((conv => whnf); refine DL.exn 2 ⟨_, _, rfl, rfl, ?_⟩) | ((conv => whnf); refine DL.exn 3 ⟨_, _, rfl, rfl, ?_⟩) | ((conv => whnf); refine DL.exn 4 ⟨_, _, rfl, rfl, ?_⟩) | ((conv => whnf); refine DL.exn 5 ⟨_, _, rfl, rfl, ?_⟩) | ((conv => whnf); refine DL.exn 0 ⟨_, _, rfl, ?_⟩) | ((conv => whnf); refine DL.exn 1 ⟨_, _, rfl, ?_⟩) | ((conv => whnf); refine DL.exn 2 ⟨_, _, rfl, ?_⟩) | ((conv => whnf); refine DL.exn 3 ⟨_, _, rfl, ?_⟩) | ((conv => whnf); refine DL.exn 4 ⟨_, _, rfl, ?_⟩) | ((conv => whnf); refine DL.exn 5 ⟨_, _, rfl, ?_⟩) | ((conv => whnf); refine DL.exn 0 ⟨_, _, _, rfl, rfl, ?_⟩) | ((conv => whnf); refine DL.exn 1 ⟨_, _, _, rfl, rfl, ?_⟩) | ((conv => whnf); refine DL.exn 2 ⟨_, _, _, rfl, rfl, ?_⟩) | ((conv => whnf); refine DL.exn 3 ⟨_, _, _, rfl, rfl, ?_⟩) | ((conv => whnf); refine DL.exn 4 ⟨_, _, _, rfl, rfl, ?_⟩) | ((conv => whnf); refine DL.exn 5 ⟨_, _, _, rfl, rfl, ?_⟩) | ((conv => whnf); refine Or.inl ⟨by decide, by decide, ?_⟩) | ((conv => whnf); refine Or.inr ⟨_, rfl, by decide, ?_⟩) | ((conv => whnf); refine And.intro (by first | assumption | rfl | decide | omega | exact ⟨rfl, by decide⟩ | exact ⟨rfl, rfl⟩ | exact small_ok (by omega) (by omega) | exact ⟨small_ok (by omega) (by omega), small_ok (by omega) (by omega)⟩ | exact cdiv_ok (by omega) (by omega) | exact cpow_ok (by omega) (by omega) (by omega) (by omega) | decide +kernel) ?_))
  exact rtn_all q
end Nk66

set_option Elab.async false
set_option linter.all false
set_option maxRecDepth 100000
set_option maxHeartbeats 4000000
namespace Nk66
open PySem PySem.Spec L2 DL
theorem len_f_check_two {K : PySem.W.Frag} : ∀ es M Q E, sp_f_check_two K es M Q E → es.length = 3 := by
  rintro _ _ _ _ ⟨_, _, _, _, rfl, _⟩; rfl
theorem rd_f_check_two {K : PySem.W.Frag} : ∀ es M Q E, sp_f_check_two K es M Q E → t_f_check_two K { nx := fun _ M => Rtn Q .non M, rt := Rtn Q } (startD nm_f_check_two es) M := by
  rintro _ M Q _ ⟨n, ps, x, y, rfl, h1, h2, h3, q⟩
  repeat (first | ((conv => whnf); refine ⟨_, rfl, ?_⟩) | ((conv => whnf); refine ⟨_, _, rfl, ?_⟩) | ((conv => whnf); refine ⟨_, _, _, rfl, ?_⟩) | ((conv => whnf); refine ⟨_, _, _, _, rfl, ?_⟩) | ((conv => whnf); refine DL.exn 0 ⟨_, rfl, ?_⟩) | ((conv => whnf); refine DL.exn 1 ⟨_, rfl, ?_⟩) | ((conv => whnf); refine DL.exn 2 ⟨_, rfl, ?_⟩) | ((conv => whnf); refine DL.exn 3 ⟨_, rfl, ?_⟩) | ((conv => whnf); refine DL.exn 4 ⟨_, rfl, ?_⟩) | ((conv => whnf); refine DL.exn 5 ⟨_, rfl, ?_⟩) | ((conv => whnf); refine DL.exn 0 ⟨_, _, rfl, rfl, ?_⟩) | ((conv => whnf); refine DL.exn 1 ⟨_, _, rfl, rfl, ?_⟩) | ((conv => whnf); refine DL.exn 2 ⟨_, _, rfl, rfl, ?_⟩) | ((conv => whnf); refine DL.exn 3 ⟨_, _, rfl, rfl, ?_⟩) | ((conv => whnf); refine DL.exn 4 ⟨_, _, rfl, rfl, ?_⟩) | ((conv => whnf); refine DL.exn 5 ⟨_, _, rfl, rfl, ?_⟩) | ((conv => whnf); refine DL.exn 0 ⟨_, _, rfl, ?_⟩) | ((conv => whnf); refine DL.exn 1 ⟨_, _, rfl, ?_⟩) | ((conv => whnf); refine DL.exn 2 ⟨_, _, rfl, ?_⟩) | ((conv => whnf); refine DL.exn 3 ⟨_, _, rfl, ?_⟩) | ((conv => whnf); refine DL.exn 4 ⟨_, _, rfl, ?_⟩) | ((conv => whnf); refine DL.exn 5 ⟨_, _, rfl, ?_⟩) | ((conv => whnf); refine DL.exn 0 ⟨_, _, _, rfl, rfl, ?_⟩) | ((conv => whnf); refine DL.exn 1 ⟨_, _, _, rfl, rfl, ?_⟩) | ((conv => whnf); refine DL.exn 2 ⟨_, _, _, rfl, rfl, ?_⟩) | ((conv => whnf); refine DL.exn 3 ⟨_, _, _, rfl, rfl, ?_⟩) | ((conv => whnf); refine DL.exn 4 ⟨_, _, _, rfl, rfl, ?_⟩) | ((conv => whnf); refine DL.exn 5 ⟨_, _, _, rfl, rfl, ?_⟩) | ((conv => whnf); refine Or.inl ⟨by decide, by decide, ?_⟩) | ((conv => whnf); refine Or.inr ⟨_, rfl, by decide, ?_⟩) | ((conv => whnf); refine And.intro (by first | assumption | rfl | decide | omega | exact ⟨rfl, by decide⟩ | exact Nat.le_of_ble_eq_true rfl | exact ⟨rfl, rfl⟩ | exact small_ok (by omega) (by omega) | exact ⟨small_ok (by omega) (by omega), small_ok (by omega) (by omega)⟩ | exact cdiv_ok (by omega) (by omega) | exact cpow_ok (by omega) (by omega) (by omega) (by omega) | decide +kernel) ?_))
  simp only [xSeq, xSet, xIfS, xNext, xRet, xRetN, xDrop, xNever, xBreak, xCont, xOp, xB, blK, xVar, xC, xTru, truK, xAnd, xOr, xNot, xAndV, xOrV, xNotV, xIf, xNil, xCons, xTup, xLst, xLstM, xCall, xCallP, xCallK, gSel, xMeth, xMethP, insK, xMake, xMakeM, xFld, fldK, getK, rdAdd, rdI, rdI0, rdB0, rdMul, rdEqA, viewK, ownK, seqK, lstK, tupK, tupxK, ixK, rdIsN, isN, rdIn, xChain, xUn, xgName, xgNil, xgCons, xgTup, xgSub, setL, xAsg, xPar, xAug, xSetF, PutF, xAugF, xiSeq, xiTup, xiR1, xiR2, xiEnum, xiZip, xFor, xLoop, xFrz, xFz, xYes, xLc, xLcMA, xCL, xCB, rdLen, rdSum, rdAny, rdAll, rdC2, rdC1, rdInt, rdList, rdListM, rdTup, rdTupX, rdSortI, rdSortP, rdIsi, xML, rdAppend, rdExtend, rdPopAt, rdPop, rdIndexI, xTupIx, rdIx, xoN, xoS, xSl, xSlM, xRev, xLR, xLRM, xDGet, dkK, xDPut, xVals, xDisp, xAugL, xLenSet, xSlS, scrK, startD, wipeD, List.getElem?_cons_zero, List.getElem?_cons_succ, List.set_cons_zero, List.set_cons_succ, List.map_cons, List.map_nil, List.cons_append, List.nil_append, List.append_nil, List.length_cons, List.length_nil, List.replicate_succ, List.replicate_zero, Nat.reduceSub, Nat.reduceAdd, Nat.reduceSubDiff, Nat.reduceLeDiff, decide_eq_true_eq, Bool.and_eq_true, ite_true, reduceIte, reduceCtorEq, true_and, and_true, beq_int, beq_pair, beq_ints, beq_pairs, any_il, any_pl, pl_int, pl_ints, pl_pair, pl_pairs, all_il, all_pl, tyD, List.length_map]
  rw [if_neg h3]
  exact rtn_all q
theorem len_g_rounds {K : PySem.W.Frag} : ∀ es M Q E, sp_g_rounds K es M Q E → es.length = 4 := by
  rintro _ _ _ _ ⟨_, _, _, _, rfl, _⟩; rfl
theorem rd_g_rounds {K : PySem.W.Frag} : ∀ es M Q E, sp_g_rounds K es M Q E → t_g_rounds K { nx := fun _ M => Rtn Q .non M, rt := Rtn Q } (startD nm_g_rounds es) M := by
  rintro _ M Q _ ⟨hs, x, y, n, rfl, h3, h9, hl, h1, h2, q⟩
  repeat (first | ((conv => whnf); refine ⟨_, rfl, ?_⟩) | ((conv => whnf); refine ⟨_, _, rfl, ?_⟩) | ((conv => whnf); refine ⟨_, _, _, rfl, ?_⟩) | ((conv => whnf); refine ⟨_, _, _, _, rfl, ?_⟩) | ((conv => whnf); refine DL.exn 0 ⟨_, rfl, ?_⟩) | ((conv => whnf); refine DL.exn 1 ⟨_, rfl, ?_⟩) | ((conv => whnf); refine DL.exn 2 ⟨_, rfl, ?_⟩) | ((conv => whnf); refine DL.exn 3 ⟨_, rfl, ?_⟩) | ((conv => whnf); refine DL.exn 4 ⟨_, rfl, ?_⟩) | ((conv => whnf); refine DL.exn 5 ⟨_, rfl, ?_⟩) | ((conv => whnf); refine DL.exn 0 ⟨_, _, rfl, rfl, ?_⟩) | ((conv => whnf); refine DL.exn 1 ⟨_, _, rfl, rfl, ?_⟩) | ((conv => whnf); refine DL.exn 2 ⟨_, _, rfl, rfl, ?_⟩) | ((conv => whnf); refine DL.exn 3 ⟨_, _, rfl, rfl, ?_⟩) | ((conv => whnf); refine DL.exn 4 ⟨_, _, rfl, rfl, ?_⟩) | ((conv => whnf); refine DL.exn 5 ⟨_, _, rfl, rfl, ?_⟩) | ((conv => whnf); refine DL.exn 0 ⟨_, _, rfl, ?_⟩) | ((conv => whnf); refine DL.exn 1 ⟨_, _, rfl, ?_⟩) | ((conv => whnf); refine DL.exn 2 ⟨_, _, rfl, ?_⟩) | ((conv => whnf); refine DL.exn 3 ⟨_, _, rfl, ?_⟩) | ((conv => whnf); refine DL.exn 4 ⟨_, _, rfl, ?_⟩) | ((conv => whnf); refine DL.exn 5 ⟨_, _, rfl, ?_⟩) | ((conv => whnf); refine DL.exn 0 ⟨_, _, _, rfl, rfl, ?_⟩) | ((conv => whnf); refine DL.exn 1 ⟨_, _, _, rfl, rfl, ?_⟩) | ((conv => whnf); refine DL.exn 2 ⟨_, _, _, rfl, rfl, ?_⟩) | ((conv => whnf); refine DL.exn 3 ⟨_, _, _, rfl, rfl, ?_⟩) | ((conv => whnf); refine DL.exn 4 ⟨_, _, _, rfl, rfl, ?_⟩) | ((conv => whnf); refine DL.exn 5 ⟨_, _, _, rfl, rfl, ?_⟩) | ((conv => whnf); refine Or.inl ⟨by decide, by decide, ?_⟩) | ((conv => whnf); refine Or.inr ⟨_, rfl, by decide, ?_⟩) | ((conv => whnf); refine And.intro (by first | assumption | rfl | decide | omega | exact ⟨rfl, by decide⟩ | exact Nat.le_of_ble_eq_true rfl | exact ⟨rfl, rfl⟩ | exact small_ok (by omega) (by omega) | exact ⟨small_ok (by omega) (by omega), small_ok (by omega) (by omega)⟩ | exact cdiv_ok (by omega) (by omega) | exact cpow_ok (by omega) (by omega) (by omega) (by omega) | decide +kernel) ?_))
  refine ⟨_, atI_map (z := 0) (by show 0 ≤ y - 1; omega) (by show y - 1 < _; omega), ?_⟩
  repeat (first | ((conv => whnf); refine ⟨_, rfl, ?_⟩) | ((conv => whnf); refine ⟨_, _, rfl, ?_⟩) | ((conv => whnf); refine ⟨_, _, _, rfl, ?_⟩) | ((conv => whnf); refine ⟨_, _, _, _, rfl, ?_⟩) | ((conv => whnf); refine DL.exn 0 ⟨_, rfl, ?_⟩) | ((conv => whnf); refine DL.exn 1 ⟨_, rfl, ?_⟩) | ((conv => whnf); refine DL.exn 2 ⟨_, rfl, ?_⟩) | ((conv => whnf); refine DL.exn 3 ⟨_, rfl, ?_⟩) | ((conv => whnf); refine DL.exn 4 ⟨_, rfl, ?_⟩) | ((conv => whnf); refine DL.exn 5 ⟨_, rfl, ?_⟩) | ((conv => whnf); refine DL.exn 0 ⟨_, _, rfl, rfl, ?_⟩) | ((conv => whnf); refine DL.exn 1 ⟨_, _, rfl, rfl, ?_⟩) | ((conv => whnf); refine DL.exn 2 ⟨_, _, rfl, rfl, ?_⟩) | ((conv => whnf); refine DL.exn 3 ⟨_, _, rfl, rfl, ?_⟩) | ((conv => whnf); refine DL.exn 4 ⟨_, _, rfl, rfl, ?_⟩) | ((conv => whnf); refine DL.exn 5 ⟨_, _, rfl, rfl, ?_⟩) | ((conv => whnf); refine DL.exn 0 ⟨_, _, rfl, ?_⟩) | ((conv => whnf); refine DL.exn 1 ⟨_, _, rfl, ?_⟩) | ((conv => whnf); refine DL.exn 2 ⟨_, _, rfl, ?_⟩) | ((conv => whnf); refine DL.exn 3 ⟨_, _, rfl, ?_⟩) | ((conv => whnf); refine DL.exn 4 ⟨_, _, rfl, ?_⟩) | ((conv => whnf); refine DL.exn 5 ⟨_, _, rfl, ?_⟩) | ((conv => whnf); refine DL.exn 0 ⟨_, _, _, rfl, rfl, ?_⟩) | ((conv => whnf); refine DL.exn 1 ⟨_, _, _, rfl, rfl, ?_⟩) | ((conv => whnf); refine DL.exn 2 ⟨_, _, _, rfl, rfl, ?_⟩) | ((conv => whnf); refine DL.exn 3 ⟨_, _, _, rfl, rfl, ?_⟩) | ((conv => whnf); refine DL.exn 4 ⟨_, _, _, rfl, rfl, ?_⟩) | ((conv => whnf); refine DL.exn 5 ⟨_, _, _, rfl, rfl, ?_⟩) | ((conv => whnf); refine Or.inl ⟨by decide, by decide, ?_⟩) | ((conv => whnf); refine Or.inr ⟨_, rfl, by decide, ?_⟩) | ((conv => whnf); refine And.intro (by first | assumption | rfl | decide | omega | exact ⟨rfl, by decide⟩ | exact Nat.le_of_ble_eq_true rfl | exact ⟨rfl, rfl⟩ | exact small_ok (by omega) (by omega) | exact ⟨small_ok (by omega) (by omega), small_ok (by omega) (by omega)⟩ | exact cdiv_ok (by omega) (by omega) | exact cpow_ok (by omega) (by omega) (by omega) (by omega) | decide +kernel) ?_))
  refine ⟨_, atI_map (z := 0) (by show 0 ≤ x - 1; omega) (by show x - 1 < _; omega), ?_⟩
  repeat (first | ((conv => whnf); refine ⟨_, rfl, ?_⟩) | ((conv => whnf); refine ⟨_, _, rfl, ?_⟩) | ((conv => whnf); refine ⟨_, _, _, rfl, ?_⟩) | ((conv => whnf); refine ⟨_, _, _, _, rfl, ?_⟩) | ((conv => whnf); refine DL.exn 0 ⟨_, rfl, ?_⟩) | ((conv => whnf); refine DL.exn 1 ⟨_, rfl, ?_⟩) | ((conv => whnf); refine DL.exn 2 ⟨_, rfl, ?_⟩) | ((conv => whnf); refine DL.exn 3 ⟨_, rfl, ?_⟩) | ((conv => whnf); refine DL.exn 4 ⟨_, rfl, ?_⟩) | ((conv => whnf); refine DL.exn 5 ⟨_, rfl, ?_⟩) | ((conv => whnf); refine DL.exn 0 ⟨_, _, rfl, rfl, ?_⟩) | ((conv => whnf); refine DL.exn 1 ⟨_, _, rfl, rfl, ?_⟩) | ((conv => whnf); refine DL.exn 2 ⟨_, _, rfl, rfl, ?_⟩) | ((conv => whnf); refine DL.exn 3 ⟨_, _, rfl, rfl, ?_⟩) | ((conv => whnf); refine DL.exn 4 ⟨_, _, rfl, rfl, ?_⟩) | ((conv => whnf); refine DL.exn 5 ⟨_, _, rfl, rfl, ?_⟩) | ((conv => whnf); refine DL.exn 0 ⟨_, _, rfl, ?_⟩) | ((conv => whnf); refine DL.exn 1 ⟨_, _, rfl, ?_⟩) | ((conv => whnf); refine DL.exn 2 ⟨_, _, rfl, ?_⟩) | ((conv => whnf); refine DL.exn 3 ⟨_, _, rfl, ?_⟩) | ((conv => whnf); refine DL.exn 4 ⟨_, _, rfl, ?_⟩) | ((conv => whnf); refine DL.exn 5 ⟨_, _, rfl, ?_⟩) | ((conv => whnf); refine DL.exn 0 ⟨_, _, _, rfl, rfl, ?_⟩) | ((conv => whnf); refine DL.exn 1 ⟨_, _, _, rfl, rfl, ?_⟩) | ((conv => whnf); refine DL.exn 2 ⟨_, _, _, rfl, rfl, ?_⟩) | ((conv => whnf); refine DL.exn 3 ⟨_, _, _, rfl, rfl, ?_⟩) | ((conv => whnf); refine DL.exn 4 ⟨_, _, _, rfl, rfl, ?_⟩) | ((conv => whnf); refine DL.exn 5 ⟨_, _, _, rfl, rfl, ?_⟩) | ((conv => whnf); refine Or.inl ⟨by decide, by decide, ?_⟩) | ((conv => whnf); refine Or.inr ⟨_, rfl, by decide, ?_⟩) | ((conv => whnf); refine And.intro (by first | assumption | rfl | decide | omega | exact ⟨rfl, by decide⟩ | exact Nat.le_of_ble_eq_true rfl | exact ⟨rfl, rfl⟩ | exact small_ok (by omega) (by omega) | exact ⟨small_ok (by omega) (by omega), small_ok (by omega) (by omega)⟩ | exact cdiv_ok (by omega) (by omega) | exact cpow_ok (by omega) (by omega) (by omega) (by omega) | decide +kernel) ?_))
  exact rtn_all q
theorem len_m_Table_times {K : PySem.W.Frag} : ∀ es M Q E, sp_m_Table_times K es M Q E → es.length = 2 := by
  rintro _ _ _ _ ⟨_, _, _, _, _, _, _, _, rfl, _⟩; rfl
theorem rd_m_Table_times {K : PySem.W.Frag} : ∀ es M Q E, sp_m_Table_times K es M Q E → t_m_Table_times K { nx := fun _ M => Rtn Q .non M, rt := Rtn Q } (startD nm_m_Table_times es) M := by
  rintro _ M Q _ ⟨t, cc, n, ps, row, made, hs, x, rfl, rfl, h3, h9, hl, h1, h2, q⟩
  repeat (first | ((conv => whnf); refine ⟨_, rfl, ?_⟩) | ((conv => whnf); refine ⟨_, _, rfl, ?_⟩) | ((conv => whnf); refine ⟨_, _, _, rfl, ?_⟩) | ((conv => whnf); refine ⟨_, _, _, _, rfl, ?_⟩) | ((conv => whnf); refine DL.exn 0 ⟨_, rfl, ?_⟩) | ((conv => whnf); refine DL.exn 1 ⟨_, rfl, ?_⟩) | ((conv => whnf); refine DL.exn 2 ⟨_, rfl, ?_⟩) | ((conv => whnf); refine DL.exn 3 ⟨_, rfl, ?_⟩) | ((conv => whnf); refine DL.exn 4 ⟨_, rfl, ?_⟩) | ((conv => whnf); refine DL.exn 5 ⟨_, rfl, ?_⟩) | ((conv => whnf); refine DL.exn 0 ⟨_, _, rfl, rfl, ?_⟩) | ((conv => whnf); refine DL.exn 1 ⟨_, _, rfl, rfl, ?_⟩) | ((conv => whnf); refine DL.exn 2 ⟨_, _, rfl, rfl, ?_⟩) | ((conv => whnf); refine DL.exn 3 ⟨_, _, rfl, rfl, ?_⟩) | ((conv => whnf); refine DL.exn 4 ⟨_, _, rfl, rfl, ?_⟩) | ((conv => whnf); refine DL.exn 5 ⟨_, _, rfl, rfl, ?_⟩) | ((conv => whnf); refine DL.exn 0 ⟨_, _, rfl, ?_⟩) | ((conv => whnf); refine DL.exn 1 ⟨_, _, rfl, ?_⟩) | ((conv => whnf); refine DL.exn 2 ⟨_, _, rfl, ?_⟩) | ((conv => whnf); refine DL.exn 3 ⟨_, _, rfl, ?_⟩) | ((conv => whnf); refine DL.exn 4 ⟨_, _, rfl, ?_⟩) | ((conv => whnf); refine DL.exn 5 ⟨_, _, rfl, ?_⟩) | ((conv => whnf); refine DL.exn 0 ⟨_, _, _, rfl, rfl, ?_⟩) | ((conv => whnf); refine DL.exn 1 ⟨_, _, _, rfl, rfl, ?_⟩) | ((conv => whnf); refine DL.exn 2 ⟨_, _, _, rfl, rfl, ?_⟩) | ((conv => whnf); refine DL.exn 3 ⟨_, _, _, rfl, rfl, ?_⟩) | ((conv => whnf); refine DL.exn 4 ⟨_, _, _, rfl, rfl, ?_⟩) | ((conv => whnf); refine DL.exn 5 ⟨_, _, _, rfl, rfl, ?_⟩) | ((conv => whnf); refine Or.inl ⟨by decide, by decide, ?_⟩) | ((conv => whnf); refine Or.inr ⟨_, rfl, by decide, ?_⟩) | ((conv => whnf); refine And.intro (by first | assumption | rfl | decide | omega | exact ⟨rfl, by decide⟩ | exact Nat.le_of_ble_eq_true rfl | exact ⟨rfl, rfl⟩ | exact small_ok (by omega) (by omega) | exact ⟨small_ok (by omega) (by omega), small_ok (by omega) (by omega)⟩ | exact cdiv_ok (by omega) (by omega) | exact cpow_ok (by omega) (by omega) (by omega) (by omega) | decide +kernel) ?_))
  refine ⟨_, atI_map (z := 0) (by show 0 ≤ x - 1; omega) (by show x - 1 < _; omega), ?_⟩
  repeat (first | ((conv => whnf); refine ⟨_, rfl, ?_⟩) | ((conv => whnf); refine ⟨_, _, rfl, ?_⟩) | ((conv => whnf); refine ⟨_, _, _, rfl, ?_⟩) | ((conv => whnf); refine ⟨_, _, _, _, rfl, ?_⟩) | ((conv => whnf); refine DL.exn 0 ⟨_, rfl, ?_⟩) | ((conv => whnf); refine DL.exn 1 ⟨_, rfl, ?_⟩) | ((conv => whnf); refine DL.exn 2 ⟨_, rfl, ?_⟩) | ((conv => whnf); refine DL.exn 3 ⟨_, rfl, ?_⟩) | ((conv => whnf); refine DL.exn 4 ⟨_, rfl, ?_⟩) | ((conv => whnf); refine DL.exn 5 ⟨_, rfl, ?_⟩) | ((conv => whnf); refine DL.exn 0 ⟨_, _, rfl, rfl, ?_⟩) | ((conv => whnf); refine DL.exn 1 ⟨_, _, rfl, rfl, ?_⟩) | ((conv => whnf); refine DL.exn 2 ⟨_, _, rfl, rfl, ?_⟩) | ((conv => whnf); refine DL.exn 3 ⟨_, _, rfl, rfl, ?_⟩) | ((conv => whnf); refine DL.exn 4 ⟨_, _, rfl, rfl, ?_⟩) | ((conv => whnf); refine DL.exn 5 ⟨_, _, rfl, rfl, ?_⟩) | ((conv => whnf); refine DL.exn 0 ⟨_, _, rfl, ?_⟩) | ((conv => whnf); refine DL.exn 1 ⟨_, _, rfl, ?_⟩) | ((conv => whnf); refine DL.exn 2 ⟨_, _, rfl, ?_⟩) | ((conv => whnf); refine DL.exn 3 ⟨_, _, rfl, ?_⟩) | ((conv => whnf); refine DL.exn 4 ⟨_, _, rfl, ?_⟩) | ((conv => whnf); refine DL.exn 5 ⟨_, _, rfl, ?_⟩) | ((conv => whnf); refine DL.exn 0 ⟨_, _, _, rfl, rfl, ?_⟩) | ((conv => whnf); refine DL.exn 1 ⟨_, _, _, rfl, rfl, ?_⟩) | ((conv => whnf); refine DL.exn 2 ⟨_, _, _, rfl, rfl, ?_⟩) | ((conv => whnf); refine DL.exn 3 ⟨_, _, _, rfl, rfl, ?_⟩) | ((conv => whnf); refine DL.exn 4 ⟨_, _, _, rfl, rfl, ?_⟩) | ((conv => whnf); refine DL.exn 5 ⟨_, _, _, rfl, rfl, ?_⟩) | ((conv => whnf); refine Or.inl ⟨by decide, by decide, ?_⟩) | ((conv => whnf); refine Or.inr ⟨_, rfl, by decide, ?_⟩) | ((conv => whnf); refine And.intro (by first | assumption | rfl | decide | omega | exact ⟨rfl, by decide⟩ | exact Nat.le_of_ble_eq_true rfl | exact ⟨rfl, rfl⟩ | exact small_ok (by omega) (by omega) | exact ⟨small_ok (by omega) (by omega), small_ok (by omega) (by omega)⟩ | exact cdiv_ok (by omega) (by omega) | exact cpow_ok (by omega) (by omega) (by omega) (by omega) | decide +kernel) ?_))
  simp only [xSeq, xSet, xIfS, xNext, xRet, xRetN, xDrop, xNever, xBreak, xCont, xOp, xB, blK, xVar, xC, xTru, truK, xAnd, xOr, xNot, xAndV, xOrV, xNotV, xIf, xNil, xCons, xTup, xLst, xLstM, xCall, xCallP, xCallK, gSel, xMeth, xMethP, insK, xMake, xMakeM, xFld, fldK, getK, rdAdd, rdI, rdI0, rdB0, rdMul, rdEqA, viewK, ownK, seqK, lstK, tupK, tupxK, ixK, rdIsN, isN, rdIn, xChain, xUn, xgName, xgNil, xgCons, xgTup, xgSub, setL, xAsg, xPar, xAug, xSetF, PutF, xAugF, xiSeq, xiTup, xiR1, xiR2, xiEnum, xiZip, xFor, xLoop, xFrz, xFz, xYes, xLc, xLcMA, xCL, xCB, rdLen, rdSum, rdAny, rdAll, rdC2, rdC1, rdInt, rdList, rdListM, rdTup, rdTupX, rdSortI, rdSortP, rdIsi, xML, rdAppend, rdExtend, rdPopAt, rdPop, rdIndexI, xTupIx, rdIx, xoN, xoS, xSl, xSlM, xRev, xLR, xLRM, xDGet, dkK, xDPut, xVals, xDisp, xAugL, xLenSet, xSlS, scrK, startD, wipeD, List.getElem?_cons_zero, List.getElem?_cons_succ, List.set_cons_zero, List.set_cons_succ, List.map_cons, List.map_nil, List.cons_append, List.nil_append, List.append_nil, List.length_cons, List.length_nil, List.replicate_succ, List.replicate_zero, Nat.reduceSub, Nat.reduceAdd, Nat.reduceSubDiff, Nat.reduceLeDiff, decide_eq_true_eq, Bool.and_eq_true, ite_true, reduceIte, reduceCtorEq, true_and, and_true, beq_int, beq_pair, beq_ints, beq_pairs, any_il, any_pl, pl_int, pl_ints, pl_pair, pl_pairs, all_il, all_pl, tyD, List.length_map]
  rw [hl]
  exact ⟨cdiv_ok (by omega) (by omega), rtn_all q⟩
theorem swp_data {row : List Int} {i j : Nat} (hj : j = (i + 1) % row.length) : ((row.map D.int).set i (.int (row.getD j 0))).set j (.int (row.getD i 0)) = (swp row i).map D.int := by
  subst hj
  unfold swp
  rw [List.map_set, List.map_set]
theorem succ_mod {i n : Nat} : ((i : Int) + 1) % (n : Int) = (((i + 1) % n : Nat) : Int) := by push_cast; rfl
theorem len_g_step {K : PySem.W.Frag} : ∀ es M Q E, sp_g_step K es M Q E → es.length = 2 := by
  rintro _ _ _ _ ⟨_, _, _, rfl, _⟩; rfl
theorem rd_g_step {K : PySem.W.Frag} : ∀ es M Q E, sp_g_step K es M Q E → t_g_step K { nx := fun _ M => Rtn Q .non M, rt := Rtn Q } (startD nm_g_step es) M := by
  rintro _ M Q _ ⟨n, row, i, rfl, rfl, ok, hi, q⟩
  repeat (first | ((conv => whnf); refine ⟨_, rfl, ?_⟩) | ((conv => whnf); refine ⟨_, _, rfl, ?_⟩) | ((conv => whnf); refine ⟨_, _, _, rfl, ?_⟩) | ((conv => whnf); refine ⟨_, _, _, _, rfl, ?_⟩) | ((conv => whnf); refine DL.exn 0 ⟨_, rfl, ?_⟩) | ((conv => whnf); refine DL.exn 1 ⟨_, rfl, ?_⟩) | ((conv => whnf); refine DL.exn 2 ⟨_, rfl, ?_⟩) | ((conv => whnf); refine DL.exn 3 ⟨_, rfl, ?_⟩) | ((conv => whnf); refine DL.exn 4 ⟨_, rfl, ?_⟩) | ((conv => whnf); refine DL.exn 5 ⟨_, rfl, ?_⟩) | ((conv => whnf); refine DL.exn 0 ⟨_, _, rfl, rfl, ?_⟩) | ((conv => whnf); refine DL.exn 1 ⟨_, _, rfl, rfl, ?_⟩) | ((conv => whnf); refine DL.exn 2 ⟨_, _, rfl, rfl, ?_⟩) | ((conv => whnf); refine DL.exn 3 ⟨_, _, rfl, rfl, ?_⟩) | ((conv => whnf); refine DL.exn 4 ⟨_, _, rfl, rfl, ?_⟩) | ((conv => whnf); refine DL.exn 5 ⟨_, _, rfl, rfl, ?_⟩) | ((conv => whnf); refine DL.exn 0 ⟨_, _, rfl, ?_⟩) | ((conv => whnf); refine DL.exn 1 ⟨_, _, rfl, ?_⟩) | ((conv => whnf); refine DL.exn 2 ⟨_, _, rfl, ?_⟩) | ((conv => whnf); refine DL.exn 3 ⟨_, _, rfl, ?_⟩) | ((conv => whnf); refine DL.exn 4 ⟨_, _, rfl, ?_⟩) | ((conv => whnf); refine DL.exn 5 ⟨_, _, rfl, ?_⟩) | ((conv => whnf); refine DL.exn 0 ⟨_, _, _, rfl, rfl, ?_⟩) | ((conv => whnf); refine DL.exn 1 ⟨_, _, _, rfl, rfl, ?_⟩) | ((conv => whnf); refine DL.exn 2 ⟨_, _, _, rfl, rfl, ?_⟩) | ((conv => whnf); refine DL.exn 3 ⟨_, _, _, rfl, rfl, ?_⟩) | ((conv => whnf); refine DL.exn 4 ⟨_, _, _, rfl, rfl, ?_⟩) | ((conv => whnf); refine DL.exn 5 ⟨_, _, _, rfl, rfl, ?_⟩) | ((conv => whnf); refine Or.inl ⟨by decide, by decide, ?_⟩) | ((conv => whnf); refine Or.inr ⟨_, rfl, by decide, ?_⟩) | ((conv => whnf); refine And.intro (by first | assumption | rfl | decide | omega | exact ⟨rfl, by decide⟩ | exact Nat.le_of_ble_eq_true rfl | exact ⟨rfl, rfl⟩ | exact small_ok (by omega) (by omega) | exact ⟨small_ok (by omega) (by omega), small_ok (by omega) (by omega)⟩ | exact cdiv_ok (by omega) (by omega) | exact cpow_ok (by omega) (by omega) (by omega) (by omega) | decide +kernel) ?_))
  intro a
  repeat (first | ((conv => whnf); refine ⟨_, rfl, ?_⟩) | ((conv => whnf); refine ⟨_, _, rfl, ?_⟩) | ((conv => whnf); refine ⟨_, _, _, rfl, ?_⟩) | ((conv => whnf); refine ⟨_, _, _, _, rfl, ?_⟩) | ((conv => whnf); refine DL.exn 0 ⟨_, rfl, ?_⟩) | ((conv => whnf); refine DL.exn 1 ⟨_, rfl, ?_⟩) | ((conv => whnf); refine DL.exn 2 ⟨_, rfl, ?_⟩) | ((conv => whnf); refine DL.exn 3 ⟨_, rfl, ?_⟩) | ((conv => whnf); refine DL.exn 4 ⟨_, rfl, ?_⟩) | ((conv => whnf); refine DL.exn 5 ⟨_, rfl, ?_⟩) | ((conv => whnf); refine DL.exn 0 ⟨_, _, rfl, rfl, ?_⟩) | ((conv => whnf); refine DL.exn 1 ⟨_, _, rfl, rfl, ?_⟩) | ((conv => whnf); refine DL.exn 2 ⟨_, _, rfl, rfl, ?_⟩) | ((conv => whnf); refine DL.exn 3 ⟨_, _, rfl, rfl, ?_⟩) | ((conv => whnf); refine DL.exn 4 ⟨_, _, rfl, rfl, ?_⟩) | ((conv => whnf); refine DL.exn 5 ⟨_, _, rfl, rfl, ?_⟩) | ((conv => whnf); refine DL.exn 0 ⟨_, _, rfl, ?_⟩) | ((conv => whnf); refine DL.exn 1 ⟨_, _, rfl, ?_⟩) | ((conv => whnf); refine DL.exn 2 ⟨_, _, rfl, ?_⟩) | ((conv => whnf); refine DL.exn 3 ⟨_, _, rfl, ?_⟩) | ((conv => whnf); refine DL.exn 4 ⟨_, _, rfl, ?_⟩) | ((conv => whnf); refine DL.exn 5 ⟨_, _, rfl, ?_⟩) | ((conv => whnf); refine DL.exn 0 ⟨_, _, _, rfl, rfl, ?_⟩) | ((conv => whnf); refine DL.exn 1 ⟨_, _, _, rfl, rfl, ?_⟩) | ((conv => whnf); refine DL.exn 2 ⟨_, _, _, rfl, rfl, ?_⟩) | ((conv => whnf); refine DL.exn 3 ⟨_, _, _, rfl, rfl, ?_⟩) | ((conv => whnf); refine DL.exn 4 ⟨_, _, _, rfl, rfl, ?_⟩) | ((conv => whnf); refine DL.exn 5 ⟨_, _, _, rfl, rfl, ?_⟩) | ((conv => whnf); refine Or.inl ⟨by decide, by decide, ?_⟩) | ((conv => whnf); refine Or.inr ⟨_, rfl, by decide, ?_⟩) | ((conv => whnf); refine And.intro (by first | assumption | rfl | decide | omega | exact ⟨rfl, by decide⟩ | exact Nat.le_of_ble_eq_true rfl | exact ⟨rfl, rfl⟩ | exact small_ok (by omega) (by omega) | exact ⟨small_ok (by omega) (by omega), small_ok (by omega) (by omega)⟩ | exact cdiv_ok (by omega) (by omega) | exact cpow_ok (by omega) (by omega) (by omega) (by omega) | decide +kernel) ?_))
  simp only [xSeq, xSet, xIfS, xNext, xRet, xRetN, xDrop, xNever, xBreak, xCont, xOp, xB, blK, xVar, xC, xTru, truK, xAnd, xOr, xNot, xAndV, xOrV, xNotV, xIf, xNil, xCons, xTup, xLst, xLstM, xCall, xCallP, xCallK, gSel, xMeth, xMethP, insK, xMake, xMakeM, xFld, fldK, getK, rdAdd, rdI, rdI0, rdB0, rdMul, rdEqA, viewK, ownK, seqK, lstK, tupK, tupxK, ixK, rdIsN, isN, rdIn, xChain, xUn, xgName, xgNil, xgCons, xgTup, xgSub, setL, xAsg, xPar, xAug, xSetF, PutF, xAugF, xiSeq, xiTup, xiR1, xiR2, xiEnum, xiZip, xFor, xLoop, xFrz, xFz, xYes, xLc, xLcMA, xCL, xCB, rdLen, rdSum, rdAny, rdAll, rdC2, rdC1, rdInt, rdList, rdListM, rdTup, rdTupX, rdSortI, rdSortP, rdIsi, xML, rdAppend, rdExtend, rdPopAt, rdPop, rdIndexI, xTupIx, rdIx, xoN, xoS, xSl, xSlM, xRev, xLR, xLRM, xDGet, dkK, xDPut, xVals, xDisp, xAugL, xLenSet, xSlS, scrK, startD, wipeD, List.getElem?_cons_zero, List.getElem?_cons_succ, List.set_cons_zero, List.set_cons_succ, List.map_cons, List.map_nil, List.cons_append, List.nil_append, List.append_nil, List.length_cons, List.length_nil, List.replicate_succ, List.replicate_zero, Nat.reduceSub, Nat.reduceAdd, Nat.reduceSubDiff, Nat.reduceLeDiff, decide_eq_true_eq, Bool.and_eq_true, ite_true, reduceIte, reduceCtorEq, true_and, and_true, beq_int, beq_pair, beq_ints, beq_pairs, any_il, any_pl, pl_int, pl_ints, pl_pair, pl_pairs, all_il, all_pl, tyD, List.length_map]
  refine ⟨by omega, ?_⟩
  have hjl : (i + 1) % row.length < row.length := Nat.mod_lt _ (by omega)
  rw [succ_mod]
  have sw := swp_data (row := row) (i := i) rfl
  generalize hg : (i + 1) % row.length = j at *
  repeat (first | ((conv => whnf); refine ⟨_, rfl, ?_⟩) | ((conv => whnf); refine ⟨_, _, rfl, ?_⟩) | ((conv => whnf); refine ⟨_, _, _, rfl, ?_⟩) | ((conv => whnf); refine ⟨_, _, _, _, rfl, ?_⟩) | ((conv => whnf); refine DL.exn 0 ⟨_, rfl, ?_⟩) | ((conv => whnf); refine DL.exn 1 ⟨_, rfl, ?_⟩) | ((conv => whnf); refine DL.exn 2 ⟨_, rfl, ?_⟩) | ((conv => whnf); refine DL.exn 3 ⟨_, rfl, ?_⟩) | ((conv => whnf); refine DL.exn 4 ⟨_, rfl, ?_⟩) | ((conv => whnf); refine DL.exn 5 ⟨_, rfl, ?_⟩) | ((conv => whnf); refine DL.exn 0 ⟨_, _, rfl, rfl, ?_⟩) | ((conv => whnf); refine DL.exn 1 ⟨_, _, rfl, rfl, ?_⟩) | ((conv => whnf); refine DL.exn 2 ⟨_, _, rfl, rfl, ?_⟩) | ((conv => whnf); refine DL.exn 3 ⟨_, _, rfl, rfl, ?_⟩) | ((conv => whnf); refine DL.exn 4 ⟨_, _, rfl, rfl, ?_⟩) | ((conv => whnf); refine DL.exn 5 ⟨_, _, rfl, rfl, ?_⟩) | ((conv => whnf); refine DL.exn 0 ⟨_, _, rfl, ?_⟩) | ((conv => whnf); refine DL.exn 1 ⟨_, _, rfl, ?_⟩) | ((conv => whnf); refine DL.exn 2 ⟨_, _, rfl, ?_⟩) | ((conv => whnf); refine DL.exn 3 ⟨_, _, rfl, ?_⟩) | ((conv => whnf); refine DL.exn 4 ⟨_, _, rfl, ?_⟩) | ((conv => whnf); refine DL.exn 5 ⟨_, _, rfl, ?_⟩) | ((conv => whnf); refine DL.exn 0 ⟨_, _, _, rfl, rfl, ?_⟩) | ((conv => whnf); refine DL.exn 1 ⟨_, _, _, rfl, rfl, ?_⟩) | ((conv => whnf); refine DL.exn 2 ⟨_, _, _, rfl, rfl, ?_⟩) | ((conv => whnf); refine DL.exn 3 ⟨_, _, _, rfl, rfl, ?_⟩) | ((conv => whnf); refine DL.exn 4 ⟨_, _, _, rfl, rfl, ?_⟩) | ((conv => whnf); refine DL.exn 5 ⟨_, _, _, rfl, rfl, ?_⟩) | ((conv => whnf); refine Or.inl ⟨by decide, by decide, ?_⟩) | ((conv => whnf); refine Or.inr ⟨_, rfl, by decide, ?_⟩) | ((conv => whnf); refine And.intro (by first | assumption | rfl | decide | omega | exact ⟨rfl, by decide⟩ | exact Nat.le_of_ble_eq_true rfl | exact ⟨rfl, rfl⟩ | exact small_ok (by omega) (by omega) | exact ⟨small_ok (by omega) (by omega), small_ok (by omega) (by omega)⟩ | exact cdiv_ok (by omega) (by omega) | exact cpow_ok (by omega) (by omega) (by omega) (by omega) | decide +kernel) ?_))
  refine ⟨_, atI_map (z := 0) (by omega) (by omega), ?_⟩
  repeat (first | ((conv => whnf); refine ⟨_, rfl, ?_⟩) | ((conv => whnf); refine ⟨_, _, rfl, ?_⟩) | ((conv => whnf); refine ⟨_, _, _, rfl, ?_⟩) | ((conv => whnf); refine ⟨_, _, _, _, rfl, ?_⟩) | ((conv => whnf); refine DL.exn 0 ⟨_, rfl, ?_⟩) | ((conv => whnf); refine DL.exn 1 ⟨_, rfl, ?_⟩) | ((conv => whnf); refine DL.exn 2 ⟨_, rfl, ?_⟩) | ((conv => whnf); refine DL.exn 3 ⟨_, rfl, ?_⟩) | ((conv => whnf); refine DL.exn 4 ⟨_, rfl, ?_⟩) | ((conv => whnf); refine DL.exn 5 ⟨_, rfl, ?_⟩) | ((conv => whnf); refine DL.exn 0 ⟨_, _, rfl, rfl, ?_⟩) | ((conv => whnf); refine DL.exn 1 ⟨_, _, rfl, rfl, ?_⟩) | ((conv => whnf); refine DL.exn 2 ⟨_, _, rfl, rfl, ?_⟩) | ((conv => whnf); refine DL.exn 3 ⟨_, _, rfl, rfl, ?_⟩) | ((conv => whnf); refine DL.exn 4 ⟨_, _, rfl, rfl, ?_⟩) | ((conv => whnf); refine DL.exn 5 ⟨_, _, rfl, rfl, ?_⟩) | ((conv => whnf); refine DL.exn 0 ⟨_, _, rfl, ?_⟩) | ((conv => whnf); refine DL.exn 1 ⟨_, _, rfl, ?_⟩) | ((conv => whnf); refine DL.exn 2 ⟨_, _, rfl, ?_⟩) | ((conv => whnf); refine DL.exn 3 ⟨_, _, rfl, ?_⟩) | ((conv => whnf); refine DL.exn 4 ⟨_, _, rfl, ?_⟩) | ((conv => whnf); refine DL.exn 5 ⟨_, _, rfl, ?_⟩) | ((conv => whnf); refine DL.exn 0 ⟨_, _, _, rfl, rfl, ?_⟩) | ((conv => whnf); refine DL.exn 1 ⟨_, _, _, rfl, rfl, ?_⟩) | ((conv => whnf); refine DL.exn 2 ⟨_, _, _, rfl, rfl, ?_⟩) | ((conv => whnf); refine DL.exn 3 ⟨_, _, _, rfl, rfl, ?_⟩) | ((conv => whnf); refine DL.exn 4 ⟨_, _, _, rfl, rfl, ?_⟩) | ((conv => whnf); refine DL.exn 5 ⟨_, _, _, rfl, rfl, ?_⟩) | ((conv => whnf); refine Or.inl ⟨by decide, by decide, ?_⟩) | ((conv => whnf); refine Or.inr ⟨_, rfl, by decide, ?_⟩) | ((conv => whnf); refine And.intro (by first | assumption | rfl | decide | omega | exact ⟨rfl, by decide⟩ | exact Nat.le_of_ble_eq_true rfl | exact ⟨rfl, rfl⟩ | exact small_ok (by omega) (by omega) | exact ⟨small_ok (by omega) (by omega), small_ok (by omega) (by omega)⟩ | exact cdiv_ok (by omega) (by omega) | exact cpow_ok (by omega) (by omega) (by omega) (by omega) | decide +kernel) ?_))
  refine ⟨_, atI_map (z := 0) (by omega) (by omega), ?_⟩
  repeat (first | ((conv => whnf); refine ⟨_, rfl, ?_⟩) | ((conv => whnf); refine ⟨_, _, rfl, ?_⟩) | ((conv => whnf); refine ⟨_, _, _, rfl, ?_⟩) | ((conv => whnf); refine ⟨_, _, _, _, rfl, ?_⟩) | ((conv => whnf); refine DL.exn 0 ⟨_, rfl, ?_⟩) | ((conv => whnf); refine DL.exn 1 ⟨_, rfl, ?_⟩) | ((conv => whnf); refine DL.exn 2 ⟨_, rfl, ?_⟩) | ((conv => whnf); refine DL.exn 3 ⟨_, rfl, ?_⟩) | ((conv => whnf); refine DL.exn 4 ⟨_, rfl, ?_⟩) | ((conv => whnf); refine DL.exn 5 ⟨_, rfl, ?_⟩) | ((conv => whnf); refine DL.exn 0 ⟨_, _, rfl, rfl, ?_⟩) | ((conv => whnf); refine DL.exn 1 ⟨_, _, rfl, rfl, ?_⟩) | ((conv => whnf); refine DL.exn 2 ⟨_, _, rfl, rfl, ?_⟩) | ((conv => whnf); refine DL.exn 3 ⟨_, _, rfl, rfl, ?_⟩) | ((conv => whnf); refine DL.exn 4 ⟨_, _, rfl, rfl, ?_⟩) | ((conv => whnf); refine DL.exn 5 ⟨_, _, rfl, rfl, ?_⟩) | ((conv => whnf); refine DL.exn 0 ⟨_, _, rfl, ?_⟩) | ((conv => whnf); refine DL.exn 1 ⟨_, _, rfl, ?_⟩) | ((conv => whnf); refine DL.exn 2 ⟨_, _, rfl, ?_⟩) | ((conv => whnf); refine DL.exn 3 ⟨_, _, rfl, ?_⟩) | ((conv => whnf); refine DL.exn 4 ⟨_, _, rfl, ?_⟩) | ((conv => whnf); refine DL.exn 5 ⟨_, _, rfl, ?_⟩) | ((conv => whnf); refine DL.exn 0 ⟨_, _, _, rfl, rfl, ?_⟩) | ((conv => whnf); refine DL.exn 1 ⟨_, _, _, rfl, rfl, ?_⟩) | ((conv => whnf); refine DL.exn 2 ⟨_, _, _, rfl, rfl, ?_⟩) | ((conv => whnf); refine DL.exn 3 ⟨_, _, _, rfl, rfl, ?_⟩) | ((conv => whnf); refine DL.exn 4 ⟨_, _, _, rfl, rfl, ?_⟩) | ((conv => whnf); refine DL.exn 5 ⟨_, _, _, rfl, rfl, ?_⟩) | ((conv => whnf); refine Or.inl ⟨by decide, by decide, ?_⟩) | ((conv => whnf); refine Or.inr ⟨_, rfl, by decide, ?_⟩) | ((conv => whnf); refine And.intro (by first | assumption | rfl | decide | omega | exact ⟨rfl, by decide⟩ | exact Nat.le_of_ble_eq_true rfl | exact ⟨rfl, rfl⟩ | exact small_ok (by omega) (by omega) | exact ⟨small_ok (by omega) (by omega), small_ok (by omega) (by omega)⟩ | exact cdiv_ok (by omega) (by omega) | exact cpow_ok (by omega) (by omega) (by omega) (by omega) | decide +kernel) ?_))
  refine ⟨0, _, i, rfl, ixN_natC (by simpa using hi), 0, _, j, rfl, ixN_natC (by simpa using hjl), 0, _, rfl, rtn_all ?_⟩
  show Q (.lst (((row.map D.int).set i (.int (row.getD j 0))).set j (.int (row.getD i 0)))) []
  rw [sw]
  exact q
def sg (i n k : Nat) : Nat := if k = (i + 1) % n then i else if k = i then (i + 1) % n else k
theorem swp_len {row : List Int} {i : Nat} : (swp row i).length = row.length := by simp [swp]
theorem swp_get {row : List Int} {i k : Nat} (hk : k < row.length) : (swp row i).getD k 0 = row.getD (sg i row.length k) 0 := by
  rw [getD_eq (by rw [swp_len]; exact hk)]
  unfold swp sg
  simp only [List.getElem_set]
  by_cases h1 : (i + 1) % row.length = k
  · rw [if_pos h1, if_pos h1.symm]
  · by_cases h2 : i = k
    · rw [if_neg h1, if_pos h2, if_neg (fun z => h1 z.symm), if_pos h2.symm]
    · rw [if_neg h1, if_neg h2, if_neg (fun z => h1 z.symm), if_neg (fun z => h2 z.symm), getD_eq hk]
theorem next_mod {i n : Nat} (hi : i < n) : (i + 1) % n = if i + 1 = n then 0 else i + 1 := by
  split
  · rename_i h; rw [h]; exact Nat.mod_self _
  · exact Nat.mod_eq_of_lt (by omega)
theorem sg_lt {i n k : Nat} (hi : i < n) (hk : k < n) : sg i n k < n := by
  have : (i + 1) % n < n := Nat.mod_lt _ (by omega)
  unfold sg
  split
  · omega
  · split <;> omega
theorem sg_inj {i n k l : Nat} (hi : i < n) (hn : 2 ≤ n) (e : sg i n k = sg i n l) : k = l := by
  unfold sg at e
  rw [next_mod hi] at e
  split at e <;> split at e <;> split at e <;> (try split at e) <;> (try split at e) <;> omega
theorem swp_ok {n : Int} {row : List Int} {i : Nat} (ok : RowOk n row) (hi : i < row.length) : RowOk n (swp row i) := by
  have h3 := ok.lo
  have hl := ok.len
  refine ⟨ok.lo, ok.hi, by rw [swp_len]; exact ok.len, ?_, ?_⟩
  · refine List.pairwise_iff_getElem.mpr fun a b ha hb hab e => ?_
    rw [swp_len] at ha hb
    rw [← getD_eq (z := 0) (by rw [swp_len]; exact ha), ← getD_eq (z := 0) (by rw [swp_len]; exact hb), swp_get ha, swp_get hb] at e
    have := sg_inj hi (by omega) (nd_inj ok.nd (sg_lt hi ha) (sg_lt hi hb) e)
    omega
  · intro x hx
    obtain ⟨k, hk, rfl⟩ := List.getElem_of_mem hx
    rw [swp_len] at hk
    rw [← getD_eq (z := 0), swp_get hk]
    exact ok.mem _ (DL.getD_mem (sg_lt hi hk))
theorem len_f_changed {K : PySem.W.Frag} : ∀ es M Q E, sp_f_changed K es M Q E → es.length = 2 := by
  rintro _ _ _ _ ⟨_, _, _, rfl, _⟩; rfl
theorem rd_f_changed {K : PySem.W.Frag} : ∀ es M Q E, sp_f_changed K es M Q E → t_f_changed K { nx := fun _ M => Rtn Q .non M, rt := Rtn Q } (startD nm_f_changed es) M := by
  rintro _ M Q _ ⟨n, row, i, rfl, rfl, ok, hi, q⟩
  repeat (first | ((conv => whnf); refine ⟨_, rfl, ?_⟩) | ((conv => whnf); refine ⟨_, _, rfl, ?_⟩) | ((conv => whnf); refine ⟨_, _, _, rfl, ?_⟩) | ((conv => whnf); refine ⟨_, _, _, _, rfl, ?_⟩) | ((conv => whnf); refine DL.exn 0 ⟨_, rfl, ?_⟩) | ((conv => whnf); refine DL.exn 1 ⟨_, rfl, ?_⟩) | ((conv => whnf); refine DL.exn 2 ⟨_, rfl, ?_⟩) | ((conv => whnf); refine DL.exn 3 ⟨_, rfl, ?_⟩) | ((conv => whnf); refine DL.exn 4 ⟨_, rfl, ?_⟩) | ((conv => whnf); refine DL.exn 5 ⟨_, rfl, ?_⟩) | ((conv => whnf); refine DL.exn 0 ⟨_, _, rfl, rfl, ?_⟩) | ((conv => whnf); refine DL.exn 1 ⟨_, _, rfl, rfl, ?_⟩) | ((conv => whnf); refine DL.exn 2 ⟨_, _, rfl, rfl, ?_⟩) | ((conv => whnf); refine DL.exn 3 ⟨_, _, rfl, rfl, ?_⟩) | ((conv => whnf); refine DL.exn 4 ⟨_, _, rfl, rfl, ?_⟩) | ((conv => whnf); refine DL.exn 5 ⟨_, _, rfl, rfl, ?_⟩) | ((conv => whnf); refine DL.exn 0 ⟨_, _, rfl, ?_⟩) | ((conv => whnf); refine DL.exn 1 ⟨_, _, rfl, ?_⟩) | ((conv => whnf); refine DL.exn 2 ⟨_, _, rfl, ?_⟩) | ((conv => whnf); refine DL.exn 3 ⟨_, _, rfl, ?_⟩) | ((conv => whnf); refine DL.exn 4 ⟨_, _, rfl, ?_⟩) | ((conv => whnf); refine DL.exn 5 ⟨_, _, rfl, ?_⟩) | ((conv => whnf); refine DL.exn 0 ⟨_, _, _, rfl, rfl, ?_⟩) | ((conv => whnf); refine DL.exn 1 ⟨_, _, _, rfl, rfl, ?_⟩) | ((conv => whnf); refine DL.exn 2 ⟨_, _, _, rfl, rfl, ?_⟩) | ((conv => whnf); refine DL.exn 3 ⟨_, _, _, rfl, rfl, ?_⟩) | ((conv => whnf); refine DL.exn 4 ⟨_, _, _, rfl, rfl, ?_⟩) | ((conv => whnf); refine DL.exn 5 ⟨_, _, _, rfl, rfl, ?_⟩) | ((conv => whnf); refine Or.inl ⟨by decide, by decide, ?_⟩) | ((conv => whnf); refine Or.inr ⟨_, rfl, by decide, ?_⟩) | ((conv => whnf); refine And.intro (by first | assumption | rfl | decide | omega | exact ⟨rfl, by decide⟩ | exact Nat.le_of_ble_eq_true rfl | exact ⟨rfl, rfl⟩ | exact small_ok (by omega) (by omega) | exact ⟨small_ok (by omega) (by omega), small_ok (by omega) (by omega)⟩ | exact cdiv_ok (by omega) (by omega) | exact cpow_ok (by omega) (by omega) (by omega) (by omega) | decide +kernel) ?_))
  intro a
  repeat (first | ((conv => whnf); refine ⟨_, rfl, ?_⟩) | ((conv => whnf); refine ⟨_, _, rfl, ?_⟩) | ((conv => whnf); refine ⟨_, _, _, rfl, ?_⟩) | ((conv => whnf); refine ⟨_, _, _, _, rfl, ?_⟩) | ((conv => whnf); refine DL.exn 0 ⟨_, rfl, ?_⟩) | ((conv => whnf); refine DL.exn 1 ⟨_, rfl, ?_⟩) | ((conv => whnf); refine DL.exn 2 ⟨_, rfl, ?_⟩) | ((conv => whnf); refine DL.exn 3 ⟨_, rfl, ?_⟩) | ((conv => whnf); refine DL.exn 4 ⟨_, rfl, ?_⟩) | ((conv => whnf); refine DL.exn 5 ⟨_, rfl, ?_⟩) | ((conv => whnf); refine DL.exn 0 ⟨_, _, rfl, rfl, ?_⟩) | ((conv => whnf); refine DL.exn 1 ⟨_, _, rfl, rfl, ?_⟩) | ((conv => whnf); refine DL.exn 2 ⟨_, _, rfl, rfl, ?_⟩) | ((conv => whnf); refine DL.exn 3 ⟨_, _, rfl, rfl, ?_⟩) | ((conv => whnf); refine DL.exn 4 ⟨_, _, rfl, rfl, ?_⟩) | ((conv => whnf); refine DL.exn 5 ⟨_, _, rfl, rfl, ?_⟩) | ((conv => whnf); refine DL.exn 0 ⟨_, _, rfl, ?_⟩) | ((conv => whnf); refine DL.exn 1 ⟨_, _, rfl, ?_⟩) | ((conv => whnf); refine DL.exn 2 ⟨_, _, rfl, ?_⟩) | ((conv => whnf); refine DL.exn 3 ⟨_, _, rfl, ?_⟩) | ((conv => whnf); refine DL.exn 4 ⟨_, _, rfl, ?_⟩) | ((conv => whnf); refine DL.exn 5 ⟨_, _, rfl, ?_⟩) | ((conv => whnf); refine DL.exn 0 ⟨_, _, _, rfl, rfl, ?_⟩) | ((conv => whnf); refine DL.exn 1 ⟨_, _, _, rfl, rfl, ?_⟩) | ((conv => whnf); refine DL.exn 2 ⟨_, _, _, rfl, rfl, ?_⟩) | ((conv => whnf); refine DL.exn 3 ⟨_, _, _, rfl, rfl, ?_⟩) | ((conv => whnf); refine DL.exn 4 ⟨_, _, _, rfl, rfl, ?_⟩) | ((conv => whnf); refine DL.exn 5 ⟨_, _, _, rfl, rfl, ?_⟩) | ((conv => whnf); refine Or.inl ⟨by decide, by decide, ?_⟩) | ((conv => whnf); refine Or.inr ⟨_, rfl, by decide, ?_⟩) | ((conv => whnf); refine And.intro (by first | assumption | rfl | decide | omega | exact ⟨rfl, by decide⟩ | exact Nat.le_of_ble_eq_true rfl | exact ⟨rfl, rfl⟩ | exact small_ok (by omega) (by omega) | exact ⟨small_ok (by omega) (by omega), small_ok (by omega) (by omega)⟩ | exact cdiv_ok (by omega) (by omega) | exact cpow_ok (by omega) (by omega) (by omega) (by omega) | decide +kernel) ?_))
  simp only [xSeq, xSet, xIfS, xNext, xRet, xRetN, xDrop, xNever, xBreak, xCont, xOp, xB, blK, xVar, xC, xTru, truK, xAnd, xOr, xNot, xAndV, xOrV, xNotV, xIf, xNil, xCons, xTup, xLst, xLstM, xCall, xCallP, xCallK, gSel, xMeth, xMethP, insK, xMake, xMakeM, xFld, fldK, getK, rdAdd, rdI, rdI0, rdB0, rdMul, rdEqA, viewK, ownK, seqK, lstK, tupK, tupxK, ixK, rdIsN, isN, rdIn, xChain, xUn, xgName, xgNil, xgCons, xgTup, xgSub, setL, xAsg, xPar, xAug, xSetF, PutF, xAugF, xiSeq, xiTup, xiR1, xiR2, xiEnum, xiZip, xFor, xLoop, xFrz, xFz, xYes, xLc, xLcMA, xCL, xCB, rdLen, rdSum, rdAny, rdAll, rdC2, rdC1, rdInt, rdList, rdListM, rdTup, rdTupX, rdSortI, rdSortP, rdIsi, xML, rdAppend, rdExtend, rdPopAt, rdPop, rdIndexI, xTupIx, rdIx, xoN, xoS, xSl, xSlM, xRev, xLR, xLRM, xDGet, dkK, xDPut, xVals, xDisp, xAugL, xLenSet, xSlS, scrK, startD, wipeD, List.getElem?_cons_zero, List.getElem?_cons_succ, List.set_cons_zero, List.set_cons_succ, List.map_cons, List.map_nil, List.cons_append, List.nil_append, List.append_nil, List.length_cons, List.length_nil, List.replicate_succ, List.replicate_zero, Nat.reduceSub, Nat.reduceAdd, Nat.reduceSubDiff, Nat.reduceLeDiff, decide_eq_true_eq, Bool.and_eq_true, ite_true, reduceIte, reduceCtorEq, true_and, and_true, beq_int, beq_pair, beq_ints, beq_pairs, any_il, any_pl, pl_int, pl_ints, pl_pair, pl_pairs, all_il, all_pl, tyD, List.length_map]
  refine ⟨by omega, 0, _, rfl, by simp; omega, 0, _, rfl, ?_⟩
  have hjl : (i + 1) % row.length < row.length := Nat.mod_lt _ (by omega)
  have sw := swp_data (row := row) (i := i) rfl
  simp only [xSeq, xSet, xIfS, xNext, xRet, xRetN, xDrop, xNever, xBreak, xCont, xOp, xB, blK, xVar, xC, xTru, truK, xAnd, xOr, xNot, xAndV, xOrV, xNotV, xIf, xNil, xCons, xTup, xLst, xLstM, xCall, xCallP, xCallK, gSel, xMeth, xMethP, insK, xMake, xMakeM, xFld, fldK, getK, rdAdd, rdI, rdI0, rdB0, rdMul, rdEqA, viewK, ownK, seqK, lstK, tupK, tupxK, ixK, rdIsN, isN, rdIn, xChain, xUn, xgName, xgNil, xgCons, xgTup, xgSub, setL, xAsg, xPar, xAug, xSetF, PutF, xAugF, xiSeq, xiTup, xiR1, xiR2, xiEnum, xiZip, xFor, xLoop, xFrz, xFz, xYes, xLc, xLcMA, xCL, xCB, rdLen, rdSum, rdAny, rdAll, rdC2, rdC1, rdInt, rdList, rdListM, rdTup, rdTupX, rdSortI, rdSortP, rdIsi, xML, rdAppend, rdExtend, rdPopAt, rdPop, rdIndexI, xTupIx, rdIx, xoN, xoS, xSl, xSlM, xRev, xLR, xLRM, xDGet, dkK, xDPut, xVals, xDisp, xAugL, xLenSet, xSlS, scrK, startD, wipeD, List.getElem?_cons_zero, List.getElem?_cons_succ, List.set_cons_zero, List.set_cons_succ, List.map_cons, List.map_nil, List.cons_append, List.nil_append, List.append_nil, List.length_cons, List.length_nil, List.replicate_succ, List.replicate_zero, Nat.reduceSub, Nat.reduceAdd, Nat.reduceSubDiff, Nat.reduceLeDiff, decide_eq_true_eq, Bool.and_eq_true, ite_true, reduceIte, reduceCtorEq, true_and, and_true, beq_int, beq_pair, beq_ints, beq_pairs, any_il, any_pl, pl_int, pl_ints, pl_pair, pl_pairs, all_il, all_pl, tyD, List.length_map]
  rw [succ_mod, Int.emod_eq_of_lt (a := (i : Int)) (by omega) (by omega)]
  have ok2 := swp_ok ok hi
  generalize hg : (i + 1) % row.length = j at *
  refine ⟨_, atI_map (z := 0) (by omega) (by omega), ?_⟩
  repeat (first | ((conv => whnf); refine ⟨_, rfl, ?_⟩) | ((conv => whnf); refine ⟨_, _, rfl, ?_⟩) | ((conv => whnf); refine ⟨_, _, _, rfl, ?_⟩) | ((conv => whnf); refine ⟨_, _, _, _, rfl, ?_⟩) | ((conv => whnf); refine DL.exn 0 ⟨_, rfl, ?_⟩) | ((conv => whnf); refine DL.exn 1 ⟨_, rfl, ?_⟩) | ((conv => whnf); refine DL.exn 2 ⟨_, rfl, ?_⟩) | ((conv => whnf); refine DL.exn 3 ⟨_, rfl, ?_⟩) | ((conv => whnf); refine DL.exn 4 ⟨_, rfl, ?_⟩) | ((conv => whnf); refine DL.exn 5 ⟨_, rfl, ?_⟩) | ((conv => whnf); refine DL.exn 0 ⟨_, _, rfl, rfl, ?_⟩) | ((conv => whnf); refine DL.exn 1 ⟨_, _, rfl, rfl, ?_⟩) | ((conv => whnf); refine DL.exn 2 ⟨_, _, rfl, rfl, ?_⟩) | ((conv => whnf); refine DL.exn 3 ⟨_, _, rfl, rfl, ?_⟩) | ((conv => whnf); refine DL.exn 4 ⟨_, _, rfl, rfl, ?_⟩) | ((conv => whnf); refine DL.exn 5 ⟨_, _, rfl, rfl, ?_⟩) | ((conv => whnf); refine DL.exn 0 ⟨_, _, rfl, ?_⟩) | ((conv => whnf); refine DL.exn 1 ⟨_, _, rfl, ?_⟩) | ((conv => whnf); refine DL.exn 2 ⟨_, _, rfl, ?_⟩) | ((conv => whnf); refine DL.exn 3 ⟨_, _, rfl, ?_⟩) | ((conv => whnf); refine DL.exn 4 ⟨_, _, rfl, ?_⟩) | ((conv => whnf); refine DL.exn 5 ⟨_, _, rfl, ?_⟩) | ((conv => whnf); refine DL.exn 0 ⟨_, _, _, rfl, rfl, ?_⟩) | ((conv => whnf); refine DL.exn 1 ⟨_, _, _, rfl, rfl, ?_⟩) | ((conv => whnf); refine DL.exn 2 ⟨_, _, _, rfl, rfl, ?_⟩) | ((conv => whnf); refine DL.exn 3 ⟨_, _, _, rfl, rfl, ?_⟩) | ((conv => whnf); refine DL.exn 4 ⟨_, _, _, rfl, rfl, ?_⟩) | ((conv => whnf); refine DL.exn 5 ⟨_, _, _, rfl, rfl, ?_⟩) | ((conv => whnf); refine Or.inl ⟨by decide, by decide, ?_⟩) | ((conv => whnf); refine Or.inr ⟨_, rfl, by decide, ?_⟩) | ((conv => whnf); refine And.intro (by first | assumption | rfl | decide | omega | exact ⟨rfl, by decide⟩ | exact Nat.le_of_ble_eq_true rfl | exact ⟨rfl, rfl⟩ | exact small_ok (by omega) (by omega) | exact ⟨small_ok (by omega) (by omega), small_ok (by omega) (by omega)⟩ | exact cdiv_ok (by omega) (by omega) | exact cpow_ok (by omega) (by omega) (by omega) (by omega) | decide +kernel) ?_))
  refine ⟨_, atI_map (z := 0) (by omega) (by omega), ?_⟩
  repeat (first | ((conv => whnf); refine ⟨_, rfl, ?_⟩) | ((conv => whnf); refine ⟨_, _, rfl, ?_⟩) | ((conv => whnf); refine ⟨_, _, _, rfl, ?_⟩) | ((conv => whnf); refine ⟨_, _, _, _, rfl, ?_⟩) | ((conv => whnf); refine DL.exn 0 ⟨_, rfl, ?_⟩) | ((conv => whnf); refine DL.exn 1 ⟨_, rfl, ?_⟩) | ((conv => whnf); refine DL.exn 2 ⟨_, rfl, ?_⟩) | ((conv => whnf); refine DL.exn 3 ⟨_, rfl, ?_⟩) | ((conv => whnf); refine DL.exn 4 ⟨_, rfl, ?_⟩) | ((conv => whnf); refine DL.exn 5 ⟨_, rfl, ?_⟩) | ((conv => whnf); refine DL.exn 0 ⟨_, _, rfl, rfl, ?_⟩) | ((conv => whnf); refine DL.exn 1 ⟨_, _, rfl, rfl, ?_⟩) | ((conv => whnf); refine DL.exn 2 ⟨_, _, rfl, rfl, ?_⟩) | ((conv => whnf); refine DL.exn 3 ⟨_, _, rfl, rfl, ?_⟩) | ((conv => whnf); refine DL.exn 4 ⟨_, _, rfl, rfl, ?_⟩) | ((conv => whnf); refine DL.exn 5 ⟨_, _, rfl, rfl, ?_⟩) | ((conv => whnf); refine DL.exn 0 ⟨_, _, rfl, ?_⟩) | ((conv => whnf); refine DL.exn 1 ⟨_, _, rfl, ?_⟩) | ((conv => whnf); refine DL.exn 2 ⟨_, _, rfl, ?_⟩) | ((conv => whnf); refine DL.exn 3 ⟨_, _, rfl, ?_⟩) | ((conv => whnf); refine DL.exn 4 ⟨_, _, rfl, ?_⟩) | ((conv => whnf); refine DL.exn 5 ⟨_, _, rfl, ?_⟩) | ((conv => whnf); refine DL.exn 0 ⟨_, _, _, rfl, rfl, ?_⟩) | ((conv => whnf); refine DL.exn 1 ⟨_, _, _, rfl, rfl, ?_⟩) | ((conv => whnf); refine DL.exn 2 ⟨_, _, _, rfl, rfl, ?_⟩) | ((conv => whnf); refine DL.exn 3 ⟨_, _, _, rfl, rfl, ?_⟩) | ((conv => whnf); refine DL.exn 4 ⟨_, _, _, rfl, rfl, ?_⟩) | ((conv => whnf); refine DL.exn 5 ⟨_, _, _, rfl, rfl, ?_⟩) | ((conv => whnf); refine Or.inl ⟨by decide, by decide, ?_⟩) | ((conv => whnf); refine Or.inr ⟨_, rfl, by decide, ?_⟩) | ((conv => whnf); refine And.intro (by first | assumption | rfl | decide | omega | exact ⟨rfl, by decide⟩ | exact Nat.le_of_ble_eq_true rfl | exact ⟨rfl, rfl⟩ | exact small_ok (by omega) (by omega) | exact ⟨small_ok (by omega) (by omega), small_ok (by omega) (by omega)⟩ | exact cdiv_ok (by omega) (by omega) | exact cpow_ok (by omega) (by omega) (by omega) (by omega) | decide +kernel) ?_))
  refine ⟨0, _, i, rfl, ixN_natC (by simpa using hi), 0, _, j, rfl, ixN_natC (by simpa using hjl), 0, _, rfl, fun b => ?_⟩
  refine ⟨b, n, swp row i, ?_, rfl, ok2, rfl, _, _, rfl, rtn_all q⟩
  show [D.ref b, .lst (((row.map D.int).set i (.int (row.getD j 0))).set j (.int (row.getD i 0)))] = _
  rw [sw]
theorem len_g_shuffled {K : PySem.W.Frag} : ∀ es M Q E, sp_g_shuffled K es M Q E → es.length = 2 := by
  rintro _ _ _ _ ⟨_, _, _, _, _, rfl, _⟩; rfl
theorem rd_g_shuffled {K : PySem.W.Frag} : ∀ es M Q E, sp_g_shuffled K es M Q E → t_g_shuffled K { nx := fun _ M => Rtn Q .non M, rt := Rtn Q } (startD nm_g_shuffled es) M := by
  rintro _ M Q _ ⟨a, w, c, k, ds, rfl, rfl, h0, h1, h2, hp, q⟩
  unfold t_g_shuffled
  repeat (first | ((conv => whnf); refine ⟨_, rfl, ?_⟩) | ((conv => whnf); refine ⟨_, _, rfl, ?_⟩) | ((conv => whnf); refine ⟨_, _, _, rfl, ?_⟩) | ((conv => whnf); refine ⟨_, _, _, _, rfl, ?_⟩) | ((conv => whnf); refine DL.exn 0 ⟨_, rfl, ?_⟩) | ((conv => whnf); refine DL.exn 1 ⟨_, rfl, ?_⟩) | ((conv => whnf); refine DL.exn 2 ⟨_, rfl, ?_⟩) | ((conv => whnf); refine DL.exn 3 ⟨_, rfl, ?_⟩) | ((conv => whnf); refine DL.exn 4 ⟨_, rfl, ?_⟩) | ((conv => whnf); refine DL.exn 5 ⟨_, rfl, ?_⟩) | ((conv => whnf); refine DL.exn 0 ⟨_, _, rfl, rfl, ?_⟩) | ((conv => whnf); refine DL.exn 1 ⟨_, _, rfl, rfl, ?_⟩) | ((conv => whnf); refine DL.exn 2 ⟨_, _, rfl, rfl, ?_⟩) | ((conv => whnf); refine DL.exn 3 ⟨_, _, rfl, rfl, ?_⟩) | ((conv => whnf); refine DL.exn 4 ⟨_, _, rfl, rfl, ?_⟩) | ((conv => whnf); refine DL.exn 5 ⟨_, _, rfl, rfl, ?_⟩) | ((conv => whnf); refine DL.exn 0 ⟨_, _, rfl, ?_⟩) | ((conv => whnf); refine DL.exn 1 ⟨_, _, rfl, ?_⟩) | ((conv => whnf); refine DL.exn 2 ⟨_, _, rfl, ?_⟩) | ((conv => whnf); refine DL.exn 3 ⟨_, _, rfl, ?_⟩) | ((conv => whnf); refine DL.exn 4 ⟨_, _, rfl, ?_⟩) | ((conv => whnf); refine DL.exn 5 ⟨_, _, rfl, ?_⟩) | ((conv => whnf); refine DL.exn 0 ⟨_, _, _, rfl, rfl, ?_⟩) | ((conv => whnf); refine DL.exn 1 ⟨_, _, _, rfl, rfl, ?_⟩) | ((conv => whnf); refine DL.exn 2 ⟨_, _, _, rfl, rfl, ?_⟩) | ((conv => whnf); refine DL.exn 3 ⟨_, _, _, rfl, rfl, ?_⟩) | ((conv => whnf); refine DL.exn 4 ⟨_, _, _, rfl, rfl, ?_⟩) | ((conv => whnf); refine DL.exn 5 ⟨_, _, _, rfl, rfl, ?_⟩) | ((conv => whnf); refine Or.inl ⟨by decide, by decide, ?_⟩) | ((conv => whnf); refine Or.inr ⟨_, rfl, by decide, ?_⟩) | ((conv => whnf); refine And.intro (by first | assumption | rfl | decide | omega | exact ⟨rfl, by decide⟩ | exact Nat.le_of_ble_eq_true rfl | exact ⟨rfl, rfl⟩ | exact small_ok (by omega) (by omega) | exact ⟨small_ok (by omega) (by omega), small_ok (by omega) (by omega)⟩ | exact cdiv_ok (by omega) (by omega) | exact cpow_ok (by omega) (by omega) (by omega) (by omega) | decide +kernel) ?_))
  intro b
  repeat (first | ((conv => whnf); refine ⟨_, rfl, ?_⟩) | ((conv => whnf); refine ⟨_, _, rfl, ?_⟩) | ((conv => whnf); refine ⟨_, _, _, rfl, ?_⟩) | ((conv => whnf); refine ⟨_, _, _, _, rfl, ?_⟩) | ((conv => whnf); refine DL.exn 0 ⟨_, rfl, ?_⟩) | ((conv => whnf); refine DL.exn 1 ⟨_, rfl, ?_⟩) | ((conv => whnf); refine DL.exn 2 ⟨_, rfl, ?_⟩) | ((conv => whnf); refine DL.exn 3 ⟨_, rfl, ?_⟩) | ((conv => whnf); refine DL.exn 4 ⟨_, rfl, ?_⟩) | ((conv => whnf); refine DL.exn 5 ⟨_, rfl, ?_⟩) | ((conv => whnf); refine DL.exn 0 ⟨_, _, rfl, rfl, ?_⟩) | ((conv => whnf); refine DL.exn 1 ⟨_, _, rfl, rfl, ?_⟩) | ((conv => whnf); refine DL.exn 2 ⟨_, _, rfl, rfl, ?_⟩) | ((conv => whnf); refine DL.exn 3 ⟨_, _, rfl, rfl, ?_⟩) | ((conv => whnf); refine DL.exn 4 ⟨_, _, rfl, rfl, ?_⟩) | ((conv => whnf); refine DL.exn 5 ⟨_, _, rfl, rfl, ?_⟩) | ((conv => whnf); refine DL.exn 0 ⟨_, _, rfl, ?_⟩) | ((conv => whnf); refine DL.exn 1 ⟨_, _, rfl, ?_⟩) | ((conv => whnf); refine DL.exn 2 ⟨_, _, rfl, ?_⟩) | ((conv => whnf); refine DL.exn 3 ⟨_, _, rfl, ?_⟩) | ((conv => whnf); refine DL.exn 4 ⟨_, _, rfl, ?_⟩) | ((conv => whnf); refine DL.exn 5 ⟨_, _, rfl, ?_⟩) | ((conv => whnf); refine DL.exn 0 ⟨_, _, _, rfl, rfl, ?_⟩) | ((conv => whnf); refine DL.exn 1 ⟨_, _, _, rfl, rfl, ?_⟩) | ((conv => whnf); refine DL.exn 2 ⟨_, _, _, rfl, rfl, ?_⟩) | ((conv => whnf); refine DL.exn 3 ⟨_, _, _, rfl, rfl, ?_⟩) | ((conv => whnf); refine DL.exn 4 ⟨_, _, _, rfl, rfl, ?_⟩) | ((conv => whnf); refine DL.exn 5 ⟨_, _, _, rfl, rfl, ?_⟩) | ((conv => whnf); refine Or.inl ⟨by decide, by decide, ?_⟩) | ((conv => whnf); refine Or.inr ⟨_, rfl, by decide, ?_⟩) | ((conv => whnf); refine And.intro (by first | assumption | rfl | decide | omega | exact ⟨rfl, by decide⟩ | exact Nat.le_of_ble_eq_true rfl | exact ⟨rfl, rfl⟩ | exact small_ok (by omega) (by omega) | exact ⟨small_ok (by omega) (by omega), small_ok (by omega) (by omega)⟩ | exact cdiv_ok (by omega) (by omega) | exact cpow_ok (by omega) (by omega) (by omega) (by omega) | decide +kernel) ?_))
  intro f
  conv => whnf
  refine wh_ind (fun m loc M => ∃ (rest done : List D) (w' k' : Int), m = rest.length ∧ loc = [some (.ref a), some (.lst ds), some (.ref b), some (.ref f)] ∧ (M = [(f, .lst done), (b, .lst rest), (a, wl w' c k')] ∨ M = [(a, wl w' c k'), (f, .lst done), (b, .lst rest)]) ∧ (done ++ rest).Perm ds ∧ k ≤ k' ∧ k' + rest.length ≤ k + ds.length) ?_
    ⟨ds, [], w, k, rfl, rfl, .inl rfl, List.Perm.refl _, Int.le_refl _, Int.le_refl _⟩
  rintro m _ _ NX ⟨rest, done, w', k', rfl, rfl, hM, hperm, hk, hk2⟩ nx
  have hpr : rest.all (pl 7) = true := by
    rw [List.all_eq_true] at hp ⊢
    exact fun x hx => hp x (hperm.mem_iff.mp (List.mem_append_right _ hx))
  have hdn : done.length < 900 := by
    have := hperm.length_eq
    simp at this; omega
  rcases hM with rfl | rfl <;>
  ( repeat (first | ((conv => whnf); refine ⟨_, rfl, ?_⟩) | ((conv => whnf); refine ⟨_, _, rfl, ?_⟩) | ((conv => whnf); refine ⟨_, _, _, rfl, ?_⟩) | ((conv => whnf); refine ⟨_, _, _, _, rfl, ?_⟩) | ((conv => whnf); refine DL.exn 0 ⟨_, rfl, ?_⟩) | ((conv => whnf); refine DL.exn 1 ⟨_, rfl, ?_⟩) | ((conv => whnf); refine DL.exn 2 ⟨_, rfl, ?_⟩) | ((conv => whnf); refine DL.exn 3 ⟨_, rfl, ?_⟩) | ((conv => whnf); refine DL.exn 4 ⟨_, rfl, ?_⟩) | ((conv => whnf); refine DL.exn 5 ⟨_, rfl, ?_⟩) | ((conv => whnf); refine DL.exn 0 ⟨_, _, rfl, rfl, ?_⟩) | ((conv => whnf); refine DL.exn 1 ⟨_, _, rfl, rfl, ?_⟩) | ((conv => whnf); refine DL.exn 2 ⟨_, _, rfl, rfl, ?_⟩) | ((conv => whnf); refine DL.exn 3 ⟨_, _, rfl, rfl, ?_⟩) | ((conv => whnf); refine DL.exn 4 ⟨_, _, rfl, rfl, ?_⟩) | ((conv => whnf); refine DL.exn 5 ⟨_, _, rfl, rfl, ?_⟩) | ((conv => whnf); refine DL.exn 0 ⟨_, _, rfl, ?_⟩) | ((conv => whnf); refine DL.exn 1 ⟨_, _, rfl, ?_⟩) | ((conv => whnf); refine DL.exn 2 ⟨_, _, rfl, ?_⟩) | ((conv => whnf); refine DL.exn 3 ⟨_, _, rfl, ?_⟩) | ((conv => whnf); refine DL.exn 4 ⟨_, _, rfl, ?_⟩) | ((conv => whnf); refine DL.exn 5 ⟨_, _, rfl, ?_⟩) | ((conv => whnf); refine DL.exn 0 ⟨_, _, _, rfl, rfl, ?_⟩) | ((conv => whnf); refine DL.exn 1 ⟨_, _, _, rfl, rfl, ?_⟩) | ((conv => whnf); refine DL.exn 2 ⟨_, _, _, rfl, rfl, ?_⟩) | ((conv => whnf); refine DL.exn 3 ⟨_, _, _, rfl, rfl, ?_⟩) | ((conv => whnf); refine DL.exn 4 ⟨_, _, _, rfl, rfl, ?_⟩) | ((conv => whnf); refine DL.exn 5 ⟨_, _, _, rfl, rfl, ?_⟩) | ((conv => whnf); refine Or.inl ⟨by decide, by decide, ?_⟩) | ((conv => whnf); refine Or.inr ⟨_, rfl, by decide, ?_⟩) | ((conv => whnf); refine And.intro (by first | assumption | rfl | decide | omega | exact ⟨rfl, by decide⟩ | exact Nat.le_of_ble_eq_true rfl | exact ⟨rfl, rfl⟩ | exact small_ok (by omega) (by omega) | exact ⟨small_ok (by omega) (by omega), small_ok (by omega) (by omega)⟩ | exact cdiv_ok (by omega) (by omega) | exact cpow_ok (by omega) (by omega) (by omega) (by omega) | decide +kernel) ?_))
    show (if (!beq (.lst rest) (.lst [])) = true then _ else _)
    rw [beq_nil]
    cases hr : rest with
    | nil =>
      rw [if_neg (by simp)]
      subst hr
      repeat (first | ((conv => whnf); refine ⟨_, rfl, ?_⟩) | ((conv => whnf); refine ⟨_, _, rfl, ?_⟩) | ((conv => whnf); refine ⟨_, _, _, rfl, ?_⟩) | ((conv => whnf); refine ⟨_, _, _, _, rfl, ?_⟩) | ((conv => whnf); refine DL.exn 0 ⟨_, rfl, ?_⟩) | ((conv => whnf); refine DL.exn 1 ⟨_, rfl, ?_⟩) | ((conv => whnf); refine DL.exn 2 ⟨_, rfl, ?_⟩) | ((conv => whnf); refine DL.exn 3 ⟨_, rfl, ?_⟩) | ((conv => whnf); refine DL.exn 4 ⟨_, rfl, ?_⟩) | ((conv => whnf); refine DL.exn 5 ⟨_, rfl, ?_⟩) | ((conv => whnf); refine DL.exn 0 ⟨_, _, rfl, rfl, ?_⟩) | ((conv => whnf); refine DL.exn 1 ⟨_, _, rfl, rfl, ?_⟩) | ((conv => whnf); refine DL.exn 2 ⟨_, _, rfl, rfl, ?_⟩) | ((conv => whnf); refine DL.exn 3 ⟨_, _, rfl, rfl, ?_⟩) | ((conv => whnf); refine DL.exn 4 ⟨_, _, rfl, rfl, ?_⟩) | ((conv => whnf); refine DL.exn 5 ⟨_, _, rfl, rfl, ?_⟩) | ((conv => whnf); refine DL.exn 0 ⟨_, _, rfl, ?_⟩) | ((conv => whnf); refine DL.exn 1 ⟨_, _, rfl, ?_⟩) | ((conv => whnf); refine DL.exn 2 ⟨_, _, rfl, ?_⟩) | ((conv => whnf); refine DL.exn 3 ⟨_, _, rfl, ?_⟩) | ((conv => whnf); refine DL.exn 4 ⟨_, _, rfl, ?_⟩) | ((conv => whnf); refine DL.exn 5 ⟨_, _, rfl, ?_⟩) | ((conv => whnf); refine DL.exn 0 ⟨_, _, _, rfl, rfl, ?_⟩) | ((conv => whnf); refine DL.exn 1 ⟨_, _, _, rfl, rfl, ?_⟩) | ((conv => whnf); refine DL.exn 2 ⟨_, _, _, rfl, rfl, ?_⟩) | ((conv => whnf); refine DL.exn 3 ⟨_, _, _, rfl, rfl, ?_⟩) | ((conv => whnf); refine DL.exn 4 ⟨_, _, _, rfl, rfl, ?_⟩) | ((conv => whnf); refine DL.exn 5 ⟨_, _, _, rfl, rfl, ?_⟩) | ((conv => whnf); refine Or.inl ⟨by decide, by decide, ?_⟩) | ((conv => whnf); refine Or.inr ⟨_, rfl, by decide, ?_⟩) | ((conv => whnf); refine And.intro (by first | assumption | rfl | decide | omega | exact ⟨rfl, by decide⟩ | exact Nat.le_of_ble_eq_true rfl | exact ⟨rfl, rfl⟩ | exact small_ok (by omega) (by omega) | exact ⟨small_ok (by omega) (by omega), small_ok (by omega) (by omega)⟩ | exact cdiv_ok (by omega) (by omega) | exact cpow_ok (by omega) (by omega) (by omega) (by omega) | decide +kernel) ?_))
      have q' := q done w' k' (by simpa using hperm) hk (by simp at hk2; omega)
      first | exact rtn_at [0] rfl q' | exact rtn_at [1] rfl q'
    | cons x xs =>
      rw [← hr]
      rw [if_pos (by simp [hr])]
      repeat (first | ((conv => whnf); refine ⟨_, rfl, ?_⟩) | ((conv => whnf); refine ⟨_, _, rfl, ?_⟩) | ((conv => whnf); refine ⟨_, _, _, rfl, ?_⟩) | ((conv => whnf); refine ⟨_, _, _, _, rfl, ?_⟩) | ((conv => whnf); refine DL.exn 0 ⟨_, rfl, ?_⟩) | ((conv => whnf); refine DL.exn 1 ⟨_, rfl, ?_⟩) | ((conv => whnf); refine DL.exn 2 ⟨_, rfl, ?_⟩) | ((conv => whnf); refine DL.exn 3 ⟨_, rfl, ?_⟩) | ((conv => whnf); refine DL.exn 4 ⟨_, rfl, ?_⟩) | ((conv => whnf); refine DL.exn 5 ⟨_, rfl, ?_⟩) | ((conv => whnf); refine DL.exn 0 ⟨_, _, rfl, rfl, ?_⟩) | ((conv => whnf); refine DL.exn 1 ⟨_, _, rfl, rfl, ?_⟩) | ((conv => whnf); refine DL.exn 2 ⟨_, _, rfl, rfl, ?_⟩) | ((conv => whnf); refine DL.exn 3 ⟨_, _, rfl, rfl, ?_⟩) | ((conv => whnf); refine DL.exn 4 ⟨_, _, rfl, rfl, ?_⟩) | ((conv => whnf); refine DL.exn 5 ⟨_, _, rfl, rfl, ?_⟩) | ((conv => whnf); refine DL.exn 0 ⟨_, _, rfl, ?_⟩) | ((conv => whnf); refine DL.exn 1 ⟨_, _, rfl, ?_⟩) | ((conv => whnf); refine DL.exn 2 ⟨_, _, rfl, ?_⟩) | ((conv => whnf); refine DL.exn 3 ⟨_, _, rfl, ?_⟩) | ((conv => whnf); refine DL.exn 4 ⟨_, _, rfl, ?_⟩) | ((conv => whnf); refine DL.exn 5 ⟨_, _, rfl, ?_⟩) | ((conv => whnf); refine DL.exn 0 ⟨_, _, _, rfl, rfl, ?_⟩) | ((conv => whnf); refine DL.exn 1 ⟨_, _, _, rfl, rfl, ?_⟩) | ((conv => whnf); refine DL.exn 2 ⟨_, _, _, rfl, rfl, ?_⟩) | ((conv => whnf); refine DL.exn 3 ⟨_, _, _, rfl, rfl, ?_⟩) | ((conv => whnf); refine DL.exn 4 ⟨_, _, _, rfl, rfl, ?_⟩) | ((conv => whnf); refine DL.exn 5 ⟨_, _, _, rfl, rfl, ?_⟩) | ((conv => whnf); refine Or.inl ⟨by decide, by decide, ?_⟩) | ((conv => whnf); refine Or.inr ⟨_, rfl, by decide, ?_⟩) | ((conv => whnf); refine And.intro (by first | assumption | rfl | decide | omega | exact ⟨rfl, by decide⟩ | exact Nat.le_of_ble_eq_true rfl | exact ⟨rfl, rfl⟩ | exact small_ok (by omega) (by omega) | exact ⟨small_ok (by omega) (by omega), small_ok (by omega) (by omega)⟩ | exact cdiv_ok (by omega) (by omega) | exact cpow_ok (by omega) (by omega) (by omega) (by omega) | decide +kernel) ?_))
      have hb : 0 < rest.length := by simp [hr]
      have key : ∀ (X : XQ), (∀ (d : Nat) w2 k2, d < rest.length → k' ≤ k2 → k2 ≤ k' + 1 → X (.int d) [(a, wl w2 c k2)]) → sp_g_draw K [.ref a, .int rest.length] [(a, wl w' c k')] X X0 := fun X hX =>
        ⟨a, w', c, k', rest.length, rfl, rfl, by omega, by omega, by omega, by omega, fun d w2 k2 hd0 hd1 hk3 hk4 => by
          obtain ⟨dn, rfl⟩ := Int.eq_ofNat_of_zero_le hd0
          exact hX dn w2 k2 (by omega) hk3 hk4⟩
      have fin : ∀ (d : Nat) (w2 k2 : Int) (hd : d < rest.length), k' ≤ k2 → k2 ≤ k' + 1 → NX [some (.ref a), some (.lst ds), some (.ref b), some (.ref f)] [(a, wl w2 c k2), (f, .lst (done ++ [rest[d]])), (b, .lst (rest.eraseIdx d))] := fun d w2 k2 hd h3 h4 => by
        have hle := List.length_eraseIdx_of_lt hd
        refine nx (rest.eraseIdx d).length _ _ (by omega) ⟨rest.eraseIdx d, done ++ [rest[d]], w2, k2, rfl, rfl, .inr rfl, ?_, by omega, by omega⟩
        refine List.Perm.trans ?_ hperm
        rw [List.append_assoc]
        refine List.Perm.append_left done ?_
        exact DL.erase_perm hd
      first
        | (refine call_at [0] rfl (key _ fun d w2 k2 hd h3 h4 => ?_)
           refine ⟨2, rest, d, rest[d], rfl, ixN_natC hd, List.getElem?_eq_getElem hd, 1, done, rfl, by omega, ?_⟩
           exact fin d w2 k2 hd h3 h4)
        | (refine call_at [2] rfl (key _ fun d w2 k2 hd h3 h4 => ?_)
           refine ⟨2, rest, d, rest[d], rfl, ixN_natC hd, List.getElem?_eq_getElem hd, 1, done, rfl, by omega, ?_⟩
           exact fin d w2 k2 hd h3 h4))
theorem len_g_pairs {K : PySem.W.Frag} : ∀ es M Q E, sp_g_pairs K es M Q E → es.length = 1 := by
  rintro _ _ _ _ ⟨_, rfl, _⟩; rfl
theorem rd_g_pairs {K : PySem.W.Frag} : ∀ es M Q E, sp_g_pairs K es M Q E → t_g_pairs K { nx := fun _ M => Rtn Q .non M, rt := Rtn Q } (startD nm_g_pairs es) M := by
  rintro _ M Q _ ⟨n, rfl, rfl, h3, h9, q⟩
  repeat (first | ((conv => whnf); refine ⟨_, rfl, ?_⟩) | ((conv => whnf); refine ⟨_, _, rfl, ?_⟩) | ((conv => whnf); refine ⟨_, _, _, rfl, ?_⟩) | ((conv => whnf); refine ⟨_, _, _, _, rfl, ?_⟩) | ((conv => whnf); refine DL.exn 0 ⟨_, rfl, ?_⟩) | ((conv => whnf); refine DL.exn 1 ⟨_, rfl, ?_⟩) | ((conv => whnf); refine DL.exn 2 ⟨_, rfl, ?_⟩) | ((conv => whnf); refine DL.exn 3 ⟨_, rfl, ?_⟩) | ((conv => whnf); refine DL.exn 4 ⟨_, rfl, ?_⟩) | ((conv => whnf); refine DL.exn 5 ⟨_, rfl, ?_⟩) | ((conv => whnf); refine DL.exn 0 ⟨_, _, rfl, rfl, ?_⟩) | ((conv => whnf); refine DL.exn 1 ⟨_, _, rfl, rfl, ?_⟩) | ((conv => whnf); refine DL.exn 2 ⟨_, _, rfl, rfl, ?_⟩) | ((conv => whnf); refine DL.exn 3 ⟨_, _, rfl, rfl, ?_⟩) | ((conv => whnf); refine DL.exn 4 ⟨_, _, rfl, rfl, ?_⟩) | ((conv => whnf); refine DL.exn 5 ⟨_, _, rfl, rfl, ?_⟩) | ((conv => whnf); refine DL.exn 0 ⟨_, _, rfl, ?_⟩) | ((conv => whnf); refine DL.exn 1 ⟨_, _, rfl, ?_⟩) | ((conv => whnf); refine DL.exn 2 ⟨_, _, rfl, ?_⟩) | ((conv => whnf); refine DL.exn 3 ⟨_, _, rfl, ?_⟩) | ((conv => whnf); refine DL.exn 4 ⟨_, _, rfl, ?_⟩) | ((conv => whnf); refine DL.exn 5 ⟨_, _, rfl, ?_⟩) | ((conv => whnf); refine DL.exn 0 ⟨_, _, _, rfl, rfl, ?_⟩) | ((conv => whnf); refine DL.exn 1 ⟨_, _, _, rfl, rfl, ?_⟩) | ((conv => whnf); refine DL.exn 2 ⟨_, _, _, rfl, rfl, ?_⟩) | ((conv => whnf); refine DL.exn 3 ⟨_, _, _, rfl, rfl, ?_⟩) | ((conv => whnf); refine DL.exn 4 ⟨_, _, _, rfl, rfl, ?_⟩) | ((conv => whnf); refine DL.exn 5 ⟨_, _, _, rfl, rfl, ?_⟩) | ((conv => whnf); refine Or.inl ⟨by decide, by decide, ?_⟩) | ((conv => whnf); refine Or.inr ⟨_, rfl, by decide, ?_⟩) | ((conv => whnf); refine And.intro (by first | assumption | rfl | decide | omega | exact ⟨rfl, by decide⟩ | exact Nat.le_of_ble_eq_true rfl | exact ⟨rfl, rfl⟩ | exact small_ok (by omega) (by omega) | exact ⟨small_ok (by omega) (by omega), small_ok (by omega) (by omega)⟩ | exact cdiv_ok (by omega) (by omega) | exact cpow_ok (by omega) (by omega) (by omega) (by omega) | decide +kernel) ?_))
  refine loop_ind (fun its ds M => ∃ (p : Int) (x y : Option D) (ps : List (Int × Int)), its = rng p (n + 1) ∧ 1 ≤ p ∧ p ≤ n + 1 ∧ BkOk n ps ∧ (∀ x y : Int, (x, y) ∈ ps ↔ 1 ≤ x ∧ x < p ∧ x < y ∧ y ≤ n) ∧ ds = [some (.int n), some (.lst (PL ps)), x, y] ∧ M = []) ?_ ?_ ⟨1, none, none, [], rfl, by omega, by omega, ⟨h3, h9, List.nodup_nil, by simp⟩, by simp; omega, rfl, rfl⟩
  · rintro _ _ ⟨p, x, y, ps, e, h1, hp, ok, hm, rfl, rfl⟩
    have hpn := rng_end e
    exact rtn_all (q ps ok (fun x y a b c => (hm x y).mpr ⟨a, by omega, b, c⟩) ok.len)
  · rintro d r _ _ NX ⟨p, x, y, ps, e, h1, hp, ok, hm, rfl, rfl⟩ nx
    obtain ⟨hlt, rfl, rfl⟩ := rng_split e
    repeat (first | ((conv => whnf); refine ⟨_, rfl, ?_⟩) | ((conv => whnf); refine ⟨_, _, rfl, ?_⟩) | ((conv => whnf); refine ⟨_, _, _, rfl, ?_⟩) | ((conv => whnf); refine ⟨_, _, _, _, rfl, ?_⟩) | ((conv => whnf); refine DL.exn 0 ⟨_, rfl, ?_⟩) | ((conv => whnf); refine DL.exn 1 ⟨_, rfl, ?_⟩) | ((conv => whnf); refine DL.exn 2 ⟨_, rfl, ?_⟩) | ((conv => whnf); refine DL.exn 3 ⟨_, rfl, ?_⟩) | ((conv => whnf); refine DL.exn 4 ⟨_, rfl, ?_⟩) | ((conv => whnf); refine DL.exn 5 ⟨_, rfl, ?_⟩) | ((conv => whnf); refine DL.exn 0 ⟨_, _, rfl, rfl, ?_⟩) | ((conv => whnf); refine DL.exn 1 ⟨_, _, rfl, rfl, ?_⟩) | ((conv => whnf); refine DL.exn 2 ⟨_, _, rfl, rfl, ?_⟩) | ((conv => whnf); refine DL.exn 3 ⟨_, _, rfl, rfl, ?_⟩) | ((conv => whnf); refine DL.exn 4 ⟨_, _, rfl, rfl, ?_⟩) | ((conv => whnf); refine DL.exn 5 ⟨_, _, rfl, rfl, ?_⟩) | ((conv => whnf); refine DL.exn 0 ⟨_, _, rfl, ?_⟩) | ((conv => whnf); refine DL.exn 1 ⟨_, _, rfl, ?_⟩) | ((conv => whnf); refine DL.exn 2 ⟨_, _, rfl, ?_⟩) | ((conv => whnf); refine DL.exn 3 ⟨_, _, rfl, ?_⟩) | ((conv => whnf); refine DL.exn 4 ⟨_, _, rfl, ?_⟩) | ((conv => whnf); refine DL.exn 5 ⟨_, _, rfl, ?_⟩) | ((conv => whnf); refine DL.exn 0 ⟨_, _, _, rfl, rfl, ?_⟩) | ((conv => whnf); refine DL.exn 1 ⟨_, _, _, rfl, rfl, ?_⟩) | ((conv => whnf); refine DL.exn 2 ⟨_, _, _, rfl, rfl, ?_⟩) | ((conv => whnf); refine DL.exn 3 ⟨_, _, _, rfl, rfl, ?_⟩) | ((conv => whnf); refine DL.exn 4 ⟨_, _, _, rfl, rfl, ?_⟩) | ((conv => whnf); refine DL.exn 5 ⟨_, _, _, rfl, rfl, ?_⟩) | ((conv => whnf); refine Or.inl ⟨by decide, by decide, ?_⟩) | ((conv => whnf); refine Or.inr ⟨_, rfl, by decide, ?_⟩) | ((conv => whnf); refine And.intro (by first | assumption | rfl | decide | omega | exact ⟨rfl, by decide⟩ | exact Nat.le_of_ble_eq_true rfl | exact ⟨rfl, rfl⟩ | exact small_ok (by omega) (by omega) | exact ⟨small_ok (by omega) (by omega), small_ok (by omega) (by omega)⟩ | exact cdiv_ok (by omega) (by omega) | exact cpow_ok (by omega) (by omega) (by omega) (by omega) | decide +kernel) ?_))
    refine ⟨by rw [rng_len]; show (n + 1 - (p + 1)).toNat ≤ _; omega, ?_⟩
    refine cl_map (fun d => match d with | .int q => pairD (p, q) | d => d) (fun d hd kk hk => ?_) ?_
    · obtain ⟨q', rfl, _, _⟩ := rng_mem hd
      repeat (first | ((conv => whnf); refine ⟨_, rfl, ?_⟩) | ((conv => whnf); refine ⟨_, _, rfl, ?_⟩) | ((conv => whnf); refine ⟨_, _, _, rfl, ?_⟩) | ((conv => whnf); refine ⟨_, _, _, _, rfl, ?_⟩) | ((conv => whnf); refine DL.exn 0 ⟨_, rfl, ?_⟩) | ((conv => whnf); refine DL.exn 1 ⟨_, rfl, ?_⟩) | ((conv => whnf); refine DL.exn 2 ⟨_, rfl, ?_⟩) | ((conv => whnf); refine DL.exn 3 ⟨_, rfl, ?_⟩) | ((conv => whnf); refine DL.exn 4 ⟨_, rfl, ?_⟩) | ((conv => whnf); refine DL.exn 5 ⟨_, rfl, ?_⟩) | ((conv => whnf); refine DL.exn 0 ⟨_, _, rfl, rfl, ?_⟩) | ((conv => whnf); refine DL.exn 1 ⟨_, _, rfl, rfl, ?_⟩) | ((conv => whnf); refine DL.exn 2 ⟨_, _, rfl, rfl, ?_⟩) | ((conv => whnf); refine DL.exn 3 ⟨_, _, rfl, rfl, ?_⟩) | ((conv => whnf); refine DL.exn 4 ⟨_, _, rfl, rfl, ?_⟩) | ((conv => whnf); refine DL.exn 5 ⟨_, _, rfl, rfl, ?_⟩) | ((conv => whnf); refine DL.exn 0 ⟨_, _, rfl, ?_⟩) | ((conv => whnf); refine DL.exn 1 ⟨_, _, rfl, ?_⟩) | ((conv => whnf); refine DL.exn 2 ⟨_, _, rfl, ?_⟩) | ((conv => whnf); refine DL.exn 3 ⟨_, _, rfl, ?_⟩) | ((conv => whnf); refine DL.exn 4 ⟨_, _, rfl, ?_⟩) | ((conv => whnf); refine DL.exn 5 ⟨_, _, rfl, ?_⟩) | ((conv => whnf); refine DL.exn 0 ⟨_, _, _, rfl, rfl, ?_⟩) | ((conv => whnf); refine DL.exn 1 ⟨_, _, _, rfl, rfl, ?_⟩) | ((conv => whnf); refine DL.exn 2 ⟨_, _, _, rfl, rfl, ?_⟩) | ((conv => whnf); refine DL.exn 3 ⟨_, _, _, rfl, rfl, ?_⟩) | ((conv => whnf); refine DL.exn 4 ⟨_, _, _, rfl, rfl, ?_⟩) | ((conv => whnf); refine DL.exn 5 ⟨_, _, _, rfl, rfl, ?_⟩) | ((conv => whnf); refine Or.inl ⟨by decide, by decide, ?_⟩) | ((conv => whnf); refine Or.inr ⟨_, rfl, by decide, ?_⟩) | ((conv => whnf); refine And.intro (by first | assumption | rfl | decide | omega | exact ⟨rfl, by decide⟩ | exact Nat.le_of_ble_eq_true rfl | exact ⟨rfl, rfl⟩ | exact small_ok (by omega) (by omega) | exact ⟨small_ok (by omega) (by omega), small_ok (by omega) (by omega)⟩ | exact cdiv_ok (by omega) (by omega) | exact cpow_ok (by omega) (by omega) (by omega) (by omega) | decide +kernel) ?_))
      exact hk
    · have hl := ok.len
      have em : (rng (p + 1) (n + 1)).map (fun d => match d with | .int q => pairD (p, q) | d => d) = PL ((rngI (p + 1) (n + 1)).map fun q => (p, q)) := by
        rw [rng_il]; simp [PL, Function.comp_def]
      have hln : ((rngI (p + 1) (n + 1)).map fun q => (p, q)).length ≤ 10 := by rw [List.length_map, len_rngI]; omega
      show ((PL ps).length + ([] ++ (rng (p + 1) (n + 1)).map _).length ≤ 16777216 ∧ NX [some (.int n), some (.lst (PL ps ++ ([] ++ (rng (p + 1) (n + 1)).map _))), some (.int p), y] [])
      rw [em]
      refine ⟨by simp at hln ⊢; omega, ?_⟩
      refine nx _ _ ⟨p + 1, some (.int p), y, ps ++ (rngI (p + 1) (n + 1)).map (fun q => (p, q)), rfl, by omega, by omega, ⟨h3, h9, ?_, ?_⟩, ?_, by simp [PL], rfl⟩
      · refine List.nodup_append.mpr ⟨ok.nd, ?_, ?_⟩ 
        · exact List.Pairwise.map _ (fun a b h e => h (by cases e; rfl)) nd_rngI
        · rintro ⟨a1, a2⟩ h1' b h2' e
          obtain ⟨z, hz, rfl⟩ := List.mem_map.mp h2'
          cases e
          have := (hm _ _).mp h1'
          omega
      · intro z hz
        rcases List.mem_append.mp hz with hz | hz
        · exact ok.mem z hz
        · obtain ⟨u, hu, rfl⟩ := List.mem_map.mp hz
          have := mem_rngI.mp hu
          exact ⟨h1, by show p < u; omega, by show u ≤ n; omega⟩
      · intro u v
        rw [List.mem_append, hm, List.mem_map]
        constructor
        · rintro (h | ⟨z, hz, e⟩)
          · omega
          · cases e
            have := mem_rngI.mp hz
            omega
        · intro h
          by_cases hu : u < p
          · exact .inl ⟨h.1, hu, h.2.2⟩
          · exact .inr ⟨v, mem_rngI.mpr (by omega), by rw [show u = p by omega]⟩
theorem ring_inj {fs : List Int} (nd : fs.Nodup) (hl : 3 ≤ fs.length) {i j : Nat} (hi : i < fs.length) (hj : j < fs.length) (e : mx (fs.getD i 0) (fs.getD ((i + 1) % fs.length) 0) = mx (fs.getD j 0) (fs.getD ((j + 1) % fs.length) 0)) : i = j := by
  have hi2 : (i + 1) % fs.length < fs.length := Nat.mod_lt _ (by omega)
  have hj2 : (j + 1) % fs.length < fs.length := Nat.mod_lt _ (by omega)
  have cases' : (fs.getD i 0 = fs.getD j 0) ∨ (fs.getD i 0 = fs.getD ((j + 1) % fs.length) 0 ∧ fs.getD ((i + 1) % fs.length) 0 = fs.getD j 0) := by
    simp only [mx, imin, imax, Prod.mk.injEq] at e
    obtain ⟨e1, e2⟩ := e
    split at e1 <;> split at e1 <;> split at e2 <;> split at e2 <;> omega
  rcases cases' with h | ⟨h1, h2⟩
  · exact nd_inj nd hi hj h
  · have a := nd_inj nd hi hj2 h1
    have b := nd_inj nd hi2 hj h2
    have hia : (i + 1) % fs.length = if i + 1 = fs.length then 0 else i + 1 := by
      split
      · rename_i h; rw [h]; exact Nat.mod_self _
      · exact Nat.mod_eq_of_lt (by omega)
    have hja : (j + 1) % fs.length = if j + 1 = fs.length then 0 else j + 1 := by
      split
      · rename_i h; rw [h]; exact Nat.mod_self _
      · exact Nat.mod_eq_of_lt (by omega)
    rw [hia] at b
    rw [hja] at a
    split at a <;> split at b <;> omega
theorem len_g_ring {K : PySem.W.Frag} : ∀ es M Q E, sp_g_ring K es M Q E → es.length = 1 := by
  rintro _ _ _ _ ⟨_, _, rfl, _⟩; rfl
theorem rd_g_ring {K : PySem.W.Frag} : ∀ es M Q E, sp_g_ring K es M Q E → t_g_ring K { nx := fun _ M => Rtn Q .non M, rt := Rtn Q } (startD nm_g_ring es) M := by
  rintro _ M Q _ ⟨n, fs, rfl, rfl, h3, h9, hl, nd, hm, hz, q⟩
  repeat (first | ((conv => whnf); refine ⟨_, rfl, ?_⟩) | ((conv => whnf); refine ⟨_, _, rfl, ?_⟩) | ((conv => whnf); refine ⟨_, _, _, rfl, ?_⟩) | ((conv => whnf); refine ⟨_, _, _, _, rfl, ?_⟩) | ((conv => whnf); refine DL.exn 0 ⟨_, rfl, ?_⟩) | ((conv => whnf); refine DL.exn 1 ⟨_, rfl, ?_⟩) | ((conv => whnf); refine DL.exn 2 ⟨_, rfl, ?_⟩) | ((conv => whnf); refine DL.exn 3 ⟨_, rfl, ?_⟩) | ((conv => whnf); refine DL.exn 4 ⟨_, rfl, ?_⟩) | ((conv => whnf); refine DL.exn 5 ⟨_, rfl, ?_⟩) | ((conv => whnf); refine DL.exn 0 ⟨_, _, rfl, rfl, ?_⟩) | ((conv => whnf); refine DL.exn 1 ⟨_, _, rfl, rfl, ?_⟩) | ((conv => whnf); refine DL.exn 2 ⟨_, _, rfl, rfl, ?_⟩) | ((conv => whnf); refine DL.exn 3 ⟨_, _, rfl, rfl, ?_⟩) | ((conv => whnf); refine DL.exn 4 ⟨_, _, rfl, rfl, ?_⟩) | ((conv => whnf); refine DL.exn 5 ⟨_, _, rfl, rfl, ?_⟩) | ((conv => whnf); refine DL.exn 0 ⟨_, _, rfl, ?_⟩) | ((conv => whnf); refine DL.exn 1 ⟨_, _, rfl, ?_⟩) | ((conv => whnf); refine DL.exn 2 ⟨_, _, rfl, ?_⟩) | ((conv => whnf); refine DL.exn 3 ⟨_, _, rfl, ?_⟩) | ((conv => whnf); refine DL.exn 4 ⟨_, _, rfl, ?_⟩) | ((conv => whnf); refine DL.exn 5 ⟨_, _, rfl, ?_⟩) | ((conv => whnf); refine DL.exn 0 ⟨_, _, _, rfl, rfl, ?_⟩) | ((conv => whnf); refine DL.exn 1 ⟨_, _, _, rfl, rfl, ?_⟩) | ((conv => whnf); refine DL.exn 2 ⟨_, _, _, rfl, rfl, ?_⟩) | ((conv => whnf); refine DL.exn 3 ⟨_, _, _, rfl, rfl, ?_⟩) | ((conv => whnf); refine DL.exn 4 ⟨_, _, _, rfl, rfl, ?_⟩) | ((conv => whnf); refine DL.exn 5 ⟨_, _, _, rfl, rfl, ?_⟩) | ((conv => whnf); refine Or.inl ⟨by decide, by decide, ?_⟩) | ((conv => whnf); refine Or.inr ⟨_, rfl, by decide, ?_⟩) | ((conv => whnf); refine And.intro (by first | assumption | rfl | decide | omega | exact ⟨rfl, by decide⟩ | exact Nat.le_of_ble_eq_true rfl | exact ⟨rfl, rfl⟩ | exact small_ok (by omega) (by omega) | exact ⟨small_ok (by omega) (by omega), small_ok (by omega) (by omega)⟩ | exact cdiv_ok (by omega) (by omega) | exact cpow_ok (by omega) (by omega) (by omega) (by omega) | decide +kernel) ?_))
  intro a
  repeat (first | ((conv => whnf); refine ⟨_, rfl, ?_⟩) | ((conv => whnf); refine ⟨_, _, rfl, ?_⟩) | ((conv => whnf); refine ⟨_, _, _, rfl, ?_⟩) | ((conv => whnf); refine ⟨_, _, _, _, rfl, ?_⟩) | ((conv => whnf); refine DL.exn 0 ⟨_, rfl, ?_⟩) | ((conv => whnf); refine DL.exn 1 ⟨_, rfl, ?_⟩) | ((conv => whnf); refine DL.exn 2 ⟨_, rfl, ?_⟩) | ((conv => whnf); refine DL.exn 3 ⟨_, rfl, ?_⟩) | ((conv => whnf); refine DL.exn 4 ⟨_, rfl, ?_⟩) | ((conv => whnf); refine DL.exn 5 ⟨_, rfl, ?_⟩) | ((conv => whnf); refine DL.exn 0 ⟨_, _, rfl, rfl, ?_⟩) | ((conv => whnf); refine DL.exn 1 ⟨_, _, rfl, rfl, ?_⟩) | ((conv => whnf); refine DL.exn 2 ⟨_, _, rfl, rfl, ?_⟩) | ((conv => whnf); refine DL.exn 3 ⟨_, _, rfl, rfl, ?_⟩) | ((conv => whnf); refine DL.exn 4 ⟨_, _, rfl, rfl, ?_⟩) | ((conv => whnf); refine DL.exn 5 ⟨_, _, rfl, rfl, ?_⟩) | ((conv => whnf); refine DL.exn 0 ⟨_, _, rfl, ?_⟩) | ((conv => whnf); refine DL.exn 1 ⟨_, _, rfl, ?_⟩) | ((conv => whnf); refine DL.exn 2 ⟨_, _, rfl, ?_⟩) | ((conv => whnf); refine DL.exn 3 ⟨_, _, rfl, ?_⟩) | ((conv => whnf); refine DL.exn 4 ⟨_, _, rfl, ?_⟩) | ((conv => whnf); refine DL.exn 5 ⟨_, _, rfl, ?_⟩) | ((conv => whnf); refine DL.exn 0 ⟨_, _, _, rfl, rfl, ?_⟩) | ((conv => whnf); refine DL.exn 1 ⟨_, _, _, rfl, rfl, ?_⟩) | ((conv => whnf); refine DL.exn 2 ⟨_, _, _, rfl, rfl, ?_⟩) | ((conv => whnf); refine DL.exn 3 ⟨_, _, _, rfl, rfl, ?_⟩) | ((conv => whnf); refine DL.exn 4 ⟨_, _, _, rfl, rfl, ?_⟩) | ((conv => whnf); refine DL.exn 5 ⟨_, _, _, rfl, rfl, ?_⟩) | ((conv => whnf); refine Or.inl ⟨by decide, by decide, ?_⟩) | ((conv => whnf); refine Or.inr ⟨_, rfl, by decide, ?_⟩) | ((conv => whnf); refine And.intro (by first | assumption | rfl | decide | omega | exact ⟨rfl, by decide⟩ | exact Nat.le_of_ble_eq_true rfl | exact ⟨rfl, rfl⟩ | exact small_ok (by omega) (by omega) | exact ⟨small_ok (by omega) (by omega), small_ok (by omega) (by omega)⟩ | exact cdiv_ok (by omega) (by omega) | exact cpow_ok (by omega) (by omega) (by omega) (by omega) | decide +kernel) ?_))
  simp only [xSeq, xSet, xIfS, xNext, xRet, xRetN, xDrop, xNever, xBreak, xCont, xOp, xB, blK, xVar, xC, xTru, truK, xAnd, xOr, xNot, xAndV, xOrV, xNotV, xIf, xNil, xCons, xTup, xLst, xLstM, xCall, xCallP, xCallK, gSel, xMeth, xMethP, insK, xMake, xMakeM, xFld, fldK, getK, rdAdd, rdI, rdI0, rdB0, rdMul, rdEqA, viewK, ownK, seqK, lstK, tupK, tupxK, ixK, rdIsN, isN, rdIn, xChain, xUn, xgName, xgNil, xgCons, xgTup, xgSub, setL, xAsg, xPar, xAug, xSetF, PutF, xAugF, xiSeq, xiTup, xiR1, xiR2, xiEnum, xiZip, xFor, xLoop, xFrz, xFz, xYes, xLc, xLcMA, xCL, xCB, rdLen, rdSum, rdAny, rdAll, rdC2, rdC1, rdInt, rdList, rdListM, rdTup, rdTupX, rdSortI, rdSortP, rdIsi, xML, rdAppend, rdExtend, rdPopAt, rdPop, rdIndexI, xTupIx, rdIx, xoN, xoS, xSl, xSlM, xRev, xLR, xLRM, xDGet, dkK, xDPut, xVals, xDisp, xAugL, xLenSet, xSlS, scrK, startD, wipeD, List.getElem?_cons_zero, List.getElem?_cons_succ, List.set_cons_zero, List.set_cons_succ, List.map_cons, List.map_nil, List.cons_append, List.nil_append, List.append_nil, List.length_cons, List.length_nil, List.replicate_succ, List.replicate_zero, Nat.reduceSub, Nat.reduceAdd, Nat.reduceSubDiff, Nat.reduceLeDiff, decide_eq_true_eq, Bool.and_eq_true, ite_true, reduceIte, reduceCtorEq, true_and, and_true, beq_int, beq_pair, beq_ints, beq_pairs, any_il, any_pl, pl_int, pl_ints, pl_pair, pl_pairs, all_il, all_pl, tyD, List.length_map]
  refine ⟨small_ok (by omega) (by omega), ?_⟩
  rw [show rng 0 (fs.length : Int) = rng ((0 : Nat) : Int) fs.length from rfl]
  refine loop_ind (fun its ds M => ∃ (i : Nat) (x y z : Option D) (ps : List (Int × Int)), its = rng i fs.length ∧ i ≤ fs.length ∧ ps = (List.range i).map (fun k => mx (fs.getD k 0) (fs.getD ((k + 1) % fs.length) 0)) ∧ ds = [some (.lst (IL fs)), some (.ref a), x, y, z] ∧ M = [(a, .lst (PL ps))]) ?_ ?_ ⟨0, _, _, _, [], rfl, by omega, rfl, rfl, rfl⟩
  · rintro _ _ ⟨i, x, y, z, ps, e, hi, hps, rfl, rfl⟩
    have := rng_end e
    have hie : i = fs.length := by omega
    repeat (first | ((conv => whnf); refine ⟨_, rfl, ?_⟩) | ((conv => whnf); refine ⟨_, _, rfl, ?_⟩) | ((conv => whnf); refine ⟨_, _, _, rfl, ?_⟩) | ((conv => whnf); refine ⟨_, _, _, _, rfl, ?_⟩) | ((conv => whnf); refine DL.exn 0 ⟨_, rfl, ?_⟩) | ((conv => whnf); refine DL.exn 1 ⟨_, rfl, ?_⟩) | ((conv => whnf); refine DL.exn 2 ⟨_, rfl, ?_⟩) | ((conv => whnf); refine DL.exn 3 ⟨_, rfl, ?_⟩) | ((conv => whnf); refine DL.exn 4 ⟨_, rfl, ?_⟩) | ((conv => whnf); refine DL.exn 5 ⟨_, rfl, ?_⟩) | ((conv => whnf); refine DL.exn 0 ⟨_, _, rfl, rfl, ?_⟩) | ((conv => whnf); refine DL.exn 1 ⟨_, _, rfl, rfl, ?_⟩) | ((conv => whnf); refine DL.exn 2 ⟨_, _, rfl, rfl, ?_⟩) | ((conv => whnf); refine DL.exn 3 ⟨_, _, rfl, rfl, ?_⟩) | ((conv => whnf); refine DL.exn 4 ⟨_, _, rfl, rfl, ?_⟩) | ((conv => whnf); refine DL.exn 5 ⟨_, _, rfl, rfl, ?_⟩) | ((conv => whnf); refine DL.exn 0 ⟨_, _, rfl, ?_⟩) | ((conv => whnf); refine DL.exn 1 ⟨_, _, rfl, ?_⟩) | ((conv => whnf); refine DL.exn 2 ⟨_, _, rfl, ?_⟩) | ((conv => whnf); refine DL.exn 3 ⟨_, _, rfl, ?_⟩) | ((conv => whnf); refine DL.exn 4 ⟨_, _, rfl, ?_⟩) | ((conv => whnf); refine DL.exn 5 ⟨_, _, rfl, ?_⟩) | ((conv => whnf); refine DL.exn 0 ⟨_, _, _, rfl, rfl, ?_⟩) | ((conv => whnf); refine DL.exn 1 ⟨_, _, _, rfl, rfl, ?_⟩) | ((conv => whnf); refine DL.exn 2 ⟨_, _, _, rfl, rfl, ?_⟩) | ((conv => whnf); refine DL.exn 3 ⟨_, _, _, rfl, rfl, ?_⟩) | ((conv => whnf); refine DL.exn 4 ⟨_, _, _, rfl, rfl, ?_⟩) | ((conv => whnf); refine DL.exn 5 ⟨_, _, _, rfl, rfl, ?_⟩) | ((conv => whnf); refine Or.inl ⟨by decide, by decide, ?_⟩) | ((conv => whnf); refine Or.inr ⟨_, rfl, by decide, ?_⟩) | ((conv => whnf); refine And.intro (by first | assumption | rfl | decide | omega | exact ⟨rfl, by decide⟩ | exact Nat.le_of_ble_eq_true rfl | exact ⟨rfl, rfl⟩ | exact small_ok (by omega) (by omega) | exact ⟨small_ok (by omega) (by omega), small_ok (by omega) (by omega)⟩ | exact cdiv_ok (by omega) (by omega) | exact cpow_ok (by omega) (by omega) (by omega) (by omega) | decide +kernel) ?_))
    refine rtn_all (q ps ⟨h3, h9, ?_, ?_⟩ ?_)
    · subst hps
      refine List.Pairwise.map _ ?_ (List.Pairwise.and_mem.mp List.nodup_range)
      intro u v ⟨hu, hv, hne⟩ e
      rw [hie] at hu hv
      exact hne (ring_inj nd hl (List.mem_range.mp hu) (List.mem_range.mp hv) e)
    · subst hps
      intro u hu
      obtain ⟨k, hk, rfl⟩ := List.mem_map.mp hu
      have hk := List.mem_range.mp hk
      have hk2 : (k + 1) % fs.length < fs.length := Nat.mod_lt _ (by omega)
      have m1 := hm _ (DL.getD_mem (z := 0) (show k < fs.length by omega))
      have m2 := hm _ (DL.getD_mem (z := 0) hk2)
      have hne : fs.getD k 0 ≠ fs.getD ((k + 1) % fs.length) 0 := fun e => by
        have := nd_inj nd (show k < fs.length by omega) hk2 e
        by_cases hkk : k + 1 = fs.length
        · rw [hkk, Nat.mod_self] at this; omega
        · rw [Nat.mod_eq_of_lt (by omega)] at this; omega
      show 1 ≤ imin _ _ ∧ imin _ _ < imax _ _ ∧ imax _ _ ≤ n
      unfold imin imax
      split <;> split <;> omega
    · subst hps; simp; omega
  · rintro d r _ _ NX ⟨i, x, y, z, ps, e, hi, hps, rfl, rfl⟩ nx
    obtain ⟨hlt, rfl, rfl⟩ := rng_split e
    repeat (first | ((conv => whnf); refine ⟨_, rfl, ?_⟩) | ((conv => whnf); refine ⟨_, _, rfl, ?_⟩) | ((conv => whnf); refine ⟨_, _, _, rfl, ?_⟩) | ((conv => whnf); refine ⟨_, _, _, _, rfl, ?_⟩) | ((conv => whnf); refine DL.exn 0 ⟨_, rfl, ?_⟩) | ((conv => whnf); refine DL.exn 1 ⟨_, rfl, ?_⟩) | ((conv => whnf); refine DL.exn 2 ⟨_, rfl, ?_⟩) | ((conv => whnf); refine DL.exn 3 ⟨_, rfl, ?_⟩) | ((conv => whnf); refine DL.exn 4 ⟨_, rfl, ?_⟩) | ((conv => whnf); refine DL.exn 5 ⟨_, rfl, ?_⟩) | ((conv => whnf); refine DL.exn 0 ⟨_, _, rfl, rfl, ?_⟩) | ((conv => whnf); refine DL.exn 1 ⟨_, _, rfl, rfl, ?_⟩) | ((conv => whnf); refine DL.exn 2 ⟨_, _, rfl, rfl, ?_⟩) | ((conv => whnf); refine DL.exn 3 ⟨_, _, rfl, rfl, ?_⟩) | ((conv => whnf); refine DL.exn 4 ⟨_, _, rfl, rfl, ?_⟩) | ((conv => whnf); refine DL.exn 5 ⟨_, _, rfl, rfl, ?_⟩) | ((conv => whnf); refine DL.exn 0 ⟨_, _, rfl, ?_⟩) | ((conv => whnf); refine DL.exn 1 ⟨_, _, rfl, ?_⟩) | ((conv => whnf); refine DL.exn 2 ⟨_, _, rfl, ?_⟩) | ((conv => whnf); refine DL.exn 3 ⟨_, _, rfl, ?_⟩) | ((conv => whnf); refine DL.exn 4 ⟨_, _, rfl, ?_⟩) | ((conv => whnf); refine DL.exn 5 ⟨_, _, rfl, ?_⟩) | ((conv => whnf); refine DL.exn 0 ⟨_, _, _, rfl, rfl, ?_⟩) | ((conv => whnf); refine DL.exn 1 ⟨_, _, _, rfl, rfl, ?_⟩) | ((conv => whnf); refine DL.exn 2 ⟨_, _, _, rfl, rfl, ?_⟩) | ((conv => whnf); refine DL.exn 3 ⟨_, _, _, rfl, rfl, ?_⟩) | ((conv => whnf); refine DL.exn 4 ⟨_, _, _, rfl, rfl, ?_⟩) | ((conv => whnf); refine DL.exn 5 ⟨_, _, _, rfl, rfl, ?_⟩) | ((conv => whnf); refine Or.inl ⟨by decide, by decide, ?_⟩) | ((conv => whnf); refine Or.inr ⟨_, rfl, by decide, ?_⟩) | ((conv => whnf); refine And.intro (by first | assumption | rfl | decide | omega | exact ⟨rfl, by decide⟩ | exact Nat.le_of_ble_eq_true rfl | exact ⟨rfl, rfl⟩ | exact small_ok (by omega) (by omega) | exact ⟨small_ok (by omega) (by omega), small_ok (by omega) (by omega)⟩ | exact cdiv_ok (by omega) (by omega) | exact cpow_ok (by omega) (by omega) (by omega) (by omega) | decide +kernel) ?_))
    simp only [xSeq, xSet, xIfS, xNext, xRet, xRetN, xDrop, xNever, xBreak, xCont, xOp, xB, blK, xVar, xC, xTru, truK, xAnd, xOr, xNot, xAndV, xOrV, xNotV, xIf, xNil, xCons, xTup, xLst, xLstM, xCall, xCallP, xCallK, gSel, xMeth, xMethP, insK, xMake, xMakeM, xFld, fldK, getK, rdAdd, rdI, rdI0, rdB0, rdMul, rdEqA, viewK, ownK, seqK, lstK, tupK, tupxK, ixK, rdIsN, isN, rdIn, xChain, xUn, xgName, xgNil, xgCons, xgTup, xgSub, setL, xAsg, xPar, xAug, xSetF, PutF, xAugF, xiSeq, xiTup, xiR1, xiR2, xiEnum, xiZip, xFor, xLoop, xFrz, xFz, xYes, xLc, xLcMA, xCL, xCB, rdLen, rdSum, rdAny, rdAll, rdC2, rdC1, rdInt, rdList, rdListM, rdTup, rdTupX, rdSortI, rdSortP, rdIsi, xML, rdAppend, rdExtend, rdPopAt, rdPop, rdIndexI, xTupIx, rdIx, xoN, xoS, xSl, xSlM, xRev, xLR, xLRM, xDGet, dkK, xDPut, xVals, xDisp, xAugL, xLenSet, xSlS, scrK, startD, wipeD, List.getElem?_cons_zero, List.getElem?_cons_succ, List.set_cons_zero, List.set_cons_succ, List.map_cons, List.map_nil, List.cons_append, List.nil_append, List.append_nil, List.length_cons, List.length_nil, List.replicate_succ, List.replicate_zero, Nat.reduceSub, Nat.reduceAdd, Nat.reduceSubDiff, Nat.reduceLeDiff, decide_eq_true_eq, Bool.and_eq_true, ite_true, reduceIte, reduceCtorEq, true_and, and_true, beq_int, beq_pair, beq_ints, beq_pairs, any_il, any_pl, pl_int, pl_ints, pl_pair, pl_pairs, all_il, all_pl, tyD, List.length_map]
    have hi2 : (i + 1) % fs.length < fs.length := Nat.mod_lt _ (by omega)
    refine ⟨_, atI_map (z := 0) (by omega) (by omega), by omega, ?_⟩
    rw [succ_mod]
    refine ⟨_, atI_map (z := 0) (by omega) (by omega), 0, _, rfl, ?_⟩
    simp only [xSeq, xSet, xIfS, xNext, xRet, xRetN, xDrop, xNever, xBreak, xCont, xOp, xB, blK, xVar, xC, xTru, truK, xAnd, xOr, xNot, xAndV, xOrV, xNotV, xIf, xNil, xCons, xTup, xLst, xLstM, xCall, xCallP, xCallK, gSel, xMeth, xMethP, insK, xMake, xMakeM, xFld, fldK, getK, rdAdd, rdI, rdI0, rdB0, rdMul, rdEqA, viewK, ownK, seqK, lstK, tupK, tupxK, ixK, rdIsN, isN, rdIn, xChain, xUn, xgName, xgNil, xgCons, xgTup, xgSub, setL, xAsg, xPar, xAug, xSetF, PutF, xAugF, xiSeq, xiTup, xiR1, xiR2, xiEnum, xiZip, xFor, xLoop, xFrz, xFz, xYes, xLc, xLcMA, xCL, xCB, rdLen, rdSum, rdAny, rdAll, rdC2, rdC1, rdInt, rdList, rdListM, rdTup, rdTupX, rdSortI, rdSortP, rdIsi, xML, rdAppend, rdExtend, rdPopAt, rdPop, rdIndexI, xTupIx, rdIx, xoN, xoS, xSl, xSlM, xRev, xLR, xLRM, xDGet, dkK, xDPut, xVals, xDisp, xAugL, xLenSet, xSlS, scrK, startD, wipeD, List.getElem?_cons_zero, List.getElem?_cons_succ, List.set_cons_zero, List.set_cons_succ, List.map_cons, List.map_nil, List.cons_append, List.nil_append, List.append_nil, List.length_cons, List.length_nil, List.replicate_succ, List.replicate_zero, Nat.reduceSub, Nat.reduceAdd, Nat.reduceSubDiff, Nat.reduceLeDiff, decide_eq_true_eq, Bool.and_eq_true, ite_true, reduceIte, reduceCtorEq, true_and, and_true, beq_int, beq_pair, beq_ints, beq_pairs, any_il, any_pl, pl_int, pl_ints, pl_pair, pl_pairs, all_il, all_pl, tyD, List.length_map]
    refine ⟨0, _, rfl, ?_⟩
    simp only [xSeq, xSet, xIfS, xNext, xRet, xRetN, xDrop, xNever, xBreak, xCont, xOp, xB, blK, xVar, xC, xTru, truK, xAnd, xOr, xNot, xAndV, xOrV, xNotV, xIf, xNil, xCons, xTup, xLst, xLstM, xCall, xCallP, xCallK, gSel, xMeth, xMethP, insK, xMake, xMakeM, xFld, fldK, getK, rdAdd, rdI, rdI0, rdB0, rdMul, rdEqA, viewK, ownK, seqK, lstK, tupK, tupxK, ixK, rdIsN, isN, rdIn, xChain, xUn, xgName, xgNil, xgCons, xgTup, xgSub, setL, xAsg, xPar, xAug, xSetF, PutF, xAugF, xiSeq, xiTup, xiR1, xiR2, xiEnum, xiZip, xFor, xLoop, xFrz, xFz, xYes, xLc, xLcMA, xCL, xCB, rdLen, rdSum, rdAny, rdAll, rdC2, rdC1, rdInt, rdList, rdListM, rdTup, rdTupX, rdSortI, rdSortP, rdIsi, xML, rdAppend, rdExtend, rdPopAt, rdPop, rdIndexI, xTupIx, rdIx, xoN, xoS, xSl, xSlM, xRev, xLR, xLRM, xDGet, dkK, xDPut, xVals, xDisp, xAugL, xLenSet, xSlS, scrK, startD, wipeD, List.getElem?_cons_zero, List.getElem?_cons_succ, List.set_cons_zero, List.set_cons_succ, List.map_cons, List.map_nil, List.cons_append, List.nil_append, List.append_nil, List.length_cons, List.length_nil, List.replicate_succ, List.replicate_zero, Nat.reduceSub, Nat.reduceAdd, Nat.reduceSubDiff, Nat.reduceLeDiff, decide_eq_true_eq, Bool.and_eq_true, ite_true, reduceIte, reduceCtorEq, true_and, and_true, beq_int, beq_pair, beq_ints, beq_pairs, any_il, any_pl, pl_int, pl_ints, pl_pair, pl_pairs, all_il, all_pl, tyD, List.length_map]
    refine ⟨by subst hps; simp; omega, ?_⟩
    refine nx _ _ ⟨i + 1, _, _, _, ps ++ [mx (fs.getD i 0) (fs.getD ((i + 1) % fs.length) 0)], rfl, by omega, ?_, rfl, ?_⟩
    · subst hps
      rw [List.range_succ, List.map_append]
      rfl
    · show [(a, MO.lst (PL ps ++ [pairD (mx (fs.getD i 0) (fs.getD ((i + 1) % fs.length) 0))]))] = _
      simp only [PL, List.map_append, List.map_cons, List.map_nil]
end Nk66

set_option Elab.async false
set_option linter.all false
set_option maxRecDepth 100000
set_option maxHeartbeats 4000000
namespace Nk66
open PySem PySem.Spec L2 DL
/-! ### the plain law -/
theorem idxOf_get {l : List Int} (nd : l.Nodup) {i : Nat} (h : i < l.length) : l.idxOf (l.getD i 0) = i := by
  have hm := DL.getD_mem (z := (0 : Int)) h
  have hlt := List.idxOf_lt_length_of_mem hm
  refine nd_inj (z := 0) nd hlt h ?_
  rw [getD_eq hlt]
  exact List.getElem_idxOf hlt
theorem get_idxOf {l : List Int} {x : Int} (h : x ∈ l) : l.getD (l.idxOf x) 0 = x := by
  have hlt := List.idxOf_lt_length_of_mem h
  rw [getD_eq hlt]
  exact List.getElem_idxOf hlt
theorem getD_set {l : List Int} {i j : Nat} {v : Int} : (l.set i v).getD j 0 = if i = j ∧ j < l.length then v else l.getD j 0 := by
  by_cases hj : j < l.length
  · rw [getD_eq (by simpa using hj), List.getElem_set]
    by_cases e : i = j
    · rw [if_pos e, if_pos ⟨e, hj⟩]
    · rw [if_neg e, if_neg (fun z => e z.1), getD_eq hj]
  · rw [if_neg (fun z => hj z.2)]
    simp [List.getD, List.getElem?_eq_none (show l.length ≤ j by omega), List.getElem?_eq_none (show (l.set i v).length ≤ j by simp; omega)]
theorem sum_set {l : List Int} {i : Nat} {v : Int} (h : i < l.length) : (l.set i v).sum = l.sum + (v - l.getD i 0) := by
  induction l generalizing i with
  | nil => simp at h
  | cons x l ih =>
    cases i with
    | zero => simp; omega
    | succ i =>
      have := ih (i := i) (by simpa using h)
      simp only [List.set_cons_succ, List.sum_cons, this]
      simp; omega
theorem sum_one {α : Type} {A B : α → Int} {z : α} : ∀ {qs : List α}, qs.Nodup → z ∈ qs → (∀ y ∈ qs, y ≠ z → A y = B y) → (qs.map A).sum = (qs.map B).sum + (A z - B z)
  | [], _, hz, _ => by cases hz
  | y :: qs, nd, hz, h => by
    have nd' := List.nodup_cons.mp nd
    simp only [List.map_cons, List.sum_cons]
    rcases List.mem_cons.mp hz with e | hz
    · subst e
      have : qs.map A = qs.map B := List.map_congr_left fun u hu => h u (List.mem_cons_of_mem _ hu) (fun e => nd'.1 (e ▸ hu))
      rw [this]; omega
    · have hy : y ≠ z := fun e => nd'.1 (e ▸ hz)
      rw [sum_one nd'.2 hz (fun u hu => h u (List.mem_cons_of_mem _ hu)), h y List.mem_cons_self hy]
      omega
/-! arithmetic -/
theorem mod_up {n h i : Int} (h3 : 3 ≤ n) (h9 : n ≤ 9) (e : h % n = i) : (h + 1) % n = if i + 1 = n then 0 else i + 1 := by
  have : n = 3 ∨ n = 4 ∨ n = 5 ∨ n = 6 ∨ n = 7 ∨ n = 8 ∨ n = 9 := by omega
  rcases this with rfl | rfl | rfl | rfl | rfl | rfl | rfl <;> split <;> omega
theorem mod_dn {n h i : Int} (h3 : 3 ≤ n) (h9 : n ≤ 9) (e : h % n = i) : (h + -1) % n = if i = 0 then n - 1 else i - 1 := by
  have : n = 3 ∨ n = 4 ∨ n = 5 ∨ n = 6 ∨ n = 7 ∨ n = 8 ∨ n = 9 := by omega
  rcases this with rfl | rfl | rfl | rfl | rfl | rfl | rfl <;> split <;> omega
theorem div_up {n h i : Int} (h3 : 3 ≤ n) (h9 : n ≤ 9) (e : h % n = i) : (h + 1) / n = h / n + if i + 1 = n then 1 else 0 := by
  have : n = 3 ∨ n = 4 ∨ n = 5 ∨ n = 6 ∨ n = 7 ∨ n = 8 ∨ n = 9 := by omega
  rcases this with rfl | rfl | rfl | rfl | rfl | rfl | rfl <;> split <;> omega
theorem div_dn {n h i : Int} (h3 : 3 ≤ n) (h9 : n ≤ 9) (e : h % n = i) : (h + -1) / n = h / n - if i = 0 then 1 else 0 := by
  have : n = 3 ∨ n = 4 ∨ n = 5 ∨ n = 6 ∨ n = 7 ∨ n = 8 ∨ n = 9 := by omega
  rcases this with rfl | rfl | rfl | rfl | rfl | rfl | rfl <;> split <;> omega
theorem rnd_same {n i j hx hy dx dy : Int} (h3 : 3 ≤ n) (h9 : n ≤ 9) (i0 : 0 ≤ i) (i1 : i < n) (hj : j = if i + 1 = n then 0 else i + 1)
    (cx : (dx = 1 ∧ hx % n = i) ∨ (dx = -1 ∧ hx % n = j) ∨ (dx = 0 ∧ hx % n ≠ i ∧ hx % n ≠ j)) (cy : (dy = 1 ∧ hy % n = i) ∨ (dy = -1 ∧ hy % n = j) ∨ (dy = 0 ∧ hy % n ≠ i ∧ hy % n ≠ j))
    (hne : hx % n ≠ hy % n) (nd1 : ¬ (dx = 1 ∧ dy = -1)) (nd2 : ¬ (dx = -1 ∧ dy = 1)) : (hy + dy - (hx + dx)) / n = (hy - hx) / n := by
  have : n = 3 ∨ n = 4 ∨ n = 5 ∨ n = 6 ∨ n = 7 ∨ n = 8 ∨ n = 9 := by omega
  rcases this with rfl | rfl | rfl | rfl | rfl | rfl | rfl <;> split at hj <;> omega
theorem rnd_diff {n i j hx hy : Int} (h3 : 3 ≤ n) (h9 : n ≤ 9) (i0 : 0 ≤ i) (i1 : i < n) (hj : j = if i + 1 = n then 0 else i + 1) (ex : hx % n = i) (ey : hy % n = j) :
    (hy + -1 - (hx + 1)) / n = (hy - hx) / n - 1 ∧ (hx + 1 - (hy + -1)) / n = (hx - hy) / n + 1 := by
  have : n = 3 ∨ n = 4 ∨ n = 5 ∨ n = 6 ∨ n = 7 ∨ n = 8 ∨ n = 9 := by omega
  rcases this with rfl | rfl | rfl | rfl | rfl | rfl | rfl <;> split at hj <;> omega
end Nk66

set_option Elab.async false
set_option linter.all false
set_option maxRecDepth 100000
set_option maxHeartbeats 4000000
namespace Nk66
open PySem PySem.Spec L2 DL
section
variable {n : Int} {row hs over : List Int} {i : Nat}
theorem lft_len : (lft row hs i).length = hs.length := by simp [lft]
theorem ovr_len : (ovr row over i).length = over.length := by unfold ovr; split <;> simp
def dlt (p q x : Int) : Int := if x = p then 1 else if x = q then -1 else 0
theorem two_set {l : List Int} {p q x : Int} (hl : (l.length : Int) = n) (hp : 1 ≤ p ∧ p ≤ n) (hq : 1 ≤ q ∧ q ≤ n) (hne : p ≠ q) (h1 : 1 ≤ x) (h2 : x ≤ n) :
    ((l.set (p - 1).toNat (l.getD (p - 1).toNat 0 + 1)).set (q - 1).toNat ((l.set (p - 1).toNat (l.getD (p - 1).toNat 0 + 1)).getD (q - 1).toNat 0 - 1)).getD (x - 1).toNat 0 = l.getD (x - 1).toNat 0 + dlt p q x := by
  rw [getD_set]
  unfold dlt
  by_cases e1 : x = q
  · subst e1
    rw [if_pos ⟨rfl, by simp; omega⟩, getD_set, if_neg (fun z => by omega), if_neg (fun z => hne z.symm), if_pos rfl]
    omega
  · rw [if_neg (fun z => by omega), getD_set]
    by_cases e2 : x = p
    · subst e2
      rw [if_pos ⟨rfl, by omega⟩, if_pos rfl]
    · rw [if_neg (fun z => by omega), if_neg e2, if_neg e1]; omega
theorem two_sum {l : List Int} {p q : Int} (hl : (l.length : Int) = n) (hp : 1 ≤ p ∧ p ≤ n) (hq : 1 ≤ q ∧ q ≤ n) :
    ((l.set (p - 1).toNat (l.getD (p - 1).toNat 0 + 1)).set (q - 1).toNat ((l.set (p - 1).toNat (l.getD (p - 1).toNat 0 + 1)).getD (q - 1).toNat 0 - 1)).sum = l.sum := by
  rw [sum_set (by simp; omega), sum_set (by omega)]
  omega
theorem sg_sg {n i k : Nat} (hi : i < n) (hn : 2 ≤ n) : sg i n (sg i n k) = k := by
  unfold sg
  rw [next_mod hi]
  split <;> split <;> (try split) <;> (try split) <;> (try split) <;> (try split) <;> omega
theorem swp_idx (ok : RowOk n row) (hi : i < row.length) {x : Int} (hx : x ∈ row) : (swp row i).idxOf x = sg i row.length (row.idxOf x) := by
  have h3 := ok.lo
  have hl := ok.len
  have ok2 := swp_ok ok hi
  have hk := List.idxOf_lt_length_of_mem hx
  have hs := sg_lt hi hk
  have e : (swp row i).getD (sg i row.length (row.idxOf x)) 0 = x := by
    rw [swp_get hs, sg_sg hi (by omega), get_idxOf hx]
  have := idxOf_get ok2.nd (i := sg i row.length (row.idxOf x)) (by rw [swp_len]; exact hs)
  rw [e] at this
  exact this
theorem next_int (hl : (row.length : Int) = n) (hi : i < row.length) : (((i + 1) % row.length : Nat) : Int) = if (i : Int) + 1 = n then 0 else (i : Int) + 1 := by
  rw [next_mod hi]
  split <;> split <;> omega
end
theorem Good.change {n : Int} {row0 first row hs path over : List Int} {ps sr ev : List (Int × Int)} {i : Nat} (G : Good n row0 first ps row hs sr ev path over) (hi : i < row.length)
    (hf : mx (row.getD i 0) (row.getD ((i + 1) % row.length) 0) ∉ sr) : Good n row0 first ps (swp row i) (lft row hs i) sr ev (path ++ [(i : Int)]) (ovr row over i) := by
  have hl := G.rok.len
  have h3 := G.rok.lo
  have h9 := G.rok.hi
  have hj : (i + 1) % row.length < row.length := Nat.mod_lt _ (by omega)
  obtain ⟨p, hp⟩ : ∃ p, p = row.getD i 0 := ⟨_, rfl⟩
  obtain ⟨q, hq⟩ : ∃ q, q = row.getD ((i + 1) % row.length) 0 := ⟨_, rfl⟩
  have mp := G.rok.mem _ (DL.getD_mem (z := 0) hi)
  have mq := G.rok.mem _ (DL.getD_mem (z := 0) hj)
  rw [← hp] at mp
  rw [← hq] at mq
  rw [← hp, ← hq] at hf
  have ip : row.idxOf p = i := by rw [hp]; exact idxOf_get G.rok.nd hi
  have iq : row.idxOf q = (i + 1) % row.length := by rw [hq]; exact idxOf_get G.rok.nd hj
  have hne : p ≠ q := fun e => by
    rw [e, iq, next_mod hi] at ip
    split at ip <;> omega
  have hlf : lft row hs i = (hs.set (p - 1).toNat (hs.getD (p - 1).toNat 0 + 1)).set (q - 1).toNat ((hs.set (p - 1).toNat (hs.getD (p - 1).toNat 0 + 1)).getD (q - 1).toNat 0 - 1) := by
    unfold lft; rw [← hp, ← hq]
  have hsl : (hs.length : Int) = n := by rw [G.hl]; exact hl
  have lg : ∀ x : Int, 1 ≤ x → x ≤ n → (lft row hs i).getD (x - 1).toNat 0 = hs.getD (x - 1).toNat 0 + dlt p q x := fun x a b => by
    rw [hlf]; exact two_set hsl mp mq hne a b
  have sp := G.seat p mp.1 mp.2
  have sq := G.seat q mq.1 mq.2
  rw [ip] at sp
  rw [iq, next_int hl hi] at sq
  -- a seat that is neither
  have other : ∀ x : Int, 1 ≤ x → x ≤ n → x ≠ p → x ≠ q → row.idxOf x ≠ i ∧ row.idxOf x ≠ (i + 1) % row.length := fun x a b h1 h2 => by
    have hx := G.rok.has a b
    refine ⟨fun e => h1 ?_, fun e => h2 ?_⟩
    · rw [hp, ← e, get_idxOf hx]
    · rw [hq, ← e, get_idxOf hx]
  have dist : ∀ x y : Int, 1 ≤ x → x ≤ n → 1 ≤ y → y ≤ n → x ≠ y → hs.getD (x - 1).toNat 0 % n ≠ hs.getD (y - 1).toNat 0 % n := fun x y a b c d h e => by
    rw [G.seat x a b, G.seat y c d] at e
    have : row.idxOf x = row.idxOf y := by omega
    exact h (by rw [← get_idxOf (G.rok.has a b), this, get_idxOf (G.rok.has c d)])
  have kind : ∀ x : Int, 1 ≤ x → x ≤ n → (dlt p q x = 1 ∧ hs.getD (x - 1).toNat 0 % n = (i : Int)) ∨ (dlt p q x = -1 ∧ hs.getD (x - 1).toNat 0 % n = if (i : Int) + 1 = n then 0 else (i : Int) + 1) ∨
      (dlt p q x = 0 ∧ hs.getD (x - 1).toNat 0 % n ≠ (i : Int) ∧ hs.getD (x - 1).toNat 0 % n ≠ if (i : Int) + 1 = n then 0 else (i : Int) + 1) := fun x a b => by
    unfold dlt
    by_cases e1 : x = p
    · subst e1; exact .inl ⟨if_pos rfl, sp⟩
    · by_cases e2 : x = q
      · subst e2; exact .inr (.inl ⟨by rw [if_neg e1, if_pos rfl], sq⟩)
      · refine .inr (.inr ⟨by rw [if_neg e1, if_neg e2], ?_, ?_⟩)
        · rw [← sp]; exact dist x p a b mp.1 mp.2 e1
        · rw [← sq]; exact dist x q a b mq.1 mq.2 e2
  have same : ∀ x y : Int, 1 ≤ x → x < y → y ≤ n → (x, y) ≠ mx p q → rnd (lft row hs i) x y n = rnd hs x y n := fun x y a h b hz => by
    unfold rnd
    rw [lg x a (by omega), lg y (by omega) b]
    refine rnd_same (i := i) (j := if (i : Int) + 1 = n then 0 else (i : Int) + 1) h3 h9 (by omega) (by omega) rfl (kind x a (by omega)) (kind y (by omega) b) (dist x y a (by omega) (by omega) b (by omega)) ?_ ?_
    · rintro ⟨h1, h2⟩
      unfold dlt at h1 h2
      have ex : x = p := by split at h1; assumption; split at h1 <;> omega
      have ey : y = q := by split at h2; omega; split at h2; assumption; omega
      subst ex; subst ey
      exact hz (by unfold mx imin imax; rw [if_neg (by omega), if_pos (by omega)])
    · rintro ⟨h1, h2⟩
      unfold dlt at h1 h2
      have ey : y = p := by split at h2; assumption; split at h2 <;> omega
      have ex : x = q := by split at h1; omega; split at h1; assumption; omega
      subst ex; subst ey
      exact hz (by unfold mx imin imax; rw [if_pos (by omega), if_neg (by omega)])
  have diff : rnd (lft row hs i) (mx p q).1 (mx p q).2 n = rnd hs (mx p q).1 (mx p q).2 n - 1 ∨ rnd (lft row hs i) (mx p q).1 (mx p q).2 n = rnd hs (mx p q).1 (mx p q).2 n + 1 := by
    have dp : dlt p q p = 1 := if_pos rfl
    have dq : dlt p q q = -1 := by unfold dlt; rw [if_neg (fun e => hne e.symm), if_pos rfl]
    have rd := rnd_diff (i := i) (j := if (i : Int) + 1 = n then 0 else (i : Int) + 1) h3 h9 (by omega) (by omega) rfl sp sq
    by_cases hlt : p < q
    · have e : mx p q = (p, q) := by unfold mx imin imax; rw [if_neg (by omega), if_pos (by omega)]
      rw [e]
      unfold rnd
      rw [lg p mp.1 mp.2, lg q mq.1 mq.2, dp, dq]
      exact .inl rd.1
    · have e : mx p q = (q, p) := by unfold mx imin imax; rw [if_pos (by omega), if_neg (by omega)]
      rw [e]
      unfold rnd
      rw [lg p mp.1 mp.2, lg q mq.1 mq.2, dp, dq]
      exact .inr rd.2
  have mxok : 1 ≤ (mx p q).1 ∧ (mx p q).1 < (mx p q).2 ∧ (mx p q).2 ≤ n := by
    show 1 ≤ imin _ _ ∧ imin _ _ < imax _ _ ∧ imax _ _ ≤ n
    unfold imin imax
    split <;> split <;> omega
  refine ⟨swp_ok G.rok hi, G.bok, G.eq, G.sub, by rw [lft_len, swp_len]; exact G.hl, by rw [swp_len]; exact G.fl, by rw [ovr_len, swp_len]; exact G.ol, ?_, ?_, ?_, ?_, ?_, ?_⟩
  · -- the seat
    intro x a b
    rw [lg x a b, swp_idx G.rok hi (G.rok.has a b)]
    have sx := G.seat x a b
    unfold dlt sg
    by_cases e1 : x = p
    · subst e1
      rw [if_pos rfl, ip, mod_up h3 h9 sp, next_mod hi]
      (repeat' split) <;> omega
    · by_cases e2 : x = q
      · subst e2
        rw [if_neg e1, if_pos rfl, iq, if_pos rfl, mod_dn h3 h9 sq]
        (repeat' split) <;> omega
      · obtain ⟨o1, o2⟩ := other x a b e1 e2
        rw [if_neg e1, if_neg e2, if_neg o2, if_neg o1, Int.add_zero]
        exact sx
  · -- times
    intro x a b
    rw [lg x a b]
    have tx := G.tim x a b
    have hol : (over.length : Int) = n := by rw [G.ol]; exact hl
    unfold ovr
    rw [← hp, ← hq]
    by_cases hb : i + 1 = row.length
    · rw [if_pos hb]
      show ((over.set (p - 1).toNat (over.getD (p - 1).toNat 0 + 1)).set (q - 1).toNat ((over.set (p - 1).toNat (over.getD (p - 1).toNat 0 + 1)).getD (q - 1).toNat 0 - 1)).getD (x - 1).toNat 0 = _
      rw [two_set hol mp mq hne a b, tx]
      have c : (i : Int) + 1 = n := by omega
      rw [if_pos c] at sq
      unfold dlt
      by_cases e1 : x = p
      · subst e1
        rw [if_pos rfl, div_up h3 h9 sp, if_pos c]
      · by_cases e2 : x = q
        · subst e2
          rw [if_neg e1, if_pos rfl, div_dn h3 h9 sq, if_pos rfl]; omega
        · rw [if_neg e1, if_neg e2]; simp
    · rw [if_neg hb, tx]
      have c : ¬ (i : Int) + 1 = n := by omega
      rw [if_neg c] at sq
      unfold dlt
      by_cases e1 : x = p
      · subst e1
        rw [if_pos rfl, div_up h3 h9 sp, if_neg c]; omega
      · by_cases e2 : x = q
        · subst e2
          rw [if_neg e1, if_pos rfl, div_dn h3 h9 sq, if_neg (by omega)]; omega
        · rw [if_neg e1, if_neg e2]; simp
  · rw [hlf, two_sum hsl mp mq]; exact G.sum
  · intro z hz
    have hzs := G.sub z hz
    have hb := G.bok.mem z ((G.eq z).mpr hzs)
    rw [same z.1 z.2 hb.1 hb.2.1 hb.2.2 (fun e => hf (by rw [← e]; exact hzs))]
    exact G.evr z hz
  · intro qs hqs hw
    obtain ⟨c1, c2⟩ := G.com qs hqs hw
    have hin : mx p q ∈ qs := hw _ _ mxok.1 mxok.2.1 mxok.2.2
    have e : come n (lft row hs i) first qs = come n hs first qs + (iabs (rnd (lft row hs i) (mx p q).1 (mx p q).2 n - rnd first (mx p q).1 (mx p q).2 n) - iabs (rnd hs (mx p q).1 (mx p q).2 n - rnd first (mx p q).1 (mx p q).2 n)) := by
      unfold come
      refine sum_one hqs.nd hin fun y hy hyne => ?_
      have hb := hqs.mem y hy
      show iabs (rnd (lft row hs i) y.1 y.2 n - _) = _
      rw [same y.1 y.2 hb.1 hb.2.1 hb.2.2 hyne]
    rw [e, List.length_append, List.length_singleton]
    unfold iabs
    rcases diff with d | d <;> rw [d] <;> split <;> split <;> omega
  · obtain ⟨P, h1, h2, h4⟩ := G.hist
    refine ⟨P ++ [i], by rw [h1]; simp, fun k hk => ?_, ?_⟩
    · rw [swp_len]
      rcases List.mem_append.mp hk with hk | hk
      · exact h2 k hk
      · rw [List.mem_singleton] at hk; omega
    · rw [List.foldl_append, h4]
      rfl
end Nk66

set_option Elab.async false
set_option linter.all false
set_option maxRecDepth 100000
set_option maxHeartbeats 4000000
namespace Nk66
open PySem PySem.Spec L2 DL
theorem mx_ok {n x y : Int} (h1 : 1 ≤ x ∧ x ≤ n) (h2 : 1 ≤ y ∧ y ≤ n) (hne : x ≠ y) : 1 ≤ (mx x y).1 ∧ (mx x y).1 < (mx x y).2 ∧ (mx x y).2 ≤ n := by
  show 1 ≤ imin _ _ ∧ imin _ _ < imax _ _ ∧ imax _ _ ≤ n
  unfold imin imax
  split <;> split <;> omega
theorem len_m_Table_change {K : PySem.W.Frag} : ∀ es M Q E, sp_m_Table_change K es M Q E → es.length = 2 := by
  rintro _ _ _ _ ⟨_, _, _, _, _, _, _, _, rfl, _⟩; rfl
theorem rd_m_Table_change {K : PySem.W.Frag} : ∀ es M Q E, sp_m_Table_change K es M Q E → t_m_Table_change K { nx := fun _ M => Rtn Q .non M, rt := Rtn Q } (startD nm_m_Table_change es) M := by
  rintro _ M Q _ ⟨t, cc, n, ps, row, made, hs, i, rfl, rfl, ok, hl, hi, hps, q⟩
  have hn := ok.len
  have h3 := ok.lo
  have hi2 : (i + 1) % row.length < row.length := Nat.mod_lt _ (by omega)
  have e1 : row.getD ((i : Int) % n).toNat 0 = row.getD i 0 := by
    rw [Int.emod_eq_of_lt (by omega) (by omega)]; rfl
  have e2 : row.getD (((i : Int) + 1) % n).toNat 0 = row.getD ((i + 1) % row.length) 0 := by
    rw [← hn, succ_mod]; rfl
  have m1 := ok.mem _ (DL.getD_mem (z := 0) hi)
  have m2 := ok.mem _ (DL.getD_mem (z := 0) hi2)
  unfold lft at q
  repeat (first | ((conv => whnf); refine ⟨_, rfl, ?_⟩) | ((conv => whnf); refine ⟨_, _, rfl, ?_⟩) | ((conv => whnf); refine ⟨_, _, _, rfl, ?_⟩) | ((conv => whnf); refine ⟨_, _, _, _, rfl, ?_⟩) | ((conv => whnf); refine DL.exn 0 ⟨_, rfl, ?_⟩) | ((conv => whnf); refine DL.exn 1 ⟨_, rfl, ?_⟩) | ((conv => whnf); refine DL.exn 2 ⟨_, rfl, ?_⟩) | ((conv => whnf); refine DL.exn 3 ⟨_, rfl, ?_⟩) | ((conv => whnf); refine DL.exn 4 ⟨_, rfl, ?_⟩) | ((conv => whnf); refine DL.exn 5 ⟨_, rfl, ?_⟩) | ((conv => whnf); refine DL.exn 0 ⟨_, _, rfl, rfl, ?_⟩) | ((conv => whnf); refine DL.exn 1 ⟨_, _, rfl, rfl, ?_⟩) | ((conv => whnf); refine DL.exn 2 ⟨_, _, rfl, rfl, ?_⟩) | ((conv => whnf); refine DL.exn 3 ⟨_, _, rfl, rfl, ?_⟩) | ((conv => whnf); refine DL.exn 4 ⟨_, _, rfl, rfl, ?_⟩) | ((conv => whnf); refine DL.exn 5 ⟨_, _, rfl, rfl, ?_⟩) | ((conv => whnf); refine DL.exn 0 ⟨_, _, rfl, ?_⟩) | ((conv => whnf); refine DL.exn 1 ⟨_, _, rfl, ?_⟩) | ((conv => whnf); refine DL.exn 2 ⟨_, _, rfl, ?_⟩) | ((conv => whnf); refine DL.exn 3 ⟨_, _, rfl, ?_⟩) | ((conv => whnf); refine DL.exn 4 ⟨_, _, rfl, ?_⟩) | ((conv => whnf); refine DL.exn 5 ⟨_, _, rfl, ?_⟩) | ((conv => whnf); refine DL.exn 0 ⟨_, _, _, rfl, rfl, ?_⟩) | ((conv => whnf); refine DL.exn 1 ⟨_, _, _, rfl, rfl, ?_⟩) | ((conv => whnf); refine DL.exn 2 ⟨_, _, _, rfl, rfl, ?_⟩) | ((conv => whnf); refine DL.exn 3 ⟨_, _, _, rfl, rfl, ?_⟩) | ((conv => whnf); refine DL.exn 4 ⟨_, _, _, rfl, rfl, ?_⟩) | ((conv => whnf); refine DL.exn 5 ⟨_, _, _, rfl, rfl, ?_⟩) | ((conv => whnf); refine Or.inl ⟨by decide, by decide, ?_⟩) | ((conv => whnf); refine Or.inr ⟨_, rfl, by decide, ?_⟩) | ((conv => whnf); refine And.intro (by first | assumption | rfl | decide | omega | exact ⟨rfl, by decide⟩ | exact Nat.le_of_ble_eq_true rfl | exact ⟨rfl, rfl⟩ | exact small_ok (by omega) (by omega) | exact ⟨small_ok (by omega) (by omega), small_ok (by omega) (by omega)⟩ | exact cdiv_ok (by omega) (by omega) | exact cpow_ok (by omega) (by omega) (by omega) (by omega) | decide +kernel) ?_) | (refine DL.ifF (by first | assumption | decide | omega | (simp; omega) | (simp; done) | (simp [*]; omega) | (simp [*]; done) | fail) ?_) | (refine DL.ifT (by first | assumption | decide | omega | (simp; omega) | (simp; done) | (simp [*]; omega) | (simp [*]; done) | fail) ?_) | fail)
  refine ⟨n, row, i, rfl, ok, by omega, ?_⟩
  rw [e1]
  repeat (first | ((conv => whnf); refine ⟨_, rfl, ?_⟩) | ((conv => whnf); refine ⟨_, _, rfl, ?_⟩) | ((conv => whnf); refine ⟨_, _, _, rfl, ?_⟩) | ((conv => whnf); refine ⟨_, _, _, _, rfl, ?_⟩) | ((conv => whnf); refine DL.exn 0 ⟨_, rfl, ?_⟩) | ((conv => whnf); refine DL.exn 1 ⟨_, rfl, ?_⟩) | ((conv => whnf); refine DL.exn 2 ⟨_, rfl, ?_⟩) | ((conv => whnf); refine DL.exn 3 ⟨_, rfl, ?_⟩) | ((conv => whnf); refine DL.exn 4 ⟨_, rfl, ?_⟩) | ((conv => whnf); refine DL.exn 5 ⟨_, rfl, ?_⟩) | ((conv => whnf); refine DL.exn 0 ⟨_, _, rfl, rfl, ?_⟩) | ((conv => whnf); refine DL.exn 1 ⟨_, _, rfl, rfl, ?_⟩) | ((conv => whnf); refine DL.exn 2 ⟨_, _, rfl, rfl, ?_⟩) | ((conv => whnf); refine DL.exn 3 ⟨_, _, rfl, rfl, ?_⟩) | ((conv => whnf); refine DL.exn 4 ⟨_, _, rfl, rfl, ?_⟩) | ((conv => whnf); refine DL.exn 5 ⟨_, _, rfl, rfl, ?_⟩) | ((conv => whnf); refine DL.exn 0 ⟨_, _, rfl, ?_⟩) | ((conv => whnf); refine DL.exn 1 ⟨_, _, rfl, ?_⟩) | ((conv => whnf); refine DL.exn 2 ⟨_, _, rfl, ?_⟩) | ((conv => whnf); refine DL.exn 3 ⟨_, _, rfl, ?_⟩) | ((conv => whnf); refine DL.exn 4 ⟨_, _, rfl, ?_⟩) | ((conv => whnf); refine DL.exn 5 ⟨_, _, rfl, ?_⟩) | ((conv => whnf); refine DL.exn 0 ⟨_, _, _, rfl, rfl, ?_⟩) | ((conv => whnf); refine DL.exn 1 ⟨_, _, _, rfl, rfl, ?_⟩) | ((conv => whnf); refine DL.exn 2 ⟨_, _, _, rfl, rfl, ?_⟩) | ((conv => whnf); refine DL.exn 3 ⟨_, _, _, rfl, rfl, ?_⟩) | ((conv => whnf); refine DL.exn 4 ⟨_, _, _, rfl, rfl, ?_⟩) | ((conv => whnf); refine DL.exn 5 ⟨_, _, _, rfl, rfl, ?_⟩) | ((conv => whnf); refine Or.inl ⟨by decide, by decide, ?_⟩) | ((conv => whnf); refine Or.inr ⟨_, rfl, by decide, ?_⟩) | ((conv => whnf); refine And.intro (by first | assumption | rfl | decide | omega | exact ⟨rfl, by decide⟩ | exact Nat.le_of_ble_eq_true rfl | exact ⟨rfl, rfl⟩ | exact small_ok (by omega) (by omega) | exact ⟨small_ok (by omega) (by omega), small_ok (by omega) (by omega)⟩ | exact cdiv_ok (by omega) (by omega) | exact cpow_ok (by omega) (by omega) (by omega) (by omega) | decide +kernel) ?_) | (refine DL.ifF (by first | assumption | decide | omega | (simp; omega) | (simp; done) | (simp [*]; omega) | (simp [*]; done) | fail) ?_) | (refine DL.ifT (by first | assumption | decide | omega | (simp; omega) | (simp; done) | (simp [*]; omega) | (simp [*]; done) | fail) ?_) | fail)
  refine ⟨n, row, i + 1, rfl, ok, by omega, ?_⟩
  rw [e2]
  generalize row.getD i 0 = p at *
  generalize row.getD ((i + 1) % row.length) 0 = p2 at *
  repeat (first | ((conv => whnf); refine ⟨_, rfl, ?_⟩) | ((conv => whnf); refine ⟨_, _, rfl, ?_⟩) | ((conv => whnf); refine ⟨_, _, _, rfl, ?_⟩) | ((conv => whnf); refine ⟨_, _, _, _, rfl, ?_⟩) | ((conv => whnf); refine DL.exn 0 ⟨_, rfl, ?_⟩) | ((conv => whnf); refine DL.exn 1 ⟨_, rfl, ?_⟩) | ((conv => whnf); refine DL.exn 2 ⟨_, rfl, ?_⟩) | ((conv => whnf); refine DL.exn 3 ⟨_, rfl, ?_⟩) | ((conv => whnf); refine DL.exn 4 ⟨_, rfl, ?_⟩) | ((conv => whnf); refine DL.exn 5 ⟨_, rfl, ?_⟩) | ((conv => whnf); refine DL.exn 0 ⟨_, _, rfl, rfl, ?_⟩) | ((conv => whnf); refine DL.exn 1 ⟨_, _, rfl, rfl, ?_⟩) | ((conv => whnf); refine DL.exn 2 ⟨_, _, rfl, rfl, ?_⟩) | ((conv => whnf); refine DL.exn 3 ⟨_, _, rfl, rfl, ?_⟩) | ((conv => whnf); refine DL.exn 4 ⟨_, _, rfl, rfl, ?_⟩) | ((conv => whnf); refine DL.exn 5 ⟨_, _, rfl, rfl, ?_⟩) | ((conv => whnf); refine DL.exn 0 ⟨_, _, rfl, ?_⟩) | ((conv => whnf); refine DL.exn 1 ⟨_, _, rfl, ?_⟩) | ((conv => whnf); refine DL.exn 2 ⟨_, _, rfl, ?_⟩) | ((conv => whnf); refine DL.exn 3 ⟨_, _, rfl, ?_⟩) | ((conv => whnf); refine DL.exn 4 ⟨_, _, rfl, ?_⟩) | ((conv => whnf); refine DL.exn 5 ⟨_, _, rfl, ?_⟩) | ((conv => whnf); refine DL.exn 0 ⟨_, _, _, rfl, rfl, ?_⟩) | ((conv => whnf); refine DL.exn 1 ⟨_, _, _, rfl, rfl, ?_⟩) | ((conv => whnf); refine DL.exn 2 ⟨_, _, _, rfl, rfl, ?_⟩) | ((conv => whnf); refine DL.exn 3 ⟨_, _, _, rfl, rfl, ?_⟩) | ((conv => whnf); refine DL.exn 4 ⟨_, _, _, rfl, rfl, ?_⟩) | ((conv => whnf); refine DL.exn 5 ⟨_, _, _, rfl, rfl, ?_⟩) | ((conv => whnf); refine Or.inl ⟨by decide, by decide, ?_⟩) | ((conv => whnf); refine Or.inr ⟨_, rfl, by decide, ?_⟩) | ((conv => whnf); refine And.intro (by first | assumption | rfl | decide | omega | exact ⟨rfl, by decide⟩ | exact Nat.le_of_ble_eq_true rfl | exact ⟨rfl, rfl⟩ | exact small_ok (by omega) (by omega) | exact ⟨small_ok (by omega) (by omega), small_ok (by omega) (by omega)⟩ | exact cdiv_ok (by omega) (by omega) | exact cpow_ok (by omega) (by omega) (by omega) (by omega) | decide +kernel) ?_) | (refine DL.ifF (by first | assumption | decide | omega | (simp; omega) | (simp; done) | (simp [*]; omega) | (simp [*]; done) | fail) ?_) | (refine DL.ifT (by first | assumption | decide | omega | (simp; omega) | (simp; done) | (simp [*]; omega) | (simp [*]; done) | fail) ?_) | fail)
  refine ⟨n, row, i, rfl, rfl, ok, hi, ?_⟩
  repeat (first | ((conv => whnf); refine ⟨_, rfl, ?_⟩) | ((conv => whnf); refine ⟨_, _, rfl, ?_⟩) | ((conv => whnf); refine ⟨_, _, _, rfl, ?_⟩) | ((conv => whnf); refine ⟨_, _, _, _, rfl, ?_⟩) | ((conv => whnf); refine DL.exn 0 ⟨_, rfl, ?_⟩) | ((conv => whnf); refine DL.exn 1 ⟨_, rfl, ?_⟩) | ((conv => whnf); refine DL.exn 2 ⟨_, rfl, ?_⟩) | ((conv => whnf); refine DL.exn 3 ⟨_, rfl, ?_⟩) | ((conv => whnf); refine DL.exn 4 ⟨_, rfl, ?_⟩) | ((conv => whnf); refine DL.exn 5 ⟨_, rfl, ?_⟩) | ((conv => whnf); refine DL.exn 0 ⟨_, _, rfl, rfl, ?_⟩) | ((conv => whnf); refine DL.exn 1 ⟨_, _, rfl, rfl, ?_⟩) | ((conv => whnf); refine DL.exn 2 ⟨_, _, rfl, rfl, ?_⟩) | ((conv => whnf); refine DL.exn 3 ⟨_, _, rfl, rfl, ?_⟩) | ((conv => whnf); refine DL.exn 4 ⟨_, _, rfl, rfl, ?_⟩) | ((conv => whnf); refine DL.exn 5 ⟨_, _, rfl, rfl, ?_⟩) | ((conv => whnf); refine DL.exn 0 ⟨_, _, rfl, ?_⟩) | ((conv => whnf); refine DL.exn 1 ⟨_, _, rfl, ?_⟩) | ((conv => whnf); refine DL.exn 2 ⟨_, _, rfl, ?_⟩) | ((conv => whnf); refine DL.exn 3 ⟨_, _, rfl, ?_⟩) | ((conv => whnf); refine DL.exn 4 ⟨_, _, rfl, ?_⟩) | ((conv => whnf); refine DL.exn 5 ⟨_, _, rfl, ?_⟩) | ((conv => whnf); refine DL.exn 0 ⟨_, _, _, rfl, rfl, ?_⟩) | ((conv => whnf); refine DL.exn 1 ⟨_, _, _, rfl, rfl, ?_⟩) | ((conv => whnf); refine DL.exn 2 ⟨_, _, _, rfl, rfl, ?_⟩) | ((conv => whnf); refine DL.exn 3 ⟨_, _, _, rfl, rfl, ?_⟩) | ((conv => whnf); refine DL.exn 4 ⟨_, _, _, rfl, rfl, ?_⟩) | ((conv => whnf); refine DL.exn 5 ⟨_, _, _, rfl, rfl, ?_⟩) | ((conv => whnf); refine Or.inl ⟨by decide, by decide, ?_⟩) | ((conv => whnf); refine Or.inr ⟨_, rfl, by decide, ?_⟩) | ((conv => whnf); refine And.intro (by first | assumption | rfl | decide | omega | exact ⟨rfl, by decide⟩ | exact Nat.le_of_ble_eq_true rfl | exact ⟨rfl, rfl⟩ | exact small_ok (by omega) (by omega) | exact ⟨small_ok (by omega) (by omega), small_ok (by omega) (by omega)⟩ | exact cdiv_ok (by omega) (by omega) | exact cpow_ok (by omega) (by omega) (by omega) (by omega) | decide +kernel) ?_) | (refine DL.ifF (by first | assumption | decide | omega | (simp; omega) | (simp; done) | (simp [*]; omega) | (simp [*]; done) | fail) ?_) | (refine DL.ifT (by first | assumption | decide | omega | (simp; omega) | (simp; done) | (simp [*]; omega) | (simp [*]; done) | fail) ?_) | fail)
  (conv => whnf)
  refine ⟨1, _, _, rfl, atI_map (z := 0) (by show 0 ≤ p - 1; omega) (by show p - 1 < _; omega), 1, _, (p - 1).toNat, rfl, ixN_nat (by show 0 ≤ p - 1; omega) (by show p - 1 < _; simp; omega), ?_⟩
  have e3 : (IL hs).set (p - 1).toNat (.int (hs.getD (p - 1).toNat 0 + 1)) = IL (hs.set (p - 1).toNat (hs.getD (p - 1).toNat 0 + 1)) := by simp [IL, List.map_set]
  repeat (first | ((conv => whnf); refine ⟨_, rfl, ?_⟩) | ((conv => whnf); refine ⟨_, _, rfl, ?_⟩) | ((conv => whnf); refine ⟨_, _, _, rfl, ?_⟩) | ((conv => whnf); refine ⟨_, _, _, _, rfl, ?_⟩) | ((conv => whnf); refine DL.exn 0 ⟨_, rfl, ?_⟩) | ((conv => whnf); refine DL.exn 1 ⟨_, rfl, ?_⟩) | ((conv => whnf); refine DL.exn 2 ⟨_, rfl, ?_⟩) | ((conv => whnf); refine DL.exn 3 ⟨_, rfl, ?_⟩) | ((conv => whnf); refine DL.exn 4 ⟨_, rfl, ?_⟩) | ((conv => whnf); refine DL.exn 5 ⟨_, rfl, ?_⟩) | ((conv => whnf); refine DL.exn 0 ⟨_, _, rfl, rfl, ?_⟩) | ((conv => whnf); refine DL.exn 1 ⟨_, _, rfl, rfl, ?_⟩) | ((conv => whnf); refine DL.exn 2 ⟨_, _, rfl, rfl, ?_⟩) | ((conv => whnf); refine DL.exn 3 ⟨_, _, rfl, rfl, ?_⟩) | ((conv => whnf); refine DL.exn 4 ⟨_, _, rfl, rfl, ?_⟩) | ((conv => whnf); refine DL.exn 5 ⟨_, _, rfl, rfl, ?_⟩) | ((conv => whnf); refine DL.exn 0 ⟨_, _, rfl, ?_⟩) | ((conv => whnf); refine DL.exn 1 ⟨_, _, rfl, ?_⟩) | ((conv => whnf); refine DL.exn 2 ⟨_, _, rfl, ?_⟩) | ((conv => whnf); refine DL.exn 3 ⟨_, _, rfl, ?_⟩) | ((conv => whnf); refine DL.exn 4 ⟨_, _, rfl, ?_⟩) | ((conv => whnf); refine DL.exn 5 ⟨_, _, rfl, ?_⟩) | ((conv => whnf); refine DL.exn 0 ⟨_, _, _, rfl, rfl, ?_⟩) | ((conv => whnf); refine DL.exn 1 ⟨_, _, _, rfl, rfl, ?_⟩) | ((conv => whnf); refine DL.exn 2 ⟨_, _, _, rfl, rfl, ?_⟩) | ((conv => whnf); refine DL.exn 3 ⟨_, _, _, rfl, rfl, ?_⟩) | ((conv => whnf); refine DL.exn 4 ⟨_, _, _, rfl, rfl, ?_⟩) | ((conv => whnf); refine DL.exn 5 ⟨_, _, _, rfl, rfl, ?_⟩) | ((conv => whnf); refine Or.inl ⟨by decide, by decide, ?_⟩) | ((conv => whnf); refine Or.inr ⟨_, rfl, by decide, ?_⟩) | ((conv => whnf); refine And.intro (by first | assumption | rfl | decide | omega | exact ⟨rfl, by decide⟩ | exact Nat.le_of_ble_eq_true rfl | exact ⟨rfl, rfl⟩ | exact small_ok (by omega) (by omega) | exact ⟨small_ok (by omega) (by omega), small_ok (by omega) (by omega)⟩ | exact cdiv_ok (by omega) (by omega) | exact cpow_ok (by omega) (by omega) (by omega) (by omega) | decide +kernel) ?_) | (refine DL.ifF (by first | assumption | decide | omega | (simp; omega) | (simp; done) | (simp [*]; omega) | (simp [*]; done) | fail) ?_) | (refine DL.ifT (by first | assumption | decide | omega | (simp; omega) | (simp; done) | (simp [*]; omega) | (simp [*]; done) | fail) ?_) | fail)
  refine ⟨1, _, _, rfl, (by
    show atI ((IL hs).set (p - 1).toNat (.int (hs.getD (p - 1).toNat 0 + 1))) (p2 - 1) = _
    rw [e3]
    exact atI_map (z := 0) (by omega) (by simp; omega)), 1, _, (p2 - 1).toNat, rfl, ixN_nat (by show 0 ≤ p2 - 1; omega) (by show p2 - 1 < _; simp; omega), ?_⟩
  repeat (first | ((conv => whnf); refine ⟨_, rfl, ?_⟩) | ((conv => whnf); refine ⟨_, _, rfl, ?_⟩) | ((conv => whnf); refine ⟨_, _, _, rfl, ?_⟩) | ((conv => whnf); refine ⟨_, _, _, _, rfl, ?_⟩) | ((conv => whnf); refine DL.exn 0 ⟨_, rfl, ?_⟩) | ((conv => whnf); refine DL.exn 1 ⟨_, rfl, ?_⟩) | ((conv => whnf); refine DL.exn 2 ⟨_, rfl, ?_⟩) | ((conv => whnf); refine DL.exn 3 ⟨_, rfl, ?_⟩) | ((conv => whnf); refine DL.exn 4 ⟨_, rfl, ?_⟩) | ((conv => whnf); refine DL.exn 5 ⟨_, rfl, ?_⟩) | ((conv => whnf); refine DL.exn 0 ⟨_, _, rfl, rfl, ?_⟩) | ((conv => whnf); refine DL.exn 1 ⟨_, _, rfl, rfl, ?_⟩) | ((conv => whnf); refine DL.exn 2 ⟨_, _, rfl, rfl, ?_⟩) | ((conv => whnf); refine DL.exn 3 ⟨_, _, rfl, rfl, ?_⟩) | ((conv => whnf); refine DL.exn 4 ⟨_, _, rfl, rfl, ?_⟩) | ((conv => whnf); refine DL.exn 5 ⟨_, _, rfl, rfl, ?_⟩) | ((conv => whnf); refine DL.exn 0 ⟨_, _, rfl, ?_⟩) | ((conv => whnf); refine DL.exn 1 ⟨_, _, rfl, ?_⟩) | ((conv => whnf); refine DL.exn 2 ⟨_, _, rfl, ?_⟩) | ((conv => whnf); refine DL.exn 3 ⟨_, _, rfl, ?_⟩) | ((conv => whnf); refine DL.exn 4 ⟨_, _, rfl, ?_⟩) | ((conv => whnf); refine DL.exn 5 ⟨_, _, rfl, ?_⟩) | ((conv => whnf); refine DL.exn 0 ⟨_, _, _, rfl, rfl, ?_⟩) | ((conv => whnf); refine DL.exn 1 ⟨_, _, _, rfl, rfl, ?_⟩) | ((conv => whnf); refine DL.exn 2 ⟨_, _, _, rfl, rfl, ?_⟩) | ((conv => whnf); refine DL.exn 3 ⟨_, _, _, rfl, rfl, ?_⟩) | ((conv => whnf); refine DL.exn 4 ⟨_, _, _, rfl, rfl, ?_⟩) | ((conv => whnf); refine DL.exn 5 ⟨_, _, _, rfl, rfl, ?_⟩) | ((conv => whnf); refine Or.inl ⟨by decide, by decide, ?_⟩) | ((conv => whnf); refine Or.inr ⟨_, rfl, by decide, ?_⟩) | ((conv => whnf); refine And.intro (by first | assumption | rfl | decide | omega | exact ⟨rfl, by decide⟩ | exact Nat.le_of_ble_eq_true rfl | exact ⟨rfl, rfl⟩ | exact small_ok (by omega) (by omega) | exact ⟨small_ok (by omega) (by omega), small_ok (by omega) (by omega)⟩ | exact cdiv_ok (by omega) (by omega) | exact cpow_ok (by omega) (by omega) (by omega) (by omega) | decide +kernel) ?_) | (refine DL.ifF (by first | assumption | decide | omega | (simp; omega) | (simp; done) | (simp [*]; omega) | (simp [*]; done) | fail) ?_) | (refine DL.ifT (by first | assumption | decide | omega | (simp; omega) | (simp; done) | (simp [*]; omega) | (simp [*]; done) | fail) ?_) | fail)
  have e4 : ((IL hs).set (p - 1).toNat (.int (hs.getD (p - 1).toNat 0 + 1))).set (p2 - 1).toNat (.int ((hs.set (p - 1).toNat (hs.getD (p - 1).toNat 0 + 1)).getD (p2 - 1).toNat 0 - 1)) = IL ((hs.set (p - 1).toNat (hs.getD (p - 1).toNat 0 + 1)).set (p2 - 1).toNat ((hs.set (p - 1).toNat (hs.getD (p - 1).toNat 0 + 1)).getD (p2 - 1).toNat 0 - 1)) := by
    rw [e3]; simp [IL, List.map_set]
  refine rtn_all ?_
  show Q D.non [(t, .ins (He.ga K "Table") ns_Table [bk K n ps, st K (swp row i), .int (made + 1), .ref cc]), (cc, .lst (((IL hs).set (p - 1).toNat (.int (hs.getD (p - 1).toNat 0 + 1))).set (p2 - 1).toNat (.int ((hs.set (p - 1).toNat (hs.getD (p - 1).toNat 0 + 1)).getD (p2 - 1).toNat 0 - 1))))]
  rw [e4]
  exact q
theorem BkOk.perm {n : Int} {ps qs : List (Int × Int)} (ok : BkOk n ps) (h : qs.Perm ps) : BkOk n qs := ⟨ok.lo, ok.hi, h.nodup_iff.mpr ok.nd, fun x hx => ok.mem x (h.mem_iff.mp hx)⟩
theorem len_f_with_strangers {K : PySem.W.Frag} : ∀ es M Q E, sp_f_with_strangers K es M Q E → es.length = 3 := by
  rintro _ _ _ _ ⟨_, _, _, _, rfl, _⟩; rfl
theorem rd_f_with_strangers {K : PySem.W.Frag} : ∀ es M Q E, sp_f_with_strangers K es M Q E → t_f_with_strangers K { nx := fun _ M => Rtn Q .non M, rt := Rtn Q } (startD nm_f_with_strangers es) M := by
  rintro _ M Q _ ⟨n, ps, x, y, rfl, rfl, ok, hz, h1, h2, hne, q⟩
  repeat (first | ((conv => whnf); refine ⟨_, rfl, ?_⟩) | ((conv => whnf); refine ⟨_, _, rfl, ?_⟩) | ((conv => whnf); refine ⟨_, _, _, rfl, ?_⟩) | ((conv => whnf); refine ⟨_, _, _, _, rfl, ?_⟩) | ((conv => whnf); refine DL.exn 0 ⟨_, rfl, ?_⟩) | ((conv => whnf); refine DL.exn 1 ⟨_, rfl, ?_⟩) | ((conv => whnf); refine DL.exn 2 ⟨_, rfl, ?_⟩) | ((conv => whnf); refine DL.exn 3 ⟨_, rfl, ?_⟩) | ((conv => whnf); refine DL.exn 4 ⟨_, rfl, ?_⟩) | ((conv => whnf); refine DL.exn 5 ⟨_, rfl, ?_⟩) | ((conv => whnf); refine DL.exn 0 ⟨_, _, rfl, rfl, ?_⟩) | ((conv => whnf); refine DL.exn 1 ⟨_, _, rfl, rfl, ?_⟩) | ((conv => whnf); refine DL.exn 2 ⟨_, _, rfl, rfl, ?_⟩) | ((conv => whnf); refine DL.exn 3 ⟨_, _, rfl, rfl, ?_⟩) | ((conv => whnf); refine DL.exn 4 ⟨_, _, rfl, rfl, ?_⟩) | ((conv => whnf); refine DL.exn 5 ⟨_, _, rfl, rfl, ?_⟩) | ((conv => whnf); refine DL.exn 0 ⟨_, _, rfl, ?_⟩) | ((conv => whnf); refine DL.exn 1 ⟨_, _, rfl, ?_⟩) | ((conv => whnf); refine DL.exn 2 ⟨_, _, rfl, ?_⟩) | ((conv => whnf); refine DL.exn 3 ⟨_, _, rfl, ?_⟩) | ((conv => whnf); refine DL.exn 4 ⟨_, _, rfl, ?_⟩) | ((conv => whnf); refine DL.exn 5 ⟨_, _, rfl, ?_⟩) | ((conv => whnf); refine DL.exn 0 ⟨_, _, _, rfl, rfl, ?_⟩) | ((conv => whnf); refine DL.exn 1 ⟨_, _, _, rfl, rfl, ?_⟩) | ((conv => whnf); refine DL.exn 2 ⟨_, _, _, rfl, rfl, ?_⟩) | ((conv => whnf); refine DL.exn 3 ⟨_, _, _, rfl, rfl, ?_⟩) | ((conv => whnf); refine DL.exn 4 ⟨_, _, _, rfl, rfl, ?_⟩) | ((conv => whnf); refine DL.exn 5 ⟨_, _, _, rfl, rfl, ?_⟩) | ((conv => whnf); refine Or.inl ⟨by decide, by decide, ?_⟩) | ((conv => whnf); refine Or.inr ⟨_, rfl, by decide, ?_⟩) | ((conv => whnf); refine And.intro (by first | assumption | rfl | decide | omega | exact ⟨rfl, by decide⟩ | exact Nat.le_of_ble_eq_true rfl | exact ⟨rfl, rfl⟩ | exact small_ok (by omega) (by omega) | exact ⟨small_ok (by omega) (by omega), small_ok (by omega) (by omega)⟩ | exact cdiv_ok (by omega) (by omega) | exact cpow_ok (by omega) (by omega) (by omega) (by omega) | decide +kernel) ?_) | (refine DL.ifF (by first | assumption | decide | omega | (simp; omega) | (simp; done) | (simp [*]; omega) | (simp [*]; done) | fail) ?_) | (refine DL.ifT (by first | assumption | decide | omega | (simp; omega) | (simp; done) | (simp [*]; omega) | (simp [*]; done) | fail) ?_) | fail)
  by_cases hm : mx x y ∈ ps
  · repeat (first | ((conv => whnf); refine ⟨_, rfl, ?_⟩) | ((conv => whnf); refine ⟨_, _, rfl, ?_⟩) | ((conv => whnf); refine ⟨_, _, _, rfl, ?_⟩) | ((conv => whnf); refine ⟨_, _, _, _, rfl, ?_⟩) | ((conv => whnf); refine DL.exn 0 ⟨_, rfl, ?_⟩) | ((conv => whnf); refine DL.exn 1 ⟨_, rfl, ?_⟩) | ((conv => whnf); refine DL.exn 2 ⟨_, rfl, ?_⟩) | ((conv => whnf); refine DL.exn 3 ⟨_, rfl, ?_⟩) | ((conv => whnf); refine DL.exn 4 ⟨_, rfl, ?_⟩) | ((conv => whnf); refine DL.exn 5 ⟨_, rfl, ?_⟩) | ((conv => whnf); refine DL.exn 0 ⟨_, _, rfl, rfl, ?_⟩) | ((conv => whnf); refine DL.exn 1 ⟨_, _, rfl, rfl, ?_⟩) | ((conv => whnf); refine DL.exn 2 ⟨_, _, rfl, rfl, ?_⟩) | ((conv => whnf); refine DL.exn 3 ⟨_, _, rfl, rfl, ?_⟩) | ((conv => whnf); refine DL.exn 4 ⟨_, _, rfl, rfl, ?_⟩) | ((conv => whnf); refine DL.exn 5 ⟨_, _, rfl, rfl, ?_⟩) | ((conv => whnf); refine DL.exn 0 ⟨_, _, rfl, ?_⟩) | ((conv => whnf); refine DL.exn 1 ⟨_, _, rfl, ?_⟩) | ((conv => whnf); refine DL.exn 2 ⟨_, _, rfl, ?_⟩) | ((conv => whnf); refine DL.exn 3 ⟨_, _, rfl, ?_⟩) | ((conv => whnf); refine DL.exn 4 ⟨_, _, rfl, ?_⟩) | ((conv => whnf); refine DL.exn 5 ⟨_, _, rfl, ?_⟩) | ((conv => whnf); refine DL.exn 0 ⟨_, _, _, rfl, rfl, ?_⟩) | ((conv => whnf); refine DL.exn 1 ⟨_, _, _, rfl, rfl, ?_⟩) | ((conv => whnf); refine DL.exn 2 ⟨_, _, _, rfl, rfl, ?_⟩) | ((conv => whnf); refine DL.exn 3 ⟨_, _, _, rfl, rfl, ?_⟩) | ((conv => whnf); refine DL.exn 4 ⟨_, _, _, rfl, rfl, ?_⟩) | ((conv => whnf); refine DL.exn 5 ⟨_, _, _, rfl, rfl, ?_⟩) | ((conv => whnf); refine Or.inl ⟨by decide, by decide, ?_⟩) | ((conv => whnf); refine Or.inr ⟨_, rfl, by decide, ?_⟩) | ((conv => whnf); refine And.intro (by first | assumption | rfl | decide | omega | exact ⟨rfl, by decide⟩ | exact Nat.le_of_ble_eq_true rfl | exact ⟨rfl, rfl⟩ | exact small_ok (by omega) (by omega) | exact ⟨small_ok (by omega) (by omega), small_ok (by omega) (by omega)⟩ | exact cdiv_ok (by omega) (by omega) | exact cpow_ok (by omega) (by omega) (by omega) (by omega) | decide +kernel) ?_) | (refine DL.ifF (by first | assumption | decide | omega | (simp; omega) | (simp; done) | (simp [*]; omega) | (simp [*]; done) | fail) ?_) | (refine DL.ifT (by first | assumption | decide | omega | (simp; omega) | (simp; done) | (simp [*]; omega) | (simp [*]; done) | fail) ?_) | fail)
    exact rtn_all (q ps ok fun z => ⟨.inl, fun h => by rcases h with h | rfl; exact h; exact hm⟩)
  · repeat (first | ((conv => whnf); refine ⟨_, rfl, ?_⟩) | ((conv => whnf); refine ⟨_, _, rfl, ?_⟩) | ((conv => whnf); refine ⟨_, _, _, rfl, ?_⟩) | ((conv => whnf); refine ⟨_, _, _, _, rfl, ?_⟩) | ((conv => whnf); refine DL.exn 0 ⟨_, rfl, ?_⟩) | ((conv => whnf); refine DL.exn 1 ⟨_, rfl, ?_⟩) | ((conv => whnf); refine DL.exn 2 ⟨_, rfl, ?_⟩) | ((conv => whnf); refine DL.exn 3 ⟨_, rfl, ?_⟩) | ((conv => whnf); refine DL.exn 4 ⟨_, rfl, ?_⟩) | ((conv => whnf); refine DL.exn 5 ⟨_, rfl, ?_⟩) | ((conv => whnf); refine DL.exn 0 ⟨_, _, rfl, rfl, ?_⟩) | ((conv => whnf); refine DL.exn 1 ⟨_, _, rfl, rfl, ?_⟩) | ((conv => whnf); refine DL.exn 2 ⟨_, _, rfl, rfl, ?_⟩) | ((conv => whnf); refine DL.exn 3 ⟨_, _, rfl, rfl, ?_⟩) | ((conv => whnf); refine DL.exn 4 ⟨_, _, rfl, rfl, ?_⟩) | ((conv => whnf); refine DL.exn 5 ⟨_, _, rfl, rfl, ?_⟩) | ((conv => whnf); refine DL.exn 0 ⟨_, _, rfl, ?_⟩) | ((conv => whnf); refine DL.exn 1 ⟨_, _, rfl, ?_⟩) | ((conv => whnf); refine DL.exn 2 ⟨_, _, rfl, ?_⟩) | ((conv => whnf); refine DL.exn 3 ⟨_, _, rfl, ?_⟩) | ((conv => whnf); refine DL.exn 4 ⟨_, _, rfl, ?_⟩) | ((conv => whnf); refine DL.exn 5 ⟨_, _, rfl, ?_⟩) | ((conv => whnf); refine DL.exn 0 ⟨_, _, _, rfl, rfl, ?_⟩) | ((conv => whnf); refine DL.exn 1 ⟨_, _, _, rfl, rfl, ?_⟩) | ((conv => whnf); refine DL.exn 2 ⟨_, _, _, rfl, rfl, ?_⟩) | ((conv => whnf); refine DL.exn 3 ⟨_, _, _, rfl, rfl, ?_⟩) | ((conv => whnf); refine DL.exn 4 ⟨_, _, _, rfl, rfl, ?_⟩) | ((conv => whnf); refine DL.exn 5 ⟨_, _, _, rfl, rfl, ?_⟩) | ((conv => whnf); refine Or.inl ⟨by decide, by decide, ?_⟩) | ((conv => whnf); refine Or.inr ⟨_, rfl, by decide, ?_⟩) | ((conv => whnf); refine And.intro (by first | assumption | rfl | decide | omega | exact ⟨rfl, by decide⟩ | exact Nat.le_of_ble_eq_true rfl | exact ⟨rfl, rfl⟩ | exact small_ok (by omega) (by omega) | exact ⟨small_ok (by omega) (by omega), small_ok (by omega) (by omega)⟩ | exact cdiv_ok (by omega) (by omega) | exact cpow_ok (by omega) (by omega) (by omega) (by omega) | decide +kernel) ?_) | (refine DL.ifF (by first | assumption | decide | omega | (simp; omega) | (simp; done) | (simp [*]; omega) | (simp [*]; done) | fail) ?_) | (refine DL.ifT (by first | assumption | decide | omega | (simp; omega) | (simp; done) | (simp [*]; omega) | (simp [*]; done) | fail) ?_) | fail)
    simp only [xSeq, xSet, xIfS, xNext, xRet, xRetN, xDrop, xNever, xBreak, xCont, xOp, xB, blK, xVar, xC, xTru, truK, xAnd, xOr, xNot, xAndV, xOrV, xNotV, xIf, xNil, xCons, xTup, xLst, xLstM, xCall, xCallP, xCallK, gSel, xMeth, xMethP, insK, xMake, xMakeM, xFld, fldK, getK, rdAdd, rdI, rdI0, rdB0, rdMul, rdEqA, viewK, ownK, seqK, lstK, tupK, tupxK, ixK, rdIsN, isN, rdIn, xChain, xUn, xgName, xgNil, xgCons, xgTup, xgSub, setL, xAsg, xPar, xAug, xSetF, PutF, xAugF, xiSeq, xiTup, xiR1, xiR2, xiEnum, xiZip, xFor, xLoop, xFrz, xFz, xYes, xLc, xLcMA, xCL, xCB, rdLen, rdSum, rdAny, rdAll, rdC2, rdC1, rdInt, rdList, rdListM, rdTup, rdTupX, rdSortI, rdSortP, rdIsi, xML, rdAppend, rdExtend, rdPopAt, rdPop, rdIndexI, xTupIx, rdIx, xoN, xoS, xSl, xSlM, xRev, xLR, xLRM, xDGet, dkK, xDPut, xVals, xDisp, xAugL, xLenSet, xSlS, scrK, startD, wipeD, List.getElem?_cons_zero, List.getElem?_cons_succ, List.set_cons_zero, List.set_cons_succ, List.map_cons, List.map_nil, List.cons_append, List.nil_append, List.append_nil, List.length_cons, List.length_nil, List.replicate_succ, List.replicate_zero, Nat.reduceSub, Nat.reduceAdd, Nat.reduceSubDiff, Nat.reduceLeDiff, decide_eq_true_eq, Bool.and_eq_true, ite_true, reduceIte, reduceCtorEq, true_and, and_true, beq_int, beq_pair, beq_ints, beq_pairs, any_il, any_pl, pl_int, pl_ints, pl_pair, pl_pairs, all_il, all_pl, tyD, List.length_map]
    have ok2 : BkOk n (ps ++ [mx x y]) := by
      refine ⟨ok.lo, ok.hi, ?_, ?_⟩
      · refine List.nodup_append.mpr ⟨ok.nd, List.pairwise_singleton _ _, ?_⟩
        intro u hu v hv e
        rw [List.mem_singleton] at hv
        subst hv; subst e
        exact hm hu
      · intro u hu
        rcases List.mem_append.mp hu with hu | hu
        · exact ok.mem u hu
        · rw [List.mem_singleton] at hu
          subst hu
          exact mx_ok h1 h2 hne
    refine ⟨by omega, fun a => ⟨a, n, ps ++ [mx x y], by simp [PL, pairD], rfl, ok2, by simp; omega, ?_⟩⟩
    intro qs hq
    exact ⟨rfl, _, _, rfl, rtn_all (q qs (ok2.perm hq) fun z => by rw [hq.mem_iff, List.mem_append, List.mem_singleton])⟩
theorem len_f_with_friends {K : PySem.W.Frag} : ∀ es M Q E, sp_f_with_friends K es M Q E → es.length = 3 := by
  rintro _ _ _ _ ⟨_, _, _, _, rfl, _⟩; rfl
theorem rd_f_with_friends {K : PySem.W.Frag} : ∀ es M Q E, sp_f_with_friends K es M Q E → t_f_with_friends K { nx := fun _ M => Rtn Q .non M, rt := Rtn Q } (startD nm_f_with_friends es) M := by
  rintro _ M Q _ ⟨n, ps, x, y, rfl, rfl, ok, hz, h1, h2, hne, q⟩
  repeat (first | ((conv => whnf); refine ⟨_, rfl, ?_⟩) | ((conv => whnf); refine ⟨_, _, rfl, ?_⟩) | ((conv => whnf); refine ⟨_, _, _, rfl, ?_⟩) | ((conv => whnf); refine ⟨_, _, _, _, rfl, ?_⟩) | ((conv => whnf); refine DL.exn 0 ⟨_, rfl, ?_⟩) | ((conv => whnf); refine DL.exn 1 ⟨_, rfl, ?_⟩) | ((conv => whnf); refine DL.exn 2 ⟨_, rfl, ?_⟩) | ((conv => whnf); refine DL.exn 3 ⟨_, rfl, ?_⟩) | ((conv => whnf); refine DL.exn 4 ⟨_, rfl, ?_⟩) | ((conv => whnf); refine DL.exn 5 ⟨_, rfl, ?_⟩) | ((conv => whnf); refine DL.exn 0 ⟨_, _, rfl, rfl, ?_⟩) | ((conv => whnf); refine DL.exn 1 ⟨_, _, rfl, rfl, ?_⟩) | ((conv => whnf); refine DL.exn 2 ⟨_, _, rfl, rfl, ?_⟩) | ((conv => whnf); refine DL.exn 3 ⟨_, _, rfl, rfl, ?_⟩) | ((conv => whnf); refine DL.exn 4 ⟨_, _, rfl, rfl, ?_⟩) | ((conv => whnf); refine DL.exn 5 ⟨_, _, rfl, rfl, ?_⟩) | ((conv => whnf); refine DL.exn 0 ⟨_, _, rfl, ?_⟩) | ((conv => whnf); refine DL.exn 1 ⟨_, _, rfl, ?_⟩) | ((conv => whnf); refine DL.exn 2 ⟨_, _, rfl, ?_⟩) | ((conv => whnf); refine DL.exn 3 ⟨_, _, rfl, ?_⟩) | ((conv => whnf); refine DL.exn 4 ⟨_, _, rfl, ?_⟩) | ((conv => whnf); refine DL.exn 5 ⟨_, _, rfl, ?_⟩) | ((conv => whnf); refine DL.exn 0 ⟨_, _, _, rfl, rfl, ?_⟩) | ((conv => whnf); refine DL.exn 1 ⟨_, _, _, rfl, rfl, ?_⟩) | ((conv => whnf); refine DL.exn 2 ⟨_, _, _, rfl, rfl, ?_⟩) | ((conv => whnf); refine DL.exn 3 ⟨_, _, _, rfl, rfl, ?_⟩) | ((conv => whnf); refine DL.exn 4 ⟨_, _, _, rfl, rfl, ?_⟩) | ((conv => whnf); refine DL.exn 5 ⟨_, _, _, rfl, rfl, ?_⟩) | ((conv => whnf); refine Or.inl ⟨by decide, by decide, ?_⟩) | ((conv => whnf); refine Or.inr ⟨_, rfl, by decide, ?_⟩) | ((conv => whnf); refine And.intro (by first | assumption | rfl | decide | omega | exact ⟨rfl, by decide⟩ | exact Nat.le_of_ble_eq_true rfl | exact ⟨rfl, rfl⟩ | exact small_ok (by omega) (by omega) | exact ⟨small_ok (by omega) (by omega), small_ok (by omega) (by omega)⟩ | exact cdiv_ok (by omega) (by omega) | exact cpow_ok (by omega) (by omega) (by omega) (by omega) | decide +kernel) ?_) | (refine DL.ifF (by first | assumption | decide | omega | (simp; omega) | (simp; done) | (simp [*]; omega) | (simp [*]; done) | fail) ?_) | (refine DL.ifT (by first | assumption | decide | omega | (simp; omega) | (simp; done) | (simp [*]; omega) | (simp [*]; done) | fail) ?_) | fail)
  by_cases hm : mx x y ∈ ps
  · repeat (first | ((conv => whnf); refine ⟨_, rfl, ?_⟩) | ((conv => whnf); refine ⟨_, _, rfl, ?_⟩) | ((conv => whnf); refine ⟨_, _, _, rfl, ?_⟩) | ((conv => whnf); refine ⟨_, _, _, _, rfl, ?_⟩) | ((conv => whnf); refine DL.exn 0 ⟨_, rfl, ?_⟩) | ((conv => whnf); refine DL.exn 1 ⟨_, rfl, ?_⟩) | ((conv => whnf); refine DL.exn 2 ⟨_, rfl, ?_⟩) | ((conv => whnf); refine DL.exn 3 ⟨_, rfl, ?_⟩) | ((conv => whnf); refine DL.exn 4 ⟨_, rfl, ?_⟩) | ((conv => whnf); refine DL.exn 5 ⟨_, rfl, ?_⟩) | ((conv => whnf); refine DL.exn 0 ⟨_, _, rfl, rfl, ?_⟩) | ((conv => whnf); refine DL.exn 1 ⟨_, _, rfl, rfl, ?_⟩) | ((conv => whnf); refine DL.exn 2 ⟨_, _, rfl, rfl, ?_⟩) | ((conv => whnf); refine DL.exn 3 ⟨_, _, rfl, rfl, ?_⟩) | ((conv => whnf); refine DL.exn 4 ⟨_, _, rfl, rfl, ?_⟩) | ((conv => whnf); refine DL.exn 5 ⟨_, _, rfl, rfl, ?_⟩) | ((conv => whnf); refine DL.exn 0 ⟨_, _, rfl, ?_⟩) | ((conv => whnf); refine DL.exn 1 ⟨_, _, rfl, ?_⟩) | ((conv => whnf); refine DL.exn 2 ⟨_, _, rfl, ?_⟩) | ((conv => whnf); refine DL.exn 3 ⟨_, _, rfl, ?_⟩) | ((conv => whnf); refine DL.exn 4 ⟨_, _, rfl, ?_⟩) | ((conv => whnf); refine DL.exn 5 ⟨_, _, rfl, ?_⟩) | ((conv => whnf); refine DL.exn 0 ⟨_, _, _, rfl, rfl, ?_⟩) | ((conv => whnf); refine DL.exn 1 ⟨_, _, _, rfl, rfl, ?_⟩) | ((conv => whnf); refine DL.exn 2 ⟨_, _, _, rfl, rfl, ?_⟩) | ((conv => whnf); refine DL.exn 3 ⟨_, _, _, rfl, rfl, ?_⟩) | ((conv => whnf); refine DL.exn 4 ⟨_, _, _, rfl, rfl, ?_⟩) | ((conv => whnf); refine DL.exn 5 ⟨_, _, _, rfl, rfl, ?_⟩) | ((conv => whnf); refine Or.inl ⟨by decide, by decide, ?_⟩) | ((conv => whnf); refine Or.inr ⟨_, rfl, by decide, ?_⟩) | ((conv => whnf); refine And.intro (by first | assumption | rfl | decide | omega | exact ⟨rfl, by decide⟩ | exact Nat.le_of_ble_eq_true rfl | exact ⟨rfl, rfl⟩ | exact small_ok (by omega) (by omega) | exact ⟨small_ok (by omega) (by omega), small_ok (by omega) (by omega)⟩ | exact cdiv_ok (by omega) (by omega) | exact cpow_ok (by omega) (by omega) (by omega) (by omega) | decide +kernel) ?_) | (refine DL.ifF (by first | assumption | decide | omega | (simp; omega) | (simp; done) | (simp [*]; omega) | (simp [*]; done) | fail) ?_) | (refine DL.ifT (by first | assumption | decide | omega | (simp; omega) | (simp; done) | (simp [*]; omega) | (simp [*]; done) | fail) ?_) | fail)
    (conv => whnf)
    refine ⟨by simp [PL]; omega, ?_⟩
    refine cl_filt (fun d => d) (fun d => !beq d (pairD (mx x y))) (fun d hd k1 k2 g1 g2 => ?_) ?_
    · obtain ⟨p, hp, rfl⟩ := List.mem_map.mp hd
      repeat (first | ((conv => whnf); refine ⟨_, rfl, ?_⟩) | ((conv => whnf); refine ⟨_, _, rfl, ?_⟩) | ((conv => whnf); refine ⟨_, _, _, rfl, ?_⟩) | ((conv => whnf); refine ⟨_, _, _, _, rfl, ?_⟩) | ((conv => whnf); refine DL.exn 0 ⟨_, rfl, ?_⟩) | ((conv => whnf); refine DL.exn 1 ⟨_, rfl, ?_⟩) | ((conv => whnf); refine DL.exn 2 ⟨_, rfl, ?_⟩) | ((conv => whnf); refine DL.exn 3 ⟨_, rfl, ?_⟩) | ((conv => whnf); refine DL.exn 4 ⟨_, rfl, ?_⟩) | ((conv => whnf); refine DL.exn 5 ⟨_, rfl, ?_⟩) | ((conv => whnf); refine DL.exn 0 ⟨_, _, rfl, rfl, ?_⟩) | ((conv => whnf); refine DL.exn 1 ⟨_, _, rfl, rfl, ?_⟩) | ((conv => whnf); refine DL.exn 2 ⟨_, _, rfl, rfl, ?_⟩) | ((conv => whnf); refine DL.exn 3 ⟨_, _, rfl, rfl, ?_⟩) | ((conv => whnf); refine DL.exn 4 ⟨_, _, rfl, rfl, ?_⟩) | ((conv => whnf); refine DL.exn 5 ⟨_, _, rfl, rfl, ?_⟩) | ((conv => whnf); refine DL.exn 0 ⟨_, _, rfl, ?_⟩) | ((conv => whnf); refine DL.exn 1 ⟨_, _, rfl, ?_⟩) | ((conv => whnf); refine DL.exn 2 ⟨_, _, rfl, ?_⟩) | ((conv => whnf); refine DL.exn 3 ⟨_, _, rfl, ?_⟩) | ((conv => whnf); refine DL.exn 4 ⟨_, _, rfl, ?_⟩) | ((conv => whnf); refine DL.exn 5 ⟨_, _, rfl, ?_⟩) | ((conv => whnf); refine DL.exn 0 ⟨_, _, _, rfl, rfl, ?_⟩) | ((conv => whnf); refine DL.exn 1 ⟨_, _, _, rfl, rfl, ?_⟩) | ((conv => whnf); refine DL.exn 2 ⟨_, _, _, rfl, rfl, ?_⟩) | ((conv => whnf); refine DL.exn 3 ⟨_, _, _, rfl, rfl, ?_⟩) | ((conv => whnf); refine DL.exn 4 ⟨_, _, _, rfl, rfl, ?_⟩) | ((conv => whnf); refine DL.exn 5 ⟨_, _, _, rfl, rfl, ?_⟩) | ((conv => whnf); refine Or.inl ⟨by decide, by decide, ?_⟩) | ((conv => whnf); refine Or.inr ⟨_, rfl, by decide, ?_⟩) | ((conv => whnf); refine And.intro (by first | assumption | rfl | decide | omega | exact ⟨rfl, by decide⟩ | exact Nat.le_of_ble_eq_true rfl | exact ⟨rfl, rfl⟩ | exact small_ok (by omega) (by omega) | exact ⟨small_ok (by omega) (by omega), small_ok (by omega) (by omega)⟩ | exact cdiv_ok (by omega) (by omega) | exact cpow_ok (by omega) (by omega) (by omega) (by omega) | decide +kernel) ?_) | (refine DL.ifF (by first | assumption | decide | omega | (simp; omega) | (simp; done) | (simp [*]; omega) | (simp [*]; done) | fail) ?_) | (refine DL.ifT (by first | assumption | decide | omega | (simp; omega) | (simp; done) | (simp [*]; omega) | (simp [*]; done) | fail) ?_) | fail)
      show (if (!beq (pairD p) (pairD (mx x y))) = true then _ else _)
      by_cases hb : (!beq (pairD p) (pairD (mx x y))) = true
      · rw [if_pos hb]
        exact g1 hb
      · rw [if_neg hb]
        exact g2 (by simpa using hb)
    · have ef : (PL ps).filter (fun d => !beq d (pairD (mx x y))) = PL (ps.filter fun z => decide (z ≠ mx x y)) := by
        rw [PL, List.filter_map]
        congr 1
        refine List.filter_congr fun z _ => ?_
        show (!beq (pairD z) (pairD (mx x y))) = _
        rw [beq_pair]; simp
      have ok2 : BkOk n (ps.filter fun z => decide (z ≠ mx x y)) := ⟨ok.lo, ok.hi, ok.nd.filter _, fun z hz => ok.mem z (List.mem_filter.mp hz).1⟩
      rw [ef, List.map_id']
      repeat (first | ((conv => whnf); refine ⟨_, rfl, ?_⟩) | ((conv => whnf); refine ⟨_, _, rfl, ?_⟩) | ((conv => whnf); refine ⟨_, _, _, rfl, ?_⟩) | ((conv => whnf); refine ⟨_, _, _, _, rfl, ?_⟩) | ((conv => whnf); refine DL.exn 0 ⟨_, rfl, ?_⟩) | ((conv => whnf); refine DL.exn 1 ⟨_, rfl, ?_⟩) | ((conv => whnf); refine DL.exn 2 ⟨_, rfl, ?_⟩) | ((conv => whnf); refine DL.exn 3 ⟨_, rfl, ?_⟩) | ((conv => whnf); refine DL.exn 4 ⟨_, rfl, ?_⟩) | ((conv => whnf); refine DL.exn 5 ⟨_, rfl, ?_⟩) | ((conv => whnf); refine DL.exn 0 ⟨_, _, rfl, rfl, ?_⟩) | ((conv => whnf); refine DL.exn 1 ⟨_, _, rfl, rfl, ?_⟩) | ((conv => whnf); refine DL.exn 2 ⟨_, _, rfl, rfl, ?_⟩) | ((conv => whnf); refine DL.exn 3 ⟨_, _, rfl, rfl, ?_⟩) | ((conv => whnf); refine DL.exn 4 ⟨_, _, rfl, rfl, ?_⟩) | ((conv => whnf); refine DL.exn 5 ⟨_, _, rfl, rfl, ?_⟩) | ((conv => whnf); refine DL.exn 0 ⟨_, _, rfl, ?_⟩) | ((conv => whnf); refine DL.exn 1 ⟨_, _, rfl, ?_⟩) | ((conv => whnf); refine DL.exn 2 ⟨_, _, rfl, ?_⟩) | ((conv => whnf); refine DL.exn 3 ⟨_, _, rfl, ?_⟩) | ((conv => whnf); refine DL.exn 4 ⟨_, _, rfl, ?_⟩) | ((conv => whnf); refine DL.exn 5 ⟨_, _, rfl, ?_⟩) | ((conv => whnf); refine DL.exn 0 ⟨_, _, _, rfl, rfl, ?_⟩) | ((conv => whnf); refine DL.exn 1 ⟨_, _, _, rfl, rfl, ?_⟩) | ((conv => whnf); refine DL.exn 2 ⟨_, _, _, rfl, rfl, ?_⟩) | ((conv => whnf); refine DL.exn 3 ⟨_, _, _, rfl, rfl, ?_⟩) | ((conv => whnf); refine DL.exn 4 ⟨_, _, _, rfl, rfl, ?_⟩) | ((conv => whnf); refine DL.exn 5 ⟨_, _, _, rfl, rfl, ?_⟩) | ((conv => whnf); refine Or.inl ⟨by decide, by decide, ?_⟩) | ((conv => whnf); refine Or.inr ⟨_, rfl, by decide, ?_⟩) | ((conv => whnf); refine And.intro (by first | assumption | rfl | decide | omega | exact ⟨rfl, by decide⟩ | exact Nat.le_of_ble_eq_true rfl | exact ⟨rfl, rfl⟩ | exact small_ok (by omega) (by omega) | exact ⟨small_ok (by omega) (by omega), small_ok (by omega) (by omega)⟩ | exact cdiv_ok (by omega) (by omega) | exact cpow_ok (by omega) (by omega) (by omega) (by omega) | decide +kernel) ?_) | (refine DL.ifF (by first | assumption | decide | omega | (simp; omega) | (simp; done) | (simp [*]; omega) | (simp [*]; done) | fail) ?_) | (refine DL.ifT (by first | assumption | decide | omega | (simp; omega) | (simp; done) | (simp [*]; omega) | (simp [*]; done) | fail) ?_) | fail)
      intro a
      exact ⟨a, n, _, rfl, rfl, ok2, by have := ok2.len; omega, fun rs hr => ⟨rfl, _, _, rfl, rtn_all (q rs (ok2.perm hr) fun z => by rw [hr.mem_iff, List.mem_filter]; simp)⟩⟩
  · repeat (first | ((conv => whnf); refine ⟨_, rfl, ?_⟩) | ((conv => whnf); refine ⟨_, _, rfl, ?_⟩) | ((conv => whnf); refine ⟨_, _, _, rfl, ?_⟩) | ((conv => whnf); refine ⟨_, _, _, _, rfl, ?_⟩) | ((conv => whnf); refine DL.exn 0 ⟨_, rfl, ?_⟩) | ((conv => whnf); refine DL.exn 1 ⟨_, rfl, ?_⟩) | ((conv => whnf); refine DL.exn 2 ⟨_, rfl, ?_⟩) | ((conv => whnf); refine DL.exn 3 ⟨_, rfl, ?_⟩) | ((conv => whnf); refine DL.exn 4 ⟨_, rfl, ?_⟩) | ((conv => whnf); refine DL.exn 5 ⟨_, rfl, ?_⟩) | ((conv => whnf); refine DL.exn 0 ⟨_, _, rfl, rfl, ?_⟩) | ((conv => whnf); refine DL.exn 1 ⟨_, _, rfl, rfl, ?_⟩) | ((conv => whnf); refine DL.exn 2 ⟨_, _, rfl, rfl, ?_⟩) | ((conv => whnf); refine DL.exn 3 ⟨_, _, rfl, rfl, ?_⟩) | ((conv => whnf); refine DL.exn 4 ⟨_, _, rfl, rfl, ?_⟩) | ((conv => whnf); refine DL.exn 5 ⟨_, _, rfl, rfl, ?_⟩) | ((conv => whnf); refine DL.exn 0 ⟨_, _, rfl, ?_⟩) | ((conv => whnf); refine DL.exn 1 ⟨_, _, rfl, ?_⟩) | ((conv => whnf); refine DL.exn 2 ⟨_, _, rfl, ?_⟩) | ((conv => whnf); refine DL.exn 3 ⟨_, _, rfl, ?_⟩) | ((conv => whnf); refine DL.exn 4 ⟨_, _, rfl, ?_⟩) | ((conv => whnf); refine DL.exn 5 ⟨_, _, rfl, ?_⟩) | ((conv => whnf); refine DL.exn 0 ⟨_, _, _, rfl, rfl, ?_⟩) | ((conv => whnf); refine DL.exn 1 ⟨_, _, _, rfl, rfl, ?_⟩) | ((conv => whnf); refine DL.exn 2 ⟨_, _, _, rfl, rfl, ?_⟩) | ((conv => whnf); refine DL.exn 3 ⟨_, _, _, rfl, rfl, ?_⟩) | ((conv => whnf); refine DL.exn 4 ⟨_, _, _, rfl, rfl, ?_⟩) | ((conv => whnf); refine DL.exn 5 ⟨_, _, _, rfl, rfl, ?_⟩) | ((conv => whnf); refine Or.inl ⟨by decide, by decide, ?_⟩) | ((conv => whnf); refine Or.inr ⟨_, rfl, by decide, ?_⟩) | ((conv => whnf); refine And.intro (by first | assumption | rfl | decide | omega | exact ⟨rfl, by decide⟩ | exact Nat.le_of_ble_eq_true rfl | exact ⟨rfl, rfl⟩ | exact small_ok (by omega) (by omega) | exact ⟨small_ok (by omega) (by omega), small_ok (by omega) (by omega)⟩ | exact cdiv_ok (by omega) (by omega) | exact cpow_ok (by omega) (by omega) (by omega) (by omega) | decide +kernel) ?_) | (refine DL.ifF (by first | assumption | decide | omega | (simp; omega) | (simp; done) | (simp [*]; omega) | (simp [*]; done) | fail) ?_) | (refine DL.ifT (by first | assumption | decide | omega | (simp; omega) | (simp; done) | (simp [*]; omega) | (simp [*]; done) | fail) ?_) | fail)
    exact rtn_all (q ps ok fun z => ⟨fun h => ⟨h, fun e => hm (e ▸ h)⟩, fun h => h.1⟩)
theorem len_m_Table_part {K : PySem.W.Frag} : ∀ es M Q E, sp_m_Table_part K es M Q E → es.length = 3 := by
  rintro _ _ _ _ ⟨_, _, _, _, _, _, _, _, _, rfl, _⟩; rfl
theorem rd_m_Table_part {K : PySem.W.Frag} : ∀ es M Q E, sp_m_Table_part K es M Q E → t_m_Table_part K { nx := fun _ M => Rtn Q .non M, rt := Rtn Q } (startD nm_m_Table_part es) M := by
  rintro _ M Q _ ⟨t, cc, n, ps, row, made, hs, x, y, rfl, rfl, ok, hz, h1, h2, hne, q⟩
  repeat (first | ((conv => whnf); refine ⟨_, rfl, ?_⟩) | ((conv => whnf); refine ⟨_, _, rfl, ?_⟩) | ((conv => whnf); refine ⟨_, _, _, rfl, ?_⟩) | ((conv => whnf); refine ⟨_, _, _, _, rfl, ?_⟩) | ((conv => whnf); refine DL.exn 0 ⟨_, rfl, ?_⟩) | ((conv => whnf); refine DL.exn 1 ⟨_, rfl, ?_⟩) | ((conv => whnf); refine DL.exn 2 ⟨_, rfl, ?_⟩) | ((conv => whnf); refine DL.exn 3 ⟨_, rfl, ?_⟩) | ((conv => whnf); refine DL.exn 4 ⟨_, rfl, ?_⟩) | ((conv => whnf); refine DL.exn 5 ⟨_, rfl, ?_⟩) | ((conv => whnf); refine DL.exn 0 ⟨_, _, rfl, rfl, ?_⟩) | ((conv => whnf); refine DL.exn 1 ⟨_, _, rfl, rfl, ?_⟩) | ((conv => whnf); refine DL.exn 2 ⟨_, _, rfl, rfl, ?_⟩) | ((conv => whnf); refine DL.exn 3 ⟨_, _, rfl, rfl, ?_⟩) | ((conv => whnf); refine DL.exn 4 ⟨_, _, rfl, rfl, ?_⟩) | ((conv => whnf); refine DL.exn 5 ⟨_, _, rfl, rfl, ?_⟩) | ((conv => whnf); refine DL.exn 0 ⟨_, _, rfl, ?_⟩) | ((conv => whnf); refine DL.exn 1 ⟨_, _, rfl, ?_⟩) | ((conv => whnf); refine DL.exn 2 ⟨_, _, rfl, ?_⟩) | ((conv => whnf); refine DL.exn 3 ⟨_, _, rfl, ?_⟩) | ((conv => whnf); refine DL.exn 4 ⟨_, _, rfl, ?_⟩) | ((conv => whnf); refine DL.exn 5 ⟨_, _, rfl, ?_⟩) | ((conv => whnf); refine DL.exn 0 ⟨_, _, _, rfl, rfl, ?_⟩) | ((conv => whnf); refine DL.exn 1 ⟨_, _, _, rfl, rfl, ?_⟩) | ((conv => whnf); refine DL.exn 2 ⟨_, _, _, rfl, rfl, ?_⟩) | ((conv => whnf); refine DL.exn 3 ⟨_, _, _, rfl, rfl, ?_⟩) | ((conv => whnf); refine DL.exn 4 ⟨_, _, _, rfl, rfl, ?_⟩) | ((conv => whnf); refine DL.exn 5 ⟨_, _, _, rfl, rfl, ?_⟩) | ((conv => whnf); refine Or.inl ⟨by decide, by decide, ?_⟩) | ((conv => whnf); refine Or.inr ⟨_, rfl, by decide, ?_⟩) | ((conv => whnf); refine And.intro (by first | assumption | rfl | decide | omega | exact ⟨rfl, by decide⟩ | exact Nat.le_of_ble_eq_true rfl | exact ⟨rfl, rfl⟩ | exact small_ok (by omega) (by omega) | exact ⟨small_ok (by omega) (by omega), small_ok (by omega) (by omega)⟩ | exact cdiv_ok (by omega) (by omega) | exact cpow_ok (by omega) (by omega) (by omega) (by omega) | decide +kernel) ?_) | (refine DL.ifF (by first | assumption | decide | omega | (simp; omega) | (simp; done) | (simp [*]; omega) | (simp [*]; done) | fail) ?_) | (refine DL.ifT (by first | assumption | decide | omega | (simp; omega) | (simp; done) | (simp [*]; omega) | (simp [*]; done) | fail) ?_) | fail)
  intro qs ok2 hq
  repeat (first | ((conv => whnf); refine ⟨_, rfl, ?_⟩) | ((conv => whnf); refine ⟨_, _, rfl, ?_⟩) | ((conv => whnf); refine ⟨_, _, _, rfl, ?_⟩) | ((conv => whnf); refine ⟨_, _, _, _, rfl, ?_⟩) | ((conv => whnf); refine DL.exn 0 ⟨_, rfl, ?_⟩) | ((conv => whnf); refine DL.exn 1 ⟨_, rfl, ?_⟩) | ((conv => whnf); refine DL.exn 2 ⟨_, rfl, ?_⟩) | ((conv => whnf); refine DL.exn 3 ⟨_, rfl, ?_⟩) | ((conv => whnf); refine DL.exn 4 ⟨_, rfl, ?_⟩) | ((conv => whnf); refine DL.exn 5 ⟨_, rfl, ?_⟩) | ((conv => whnf); refine DL.exn 0 ⟨_, _, rfl, rfl, ?_⟩) | ((conv => whnf); refine DL.exn 1 ⟨_, _, rfl, rfl, ?_⟩) | ((conv => whnf); refine DL.exn 2 ⟨_, _, rfl, rfl, ?_⟩) | ((conv => whnf); refine DL.exn 3 ⟨_, _, rfl, rfl, ?_⟩) | ((conv => whnf); refine DL.exn 4 ⟨_, _, rfl, rfl, ?_⟩) | ((conv => whnf); refine DL.exn 5 ⟨_, _, rfl, rfl, ?_⟩) | ((conv => whnf); refine DL.exn 0 ⟨_, _, rfl, ?_⟩) | ((conv => whnf); refine DL.exn 1 ⟨_, _, rfl, ?_⟩) | ((conv => whnf); refine DL.exn 2 ⟨_, _, rfl, ?_⟩) | ((conv => whnf); refine DL.exn 3 ⟨_, _, rfl, ?_⟩) | ((conv => whnf); refine DL.exn 4 ⟨_, _, rfl, ?_⟩) | ((conv => whnf); refine DL.exn 5 ⟨_, _, rfl, ?_⟩) | ((conv => whnf); refine DL.exn 0 ⟨_, _, _, rfl, rfl, ?_⟩) | ((conv => whnf); refine DL.exn 1 ⟨_, _, _, rfl, rfl, ?_⟩) | ((conv => whnf); refine DL.exn 2 ⟨_, _, _, rfl, rfl, ?_⟩) | ((conv => whnf); refine DL.exn 3 ⟨_, _, _, rfl, rfl, ?_⟩) | ((conv => whnf); refine DL.exn 4 ⟨_, _, _, rfl, rfl, ?_⟩) | ((conv => whnf); refine DL.exn 5 ⟨_, _, _, rfl, rfl, ?_⟩) | ((conv => whnf); refine Or.inl ⟨by decide, by decide, ?_⟩) | ((conv => whnf); refine Or.inr ⟨_, rfl, by decide, ?_⟩) | ((conv => whnf); refine And.intro (by first | assumption | rfl | decide | omega | exact ⟨rfl, by decide⟩ | exact Nat.le_of_ble_eq_true rfl | exact ⟨rfl, rfl⟩ | exact small_ok (by omega) (by omega) | exact ⟨small_ok (by omega) (by omega), small_ok (by omega) (by omega)⟩ | exact cdiv_ok (by omega) (by omega) | exact cpow_ok (by omega) (by omega) (by omega) (by omega) | decide +kernel) ?_) | (refine DL.ifF (by first | assumption | decide | omega | (simp; omega) | (simp; done) | (simp [*]; omega) | (simp [*]; done) | fail) ?_) | (refine DL.ifT (by first | assumption | decide | omega | (simp; omega) | (simp; done) | (simp [*]; omega) | (simp [*]; done) | fail) ?_) | fail)
  exact rtn_all (q qs ok2 hq)
theorem len_m_Table_befriend {K : PySem.W.Frag} : ∀ es M Q E, sp_m_Table_befriend K es M Q E → es.length = 3 := by
  rintro _ _ _ _ ⟨_, _, _, _, _, _, _, _, _, rfl, _⟩; rfl
theorem rd_m_Table_befriend {K : PySem.W.Frag} : ∀ es M Q E, sp_m_Table_befriend K es M Q E → t_m_Table_befriend K { nx := fun _ M => Rtn Q .non M, rt := Rtn Q } (startD nm_m_Table_befriend es) M := by
  rintro _ M Q _ ⟨t, cc, n, ps, row, made, hs, x, y, rfl, rfl, ok, hz, h1, h2, hne, q⟩
  repeat (first | ((conv => whnf); refine ⟨_, rfl, ?_⟩) | ((conv => whnf); refine ⟨_, _, rfl, ?_⟩) | ((conv => whnf); refine ⟨_, _, _, rfl, ?_⟩) | ((conv => whnf); refine ⟨_, _, _, _, rfl, ?_⟩) | ((conv => whnf); refine DL.exn 0 ⟨_, rfl, ?_⟩) | ((conv => whnf); refine DL.exn 1 ⟨_, rfl, ?_⟩) | ((conv => whnf); refine DL.exn 2 ⟨_, rfl, ?_⟩) | ((conv => whnf); refine DL.exn 3 ⟨_, rfl, ?_⟩) | ((conv => whnf); refine DL.exn 4 ⟨_, rfl, ?_⟩) | ((conv => whnf); refine DL.exn 5 ⟨_, rfl, ?_⟩) | ((conv => whnf); refine DL.exn 0 ⟨_, _, rfl, rfl, ?_⟩) | ((conv => whnf); refine DL.exn 1 ⟨_, _, rfl, rfl, ?_⟩) | ((conv => whnf); refine DL.exn 2 ⟨_, _, rfl, rfl, ?_⟩) | ((conv => whnf); refine DL.exn 3 ⟨_, _, rfl, rfl, ?_⟩) | ((conv => whnf); refine DL.exn 4 ⟨_, _, rfl, rfl, ?_⟩) | ((conv => whnf); refine DL.exn 5 ⟨_, _, rfl, rfl, ?_⟩) | ((conv => whnf); refine DL.exn 0 ⟨_, _, rfl, ?_⟩) | ((conv => whnf); refine DL.exn 1 ⟨_, _, rfl, ?_⟩) | ((conv => whnf); refine DL.exn 2 ⟨_, _, rfl, ?_⟩) | ((conv => whnf); refine DL.exn 3 ⟨_, _, rfl, ?_⟩) | ((conv => whnf); refine DL.exn 4 ⟨_, _, rfl, ?_⟩) | ((conv => whnf); refine DL.exn 5 ⟨_, _, rfl, ?_⟩) | ((conv => whnf); refine DL.exn 0 ⟨_, _, _, rfl, rfl, ?_⟩) | ((conv => whnf); refine DL.exn 1 ⟨_, _, _, rfl, rfl, ?_⟩) | ((conv => whnf); refine DL.exn 2 ⟨_, _, _, rfl, rfl, ?_⟩) | ((conv => whnf); refine DL.exn 3 ⟨_, _, _, rfl, rfl, ?_⟩) | ((conv => whnf); refine DL.exn 4 ⟨_, _, _, rfl, rfl, ?_⟩) | ((conv => whnf); refine DL.exn 5 ⟨_, _, _, rfl, rfl, ?_⟩) | ((conv => whnf); refine Or.inl ⟨by decide, by decide, ?_⟩) | ((conv => whnf); refine Or.inr ⟨_, rfl, by decide, ?_⟩) | ((conv => whnf); refine And.intro (by first | assumption | rfl | decide | omega | exact ⟨rfl, by decide⟩ | exact Nat.le_of_ble_eq_true rfl | exact ⟨rfl, rfl⟩ | exact small_ok (by omega) (by omega) | exact ⟨small_ok (by omega) (by omega), small_ok (by omega) (by omega)⟩ | exact cdiv_ok (by omega) (by omega) | exact cpow_ok (by omega) (by omega) (by omega) (by omega) | decide +kernel) ?_) | (refine DL.ifF (by first | assumption | decide | omega | (simp; omega) | (simp; done) | (simp [*]; omega) | (simp [*]; done) | fail) ?_) | (refine DL.ifT (by first | assumption | decide | omega | (simp; omega) | (simp; done) | (simp [*]; omega) | (simp [*]; done) | fail) ?_) | fail)
  intro qs ok2 hq
  repeat (first | ((conv => whnf); refine ⟨_, rfl, ?_⟩) | ((conv => whnf); refine ⟨_, _, rfl, ?_⟩) | ((conv => whnf); refine ⟨_, _, _, rfl, ?_⟩) | ((conv => whnf); refine ⟨_, _, _, _, rfl, ?_⟩) | ((conv => whnf); refine DL.exn 0 ⟨_, rfl, ?_⟩) | ((conv => whnf); refine DL.exn 1 ⟨_, rfl, ?_⟩) | ((conv => whnf); refine DL.exn 2 ⟨_, rfl, ?_⟩) | ((conv => whnf); refine DL.exn 3 ⟨_, rfl, ?_⟩) | ((conv => whnf); refine DL.exn 4 ⟨_, rfl, ?_⟩) | ((conv => whnf); refine DL.exn 5 ⟨_, rfl, ?_⟩) | ((conv => whnf); refine DL.exn 0 ⟨_, _, rfl, rfl, ?_⟩) | ((conv => whnf); refine DL.exn 1 ⟨_, _, rfl, rfl, ?_⟩) | ((conv => whnf); refine DL.exn 2 ⟨_, _, rfl, rfl, ?_⟩) | ((conv => whnf); refine DL.exn 3 ⟨_, _, rfl, rfl, ?_⟩) | ((conv => whnf); refine DL.exn 4 ⟨_, _, rfl, rfl, ?_⟩) | ((conv => whnf); refine DL.exn 5 ⟨_, _, rfl, rfl, ?_⟩) | ((conv => whnf); refine DL.exn 0 ⟨_, _, rfl, ?_⟩) | ((conv => whnf); refine DL.exn 1 ⟨_, _, rfl, ?_⟩) | ((conv => whnf); refine DL.exn 2 ⟨_, _, rfl, ?_⟩) | ((conv => whnf); refine DL.exn 3 ⟨_, _, rfl, ?_⟩) | ((conv => whnf); refine DL.exn 4 ⟨_, _, rfl, ?_⟩) | ((conv => whnf); refine DL.exn 5 ⟨_, _, rfl, ?_⟩) | ((conv => whnf); refine DL.exn 0 ⟨_, _, _, rfl, rfl, ?_⟩) | ((conv => whnf); refine DL.exn 1 ⟨_, _, _, rfl, rfl, ?_⟩) | ((conv => whnf); refine DL.exn 2 ⟨_, _, _, rfl, rfl, ?_⟩) | ((conv => whnf); refine DL.exn 3 ⟨_, _, _, rfl, rfl, ?_⟩) | ((conv => whnf); refine DL.exn 4 ⟨_, _, _, rfl, rfl, ?_⟩) | ((conv => whnf); refine DL.exn 5 ⟨_, _, _, rfl, rfl, ?_⟩) | ((conv => whnf); refine Or.inl ⟨by decide, by decide, ?_⟩) | ((conv => whnf); refine Or.inr ⟨_, rfl, by decide, ?_⟩) | ((conv => whnf); refine And.intro (by first | assumption | rfl | decide | omega | exact ⟨rfl, by decide⟩ | exact Nat.le_of_ble_eq_true rfl | exact ⟨rfl, rfl⟩ | exact small_ok (by omega) (by omega) | exact ⟨small_ok (by omega) (by omega), small_ok (by omega) (by omega)⟩ | exact cdiv_ok (by omega) (by omega) | exact cpow_ok (by omega) (by omega) (by omega) (by omega) | decide +kernel) ?_) | (refine DL.ifF (by first | assumption | decide | omega | (simp; omega) | (simp; done) | (simp [*]; omega) | (simp [*]; done) | fail) ?_) | (refine DL.ifT (by first | assumption | decide | omega | (simp; omega) | (simp; done) | (simp [*]; omega) | (simp [*]; done) | fail) ?_) | fail)
  exact rtn_all (q qs ok2 hq)
theorem len_g_one_change {K : PySem.W.Frag} : ∀ es M Q E, sp_g_one_change K es M Q E → es.length = 3 := by
  rintro _ _ _ _ ⟨_, _, _, _, _, _, _, _, _, _, _, _, _, _, _, _, rfl, _⟩; rfl
theorem rd_g_one_change {K : PySem.W.Frag} : ∀ es M Q E, sp_g_one_change K es M Q E → t_g_one_change K { nx := fun _ M => Rtn Q .non M, rt := Rtn Q } (startD nm_g_one_change es) M := by
  rintro _ M Q _ ⟨t, cc, n, ps, row, made, hs, m, pa, ov, sr, ev, path, over, turns, i, rfl, rfl, ok, hl, hlo, hi, hps, hpl, q1, q2⟩
  have hn := ok.len
  have h3 := ok.lo
  have hi2 : (i + 1) % row.length < row.length := Nat.mod_lt _ (by omega)
  have m1 := ok.mem _ (DL.getD_mem (z := 0) hi)
  have m2 := ok.mem _ (DL.getD_mem (z := 0) hi2)
  unfold ovr at q2
  repeat (first | ((conv => whnf); refine ⟨_, rfl, ?_⟩) | ((conv => whnf); refine ⟨_, _, rfl, ?_⟩) | ((conv => whnf); refine ⟨_, _, _, rfl, ?_⟩) | ((conv => whnf); refine ⟨_, _, _, _, rfl, ?_⟩) | ((conv => whnf); refine DL.exn 0 ⟨_, rfl, ?_⟩) | ((conv => whnf); refine DL.exn 1 ⟨_, rfl, ?_⟩) | ((conv => whnf); refine DL.exn 2 ⟨_, rfl, ?_⟩) | ((conv => whnf); refine DL.exn 3 ⟨_, rfl, ?_⟩) | ((conv => whnf); refine DL.exn 4 ⟨_, rfl, ?_⟩) | ((conv => whnf); refine DL.exn 5 ⟨_, rfl, ?_⟩) | ((conv => whnf); refine DL.exn 0 ⟨_, _, rfl, rfl, ?_⟩) | ((conv => whnf); refine DL.exn 1 ⟨_, _, rfl, rfl, ?_⟩) | ((conv => whnf); refine DL.exn 2 ⟨_, _, rfl, rfl, ?_⟩) | ((conv => whnf); refine DL.exn 3 ⟨_, _, rfl, rfl, ?_⟩) | ((conv => whnf); refine DL.exn 4 ⟨_, _, rfl, rfl, ?_⟩) | ((conv => whnf); refine DL.exn 5 ⟨_, _, rfl, rfl, ?_⟩) | ((conv => whnf); refine DL.exn 0 ⟨_, _, rfl, ?_⟩) | ((conv => whnf); refine DL.exn 1 ⟨_, _, rfl, ?_⟩) | ((conv => whnf); refine DL.exn 2 ⟨_, _, rfl, ?_⟩) | ((conv => whnf); refine DL.exn 3 ⟨_, _, rfl, ?_⟩) | ((conv => whnf); refine DL.exn 4 ⟨_, _, rfl, ?_⟩) | ((conv => whnf); refine DL.exn 5 ⟨_, _, rfl, ?_⟩) | ((conv => whnf); refine DL.exn 0 ⟨_, _, _, rfl, rfl, ?_⟩) | ((conv => whnf); refine DL.exn 1 ⟨_, _, _, rfl, rfl, ?_⟩) | ((conv => whnf); refine DL.exn 2 ⟨_, _, _, rfl, rfl, ?_⟩) | ((conv => whnf); refine DL.exn 3 ⟨_, _, _, rfl, rfl, ?_⟩) | ((conv => whnf); refine DL.exn 4 ⟨_, _, _, rfl, rfl, ?_⟩) | ((conv => whnf); refine DL.exn 5 ⟨_, _, _, rfl, rfl, ?_⟩) | ((conv => whnf); refine Or.inl ⟨by decide, by decide, ?_⟩) | ((conv => whnf); refine Or.inr ⟨_, rfl, by decide, ?_⟩) | ((conv => whnf); refine And.intro (by first | assumption | rfl | decide | omega | exact ⟨rfl, by decide⟩ | exact Nat.le_of_ble_eq_true rfl | exact ⟨rfl, rfl⟩ | exact small_ok (by omega) (by omega) | exact ⟨small_ok (by omega) (by omega), small_ok (by omega) (by omega)⟩ | exact cdiv_ok (by omega) (by omega) | exact cpow_ok (by omega) (by omega) (by omega) (by omega) | decide +kernel) ?_) | (refine DL.ifF (by first | assumption | decide | omega | (simp; omega) | (simp; done) | (simp [*]; omega) | (simp [*]; done) | fail) ?_) | (refine DL.ifT (by first | assumption | decide | omega | (simp; omega) | (simp; done) | (simp [*]; omega) | (simp [*]; done) | fail) ?_) | fail)
  (conv => whnf)
  refine ⟨.int (row.getD i 0), atI_map (z := 0) (by omega) (by omega), ?_⟩
  repeat (first | ((conv => whnf); refine ⟨_, rfl, ?_⟩) | ((conv => whnf); refine ⟨_, _, rfl, ?_⟩) | ((conv => whnf); refine ⟨_, _, _, rfl, ?_⟩) | ((conv => whnf); refine ⟨_, _, _, _, rfl, ?_⟩) | ((conv => whnf); refine DL.exn 0 ⟨_, rfl, ?_⟩) | ((conv => whnf); refine DL.exn 1 ⟨_, rfl, ?_⟩) | ((conv => whnf); refine DL.exn 2 ⟨_, rfl, ?_⟩) | ((conv => whnf); refine DL.exn 3 ⟨_, rfl, ?_⟩) | ((conv => whnf); refine DL.exn 4 ⟨_, rfl, ?_⟩) | ((conv => whnf); refine DL.exn 5 ⟨_, rfl, ?_⟩) | ((conv => whnf); refine DL.exn 0 ⟨_, _, rfl, rfl, ?_⟩) | ((conv => whnf); refine DL.exn 1 ⟨_, _, rfl, rfl, ?_⟩) | ((conv => whnf); refine DL.exn 2 ⟨_, _, rfl, rfl, ?_⟩) | ((conv => whnf); refine DL.exn 3 ⟨_, _, rfl, rfl, ?_⟩) | ((conv => whnf); refine DL.exn 4 ⟨_, _, rfl, rfl, ?_⟩) | ((conv => whnf); refine DL.exn 5 ⟨_, _, rfl, rfl, ?_⟩) | ((conv => whnf); refine DL.exn 0 ⟨_, _, rfl, ?_⟩) | ((conv => whnf); refine DL.exn 1 ⟨_, _, rfl, ?_⟩) | ((conv => whnf); refine DL.exn 2 ⟨_, _, rfl, ?_⟩) | ((conv => whnf); refine DL.exn 3 ⟨_, _, rfl, ?_⟩) | ((conv => whnf); refine DL.exn 4 ⟨_, _, rfl, ?_⟩) | ((conv => whnf); refine DL.exn 5 ⟨_, _, rfl, ?_⟩) | ((conv => whnf); refine DL.exn 0 ⟨_, _, _, rfl, rfl, ?_⟩) | ((conv => whnf); refine DL.exn 1 ⟨_, _, _, rfl, rfl, ?_⟩) | ((conv => whnf); refine DL.exn 2 ⟨_, _, _, rfl, rfl, ?_⟩) | ((conv => whnf); refine DL.exn 3 ⟨_, _, _, rfl, rfl, ?_⟩) | ((conv => whnf); refine DL.exn 4 ⟨_, _, _, rfl, rfl, ?_⟩) | ((conv => whnf); refine DL.exn 5 ⟨_, _, _, rfl, rfl, ?_⟩) | ((conv => whnf); refine Or.inl ⟨by decide, by decide, ?_⟩) | ((conv => whnf); refine Or.inr ⟨_, rfl, by decide, ?_⟩) | ((conv => whnf); refine And.intro (by first | assumption | rfl | decide | omega | exact ⟨rfl, by decide⟩ | exact Nat.le_of_ble_eq_true rfl | exact ⟨rfl, rfl⟩ | exact small_ok (by omega) (by omega) | exact ⟨small_ok (by omega) (by omega), small_ok (by omega) (by omega)⟩ | exact cdiv_ok (by omega) (by omega) | exact cpow_ok (by omega) (by omega) (by omega) (by omega) | decide +kernel) ?_) | (refine DL.ifF (by first | assumption | decide | omega | (simp; omega) | (simp; done) | (simp [*]; omega) | (simp [*]; done) | fail) ?_) | (refine DL.ifT (by first | assumption | decide | omega | (simp; omega) | (simp; done) | (simp [*]; omega) | (simp [*]; done) | fail) ?_) | fail)
  refine ⟨by show (0 : Int) < ((IL row).length : Nat); simp; omega, ?_⟩
  (conv => whnf)
  refine ⟨.int (row.getD ((i + 1) % row.length) 0), (by
    show atI (IL row) (((i : Int) + 1) % ((IL row).length : Nat)) = _
    rw [List.length_map, succ_mod]
    exact atI_map (z := 0) (by omega) (by omega)), ?_⟩
  generalize hp : row.getD i 0 = p at *
  generalize hp2 : row.getD ((i + 1) % row.length) 0 = p2 at *
  by_cases hm : mx p p2 ∈ sr
  · repeat (first | ((conv => whnf); refine ⟨_, rfl, ?_⟩) | ((conv => whnf); refine ⟨_, _, rfl, ?_⟩) | ((conv => whnf); refine ⟨_, _, _, rfl, ?_⟩) | ((conv => whnf); refine ⟨_, _, _, _, rfl, ?_⟩) | ((conv => whnf); refine DL.exn 0 ⟨_, rfl, ?_⟩) | ((conv => whnf); refine DL.exn 1 ⟨_, rfl, ?_⟩) | ((conv => whnf); refine DL.exn 2 ⟨_, rfl, ?_⟩) | ((conv => whnf); refine DL.exn 3 ⟨_, rfl, ?_⟩) | ((conv => whnf); refine DL.exn 4 ⟨_, rfl, ?_⟩) | ((conv => whnf); refine DL.exn 5 ⟨_, rfl, ?_⟩) | ((conv => whnf); refine DL.exn 0 ⟨_, _, rfl, rfl, ?_⟩) | ((conv => whnf); refine DL.exn 1 ⟨_, _, rfl, rfl, ?_⟩) | ((conv => whnf); refine DL.exn 2 ⟨_, _, rfl, rfl, ?_⟩) | ((conv => whnf); refine DL.exn 3 ⟨_, _, rfl, rfl, ?_⟩) | ((conv => whnf); refine DL.exn 4 ⟨_, _, rfl, rfl, ?_⟩) | ((conv => whnf); refine DL.exn 5 ⟨_, _, rfl, rfl, ?_⟩) | ((conv => whnf); refine DL.exn 0 ⟨_, _, rfl, ?_⟩) | ((conv => whnf); refine DL.exn 1 ⟨_, _, rfl, ?_⟩) | ((conv => whnf); refine DL.exn 2 ⟨_, _, rfl, ?_⟩) | ((conv => whnf); refine DL.exn 3 ⟨_, _, rfl, ?_⟩) | ((conv => whnf); refine DL.exn 4 ⟨_, _, rfl, ?_⟩) | ((conv => whnf); refine DL.exn 5 ⟨_, _, rfl, ?_⟩) | ((conv => whnf); refine DL.exn 0 ⟨_, _, _, rfl, rfl, ?_⟩) | ((conv => whnf); refine DL.exn 1 ⟨_, _, _, rfl, rfl, ?_⟩) | ((conv => whnf); refine DL.exn 2 ⟨_, _, _, rfl, rfl, ?_⟩) | ((conv => whnf); refine DL.exn 3 ⟨_, _, _, rfl, rfl, ?_⟩) | ((conv => whnf); refine DL.exn 4 ⟨_, _, _, rfl, rfl, ?_⟩) | ((conv => whnf); refine DL.exn 5 ⟨_, _, _, rfl, rfl, ?_⟩) | ((conv => whnf); refine Or.inl ⟨by decide, by decide, ?_⟩) | ((conv => whnf); refine Or.inr ⟨_, rfl, by decide, ?_⟩) | ((conv => whnf); refine And.intro (by first | assumption | rfl | decide | omega | exact ⟨rfl, by decide⟩ | exact Nat.le_of_ble_eq_true rfl | exact ⟨rfl, rfl⟩ | exact small_ok (by omega) (by omega) | exact ⟨small_ok (by omega) (by omega), small_ok (by omega) (by omega)⟩ | exact cdiv_ok (by omega) (by omega) | exact cpow_ok (by omega) (by omega) (by omega) (by omega) | decide +kernel) ?_) | (refine DL.ifF (by first | assumption | decide | omega | (simp; omega) | (simp; done) | (simp [*]; omega) | (simp [*]; done) | fail) ?_) | (refine DL.ifT (by first | assumption | decide | omega | (simp; omega) | (simp; done) | (simp [*]; omega) | (simp [*]; done) | fail) ?_) | fail)
    exact rtn_all (q1 hm)
  · have q3 := q2 hm
    repeat (first | ((conv => whnf); refine ⟨_, rfl, ?_⟩) | ((conv => whnf); refine ⟨_, _, rfl, ?_⟩) | ((conv => whnf); refine ⟨_, _, _, rfl, ?_⟩) | ((conv => whnf); refine ⟨_, _, _, _, rfl, ?_⟩) | ((conv => whnf); refine DL.exn 0 ⟨_, rfl, ?_⟩) | ((conv => whnf); refine DL.exn 1 ⟨_, rfl, ?_⟩) | ((conv => whnf); refine DL.exn 2 ⟨_, rfl, ?_⟩) | ((conv => whnf); refine DL.exn 3 ⟨_, rfl, ?_⟩) | ((conv => whnf); refine DL.exn 4 ⟨_, rfl, ?_⟩) | ((conv => whnf); refine DL.exn 5 ⟨_, rfl, ?_⟩) | ((conv => whnf); refine DL.exn 0 ⟨_, _, rfl, rfl, ?_⟩) | ((conv => whnf); refine DL.exn 1 ⟨_, _, rfl, rfl, ?_⟩) | ((conv => whnf); refine DL.exn 2 ⟨_, _, rfl, rfl, ?_⟩) | ((conv => whnf); refine DL.exn 3 ⟨_, _, rfl, rfl, ?_⟩) | ((conv => whnf); refine DL.exn 4 ⟨_, _, rfl, rfl, ?_⟩) | ((conv => whnf); refine DL.exn 5 ⟨_, _, rfl, rfl, ?_⟩) | ((conv => whnf); refine DL.exn 0 ⟨_, _, rfl, ?_⟩) | ((conv => whnf); refine DL.exn 1 ⟨_, _, rfl, ?_⟩) | ((conv => whnf); refine DL.exn 2 ⟨_, _, rfl, ?_⟩) | ((conv => whnf); refine DL.exn 3 ⟨_, _, rfl, ?_⟩) | ((conv => whnf); refine DL.exn 4 ⟨_, _, rfl, ?_⟩) | ((conv => whnf); refine DL.exn 5 ⟨_, _, rfl, ?_⟩) | ((conv => whnf); refine DL.exn 0 ⟨_, _, _, rfl, rfl, ?_⟩) | ((conv => whnf); refine DL.exn 1 ⟨_, _, _, rfl, rfl, ?_⟩) | ((conv => whnf); refine DL.exn 2 ⟨_, _, _, rfl, rfl, ?_⟩) | ((conv => whnf); refine DL.exn 3 ⟨_, _, _, rfl, rfl, ?_⟩) | ((conv => whnf); refine DL.exn 4 ⟨_, _, _, rfl, rfl, ?_⟩) | ((conv => whnf); refine DL.exn 5 ⟨_, _, _, rfl, rfl, ?_⟩) | ((conv => whnf); refine Or.inl ⟨by decide, by decide, ?_⟩) | ((conv => whnf); refine Or.inr ⟨_, rfl, by decide, ?_⟩) | ((conv => whnf); refine And.intro (by first | assumption | rfl | decide | omega | exact ⟨rfl, by decide⟩ | exact Nat.le_of_ble_eq_true rfl | exact ⟨rfl, rfl⟩ | exact small_ok (by omega) (by omega) | exact ⟨small_ok (by omega) (by omega), small_ok (by omega) (by omega)⟩ | exact cdiv_ok (by omega) (by omega) | exact cpow_ok (by omega) (by omega) (by omega) (by omega) | decide +kernel) ?_) | (refine DL.ifF (by first | assumption | decide | omega | (simp; omega) | (simp; done) | (simp [*]; omega) | (simp [*]; done) | fail) ?_) | (refine DL.ifT (by first | assumption | decide | omega | (simp; omega) | (simp; done) | (simp [*]; omega) | (simp [*]; done) | fail) ?_) | fail)
    refine call_at [0, 0] rfl ⟨t, cc, n, ps, row, made, hs, i, rfl, rfl, ok, hl, hi, fun z => hm (by rw [hp, hp2] at z; exact (hps _).mp z), ?_⟩
    repeat (first | ((conv => whnf); refine ⟨_, rfl, ?_⟩) | ((conv => whnf); refine ⟨_, _, rfl, ?_⟩) | ((conv => whnf); refine ⟨_, _, _, rfl, ?_⟩) | ((conv => whnf); refine ⟨_, _, _, _, rfl, ?_⟩) | ((conv => whnf); refine DL.exn 0 ⟨_, rfl, ?_⟩) | ((conv => whnf); refine DL.exn 1 ⟨_, rfl, ?_⟩) | ((conv => whnf); refine DL.exn 2 ⟨_, rfl, ?_⟩) | ((conv => whnf); refine DL.exn 3 ⟨_, rfl, ?_⟩) | ((conv => whnf); refine DL.exn 4 ⟨_, rfl, ?_⟩) | ((conv => whnf); refine DL.exn 5 ⟨_, rfl, ?_⟩) | ((conv => whnf); refine DL.exn 0 ⟨_, _, rfl, rfl, ?_⟩) | ((conv => whnf); refine DL.exn 1 ⟨_, _, rfl, rfl, ?_⟩) | ((conv => whnf); refine DL.exn 2 ⟨_, _, rfl, rfl, ?_⟩) | ((conv => whnf); refine DL.exn 3 ⟨_, _, rfl, rfl, ?_⟩) | ((conv => whnf); refine DL.exn 4 ⟨_, _, rfl, rfl, ?_⟩) | ((conv => whnf); refine DL.exn 5 ⟨_, _, rfl, rfl, ?_⟩) | ((conv => whnf); refine DL.exn 0 ⟨_, _, rfl, ?_⟩) | ((conv => whnf); refine DL.exn 1 ⟨_, _, rfl, ?_⟩) | ((conv => whnf); refine DL.exn 2 ⟨_, _, rfl, ?_⟩) | ((conv => whnf); refine DL.exn 3 ⟨_, _, rfl, ?_⟩) | ((conv => whnf); refine DL.exn 4 ⟨_, _, rfl, ?_⟩) | ((conv => whnf); refine DL.exn 5 ⟨_, _, rfl, ?_⟩) | ((conv => whnf); refine DL.exn 0 ⟨_, _, _, rfl, rfl, ?_⟩) | ((conv => whnf); refine DL.exn 1 ⟨_, _, _, rfl, rfl, ?_⟩) | ((conv => whnf); refine DL.exn 2 ⟨_, _, _, rfl, rfl, ?_⟩) | ((conv => whnf); refine DL.exn 3 ⟨_, _, _, rfl, rfl, ?_⟩) | ((conv => whnf); refine DL.exn 4 ⟨_, _, _, rfl, rfl, ?_⟩) | ((conv => whnf); refine DL.exn 5 ⟨_, _, _, rfl, rfl, ?_⟩) | ((conv => whnf); refine Or.inl ⟨by decide, by decide, ?_⟩) | ((conv => whnf); refine Or.inr ⟨_, rfl, by decide, ?_⟩) | ((conv => whnf); refine And.intro (by first | assumption | rfl | decide | omega | exact ⟨rfl, by decide⟩ | exact Nat.le_of_ble_eq_true rfl | exact ⟨rfl, rfl⟩ | exact small_ok (by omega) (by omega) | exact ⟨small_ok (by omega) (by omega), small_ok (by omega) (by omega)⟩ | exact cdiv_ok (by omega) (by omega) | exact cpow_ok (by omega) (by omega) (by omega) (by omega) | decide +kernel) ?_) | (refine DL.ifF (by first | assumption | decide | omega | (simp; omega) | (simp; done) | (simp [*]; omega) | (simp [*]; done) | fail) ?_) | (refine DL.ifT (by first | assumption | decide | omega | (simp; omega) | (simp; done) | (simp [*]; omega) | (simp [*]; done) | fail) ?_) | fail)
    refine ⟨n, row, i, rfl, rfl, ok, hi, ?_⟩
    repeat (first | ((conv => whnf); refine ⟨_, rfl, ?_⟩) | ((conv => whnf); refine ⟨_, _, rfl, ?_⟩) | ((conv => whnf); refine ⟨_, _, _, rfl, ?_⟩) | ((conv => whnf); refine ⟨_, _, _, _, rfl, ?_⟩) | ((conv => whnf); refine DL.exn 0 ⟨_, rfl, ?_⟩) | ((conv => whnf); refine DL.exn 1 ⟨_, rfl, ?_⟩) | ((conv => whnf); refine DL.exn 2 ⟨_, rfl, ?_⟩) | ((conv => whnf); refine DL.exn 3 ⟨_, rfl, ?_⟩) | ((conv => whnf); refine DL.exn 4 ⟨_, rfl, ?_⟩) | ((conv => whnf); refine DL.exn 5 ⟨_, rfl, ?_⟩) | ((conv => whnf); refine DL.exn 0 ⟨_, _, rfl, rfl, ?_⟩) | ((conv => whnf); refine DL.exn 1 ⟨_, _, rfl, rfl, ?_⟩) | ((conv => whnf); refine DL.exn 2 ⟨_, _, rfl, rfl, ?_⟩) | ((conv => whnf); refine DL.exn 3 ⟨_, _, rfl, rfl, ?_⟩) | ((conv => whnf); refine DL.exn 4 ⟨_, _, rfl, rfl, ?_⟩) | ((conv => whnf); refine DL.exn 5 ⟨_, _, rfl, rfl, ?_⟩) | ((conv => whnf); refine DL.exn 0 ⟨_, _, rfl, ?_⟩) | ((conv => whnf); refine DL.exn 1 ⟨_, _, rfl, ?_⟩) | ((conv => whnf); refine DL.exn 2 ⟨_, _, rfl, ?_⟩) | ((conv => whnf); refine DL.exn 3 ⟨_, _, rfl, ?_⟩) | ((conv => whnf); refine DL.exn 4 ⟨_, _, rfl, ?_⟩) | ((conv => whnf); refine DL.exn 5 ⟨_, _, rfl, ?_⟩) | ((conv => whnf); refine DL.exn 0 ⟨_, _, _, rfl, rfl, ?_⟩) | ((conv => whnf); refine DL.exn 1 ⟨_, _, _, rfl, rfl, ?_⟩) | ((conv => whnf); refine DL.exn 2 ⟨_, _, _, rfl, rfl, ?_⟩) | ((conv => whnf); refine DL.exn 3 ⟨_, _, _, rfl, rfl, ?_⟩) | ((conv => whnf); refine DL.exn 4 ⟨_, _, _, rfl, rfl, ?_⟩) | ((conv => whnf); refine DL.exn 5 ⟨_, _, _, rfl, rfl, ?_⟩) | ((conv => whnf); refine Or.inl ⟨by decide, by decide, ?_⟩) | ((conv => whnf); refine Or.inr ⟨_, rfl, by decide, ?_⟩) | ((conv => whnf); refine And.intro (by first | assumption | rfl | decide | omega | exact ⟨rfl, by decide⟩ | exact Nat.le_of_ble_eq_true rfl | exact ⟨rfl, rfl⟩ | exact small_ok (by omega) (by omega) | exact ⟨small_ok (by omega) (by omega), small_ok (by omega) (by omega)⟩ | exact cdiv_ok (by omega) (by omega) | exact cpow_ok (by omega) (by omega) (by omega) (by omega) | decide +kernel) ?_) | (refine DL.ifF (by first | assumption | decide | omega | (simp; omega) | (simp; done) | (simp [*]; omega) | (simp [*]; done) | fail) ?_) | (refine DL.ifT (by first | assumption | decide | omega | (simp; omega) | (simp; done) | (simp [*]; omega) | (simp [*]; done) | fail) ?_) | fail)
    by_cases hb : i + 1 = row.length
    · rw [if_pos hb] at q3
      repeat (first | ((conv => whnf); refine ⟨_, rfl, ?_⟩) | ((conv => whnf); refine ⟨_, _, rfl, ?_⟩) | ((conv => whnf); refine ⟨_, _, _, rfl, ?_⟩) | ((conv => whnf); refine ⟨_, _, _, _, rfl, ?_⟩) | ((conv => whnf); refine DL.exn 0 ⟨_, rfl, ?_⟩) | ((conv => whnf); refine DL.exn 1 ⟨_, rfl, ?_⟩) | ((conv => whnf); refine DL.exn 2 ⟨_, rfl, ?_⟩) | ((conv => whnf); refine DL.exn 3 ⟨_, rfl, ?_⟩) | ((conv => whnf); refine DL.exn 4 ⟨_, rfl, ?_⟩) | ((conv => whnf); refine DL.exn 5 ⟨_, rfl, ?_⟩) | ((conv => whnf); refine DL.exn 0 ⟨_, _, rfl, rfl, ?_⟩) | ((conv => whnf); refine DL.exn 1 ⟨_, _, rfl, rfl, ?_⟩) | ((conv => whnf); refine DL.exn 2 ⟨_, _, rfl, rfl, ?_⟩) | ((conv => whnf); refine DL.exn 3 ⟨_, _, rfl, rfl, ?_⟩) | ((conv => whnf); refine DL.exn 4 ⟨_, _, rfl, rfl, ?_⟩) | ((conv => whnf); refine DL.exn 5 ⟨_, _, rfl, rfl, ?_⟩) | ((conv => whnf); refine DL.exn 0 ⟨_, _, rfl, ?_⟩) | ((conv => whnf); refine DL.exn 1 ⟨_, _, rfl, ?_⟩) | ((conv => whnf); refine DL.exn 2 ⟨_, _, rfl, ?_⟩) | ((conv => whnf); refine DL.exn 3 ⟨_, _, rfl, ?_⟩) | ((conv => whnf); refine DL.exn 4 ⟨_, _, rfl, ?_⟩) | ((conv => whnf); refine DL.exn 5 ⟨_, _, rfl, ?_⟩) | ((conv => whnf); refine DL.exn 0 ⟨_, _, _, rfl, rfl, ?_⟩) | ((conv => whnf); refine DL.exn 1 ⟨_, _, _, rfl, rfl, ?_⟩) | ((conv => whnf); refine DL.exn 2 ⟨_, _, _, rfl, rfl, ?_⟩) | ((conv => whnf); refine DL.exn 3 ⟨_, _, _, rfl, rfl, ?_⟩) | ((conv => whnf); refine DL.exn 4 ⟨_, _, _, rfl, rfl, ?_⟩) | ((conv => whnf); refine DL.exn 5 ⟨_, _, _, rfl, rfl, ?_⟩) | ((conv => whnf); refine Or.inl ⟨by decide, by decide, ?_⟩) | ((conv => whnf); refine Or.inr ⟨_, rfl, by decide, ?_⟩) | ((conv => whnf); refine And.intro (by first | assumption | rfl | decide | omega | exact ⟨rfl, by decide⟩ | exact Nat.le_of_ble_eq_true rfl | exact ⟨rfl, rfl⟩ | exact small_ok (by omega) (by omega) | exact ⟨small_ok (by omega) (by omega), small_ok (by omega) (by omega)⟩ | exact cdiv_ok (by omega) (by omega) | exact cpow_ok (by omega) (by omega) (by omega) (by omega) | decide +kernel) ?_) | (refine DL.ifF (by first | assumption | decide | omega | (simp; omega) | (simp; done) | (simp [*]; omega) | (simp [*]; done) | fail) ?_) | (refine DL.ifT (by first | assumption | decide | omega | (simp; omega) | (simp; done) | (simp [*]; omega) | (simp [*]; done) | fail) ?_) | fail)
      refine ⟨by simp; omega, ?_⟩
      repeat (first | ((conv => whnf); refine ⟨_, rfl, ?_⟩) | ((conv => whnf); refine ⟨_, _, rfl, ?_⟩) | ((conv => whnf); refine ⟨_, _, _, rfl, ?_⟩) | ((conv => whnf); refine ⟨_, _, _, _, rfl, ?_⟩) | ((conv => whnf); refine DL.exn 0 ⟨_, rfl, ?_⟩) | ((conv => whnf); refine DL.exn 1 ⟨_, rfl, ?_⟩) | ((conv => whnf); refine DL.exn 2 ⟨_, rfl, ?_⟩) | ((conv => whnf); refine DL.exn 3 ⟨_, rfl, ?_⟩) | ((conv => whnf); refine DL.exn 4 ⟨_, rfl, ?_⟩) | ((conv => whnf); refine DL.exn 5 ⟨_, rfl, ?_⟩) | ((conv => whnf); refine DL.exn 0 ⟨_, _, rfl, rfl, ?_⟩) | ((conv => whnf); refine DL.exn 1 ⟨_, _, rfl, rfl, ?_⟩) | ((conv => whnf); refine DL.exn 2 ⟨_, _, rfl, rfl, ?_⟩) | ((conv => whnf); refine DL.exn 3 ⟨_, _, rfl, rfl, ?_⟩) | ((conv => whnf); refine DL.exn 4 ⟨_, _, rfl, rfl, ?_⟩) | ((conv => whnf); refine DL.exn 5 ⟨_, _, rfl, rfl, ?_⟩) | ((conv => whnf); refine DL.exn 0 ⟨_, _, rfl, ?_⟩) | ((conv => whnf); refine DL.exn 1 ⟨_, _, rfl, ?_⟩) | ((conv => whnf); refine DL.exn 2 ⟨_, _, rfl, ?_⟩) | ((conv => whnf); refine DL.exn 3 ⟨_, _, rfl, ?_⟩) | ((conv => whnf); refine DL.exn 4 ⟨_, _, rfl, ?_⟩) | ((conv => whnf); refine DL.exn 5 ⟨_, _, rfl, ?_⟩) | ((conv => whnf); refine DL.exn 0 ⟨_, _, _, rfl, rfl, ?_⟩) | ((conv => whnf); refine DL.exn 1 ⟨_, _, _, rfl, rfl, ?_⟩) | ((conv => whnf); refine DL.exn 2 ⟨_, _, _, rfl, rfl, ?_⟩) | ((conv => whnf); refine DL.exn 3 ⟨_, _, _, rfl, rfl, ?_⟩) | ((conv => whnf); refine DL.exn 4 ⟨_, _, _, rfl, rfl, ?_⟩) | ((conv => whnf); refine DL.exn 5 ⟨_, _, _, rfl, rfl, ?_⟩) | ((conv => whnf); refine Or.inl ⟨by decide, by decide, ?_⟩) | ((conv => whnf); refine Or.inr ⟨_, rfl, by decide, ?_⟩) | ((conv => whnf); refine And.intro (by first | assumption | rfl | decide | omega | exact ⟨rfl, by decide⟩ | exact Nat.le_of_ble_eq_true rfl | exact ⟨rfl, rfl⟩ | exact small_ok (by omega) (by omega) | exact ⟨small_ok (by omega) (by omega), small_ok (by omega) (by omega)⟩ | exact cdiv_ok (by omega) (by omega) | exact cpow_ok (by omega) (by omega) (by omega) (by omega) | decide +kernel) ?_) | (refine DL.ifF (by first | assumption | decide | omega | (simp; omega) | (simp; done) | (simp [*]; omega) | (simp [*]; done) | fail) ?_) | (refine DL.ifT (by first | assumption | decide | omega | (simp; omega) | (simp; done) | (simp [*]; omega) | (simp [*]; done) | fail) ?_) | fail)
      (conv => whnf)
      refine ⟨.int (over.getD (p - 1).toNat 0), atI_map (z := 0) (by show 0 ≤ p - 1; omega) (by show p - 1 < _; omega), ?_⟩
      repeat (first | ((conv => whnf); refine ⟨_, rfl, ?_⟩) | ((conv => whnf); refine ⟨_, _, rfl, ?_⟩) | ((conv => whnf); refine ⟨_, _, _, rfl, ?_⟩) | ((conv => whnf); refine ⟨_, _, _, _, rfl, ?_⟩) | ((conv => whnf); refine DL.exn 0 ⟨_, rfl, ?_⟩) | ((conv => whnf); refine DL.exn 1 ⟨_, rfl, ?_⟩) | ((conv => whnf); refine DL.exn 2 ⟨_, rfl, ?_⟩) | ((conv => whnf); refine DL.exn 3 ⟨_, rfl, ?_⟩) | ((conv => whnf); refine DL.exn 4 ⟨_, rfl, ?_⟩) | ((conv => whnf); refine DL.exn 5 ⟨_, rfl, ?_⟩) | ((conv => whnf); refine DL.exn 0 ⟨_, _, rfl, rfl, ?_⟩) | ((conv => whnf); refine DL.exn 1 ⟨_, _, rfl, rfl, ?_⟩) | ((conv => whnf); refine DL.exn 2 ⟨_, _, rfl, rfl, ?_⟩) | ((conv => whnf); refine DL.exn 3 ⟨_, _, rfl, rfl, ?_⟩) | ((conv => whnf); refine DL.exn 4 ⟨_, _, rfl, rfl, ?_⟩) | ((conv => whnf); refine DL.exn 5 ⟨_, _, rfl, rfl, ?_⟩) | ((conv => whnf); refine DL.exn 0 ⟨_, _, rfl, ?_⟩) | ((conv => whnf); refine DL.exn 1 ⟨_, _, rfl, ?_⟩) | ((conv => whnf); refine DL.exn 2 ⟨_, _, rfl, ?_⟩) | ((conv => whnf); refine DL.exn 3 ⟨_, _, rfl, ?_⟩) | ((conv => whnf); refine DL.exn 4 ⟨_, _, rfl, ?_⟩) | ((conv => whnf); refine DL.exn 5 ⟨_, _, rfl, ?_⟩) | ((conv => whnf); refine DL.exn 0 ⟨_, _, _, rfl, rfl, ?_⟩) | ((conv => whnf); refine DL.exn 1 ⟨_, _, _, rfl, rfl, ?_⟩) | ((conv => whnf); refine DL.exn 2 ⟨_, _, _, rfl, rfl, ?_⟩) | ((conv => whnf); refine DL.exn 3 ⟨_, _, _, rfl, rfl, ?_⟩) | ((conv => whnf); refine DL.exn 4 ⟨_, _, _, rfl, rfl, ?_⟩) | ((conv => whnf); refine DL.exn 5 ⟨_, _, _, rfl, rfl, ?_⟩) | ((conv => whnf); refine Or.inl ⟨by decide, by decide, ?_⟩) | ((conv => whnf); refine Or.inr ⟨_, rfl, by decide, ?_⟩) | ((conv => whnf); refine And.intro (by first | assumption | rfl | decide | omega | exact ⟨rfl, by decide⟩ | exact Nat.le_of_ble_eq_true rfl | exact ⟨rfl, rfl⟩ | exact small_ok (by omega) (by omega) | exact ⟨small_ok (by omega) (by omega), small_ok (by omega) (by omega)⟩ | exact cdiv_ok (by omega) (by omega) | exact cpow_ok (by omega) (by omega) (by omega) (by omega) | decide +kernel) ?_) | (refine DL.ifF (by first | assumption | decide | omega | (simp; omega) | (simp; done) | (simp [*]; omega) | (simp [*]; done) | fail) ?_) | (refine DL.ifT (by first | assumption | decide | omega | (simp; omega) | (simp; done) | (simp [*]; omega) | (simp [*]; done) | fail) ?_) | fail)
      (conv => whnf)
      refine ⟨4, _, (p - 1).toNat, rfl, ixN_nat (by show 0 ≤ p - 1; omega) (by show p - 1 < _; simp; omega), ?_⟩
      have e3 : (IL over).set (p - 1).toNat (.int (over.getD (p - 1).toNat 0 + 1)) = IL (over.set (p - 1).toNat (over.getD (p - 1).toNat 0 + 1)) := by simp [IL, List.map_set]
      repeat (first | ((conv => whnf); refine ⟨_, rfl, ?_⟩) | ((conv => whnf); refine ⟨_, _, rfl, ?_⟩) | ((conv => whnf); refine ⟨_, _, _, rfl, ?_⟩) | ((conv => whnf); refine ⟨_, _, _, _, rfl, ?_⟩) | ((conv => whnf); refine DL.exn 0 ⟨_, rfl, ?_⟩) | ((conv => whnf); refine DL.exn 1 ⟨_, rfl, ?_⟩) | ((conv => whnf); refine DL.exn 2 ⟨_, rfl, ?_⟩) | ((conv => whnf); refine DL.exn 3 ⟨_, rfl, ?_⟩) | ((conv => whnf); refine DL.exn 4 ⟨_, rfl, ?_⟩) | ((conv => whnf); refine DL.exn 5 ⟨_, rfl, ?_⟩) | ((conv => whnf); refine DL.exn 0 ⟨_, _, rfl, rfl, ?_⟩) | ((conv => whnf); refine DL.exn 1 ⟨_, _, rfl, rfl, ?_⟩) | ((conv => whnf); refine DL.exn 2 ⟨_, _, rfl, rfl, ?_⟩) | ((conv => whnf); refine DL.exn 3 ⟨_, _, rfl, rfl, ?_⟩) | ((conv => whnf); refine DL.exn 4 ⟨_, _, rfl, rfl, ?_⟩) | ((conv => whnf); refine DL.exn 5 ⟨_, _, rfl, rfl, ?_⟩) | ((conv => whnf); refine DL.exn 0 ⟨_, _, rfl, ?_⟩) | ((conv => whnf); refine DL.exn 1 ⟨_, _, rfl, ?_⟩) | ((conv => whnf); refine DL.exn 2 ⟨_, _, rfl, ?_⟩) | ((conv => whnf); refine DL.exn 3 ⟨_, _, rfl, ?_⟩) | ((conv => whnf); refine DL.exn 4 ⟨_, _, rfl, ?_⟩) | ((conv => whnf); refine DL.exn 5 ⟨_, _, rfl, ?_⟩) | ((conv => whnf); refine DL.exn 0 ⟨_, _, _, rfl, rfl, ?_⟩) | ((conv => whnf); refine DL.exn 1 ⟨_, _, _, rfl, rfl, ?_⟩) | ((conv => whnf); refine DL.exn 2 ⟨_, _, _, rfl, rfl, ?_⟩) | ((conv => whnf); refine DL.exn 3 ⟨_, _, _, rfl, rfl, ?_⟩) | ((conv => whnf); refine DL.exn 4 ⟨_, _, _, rfl, rfl, ?_⟩) | ((conv => whnf); refine DL.exn 5 ⟨_, _, _, rfl, rfl, ?_⟩) | ((conv => whnf); refine Or.inl ⟨by decide, by decide, ?_⟩) | ((conv => whnf); refine Or.inr ⟨_, rfl, by decide, ?_⟩) | ((conv => whnf); refine And.intro (by first | assumption | rfl | decide | omega | exact ⟨rfl, by decide⟩ | exact Nat.le_of_ble_eq_true rfl | exact ⟨rfl, rfl⟩ | exact small_ok (by omega) (by omega) | exact ⟨small_ok (by omega) (by omega), small_ok (by omega) (by omega)⟩ | exact cdiv_ok (by omega) (by omega) | exact cpow_ok (by omega) (by omega) (by omega) (by omega) | decide +kernel) ?_) | (refine DL.ifF (by first | assumption | decide | omega | (simp; omega) | (simp; done) | (simp [*]; omega) | (simp [*]; done) | fail) ?_) | (refine DL.ifT (by first | assumption | decide | omega | (simp; omega) | (simp; done) | (simp [*]; omega) | (simp [*]; done) | fail) ?_) | fail)
      (conv => whnf)
      refine ⟨.int ((over.set (p - 1).toNat (over.getD (p - 1).toNat 0 + 1)).getD (p2 - 1).toNat 0), (by
        show atI ((IL over).set (p - 1).toNat (.int (over.getD (p - 1).toNat 0 + 1))) (p2 - 1) = _
        rw [e3]
        exact atI_map (z := 0) (by omega) (by simp; omega)), ?_⟩
      repeat (first | ((conv => whnf); refine ⟨_, rfl, ?_⟩) | ((conv => whnf); refine ⟨_, _, rfl, ?_⟩) | ((conv => whnf); refine ⟨_, _, _, rfl, ?_⟩) | ((conv => whnf); refine ⟨_, _, _, _, rfl, ?_⟩) | ((conv => whnf); refine DL.exn 0 ⟨_, rfl, ?_⟩) | ((conv => whnf); refine DL.exn 1 ⟨_, rfl, ?_⟩) | ((conv => whnf); refine DL.exn 2 ⟨_, rfl, ?_⟩) | ((conv => whnf); refine DL.exn 3 ⟨_, rfl, ?_⟩) | ((conv => whnf); refine DL.exn 4 ⟨_, rfl, ?_⟩) | ((conv => whnf); refine DL.exn 5 ⟨_, rfl, ?_⟩) | ((conv => whnf); refine DL.exn 0 ⟨_, _, rfl, rfl, ?_⟩) | ((conv => whnf); refine DL.exn 1 ⟨_, _, rfl, rfl, ?_⟩) | ((conv => whnf); refine DL.exn 2 ⟨_, _, rfl, rfl, ?_⟩) | ((conv => whnf); refine DL.exn 3 ⟨_, _, rfl, rfl, ?_⟩) | ((conv => whnf); refine DL.exn 4 ⟨_, _, rfl, rfl, ?_⟩) | ((conv => whnf); refine DL.exn 5 ⟨_, _, rfl, rfl, ?_⟩) | ((conv => whnf); refine DL.exn 0 ⟨_, _, rfl, ?_⟩) | ((conv => whnf); refine DL.exn 1 ⟨_, _, rfl, ?_⟩) | ((conv => whnf); refine DL.exn 2 ⟨_, _, rfl, ?_⟩) | ((conv => whnf); refine DL.exn 3 ⟨_, _, rfl, ?_⟩) | ((conv => whnf); refine DL.exn 4 ⟨_, _, rfl, ?_⟩) | ((conv => whnf); refine DL.exn 5 ⟨_, _, rfl, ?_⟩) | ((conv => whnf); refine DL.exn 0 ⟨_, _, _, rfl, rfl, ?_⟩) | ((conv => whnf); refine DL.exn 1 ⟨_, _, _, rfl, rfl, ?_⟩) | ((conv => whnf); refine DL.exn 2 ⟨_, _, _, rfl, rfl, ?_⟩) | ((conv => whnf); refine DL.exn 3 ⟨_, _, _, rfl, rfl, ?_⟩) | ((conv => whnf); refine DL.exn 4 ⟨_, _, _, rfl, rfl, ?_⟩) | ((conv => whnf); refine DL.exn 5 ⟨_, _, _, rfl, rfl, ?_⟩) | ((conv => whnf); refine Or.inl ⟨by decide, by decide, ?_⟩) | ((conv => whnf); refine Or.inr ⟨_, rfl, by decide, ?_⟩) | ((conv => whnf); refine And.intro (by first | assumption | rfl | decide | omega | exact ⟨rfl, by decide⟩ | exact Nat.le_of_ble_eq_true rfl | exact ⟨rfl, rfl⟩ | exact small_ok (by omega) (by omega) | exact ⟨small_ok (by omega) (by omega), small_ok (by omega) (by omega)⟩ | exact cdiv_ok (by omega) (by omega) | exact cpow_ok (by omega) (by omega) (by omega) (by omega) | decide +kernel) ?_) | (refine DL.ifF (by first | assumption | decide | omega | (simp; omega) | (simp; done) | (simp [*]; omega) | (simp [*]; done) | fail) ?_) | (refine DL.ifT (by first | assumption | decide | omega | (simp; omega) | (simp; done) | (simp [*]; omega) | (simp [*]; done) | fail) ?_) | fail)
      (conv => whnf)
      refine ⟨4, _, (p2 - 1).toNat, rfl, ixN_nat (by show 0 ≤ p2 - 1; omega) (by show p2 - 1 < _; simp; omega), ?_⟩
      have e4 : ((IL over).set (p - 1).toNat (.int (over.getD (p - 1).toNat 0 + 1))).set (p2 - 1).toNat (.int ((over.set (p - 1).toNat (over.getD (p - 1).toNat 0 + 1)).getD (p2 - 1).toNat 0 - 1)) = IL ((over.set (p - 1).toNat (over.getD (p - 1).toNat 0 + 1)).set (p2 - 1).toNat ((over.set (p - 1).toNat (over.getD (p - 1).toNat 0 + 1)).getD (p2 - 1).toNat 0 - 1)) := by
        rw [e3]; simp [IL, List.map_set]
      have eP : IL (path ++ [(i : Int)]) = IL path ++ [.int i] := by simp [IL]
      simp only [mm, eP] at q3
      rw [← e4] at q3
      exact rtn_all q3
    · rw [if_neg hb] at q3
      repeat (first | ((conv => whnf); refine ⟨_, rfl, ?_⟩) | ((conv => whnf); refine ⟨_, _, rfl, ?_⟩) | ((conv => whnf); refine ⟨_, _, _, rfl, ?_⟩) | ((conv => whnf); refine ⟨_, _, _, _, rfl, ?_⟩) | ((conv => whnf); refine DL.exn 0 ⟨_, rfl, ?_⟩) | ((conv => whnf); refine DL.exn 1 ⟨_, rfl, ?_⟩) | ((conv => whnf); refine DL.exn 2 ⟨_, rfl, ?_⟩) | ((conv => whnf); refine DL.exn 3 ⟨_, rfl, ?_⟩) | ((conv => whnf); refine DL.exn 4 ⟨_, rfl, ?_⟩) | ((conv => whnf); refine DL.exn 5 ⟨_, rfl, ?_⟩) | ((conv => whnf); refine DL.exn 0 ⟨_, _, rfl, rfl, ?_⟩) | ((conv => whnf); refine DL.exn 1 ⟨_, _, rfl, rfl, ?_⟩) | ((conv => whnf); refine DL.exn 2 ⟨_, _, rfl, rfl, ?_⟩) | ((conv => whnf); refine DL.exn 3 ⟨_, _, rfl, rfl, ?_⟩) | ((conv => whnf); refine DL.exn 4 ⟨_, _, rfl, rfl, ?_⟩) | ((conv => whnf); refine DL.exn 5 ⟨_, _, rfl, rfl, ?_⟩) | ((conv => whnf); refine DL.exn 0 ⟨_, _, rfl, ?_⟩) | ((conv => whnf); refine DL.exn 1 ⟨_, _, rfl, ?_⟩) | ((conv => whnf); refine DL.exn 2 ⟨_, _, rfl, ?_⟩) | ((conv => whnf); refine DL.exn 3 ⟨_, _, rfl, ?_⟩) | ((conv => whnf); refine DL.exn 4 ⟨_, _, rfl, ?_⟩) | ((conv => whnf); refine DL.exn 5 ⟨_, _, rfl, ?_⟩) | ((conv => whnf); refine DL.exn 0 ⟨_, _, _, rfl, rfl, ?_⟩) | ((conv => whnf); refine DL.exn 1 ⟨_, _, _, rfl, rfl, ?_⟩) | ((conv => whnf); refine DL.exn 2 ⟨_, _, _, rfl, rfl, ?_⟩) | ((conv => whnf); refine DL.exn 3 ⟨_, _, _, rfl, rfl, ?_⟩) | ((conv => whnf); refine DL.exn 4 ⟨_, _, _, rfl, rfl, ?_⟩) | ((conv => whnf); refine DL.exn 5 ⟨_, _, _, rfl, rfl, ?_⟩) | ((conv => whnf); refine Or.inl ⟨by decide, by decide, ?_⟩) | ((conv => whnf); refine Or.inr ⟨_, rfl, by decide, ?_⟩) | ((conv => whnf); refine And.intro (by first | assumption | rfl | decide | omega | exact ⟨rfl, by decide⟩ | exact Nat.le_of_ble_eq_true rfl | exact ⟨rfl, rfl⟩ | exact small_ok (by omega) (by omega) | exact ⟨small_ok (by omega) (by omega), small_ok (by omega) (by omega)⟩ | exact cdiv_ok (by omega) (by omega) | exact cpow_ok (by omega) (by omega) (by omega) (by omega) | decide +kernel) ?_) | (refine DL.ifF (by first | assumption | decide | omega | (simp; omega) | (simp; done) | (simp [*]; omega) | (simp [*]; done) | fail) ?_) | (refine DL.ifT (by first | assumption | decide | omega | (simp; omega) | (simp; done) | (simp [*]; omega) | (simp [*]; done) | fail) ?_) | fail)
      refine ⟨by simp; omega, ?_⟩
      repeat (first | ((conv => whnf); refine ⟨_, rfl, ?_⟩) | ((conv => whnf); refine ⟨_, _, rfl, ?_⟩) | ((conv => whnf); refine ⟨_, _, _, rfl, ?_⟩) | ((conv => whnf); refine ⟨_, _, _, _, rfl, ?_⟩) | ((conv => whnf); refine DL.exn 0 ⟨_, rfl, ?_⟩) | ((conv => whnf); refine DL.exn 1 ⟨_, rfl, ?_⟩) | ((conv => whnf); refine DL.exn 2 ⟨_, rfl, ?_⟩) | ((conv => whnf); refine DL.exn 3 ⟨_, rfl, ?_⟩) | ((conv => whnf); refine DL.exn 4 ⟨_, rfl, ?_⟩) | ((conv => whnf); refine DL.exn 5 ⟨_, rfl, ?_⟩) | ((conv => whnf); refine DL.exn 0 ⟨_, _, rfl, rfl, ?_⟩) | ((conv => whnf); refine DL.exn 1 ⟨_, _, rfl, rfl, ?_⟩) | ((conv => whnf); refine DL.exn 2 ⟨_, _, rfl, rfl, ?_⟩) | ((conv => whnf); refine DL.exn 3 ⟨_, _, rfl, rfl, ?_⟩) | ((conv => whnf); refine DL.exn 4 ⟨_, _, rfl, rfl, ?_⟩) | ((conv => whnf); refine DL.exn 5 ⟨_, _, rfl, rfl, ?_⟩) | ((conv => whnf); refine DL.exn 0 ⟨_, _, rfl, ?_⟩) | ((conv => whnf); refine DL.exn 1 ⟨_, _, rfl, ?_⟩) | ((conv => whnf); refine DL.exn 2 ⟨_, _, rfl, ?_⟩) | ((conv => whnf); refine DL.exn 3 ⟨_, _, rfl, ?_⟩) | ((conv => whnf); refine DL.exn 4 ⟨_, _, rfl, ?_⟩) | ((conv => whnf); refine DL.exn 5 ⟨_, _, rfl, ?_⟩) | ((conv => whnf); refine DL.exn 0 ⟨_, _, _, rfl, rfl, ?_⟩) | ((conv => whnf); refine DL.exn 1 ⟨_, _, _, rfl, rfl, ?_⟩) | ((conv => whnf); refine DL.exn 2 ⟨_, _, _, rfl, rfl, ?_⟩) | ((conv => whnf); refine DL.exn 3 ⟨_, _, _, rfl, rfl, ?_⟩) | ((conv => whnf); refine DL.exn 4 ⟨_, _, _, rfl, rfl, ?_⟩) | ((conv => whnf); refine DL.exn 5 ⟨_, _, _, rfl, rfl, ?_⟩) | ((conv => whnf); refine Or.inl ⟨by decide, by decide, ?_⟩) | ((conv => whnf); refine Or.inr ⟨_, rfl, by decide, ?_⟩) | ((conv => whnf); refine And.intro (by first | assumption | rfl | decide | omega | exact ⟨rfl, by decide⟩ | exact Nat.le_of_ble_eq_true rfl | exact ⟨rfl, rfl⟩ | exact small_ok (by omega) (by omega) | exact ⟨small_ok (by omega) (by omega), small_ok (by omega) (by omega)⟩ | exact cdiv_ok (by omega) (by omega) | exact cpow_ok (by omega) (by omega) (by omega) (by omega) | decide +kernel) ?_) | (refine DL.ifF (by first | assumption | decide | omega | (simp; omega) | (simp; done) | (simp [*]; omega) | (simp [*]; done) | fail) ?_) | (refine DL.ifT (by first | assumption | decide | omega | (simp; omega) | (simp; done) | (simp [*]; omega) | (simp [*]; done) | fail) ?_) | fail)
      have eP : IL (path ++ [(i : Int)]) = IL path ++ [.int i] := by simp [IL]
      simp only [mm, eP] at q3
      exact rtn_all q3
theorem len_g_one_turn {K : PySem.W.Frag} : ∀ es M Q E, sp_g_one_turn K es M Q E → es.length = 5 := by
  rintro _ _ _ _ ⟨_, _, _, _, _, _, _, _, _, _, _, _, _, _, _, _, _, _, rfl, _⟩; rfl
theorem rd_g_one_turn {K : PySem.W.Frag} : ∀ es M Q E, sp_g_one_turn K es M Q E → t_g_one_turn K { nx := fun _ M => Rtn Q .non M, rt := Rtn Q } (startD nm_g_one_turn es) M := by
  rintro _ M Q _ ⟨t, cc, n, ps, row, made, hs, m, pa, ov, sr, ev, path, over, turns, x, y, b, rfl, rfl, ok, hps, hz, hz2, h1, h2, hne, q⟩
  have ef : ∀ qs : List (Int × Int), (PL qs).filter (fun d => !beq d (pairD (mx x y))) = PL (qs.filter fun z => decide (z ≠ mx x y)) := fun qs => by
    rw [PL, List.filter_map]
    congr 1
    refine List.filter_congr fun z _ => ?_
    show (!beq (pairD z) (pairD (mx x y))) = _
    rw [beq_pair]; simp
  repeat (first | ((conv => whnf); refine ⟨_, rfl, ?_⟩) | ((conv => whnf); refine ⟨_, _, rfl, ?_⟩) | ((conv => whnf); refine ⟨_, _, _, rfl, ?_⟩) | ((conv => whnf); refine ⟨_, _, _, _, rfl, ?_⟩) | ((conv => whnf); refine DL.exn 0 ⟨_, rfl, ?_⟩) | ((conv => whnf); refine DL.exn 1 ⟨_, rfl, ?_⟩) | ((conv => whnf); refine DL.exn 2 ⟨_, rfl, ?_⟩) | ((conv => whnf); refine DL.exn 3 ⟨_, rfl, ?_⟩) | ((conv => whnf); refine DL.exn 4 ⟨_, rfl, ?_⟩) | ((conv => whnf); refine DL.exn 5 ⟨_, rfl, ?_⟩) | ((conv => whnf); refine DL.exn 0 ⟨_, _, rfl, rfl, ?_⟩) | ((conv => whnf); refine DL.exn 1 ⟨_, _, rfl, rfl, ?_⟩) | ((conv => whnf); refine DL.exn 2 ⟨_, _, rfl, rfl, ?_⟩) | ((conv => whnf); refine DL.exn 3 ⟨_, _, rfl, rfl, ?_⟩) | ((conv => whnf); refine DL.exn 4 ⟨_, _, rfl, rfl, ?_⟩) | ((conv => whnf); refine DL.exn 5 ⟨_, _, rfl, rfl, ?_⟩) | ((conv => whnf); refine DL.exn 0 ⟨_, _, rfl, ?_⟩) | ((conv => whnf); refine DL.exn 1 ⟨_, _, rfl, ?_⟩) | ((conv => whnf); refine DL.exn 2 ⟨_, _, rfl, ?_⟩) | ((conv => whnf); refine DL.exn 3 ⟨_, _, rfl, ?_⟩) | ((conv => whnf); refine DL.exn 4 ⟨_, _, rfl, ?_⟩) | ((conv => whnf); refine DL.exn 5 ⟨_, _, rfl, ?_⟩) | ((conv => whnf); refine DL.exn 0 ⟨_, _, _, rfl, rfl, ?_⟩) | ((conv => whnf); refine DL.exn 1 ⟨_, _, _, rfl, rfl, ?_⟩) | ((conv => whnf); refine DL.exn 2 ⟨_, _, _, rfl, rfl, ?_⟩) | ((conv => whnf); refine DL.exn 3 ⟨_, _, _, rfl, rfl, ?_⟩) | ((conv => whnf); refine DL.exn 4 ⟨_, _, _, rfl, rfl, ?_⟩) | ((conv => whnf); refine DL.exn 5 ⟨_, _, _, rfl, rfl, ?_⟩) | ((conv => whnf); refine Or.inl ⟨by decide, by decide, ?_⟩) | ((conv => whnf); refine Or.inr ⟨_, rfl, by decide, ?_⟩) | ((conv => whnf); refine And.intro (by first | assumption | rfl | decide | omega | exact ⟨rfl, by decide⟩ | exact Nat.le_of_ble_eq_true rfl | exact ⟨rfl, rfl⟩ | exact small_ok (by omega) (by omega) | exact ⟨small_ok (by omega) (by omega), small_ok (by omega) (by omega)⟩ | exact cdiv_ok (by omega) (by omega) | exact cpow_ok (by omega) (by omega) (by omega) (by omega) | decide +kernel) ?_) | (refine DL.ifF (by first | assumption | decide | omega | (simp; omega) | (simp; done) | (simp [*]; omega) | (simp [*]; done) | fail) ?_) | (refine DL.ifT (by first | assumption | decide | omega | (simp; omega) | (simp; done) | (simp [*]; omega) | (simp [*]; done) | fail) ?_) | fail)
  (conv => whnf)
  refine ⟨by simp [PL]; omega, ?_⟩
  refine cl_filt (fun d => d) (fun d => !beq d (pairD (mx x y))) (fun d hd k1 k2 g1 g2 => ?_) ?_
  · obtain ⟨p, hp, rfl⟩ := List.mem_map.mp hd
    repeat (first | ((conv => whnf); refine ⟨_, rfl, ?_⟩) | ((conv => whnf); refine ⟨_, _, rfl, ?_⟩) | ((conv => whnf); refine ⟨_, _, _, rfl, ?_⟩) | ((conv => whnf); refine ⟨_, _, _, _, rfl, ?_⟩) | ((conv => whnf); refine DL.exn 0 ⟨_, rfl, ?_⟩) | ((conv => whnf); refine DL.exn 1 ⟨_, rfl, ?_⟩) | ((conv => whnf); refine DL.exn 2 ⟨_, rfl, ?_⟩) | ((conv => whnf); refine DL.exn 3 ⟨_, rfl, ?_⟩) | ((conv => whnf); refine DL.exn 4 ⟨_, rfl, ?_⟩) | ((conv => whnf); refine DL.exn 5 ⟨_, rfl, ?_⟩) | ((conv => whnf); refine DL.exn 0 ⟨_, _, rfl, rfl, ?_⟩) | ((conv => whnf); refine DL.exn 1 ⟨_, _, rfl, rfl, ?_⟩) | ((conv => whnf); refine DL.exn 2 ⟨_, _, rfl, rfl, ?_⟩) | ((conv => whnf); refine DL.exn 3 ⟨_, _, rfl, rfl, ?_⟩) | ((conv => whnf); refine DL.exn 4 ⟨_, _, rfl, rfl, ?_⟩) | ((conv => whnf); refine DL.exn 5 ⟨_, _, rfl, rfl, ?_⟩) | ((conv => whnf); refine DL.exn 0 ⟨_, _, rfl, ?_⟩) | ((conv => whnf); refine DL.exn 1 ⟨_, _, rfl, ?_⟩) | ((conv => whnf); refine DL.exn 2 ⟨_, _, rfl, ?_⟩) | ((conv => whnf); refine DL.exn 3 ⟨_, _, rfl, ?_⟩) | ((conv => whnf); refine DL.exn 4 ⟨_, _, rfl, ?_⟩) | ((conv => whnf); refine DL.exn 5 ⟨_, _, rfl, ?_⟩) | ((conv => whnf); refine DL.exn 0 ⟨_, _, _, rfl, rfl, ?_⟩) | ((conv => whnf); refine DL.exn 1 ⟨_, _, _, rfl, rfl, ?_⟩) | ((conv => whnf); refine DL.exn 2 ⟨_, _, _, rfl, rfl, ?_⟩) | ((conv => whnf); refine DL.exn 3 ⟨_, _, _, rfl, rfl, ?_⟩) | ((conv => whnf); refine DL.exn 4 ⟨_, _, _, rfl, rfl, ?_⟩) | ((conv => whnf); refine DL.exn 5 ⟨_, _, _, rfl, rfl, ?_⟩) | ((conv => whnf); refine Or.inl ⟨by decide, by decide, ?_⟩) | ((conv => whnf); refine Or.inr ⟨_, rfl, by decide, ?_⟩) | ((conv => whnf); refine And.intro (by first | assumption | rfl | decide | omega | exact ⟨rfl, by decide⟩ | exact Nat.le_of_ble_eq_true rfl | exact ⟨rfl, rfl⟩ | exact small_ok (by omega) (by omega) | exact ⟨small_ok (by omega) (by omega), small_ok (by omega) (by omega)⟩ | exact cdiv_ok (by omega) (by omega) | exact cpow_ok (by omega) (by omega) (by omega) (by omega) | decide +kernel) ?_) | (refine DL.ifF (by first | assumption | decide | omega | (simp; omega) | (simp; done) | (simp [*]; omega) | (simp [*]; done) | fail) ?_) | (refine DL.ifT (by first | assumption | decide | omega | (simp; omega) | (simp; done) | (simp [*]; omega) | (simp [*]; done) | fail) ?_) | fail)
    show (if (!beq (pairD p) (pairD (mx x y))) = true then _ else _)
    by_cases hb : (!beq (pairD p) (pairD (mx x y))) = true
    · rw [if_pos hb]
      exact g1 hb
    · rw [if_neg hb]
      exact g2 (by simpa using hb)
  · rw [ef, List.map_id']
    have hfl : (sr.filter fun z => decide (z ≠ mx x y)).length ≤ sr.length := List.length_filter_le _ _
    cases b with
    | true =>
      repeat (first | ((conv => whnf); refine ⟨_, rfl, ?_⟩) | ((conv => whnf); refine ⟨_, _, rfl, ?_⟩) | ((conv => whnf); refine ⟨_, _, _, rfl, ?_⟩) | ((conv => whnf); refine ⟨_, _, _, _, rfl, ?_⟩) | ((conv => whnf); refine DL.exn 0 ⟨_, rfl, ?_⟩) | ((conv => whnf); refine DL.exn 1 ⟨_, rfl, ?_⟩) | ((conv => whnf); refine DL.exn 2 ⟨_, rfl, ?_⟩) | ((conv => whnf); refine DL.exn 3 ⟨_, rfl, ?_⟩) | ((conv => whnf); refine DL.exn 4 ⟨_, rfl, ?_⟩) | ((conv => whnf); refine DL.exn 5 ⟨_, rfl, ?_⟩) | ((conv => whnf); refine DL.exn 0 ⟨_, _, rfl, rfl, ?_⟩) | ((conv => whnf); refine DL.exn 1 ⟨_, _, rfl, rfl, ?_⟩) | ((conv => whnf); refine DL.exn 2 ⟨_, _, rfl, rfl, ?_⟩) | ((conv => whnf); refine DL.exn 3 ⟨_, _, rfl, rfl, ?_⟩) | ((conv => whnf); refine DL.exn 4 ⟨_, _, rfl, rfl, ?_⟩) | ((conv => whnf); refine DL.exn 5 ⟨_, _, rfl, rfl, ?_⟩) | ((conv => whnf); refine DL.exn 0 ⟨_, _, rfl, ?_⟩) | ((conv => whnf); refine DL.exn 1 ⟨_, _, rfl, ?_⟩) | ((conv => whnf); refine DL.exn 2 ⟨_, _, rfl, ?_⟩) | ((conv => whnf); refine DL.exn 3 ⟨_, _, rfl, ?_⟩) | ((conv => whnf); refine DL.exn 4 ⟨_, _, rfl, ?_⟩) | ((conv => whnf); refine DL.exn 5 ⟨_, _, rfl, ?_⟩) | ((conv => whnf); refine DL.exn 0 ⟨_, _, _, rfl, rfl, ?_⟩) | ((conv => whnf); refine DL.exn 1 ⟨_, _, _, rfl, rfl, ?_⟩) | ((conv => whnf); refine DL.exn 2 ⟨_, _, _, rfl, rfl, ?_⟩) | ((conv => whnf); refine DL.exn 3 ⟨_, _, _, rfl, rfl, ?_⟩) | ((conv => whnf); refine DL.exn 4 ⟨_, _, _, rfl, rfl, ?_⟩) | ((conv => whnf); refine DL.exn 5 ⟨_, _, _, rfl, rfl, ?_⟩) | ((conv => whnf); refine Or.inl ⟨by decide, by decide, ?_⟩) | ((conv => whnf); refine Or.inr ⟨_, rfl, by decide, ?_⟩) | ((conv => whnf); refine And.intro (by first | assumption | rfl | decide | omega | exact ⟨rfl, by decide⟩ | exact Nat.le_of_ble_eq_true rfl | exact ⟨rfl, rfl⟩ | exact small_ok (by omega) (by omega) | exact ⟨small_ok (by omega) (by omega), small_ok (by omega) (by omega)⟩ | exact cdiv_ok (by omega) (by omega) | exact cpow_ok (by omega) (by omega) (by omega) (by omega) | decide +kernel) ?_) | (refine DL.ifF (by first | assumption | decide | omega | (simp; omega) | (simp; done) | (simp [*]; omega) | (simp [*]; done) | fail) ?_) | (refine DL.ifT (by first | assumption | decide | omega | (simp; omega) | (simp; done) | (simp [*]; omega) | (simp [*]; done) | fail) ?_) | fail)
      (conv => whnf)
      refine ⟨by show ([] ++ PL (sr.filter fun z => decide (z ≠ mx x y))).length + ([pairD (mx x y)] : List D).length ≤ 16777216; simp at hfl ⊢; omega, ?_⟩
      repeat (first | ((conv => whnf); refine ⟨_, rfl, ?_⟩) | ((conv => whnf); refine ⟨_, _, rfl, ?_⟩) | ((conv => whnf); refine ⟨_, _, _, rfl, ?_⟩) | ((conv => whnf); refine ⟨_, _, _, _, rfl, ?_⟩) | ((conv => whnf); refine DL.exn 0 ⟨_, rfl, ?_⟩) | ((conv => whnf); refine DL.exn 1 ⟨_, rfl, ?_⟩) | ((conv => whnf); refine DL.exn 2 ⟨_, rfl, ?_⟩) | ((conv => whnf); refine DL.exn 3 ⟨_, rfl, ?_⟩) | ((conv => whnf); refine DL.exn 4 ⟨_, rfl, ?_⟩) | ((conv => whnf); refine DL.exn 5 ⟨_, rfl, ?_⟩) | ((conv => whnf); refine DL.exn 0 ⟨_, _, rfl, rfl, ?_⟩) | ((conv => whnf); refine DL.exn 1 ⟨_, _, rfl, rfl, ?_⟩) | ((conv => whnf); refine DL.exn 2 ⟨_, _, rfl, rfl, ?_⟩) | ((conv => whnf); refine DL.exn 3 ⟨_, _, rfl, rfl, ?_⟩) | ((conv => whnf); refine DL.exn 4 ⟨_, _, rfl, rfl, ?_⟩) | ((conv => whnf); refine DL.exn 5 ⟨_, _, rfl, rfl, ?_⟩) | ((conv => whnf); refine DL.exn 0 ⟨_, _, rfl, ?_⟩) | ((conv => whnf); refine DL.exn 1 ⟨_, _, rfl, ?_⟩) | ((conv => whnf); refine DL.exn 2 ⟨_, _, rfl, ?_⟩) | ((conv => whnf); refine DL.exn 3 ⟨_, _, rfl, ?_⟩) | ((conv => whnf); refine DL.exn 4 ⟨_, _, rfl, ?_⟩) | ((conv => whnf); refine DL.exn 5 ⟨_, _, rfl, ?_⟩) | ((conv => whnf); refine DL.exn 0 ⟨_, _, _, rfl, rfl, ?_⟩) | ((conv => whnf); refine DL.exn 1 ⟨_, _, _, rfl, rfl, ?_⟩) | ((conv => whnf); refine DL.exn 2 ⟨_, _, _, rfl, rfl, ?_⟩) | ((conv => whnf); refine DL.exn 3 ⟨_, _, _, rfl, rfl, ?_⟩) | ((conv => whnf); refine DL.exn 4 ⟨_, _, _, rfl, rfl, ?_⟩) | ((conv => whnf); refine DL.exn 5 ⟨_, _, _, rfl, rfl, ?_⟩) | ((conv => whnf); refine Or.inl ⟨by decide, by decide, ?_⟩) | ((conv => whnf); refine Or.inr ⟨_, rfl, by decide, ?_⟩) | ((conv => whnf); refine And.intro (by first | assumption | rfl | decide | omega | exact ⟨rfl, by decide⟩ | exact Nat.le_of_ble_eq_true rfl | exact ⟨rfl, rfl⟩ | exact small_ok (by omega) (by omega) | exact ⟨small_ok (by omega) (by omega), small_ok (by omega) (by omega)⟩ | exact cdiv_ok (by omega) (by omega) | exact cpow_ok (by omega) (by omega) (by omega) (by omega) | decide +kernel) ?_) | (refine DL.ifF (by first | assumption | decide | omega | (simp; omega) | (simp; done) | (simp [*]; omega) | (simp [*]; done) | fail) ?_) | (refine DL.ifT (by first | assumption | decide | omega | (simp; omega) | (simp; done) | (simp [*]; omega) | (simp [*]; done) | fail) ?_) | fail)
      refine call_at [0, 0] rfl ⟨t, cc, n, ps, row, made, hs, x, y, rfl, rfl, ok, ok.len, h1, h2, hne, ?_⟩
      intro qs ok2 hq
      repeat (first | ((conv => whnf); refine ⟨_, rfl, ?_⟩) | ((conv => whnf); refine ⟨_, _, rfl, ?_⟩) | ((conv => whnf); refine ⟨_, _, _, rfl, ?_⟩) | ((conv => whnf); refine ⟨_, _, _, _, rfl, ?_⟩) | ((conv => whnf); refine DL.exn 0 ⟨_, rfl, ?_⟩) | ((conv => whnf); refine DL.exn 1 ⟨_, rfl, ?_⟩) | ((conv => whnf); refine DL.exn 2 ⟨_, rfl, ?_⟩) | ((conv => whnf); refine DL.exn 3 ⟨_, rfl, ?_⟩) | ((conv => whnf); refine DL.exn 4 ⟨_, rfl, ?_⟩) | ((conv => whnf); refine DL.exn 5 ⟨_, rfl, ?_⟩) | ((conv => whnf); refine DL.exn 0 ⟨_, _, rfl, rfl, ?_⟩) | ((conv => whnf); refine DL.exn 1 ⟨_, _, rfl, rfl, ?_⟩) | ((conv => whnf); refine DL.exn 2 ⟨_, _, rfl, rfl, ?_⟩) | ((conv => whnf); refine DL.exn 3 ⟨_, _, rfl, rfl, ?_⟩) | ((conv => whnf); refine DL.exn 4 ⟨_, _, rfl, rfl, ?_⟩) | ((conv => whnf); refine DL.exn 5 ⟨_, _, rfl, rfl, ?_⟩) | ((conv => whnf); refine DL.exn 0 ⟨_, _, rfl, ?_⟩) | ((conv => whnf); refine DL.exn 1 ⟨_, _, rfl, ?_⟩) | ((conv => whnf); refine DL.exn 2 ⟨_, _, rfl, ?_⟩) | ((conv => whnf); refine DL.exn 3 ⟨_, _, rfl, ?_⟩) | ((conv => whnf); refine DL.exn 4 ⟨_, _, rfl, ?_⟩) | ((conv => whnf); refine DL.exn 5 ⟨_, _, rfl, ?_⟩) | ((conv => whnf); refine DL.exn 0 ⟨_, _, _, rfl, rfl, ?_⟩) | ((conv => whnf); refine DL.exn 1 ⟨_, _, _, rfl, rfl, ?_⟩) | ((conv => whnf); refine DL.exn 2 ⟨_, _, _, rfl, rfl, ?_⟩) | ((conv => whnf); refine DL.exn 3 ⟨_, _, _, rfl, rfl, ?_⟩) | ((conv => whnf); refine DL.exn 4 ⟨_, _, _, rfl, rfl, ?_⟩) | ((conv => whnf); refine DL.exn 5 ⟨_, _, _, rfl, rfl, ?_⟩) | ((conv => whnf); refine Or.inl ⟨by decide, by decide, ?_⟩) | ((conv => whnf); refine Or.inr ⟨_, rfl, by decide, ?_⟩) | ((conv => whnf); refine And.intro (by first | assumption | rfl | decide | omega | exact ⟨rfl, by decide⟩ | exact Nat.le_of_ble_eq_true rfl | exact ⟨rfl, rfl⟩ | exact small_ok (by omega) (by omega) | exact ⟨small_ok (by omega) (by omega), small_ok (by omega) (by omega)⟩ | exact cdiv_ok (by omega) (by omega) | exact cpow_ok (by omega) (by omega) (by omega) (by omega) | decide +kernel) ?_) | (refine DL.ifF (by first | assumption | decide | omega | (simp; omega) | (simp; done) | (simp [*]; omega) | (simp [*]; done) | fail) ?_) | (refine DL.ifT (by first | assumption | decide | omega | (simp; omega) | (simp; done) | (simp [*]; omega) | (simp [*]; done) | fail) ?_) | fail)
      have eD : PL ((sr.filter fun z => decide (z ≠ mx x y)) ++ [mx x y]) = PL (sr.filter fun z => decide (z ≠ mx x y)) ++ [pairD (mx x y)] := by simp [PL]
      have hmem : ∀ z, z ∈ ((sr.filter fun z => decide (z ≠ mx x y)) ++ [mx x y]) ↔ z ∈ sr ∨ z = mx x y := fun z => by
        rw [List.mem_append, List.mem_filter, List.mem_singleton]
        by_cases e : z = mx x y <;> simp [e]
      have q' := q qs ((sr.filter fun z => decide (z ≠ mx x y)) ++ [mx x y]) ev ok2 (fun z => by rw [hq, hmem, hps]) (by simp at hfl ⊢; omega) (Nat.le_refl _) (fun z h => h) (fun _ => ⟨rfl, hmem⟩) (fun h => by cases h)
      simp only [mm, dM, eD] at q'
      exact rtn_all q'
    | false =>
      repeat (first | ((conv => whnf); refine ⟨_, rfl, ?_⟩) | ((conv => whnf); refine ⟨_, _, rfl, ?_⟩) | ((conv => whnf); refine ⟨_, _, _, rfl, ?_⟩) | ((conv => whnf); refine ⟨_, _, _, _, rfl, ?_⟩) | ((conv => whnf); refine DL.exn 0 ⟨_, rfl, ?_⟩) | ((conv => whnf); refine DL.exn 1 ⟨_, rfl, ?_⟩) | ((conv => whnf); refine DL.exn 2 ⟨_, rfl, ?_⟩) | ((conv => whnf); refine DL.exn 3 ⟨_, rfl, ?_⟩) | ((conv => whnf); refine DL.exn 4 ⟨_, rfl, ?_⟩) | ((conv => whnf); refine DL.exn 5 ⟨_, rfl, ?_⟩) | ((conv => whnf); refine DL.exn 0 ⟨_, _, rfl, rfl, ?_⟩) | ((conv => whnf); refine DL.exn 1 ⟨_, _, rfl, rfl, ?_⟩) | ((conv => whnf); refine DL.exn 2 ⟨_, _, rfl, rfl, ?_⟩) | ((conv => whnf); refine DL.exn 3 ⟨_, _, rfl, rfl, ?_⟩) | ((conv => whnf); refine DL.exn 4 ⟨_, _, rfl, rfl, ?_⟩) | ((conv => whnf); refine DL.exn 5 ⟨_, _, rfl, rfl, ?_⟩) | ((conv => whnf); refine DL.exn 0 ⟨_, _, rfl, ?_⟩) | ((conv => whnf); refine DL.exn 1 ⟨_, _, rfl, ?_⟩) | ((conv => whnf); refine DL.exn 2 ⟨_, _, rfl, ?_⟩) | ((conv => whnf); refine DL.exn 3 ⟨_, _, rfl, ?_⟩) | ((conv => whnf); refine DL.exn 4 ⟨_, _, rfl, ?_⟩) | ((conv => whnf); refine DL.exn 5 ⟨_, _, rfl, ?_⟩) | ((conv => whnf); refine DL.exn 0 ⟨_, _, _, rfl, rfl, ?_⟩) | ((conv => whnf); refine DL.exn 1 ⟨_, _, _, rfl, rfl, ?_⟩) | ((conv => whnf); refine DL.exn 2 ⟨_, _, _, rfl, rfl, ?_⟩) | ((conv => whnf); refine DL.exn 3 ⟨_, _, _, rfl, rfl, ?_⟩) | ((conv => whnf); refine DL.exn 4 ⟨_, _, _, rfl, rfl, ?_⟩) | ((conv => whnf); refine DL.exn 5 ⟨_, _, _, rfl, rfl, ?_⟩) | ((conv => whnf); refine Or.inl ⟨by decide, by decide, ?_⟩) | ((conv => whnf); refine Or.inr ⟨_, rfl, by decide, ?_⟩) | ((conv => whnf); refine And.intro (by first | assumption | rfl | decide | omega | exact ⟨rfl, by decide⟩ | exact Nat.le_of_ble_eq_true rfl | exact ⟨rfl, rfl⟩ | exact small_ok (by omega) (by omega) | exact ⟨small_ok (by omega) (by omega), small_ok (by omega) (by omega)⟩ | exact cdiv_ok (by omega) (by omega) | exact cpow_ok (by omega) (by omega) (by omega) (by omega) | decide +kernel) ?_) | (refine DL.ifF (by first | assumption | decide | omega | (simp; omega) | (simp; done) | (simp [*]; omega) | (simp [*]; done) | fail) ?_) | (refine DL.ifT (by first | assumption | decide | omega | (simp; omega) | (simp; done) | (simp [*]; omega) | (simp [*]; done) | fail) ?_) | fail)
      (conv => whnf)
      refine ⟨by show ([] ++ PL (sr.filter fun z => decide (z ≠ mx x y))).length + ([] : List D).length ≤ 16777216; simp at hfl ⊢; omega, ?_⟩
      repeat (first | ((conv => whnf); refine ⟨_, rfl, ?_⟩) | ((conv => whnf); refine ⟨_, _, rfl, ?_⟩) | ((conv => whnf); refine ⟨_, _, _, rfl, ?_⟩) | ((conv => whnf); refine ⟨_, _, _, _, rfl, ?_⟩) | ((conv => whnf); refine DL.exn 0 ⟨_, rfl, ?_⟩) | ((conv => whnf); refine DL.exn 1 ⟨_, rfl, ?_⟩) | ((conv => whnf); refine DL.exn 2 ⟨_, rfl, ?_⟩) | ((conv => whnf); refine DL.exn 3 ⟨_, rfl, ?_⟩) | ((conv => whnf); refine DL.exn 4 ⟨_, rfl, ?_⟩) | ((conv => whnf); refine DL.exn 5 ⟨_, rfl, ?_⟩) | ((conv => whnf); refine DL.exn 0 ⟨_, _, rfl, rfl, ?_⟩) | ((conv => whnf); refine DL.exn 1 ⟨_, _, rfl, rfl, ?_⟩) | ((conv => whnf); refine DL.exn 2 ⟨_, _, rfl, rfl, ?_⟩) | ((conv => whnf); refine DL.exn 3 ⟨_, _, rfl, rfl, ?_⟩) | ((conv => whnf); refine DL.exn 4 ⟨_, _, rfl, rfl, ?_⟩) | ((conv => whnf); refine DL.exn 5 ⟨_, _, rfl, rfl, ?_⟩) | ((conv => whnf); refine DL.exn 0 ⟨_, _, rfl, ?_⟩) | ((conv => whnf); refine DL.exn 1 ⟨_, _, rfl, ?_⟩) | ((conv => whnf); refine DL.exn 2 ⟨_, _, rfl, ?_⟩) | ((conv => whnf); refine DL.exn 3 ⟨_, _, rfl, ?_⟩) | ((conv => whnf); refine DL.exn 4 ⟨_, _, rfl, ?_⟩) | ((conv => whnf); refine DL.exn 5 ⟨_, _, rfl, ?_⟩) | ((conv => whnf); refine DL.exn 0 ⟨_, _, _, rfl, rfl, ?_⟩) | ((conv => whnf); refine DL.exn 1 ⟨_, _, _, rfl, rfl, ?_⟩) | ((conv => whnf); refine DL.exn 2 ⟨_, _, _, rfl, rfl, ?_⟩) | ((conv => whnf); refine DL.exn 3 ⟨_, _, _, rfl, rfl, ?_⟩) | ((conv => whnf); refine DL.exn 4 ⟨_, _, _, rfl, rfl, ?_⟩) | ((conv => whnf); refine DL.exn 5 ⟨_, _, _, rfl, rfl, ?_⟩) | ((conv => whnf); refine Or.inl ⟨by decide, by decide, ?_⟩) | ((conv => whnf); refine Or.inr ⟨_, rfl, by decide, ?_⟩) | ((conv => whnf); refine And.intro (by first | assumption | rfl | decide | omega | exact ⟨rfl, by decide⟩ | exact Nat.le_of_ble_eq_true rfl | exact ⟨rfl, rfl⟩ | exact small_ok (by omega) (by omega) | exact ⟨small_ok (by omega) (by omega), small_ok (by omega) (by omega)⟩ | exact cdiv_ok (by omega) (by omega) | exact cpow_ok (by omega) (by omega) (by omega) (by omega) | decide +kernel) ?_) | (refine DL.ifF (by first | assumption | decide | omega | (simp; omega) | (simp; done) | (simp [*]; omega) | (simp [*]; done) | fail) ?_) | (refine DL.ifT (by first | assumption | decide | omega | (simp; omega) | (simp; done) | (simp [*]; omega) | (simp [*]; done) | fail) ?_) | fail)
      refine call_at [0, 0] rfl ⟨t, cc, n, ps, row, made, hs, x, y, rfl, rfl, ok, ok.len, h1, h2, hne, ?_⟩
      intro qs ok2 hq
      repeat (first | ((conv => whnf); refine ⟨_, rfl, ?_⟩) | ((conv => whnf); refine ⟨_, _, rfl, ?_⟩) | ((conv => whnf); refine ⟨_, _, _, rfl, ?_⟩) | ((conv => whnf); refine ⟨_, _, _, _, rfl, ?_⟩) | ((conv => whnf); refine DL.exn 0 ⟨_, rfl, ?_⟩) | ((conv => whnf); refine DL.exn 1 ⟨_, rfl, ?_⟩) | ((conv => whnf); refine DL.exn 2 ⟨_, rfl, ?_⟩) | ((conv => whnf); refine DL.exn 3 ⟨_, rfl, ?_⟩) | ((conv => whnf); refine DL.exn 4 ⟨_, rfl, ?_⟩) | ((conv => whnf); refine DL.exn 5 ⟨_, rfl, ?_⟩) | ((conv => whnf); refine DL.exn 0 ⟨_, _, rfl, rfl, ?_⟩) | ((conv => whnf); refine DL.exn 1 ⟨_, _, rfl, rfl, ?_⟩) | ((conv => whnf); refine DL.exn 2 ⟨_, _, rfl, rfl, ?_⟩) | ((conv => whnf); refine DL.exn 3 ⟨_, _, rfl, rfl, ?_⟩) | ((conv => whnf); refine DL.exn 4 ⟨_, _, rfl, rfl, ?_⟩) | ((conv => whnf); refine DL.exn 5 ⟨_, _, rfl, rfl, ?_⟩) | ((conv => whnf); refine DL.exn 0 ⟨_, _, rfl, ?_⟩) | ((conv => whnf); refine DL.exn 1 ⟨_, _, rfl, ?_⟩) | ((conv => whnf); refine DL.exn 2 ⟨_, _, rfl, ?_⟩) | ((conv => whnf); refine DL.exn 3 ⟨_, _, rfl, ?_⟩) | ((conv => whnf); refine DL.exn 4 ⟨_, _, rfl, ?_⟩) | ((conv => whnf); refine DL.exn 5 ⟨_, _, rfl, ?_⟩) | ((conv => whnf); refine DL.exn 0 ⟨_, _, _, rfl, rfl, ?_⟩) | ((conv => whnf); refine DL.exn 1 ⟨_, _, _, rfl, rfl, ?_⟩) | ((conv => whnf); refine DL.exn 2 ⟨_, _, _, rfl, rfl, ?_⟩) | ((conv => whnf); refine DL.exn 3 ⟨_, _, _, rfl, rfl, ?_⟩) | ((conv => whnf); refine DL.exn 4 ⟨_, _, _, rfl, rfl, ?_⟩) | ((conv => whnf); refine DL.exn 5 ⟨_, _, _, rfl, rfl, ?_⟩) | ((conv => whnf); refine Or.inl ⟨by decide, by decide, ?_⟩) | ((conv => whnf); refine Or.inr ⟨_, rfl, by decide, ?_⟩) | ((conv => whnf); refine And.intro (by first | assumption | rfl | decide | omega | exact ⟨rfl, by decide⟩ | exact Nat.le_of_ble_eq_true rfl | exact ⟨rfl, rfl⟩ | exact small_ok (by omega) (by omega) | exact ⟨small_ok (by omega) (by omega), small_ok (by omega) (by omega)⟩ | exact cdiv_ok (by omega) (by omega) | exact cpow_ok (by omega) (by omega) (by omega) (by omega) | decide +kernel) ?_) | (refine DL.ifF (by first | assumption | decide | omega | (simp; omega) | (simp; done) | (simp [*]; omega) | (simp [*]; done) | fail) ?_) | (refine DL.ifT (by first | assumption | decide | omega | (simp; omega) | (simp; done) | (simp [*]; omega) | (simp [*]; done) | fail) ?_) | fail)
      (conv => whnf)
      refine ⟨by simp [PL]; omega, ?_⟩
      refine cl_filt (fun d => d) (fun d => !beq d (pairD (mx x y))) (fun d hd k1 k2 g1 g2 => ?_) ?_
      · obtain ⟨p, hp, rfl⟩ := List.mem_map.mp hd
        repeat (first | ((conv => whnf); refine ⟨_, rfl, ?_⟩) | ((conv => whnf); refine ⟨_, _, rfl, ?_⟩) | ((conv => whnf); refine ⟨_, _, _, rfl, ?_⟩) | ((conv => whnf); refine ⟨_, _, _, _, rfl, ?_⟩) | ((conv => whnf); refine DL.exn 0 ⟨_, rfl, ?_⟩) | ((conv => whnf); refine DL.exn 1 ⟨_, rfl, ?_⟩) | ((conv => whnf); refine DL.exn 2 ⟨_, rfl, ?_⟩) | ((conv => whnf); refine DL.exn 3 ⟨_, rfl, ?_⟩) | ((conv => whnf); refine DL.exn 4 ⟨_, rfl, ?_⟩) | ((conv => whnf); refine DL.exn 5 ⟨_, rfl, ?_⟩) | ((conv => whnf); refine DL.exn 0 ⟨_, _, rfl, rfl, ?_⟩) | ((conv => whnf); refine DL.exn 1 ⟨_, _, rfl, rfl, ?_⟩) | ((conv => whnf); refine DL.exn 2 ⟨_, _, rfl, rfl, ?_⟩) | ((conv => whnf); refine DL.exn 3 ⟨_, _, rfl, rfl, ?_⟩) | ((conv => whnf); refine DL.exn 4 ⟨_, _, rfl, rfl, ?_⟩) | ((conv => whnf); refine DL.exn 5 ⟨_, _, rfl, rfl, ?_⟩) | ((conv => whnf); refine DL.exn 0 ⟨_, _, rfl, ?_⟩) | ((conv => whnf); refine DL.exn 1 ⟨_, _, rfl, ?_⟩) | ((conv => whnf); refine DL.exn 2 ⟨_, _, rfl, ?_⟩) | ((conv => whnf); refine DL.exn 3 ⟨_, _, rfl, ?_⟩) | ((conv => whnf); refine DL.exn 4 ⟨_, _, rfl, ?_⟩) | ((conv => whnf); refine DL.exn 5 ⟨_, _, rfl, ?_⟩) | ((conv => whnf); refine DL.exn 0 ⟨_, _, _, rfl, rfl, ?_⟩) | ((conv => whnf); refine DL.exn 1 ⟨_, _, _, rfl, rfl, ?_⟩) | ((conv => whnf); refine DL.exn 2 ⟨_, _, _, rfl, rfl, ?_⟩) | ((conv => whnf); refine DL.exn 3 ⟨_, _, _, rfl, rfl, ?_⟩) | ((conv => whnf); refine DL.exn 4 ⟨_, _, _, rfl, rfl, ?_⟩) | ((conv => whnf); refine DL.exn 5 ⟨_, _, _, rfl, rfl, ?_⟩) | ((conv => whnf); refine Or.inl ⟨by decide, by decide, ?_⟩) | ((conv => whnf); refine Or.inr ⟨_, rfl, by decide, ?_⟩) | ((conv => whnf); refine And.intro (by first | assumption | rfl | decide | omega | exact ⟨rfl, by decide⟩ | exact Nat.le_of_ble_eq_true rfl | exact ⟨rfl, rfl⟩ | exact small_ok (by omega) (by omega) | exact ⟨small_ok (by omega) (by omega), small_ok (by omega) (by omega)⟩ | exact cdiv_ok (by omega) (by omega) | exact cpow_ok (by omega) (by omega) (by omega) (by omega) | decide +kernel) ?_) | (refine DL.ifF (by first | assumption | decide | omega | (simp; omega) | (simp; done) | (simp [*]; omega) | (simp [*]; done) | fail) ?_) | (refine DL.ifT (by first | assumption | decide | omega | (simp; omega) | (simp; done) | (simp [*]; omega) | (simp [*]; done) | fail) ?_) | fail)
        show (if (!beq (pairD p) (pairD (mx x y))) = true then _ else _)
        by_cases hb : (!beq (pairD p) (pairD (mx x y))) = true
        · rw [if_pos hb]
          exact g1 hb
        · rw [if_neg hb]
          exact g2 (by simpa using hb)
      · rw [ef, List.map_id']
        repeat (first | ((conv => whnf); refine ⟨_, rfl, ?_⟩) | ((conv => whnf); refine ⟨_, _, rfl, ?_⟩) | ((conv => whnf); refine ⟨_, _, _, rfl, ?_⟩) | ((conv => whnf); refine ⟨_, _, _, _, rfl, ?_⟩) | ((conv => whnf); refine DL.exn 0 ⟨_, rfl, ?_⟩) | ((conv => whnf); refine DL.exn 1 ⟨_, rfl, ?_⟩) | ((conv => whnf); refine DL.exn 2 ⟨_, rfl, ?_⟩) | ((conv => whnf); refine DL.exn 3 ⟨_, rfl, ?_⟩) | ((conv => whnf); refine DL.exn 4 ⟨_, rfl, ?_⟩) | ((conv => whnf); refine DL.exn 5 ⟨_, rfl, ?_⟩) | ((conv => whnf); refine DL.exn 0 ⟨_, _, rfl, rfl, ?_⟩) | ((conv => whnf); refine DL.exn 1 ⟨_, _, rfl, rfl, ?_⟩) | ((conv => whnf); refine DL.exn 2 ⟨_, _, rfl, rfl, ?_⟩) | ((conv => whnf); refine DL.exn 3 ⟨_, _, rfl, rfl, ?_⟩) | ((conv => whnf); refine DL.exn 4 ⟨_, _, rfl, rfl, ?_⟩) | ((conv => whnf); refine DL.exn 5 ⟨_, _, rfl, rfl, ?_⟩) | ((conv => whnf); refine DL.exn 0 ⟨_, _, rfl, ?_⟩) | ((conv => whnf); refine DL.exn 1 ⟨_, _, rfl, ?_⟩) | ((conv => whnf); refine DL.exn 2 ⟨_, _, rfl, ?_⟩) | ((conv => whnf); refine DL.exn 3 ⟨_, _, rfl, ?_⟩) | ((conv => whnf); refine DL.exn 4 ⟨_, _, rfl, ?_⟩) | ((conv => whnf); refine DL.exn 5 ⟨_, _, rfl, ?_⟩) | ((conv => whnf); refine DL.exn 0 ⟨_, _, _, rfl, rfl, ?_⟩) | ((conv => whnf); refine DL.exn 1 ⟨_, _, _, rfl, rfl, ?_⟩) | ((conv => whnf); refine DL.exn 2 ⟨_, _, _, rfl, rfl, ?_⟩) | ((conv => whnf); refine DL.exn 3 ⟨_, _, _, rfl, rfl, ?_⟩) | ((conv => whnf); refine DL.exn 4 ⟨_, _, _, rfl, rfl, ?_⟩) | ((conv => whnf); refine DL.exn 5 ⟨_, _, _, rfl, rfl, ?_⟩) | ((conv => whnf); refine Or.inl ⟨by decide, by decide, ?_⟩) | ((conv => whnf); refine Or.inr ⟨_, rfl, by decide, ?_⟩) | ((conv => whnf); refine And.intro (by first | assumption | rfl | decide | omega | exact ⟨rfl, by decide⟩ | exact Nat.le_of_ble_eq_true rfl | exact ⟨rfl, rfl⟩ | exact small_ok (by omega) (by omega) | exact ⟨small_ok (by omega) (by omega), small_ok (by omega) (by omega)⟩ | exact cdiv_ok (by omega) (by omega) | exact cpow_ok (by omega) (by omega) (by omega) (by omega) | decide +kernel) ?_) | (refine DL.ifF (by first | assumption | decide | omega | (simp; omega) | (simp; done) | (simp [*]; omega) | (simp [*]; done) | fail) ?_) | (refine DL.ifT (by first | assumption | decide | omega | (simp; omega) | (simp; done) | (simp [*]; omega) | (simp [*]; done) | fail) ?_) | fail)
        have hfl2 : (ev.filter fun z => decide (z ≠ mx x y)).length ≤ ev.length := List.length_filter_le _ _
        have hmem : ∀ z, z ∈ (sr.filter fun z => decide (z ≠ mx x y)) ↔ z ∈ sr ∧ z ≠ mx x y := fun z => by
          rw [List.mem_filter]; simp
        have hmem2 : ∀ z, z ∈ (ev.filter fun z => decide (z ≠ mx x y)) ↔ z ∈ ev ∧ z ≠ mx x y := fun z => by
          rw [List.mem_filter]; simp
        have q' := q qs (sr.filter fun z => decide (z ≠ mx x y)) (ev.filter fun z => decide (z ≠ mx x y)) ok2 (fun z => by rw [hq, hmem, hps]) (by omega) hfl2 (fun z h => ((hmem2 z).mp h).1) (fun h => by cases h) (fun _ => ⟨hmem, hmem2⟩)
        have eD : PL (sr.filter fun z => decide (z ≠ mx x y)) = PL (sr.filter fun z => decide (z ≠ mx x y)) ++ [] := by simp
        simp only [mm, dM] at q'
        rw [eD] at q'
        exact rtn_all q'
end Nk66

set_option Elab.async false
set_option linter.all false
set_option maxRecDepth 100000
set_option maxHeartbeats 4000000
namespace Nk66
open PySem PySem.Spec L2 DL
theorem hs0_len {row : List Int} : (hs0 row).length = row.length := by simp [hs0]
theorem hs0_get {row : List Int} {x : Int} (h1 : 1 ≤ x) (h2 : x ≤ row.length) : (hs0 row).getD (x - 1).toNat 0 = (row.idxOf x : Nat) := by
  rw [getD_eq (by rw [hs0_len]; omega)]
  unfold hs0
  rw [List.getElem_map, List.getElem_range]
  rw [show (((x - 1).toNat : Nat) : Int) + 1 = x by omega]
theorem iabs0 : iabs 0 = 0 := rfl
theorem Good.start {n : Int} {row : List Int} {ps sr : List (Int × Int)} (ok : RowOk n row) (bk : BkOk n ps) (eq : ∀ x, x ∈ ps ↔ x ∈ sr) : Good n row (hs0 row) ps row (hs0 row) sr sr [] (List.replicate row.length 0) := by
  have hl := ok.len
  have h3 := ok.lo
  have lt : ∀ x : Int, 1 ≤ x → x ≤ n → row.idxOf x < row.length := fun x a b => List.idxOf_lt_length_of_mem (ok.has a b)
  refine ⟨ok, bk, eq, fun _ h => h, hs0_len, hs0_len, by simp, ?_, ?_, rfl, fun _ _ => rfl, ?_, ⟨[], rfl, by simp, rfl⟩⟩
  · intro x a b
    rw [hs0_get a (by omega)]
    have := lt x a b
    exact Int.emod_eq_of_lt (by omega) (by omega)
  · intro x a b
    rw [hs0_get a (by omega)]
    have := lt x a b
    rw [getD_eq (by simp; omega), List.getElem_replicate, Int.ediv_eq_zero_of_lt (by omega) (by omega)]
  · intro qs _ _
    have : come n (hs0 row) (hs0 row) qs = 0 := by
      have key : ∀ l : List (Int × Int), (l.map fun z => iabs (rnd (hs0 row) z.1 z.2 n - rnd (hs0 row) z.1 z.2 n)).sum = 0 := fun l => by
        induction l with
        | nil => rfl
        | cons y l ih => rw [List.map_cons, List.sum_cons, ih, Int.sub_self]; rfl
      exact key qs
    rw [this]
    simp
theorem Good.turn {n : Int} {row0 first row hs path over : List Int} {ps sr ev ps' sr' ev' : List (Int × Int)} (G : Good n row0 first ps row hs sr ev path over) (bk : BkOk n ps') (eq : ∀ x, x ∈ ps' ↔ x ∈ sr') (sub : ∀ x ∈ ev', x ∈ sr') (se : ∀ x ∈ ev', x ∈ ev) :
    Good n row0 first ps' row hs sr' ev' path over := ⟨G.rok, bk, eq, sub, G.hl, G.fl, G.ol, G.seat, G.tim, G.sum, fun z hz => G.evr z (se z hz), G.com, G.hist⟩
theorem Good.flen {n : Int} {row0 first row hs path over : List Int} {ps sr ev : List (Int × Int)} (G : Good n row0 first ps row hs sr ev path over) : (first.length : Int) = n := by rw [G.fl]; exact G.rok.len
theorem Good.hlen {n : Int} {row0 first row hs path over : List Int} {ps sr ev : List (Int × Int)} (G : Good n row0 first ps row hs sr ev path over) : (hs.length : Int) = n := by rw [G.hl]; exact G.rok.len
end Nk66

set_option Elab.async false
set_option linter.all false
set_option maxRecDepth 100000
set_option maxHeartbeats 4000000
namespace Nk66
open PySem PySem.Spec L2 DL
theorem perm_map {α β : Type} {f : α → β} {qs l : List β} (h : qs.Perm l) : ∀ xs : List α, l = xs.map f → ∃ ys : List α, qs = ys.map f ∧ ys.Perm xs := by
  induction h with
  | nil =>
    intro xs e
    cases xs with
    | nil => exact ⟨[], rfl, List.Perm.refl _⟩
    | cons _ _ => cases e
  | cons x p ih =>
    intro xs e
    cases xs with
    | nil => cases e
    | cons y xs =>
      rw [List.map_cons] at e
      cases e
      obtain ⟨ys, e1, e2⟩ := ih xs rfl
      exact ⟨y :: ys, by rw [e1]; rfl, e2.cons y⟩
  | swap x y l =>
    intro xs e
    match xs, e with
    | a :: b :: xs, e =>
      rw [List.map_cons, List.map_cons] at e
      cases e
      exact ⟨b :: a :: xs, rfl, List.Perm.swap _ _ _⟩
  | trans p1 p2 ih1 ih2 =>
    intro xs e
    obtain ⟨ys, e1, e2⟩ := ih2 xs e
    obtain ⟨zs, e3, e4⟩ := ih1 ys e1
    exact ⟨zs, e3, e4.trans e2⟩
theorem drawX {K : PySem.W.Frag} {a : Addr} {w c k n : Int} {F0 : Cells} {G : Cells → XQ} (h0 : 0 ≤ k) (h1 : k < 2 ^ 40) (h2 : 0 < n) (h3 : n < 1000)
    (q : ∀ (d : Nat) w' k', (d : Int) < n → k ≤ k' → k' ≤ k + 1 → G F0 (.int d) [(a, wl w' c k')]) :
    ∃ (is : List Nat) (M0 F : Cells), split is ((a, wl w c k) :: F0) = some (M0, F) ∧ sp_g_draw K [.ref a, .int n] M0 (G F) X0 :=
  ⟨[0], [(a, wl w c k)], F0, rfl, a, w, c, k, n, rfl, rfl, h0, h1, h2, h3, fun d w' k' e1 e2 e3 e4 => by
    obtain ⟨dn, rfl⟩ := Int.eq_ofNat_of_zero_le e1
    exact q dn w' k' e2 e3 e4⟩
theorem shufX {K : PySem.W.Frag} {a : Addr} {w c k : Int} {α : Type} {f : α → D} {xs : List α} {F0 : Cells} {G : Cells → XQ} (h0 : 0 ≤ k) (h1 : k + xs.length < 2 ^ 40) (h2 : xs.length < 900) (h3 : ∀ x, pl 7 (f x) = true)
    (q : ∀ (ys : List α) w' k', ys.Perm xs → k ≤ k' → k' ≤ k + xs.length → G F0 (.lst (ys.map f)) [(a, wl w' c k')]) :
    ∃ (is : List Nat) (M0 F : Cells), split is ((a, wl w c k) :: F0) = some (M0, F) ∧ sp_g_shuffled K [.ref a, .lst (xs.map f)] M0 (G F) X0 :=
  ⟨[0], [(a, wl w c k)], F0, rfl, a, w, c, k, xs.map f, rfl, rfl, h0, by simpa using h1, by simpa using h2, by simp [h3], fun qs w' k' e1 e2 e3 => by
    obtain ⟨ys, rfl, p⟩ := perm_map e1 xs rfl
    exact q ys w' k' p e2 (by simpa using e3)⟩
theorem BkOk.sub {n : Int} {ps qs : List (Int × Int)} (ok : BkOk n ps) (h : qs.Sublist ps) : BkOk n qs := ⟨ok.lo, ok.hi, ok.nd.sublist h, fun x hx => ok.mem x (h.subset hx)⟩
end Nk66

set_option Elab.async false
set_option linter.all false
set_option maxRecDepth 100000
set_option maxHeartbeats 4000000
namespace Nk66
open PySem PySem.Spec L2 DL
/-! changes done backwards -/
theorem swp_swp {row : List Int} {i : Nat} (hi : i < row.length) (h2 : 2 ≤ row.length) : swp (swp row i) i = row := by
  refine List.ext_getElem (by rw [swp_len, swp_len]) fun k h1 h3 => ?_
  rw [← getD_eq (z := 0) h1, ← getD_eq (z := 0) h3, swp_get (by rw [swp_len]; exact h3), swp_len, swp_get (sg_lt hi h3), sg_sg hi h2]
theorem lft_get {n : Int} {row hs : List Int} {i : Nat} (ok : RowOk n row) (hl : hs.length = row.length) (hi : i < row.length) {x : Int} (h1 : 1 ≤ x) (h2 : x ≤ n) :
    (lft row hs i).getD (x - 1).toNat 0 = hs.getD (x - 1).toNat 0 + dlt (row.getD i 0) (row.getD ((i + 1) % row.length) 0) x := by
  have hl2 := ok.len
  have h3 := ok.lo
  have hj : (i + 1) % row.length < row.length := Nat.mod_lt _ (by omega)
  have mp := ok.mem _ (DL.getD_mem (z := 0) hi)
  have mq := ok.mem _ (DL.getD_mem (z := 0) hj)
  have hne : row.getD i 0 ≠ row.getD ((i + 1) % row.length) 0 := fun e => by
    have := nd_inj ok.nd hi hj e
    rw [next_mod hi] at this
    split at this <;> omega
  unfold lft
  exact two_set (by rw [hl]; exact hl2) mp mq hne h1 h2
theorem lft_lft {n : Int} {row hs : List Int} {i : Nat} (ok : RowOk n row) (hl : hs.length = row.length) (hi : i < row.length) : lft (swp row i) (lft row hs i) i = hs := by
  have hl2 := ok.len
  have h3 := ok.lo
  have hj : (i + 1) % row.length < row.length := Nat.mod_lt _ (by omega)
  refine List.ext_getElem (by rw [lft_len, lft_len]) fun k h1 h4 => ?_
  have e := lft_get (swp_ok ok hi) (hs := lft row hs i) (by rw [lft_len, swp_len]; exact hl) (by rw [swp_len]; exact hi) (x := (k : Int) + 1) (by omega) (by omega)
  have e2 := lft_get ok hl hi (x := (k : Int) + 1) (by omega) (by omega)
  rw [show ((k : Int) + 1 - 1).toNat = k by omega] at e e2
  rw [← getD_eq (z := 0) h1, ← getD_eq (z := 0) h4, e, e2, swp_len, swp_get hi, swp_get hj]
  have s1 : sg i row.length i = (i + 1) % row.length := by
    unfold sg
    rw [if_neg (fun z => by rw [next_mod hi] at z; split at z <;> omega), if_pos rfl]
  have s2 : sg i row.length ((i + 1) % row.length) = i := by unfold sg; rw [if_pos rfl]
  rw [s1, s2]
  have hne : row.getD i 0 ≠ row.getD ((i + 1) % row.length) 0 := fun e => by
    have := nd_inj ok.nd hi hj e
    rw [next_mod hi] at this
    split at this <;> omega
  generalize row.getD i 0 = p at *
  generalize row.getD ((i + 1) % row.length) 0 = q at *
  unfold dlt
  (repeat' split) <;> omega
theorem fold_ok {n : Int} {row hs : List Int} (ok : RowOk n row) (hl : hs.length = row.length) : ∀ P : List Nat, (∀ i ∈ P, i < row.length) → RowOk n (P.foldl chg (row, hs)).1 ∧ (P.foldl chg (row, hs)).1.length = row.length ∧ (P.foldl chg (row, hs)).2.length = row.length := by
  intro P
  induction P generalizing row hs with
  | nil => intro _; exact ⟨ok, rfl, hl⟩
  | cons i P ih =>
    intro h
    have hi := h i List.mem_cons_self
    have := ih (row := swp row i) (hs := lft row hs i) (swp_ok ok hi) (by rw [lft_len, swp_len]; exact hl) (fun j hj => by rw [swp_len]; exact h j (List.mem_cons_of_mem _ hj))
    rw [swp_len] at this
    exact this
def toZero : D → D
  | .int _ => .int 0
  | d => d
theorem rng_zero {lo hi : Int} {n : Nat} (h : (hi - lo).toNat = n) : ([] ++ (rng lo hi).map toZero) = IL (List.replicate n 0) := by
  unfold rng
  rw [h, List.nil_append, List.map_map]
  refine List.ext_getElem (by simp) fun k h1 h2 => by simp [toZero]
theorem rep_over {n : Nat} : (List.replicate n [D.int 0]).flatten = IL (List.replicate n 0) := by
  induction n with
  | zero => rfl
  | succ n ih => rw [List.replicate_succ, List.replicate_succ, List.flatten_cons, ih]; rfl
end Nk66

set_option Elab.async false
set_option linter.all false
set_option maxRecDepth 100000
set_option maxHeartbeats 4000000
namespace Nk66
open PySem PySem.Spec L2 DL
theorem len_g_well {K : PySem.W.Frag} : ∀ es M Q E, sp_g_well K es M Q E → es.length = 1 := by
  rintro _ _ _ _ ⟨_, rfl, _⟩; rfl
theorem rd_g_well {K : PySem.W.Frag} : ∀ es M Q E, sp_g_well K es M Q E → t_g_well K { nx := fun _ M => Rtn Q .non M, rt := Rtn Q } (startD nm_g_well es) M := by
  rintro _ M Q _ ⟨c, rfl, rfl, q⟩
  repeat (first | ((conv => whnf); refine ⟨_, rfl, ?_⟩) | ((conv => whnf); refine ⟨_, _, rfl, ?_⟩) | ((conv => whnf); refine ⟨_, _, _, rfl, ?_⟩) | ((conv => whnf); refine ⟨_, _, _, _, rfl, ?_⟩) | ((conv => whnf); refine DL.exn 0 ⟨_, rfl, ?_⟩) | ((conv => whnf); refine DL.exn 1 ⟨_, rfl, ?_⟩) | ((conv => whnf); refine DL.exn 2 ⟨_, rfl, ?_⟩) | ((conv => whnf); refine DL.exn 3 ⟨_, rfl, ?_⟩) | ((conv => whnf); refine DL.exn 4 ⟨_, rfl, ?_⟩) | ((conv => whnf); refine DL.exn 5 ⟨_, rfl, ?_⟩) | ((conv => whnf); refine DL.exn 0 ⟨_, _, rfl, rfl, ?_⟩) | ((conv => whnf); refine DL.exn 1 ⟨_, _, rfl, rfl, ?_⟩) | ((conv => whnf); refine DL.exn 2 ⟨_, _, rfl, rfl, ?_⟩) | ((conv => whnf); refine DL.exn 3 ⟨_, _, rfl, rfl, ?_⟩) | ((conv => whnf); refine DL.exn 4 ⟨_, _, rfl, rfl, ?_⟩) | ((conv => whnf); refine DL.exn 5 ⟨_, _, rfl, rfl, ?_⟩) | ((conv => whnf); refine DL.exn 0 ⟨_, _, rfl, ?_⟩) | ((conv => whnf); refine DL.exn 1 ⟨_, _, rfl, ?_⟩) | ((conv => whnf); refine DL.exn 2 ⟨_, _, rfl, ?_⟩) | ((conv => whnf); refine DL.exn 3 ⟨_, _, rfl, ?_⟩) | ((conv => whnf); refine DL.exn 4 ⟨_, _, rfl, ?_⟩) | ((conv => whnf); refine DL.exn 5 ⟨_, _, rfl, ?_⟩) | ((conv => whnf); refine DL.exn 0 ⟨_, _, _, rfl, rfl, ?_⟩) | ((conv => whnf); refine DL.exn 1 ⟨_, _, _, rfl, rfl, ?_⟩) | ((conv => whnf); refine DL.exn 2 ⟨_, _, _, rfl, rfl, ?_⟩) | ((conv => whnf); refine DL.exn 3 ⟨_, _, _, rfl, rfl, ?_⟩) | ((conv => whnf); refine DL.exn 4 ⟨_, _, _, rfl, rfl, ?_⟩) | ((conv => whnf); refine DL.exn 5 ⟨_, _, _, rfl, rfl, ?_⟩) | ((conv => whnf); refine Or.inl ⟨by decide, by decide, ?_⟩) | ((conv => whnf); refine Or.inr ⟨_, rfl, by decide, ?_⟩) | ((conv => whnf); refine And.intro (by first | assumption | rfl | decide | omega | exact ⟨rfl, by decide⟩ | exact DL.pl_ints | exact DL.pl_pairs | exact DL.pl_pair | exact Nat.le_of_ble_eq_true rfl | exact ⟨rfl, rfl⟩ | exact small_ok (by omega) (by omega) | exact ⟨small_ok (by omega) (by omega), small_ok (by omega) (by omega)⟩ | exact cdiv_ok (by omega) (by omega) | exact cpow_ok (by omega) (by omega) (by omega) (by omega) | decide +kernel) ?_) | (refine DL.ifF (by first | assumption | decide | omega | (simp; omega) | (simp; done) | (simp [*]; omega) | (simp [*]; done) | (simp [DL.beq_ints, DL.beq_pairs, *]; done) | fail) ?_) | (refine DL.ifT (by first | assumption | decide | omega | (simp; omega) | (simp; done) | (simp [*]; omega) | (simp [*]; done) | (simp [DL.beq_ints, DL.beq_pairs, *]; done) | fail) ?_) | fail)
  intro a
  exact rtn_all (q a)
theorem len_g_kept {K : PySem.W.Frag} : ∀ es M Q E, sp_g_kept K es M Q E → es.length = 3 := by
  rintro _ _ _ _ ⟨_, _, _, _, _, _, _, _, _, _, _, _, _, _, _, _, rfl, _⟩; rfl
theorem rd_g_kept {K : PySem.W.Frag} : ∀ es M Q E, sp_g_kept K es M Q E → t_g_kept K { nx := fun _ M => Rtn Q .non M, rt := Rtn Q } (startD nm_g_kept es) M := by
  rintro _ M Q _ ⟨t, cc, m, pa, ov, n, row0, first, ps, row, hs, sr, ev, path, over, turns, rfl, rfl, G, hz, hz2, q⟩
  have hn := G.rok.len
  have h3 := G.rok.lo
  have h9 := G.rok.hi
  have hhl := G.hlen
  have hfl := G.flen
  repeat (first | ((conv => whnf); refine ⟨_, rfl, ?_⟩) | ((conv => whnf); refine ⟨_, _, rfl, ?_⟩) | ((conv => whnf); refine ⟨_, _, _, rfl, ?_⟩) | ((conv => whnf); refine ⟨_, _, _, _, rfl, ?_⟩) | ((conv => whnf); refine DL.exn 0 ⟨_, rfl, ?_⟩) | ((conv => whnf); refine DL.exn 1 ⟨_, rfl, ?_⟩) | ((conv => whnf); refine DL.exn 2 ⟨_, rfl, ?_⟩) | ((conv => whnf); refine DL.exn 3 ⟨_, rfl, ?_⟩) | ((conv => whnf); refine DL.exn 4 ⟨_, rfl, ?_⟩) | ((conv => whnf); refine DL.exn 5 ⟨_, rfl, ?_⟩) | ((conv => whnf); refine DL.exn 0 ⟨_, _, rfl, rfl, ?_⟩) | ((conv => whnf); refine DL.exn 1 ⟨_, _, rfl, rfl, ?_⟩) | ((conv => whnf); refine DL.exn 2 ⟨_, _, rfl, rfl, ?_⟩) | ((conv => whnf); refine DL.exn 3 ⟨_, _, rfl, rfl, ?_⟩) | ((conv => whnf); refine DL.exn 4 ⟨_, _, rfl, rfl, ?_⟩) | ((conv => whnf); refine DL.exn 5 ⟨_, _, rfl, rfl, ?_⟩) | ((conv => whnf); refine DL.exn 0 ⟨_, _, rfl, ?_⟩) | ((conv => whnf); refine DL.exn 1 ⟨_, _, rfl, ?_⟩) | ((conv => whnf); refine DL.exn 2 ⟨_, _, rfl, ?_⟩) | ((conv => whnf); refine DL.exn 3 ⟨_, _, rfl, ?_⟩) | ((conv => whnf); refine DL.exn 4 ⟨_, _, rfl, ?_⟩) | ((conv => whnf); refine DL.exn 5 ⟨_, _, rfl, ?_⟩) | ((conv => whnf); refine DL.exn 0 ⟨_, _, _, rfl, rfl, ?_⟩) | ((conv => whnf); refine DL.exn 1 ⟨_, _, _, rfl, rfl, ?_⟩) | ((conv => whnf); refine DL.exn 2 ⟨_, _, _, rfl, rfl, ?_⟩) | ((conv => whnf); refine DL.exn 3 ⟨_, _, _, rfl, rfl, ?_⟩) | ((conv => whnf); refine DL.exn 4 ⟨_, _, _, rfl, rfl, ?_⟩) | ((conv => whnf); refine DL.exn 5 ⟨_, _, _, rfl, rfl, ?_⟩) | ((conv => whnf); refine Or.inl ⟨by decide, by decide, ?_⟩) | ((conv => whnf); refine Or.inr ⟨_, rfl, by decide, ?_⟩) | ((conv => whnf); refine And.intro (by first | assumption | rfl | decide | omega | exact ⟨rfl, by decide⟩ | exact DL.pl_ints | exact DL.pl_pairs | exact DL.pl_pair | exact Nat.le_of_ble_eq_true rfl | exact ⟨rfl, rfl⟩ | exact small_ok (by omega) (by omega) | exact ⟨small_ok (by omega) (by omega), small_ok (by omega) (by omega)⟩ | exact cdiv_ok (by omega) (by omega) | exact cpow_ok (by omega) (by omega) (by omega) (by omega) | decide +kernel) ?_) | (refine DL.ifF (by first | assumption | decide | omega | (simp; omega) | (simp; done) | (simp [*]; omega) | (simp [*]; done) | (simp [DL.beq_ints, DL.beq_pairs, *]; done) | fail) ?_) | (refine DL.ifT (by first | assumption | decide | omega | (simp; omega) | (simp; done) | (simp [*]; omega) | (simp [*]; done) | (simp [DL.beq_ints, DL.beq_pairs, *]; done) | fail) ?_) | fail)
  refine call_at (M0 := tb K t cc n ps row (path.length : Nat) hs) (F := mm m pa ov row sr ev path over turns) [0, 0] rfl ⟨t, cc, n, ps, row, _, hs, rfl, rfl, ?_⟩
  repeat (first | ((conv => whnf); refine ⟨_, rfl, ?_⟩) | ((conv => whnf); refine ⟨_, _, rfl, ?_⟩) | ((conv => whnf); refine ⟨_, _, _, rfl, ?_⟩) | ((conv => whnf); refine ⟨_, _, _, _, rfl, ?_⟩) | ((conv => whnf); refine DL.exn 0 ⟨_, rfl, ?_⟩) | ((conv => whnf); refine DL.exn 1 ⟨_, rfl, ?_⟩) | ((conv => whnf); refine DL.exn 2 ⟨_, rfl, ?_⟩) | ((conv => whnf); refine DL.exn 3 ⟨_, rfl, ?_⟩) | ((conv => whnf); refine DL.exn 4 ⟨_, rfl, ?_⟩) | ((conv => whnf); refine DL.exn 5 ⟨_, rfl, ?_⟩) | ((conv => whnf); refine DL.exn 0 ⟨_, _, rfl, rfl, ?_⟩) | ((conv => whnf); refine DL.exn 1 ⟨_, _, rfl, rfl, ?_⟩) | ((conv => whnf); refine DL.exn 2 ⟨_, _, rfl, rfl, ?_⟩) | ((conv => whnf); refine DL.exn 3 ⟨_, _, rfl, rfl, ?_⟩) | ((conv => whnf); refine DL.exn 4 ⟨_, _, rfl, rfl, ?_⟩) | ((conv => whnf); refine DL.exn 5 ⟨_, _, rfl, rfl, ?_⟩) | ((conv => whnf); refine DL.exn 0 ⟨_, _, rfl, ?_⟩) | ((conv => whnf); refine DL.exn 1 ⟨_, _, rfl, ?_⟩) | ((conv => whnf); refine DL.exn 2 ⟨_, _, rfl, ?_⟩) | ((conv => whnf); refine DL.exn 3 ⟨_, _, rfl, ?_⟩) | ((conv => whnf); refine DL.exn 4 ⟨_, _, rfl, ?_⟩) | ((conv => whnf); refine DL.exn 5 ⟨_, _, rfl, ?_⟩) | ((conv => whnf); refine DL.exn 0 ⟨_, _, _, rfl, rfl, ?_⟩) | ((conv => whnf); refine DL.exn 1 ⟨_, _, _, rfl, rfl, ?_⟩) | ((conv => whnf); refine DL.exn 2 ⟨_, _, _, rfl, rfl, ?_⟩) | ((conv => whnf); refine DL.exn 3 ⟨_, _, _, rfl, rfl, ?_⟩) | ((conv => whnf); refine DL.exn 4 ⟨_, _, _, rfl, rfl, ?_⟩) | ((conv => whnf); refine DL.exn 5 ⟨_, _, _, rfl, rfl, ?_⟩) | ((conv => whnf); refine Or.inl ⟨by decide, by decide, ?_⟩) | ((conv => whnf); refine Or.inr ⟨_, rfl, by decide, ?_⟩) | ((conv => whnf); refine And.intro (by first | assumption | rfl | decide | omega | exact ⟨rfl, by decide⟩ | exact DL.pl_ints | exact DL.pl_pairs | exact DL.pl_pair | exact Nat.le_of_ble_eq_true rfl | exact ⟨rfl, rfl⟩ | exact small_ok (by omega) (by omega) | exact ⟨small_ok (by omega) (by omega), small_ok (by omega) (by omega)⟩ | exact cdiv_ok (by omega) (by omega) | exact cpow_ok (by omega) (by omega) (by omega) (by omega) | decide +kernel) ?_) | (refine DL.ifF (by first | assumption | decide | omega | (simp; omega) | (simp; done) | (simp [*]; omega) | (simp [*]; done) | (simp [DL.beq_ints, DL.beq_pairs, *]; done) | fail) ?_) | (refine DL.ifT (by first | assumption | decide | omega | (simp; omega) | (simp; done) | (simp [*]; omega) | (simp [*]; done) | (simp [DL.beq_ints, DL.beq_pairs, *]; done) | fail) ?_) | fail)
  (conv => whnf)
  have eI : ∀ x : Int, 1 ≤ x → x < n + 1 → ((x - 1).toNat < hs.length) := fun x a b => by omega
  have rI : ((IL row).length : Int) = n := by simp [hn]
  refine ⟨by simp; omega, cl_map (fun d => match d with | .int i => .int (i % n) | d => d) (fun d hd k hk => ?_) ?_⟩
  · obtain ⟨i, hi, rfl⟩ := List.mem_map.mp hd
    repeat (first | ((conv => whnf); refine ⟨_, rfl, ?_⟩) | ((conv => whnf); refine ⟨_, _, rfl, ?_⟩) | ((conv => whnf); refine ⟨_, _, _, rfl, ?_⟩) | ((conv => whnf); refine ⟨_, _, _, _, rfl, ?_⟩) | ((conv => whnf); refine DL.exn 0 ⟨_, rfl, ?_⟩) | ((conv => whnf); refine DL.exn 1 ⟨_, rfl, ?_⟩) | ((conv => whnf); refine DL.exn 2 ⟨_, rfl, ?_⟩) | ((conv => whnf); refine DL.exn 3 ⟨_, rfl, ?_⟩) | ((conv => whnf); refine DL.exn 4 ⟨_, rfl, ?_⟩) | ((conv => whnf); refine DL.exn 5 ⟨_, rfl, ?_⟩) | ((conv => whnf); refine DL.exn 0 ⟨_, _, rfl, rfl, ?_⟩) | ((conv => whnf); refine DL.exn 1 ⟨_, _, rfl, rfl, ?_⟩) | ((conv => whnf); refine DL.exn 2 ⟨_, _, rfl, rfl, ?_⟩) | ((conv => whnf); refine DL.exn 3 ⟨_, _, rfl, rfl, ?_⟩) | ((conv => whnf); refine DL.exn 4 ⟨_, _, rfl, rfl, ?_⟩) | ((conv => whnf); refine DL.exn 5 ⟨_, _, rfl, rfl, ?_⟩) | ((conv => whnf); refine DL.exn 0 ⟨_, _, rfl, ?_⟩) | ((conv => whnf); refine DL.exn 1 ⟨_, _, rfl, ?_⟩) | ((conv => whnf); refine DL.exn 2 ⟨_, _, rfl, ?_⟩) | ((conv => whnf); refine DL.exn 3 ⟨_, _, rfl, ?_⟩) | ((conv => whnf); refine DL.exn 4 ⟨_, _, rfl, ?_⟩) | ((conv => whnf); refine DL.exn 5 ⟨_, _, rfl, ?_⟩) | ((conv => whnf); refine DL.exn 0 ⟨_, _, _, rfl, rfl, ?_⟩) | ((conv => whnf); refine DL.exn 1 ⟨_, _, _, rfl, rfl, ?_⟩) | ((conv => whnf); refine DL.exn 2 ⟨_, _, _, rfl, rfl, ?_⟩) | ((conv => whnf); refine DL.exn 3 ⟨_, _, _, rfl, rfl, ?_⟩) | ((conv => whnf); refine DL.exn 4 ⟨_, _, _, rfl, rfl, ?_⟩) | ((conv => whnf); refine DL.exn 5 ⟨_, _, _, rfl, rfl, ?_⟩) | ((conv => whnf); refine Or.inl ⟨by decide, by decide, ?_⟩) | ((conv => whnf); refine Or.inr ⟨_, rfl, by decide, ?_⟩) | ((conv => whnf); refine And.intro (by first | assumption | rfl | decide | omega | exact ⟨rfl, by decide⟩ | exact DL.pl_ints | exact DL.pl_pairs | exact DL.pl_pair | exact Nat.le_of_ble_eq_true rfl | exact ⟨rfl, rfl⟩ | exact small_ok (by omega) (by omega) | exact ⟨small_ok (by omega) (by omega), small_ok (by omega) (by omega)⟩ | exact cdiv_ok (by omega) (by omega) | exact cpow_ok (by omega) (by omega) (by omega) (by omega) | decide +kernel) ?_) | (refine DL.ifF (by first | assumption | decide | omega | (simp; omega) | (simp; done) | (simp [*]; omega) | (simp [*]; done) | (simp [DL.beq_ints, DL.beq_pairs, *]; done) | fail) ?_) | (refine DL.ifT (by first | assumption | decide | omega | (simp; omega) | (simp; done) | (simp [*]; omega) | (simp [*]; done) | (simp [DL.beq_ints, DL.beq_pairs, *]; done) | fail) ?_) | fail)
    simp only [xSeq, xSet, xIfS, xNext, xRet, xRetN, xDrop, xNever, xBreak, xCont, xOp, xB, blK, xVar, xC, xTru, truK, xAnd, xOr, xNot, xAndV, xOrV, xNotV, xIf, xNil, xCons, xTup, xLst, xLstM, xCall, xCallP, xCallK, gSel, xMeth, xMethP, insK, xMake, xMakeM, xFld, fldK, getK, rdAdd, rdI, rdI0, rdB0, rdMul, rdEqA, viewK, ownK, seqK, lstK, tupK, tupxK, ixK, rdIsN, isN, rdIn, xChain, xUn, xgName, xgNil, xgCons, xgTup, xgSub, setL, xAsg, xPar, xAug, xSetF, PutF, xAugF, xiSeq, xiTup, xiR1, xiR2, xiEnum, xiZip, xFor, xLoop, xFrz, xFz, xYes, xLc, xLcMA, xCL, xCB, rdLen, rdSum, rdAny, rdAll, rdC2, rdC1, rdInt, rdList, rdListM, rdTup, rdTupX, rdSortI, rdSortP, rdIsi, xML, rdAppend, rdExtend, rdPopAt, rdPop, rdIndexI, xTupIx, rdIx, xoN, xoS, xSl, xSlM, xRev, xLR, xLRM, xDGet, dkK, xDPut, xVals, xDisp, xAugL, xLenSet, xSlS, scrK, startD, wipeD, List.getElem?_cons_zero, List.getElem?_cons_succ, List.set_cons_zero, List.set_cons_succ, List.map_cons, List.map_nil, List.cons_append, List.nil_append, List.append_nil, List.length_cons, List.length_nil, List.replicate_succ, List.replicate_zero, Nat.reduceSub, Nat.reduceAdd, Nat.reduceSubDiff, Nat.reduceLeDiff, decide_eq_true_eq, Bool.and_eq_true, ite_true, reduceIte, reduceCtorEq, true_and, and_true, beq_int, beq_pair, beq_ints, beq_pairs, any_il, any_pl, pl_int, pl_ints, pl_pair, pl_pairs, all_il, all_pl, tyD, List.length_map]
    rw [hn]
    exact hk
  have e1 : [] ++ (IL hs).map (fun d => match d with | .int i => .int (i % n) | d => d) = IL (hs.map fun h => h % n) := by simp [IL, Function.comp_def]
  rw [e1]
  repeat (first | ((conv => whnf); refine ⟨_, rfl, ?_⟩) | ((conv => whnf); refine ⟨_, _, rfl, ?_⟩) | ((conv => whnf); refine ⟨_, _, _, rfl, ?_⟩) | ((conv => whnf); refine ⟨_, _, _, _, rfl, ?_⟩) | ((conv => whnf); refine DL.exn 0 ⟨_, rfl, ?_⟩) | ((conv => whnf); refine DL.exn 1 ⟨_, rfl, ?_⟩) | ((conv => whnf); refine DL.exn 2 ⟨_, rfl, ?_⟩) | ((conv => whnf); refine DL.exn 3 ⟨_, rfl, ?_⟩) | ((conv => whnf); refine DL.exn 4 ⟨_, rfl, ?_⟩) | ((conv => whnf); refine DL.exn 5 ⟨_, rfl, ?_⟩) | ((conv => whnf); refine DL.exn 0 ⟨_, _, rfl, rfl, ?_⟩) | ((conv => whnf); refine DL.exn 1 ⟨_, _, rfl, rfl, ?_⟩) | ((conv => whnf); refine DL.exn 2 ⟨_, _, rfl, rfl, ?_⟩) | ((conv => whnf); refine DL.exn 3 ⟨_, _, rfl, rfl, ?_⟩) | ((conv => whnf); refine DL.exn 4 ⟨_, _, rfl, rfl, ?_⟩) | ((conv => whnf); refine DL.exn 5 ⟨_, _, rfl, rfl, ?_⟩) | ((conv => whnf); refine DL.exn 0 ⟨_, _, rfl, ?_⟩) | ((conv => whnf); refine DL.exn 1 ⟨_, _, rfl, ?_⟩) | ((conv => whnf); refine DL.exn 2 ⟨_, _, rfl, ?_⟩) | ((conv => whnf); refine DL.exn 3 ⟨_, _, rfl, ?_⟩) | ((conv => whnf); refine DL.exn 4 ⟨_, _, rfl, ?_⟩) | ((conv => whnf); refine DL.exn 5 ⟨_, _, rfl, ?_⟩) | ((conv => whnf); refine DL.exn 0 ⟨_, _, _, rfl, rfl, ?_⟩) | ((conv => whnf); refine DL.exn 1 ⟨_, _, _, rfl, rfl, ?_⟩) | ((conv => whnf); refine DL.exn 2 ⟨_, _, _, rfl, rfl, ?_⟩) | ((conv => whnf); refine DL.exn 3 ⟨_, _, _, rfl, rfl, ?_⟩) | ((conv => whnf); refine DL.exn 4 ⟨_, _, _, rfl, rfl, ?_⟩) | ((conv => whnf); refine DL.exn 5 ⟨_, _, _, rfl, rfl, ?_⟩) | ((conv => whnf); refine Or.inl ⟨by decide, by decide, ?_⟩) | ((conv => whnf); refine Or.inr ⟨_, rfl, by decide, ?_⟩) | ((conv => whnf); refine And.intro (by first | assumption | rfl | decide | omega | exact ⟨rfl, by decide⟩ | exact DL.pl_ints | exact DL.pl_pairs | exact DL.pl_pair | exact Nat.le_of_ble_eq_true rfl | exact ⟨rfl, rfl⟩ | exact small_ok (by omega) (by omega) | exact ⟨small_ok (by omega) (by omega), small_ok (by omega) (by omega)⟩ | exact cdiv_ok (by omega) (by omega) | exact cpow_ok (by omega) (by omega) (by omega) (by omega) | decide +kernel) ?_) | (refine DL.ifF (by first | assumption | decide | omega | (simp; omega) | (simp; done) | (simp [*]; omega) | (simp [*]; done) | (simp [DL.beq_ints, DL.beq_pairs, *]; done) | fail) ?_) | (refine DL.ifT (by first | assumption | decide | omega | (simp; omega) | (simp; done) | (simp [*]; omega) | (simp [*]; done) | (simp [DL.beq_ints, DL.beq_pairs, *]; done) | fail) ?_) | fail)
  refine ⟨by rw [rng_len]; show (((IL row).length : Int) + 1 - 1).toNat ≤ _; omega, ?_⟩
  refine cl_map (fun d => match d with | .int p => .int (row.idxOf p : Nat) | d => d) (fun d hd k hk => ?_) ?_
  · obtain ⟨p, rfl, a, b⟩ := rng_mem hd
    have b : p < ((IL row).length : Int) + 1 := b
    repeat (first | ((conv => whnf); refine ⟨_, rfl, ?_⟩) | ((conv => whnf); refine ⟨_, _, rfl, ?_⟩) | ((conv => whnf); refine ⟨_, _, _, rfl, ?_⟩) | ((conv => whnf); refine ⟨_, _, _, _, rfl, ?_⟩) | ((conv => whnf); refine DL.exn 0 ⟨_, rfl, ?_⟩) | ((conv => whnf); refine DL.exn 1 ⟨_, rfl, ?_⟩) | ((conv => whnf); refine DL.exn 2 ⟨_, rfl, ?_⟩) | ((conv => whnf); refine DL.exn 3 ⟨_, rfl, ?_⟩) | ((conv => whnf); refine DL.exn 4 ⟨_, rfl, ?_⟩) | ((conv => whnf); refine DL.exn 5 ⟨_, rfl, ?_⟩) | ((conv => whnf); refine DL.exn 0 ⟨_, _, rfl, rfl, ?_⟩) | ((conv => whnf); refine DL.exn 1 ⟨_, _, rfl, rfl, ?_⟩) | ((conv => whnf); refine DL.exn 2 ⟨_, _, rfl, rfl, ?_⟩) | ((conv => whnf); refine DL.exn 3 ⟨_, _, rfl, rfl, ?_⟩) | ((conv => whnf); refine DL.exn 4 ⟨_, _, rfl, rfl, ?_⟩) | ((conv => whnf); refine DL.exn 5 ⟨_, _, rfl, rfl, ?_⟩) | ((conv => whnf); refine DL.exn 0 ⟨_, _, rfl, ?_⟩) | ((conv => whnf); refine DL.exn 1 ⟨_, _, rfl, ?_⟩) | ((conv => whnf); refine DL.exn 2 ⟨_, _, rfl, ?_⟩) | ((conv => whnf); refine DL.exn 3 ⟨_, _, rfl, ?_⟩) | ((conv => whnf); refine DL.exn 4 ⟨_, _, rfl, ?_⟩) | ((conv => whnf); refine DL.exn 5 ⟨_, _, rfl, ?_⟩) | ((conv => whnf); refine DL.exn 0 ⟨_, _, _, rfl, rfl, ?_⟩) | ((conv => whnf); refine DL.exn 1 ⟨_, _, _, rfl, rfl, ?_⟩) | ((conv => whnf); refine DL.exn 2 ⟨_, _, _, rfl, rfl, ?_⟩) | ((conv => whnf); refine DL.exn 3 ⟨_, _, _, rfl, rfl, ?_⟩) | ((conv => whnf); refine DL.exn 4 ⟨_, _, _, rfl, rfl, ?_⟩) | ((conv => whnf); refine DL.exn 5 ⟨_, _, _, rfl, rfl, ?_⟩) | ((conv => whnf); refine Or.inl ⟨by decide, by decide, ?_⟩) | ((conv => whnf); refine Or.inr ⟨_, rfl, by decide, ?_⟩) | ((conv => whnf); refine And.intro (by first | assumption | rfl | decide | omega | exact ⟨rfl, by decide⟩ | exact DL.pl_ints | exact DL.pl_pairs | exact DL.pl_pair | exact Nat.le_of_ble_eq_true rfl | exact ⟨rfl, rfl⟩ | exact small_ok (by omega) (by omega) | exact ⟨small_ok (by omega) (by omega), small_ok (by omega) (by omega)⟩ | exact cdiv_ok (by omega) (by omega) | exact cpow_ok (by omega) (by omega) (by omega) (by omega) | decide +kernel) ?_) | (refine DL.ifF (by first | assumption | decide | omega | (simp; omega) | (simp; done) | (simp [*]; omega) | (simp [*]; done) | (simp [DL.beq_ints, DL.beq_pairs, *]; done) | fail) ?_) | (refine DL.ifT (by first | assumption | decide | omega | (simp; omega) | (simp; done) | (simp [*]; omega) | (simp [*]; done) | (simp [DL.beq_ints, DL.beq_pairs, *]; done) | fail) ?_) | fail)
    (conv => whnf)
    exact ⟨row, p, rfl, rfl, G.rok.has (by omega) (by omega), hk⟩
  have e2 : ([] ++ (rng 1 (((IL row).length : Int) + 1)).map (fun d => match d with | .int p => .int (row.idxOf p : Nat) | d => d)) = IL ((rngI 1 (n + 1)).map fun p => ((row.idxOf p : Nat) : Int)) := by
    rw [rI, rng_il]; simp [IL, Function.comp_def]
  have e3 : (hs.map fun h => h % n) = (rngI 1 (n + 1)).map fun p => ((row.idxOf p : Nat) : Int) := by
    refine List.ext_getElem (by simp [len_rngI]; omega) fun k h1 h2 => ?_
    rw [List.getElem_map, List.getElem_map]
    have hk : k < hs.length := by simpa using h1
    have hr : (rngI 1 (n + 1))[k]'(by simpa using h2) = (k : Int) + 1 := by simp [rngI]; omega
    rw [hr]
    have := G.seat ((k : Int) + 1) (by omega) (by omega)
    rw [show ((k : Int) + 1 - 1).toNat = k by omega, getD_eq hk] at this
    exact this
  rw [e2, ← e3]
  have hsum := G.sum
  repeat (first | ((conv => whnf); refine ⟨_, rfl, ?_⟩) | ((conv => whnf); refine ⟨_, _, rfl, ?_⟩) | ((conv => whnf); refine ⟨_, _, _, rfl, ?_⟩) | ((conv => whnf); refine ⟨_, _, _, _, rfl, ?_⟩) | ((conv => whnf); refine DL.exn 0 ⟨_, rfl, ?_⟩) | ((conv => whnf); refine DL.exn 1 ⟨_, rfl, ?_⟩) | ((conv => whnf); refine DL.exn 2 ⟨_, rfl, ?_⟩) | ((conv => whnf); refine DL.exn 3 ⟨_, rfl, ?_⟩) | ((conv => whnf); refine DL.exn 4 ⟨_, rfl, ?_⟩) | ((conv => whnf); refine DL.exn 5 ⟨_, rfl, ?_⟩) | ((conv => whnf); refine DL.exn 0 ⟨_, _, rfl, rfl, ?_⟩) | ((conv => whnf); refine DL.exn 1 ⟨_, _, rfl, rfl, ?_⟩) | ((conv => whnf); refine DL.exn 2 ⟨_, _, rfl, rfl, ?_⟩) | ((conv => whnf); refine DL.exn 3 ⟨_, _, rfl, rfl, ?_⟩) | ((conv => whnf); refine DL.exn 4 ⟨_, _, rfl, rfl, ?_⟩) | ((conv => whnf); refine DL.exn 5 ⟨_, _, rfl, rfl, ?_⟩) | ((conv => whnf); refine DL.exn 0 ⟨_, _, rfl, ?_⟩) | ((conv => whnf); refine DL.exn 1 ⟨_, _, rfl, ?_⟩) | ((conv => whnf); refine DL.exn 2 ⟨_, _, rfl, ?_⟩) | ((conv => whnf); refine DL.exn 3 ⟨_, _, rfl, ?_⟩) | ((conv => whnf); refine DL.exn 4 ⟨_, _, rfl, ?_⟩) | ((conv => whnf); refine DL.exn 5 ⟨_, _, rfl, ?_⟩) | ((conv => whnf); refine DL.exn 0 ⟨_, _, _, rfl, rfl, ?_⟩) | ((conv => whnf); refine DL.exn 1 ⟨_, _, _, rfl, rfl, ?_⟩) | ((conv => whnf); refine DL.exn 2 ⟨_, _, _, rfl, rfl, ?_⟩) | ((conv => whnf); refine DL.exn 3 ⟨_, _, _, rfl, rfl, ?_⟩) | ((conv => whnf); refine DL.exn 4 ⟨_, _, _, rfl, rfl, ?_⟩) | ((conv => whnf); refine DL.exn 5 ⟨_, _, _, rfl, rfl, ?_⟩) | ((conv => whnf); refine Or.inl ⟨by decide, by decide, ?_⟩) | ((conv => whnf); refine Or.inr ⟨_, rfl, by decide, ?_⟩) | ((conv => whnf); refine And.intro (by first | assumption | rfl | decide | omega | exact ⟨rfl, by decide⟩ | exact DL.pl_ints | exact DL.pl_pairs | exact DL.pl_pair | exact Nat.le_of_ble_eq_true rfl | exact ⟨rfl, rfl⟩ | exact small_ok (by omega) (by omega) | exact ⟨small_ok (by omega) (by omega), small_ok (by omega) (by omega)⟩ | exact cdiv_ok (by omega) (by omega) | exact cpow_ok (by omega) (by omega) (by omega) (by omega) | decide +kernel) ?_) | (refine DL.ifF (by first | assumption | decide | omega | (simp; omega) | (simp; done) | (simp [*]; omega) | (simp [*]; done) | (simp [DL.beq_ints, DL.beq_pairs, *]; done) | fail) ?_) | (refine DL.ifT (by first | assumption | decide | omega | (simp; omega) | (simp; done) | (simp [*]; omega) | (simp [*]; done) | (simp [DL.beq_ints, DL.beq_pairs, *]; done) | fail) ?_) | fail)
  refine DL.ifF (by show ¬ ((!beq (.lst (IL (hs.map fun h => h % n))) (.lst (IL (hs.map fun h => h % n)))) = true); rw [beq_ints]; simp) ?_
  repeat (first | ((conv => whnf); refine ⟨_, rfl, ?_⟩) | ((conv => whnf); refine ⟨_, _, rfl, ?_⟩) | ((conv => whnf); refine ⟨_, _, _, rfl, ?_⟩) | ((conv => whnf); refine ⟨_, _, _, _, rfl, ?_⟩) | ((conv => whnf); refine DL.exn 0 ⟨_, rfl, ?_⟩) | ((conv => whnf); refine DL.exn 1 ⟨_, rfl, ?_⟩) | ((conv => whnf); refine DL.exn 2 ⟨_, rfl, ?_⟩) | ((conv => whnf); refine DL.exn 3 ⟨_, rfl, ?_⟩) | ((conv => whnf); refine DL.exn 4 ⟨_, rfl, ?_⟩) | ((conv => whnf); refine DL.exn 5 ⟨_, rfl, ?_⟩) | ((conv => whnf); refine DL.exn 0 ⟨_, _, rfl, rfl, ?_⟩) | ((conv => whnf); refine DL.exn 1 ⟨_, _, rfl, rfl, ?_⟩) | ((conv => whnf); refine DL.exn 2 ⟨_, _, rfl, rfl, ?_⟩) | ((conv => whnf); refine DL.exn 3 ⟨_, _, rfl, rfl, ?_⟩) | ((conv => whnf); refine DL.exn 4 ⟨_, _, rfl, rfl, ?_⟩) | ((conv => whnf); refine DL.exn 5 ⟨_, _, rfl, rfl, ?_⟩) | ((conv => whnf); refine DL.exn 0 ⟨_, _, rfl, ?_⟩) | ((conv => whnf); refine DL.exn 1 ⟨_, _, rfl, ?_⟩) | ((conv => whnf); refine DL.exn 2 ⟨_, _, rfl, ?_⟩) | ((conv => whnf); refine DL.exn 3 ⟨_, _, rfl, ?_⟩) | ((conv => whnf); refine DL.exn 4 ⟨_, _, rfl, ?_⟩) | ((conv => whnf); refine DL.exn 5 ⟨_, _, rfl, ?_⟩) | ((conv => whnf); refine DL.exn 0 ⟨_, _, _, rfl, rfl, ?_⟩) | ((conv => whnf); refine DL.exn 1 ⟨_, _, _, rfl, rfl, ?_⟩) | ((conv => whnf); refine DL.exn 2 ⟨_, _, _, rfl, rfl, ?_⟩) | ((conv => whnf); refine DL.exn 3 ⟨_, _, _, rfl, rfl, ?_⟩) | ((conv => whnf); refine DL.exn 4 ⟨_, _, _, rfl, rfl, ?_⟩) | ((conv => whnf); refine DL.exn 5 ⟨_, _, _, rfl, rfl, ?_⟩) | ((conv => whnf); refine Or.inl ⟨by decide, by decide, ?_⟩) | ((conv => whnf); refine Or.inr ⟨_, rfl, by decide, ?_⟩) | ((conv => whnf); refine And.intro (by first | assumption | rfl | decide | omega | exact ⟨rfl, by decide⟩ | exact DL.pl_ints | exact DL.pl_pairs | exact DL.pl_pair | exact Nat.le_of_ble_eq_true rfl | exact ⟨rfl, rfl⟩ | exact small_ok (by omega) (by omega) | exact ⟨small_ok (by omega) (by omega), small_ok (by omega) (by omega)⟩ | exact cdiv_ok (by omega) (by omega) | exact cpow_ok (by omega) (by omega) (by omega) (by omega) | decide +kernel) ?_) | (refine DL.ifF (by first | assumption | decide | omega | (simp; omega) | (simp; done) | (simp [*]; omega) | (simp [*]; done) | (simp [DL.beq_ints, DL.beq_pairs, *]; done) | fail) ?_) | (refine DL.ifT (by first | assumption | decide | omega | (simp; omega) | (simp; done) | (simp [*]; omega) | (simp [*]; done) | (simp [DL.beq_ints, DL.beq_pairs, *]; done) | fail) ?_) | fail)
  refine ⟨by rw [rng_len]; show (((IL row).length : Int) + 1 - 1).toNat ≤ _; omega, ?_⟩
  refine cl_map (fun d => match d with | .int p => .int (hs.getD (p - 1).toNat 0 / n) | d => d) (fun d hd k hk => ?_) ?_
  · obtain ⟨p, rfl, a, b⟩ := rng_mem hd
    have b : p < ((IL row).length : Int) + 1 := b
    repeat (first | ((conv => whnf); refine ⟨_, rfl, ?_⟩) | ((conv => whnf); refine ⟨_, _, rfl, ?_⟩) | ((conv => whnf); refine ⟨_, _, _, rfl, ?_⟩) | ((conv => whnf); refine ⟨_, _, _, _, rfl, ?_⟩) | ((conv => whnf); refine DL.exn 0 ⟨_, rfl, ?_⟩) | ((conv => whnf); refine DL.exn 1 ⟨_, rfl, ?_⟩) | ((conv => whnf); refine DL.exn 2 ⟨_, rfl, ?_⟩) | ((conv => whnf); refine DL.exn 3 ⟨_, rfl, ?_⟩) | ((conv => whnf); refine DL.exn 4 ⟨_, rfl, ?_⟩) | ((conv => whnf); refine DL.exn 5 ⟨_, rfl, ?_⟩) | ((conv => whnf); refine DL.exn 0 ⟨_, _, rfl, rfl, ?_⟩) | ((conv => whnf); refine DL.exn 1 ⟨_, _, rfl, rfl, ?_⟩) | ((conv => whnf); refine DL.exn 2 ⟨_, _, rfl, rfl, ?_⟩) | ((conv => whnf); refine DL.exn 3 ⟨_, _, rfl, rfl, ?_⟩) | ((conv => whnf); refine DL.exn 4 ⟨_, _, rfl, rfl, ?_⟩) | ((conv => whnf); refine DL.exn 5 ⟨_, _, rfl, rfl, ?_⟩) | ((conv => whnf); refine DL.exn 0 ⟨_, _, rfl, ?_⟩) | ((conv => whnf); refine DL.exn 1 ⟨_, _, rfl, ?_⟩) | ((conv => whnf); refine DL.exn 2 ⟨_, _, rfl, ?_⟩) | ((conv => whnf); refine DL.exn 3 ⟨_, _, rfl, ?_⟩) | ((conv => whnf); refine DL.exn 4 ⟨_, _, rfl, ?_⟩) | ((conv => whnf); refine DL.exn 5 ⟨_, _, rfl, ?_⟩) | ((conv => whnf); refine DL.exn 0 ⟨_, _, _, rfl, rfl, ?_⟩) | ((conv => whnf); refine DL.exn 1 ⟨_, _, _, rfl, rfl, ?_⟩) | ((conv => whnf); refine DL.exn 2 ⟨_, _, _, rfl, rfl, ?_⟩) | ((conv => whnf); refine DL.exn 3 ⟨_, _, _, rfl, rfl, ?_⟩) | ((conv => whnf); refine DL.exn 4 ⟨_, _, _, rfl, rfl, ?_⟩) | ((conv => whnf); refine DL.exn 5 ⟨_, _, _, rfl, rfl, ?_⟩) | ((conv => whnf); refine Or.inl ⟨by decide, by decide, ?_⟩) | ((conv => whnf); refine Or.inr ⟨_, rfl, by decide, ?_⟩) | ((conv => whnf); refine And.intro (by first | assumption | rfl | decide | omega | exact ⟨rfl, by decide⟩ | exact DL.pl_ints | exact DL.pl_pairs | exact DL.pl_pair | exact Nat.le_of_ble_eq_true rfl | exact ⟨rfl, rfl⟩ | exact small_ok (by omega) (by omega) | exact ⟨small_ok (by omega) (by omega), small_ok (by omega) (by omega)⟩ | exact cdiv_ok (by omega) (by omega) | exact cpow_ok (by omega) (by omega) (by omega) (by omega) | decide +kernel) ?_) | (refine DL.ifF (by first | assumption | decide | omega | (simp; omega) | (simp; done) | (simp [*]; omega) | (simp [*]; done) | (simp [DL.beq_ints, DL.beq_pairs, *]; done) | fail) ?_) | (refine DL.ifT (by first | assumption | decide | omega | (simp; omega) | (simp; done) | (simp [*]; omega) | (simp [*]; done) | (simp [DL.beq_ints, DL.beq_pairs, *]; done) | fail) ?_) | fail)
    (conv => whnf)
    exact call_at (M0 := tb K t cc n ps row (path.length : Nat) hs) (F := mm m pa ov row sr ev path over turns) [0, 0] rfl ⟨t, cc, n, ps, row, _, hs, p, rfl, rfl, h3, h9, hhl, a, by omega, hk⟩
  have e5 : ([] ++ (rng 1 (((IL row).length : Int) + 1)).map (fun d => match d with | .int p => .int (hs.getD (p - 1).toNat 0 / n) | d => d)) = IL over := by
    rw [rI, rng_il]
    have : over = (rngI 1 (n + 1)).map fun p => hs.getD (p - 1).toNat 0 / n := by
      have ho := G.ol
      refine List.ext_getElem (by simp [len_rngI]; omega) fun k h1 h2 => ?_
      rw [List.getElem_map]
      have hr : (rngI 1 (n + 1))[k]'(by simpa using h2) = (k : Int) + 1 := by simp [rngI]; omega
      rw [hr]
      have := G.tim ((k : Int) + 1) (by omega) (by omega)
      rw [← this, show ((k : Int) + 1 - 1).toNat = k by omega, getD_eq h1]
    rw [this]; simp [IL, Function.comp_def]
  rw [e5]
  repeat (first | ((conv => whnf); refine ⟨_, rfl, ?_⟩) | ((conv => whnf); refine ⟨_, _, rfl, ?_⟩) | ((conv => whnf); refine ⟨_, _, _, rfl, ?_⟩) | ((conv => whnf); refine ⟨_, _, _, _, rfl, ?_⟩) | ((conv => whnf); refine DL.exn 0 ⟨_, rfl, ?_⟩) | ((conv => whnf); refine DL.exn 1 ⟨_, rfl, ?_⟩) | ((conv => whnf); refine DL.exn 2 ⟨_, rfl, ?_⟩) | ((conv => whnf); refine DL.exn 3 ⟨_, rfl, ?_⟩) | ((conv => whnf); refine DL.exn 4 ⟨_, rfl, ?_⟩) | ((conv => whnf); refine DL.exn 5 ⟨_, rfl, ?_⟩) | ((conv => whnf); refine DL.exn 0 ⟨_, _, rfl, rfl, ?_⟩) | ((conv => whnf); refine DL.exn 1 ⟨_, _, rfl, rfl, ?_⟩) | ((conv => whnf); refine DL.exn 2 ⟨_, _, rfl, rfl, ?_⟩) | ((conv => whnf); refine DL.exn 3 ⟨_, _, rfl, rfl, ?_⟩) | ((conv => whnf); refine DL.exn 4 ⟨_, _, rfl, rfl, ?_⟩) | ((conv => whnf); refine DL.exn 5 ⟨_, _, rfl, rfl, ?_⟩) | ((conv => whnf); refine DL.exn 0 ⟨_, _, rfl, ?_⟩) | ((conv => whnf); refine DL.exn 1 ⟨_, _, rfl, ?_⟩) | ((conv => whnf); refine DL.exn 2 ⟨_, _, rfl, ?_⟩) | ((conv => whnf); refine DL.exn 3 ⟨_, _, rfl, ?_⟩) | ((conv => whnf); refine DL.exn 4 ⟨_, _, rfl, ?_⟩) | ((conv => whnf); refine DL.exn 5 ⟨_, _, rfl, ?_⟩) | ((conv => whnf); refine DL.exn 0 ⟨_, _, _, rfl, rfl, ?_⟩) | ((conv => whnf); refine DL.exn 1 ⟨_, _, _, rfl, rfl, ?_⟩) | ((conv => whnf); refine DL.exn 2 ⟨_, _, _, rfl, rfl, ?_⟩) | ((conv => whnf); refine DL.exn 3 ⟨_, _, _, rfl, rfl, ?_⟩) | ((conv => whnf); refine DL.exn 4 ⟨_, _, _, rfl, rfl, ?_⟩) | ((conv => whnf); refine DL.exn 5 ⟨_, _, _, rfl, rfl, ?_⟩) | ((conv => whnf); refine Or.inl ⟨by decide, by decide, ?_⟩) | ((conv => whnf); refine Or.inr ⟨_, rfl, by decide, ?_⟩) | ((conv => whnf); refine And.intro (by first | assumption | rfl | decide | omega | exact ⟨rfl, by decide⟩ | exact DL.pl_ints | exact DL.pl_pairs | exact DL.pl_pair | exact Nat.le_of_ble_eq_true rfl | exact ⟨rfl, rfl⟩ | exact small_ok (by omega) (by omega) | exact ⟨small_ok (by omega) (by omega), small_ok (by omega) (by omega)⟩ | exact cdiv_ok (by omega) (by omega) | exact cpow_ok (by omega) (by omega) (by omega) (by omega) | decide +kernel) ?_) | (refine DL.ifF (by first | assumption | decide | omega | (simp; omega) | (simp; done) | (simp [*]; omega) | (simp [*]; done) | (simp [DL.beq_ints, DL.beq_pairs, *]; done) | fail) ?_) | (refine DL.ifT (by first | assumption | decide | omega | (simp; omega) | (simp; done) | (simp [*]; omega) | (simp [*]; done) | (simp [DL.beq_ints, DL.beq_pairs, *]; done) | fail) ?_) | fail)
  (conv => whnf)
  refine loop_ind (fun its ds M => ∃ (qs : List (Int × Int)) (x y : Option D), its = PL qs ∧ (∀ z ∈ qs, z ∈ ev) ∧ ds = [some (.ref t), some (.ref m), some (.lst (IL first)), some (.int n), some (.lst (IL hs)), none, x, y, none] ∧ M = tb K t cc n ps row (path.length : Nat) hs ++ mm m pa ov row sr ev path over turns) ?_ ?_ ⟨ev, none, none, rfl, fun _ h => h, by show [some (D.ref t), some (D.ref m), some (D.lst (IL first)), some (D.int ((IL row).length : Nat)), some (D.lst (IL hs)), none, none, none, none] = _; rw [rI], rfl⟩
  · rintro _ _ ⟨qs, x, y, e, hsub, rfl, rfl⟩
    repeat (first | ((conv => whnf); refine ⟨_, rfl, ?_⟩) | ((conv => whnf); refine ⟨_, _, rfl, ?_⟩) | ((conv => whnf); refine ⟨_, _, _, rfl, ?_⟩) | ((conv => whnf); refine ⟨_, _, _, _, rfl, ?_⟩) | ((conv => whnf); refine DL.exn 0 ⟨_, rfl, ?_⟩) | ((conv => whnf); refine DL.exn 1 ⟨_, rfl, ?_⟩) | ((conv => whnf); refine DL.exn 2 ⟨_, rfl, ?_⟩) | ((conv => whnf); refine DL.exn 3 ⟨_, rfl, ?_⟩) | ((conv => whnf); refine DL.exn 4 ⟨_, rfl, ?_⟩) | ((conv => whnf); refine DL.exn 5 ⟨_, rfl, ?_⟩) | ((conv => whnf); refine DL.exn 0 ⟨_, _, rfl, rfl, ?_⟩) | ((conv => whnf); refine DL.exn 1 ⟨_, _, rfl, rfl, ?_⟩) | ((conv => whnf); refine DL.exn 2 ⟨_, _, rfl, rfl, ?_⟩) | ((conv => whnf); refine DL.exn 3 ⟨_, _, rfl, rfl, ?_⟩) | ((conv => whnf); refine DL.exn 4 ⟨_, _, rfl, rfl, ?_⟩) | ((conv => whnf); refine DL.exn 5 ⟨_, _, rfl, rfl, ?_⟩) | ((conv => whnf); refine DL.exn 0 ⟨_, _, rfl, ?_⟩) | ((conv => whnf); refine DL.exn 1 ⟨_, _, rfl, ?_⟩) | ((conv => whnf); refine DL.exn 2 ⟨_, _, rfl, ?_⟩) | ((conv => whnf); refine DL.exn 3 ⟨_, _, rfl, ?_⟩) | ((conv => whnf); refine DL.exn 4 ⟨_, _, rfl, ?_⟩) | ((conv => whnf); refine DL.exn 5 ⟨_, _, rfl, ?_⟩) | ((conv => whnf); refine DL.exn 0 ⟨_, _, _, rfl, rfl, ?_⟩) | ((conv => whnf); refine DL.exn 1 ⟨_, _, _, rfl, rfl, ?_⟩) | ((conv => whnf); refine DL.exn 2 ⟨_, _, _, rfl, rfl, ?_⟩) | ((conv => whnf); refine DL.exn 3 ⟨_, _, _, rfl, rfl, ?_⟩) | ((conv => whnf); refine DL.exn 4 ⟨_, _, _, rfl, rfl, ?_⟩) | ((conv => whnf); refine DL.exn 5 ⟨_, _, _, rfl, rfl, ?_⟩) | ((conv => whnf); refine Or.inl ⟨by decide, by decide, ?_⟩) | ((conv => whnf); refine Or.inr ⟨_, rfl, by decide, ?_⟩) | ((conv => whnf); refine And.intro (by first | assumption | rfl | decide | omega | exact ⟨rfl, by decide⟩ | exact DL.pl_ints | exact DL.pl_pairs | exact DL.pl_pair | exact Nat.le_of_ble_eq_true rfl | exact ⟨rfl, rfl⟩ | exact small_ok (by omega) (by omega) | exact ⟨small_ok (by omega) (by omega), small_ok (by omega) (by omega)⟩ | exact cdiv_ok (by omega) (by omega) | exact cpow_ok (by omega) (by omega) (by omega) (by omega) | decide +kernel) ?_) | (refine DL.ifF (by first | assumption | decide | omega | (simp; omega) | (simp; done) | (simp [*]; omega) | (simp [*]; done) | (simp [DL.beq_ints, DL.beq_pairs, *]; done) | fail) ?_) | (refine DL.ifT (by first | assumption | decide | omega | (simp; omega) | (simp; done) | (simp [*]; omega) | (simp [*]; done) | (simp [DL.beq_ints, DL.beq_pairs, *]; done) | fail) ?_) | fail)
    intro qs okq hw hlen
    obtain ⟨c1, c2⟩ := G.com qs okq hw
    (conv => whnf)
    refine ⟨by simp; omega, cl_map (fun d => match d with | .tup [.int p, .int q] => .int (iabs (rnd hs p q n - rnd first p q n)) | d => d) (fun d hd k hk => ?_) ?_⟩
    · obtain ⟨z, hz1, rfl⟩ := List.mem_map.mp hd
      have hb := okq.mem z hz1
      repeat (first | ((conv => whnf); refine ⟨_, rfl, ?_⟩) | ((conv => whnf); refine ⟨_, _, rfl, ?_⟩) | ((conv => whnf); refine ⟨_, _, _, rfl, ?_⟩) | ((conv => whnf); refine ⟨_, _, _, _, rfl, ?_⟩) | ((conv => whnf); refine DL.exn 0 ⟨_, rfl, ?_⟩) | ((conv => whnf); refine DL.exn 1 ⟨_, rfl, ?_⟩) | ((conv => whnf); refine DL.exn 2 ⟨_, rfl, ?_⟩) | ((conv => whnf); refine DL.exn 3 ⟨_, rfl, ?_⟩) | ((conv => whnf); refine DL.exn 4 ⟨_, rfl, ?_⟩) | ((conv => whnf); refine DL.exn 5 ⟨_, rfl, ?_⟩) | ((conv => whnf); refine DL.exn 0 ⟨_, _, rfl, rfl, ?_⟩) | ((conv => whnf); refine DL.exn 1 ⟨_, _, rfl, rfl, ?_⟩) | ((conv => whnf); refine DL.exn 2 ⟨_, _, rfl, rfl, ?_⟩) | ((conv => whnf); refine DL.exn 3 ⟨_, _, rfl, rfl, ?_⟩) | ((conv => whnf); refine DL.exn 4 ⟨_, _, rfl, rfl, ?_⟩) | ((conv => whnf); refine DL.exn 5 ⟨_, _, rfl, rfl, ?_⟩) | ((conv => whnf); refine DL.exn 0 ⟨_, _, rfl, ?_⟩) | ((conv => whnf); refine DL.exn 1 ⟨_, _, rfl, ?_⟩) | ((conv => whnf); refine DL.exn 2 ⟨_, _, rfl, ?_⟩) | ((conv => whnf); refine DL.exn 3 ⟨_, _, rfl, ?_⟩) | ((conv => whnf); refine DL.exn 4 ⟨_, _, rfl, ?_⟩) | ((conv => whnf); refine DL.exn 5 ⟨_, _, rfl, ?_⟩) | ((conv => whnf); refine DL.exn 0 ⟨_, _, _, rfl, rfl, ?_⟩) | ((conv => whnf); refine DL.exn 1 ⟨_, _, _, rfl, rfl, ?_⟩) | ((conv => whnf); refine DL.exn 2 ⟨_, _, _, rfl, rfl, ?_⟩) | ((conv => whnf); refine DL.exn 3 ⟨_, _, _, rfl, rfl, ?_⟩) | ((conv => whnf); refine DL.exn 4 ⟨_, _, _, rfl, rfl, ?_⟩) | ((conv => whnf); refine DL.exn 5 ⟨_, _, _, rfl, rfl, ?_⟩) | ((conv => whnf); refine Or.inl ⟨by decide, by decide, ?_⟩) | ((conv => whnf); refine Or.inr ⟨_, rfl, by decide, ?_⟩) | ((conv => whnf); refine And.intro (by first | assumption | rfl | decide | omega | exact ⟨rfl, by decide⟩ | exact DL.pl_ints | exact DL.pl_pairs | exact DL.pl_pair | exact Nat.le_of_ble_eq_true rfl | exact ⟨rfl, rfl⟩ | exact small_ok (by omega) (by omega) | exact ⟨small_ok (by omega) (by omega), small_ok (by omega) (by omega)⟩ | exact cdiv_ok (by omega) (by omega) | exact cpow_ok (by omega) (by omega) (by omega) (by omega) | decide +kernel) ?_) | (refine DL.ifF (by first | assumption | decide | omega | (simp; omega) | (simp; done) | (simp [*]; omega) | (simp [*]; done) | (simp [DL.beq_ints, DL.beq_pairs, *]; done) | fail) ?_) | (refine DL.ifT (by first | assumption | decide | omega | (simp; omega) | (simp; done) | (simp [*]; omega) | (simp [*]; done) | (simp [DL.beq_ints, DL.beq_pairs, *]; done) | fail) ?_) | fail)
      exact hk
    have e6 : ([] ++ (PL qs).map fun d => match d with | .tup [.int p, .int q] => .int (iabs (rnd hs p q n - rnd first p q n)) | d => d) = IL (qs.map fun z => iabs (rnd hs z.1 z.2 n - rnd first z.1 z.2 n)) := by
      simp [PL, IL, Function.comp_def, pairD]
    rw [e6]
    repeat (first | ((conv => whnf); refine ⟨_, rfl, ?_⟩) | ((conv => whnf); refine ⟨_, _, rfl, ?_⟩) | ((conv => whnf); refine ⟨_, _, _, rfl, ?_⟩) | ((conv => whnf); refine ⟨_, _, _, _, rfl, ?_⟩) | ((conv => whnf); refine DL.exn 0 ⟨_, rfl, ?_⟩) | ((conv => whnf); refine DL.exn 1 ⟨_, rfl, ?_⟩) | ((conv => whnf); refine DL.exn 2 ⟨_, rfl, ?_⟩) | ((conv => whnf); refine DL.exn 3 ⟨_, rfl, ?_⟩) | ((conv => whnf); refine DL.exn 4 ⟨_, rfl, ?_⟩) | ((conv => whnf); refine DL.exn 5 ⟨_, rfl, ?_⟩) | ((conv => whnf); refine DL.exn 0 ⟨_, _, rfl, rfl, ?_⟩) | ((conv => whnf); refine DL.exn 1 ⟨_, _, rfl, rfl, ?_⟩) | ((conv => whnf); refine DL.exn 2 ⟨_, _, rfl, rfl, ?_⟩) | ((conv => whnf); refine DL.exn 3 ⟨_, _, rfl, rfl, ?_⟩) | ((conv => whnf); refine DL.exn 4 ⟨_, _, rfl, rfl, ?_⟩) | ((conv => whnf); refine DL.exn 5 ⟨_, _, rfl, rfl, ?_⟩) | ((conv => whnf); refine DL.exn 0 ⟨_, _, rfl, ?_⟩) | ((conv => whnf); refine DL.exn 1 ⟨_, _, rfl, ?_⟩) | ((conv => whnf); refine DL.exn 2 ⟨_, _, rfl, ?_⟩) | ((conv => whnf); refine DL.exn 3 ⟨_, _, rfl, ?_⟩) | ((conv => whnf); refine DL.exn 4 ⟨_, _, rfl, ?_⟩) | ((conv => whnf); refine DL.exn 5 ⟨_, _, rfl, ?_⟩) | ((conv => whnf); refine DL.exn 0 ⟨_, _, _, rfl, rfl, ?_⟩) | ((conv => whnf); refine DL.exn 1 ⟨_, _, _, rfl, rfl, ?_⟩) | ((conv => whnf); refine DL.exn 2 ⟨_, _, _, rfl, rfl, ?_⟩) | ((conv => whnf); refine DL.exn 3 ⟨_, _, _, rfl, rfl, ?_⟩) | ((conv => whnf); refine DL.exn 4 ⟨_, _, _, rfl, rfl, ?_⟩) | ((conv => whnf); refine DL.exn 5 ⟨_, _, _, rfl, rfl, ?_⟩) | ((conv => whnf); refine Or.inl ⟨by decide, by decide, ?_⟩) | ((conv => whnf); refine Or.inr ⟨_, rfl, by decide, ?_⟩) | ((conv => whnf); refine And.intro (by first | assumption | rfl | decide | omega | exact ⟨rfl, by decide⟩ | exact DL.pl_ints | exact DL.pl_pairs | exact DL.pl_pair | exact Nat.le_of_ble_eq_true rfl | exact ⟨rfl, rfl⟩ | exact small_ok (by omega) (by omega) | exact ⟨small_ok (by omega) (by omega), small_ok (by omega) (by omega)⟩ | exact cdiv_ok (by omega) (by omega) | exact cpow_ok (by omega) (by omega) (by omega) (by omega) | decide +kernel) ?_) | (refine DL.ifF (by first | assumption | decide | omega | (simp; omega) | (simp; done) | (simp [*]; omega) | (simp [*]; done) | (simp [DL.beq_ints, DL.beq_pairs, *]; done) | fail) ?_) | (refine DL.ifT (by first | assumption | decide | omega | (simp; omega) | (simp; done) | (simp [*]; omega) | (simp [*]; done) | (simp [DL.beq_ints, DL.beq_pairs, *]; done) | fail) ?_) | fail)
    simp only [xNil, List.nil_append, List.append_nil]
    refine call_at (M0 := tb K t cc n ps row (path.length : Nat) hs) (F := mm m pa ov row sr ev path over turns) [0, 0] rfl ⟨t, cc, n, ps, row, _, hs, rfl, rfl, ?_⟩
    have hcm : (qs.map fun z => iabs (rnd hs z.1 z.2 n - rnd first z.1 z.2 n)).sum = come n hs first qs := rfl
    rw [hcm]
    generalize come n hs first qs = cm at *
    have lp : ((IL path).length : Int) = path.length := by simp
    repeat (first | ((conv => whnf); refine ⟨_, rfl, ?_⟩) | ((conv => whnf); refine ⟨_, _, rfl, ?_⟩) | ((conv => whnf); refine ⟨_, _, _, rfl, ?_⟩) | ((conv => whnf); refine ⟨_, _, _, _, rfl, ?_⟩) | ((conv => whnf); refine DL.exn 0 ⟨_, rfl, ?_⟩) | ((conv => whnf); refine DL.exn 1 ⟨_, rfl, ?_⟩) | ((conv => whnf); refine DL.exn 2 ⟨_, rfl, ?_⟩) | ((conv => whnf); refine DL.exn 3 ⟨_, rfl, ?_⟩) | ((conv => whnf); refine DL.exn 4 ⟨_, rfl, ?_⟩) | ((conv => whnf); refine DL.exn 5 ⟨_, rfl, ?_⟩) | ((conv => whnf); refine DL.exn 0 ⟨_, _, rfl, rfl, ?_⟩) | ((conv => whnf); refine DL.exn 1 ⟨_, _, rfl, rfl, ?_⟩) | ((conv => whnf); refine DL.exn 2 ⟨_, _, rfl, rfl, ?_⟩) | ((conv => whnf); refine DL.exn 3 ⟨_, _, rfl, rfl, ?_⟩) | ((conv => whnf); refine DL.exn 4 ⟨_, _, rfl, rfl, ?_⟩) | ((conv => whnf); refine DL.exn 5 ⟨_, _, rfl, rfl, ?_⟩) | ((conv => whnf); refine DL.exn 0 ⟨_, _, rfl, ?_⟩) | ((conv => whnf); refine DL.exn 1 ⟨_, _, rfl, ?_⟩) | ((conv => whnf); refine DL.exn 2 ⟨_, _, rfl, ?_⟩) | ((conv => whnf); refine DL.exn 3 ⟨_, _, rfl, ?_⟩) | ((conv => whnf); refine DL.exn 4 ⟨_, _, rfl, ?_⟩) | ((conv => whnf); refine DL.exn 5 ⟨_, _, rfl, ?_⟩) | ((conv => whnf); refine DL.exn 0 ⟨_, _, _, rfl, rfl, ?_⟩) | ((conv => whnf); refine DL.exn 1 ⟨_, _, _, rfl, rfl, ?_⟩) | ((conv => whnf); refine DL.exn 2 ⟨_, _, _, rfl, rfl, ?_⟩) | ((conv => whnf); refine DL.exn 3 ⟨_, _, _, rfl, rfl, ?_⟩) | ((conv => whnf); refine DL.exn 4 ⟨_, _, _, rfl, rfl, ?_⟩) | ((conv => whnf); refine DL.exn 5 ⟨_, _, _, rfl, rfl, ?_⟩) | ((conv => whnf); refine Or.inl ⟨by decide, by decide, ?_⟩) | ((conv => whnf); refine Or.inr ⟨_, rfl, by decide, ?_⟩) | ((conv => whnf); refine And.intro (by first | assumption | rfl | decide | omega | exact ⟨rfl, by decide⟩ | exact DL.pl_ints | exact DL.pl_pairs | exact DL.pl_pair | exact Nat.le_of_ble_eq_true rfl | exact ⟨rfl, rfl⟩ | exact small_ok (by omega) (by omega) | exact ⟨small_ok (by omega) (by omega), small_ok (by omega) (by omega)⟩ | exact cdiv_ok (by omega) (by omega) | exact cpow_ok (by omega) (by omega) (by omega) (by omega) | decide +kernel) ?_) | (refine DL.ifF (by first | assumption | decide | omega | (simp; omega) | (simp; done) | (simp [*]; omega) | (simp [*]; done) | (simp [DL.beq_ints, DL.beq_pairs, *]; done) | fail) ?_) | (refine DL.ifT (by first | assumption | decide | omega | (simp; omega) | (simp; done) | (simp [*]; omega) | (simp [*]; done) | (simp [DL.beq_ints, DL.beq_pairs, *]; done) | fail) ?_) | fail)
    show Rtn Q (.bl (decide ((((IL path).length : Int) - cm) % 2 = 0))) _
    rw [decide_eq_true (by rw [lp]; omega)]
    exact rtn_all q
  · rintro d r _ _ NX ⟨qs, x, y, e, hsub, rfl, rfl⟩ nx
    cases qs with
    | nil => cases e
    | cons z qs =>
      cases e
      have hz1 := hsub z List.mem_cons_self
      have hb := G.bok.mem z ((G.eq z).mpr (G.sub z hz1))
      have he := G.evr z hz1
      repeat (first | ((conv => whnf); refine ⟨_, rfl, ?_⟩) | ((conv => whnf); refine ⟨_, _, rfl, ?_⟩) | ((conv => whnf); refine ⟨_, _, _, rfl, ?_⟩) | ((conv => whnf); refine ⟨_, _, _, _, rfl, ?_⟩) | ((conv => whnf); refine DL.exn 0 ⟨_, rfl, ?_⟩) | ((conv => whnf); refine DL.exn 1 ⟨_, rfl, ?_⟩) | ((conv => whnf); refine DL.exn 2 ⟨_, rfl, ?_⟩) | ((conv => whnf); refine DL.exn 3 ⟨_, rfl, ?_⟩) | ((conv => whnf); refine DL.exn 4 ⟨_, rfl, ?_⟩) | ((conv => whnf); refine DL.exn 5 ⟨_, rfl, ?_⟩) | ((conv => whnf); refine DL.exn 0 ⟨_, _, rfl, rfl, ?_⟩) | ((conv => whnf); refine DL.exn 1 ⟨_, _, rfl, rfl, ?_⟩) | ((conv => whnf); refine DL.exn 2 ⟨_, _, rfl, rfl, ?_⟩) | ((conv => whnf); refine DL.exn 3 ⟨_, _, rfl, rfl, ?_⟩) | ((conv => whnf); refine DL.exn 4 ⟨_, _, rfl, rfl, ?_⟩) | ((conv => whnf); refine DL.exn 5 ⟨_, _, rfl, rfl, ?_⟩) | ((conv => whnf); refine DL.exn 0 ⟨_, _, rfl, ?_⟩) | ((conv => whnf); refine DL.exn 1 ⟨_, _, rfl, ?_⟩) | ((conv => whnf); refine DL.exn 2 ⟨_, _, rfl, ?_⟩) | ((conv => whnf); refine DL.exn 3 ⟨_, _, rfl, ?_⟩) | ((conv => whnf); refine DL.exn 4 ⟨_, _, rfl, ?_⟩) | ((conv => whnf); refine DL.exn 5 ⟨_, _, rfl, ?_⟩) | ((conv => whnf); refine DL.exn 0 ⟨_, _, _, rfl, rfl, ?_⟩) | ((conv => whnf); refine DL.exn 1 ⟨_, _, _, rfl, rfl, ?_⟩) | ((conv => whnf); refine DL.exn 2 ⟨_, _, _, rfl, rfl, ?_⟩) | ((conv => whnf); refine DL.exn 3 ⟨_, _, _, rfl, rfl, ?_⟩) | ((conv => whnf); refine DL.exn 4 ⟨_, _, _, rfl, rfl, ?_⟩) | ((conv => whnf); refine DL.exn 5 ⟨_, _, _, rfl, rfl, ?_⟩) | ((conv => whnf); refine Or.inl ⟨by decide, by decide, ?_⟩) | ((conv => whnf); refine Or.inr ⟨_, rfl, by decide, ?_⟩) | ((conv => whnf); refine And.intro (by first | assumption | rfl | decide | omega | exact ⟨rfl, by decide⟩ | exact DL.pl_ints | exact DL.pl_pairs | exact DL.pl_pair | exact Nat.le_of_ble_eq_true rfl | exact ⟨rfl, rfl⟩ | exact small_ok (by omega) (by omega) | exact ⟨small_ok (by omega) (by omega), small_ok (by omega) (by omega)⟩ | exact cdiv_ok (by omega) (by omega) | exact cpow_ok (by omega) (by omega) (by omega) (by omega) | decide +kernel) ?_) | (refine DL.ifF (by first | assumption | decide | omega | (simp; omega) | (simp; done) | (simp [*]; omega) | (simp [*]; done) | (simp [DL.beq_ints, DL.beq_pairs, *]; done) | fail) ?_) | (refine DL.ifT (by first | assumption | decide | omega | (simp; omega) | (simp; done) | (simp [*]; omega) | (simp [*]; done) | (simp [DL.beq_ints, DL.beq_pairs, *]; done) | fail) ?_) | fail)
      exact nx _ _ ⟨qs, some (.int z.1), some (.int z.2), rfl, fun u hu => hsub u (List.mem_cons_of_mem _ hu), rfl, rfl⟩
end Nk66

set_option Elab.async false
set_option linter.all false
set_option maxRecDepth 100000
set_option maxHeartbeats 4000000
namespace Nk66
open PySem PySem.Spec L2 DL
theorem len_g_strange {K : PySem.W.Frag} : ∀ es M Q E, sp_g_strange K es M Q E → es.length = 2 := by
  rintro _ _ _ _ ⟨_, _, _, _, _, rfl, _⟩; rfl
theorem rd_g_strange {K : PySem.W.Frag} : ∀ es M Q E, sp_g_strange K es M Q E → t_g_strange K { nx := fun _ M => Rtn Q .non M, rt := Rtn Q } (startD nm_g_strange es) M := by
  rintro _ M Q _ ⟨a, w, c, k, n, rfl, rfl, h0, h1, h3, h9, q⟩
  unfold t_g_strange
  repeat (first | ((conv => whnf); refine ⟨_, rfl, ?_⟩) | ((conv => whnf); refine ⟨_, _, rfl, ?_⟩) | ((conv => whnf); refine ⟨_, _, _, rfl, ?_⟩) | ((conv => whnf); refine ⟨_, _, _, _, rfl, ?_⟩) | ((conv => whnf); refine DL.exn 0 ⟨_, rfl, ?_⟩) | ((conv => whnf); refine DL.exn 1 ⟨_, rfl, ?_⟩) | ((conv => whnf); refine DL.exn 2 ⟨_, rfl, ?_⟩) | ((conv => whnf); refine DL.exn 3 ⟨_, rfl, ?_⟩) | ((conv => whnf); refine DL.exn 4 ⟨_, rfl, ?_⟩) | ((conv => whnf); refine DL.exn 5 ⟨_, rfl, ?_⟩) | ((conv => whnf); refine DL.exn 0 ⟨_, _, rfl, rfl, ?_⟩) | ((conv => whnf); refine DL.exn 1 ⟨_, _, rfl, rfl, ?_⟩) | ((conv => whnf); refine DL.exn 2 ⟨_, _, rfl, rfl, ?_⟩) | ((conv => whnf); refine DL.exn 3 ⟨_, _, rfl, rfl, ?_⟩) | ((conv => whnf); refine DL.exn 4 ⟨_, _, rfl, rfl, ?_⟩) | ((conv => whnf); refine DL.exn 5 ⟨_, _, rfl, rfl, ?_⟩) | ((conv => whnf); refine DL.exn 0 ⟨_, _, rfl, ?_⟩) | ((conv => whnf); refine DL.exn 1 ⟨_, _, rfl, ?_⟩) | ((conv => whnf); refine DL.exn 2 ⟨_, _, rfl, ?_⟩) | ((conv => whnf); refine DL.exn 3 ⟨_, _, rfl, ?_⟩) | ((conv => whnf); refine DL.exn 4 ⟨_, _, rfl, ?_⟩) | ((conv => whnf); refine DL.exn 5 ⟨_, _, rfl, ?_⟩) | ((conv => whnf); refine DL.exn 0 ⟨_, _, _, rfl, rfl, ?_⟩) | ((conv => whnf); refine DL.exn 1 ⟨_, _, _, rfl, rfl, ?_⟩) | ((conv => whnf); refine DL.exn 2 ⟨_, _, _, rfl, rfl, ?_⟩) | ((conv => whnf); refine DL.exn 3 ⟨_, _, _, rfl, rfl, ?_⟩) | ((conv => whnf); refine DL.exn 4 ⟨_, _, _, rfl, rfl, ?_⟩) | ((conv => whnf); refine DL.exn 5 ⟨_, _, _, rfl, rfl, ?_⟩) | ((conv => whnf); refine Or.inl ⟨by decide, by decide, ?_⟩) | ((conv => whnf); refine Or.inr ⟨_, rfl, by decide, ?_⟩) | ((conv => whnf); refine And.intro (by first | assumption | rfl | decide | omega | exact ⟨rfl, by decide⟩ | exact DL.pl_ints | exact DL.pl_pairs | exact DL.pl_pair | exact Nat.le_of_ble_eq_true rfl | exact ⟨rfl, rfl⟩ | exact small_ok (by omega) (by omega) | exact ⟨small_ok (by omega) (by omega), small_ok (by omega) (by omega)⟩ | exact cdiv_ok (by omega) (by omega) | exact cpow_ok (by omega) (by omega) (by omega) (by omega) | decide +kernel) ?_) | (refine DL.ifF (by first | assumption | decide | omega | (simp; omega) | (simp; done) | (simp [*]; omega) | (simp [*]; done) | (simp [DL.beq_ints, DL.beq_pairs, *]; done) | fail) ?_) | (refine DL.ifT (by first | assumption | decide | omega | (simp; omega) | (simp; done) | (simp [*]; omega) | (simp [*]; done) | (simp [DL.beq_ints, DL.beq_pairs, *]; done) | fail) ?_) | fail)
  (conv => whnf)
  refine drawX (K := K) (a := a) (w := w) (c := c) (k := k) (n := 8) (F0 := []) h0 (by omega) (by omega) (by omega) fun sort w1 k1 hs hk1 hk2 => ?_
  repeat (first | ((conv => whnf); refine ⟨_, rfl, ?_⟩) | ((conv => whnf); refine ⟨_, _, rfl, ?_⟩) | ((conv => whnf); refine ⟨_, _, _, rfl, ?_⟩) | ((conv => whnf); refine ⟨_, _, _, _, rfl, ?_⟩) | ((conv => whnf); refine DL.exn 0 ⟨_, rfl, ?_⟩) | ((conv => whnf); refine DL.exn 1 ⟨_, rfl, ?_⟩) | ((conv => whnf); refine DL.exn 2 ⟨_, rfl, ?_⟩) | ((conv => whnf); refine DL.exn 3 ⟨_, rfl, ?_⟩) | ((conv => whnf); refine DL.exn 4 ⟨_, rfl, ?_⟩) | ((conv => whnf); refine DL.exn 5 ⟨_, rfl, ?_⟩) | ((conv => whnf); refine DL.exn 0 ⟨_, _, rfl, rfl, ?_⟩) | ((conv => whnf); refine DL.exn 1 ⟨_, _, rfl, rfl, ?_⟩) | ((conv => whnf); refine DL.exn 2 ⟨_, _, rfl, rfl, ?_⟩) | ((conv => whnf); refine DL.exn 3 ⟨_, _, rfl, rfl, ?_⟩) | ((conv => whnf); refine DL.exn 4 ⟨_, _, rfl, rfl, ?_⟩) | ((conv => whnf); refine DL.exn 5 ⟨_, _, rfl, rfl, ?_⟩) | ((conv => whnf); refine DL.exn 0 ⟨_, _, rfl, ?_⟩) | ((conv => whnf); refine DL.exn 1 ⟨_, _, rfl, ?_⟩) | ((conv => whnf); refine DL.exn 2 ⟨_, _, rfl, ?_⟩) | ((conv => whnf); refine DL.exn 3 ⟨_, _, rfl, ?_⟩) | ((conv => whnf); refine DL.exn 4 ⟨_, _, rfl, ?_⟩) | ((conv => whnf); refine DL.exn 5 ⟨_, _, rfl, ?_⟩) | ((conv => whnf); refine DL.exn 0 ⟨_, _, _, rfl, rfl, ?_⟩) | ((conv => whnf); refine DL.exn 1 ⟨_, _, _, rfl, rfl, ?_⟩) | ((conv => whnf); refine DL.exn 2 ⟨_, _, _, rfl, rfl, ?_⟩) | ((conv => whnf); refine DL.exn 3 ⟨_, _, _, rfl, rfl, ?_⟩) | ((conv => whnf); refine DL.exn 4 ⟨_, _, _, rfl, rfl, ?_⟩) | ((conv => whnf); refine DL.exn 5 ⟨_, _, _, rfl, rfl, ?_⟩) | ((conv => whnf); refine Or.inl ⟨by decide, by decide, ?_⟩) | ((conv => whnf); refine Or.inr ⟨_, rfl, by decide, ?_⟩) | ((conv => whnf); refine And.intro (by first | assumption | rfl | decide | omega | exact ⟨rfl, by decide⟩ | exact DL.pl_ints | exact DL.pl_pairs | exact DL.pl_pair | exact Nat.le_of_ble_eq_true rfl | exact ⟨rfl, rfl⟩ | exact small_ok (by omega) (by omega) | exact ⟨small_ok (by omega) (by omega), small_ok (by omega) (by omega)⟩ | exact cdiv_ok (by omega) (by omega) | exact cpow_ok (by omega) (by omega) (by omega) (by omega) | decide +kernel) ?_) | (refine DL.ifF (by first | assumption | decide | omega | (simp; omega) | (simp; done) | (simp [*]; omega) | (simp [*]; done) | (simp [DL.beq_ints, DL.beq_pairs, *]; done) | fail) ?_) | (refine DL.ifT (by first | assumption | decide | omega | (simp; omega) | (simp; done) | (simp [*]; omega) | (simp [*]; done) | (simp [DL.beq_ints, DL.beq_pairs, *]; done) | fail) ?_) | fail)
  (conv => whnf)
  refine ⟨by unfold RgOk; omega, ?_⟩
  (conv => whnf)
  rw [rng_il]
  have hrl : (rngI 1 (n + 1)).length = n.toNat := by rw [len_rngI]; congr 1; omega
  refine shufX (K := K) (a := a) (w := w1) (c := c) (k := k1) (f := D.int) (xs := rngI 1 (n + 1)) (F0 := []) (by omega) (by omega) (by omega) (fun _ => pl_int) fun fs w2 k2 hp hk3 hk4 => ?_
  have hfl : (fs.length : Int) = n := by have := hp.length_eq; omega
  have hfn : fs.Nodup := hp.nodup_iff.mpr nd_rngI
  have hfm : ∀ x ∈ fs, 1 ≤ x ∧ x ≤ n := fun x hx => by have := mem_rngI.mp (hp.mem_iff.mp hx); omega
  repeat (first | ((conv => whnf); refine ⟨_, rfl, ?_⟩) | ((conv => whnf); refine ⟨_, _, rfl, ?_⟩) | ((conv => whnf); refine ⟨_, _, _, rfl, ?_⟩) | ((conv => whnf); refine ⟨_, _, _, _, rfl, ?_⟩) | ((conv => whnf); refine DL.exn 0 ⟨_, rfl, ?_⟩) | ((conv => whnf); refine DL.exn 1 ⟨_, rfl, ?_⟩) | ((conv => whnf); refine DL.exn 2 ⟨_, rfl, ?_⟩) | ((conv => whnf); refine DL.exn 3 ⟨_, rfl, ?_⟩) | ((conv => whnf); refine DL.exn 4 ⟨_, rfl, ?_⟩) | ((conv => whnf); refine DL.exn 5 ⟨_, rfl, ?_⟩) | ((conv => whnf); refine DL.exn 0 ⟨_, _, rfl, rfl, ?_⟩) | ((conv => whnf); refine DL.exn 1 ⟨_, _, rfl, rfl, ?_⟩) | ((conv => whnf); refine DL.exn 2 ⟨_, _, rfl, rfl, ?_⟩) | ((conv => whnf); refine DL.exn 3 ⟨_, _, rfl, rfl, ?_⟩) | ((conv => whnf); refine DL.exn 4 ⟨_, _, rfl, rfl, ?_⟩) | ((conv => whnf); refine DL.exn 5 ⟨_, _, rfl, rfl, ?_⟩) | ((conv => whnf); refine DL.exn 0 ⟨_, _, rfl, ?_⟩) | ((conv => whnf); refine DL.exn 1 ⟨_, _, rfl, ?_⟩) | ((conv => whnf); refine DL.exn 2 ⟨_, _, rfl, ?_⟩) | ((conv => whnf); refine DL.exn 3 ⟨_, _, rfl, ?_⟩) | ((conv => whnf); refine DL.exn 4 ⟨_, _, rfl, ?_⟩) | ((conv => whnf); refine DL.exn 5 ⟨_, _, rfl, ?_⟩) | ((conv => whnf); refine DL.exn 0 ⟨_, _, _, rfl, rfl, ?_⟩) | ((conv => whnf); refine DL.exn 1 ⟨_, _, _, rfl, rfl, ?_⟩) | ((conv => whnf); refine DL.exn 2 ⟨_, _, _, rfl, rfl, ?_⟩) | ((conv => whnf); refine DL.exn 3 ⟨_, _, _, rfl, rfl, ?_⟩) | ((conv => whnf); refine DL.exn 4 ⟨_, _, _, rfl, rfl, ?_⟩) | ((conv => whnf); refine DL.exn 5 ⟨_, _, _, rfl, rfl, ?_⟩) | ((conv => whnf); refine Or.inl ⟨by decide, by decide, ?_⟩) | ((conv => whnf); refine Or.inr ⟨_, rfl, by decide, ?_⟩) | ((conv => whnf); refine And.intro (by first | assumption | rfl | decide | omega | exact ⟨rfl, by decide⟩ | exact DL.pl_ints | exact DL.pl_pairs | exact DL.pl_pair | exact Nat.le_of_ble_eq_true rfl | exact ⟨rfl, rfl⟩ | exact small_ok (by omega) (by omega) | exact ⟨small_ok (by omega) (by omega), small_ok (by omega) (by omega)⟩ | exact cdiv_ok (by omega) (by omega) | exact cpow_ok (by omega) (by omega) (by omega) (by omega) | decide +kernel) ?_) | (refine DL.ifF (by first | assumption | decide | omega | (simp; omega) | (simp; done) | (simp [*]; omega) | (simp [*]; done) | (simp [DL.beq_ints, DL.beq_pairs, *]; done) | fail) ?_) | (refine DL.ifT (by first | assumption | decide | omega | (simp; omega) | (simp; done) | (simp [*]; omega) | (simp [*]; done) | (simp [DL.beq_ints, DL.beq_pairs, *]; done) | fail) ?_) | fail)
  (conv => whnf)
  refine drawX (K := K) (a := a) (w := w2) (c := c) (k := k2) (n := n - 2) (F0 := []) (by omega) (by omega) (by omega) (by omega) fun d w3 k3 hd hk5 hk6 => ?_
  repeat (first | ((conv => whnf); refine ⟨_, rfl, ?_⟩) | ((conv => whnf); refine ⟨_, _, rfl, ?_⟩) | ((conv => whnf); refine ⟨_, _, _, rfl, ?_⟩) | ((conv => whnf); refine ⟨_, _, _, _, rfl, ?_⟩) | ((conv => whnf); refine DL.exn 0 ⟨_, rfl, ?_⟩) | ((conv => whnf); refine DL.exn 1 ⟨_, rfl, ?_⟩) | ((conv => whnf); refine DL.exn 2 ⟨_, rfl, ?_⟩) | ((conv => whnf); refine DL.exn 3 ⟨_, rfl, ?_⟩) | ((conv => whnf); refine DL.exn 4 ⟨_, rfl, ?_⟩) | ((conv => whnf); refine DL.exn 5 ⟨_, rfl, ?_⟩) | ((conv => whnf); refine DL.exn 0 ⟨_, _, rfl, rfl, ?_⟩) | ((conv => whnf); refine DL.exn 1 ⟨_, _, rfl, rfl, ?_⟩) | ((conv => whnf); refine DL.exn 2 ⟨_, _, rfl, rfl, ?_⟩) | ((conv => whnf); refine DL.exn 3 ⟨_, _, rfl, rfl, ?_⟩) | ((conv => whnf); refine DL.exn 4 ⟨_, _, rfl, rfl, ?_⟩) | ((conv => whnf); refine DL.exn 5 ⟨_, _, rfl, rfl, ?_⟩) | ((conv => whnf); refine DL.exn 0 ⟨_, _, rfl, ?_⟩) | ((conv => whnf); refine DL.exn 1 ⟨_, _, rfl, ?_⟩) | ((conv => whnf); refine DL.exn 2 ⟨_, _, rfl, ?_⟩) | ((conv => whnf); refine DL.exn 3 ⟨_, _, rfl, ?_⟩) | ((conv => whnf); refine DL.exn 4 ⟨_, _, rfl, ?_⟩) | ((conv => whnf); refine DL.exn 5 ⟨_, _, rfl, ?_⟩) | ((conv => whnf); refine DL.exn 0 ⟨_, _, _, rfl, rfl, ?_⟩) | ((conv => whnf); refine DL.exn 1 ⟨_, _, _, rfl, rfl, ?_⟩) | ((conv => whnf); refine DL.exn 2 ⟨_, _, _, rfl, rfl, ?_⟩) | ((conv => whnf); refine DL.exn 3 ⟨_, _, _, rfl, rfl, ?_⟩) | ((conv => whnf); refine DL.exn 4 ⟨_, _, _, rfl, rfl, ?_⟩) | ((conv => whnf); refine DL.exn 5 ⟨_, _, _, rfl, rfl, ?_⟩) | ((conv => whnf); refine Or.inl ⟨by decide, by decide, ?_⟩) | ((conv => whnf); refine Or.inr ⟨_, rfl, by decide, ?_⟩) | ((conv => whnf); refine And.intro (by first | assumption | rfl | decide | omega | exact ⟨rfl, by decide⟩ | exact DL.pl_ints | exact DL.pl_pairs | exact DL.pl_pair | exact Nat.le_of_ble_eq_true rfl | exact ⟨rfl, rfl⟩ | exact small_ok (by omega) (by omega) | exact ⟨small_ok (by omega) (by omega), small_ok (by omega) (by omega)⟩ | exact cdiv_ok (by omega) (by omega) | exact cpow_ok (by omega) (by omega) (by omega) (by omega) | decide +kernel) ?_) | (refine DL.ifF (by first | assumption | decide | omega | (simp; omega) | (simp; done) | (simp [*]; omega) | (simp [*]; done) | (simp [DL.beq_ints, DL.beq_pairs, *]; done) | fail) ?_) | (refine DL.ifT (by first | assumption | decide | omega | (simp; omega) | (simp; done) | (simp [*]; omega) | (simp [*]; done) | (simp [DL.beq_ints, DL.beq_pairs, *]; done) | fail) ?_) | fail)
  have hcut : cutD (IL fs) none (some (3 + (d : Int))) = IL (fs.take (3 + d)) := by
    rw [show (3 : Int) + (d : Int) = ((3 + d : Nat) : Int) by omega, cut_take (by simp; omega)]; simp [IL, List.map_take]
  have ht : (fs.take (3 + d)).length = 3 + d := by rw [List.length_take]; omega
  have htn : (fs.take (3 + d)).Nodup := hfn.sublist (List.take_sublist _ _)
  have htm : ∀ x ∈ fs.take (3 + d), 1 ≤ x ∧ x ≤ n := fun x hx => hfm x (List.mem_of_mem_take hx)
  by_cases s0 : sort = 0
  · subst s0
    repeat (first | ((conv => whnf); refine ⟨_, rfl, ?_⟩) | ((conv => whnf); refine ⟨_, _, rfl, ?_⟩) | ((conv => whnf); refine ⟨_, _, _, rfl, ?_⟩) | ((conv => whnf); refine ⟨_, _, _, _, rfl, ?_⟩) | ((conv => whnf); refine DL.exn 0 ⟨_, rfl, ?_⟩) | ((conv => whnf); refine DL.exn 1 ⟨_, rfl, ?_⟩) | ((conv => whnf); refine DL.exn 2 ⟨_, rfl, ?_⟩) | ((conv => whnf); refine DL.exn 3 ⟨_, rfl, ?_⟩) | ((conv => whnf); refine DL.exn 4 ⟨_, rfl, ?_⟩) | ((conv => whnf); refine DL.exn 5 ⟨_, rfl, ?_⟩) | ((conv => whnf); refine DL.exn 0 ⟨_, _, rfl, rfl, ?_⟩) | ((conv => whnf); refine DL.exn 1 ⟨_, _, rfl, rfl, ?_⟩) | ((conv => whnf); refine DL.exn 2 ⟨_, _, rfl, rfl, ?_⟩) | ((conv => whnf); refine DL.exn 3 ⟨_, _, rfl, rfl, ?_⟩) | ((conv => whnf); refine DL.exn 4 ⟨_, _, rfl, rfl, ?_⟩) | ((conv => whnf); refine DL.exn 5 ⟨_, _, rfl, rfl, ?_⟩) | ((conv => whnf); refine DL.exn 0 ⟨_, _, rfl, ?_⟩) | ((conv => whnf); refine DL.exn 1 ⟨_, _, rfl, ?_⟩) | ((conv => whnf); refine DL.exn 2 ⟨_, _, rfl, ?_⟩) | ((conv => whnf); refine DL.exn 3 ⟨_, _, rfl, ?_⟩) | ((conv => whnf); refine DL.exn 4 ⟨_, _, rfl, ?_⟩) | ((conv => whnf); refine DL.exn 5 ⟨_, _, rfl, ?_⟩) | ((conv => whnf); refine DL.exn 0 ⟨_, _, _, rfl, rfl, ?_⟩) | ((conv => whnf); refine DL.exn 1 ⟨_, _, _, rfl, rfl, ?_⟩) | ((conv => whnf); refine DL.exn 2 ⟨_, _, _, rfl, rfl, ?_⟩) | ((conv => whnf); refine DL.exn 3 ⟨_, _, _, rfl, rfl, ?_⟩) | ((conv => whnf); refine DL.exn 4 ⟨_, _, _, rfl, rfl, ?_⟩) | ((conv => whnf); refine DL.exn 5 ⟨_, _, _, rfl, rfl, ?_⟩) | ((conv => whnf); refine Or.inl ⟨by decide, by decide, ?_⟩) | ((conv => whnf); refine Or.inr ⟨_, rfl, by decide, ?_⟩) | ((conv => whnf); refine And.intro (by first | assumption | rfl | decide | omega | exact ⟨rfl, by decide⟩ | exact DL.pl_ints | exact DL.pl_pairs | exact DL.pl_pair | exact Nat.le_of_ble_eq_true rfl | exact ⟨rfl, rfl⟩ | exact small_ok (by omega) (by omega) | exact ⟨small_ok (by omega) (by omega), small_ok (by omega) (by omega)⟩ | exact cdiv_ok (by omega) (by omega) | exact cpow_ok (by omega) (by omega) (by omega) (by omega) | decide +kernel) ?_) | (refine DL.ifF (by first | assumption | decide | omega | (simp; omega) | (simp; done) | (simp [*]; omega) | (simp [*]; done) | (simp [DL.beq_ints, DL.beq_pairs, *]; done) | fail) ?_) | (refine DL.ifT (by first | assumption | decide | omega | (simp; omega) | (simp; done) | (simp [*]; omega) | (simp [*]; done) | (simp [DL.beq_ints, DL.beq_pairs, *]; done) | fail) ?_) | fail)
    intro ps okp hw hl
    repeat (first | ((conv => whnf); refine ⟨_, rfl, ?_⟩) | ((conv => whnf); refine ⟨_, _, rfl, ?_⟩) | ((conv => whnf); refine ⟨_, _, _, rfl, ?_⟩) | ((conv => whnf); refine ⟨_, _, _, _, rfl, ?_⟩) | ((conv => whnf); refine DL.exn 0 ⟨_, rfl, ?_⟩) | ((conv => whnf); refine DL.exn 1 ⟨_, rfl, ?_⟩) | ((conv => whnf); refine DL.exn 2 ⟨_, rfl, ?_⟩) | ((conv => whnf); refine DL.exn 3 ⟨_, rfl, ?_⟩) | ((conv => whnf); refine DL.exn 4 ⟨_, rfl, ?_⟩) | ((conv => whnf); refine DL.exn 5 ⟨_, rfl, ?_⟩) | ((conv => whnf); refine DL.exn 0 ⟨_, _, rfl, rfl, ?_⟩) | ((conv => whnf); refine DL.exn 1 ⟨_, _, rfl, rfl, ?_⟩) | ((conv => whnf); refine DL.exn 2 ⟨_, _, rfl, rfl, ?_⟩) | ((conv => whnf); refine DL.exn 3 ⟨_, _, rfl, rfl, ?_⟩) | ((conv => whnf); refine DL.exn 4 ⟨_, _, rfl, rfl, ?_⟩) | ((conv => whnf); refine DL.exn 5 ⟨_, _, rfl, rfl, ?_⟩) | ((conv => whnf); refine DL.exn 0 ⟨_, _, rfl, ?_⟩) | ((conv => whnf); refine DL.exn 1 ⟨_, _, rfl, ?_⟩) | ((conv => whnf); refine DL.exn 2 ⟨_, _, rfl, ?_⟩) | ((conv => whnf); refine DL.exn 3 ⟨_, _, rfl, ?_⟩) | ((conv => whnf); refine DL.exn 4 ⟨_, _, rfl, ?_⟩) | ((conv => whnf); refine DL.exn 5 ⟨_, _, rfl, ?_⟩) | ((conv => whnf); refine DL.exn 0 ⟨_, _, _, rfl, rfl, ?_⟩) | ((conv => whnf); refine DL.exn 1 ⟨_, _, _, rfl, rfl, ?_⟩) | ((conv => whnf); refine DL.exn 2 ⟨_, _, _, rfl, rfl, ?_⟩) | ((conv => whnf); refine DL.exn 3 ⟨_, _, _, rfl, rfl, ?_⟩) | ((conv => whnf); refine DL.exn 4 ⟨_, _, _, rfl, rfl, ?_⟩) | ((conv => whnf); refine DL.exn 5 ⟨_, _, _, rfl, rfl, ?_⟩) | ((conv => whnf); refine Or.inl ⟨by decide, by decide, ?_⟩) | ((conv => whnf); refine Or.inr ⟨_, rfl, by decide, ?_⟩) | ((conv => whnf); refine And.intro (by first | assumption | rfl | decide | omega | exact ⟨rfl, by decide⟩ | exact DL.pl_ints | exact DL.pl_pairs | exact DL.pl_pair | exact Nat.le_of_ble_eq_true rfl | exact ⟨rfl, rfl⟩ | exact small_ok (by omega) (by omega) | exact ⟨small_ok (by omega) (by omega), small_ok (by omega) (by omega)⟩ | exact cdiv_ok (by omega) (by omega) | exact cpow_ok (by omega) (by omega) (by omega) (by omega) | decide +kernel) ?_) | (refine DL.ifF (by first | assumption | decide | omega | (simp; omega) | (simp; done) | (simp [*]; omega) | (simp [*]; done) | (simp [DL.beq_ints, DL.beq_pairs, *]; done) | fail) ?_) | (refine DL.ifT (by first | assumption | decide | omega | (simp; omega) | (simp; done) | (simp [*]; omega) | (simp [*]; done) | (simp [DL.beq_ints, DL.beq_pairs, *]; done) | fail) ?_) | fail)
    (conv => whnf)
    refine drawX (K := K) (a := a) (w := w3) (c := c) (k := k3) (n := 2) (F0 := []) (by omega) (by omega) (by omega) (by omega) fun d2 w4 k4 hd2 hk7 hk8 => ?_
    have : d2 = 0 ∨ d2 = 1 := by omega
    rcases this with rfl | rfl
    · repeat (first | ((conv => whnf); refine ⟨_, rfl, ?_⟩) | ((conv => whnf); refine ⟨_, _, rfl, ?_⟩) | ((conv => whnf); refine ⟨_, _, _, rfl, ?_⟩) | ((conv => whnf); refine ⟨_, _, _, _, rfl, ?_⟩) | ((conv => whnf); refine DL.exn 0 ⟨_, rfl, ?_⟩) | ((conv => whnf); refine DL.exn 1 ⟨_, rfl, ?_⟩) | ((conv => whnf); refine DL.exn 2 ⟨_, rfl, ?_⟩) | ((conv => whnf); refine DL.exn 3 ⟨_, rfl, ?_⟩) | ((conv => whnf); refine DL.exn 4 ⟨_, rfl, ?_⟩) | ((conv => whnf); refine DL.exn 5 ⟨_, rfl, ?_⟩) | ((conv => whnf); refine DL.exn 0 ⟨_, _, rfl, rfl, ?_⟩) | ((conv => whnf); refine DL.exn 1 ⟨_, _, rfl, rfl, ?_⟩) | ((conv => whnf); refine DL.exn 2 ⟨_, _, rfl, rfl, ?_⟩) | ((conv => whnf); refine DL.exn 3 ⟨_, _, rfl, rfl, ?_⟩) | ((conv => whnf); refine DL.exn 4 ⟨_, _, rfl, rfl, ?_⟩) | ((conv => whnf); refine DL.exn 5 ⟨_, _, rfl, rfl, ?_⟩) | ((conv => whnf); refine DL.exn 0 ⟨_, _, rfl, ?_⟩) | ((conv => whnf); refine DL.exn 1 ⟨_, _, rfl, ?_⟩) | ((conv => whnf); refine DL.exn 2 ⟨_, _, rfl, ?_⟩) | ((conv => whnf); refine DL.exn 3 ⟨_, _, rfl, ?_⟩) | ((conv => whnf); refine DL.exn 4 ⟨_, _, rfl, ?_⟩) | ((conv => whnf); refine DL.exn 5 ⟨_, _, rfl, ?_⟩) | ((conv => whnf); refine DL.exn 0 ⟨_, _, _, rfl, rfl, ?_⟩) | ((conv => whnf); refine DL.exn 1 ⟨_, _, _, rfl, rfl, ?_⟩) | ((conv => whnf); refine DL.exn 2 ⟨_, _, _, rfl, rfl, ?_⟩) | ((conv => whnf); refine DL.exn 3 ⟨_, _, _, rfl, rfl, ?_⟩) | ((conv => whnf); refine DL.exn 4 ⟨_, _, _, rfl, rfl, ?_⟩) | ((conv => whnf); refine DL.exn 5 ⟨_, _, _, rfl, rfl, ?_⟩) | ((conv => whnf); refine Or.inl ⟨by decide, by decide, ?_⟩) | ((conv => whnf); refine Or.inr ⟨_, rfl, by decide, ?_⟩) | ((conv => whnf); refine And.intro (by first | assumption | rfl | decide | omega | exact ⟨rfl, by decide⟩ | exact DL.pl_ints | exact DL.pl_pairs | exact DL.pl_pair | exact Nat.le_of_ble_eq_true rfl | exact ⟨rfl, rfl⟩ | exact small_ok (by omega) (by omega) | exact ⟨small_ok (by omega) (by omega), small_ok (by omega) (by omega)⟩ | exact cdiv_ok (by omega) (by omega) | exact cpow_ok (by omega) (by omega) (by omega) (by omega) | decide +kernel) ?_) | (refine DL.ifF (by first | assumption | decide | omega | (simp; omega) | (simp; done) | (simp [*]; omega) | (simp [*]; done) | (simp [DL.beq_ints, DL.beq_pairs, *]; done) | fail) ?_) | (refine DL.ifT (by first | assumption | decide | omega | (simp; omega) | (simp; done) | (simp [*]; omega) | (simp [*]; done) | (simp [DL.beq_ints, DL.beq_pairs, *]; done) | fail) ?_) | fail)
      exact rtn_all (q ps w4 k4 okp hl (by omega) (by omega))
    · repeat (first | ((conv => whnf); refine ⟨_, rfl, ?_⟩) | ((conv => whnf); refine ⟨_, _, rfl, ?_⟩) | ((conv => whnf); refine ⟨_, _, _, rfl, ?_⟩) | ((conv => whnf); refine ⟨_, _, _, _, rfl, ?_⟩) | ((conv => whnf); refine DL.exn 0 ⟨_, rfl, ?_⟩) | ((conv => whnf); refine DL.exn 1 ⟨_, rfl, ?_⟩) | ((conv => whnf); refine DL.exn 2 ⟨_, rfl, ?_⟩) | ((conv => whnf); refine DL.exn 3 ⟨_, rfl, ?_⟩) | ((conv => whnf); refine DL.exn 4 ⟨_, rfl, ?_⟩) | ((conv => whnf); refine DL.exn 5 ⟨_, rfl, ?_⟩) | ((conv => whnf); refine DL.exn 0 ⟨_, _, rfl, rfl, ?_⟩) | ((conv => whnf); refine DL.exn 1 ⟨_, _, rfl, rfl, ?_⟩) | ((conv => whnf); refine DL.exn 2 ⟨_, _, rfl, rfl, ?_⟩) | ((conv => whnf); refine DL.exn 3 ⟨_, _, rfl, rfl, ?_⟩) | ((conv => whnf); refine DL.exn 4 ⟨_, _, rfl, rfl, ?_⟩) | ((conv => whnf); refine DL.exn 5 ⟨_, _, rfl, rfl, ?_⟩) | ((conv => whnf); refine DL.exn 0 ⟨_, _, rfl, ?_⟩) | ((conv => whnf); refine DL.exn 1 ⟨_, _, rfl, ?_⟩) | ((conv => whnf); refine DL.exn 2 ⟨_, _, rfl, ?_⟩) | ((conv => whnf); refine DL.exn 3 ⟨_, _, rfl, ?_⟩) | ((conv => whnf); refine DL.exn 4 ⟨_, _, rfl, ?_⟩) | ((conv => whnf); refine DL.exn 5 ⟨_, _, rfl, ?_⟩) | ((conv => whnf); refine DL.exn 0 ⟨_, _, _, rfl, rfl, ?_⟩) | ((conv => whnf); refine DL.exn 1 ⟨_, _, _, rfl, rfl, ?_⟩) | ((conv => whnf); refine DL.exn 2 ⟨_, _, _, rfl, rfl, ?_⟩) | ((conv => whnf); refine DL.exn 3 ⟨_, _, _, rfl, rfl, ?_⟩) | ((conv => whnf); refine DL.exn 4 ⟨_, _, _, rfl, rfl, ?_⟩) | ((conv => whnf); refine DL.exn 5 ⟨_, _, _, rfl, rfl, ?_⟩) | ((conv => whnf); refine Or.inl ⟨by decide, by decide, ?_⟩) | ((conv => whnf); refine Or.inr ⟨_, rfl, by decide, ?_⟩) | ((conv => whnf); refine And.intro (by first | assumption | rfl | decide | omega | exact ⟨rfl, by decide⟩ | exact DL.pl_ints | exact DL.pl_pairs | exact DL.pl_pair | exact Nat.le_of_ble_eq_true rfl | exact ⟨rfl, rfl⟩ | exact small_ok (by omega) (by omega) | exact ⟨small_ok (by omega) (by omega), small_ok (by omega) (by omega)⟩ | exact cdiv_ok (by omega) (by omega) | exact cpow_ok (by omega) (by omega) (by omega) (by omega) | decide +kernel) ?_) | (refine DL.ifF (by first | assumption | decide | omega | (simp; omega) | (simp; done) | (simp [*]; omega) | (simp [*]; done) | (simp [DL.beq_ints, DL.beq_pairs, *]; done) | fail) ?_) | (refine DL.ifT (by first | assumption | decide | omega | (simp; omega) | (simp; done) | (simp [*]; omega) | (simp [*]; done) | (simp [DL.beq_ints, DL.beq_pairs, *]; done) | fail) ?_) | fail)
      exact rtn_all (q [] w4 k4 ⟨h3, h9, List.nodup_nil, by simp⟩ (by simp) (by omega) (by omega))
  by_cases s1 : sort = 1
  · subst s1
    repeat (first | ((conv => whnf); refine ⟨_, rfl, ?_⟩) | ((conv => whnf); refine ⟨_, _, rfl, ?_⟩) | ((conv => whnf); refine ⟨_, _, _, rfl, ?_⟩) | ((conv => whnf); refine ⟨_, _, _, _, rfl, ?_⟩) | ((conv => whnf); refine DL.exn 0 ⟨_, rfl, ?_⟩) | ((conv => whnf); refine DL.exn 1 ⟨_, rfl, ?_⟩) | ((conv => whnf); refine DL.exn 2 ⟨_, rfl, ?_⟩) | ((conv => whnf); refine DL.exn 3 ⟨_, rfl, ?_⟩) | ((conv => whnf); refine DL.exn 4 ⟨_, rfl, ?_⟩) | ((conv => whnf); refine DL.exn 5 ⟨_, rfl, ?_⟩) | ((conv => whnf); refine DL.exn 0 ⟨_, _, rfl, rfl, ?_⟩) | ((conv => whnf); refine DL.exn 1 ⟨_, _, rfl, rfl, ?_⟩) | ((conv => whnf); refine DL.exn 2 ⟨_, _, rfl, rfl, ?_⟩) | ((conv => whnf); refine DL.exn 3 ⟨_, _, rfl, rfl, ?_⟩) | ((conv => whnf); refine DL.exn 4 ⟨_, _, rfl, rfl, ?_⟩) | ((conv => whnf); refine DL.exn 5 ⟨_, _, rfl, rfl, ?_⟩) | ((conv => whnf); refine DL.exn 0 ⟨_, _, rfl, ?_⟩) | ((conv => whnf); refine DL.exn 1 ⟨_, _, rfl, ?_⟩) | ((conv => whnf); refine DL.exn 2 ⟨_, _, rfl, ?_⟩) | ((conv => whnf); refine DL.exn 3 ⟨_, _, rfl, ?_⟩) | ((conv => whnf); refine DL.exn 4 ⟨_, _, rfl, ?_⟩) | ((conv => whnf); refine DL.exn 5 ⟨_, _, rfl, ?_⟩) | ((conv => whnf); refine DL.exn 0 ⟨_, _, _, rfl, rfl, ?_⟩) | ((conv => whnf); refine DL.exn 1 ⟨_, _, _, rfl, rfl, ?_⟩) | ((conv => whnf); refine DL.exn 2 ⟨_, _, _, rfl, rfl, ?_⟩) | ((conv => whnf); refine DL.exn 3 ⟨_, _, _, rfl, rfl, ?_⟩) | ((conv => whnf); refine DL.exn 4 ⟨_, _, _, rfl, rfl, ?_⟩) | ((conv => whnf); refine DL.exn 5 ⟨_, _, _, rfl, rfl, ?_⟩) | ((conv => whnf); refine Or.inl ⟨by decide, by decide, ?_⟩) | ((conv => whnf); refine Or.inr ⟨_, rfl, by decide, ?_⟩) | ((conv => whnf); refine And.intro (by first | assumption | rfl | decide | omega | exact ⟨rfl, by decide⟩ | exact DL.pl_ints | exact DL.pl_pairs | exact DL.pl_pair | exact Nat.le_of_ble_eq_true rfl | exact ⟨rfl, rfl⟩ | exact small_ok (by omega) (by omega) | exact ⟨small_ok (by omega) (by omega), small_ok (by omega) (by omega)⟩ | exact cdiv_ok (by omega) (by omega) | exact cpow_ok (by omega) (by omega) (by omega) (by omega) | decide +kernel) ?_) | (refine DL.ifF (by first | assumption | decide | omega | (simp; omega) | (simp; done) | (simp [*]; omega) | (simp [*]; done) | (simp [DL.beq_ints, DL.beq_pairs, *]; done) | fail) ?_) | (refine DL.ifT (by first | assumption | decide | omega | (simp; omega) | (simp; done) | (simp [*]; omega) | (simp [*]; done) | (simp [DL.beq_ints, DL.beq_pairs, *]; done) | fail) ?_) | fail)
    refine ⟨n, fs.take (3 + d), by show [D.lst (cutD (IL fs) none (some (3 + (d : Int))))] = _; rw [hcut], rfl, h3, h9, by omega, htn, htm, by omega, fun ps okp hl => ?_⟩
    repeat (first | ((conv => whnf); refine ⟨_, rfl, ?_⟩) | ((conv => whnf); refine ⟨_, _, rfl, ?_⟩) | ((conv => whnf); refine ⟨_, _, _, rfl, ?_⟩) | ((conv => whnf); refine ⟨_, _, _, _, rfl, ?_⟩) | ((conv => whnf); refine DL.exn 0 ⟨_, rfl, ?_⟩) | ((conv => whnf); refine DL.exn 1 ⟨_, rfl, ?_⟩) | ((conv => whnf); refine DL.exn 2 ⟨_, rfl, ?_⟩) | ((conv => whnf); refine DL.exn 3 ⟨_, rfl, ?_⟩) | ((conv => whnf); refine DL.exn 4 ⟨_, rfl, ?_⟩) | ((conv => whnf); refine DL.exn 5 ⟨_, rfl, ?_⟩) | ((conv => whnf); refine DL.exn 0 ⟨_, _, rfl, rfl, ?_⟩) | ((conv => whnf); refine DL.exn 1 ⟨_, _, rfl, rfl, ?_⟩) | ((conv => whnf); refine DL.exn 2 ⟨_, _, rfl, rfl, ?_⟩) | ((conv => whnf); refine DL.exn 3 ⟨_, _, rfl, rfl, ?_⟩) | ((conv => whnf); refine DL.exn 4 ⟨_, _, rfl, rfl, ?_⟩) | ((conv => whnf); refine DL.exn 5 ⟨_, _, rfl, rfl, ?_⟩) | ((conv => whnf); refine DL.exn 0 ⟨_, _, rfl, ?_⟩) | ((conv => whnf); refine DL.exn 1 ⟨_, _, rfl, ?_⟩) | ((conv => whnf); refine DL.exn 2 ⟨_, _, rfl, ?_⟩) | ((conv => whnf); refine DL.exn 3 ⟨_, _, rfl, ?_⟩) | ((conv => whnf); refine DL.exn 4 ⟨_, _, rfl, ?_⟩) | ((conv => whnf); refine DL.exn 5 ⟨_, _, rfl, ?_⟩) | ((conv => whnf); refine DL.exn 0 ⟨_, _, _, rfl, rfl, ?_⟩) | ((conv => whnf); refine DL.exn 1 ⟨_, _, _, rfl, rfl, ?_⟩) | ((conv => whnf); refine DL.exn 2 ⟨_, _, _, rfl, rfl, ?_⟩) | ((conv => whnf); refine DL.exn 3 ⟨_, _, _, rfl, rfl, ?_⟩) | ((conv => whnf); refine DL.exn 4 ⟨_, _, _, rfl, rfl, ?_⟩) | ((conv => whnf); refine DL.exn 5 ⟨_, _, _, rfl, rfl, ?_⟩) | ((conv => whnf); refine Or.inl ⟨by decide, by decide, ?_⟩) | ((conv => whnf); refine Or.inr ⟨_, rfl, by decide, ?_⟩) | ((conv => whnf); refine And.intro (by first | assumption | rfl | decide | omega | exact ⟨rfl, by decide⟩ | exact DL.pl_ints | exact DL.pl_pairs | exact DL.pl_pair | exact Nat.le_of_ble_eq_true rfl | exact ⟨rfl, rfl⟩ | exact small_ok (by omega) (by omega) | exact ⟨small_ok (by omega) (by omega), small_ok (by omega) (by omega)⟩ | exact cdiv_ok (by omega) (by omega) | exact cpow_ok (by omega) (by omega) (by omega) (by omega) | decide +kernel) ?_) | (refine DL.ifF (by first | assumption | decide | omega | (simp; omega) | (simp; done) | (simp [*]; omega) | (simp [*]; done) | (simp [DL.beq_ints, DL.beq_pairs, *]; done) | fail) ?_) | (refine DL.ifT (by first | assumption | decide | omega | (simp; omega) | (simp; done) | (simp [*]; omega) | (simp [*]; done) | (simp [DL.beq_ints, DL.beq_pairs, *]; done) | fail) ?_) | fail)
    (conv => whnf)
    refine shufX (K := K) (a := a) (w := w3) (c := c) (k := k3) (f := pairD) (xs := ps) (F0 := []) (by omega) (by omega) (by omega) (fun _ => pl_pair) fun ys w4 k4 hp4 hk7 hk8 => ?_
    exact rtn_all (q ys w4 k4 (okp.perm hp4) (by have := hp4.length_eq; omega) (by omega) (by omega))
  by_cases s2 : sort = 2
  · subst s2
    repeat (first | ((conv => whnf); refine ⟨_, rfl, ?_⟩) | ((conv => whnf); refine ⟨_, _, rfl, ?_⟩) | ((conv => whnf); refine ⟨_, _, _, rfl, ?_⟩) | ((conv => whnf); refine ⟨_, _, _, _, rfl, ?_⟩) | ((conv => whnf); refine DL.exn 0 ⟨_, rfl, ?_⟩) | ((conv => whnf); refine DL.exn 1 ⟨_, rfl, ?_⟩) | ((conv => whnf); refine DL.exn 2 ⟨_, rfl, ?_⟩) | ((conv => whnf); refine DL.exn 3 ⟨_, rfl, ?_⟩) | ((conv => whnf); refine DL.exn 4 ⟨_, rfl, ?_⟩) | ((conv => whnf); refine DL.exn 5 ⟨_, rfl, ?_⟩) | ((conv => whnf); refine DL.exn 0 ⟨_, _, rfl, rfl, ?_⟩) | ((conv => whnf); refine DL.exn 1 ⟨_, _, rfl, rfl, ?_⟩) | ((conv => whnf); refine DL.exn 2 ⟨_, _, rfl, rfl, ?_⟩) | ((conv => whnf); refine DL.exn 3 ⟨_, _, rfl, rfl, ?_⟩) | ((conv => whnf); refine DL.exn 4 ⟨_, _, rfl, rfl, ?_⟩) | ((conv => whnf); refine DL.exn 5 ⟨_, _, rfl, rfl, ?_⟩) | ((conv => whnf); refine DL.exn 0 ⟨_, _, rfl, ?_⟩) | ((conv => whnf); refine DL.exn 1 ⟨_, _, rfl, ?_⟩) | ((conv => whnf); refine DL.exn 2 ⟨_, _, rfl, ?_⟩) | ((conv => whnf); refine DL.exn 3 ⟨_, _, rfl, ?_⟩) | ((conv => whnf); refine DL.exn 4 ⟨_, _, rfl, ?_⟩) | ((conv => whnf); refine DL.exn 5 ⟨_, _, rfl, ?_⟩) | ((conv => whnf); refine DL.exn 0 ⟨_, _, _, rfl, rfl, ?_⟩) | ((conv => whnf); refine DL.exn 1 ⟨_, _, _, rfl, rfl, ?_⟩) | ((conv => whnf); refine DL.exn 2 ⟨_, _, _, rfl, rfl, ?_⟩) | ((conv => whnf); refine DL.exn 3 ⟨_, _, _, rfl, rfl, ?_⟩) | ((conv => whnf); refine DL.exn 4 ⟨_, _, _, rfl, rfl, ?_⟩) | ((conv => whnf); refine DL.exn 5 ⟨_, _, _, rfl, rfl, ?_⟩) | ((conv => whnf); refine Or.inl ⟨by decide, by decide, ?_⟩) | ((conv => whnf); refine Or.inr ⟨_, rfl, by decide, ?_⟩) | ((conv => whnf); refine And.intro (by first | assumption | rfl | decide | omega | exact ⟨rfl, by decide⟩ | exact DL.pl_ints | exact DL.pl_pairs | exact DL.pl_pair | exact Nat.le_of_ble_eq_true rfl | exact ⟨rfl, rfl⟩ | exact small_ok (by omega) (by omega) | exact ⟨small_ok (by omega) (by omega), small_ok (by omega) (by omega)⟩ | exact cdiv_ok (by omega) (by omega) | exact cpow_ok (by omega) (by omega) (by omega) (by omega) | decide +kernel) ?_) | (refine DL.ifF (by first | assumption | decide | omega | (simp; omega) | (simp; done) | (simp [*]; omega) | (simp [*]; done) | (simp [DL.beq_ints, DL.beq_pairs, *]; done) | fail) ?_) | (refine DL.ifT (by first | assumption | decide | omega | (simp; omega) | (simp; done) | (simp [*]; omega) | (simp [*]; done) | (simp [DL.beq_ints, DL.beq_pairs, *]; done) | fail) ?_) | fail)
    intro ps okp hw hl
    (conv => whnf)
    refine ⟨by simp [PL]; omega, ?_⟩
    refine cl_filt (fun d => d) (fun z => match z with | .tup [.int x, .int y] => decide (x ∈ fs.take (3 + d)) && decide (y ∈ fs.take (3 + d)) | _ => false) (fun dd hdd g1 g2 q1 q2 => ?_) ?_
    · obtain ⟨z, hz, rfl⟩ := List.mem_map.mp hdd
      repeat (first | ((conv => whnf); refine ⟨_, rfl, ?_⟩) | ((conv => whnf); refine ⟨_, _, rfl, ?_⟩) | ((conv => whnf); refine ⟨_, _, _, rfl, ?_⟩) | ((conv => whnf); refine ⟨_, _, _, _, rfl, ?_⟩) | ((conv => whnf); refine DL.exn 0 ⟨_, rfl, ?_⟩) | ((conv => whnf); refine DL.exn 1 ⟨_, rfl, ?_⟩) | ((conv => whnf); refine DL.exn 2 ⟨_, rfl, ?_⟩) | ((conv => whnf); refine DL.exn 3 ⟨_, rfl, ?_⟩) | ((conv => whnf); refine DL.exn 4 ⟨_, rfl, ?_⟩) | ((conv => whnf); refine DL.exn 5 ⟨_, rfl, ?_⟩) | ((conv => whnf); refine DL.exn 0 ⟨_, _, rfl, rfl, ?_⟩) | ((conv => whnf); refine DL.exn 1 ⟨_, _, rfl, rfl, ?_⟩) | ((conv => whnf); refine DL.exn 2 ⟨_, _, rfl, rfl, ?_⟩) | ((conv => whnf); refine DL.exn 3 ⟨_, _, rfl, rfl, ?_⟩) | ((conv => whnf); refine DL.exn 4 ⟨_, _, rfl, rfl, ?_⟩) | ((conv => whnf); refine DL.exn 5 ⟨_, _, rfl, rfl, ?_⟩) | ((conv => whnf); refine DL.exn 0 ⟨_, _, rfl, ?_⟩) | ((conv => whnf); refine DL.exn 1 ⟨_, _, rfl, ?_⟩) | ((conv => whnf); refine DL.exn 2 ⟨_, _, rfl, ?_⟩) | ((conv => whnf); refine DL.exn 3 ⟨_, _, rfl, ?_⟩) | ((conv => whnf); refine DL.exn 4 ⟨_, _, rfl, ?_⟩) | ((conv => whnf); refine DL.exn 5 ⟨_, _, rfl, ?_⟩) | ((conv => whnf); refine DL.exn 0 ⟨_, _, _, rfl, rfl, ?_⟩) | ((conv => whnf); refine DL.exn 1 ⟨_, _, _, rfl, rfl, ?_⟩) | ((conv => whnf); refine DL.exn 2 ⟨_, _, _, rfl, rfl, ?_⟩) | ((conv => whnf); refine DL.exn 3 ⟨_, _, _, rfl, rfl, ?_⟩) | ((conv => whnf); refine DL.exn 4 ⟨_, _, _, rfl, rfl, ?_⟩) | ((conv => whnf); refine DL.exn 5 ⟨_, _, _, rfl, rfl, ?_⟩) | ((conv => whnf); refine Or.inl ⟨by decide, by decide, ?_⟩) | ((conv => whnf); refine Or.inr ⟨_, rfl, by decide, ?_⟩) | ((conv => whnf); refine And.intro (by first | assumption | rfl | decide | omega | exact ⟨rfl, by decide⟩ | exact DL.pl_ints | exact DL.pl_pairs | exact DL.pl_pair | exact Nat.le_of_ble_eq_true rfl | exact ⟨rfl, rfl⟩ | exact small_ok (by omega) (by omega) | exact ⟨small_ok (by omega) (by omega), small_ok (by omega) (by omega)⟩ | exact cdiv_ok (by omega) (by omega) | exact cpow_ok (by omega) (by omega) (by omega) (by omega) | decide +kernel) ?_) | (refine DL.ifF (by first | assumption | decide | omega | (simp; omega) | (simp; done) | (simp [*]; omega) | (simp [*]; done) | (simp [DL.beq_ints, DL.beq_pairs, *]; done) | fail) ?_) | (refine DL.ifT (by first | assumption | decide | omega | (simp; omega) | (simp; done) | (simp [*]; omega) | (simp [*]; done) | (simp [DL.beq_ints, DL.beq_pairs, *]; done) | fail) ?_) | fail)
      (conv => whnf)
      have hcut' : cutD (List.map D.int fs) none (some (3 + (d : Int))) = List.map D.int (fs.take (3 + d)) := hcut
      rw [hcut']
      refine ⟨all_il, ?_⟩
      show (if ((List.map D.int (fs.take (3 + d))).any fun u => beq u (.int z.1)) = true then _ else _)
      rw [any_il]
      by_cases c1 : z.1 ∈ fs.take (3 + d)
      · rw [if_pos (by simpa using c1)]
        repeat (first | ((conv => whnf); refine ⟨_, rfl, ?_⟩) | ((conv => whnf); refine ⟨_, _, rfl, ?_⟩) | ((conv => whnf); refine ⟨_, _, _, rfl, ?_⟩) | ((conv => whnf); refine ⟨_, _, _, _, rfl, ?_⟩) | ((conv => whnf); refine DL.exn 0 ⟨_, rfl, ?_⟩) | ((conv => whnf); refine DL.exn 1 ⟨_, rfl, ?_⟩) | ((conv => whnf); refine DL.exn 2 ⟨_, rfl, ?_⟩) | ((conv => whnf); refine DL.exn 3 ⟨_, rfl, ?_⟩) | ((conv => whnf); refine DL.exn 4 ⟨_, rfl, ?_⟩) | ((conv => whnf); refine DL.exn 5 ⟨_, rfl, ?_⟩) | ((conv => whnf); refine DL.exn 0 ⟨_, _, rfl, rfl, ?_⟩) | ((conv => whnf); refine DL.exn 1 ⟨_, _, rfl, rfl, ?_⟩) | ((conv => whnf); refine DL.exn 2 ⟨_, _, rfl, rfl, ?_⟩) | ((conv => whnf); refine DL.exn 3 ⟨_, _, rfl, rfl, ?_⟩) | ((conv => whnf); refine DL.exn 4 ⟨_, _, rfl, rfl, ?_⟩) | ((conv => whnf); refine DL.exn 5 ⟨_, _, rfl, rfl, ?_⟩) | ((conv => whnf); refine DL.exn 0 ⟨_, _, rfl, ?_⟩) | ((conv => whnf); refine DL.exn 1 ⟨_, _, rfl, ?_⟩) | ((conv => whnf); refine DL.exn 2 ⟨_, _, rfl, ?_⟩) | ((conv => whnf); refine DL.exn 3 ⟨_, _, rfl, ?_⟩) | ((conv => whnf); refine DL.exn 4 ⟨_, _, rfl, ?_⟩) | ((conv => whnf); refine DL.exn 5 ⟨_, _, rfl, ?_⟩) | ((conv => whnf); refine DL.exn 0 ⟨_, _, _, rfl, rfl, ?_⟩) | ((conv => whnf); refine DL.exn 1 ⟨_, _, _, rfl, rfl, ?_⟩) | ((conv => whnf); refine DL.exn 2 ⟨_, _, _, rfl, rfl, ?_⟩) | ((conv => whnf); refine DL.exn 3 ⟨_, _, _, rfl, rfl, ?_⟩) | ((conv => whnf); refine DL.exn 4 ⟨_, _, _, rfl, rfl, ?_⟩) | ((conv => whnf); refine DL.exn 5 ⟨_, _, _, rfl, rfl, ?_⟩) | ((conv => whnf); refine Or.inl ⟨by decide, by decide, ?_⟩) | ((conv => whnf); refine Or.inr ⟨_, rfl, by decide, ?_⟩) | ((conv => whnf); refine And.intro (by first | assumption | rfl | decide | omega | exact ⟨rfl, by decide⟩ | exact DL.pl_ints | exact DL.pl_pairs | exact DL.pl_pair | exact Nat.le_of_ble_eq_true rfl | exact ⟨rfl, rfl⟩ | exact small_ok (by omega) (by omega) | exact ⟨small_ok (by omega) (by omega), small_ok (by omega) (by omega)⟩ | exact cdiv_ok (by omega) (by omega) | exact cpow_ok (by omega) (by omega) (by omega) (by omega) | decide +kernel) ?_) | (refine DL.ifF (by first | assumption | decide | omega | (simp; omega) | (simp; done) | (simp [*]; omega) | (simp [*]; done) | (simp [DL.beq_ints, DL.beq_pairs, *]; done) | fail) ?_) | (refine DL.ifT (by first | assumption | decide | omega | (simp; omega) | (simp; done) | (simp [*]; omega) | (simp [*]; done) | (simp [DL.beq_ints, DL.beq_pairs, *]; done) | fail) ?_) | fail)
        show (if ((List.map D.int (fs.take (3 + d))).any fun u => beq u (.int z.2)) = true then _ else _)
        rw [any_il]
        by_cases c2 : z.2 ∈ fs.take (3 + d)
        · rw [if_pos (by simpa using c2)]
          exact q1 (by show (decide _ && decide _) = true; rw [decide_eq_true c1, decide_eq_true c2]; rfl)
        · rw [if_neg (by simpa using c2)]
          exact q2 (by show (decide _ && decide _) = false; rw [decide_eq_true c1, decide_eq_false c2]; rfl)
      · rw [if_neg (by simpa using c1)]
        exact q2 (by show (decide _ && decide _) = false; rw [decide_eq_false c1]; rfl)
    · have ef : (PL ps).filter (fun z => match z with | .tup [.int x, .int y] => decide (x ∈ fs.take (3 + d)) && decide (y ∈ fs.take (3 + d)) | _ => false) = PL (ps.filter fun z => decide (z.1 ∈ fs.take (3 + d)) && decide (z.2 ∈ fs.take (3 + d))) := by
        rw [PL, List.filter_map]; rfl
      rw [ef, List.map_id']
      exact rtn_all (q _ w3 k3 (okp.sub List.filter_sublist) (by have := List.length_filter_le (fun z : Int × Int => decide (z.1 ∈ fs.take (3 + d)) && decide (z.2 ∈ fs.take (3 + d))) ps; omega) (by omega) (by omega))
  · repeat (first | ((conv => whnf); refine ⟨_, rfl, ?_⟩) | ((conv => whnf); refine ⟨_, _, rfl, ?_⟩) | ((conv => whnf); refine ⟨_, _, _, rfl, ?_⟩) | ((conv => whnf); refine ⟨_, _, _, _, rfl, ?_⟩) | ((conv => whnf); refine DL.exn 0 ⟨_, rfl, ?_⟩) | ((conv => whnf); refine DL.exn 1 ⟨_, rfl, ?_⟩) | ((conv => whnf); refine DL.exn 2 ⟨_, rfl, ?_⟩) | ((conv => whnf); refine DL.exn 3 ⟨_, rfl, ?_⟩) | ((conv => whnf); refine DL.exn 4 ⟨_, rfl, ?_⟩) | ((conv => whnf); refine DL.exn 5 ⟨_, rfl, ?_⟩) | ((conv => whnf); refine DL.exn 0 ⟨_, _, rfl, rfl, ?_⟩) | ((conv => whnf); refine DL.exn 1 ⟨_, _, rfl, rfl, ?_⟩) | ((conv => whnf); refine DL.exn 2 ⟨_, _, rfl, rfl, ?_⟩) | ((conv => whnf); refine DL.exn 3 ⟨_, _, rfl, rfl, ?_⟩) | ((conv => whnf); refine DL.exn 4 ⟨_, _, rfl, rfl, ?_⟩) | ((conv => whnf); refine DL.exn 5 ⟨_, _, rfl, rfl, ?_⟩) | ((conv => whnf); refine DL.exn 0 ⟨_, _, rfl, ?_⟩) | ((conv => whnf); refine DL.exn 1 ⟨_, _, rfl, ?_⟩) | ((conv => whnf); refine DL.exn 2 ⟨_, _, rfl, ?_⟩) | ((conv => whnf); refine DL.exn 3 ⟨_, _, rfl, ?_⟩) | ((conv => whnf); refine DL.exn 4 ⟨_, _, rfl, ?_⟩) | ((conv => whnf); refine DL.exn 5 ⟨_, _, rfl, ?_⟩) | ((conv => whnf); refine DL.exn 0 ⟨_, _, _, rfl, rfl, ?_⟩) | ((conv => whnf); refine DL.exn 1 ⟨_, _, _, rfl, rfl, ?_⟩) | ((conv => whnf); refine DL.exn 2 ⟨_, _, _, rfl, rfl, ?_⟩) | ((conv => whnf); refine DL.exn 3 ⟨_, _, _, rfl, rfl, ?_⟩) | ((conv => whnf); refine DL.exn 4 ⟨_, _, _, rfl, rfl, ?_⟩) | ((conv => whnf); refine DL.exn 5 ⟨_, _, _, rfl, rfl, ?_⟩) | ((conv => whnf); refine Or.inl ⟨by decide, by decide, ?_⟩) | ((conv => whnf); refine Or.inr ⟨_, rfl, by decide, ?_⟩) | ((conv => whnf); refine And.intro (by first | assumption | rfl | decide | omega | exact ⟨rfl, by decide⟩ | exact DL.pl_ints | exact DL.pl_pairs | exact DL.pl_pair | exact Nat.le_of_ble_eq_true rfl | exact ⟨rfl, rfl⟩ | exact small_ok (by omega) (by omega) | exact ⟨small_ok (by omega) (by omega), small_ok (by omega) (by omega)⟩ | exact cdiv_ok (by omega) (by omega) | exact cpow_ok (by omega) (by omega) (by omega) (by omega) | decide +kernel) ?_) | (refine DL.ifF (by first | assumption | decide | omega | (simp; omega) | (simp; done) | (simp [*]; omega) | (simp [*]; done) | (simp [DL.beq_ints, DL.beq_pairs, *]; done) | fail) ?_) | (refine DL.ifT (by first | assumption | decide | omega | (simp; omega) | (simp; done) | (simp [*]; omega) | (simp [*]; done) | (simp [DL.beq_ints, DL.beq_pairs, *]; done) | fail) ?_) | fail)
    obtain ⟨sh, hsh⟩ : ∃ sh : Int, atI [D.int 0, .int 0, .int 0, .int 1, .int 2, .int 3, .int 4, .int 6] (sort : Int) = some (.int sh) := by
      have : sort = 3 ∨ sort = 4 ∨ sort = 5 ∨ sort = 6 ∨ sort = 7 := by omega
      rcases this with rfl | rfl | rfl | rfl | rfl <;> exact ⟨_, rfl⟩
    (conv => whnf)
    refine ⟨_, hsh, ?_⟩
    repeat (first | ((conv => whnf); refine ⟨_, rfl, ?_⟩) | ((conv => whnf); refine ⟨_, _, rfl, ?_⟩) | ((conv => whnf); refine ⟨_, _, _, rfl, ?_⟩) | ((conv => whnf); refine ⟨_, _, _, _, rfl, ?_⟩) | ((conv => whnf); refine DL.exn 0 ⟨_, rfl, ?_⟩) | ((conv => whnf); refine DL.exn 1 ⟨_, rfl, ?_⟩) | ((conv => whnf); refine DL.exn 2 ⟨_, rfl, ?_⟩) | ((conv => whnf); refine DL.exn 3 ⟨_, rfl, ?_⟩) | ((conv => whnf); refine DL.exn 4 ⟨_, rfl, ?_⟩) | ((conv => whnf); refine DL.exn 5 ⟨_, rfl, ?_⟩) | ((conv => whnf); refine DL.exn 0 ⟨_, _, rfl, rfl, ?_⟩) | ((conv => whnf); refine DL.exn 1 ⟨_, _, rfl, rfl, ?_⟩) | ((conv => whnf); refine DL.exn 2 ⟨_, _, rfl, rfl, ?_⟩) | ((conv => whnf); refine DL.exn 3 ⟨_, _, rfl, rfl, ?_⟩) | ((conv => whnf); refine DL.exn 4 ⟨_, _, rfl, rfl, ?_⟩) | ((conv => whnf); refine DL.exn 5 ⟨_, _, rfl, rfl, ?_⟩) | ((conv => whnf); refine DL.exn 0 ⟨_, _, rfl, ?_⟩) | ((conv => whnf); refine DL.exn 1 ⟨_, _, rfl, ?_⟩) | ((conv => whnf); refine DL.exn 2 ⟨_, _, rfl, ?_⟩) | ((conv => whnf); refine DL.exn 3 ⟨_, _, rfl, ?_⟩) | ((conv => whnf); refine DL.exn 4 ⟨_, _, rfl, ?_⟩) | ((conv => whnf); refine DL.exn 5 ⟨_, _, rfl, ?_⟩) | ((conv => whnf); refine DL.exn 0 ⟨_, _, _, rfl, rfl, ?_⟩) | ((conv => whnf); refine DL.exn 1 ⟨_, _, _, rfl, rfl, ?_⟩) | ((conv => whnf); refine DL.exn 2 ⟨_, _, _, rfl, rfl, ?_⟩) | ((conv => whnf); refine DL.exn 3 ⟨_, _, _, rfl, rfl, ?_⟩) | ((conv => whnf); refine DL.exn 4 ⟨_, _, _, rfl, rfl, ?_⟩) | ((conv => whnf); refine DL.exn 5 ⟨_, _, _, rfl, rfl, ?_⟩) | ((conv => whnf); refine Or.inl ⟨by decide, by decide, ?_⟩) | ((conv => whnf); refine Or.inr ⟨_, rfl, by decide, ?_⟩) | ((conv => whnf); refine And.intro (by first | assumption | rfl | decide | omega | exact ⟨rfl, by decide⟩ | exact DL.pl_ints | exact DL.pl_pairs | exact DL.pl_pair | exact Nat.le_of_ble_eq_true rfl | exact ⟨rfl, rfl⟩ | exact small_ok (by omega) (by omega) | exact ⟨small_ok (by omega) (by omega), small_ok (by omega) (by omega)⟩ | exact cdiv_ok (by omega) (by omega) | exact cpow_ok (by omega) (by omega) (by omega) (by omega) | decide +kernel) ?_) | (refine DL.ifF (by first | assumption | decide | omega | (simp; omega) | (simp; done) | (simp [*]; omega) | (simp [*]; done) | (simp [DL.beq_ints, DL.beq_pairs, *]; done) | fail) ?_) | (refine DL.ifT (by first | assumption | decide | omega | (simp; omega) | (simp; done) | (simp [*]; omega) | (simp [*]; done) | (simp [DL.beq_ints, DL.beq_pairs, *]; done) | fail) ?_) | fail)
    intro ps okp hw hl
    (conv => whnf)
    refine ⟨by simp [PL]; omega, ?_⟩
    refine cl_ind (fun its acc M => ∃ (qs rs : List (Int × Int)) (w' k' : Int), its = PL qs ∧ acc = PL rs ∧ (rs ++ qs).Sublist ps ∧ M = [(a, wl w' c k')] ∧ k3 ≤ k' ∧ k' + qs.length ≤ k3 + ps.length) ?_ ?_ ⟨ps, [], w3, k3, rfl, rfl, List.Sublist.refl _, rfl, by omega, by omega⟩
    · rintro _ _ ⟨qs, rs, w', k', e, rfl, hsl, rfl, hk7, hk8⟩
      have okr := okp.sub ((List.sublist_append_left rs qs).trans hsl)
      have hrl2 := okr.len
      repeat (first | ((conv => whnf); refine ⟨_, rfl, ?_⟩) | ((conv => whnf); refine ⟨_, _, rfl, ?_⟩) | ((conv => whnf); refine ⟨_, _, _, rfl, ?_⟩) | ((conv => whnf); refine ⟨_, _, _, _, rfl, ?_⟩) | ((conv => whnf); refine DL.exn 0 ⟨_, rfl, ?_⟩) | ((conv => whnf); refine DL.exn 1 ⟨_, rfl, ?_⟩) | ((conv => whnf); refine DL.exn 2 ⟨_, rfl, ?_⟩) | ((conv => whnf); refine DL.exn 3 ⟨_, rfl, ?_⟩) | ((conv => whnf); refine DL.exn 4 ⟨_, rfl, ?_⟩) | ((conv => whnf); refine DL.exn 5 ⟨_, rfl, ?_⟩) | ((conv => whnf); refine DL.exn 0 ⟨_, _, rfl, rfl, ?_⟩) | ((conv => whnf); refine DL.exn 1 ⟨_, _, rfl, rfl, ?_⟩) | ((conv => whnf); refine DL.exn 2 ⟨_, _, rfl, rfl, ?_⟩) | ((conv => whnf); refine DL.exn 3 ⟨_, _, rfl, rfl, ?_⟩) | ((conv => whnf); refine DL.exn 4 ⟨_, _, rfl, rfl, ?_⟩) | ((conv => whnf); refine DL.exn 5 ⟨_, _, rfl, rfl, ?_⟩) | ((conv => whnf); refine DL.exn 0 ⟨_, _, rfl, ?_⟩) | ((conv => whnf); refine DL.exn 1 ⟨_, _, rfl, ?_⟩) | ((conv => whnf); refine DL.exn 2 ⟨_, _, rfl, ?_⟩) | ((conv => whnf); refine DL.exn 3 ⟨_, _, rfl, ?_⟩) | ((conv => whnf); refine DL.exn 4 ⟨_, _, rfl, ?_⟩) | ((conv => whnf); refine DL.exn 5 ⟨_, _, rfl, ?_⟩) | ((conv => whnf); refine DL.exn 0 ⟨_, _, _, rfl, rfl, ?_⟩) | ((conv => whnf); refine DL.exn 1 ⟨_, _, _, rfl, rfl, ?_⟩) | ((conv => whnf); refine DL.exn 2 ⟨_, _, _, rfl, rfl, ?_⟩) | ((conv => whnf); refine DL.exn 3 ⟨_, _, _, rfl, rfl, ?_⟩) | ((conv => whnf); refine DL.exn 4 ⟨_, _, _, rfl, rfl, ?_⟩) | ((conv => whnf); refine DL.exn 5 ⟨_, _, _, rfl, rfl, ?_⟩) | ((conv => whnf); refine Or.inl ⟨by decide, by decide, ?_⟩) | ((conv => whnf); refine Or.inr ⟨_, rfl, by decide, ?_⟩) | ((conv => whnf); refine And.intro (by first | assumption | rfl | decide | omega | exact ⟨rfl, by decide⟩ | exact DL.pl_ints | exact DL.pl_pairs | exact DL.pl_pair | exact Nat.le_of_ble_eq_true rfl | exact ⟨rfl, rfl⟩ | exact small_ok (by omega) (by omega) | exact ⟨small_ok (by omega) (by omega), small_ok (by omega) (by omega)⟩ | exact cdiv_ok (by omega) (by omega) | exact cpow_ok (by omega) (by omega) (by omega) (by omega) | decide +kernel) ?_) | (refine DL.ifF (by first | assumption | decide | omega | (simp; omega) | (simp; done) | (simp [*]; omega) | (simp [*]; done) | (simp [DL.beq_ints, DL.beq_pairs, *]; done) | fail) ?_) | (refine DL.ifT (by first | assumption | decide | omega | (simp; omega) | (simp; done) | (simp [*]; omega) | (simp [*]; done) | (simp [DL.beq_ints, DL.beq_pairs, *]; done) | fail) ?_) | fail)
      (conv => whnf)
      refine shufX (K := K) (a := a) (w := w') (c := c) (k := k') (f := pairD) (xs := rs) (F0 := []) (by omega) (by omega) (by omega) (fun _ => pl_pair) fun ys w4 k4 hp4 hk7 hk8 => ?_
      exact rtn_all (q ys w4 k4 (okr.perm hp4) (by have := hp4.length_eq; omega) (by omega) (by omega))
    · rintro dd r _ _ K1 K2 ⟨qs, rs, w', k', e, rfl, hsl, rfl, hk7, hk8⟩ n1 n2
      cases qs with
      | nil => cases e
      | cons z qs =>
        cases e
        simp only [List.length_cons] at hk8
        repeat (first | ((conv => whnf); refine ⟨_, rfl, ?_⟩) | ((conv => whnf); refine ⟨_, _, rfl, ?_⟩) | ((conv => whnf); refine ⟨_, _, _, rfl, ?_⟩) | ((conv => whnf); refine ⟨_, _, _, _, rfl, ?_⟩) | ((conv => whnf); refine DL.exn 0 ⟨_, rfl, ?_⟩) | ((conv => whnf); refine DL.exn 1 ⟨_, rfl, ?_⟩) | ((conv => whnf); refine DL.exn 2 ⟨_, rfl, ?_⟩) | ((conv => whnf); refine DL.exn 3 ⟨_, rfl, ?_⟩) | ((conv => whnf); refine DL.exn 4 ⟨_, rfl, ?_⟩) | ((conv => whnf); refine DL.exn 5 ⟨_, rfl, ?_⟩) | ((conv => whnf); refine DL.exn 0 ⟨_, _, rfl, rfl, ?_⟩) | ((conv => whnf); refine DL.exn 1 ⟨_, _, rfl, rfl, ?_⟩) | ((conv => whnf); refine DL.exn 2 ⟨_, _, rfl, rfl, ?_⟩) | ((conv => whnf); refine DL.exn 3 ⟨_, _, rfl, rfl, ?_⟩) | ((conv => whnf); refine DL.exn 4 ⟨_, _, rfl, rfl, ?_⟩) | ((conv => whnf); refine DL.exn 5 ⟨_, _, rfl, rfl, ?_⟩) | ((conv => whnf); refine DL.exn 0 ⟨_, _, rfl, ?_⟩) | ((conv => whnf); refine DL.exn 1 ⟨_, _, rfl, ?_⟩) | ((conv => whnf); refine DL.exn 2 ⟨_, _, rfl, ?_⟩) | ((conv => whnf); refine DL.exn 3 ⟨_, _, rfl, ?_⟩) | ((conv => whnf); refine DL.exn 4 ⟨_, _, rfl, ?_⟩) | ((conv => whnf); refine DL.exn 5 ⟨_, _, rfl, ?_⟩) | ((conv => whnf); refine DL.exn 0 ⟨_, _, _, rfl, rfl, ?_⟩) | ((conv => whnf); refine DL.exn 1 ⟨_, _, _, rfl, rfl, ?_⟩) | ((conv => whnf); refine DL.exn 2 ⟨_, _, _, rfl, rfl, ?_⟩) | ((conv => whnf); refine DL.exn 3 ⟨_, _, _, rfl, rfl, ?_⟩) | ((conv => whnf); refine DL.exn 4 ⟨_, _, _, rfl, rfl, ?_⟩) | ((conv => whnf); refine DL.exn 5 ⟨_, _, _, rfl, rfl, ?_⟩) | ((conv => whnf); refine Or.inl ⟨by decide, by decide, ?_⟩) | ((conv => whnf); refine Or.inr ⟨_, rfl, by decide, ?_⟩) | ((conv => whnf); refine And.intro (by first | assumption | rfl | decide | omega | exact ⟨rfl, by decide⟩ | exact DL.pl_ints | exact DL.pl_pairs | exact DL.pl_pair | exact Nat.le_of_ble_eq_true rfl | exact ⟨rfl, rfl⟩ | exact small_ok (by omega) (by omega) | exact ⟨small_ok (by omega) (by omega), small_ok (by omega) (by omega)⟩ | exact cdiv_ok (by omega) (by omega) | exact cpow_ok (by omega) (by omega) (by omega) (by omega) | decide +kernel) ?_) | (refine DL.ifF (by first | assumption | decide | omega | (simp; omega) | (simp; done) | (simp [*]; omega) | (simp [*]; done) | (simp [DL.beq_ints, DL.beq_pairs, *]; done) | fail) ?_) | (refine DL.ifT (by first | assumption | decide | omega | (simp; omega) | (simp; done) | (simp [*]; omega) | (simp [*]; done) | (simp [DL.beq_ints, DL.beq_pairs, *]; done) | fail) ?_) | fail)
        (conv => whnf)
        refine drawX (K := K) (a := a) (w := w') (c := c) (k := k') (n := 8) (F0 := []) (by omega) (by omega) (by omega) (by omega) fun d2 w4 k4 hd2 hk9 hk10 => ?_
        have m1 := n1 (pairD z) [(a, wl w4 c k4)] ⟨qs, rs ++ [z], w4, k4, rfl, by simp [PL], by simpa using hsl, rfl, by omega, by omega⟩
        have m2 := n2 [(a, wl w4 c k4)] ⟨qs, rs, w4, k4, rfl, rfl, (List.Sublist.append_left (List.sublist_cons_self z qs) rs).trans hsl, rfl, by omega, by omega⟩
        by_cases hlt : (d2 : Int) < sh
        · repeat (first | ((conv => whnf); refine ⟨_, rfl, ?_⟩) | ((conv => whnf); refine ⟨_, _, rfl, ?_⟩) | ((conv => whnf); refine ⟨_, _, _, rfl, ?_⟩) | ((conv => whnf); refine ⟨_, _, _, _, rfl, ?_⟩) | ((conv => whnf); refine DL.exn 0 ⟨_, rfl, ?_⟩) | ((conv => whnf); refine DL.exn 1 ⟨_, rfl, ?_⟩) | ((conv => whnf); refine DL.exn 2 ⟨_, rfl, ?_⟩) | ((conv => whnf); refine DL.exn 3 ⟨_, rfl, ?_⟩) | ((conv => whnf); refine DL.exn 4 ⟨_, rfl, ?_⟩) | ((conv => whnf); refine DL.exn 5 ⟨_, rfl, ?_⟩) | ((conv => whnf); refine DL.exn 0 ⟨_, _, rfl, rfl, ?_⟩) | ((conv => whnf); refine DL.exn 1 ⟨_, _, rfl, rfl, ?_⟩) | ((conv => whnf); refine DL.exn 2 ⟨_, _, rfl, rfl, ?_⟩) | ((conv => whnf); refine DL.exn 3 ⟨_, _, rfl, rfl, ?_⟩) | ((conv => whnf); refine DL.exn 4 ⟨_, _, rfl, rfl, ?_⟩) | ((conv => whnf); refine DL.exn 5 ⟨_, _, rfl, rfl, ?_⟩) | ((conv => whnf); refine DL.exn 0 ⟨_, _, rfl, ?_⟩) | ((conv => whnf); refine DL.exn 1 ⟨_, _, rfl, ?_⟩) | ((conv => whnf); refine DL.exn 2 ⟨_, _, rfl, ?_⟩) | ((conv => whnf); refine DL.exn 3 ⟨_, _, rfl, ?_⟩) | ((conv => whnf); refine DL.exn 4 ⟨_, _, rfl, ?_⟩) | ((conv => whnf); refine DL.exn 5 ⟨_, _, rfl, ?_⟩) | ((conv => whnf); refine DL.exn 0 ⟨_, _, _, rfl, rfl, ?_⟩) | ((conv => whnf); refine DL.exn 1 ⟨_, _, _, rfl, rfl, ?_⟩) | ((conv => whnf); refine DL.exn 2 ⟨_, _, _, rfl, rfl, ?_⟩) | ((conv => whnf); refine DL.exn 3 ⟨_, _, _, rfl, rfl, ?_⟩) | ((conv => whnf); refine DL.exn 4 ⟨_, _, _, rfl, rfl, ?_⟩) | ((conv => whnf); refine DL.exn 5 ⟨_, _, _, rfl, rfl, ?_⟩) | ((conv => whnf); refine Or.inl ⟨by decide, by decide, ?_⟩) | ((conv => whnf); refine Or.inr ⟨_, rfl, by decide, ?_⟩) | ((conv => whnf); refine And.intro (by first | assumption | rfl | decide | omega | exact ⟨rfl, by decide⟩ | exact DL.pl_ints | exact DL.pl_pairs | exact DL.pl_pair | exact Nat.le_of_ble_eq_true rfl | exact ⟨rfl, rfl⟩ | exact small_ok (by omega) (by omega) | exact ⟨small_ok (by omega) (by omega), small_ok (by omega) (by omega)⟩ | exact cdiv_ok (by omega) (by omega) | exact cpow_ok (by omega) (by omega) (by omega) (by omega) | decide +kernel) ?_) | (refine DL.ifF (by first | assumption | decide | omega | (simp; omega) | (simp; done) | (simp [*]; omega) | (simp [*]; done) | (simp [DL.beq_ints, DL.beq_pairs, *]; done) | fail) ?_) | (refine DL.ifT (by first | assumption | decide | omega | (simp; omega) | (simp; done) | (simp [*]; omega) | (simp [*]; done) | (simp [DL.beq_ints, DL.beq_pairs, *]; done) | fail) ?_) | fail)
          exact m1
        · repeat (first | ((conv => whnf); refine ⟨_, rfl, ?_⟩) | ((conv => whnf); refine ⟨_, _, rfl, ?_⟩) | ((conv => whnf); refine ⟨_, _, _, rfl, ?_⟩) | ((conv => whnf); refine ⟨_, _, _, _, rfl, ?_⟩) | ((conv => whnf); refine DL.exn 0 ⟨_, rfl, ?_⟩) | ((conv => whnf); refine DL.exn 1 ⟨_, rfl, ?_⟩) | ((conv => whnf); refine DL.exn 2 ⟨_, rfl, ?_⟩) | ((conv => whnf); refine DL.exn 3 ⟨_, rfl, ?_⟩) | ((conv => whnf); refine DL.exn 4 ⟨_, rfl, ?_⟩) | ((conv => whnf); refine DL.exn 5 ⟨_, rfl, ?_⟩) | ((conv => whnf); refine DL.exn 0 ⟨_, _, rfl, rfl, ?_⟩) | ((conv => whnf); refine DL.exn 1 ⟨_, _, rfl, rfl, ?_⟩) | ((conv => whnf); refine DL.exn 2 ⟨_, _, rfl, rfl, ?_⟩) | ((conv => whnf); refine DL.exn 3 ⟨_, _, rfl, rfl, ?_⟩) | ((conv => whnf); refine DL.exn 4 ⟨_, _, rfl, rfl, ?_⟩) | ((conv => whnf); refine DL.exn 5 ⟨_, _, rfl, rfl, ?_⟩) | ((conv => whnf); refine DL.exn 0 ⟨_, _, rfl, ?_⟩) | ((conv => whnf); refine DL.exn 1 ⟨_, _, rfl, ?_⟩) | ((conv => whnf); refine DL.exn 2 ⟨_, _, rfl, ?_⟩) | ((conv => whnf); refine DL.exn 3 ⟨_, _, rfl, ?_⟩) | ((conv => whnf); refine DL.exn 4 ⟨_, _, rfl, ?_⟩) | ((conv => whnf); refine DL.exn 5 ⟨_, _, rfl, ?_⟩) | ((conv => whnf); refine DL.exn 0 ⟨_, _, _, rfl, rfl, ?_⟩) | ((conv => whnf); refine DL.exn 1 ⟨_, _, _, rfl, rfl, ?_⟩) | ((conv => whnf); refine DL.exn 2 ⟨_, _, _, rfl, rfl, ?_⟩) | ((conv => whnf); refine DL.exn 3 ⟨_, _, _, rfl, rfl, ?_⟩) | ((conv => whnf); refine DL.exn 4 ⟨_, _, _, rfl, rfl, ?_⟩) | ((conv => whnf); refine DL.exn 5 ⟨_, _, _, rfl, rfl, ?_⟩) | ((conv => whnf); refine Or.inl ⟨by decide, by decide, ?_⟩) | ((conv => whnf); refine Or.inr ⟨_, rfl, by decide, ?_⟩) | ((conv => whnf); refine And.intro (by first | assumption | rfl | decide | omega | exact ⟨rfl, by decide⟩ | exact DL.pl_ints | exact DL.pl_pairs | exact DL.pl_pair | exact Nat.le_of_ble_eq_true rfl | exact ⟨rfl, rfl⟩ | exact small_ok (by omega) (by omega) | exact ⟨small_ok (by omega) (by omega), small_ok (by omega) (by omega)⟩ | exact cdiv_ok (by omega) (by omega) | exact cpow_ok (by omega) (by omega) (by omega) (by omega) | decide +kernel) ?_) | (refine DL.ifF (by first | assumption | decide | omega | (simp; omega) | (simp; done) | (simp [*]; omega) | (simp [*]; done) | (simp [DL.beq_ints, DL.beq_pairs, *]; done) | fail) ?_) | (refine DL.ifT (by first | assumption | decide | omega | (simp; omega) | (simp; done) | (simp [*]; omega) | (simp [*]; done) | (simp [DL.beq_ints, DL.beq_pairs, *]; done) | fail) ?_) | fail)
          exact m2
end Nk66

set_option Elab.async false
set_option linter.all false
set_option maxRecDepth 100000
set_option maxHeartbeats 4000000
namespace Nk66
open PySem PySem.Spec L2 DL
theorem turn_sub {b : Bool} {z : Int × Int} {sr ev sr' ev' : List (Int × Int)} (h1 : b = true → ev' = ev ∧ ∀ x, x ∈ sr' ↔ x ∈ sr ∨ x = z) (h2 : b = false → (∀ x, x ∈ sr' ↔ x ∈ sr ∧ x ≠ z) ∧ (∀ x, x ∈ ev' ↔ x ∈ ev ∧ x ≠ z)) (sub : ∀ x ∈ ev, x ∈ sr) : ∀ x ∈ ev', x ∈ sr' := by
  intro x hx
  cases b with
  | true =>
    obtain ⟨rfl, h⟩ := h1 rfl
    exact (h x).mpr (.inl (sub x hx))
  | false =>
    obtain ⟨a, b⟩ := h2 rfl
    have := (b x).mp hx
    exact (a x).mpr ⟨sub x this.1, this.2⟩
theorem other_one {n p y : Int} (h3 : 3 ≤ n) (h9 : n ≤ 9) (hp0 : 0 ≤ p) (hp : p < n) (hy0 : 0 ≤ y) (hy : y < n - 1) : 0 ≤ (1 + p + y) % n ∧ (1 + p + y) % n < n ∧ (1 + p + y) % n ≠ p := by
  have : n = 3 ∨ n = 4 ∨ n = 5 ∨ n = 6 ∨ n = 7 ∨ n = 8 ∨ n = 9 := by omega
  rcases this with rfl | rfl | rfl | rfl | rfl | rfl | rfl <;> omega
theorem len_g_deed {K : PySem.W.Frag} : ∀ es M Q E, sp_g_deed K es M Q E → es.length = 3 := by
  rintro _ _ _ _ ⟨_, _, _, _, _, _, _, _, _, _, _, _, _, _, _, _, _, _, _, _, rfl, _⟩; rfl
theorem rd_g_deed {K : PySem.W.Frag} : ∀ es M Q E, sp_g_deed K es M Q E → t_g_deed K { nx := fun _ M => Rtn Q .non M, rt := Rtn Q } (startD nm_g_deed es) M := by
  rintro _ M Q _ ⟨a, w, c, k, t, cc, m, pa, ov, n, row0, first, ps, row, hs, sr, ev, path, over, turns, rfl, rfl, h0, h1, G, hz, hz1, hz2, q⟩
  have hn := G.rok.len
  have h3 := G.rok.lo
  have h9 := G.rok.hi
  have rI : ((IL row).length : Int) = n := by simp [hn]
  have rN : (IL row).length = row.length := by simp
  obtain ⟨F0, hF0⟩ : ∃ F0 : Cells, F0 = tb K t cc n ps row (path.length : Nat) hs ++ mm m pa ov row sr ev path over turns := ⟨_, rfl⟩
  repeat (first | ((conv => whnf); refine ⟨_, rfl, ?_⟩) | ((conv => whnf); refine ⟨_, _, rfl, ?_⟩) | ((conv => whnf); refine ⟨_, _, _, rfl, ?_⟩) | ((conv => whnf); refine ⟨_, _, _, _, rfl, ?_⟩) | ((conv => whnf); refine DL.exn 0 ⟨_, rfl, ?_⟩) | ((conv => whnf); refine DL.exn 1 ⟨_, rfl, ?_⟩) | ((conv => whnf); refine DL.exn 2 ⟨_, rfl, ?_⟩) | ((conv => whnf); refine DL.exn 3 ⟨_, rfl, ?_⟩) | ((conv => whnf); refine DL.exn 4 ⟨_, rfl, ?_⟩) | ((conv => whnf); refine DL.exn 5 ⟨_, rfl, ?_⟩) | ((conv => whnf); refine DL.exn 0 ⟨_, _, rfl, rfl, ?_⟩) | ((conv => whnf); refine DL.exn 1 ⟨_, _, rfl, rfl, ?_⟩) | ((conv => whnf); refine DL.exn 2 ⟨_, _, rfl, rfl, ?_⟩) | ((conv => whnf); refine DL.exn 3 ⟨_, _, rfl, rfl, ?_⟩) | ((conv => whnf); refine DL.exn 4 ⟨_, _, rfl, rfl, ?_⟩) | ((conv => whnf); refine DL.exn 5 ⟨_, _, rfl, rfl, ?_⟩) | ((conv => whnf); refine DL.exn 0 ⟨_, _, rfl, ?_⟩) | ((conv => whnf); refine DL.exn 1 ⟨_, _, rfl, ?_⟩) | ((conv => whnf); refine DL.exn 2 ⟨_, _, rfl, ?_⟩) | ((conv => whnf); refine DL.exn 3 ⟨_, _, rfl, ?_⟩) | ((conv => whnf); refine DL.exn 4 ⟨_, _, rfl, ?_⟩) | ((conv => whnf); refine DL.exn 5 ⟨_, _, rfl, ?_⟩) | ((conv => whnf); refine DL.exn 0 ⟨_, _, _, rfl, rfl, ?_⟩) | ((conv => whnf); refine DL.exn 1 ⟨_, _, _, rfl, rfl, ?_⟩) | ((conv => whnf); refine DL.exn 2 ⟨_, _, _, rfl, rfl, ?_⟩) | ((conv => whnf); refine DL.exn 3 ⟨_, _, _, rfl, rfl, ?_⟩) | ((conv => whnf); refine DL.exn 4 ⟨_, _, _, rfl, rfl, ?_⟩) | ((conv => whnf); refine DL.exn 5 ⟨_, _, _, rfl, rfl, ?_⟩) | ((conv => whnf); refine Or.inl ⟨by decide, by decide, ?_⟩) | ((conv => whnf); refine Or.inr ⟨_, rfl, by decide, ?_⟩) | ((conv => whnf); refine And.intro (by first | assumption | rfl | decide | omega | exact ⟨rfl, by decide⟩ | exact DL.pl_ints | exact DL.pl_pairs | exact DL.pl_pair | exact Nat.le_of_ble_eq_true rfl | exact ⟨rfl, rfl⟩ | exact small_ok (by omega) (by omega) | exact ⟨small_ok (by omega) (by omega), small_ok (by omega) (by omega)⟩ | exact cdiv_ok (by omega) (by omega) | exact cpow_ok (by omega) (by omega) (by omega) (by omega) | decide +kernel) ?_) | (refine DL.ifF (by first | assumption | decide | omega | (simp; omega) | (simp; done) | (simp [*]; omega) | (simp [*]; done) | (simp [DL.beq_ints, DL.beq_pairs, *]; done) | fail) ?_) | (refine DL.ifT (by first | assumption | decide | omega | (simp; omega) | (simp; done) | (simp [*]; omega) | (simp [*]; done) | (simp [DL.beq_ints, DL.beq_pairs, *]; done) | fail) ?_) | fail)
  (conv => whnf)
  refine drawX (K := K) (a := a) (w := w) (c := c) (k := k) (n := 12) (F0 := tb K t cc n ps row (path.length : Nat) hs ++ mm m pa ov row sr ev path over turns) (by omega) (by omega) (by omega) (by omega) fun sort w1 k1 hs1 hk1 hk2 => ?_
  repeat (first | ((conv => whnf); refine ⟨_, rfl, ?_⟩) | ((conv => whnf); refine ⟨_, _, rfl, ?_⟩) | ((conv => whnf); refine ⟨_, _, _, rfl, ?_⟩) | ((conv => whnf); refine ⟨_, _, _, _, rfl, ?_⟩) | ((conv => whnf); refine DL.exn 0 ⟨_, rfl, ?_⟩) | ((conv => whnf); refine DL.exn 1 ⟨_, rfl, ?_⟩) | ((conv => whnf); refine DL.exn 2 ⟨_, rfl, ?_⟩) | ((conv => whnf); refine DL.exn 3 ⟨_, rfl, ?_⟩) | ((conv => whnf); refine DL.exn 4 ⟨_, rfl, ?_⟩) | ((conv => whnf); refine DL.exn 5 ⟨_, rfl, ?_⟩) | ((conv => whnf); refine DL.exn 0 ⟨_, _, rfl, rfl, ?_⟩) | ((conv => whnf); refine DL.exn 1 ⟨_, _, rfl, rfl, ?_⟩) | ((conv => whnf); refine DL.exn 2 ⟨_, _, rfl, rfl, ?_⟩) | ((conv => whnf); refine DL.exn 3 ⟨_, _, rfl, rfl, ?_⟩) | ((conv => whnf); refine DL.exn 4 ⟨_, _, rfl, rfl, ?_⟩) | ((conv => whnf); refine DL.exn 5 ⟨_, _, rfl, rfl, ?_⟩) | ((conv => whnf); refine DL.exn 0 ⟨_, _, rfl, ?_⟩) | ((conv => whnf); refine DL.exn 1 ⟨_, _, rfl, ?_⟩) | ((conv => whnf); refine DL.exn 2 ⟨_, _, rfl, ?_⟩) | ((conv => whnf); refine DL.exn 3 ⟨_, _, rfl, ?_⟩) | ((conv => whnf); refine DL.exn 4 ⟨_, _, rfl, ?_⟩) | ((conv => whnf); refine DL.exn 5 ⟨_, _, rfl, ?_⟩) | ((conv => whnf); refine DL.exn 0 ⟨_, _, _, rfl, rfl, ?_⟩) | ((conv => whnf); refine DL.exn 1 ⟨_, _, _, rfl, rfl, ?_⟩) | ((conv => whnf); refine DL.exn 2 ⟨_, _, _, rfl, rfl, ?_⟩) | ((conv => whnf); refine DL.exn 3 ⟨_, _, _, rfl, rfl, ?_⟩) | ((conv => whnf); refine DL.exn 4 ⟨_, _, _, rfl, rfl, ?_⟩) | ((conv => whnf); refine DL.exn 5 ⟨_, _, _, rfl, rfl, ?_⟩) | ((conv => whnf); refine Or.inl ⟨by decide, by decide, ?_⟩) | ((conv => whnf); refine Or.inr ⟨_, rfl, by decide, ?_⟩) | ((conv => whnf); refine And.intro (by first | assumption | rfl | decide | omega | exact ⟨rfl, by decide⟩ | exact DL.pl_ints | exact DL.pl_pairs | exact DL.pl_pair | exact Nat.le_of_ble_eq_true rfl | exact ⟨rfl, rfl⟩ | exact small_ok (by omega) (by omega) | exact ⟨small_ok (by omega) (by omega), small_ok (by omega) (by omega)⟩ | exact cdiv_ok (by omega) (by omega) | exact cpow_ok (by omega) (by omega) (by omega) (by omega) | decide +kernel) ?_) | (refine DL.ifF (by first | assumption | decide | omega | (simp; omega) | (simp; done) | (simp [*]; omega) | (simp [*]; done) | (simp [DL.beq_ints, DL.beq_pairs, *]; done) | fail) ?_) | (refine DL.ifT (by first | assumption | decide | omega | (simp; omega) | (simp; done) | (simp [*]; omega) | (simp [*]; done) | (simp [DL.beq_ints, DL.beq_pairs, *]; done) | fail) ?_) | fail)
  (conv => whnf)
  refine drawX (K := K) (a := a) (w := w1) (c := c) (k := k1) (n := ((IL row).length : Nat)) (F0 := tb K t cc n ps row (path.length : Nat) hs ++ mm m pa ov row sr ev path over turns) (by omega) (by omega) (by omega) (by omega) fun p w2 k2 hs2 hk3 hk4 => ?_
  repeat (first | ((conv => whnf); refine ⟨_, rfl, ?_⟩) | ((conv => whnf); refine ⟨_, _, rfl, ?_⟩) | ((conv => whnf); refine ⟨_, _, _, rfl, ?_⟩) | ((conv => whnf); refine ⟨_, _, _, _, rfl, ?_⟩) | ((conv => whnf); refine DL.exn 0 ⟨_, rfl, ?_⟩) | ((conv => whnf); refine DL.exn 1 ⟨_, rfl, ?_⟩) | ((conv => whnf); refine DL.exn 2 ⟨_, rfl, ?_⟩) | ((conv => whnf); refine DL.exn 3 ⟨_, rfl, ?_⟩) | ((conv => whnf); refine DL.exn 4 ⟨_, rfl, ?_⟩) | ((conv => whnf); refine DL.exn 5 ⟨_, rfl, ?_⟩) | ((conv => whnf); refine DL.exn 0 ⟨_, _, rfl, rfl, ?_⟩) | ((conv => whnf); refine DL.exn 1 ⟨_, _, rfl, rfl, ?_⟩) | ((conv => whnf); refine DL.exn 2 ⟨_, _, rfl, rfl, ?_⟩) | ((conv => whnf); refine DL.exn 3 ⟨_, _, rfl, rfl, ?_⟩) | ((conv => whnf); refine DL.exn 4 ⟨_, _, rfl, rfl, ?_⟩) | ((conv => whnf); refine DL.exn 5 ⟨_, _, rfl, rfl, ?_⟩) | ((conv => whnf); refine DL.exn 0 ⟨_, _, rfl, ?_⟩) | ((conv => whnf); refine DL.exn 1 ⟨_, _, rfl, ?_⟩) | ((conv => whnf); refine DL.exn 2 ⟨_, _, rfl, ?_⟩) | ((conv => whnf); refine DL.exn 3 ⟨_, _, rfl, ?_⟩) | ((conv => whnf); refine DL.exn 4 ⟨_, _, rfl, ?_⟩) | ((conv => whnf); refine DL.exn 5 ⟨_, _, rfl, ?_⟩) | ((conv => whnf); refine DL.exn 0 ⟨_, _, _, rfl, rfl, ?_⟩) | ((conv => whnf); refine DL.exn 1 ⟨_, _, _, rfl, rfl, ?_⟩) | ((conv => whnf); refine DL.exn 2 ⟨_, _, _, rfl, rfl, ?_⟩) | ((conv => whnf); refine DL.exn 3 ⟨_, _, _, rfl, rfl, ?_⟩) | ((conv => whnf); refine DL.exn 4 ⟨_, _, _, rfl, rfl, ?_⟩) | ((conv => whnf); refine DL.exn 5 ⟨_, _, _, rfl, rfl, ?_⟩) | ((conv => whnf); refine Or.inl ⟨by decide, by decide, ?_⟩) | ((conv => whnf); refine Or.inr ⟨_, rfl, by decide, ?_⟩) | ((conv => whnf); refine And.intro (by first | assumption | rfl | decide | omega | exact ⟨rfl, by decide⟩ | exact DL.pl_ints | exact DL.pl_pairs | exact DL.pl_pair | exact Nat.le_of_ble_eq_true rfl | exact ⟨rfl, rfl⟩ | exact small_ok (by omega) (by omega) | exact ⟨small_ok (by omega) (by omega), small_ok (by omega) (by omega)⟩ | exact cdiv_ok (by omega) (by omega) | exact cpow_ok (by omega) (by omega) (by omega) (by omega) | decide +kernel) ?_) | (refine DL.ifF (by first | assumption | decide | omega | (simp; omega) | (simp; done) | (simp [*]; omega) | (simp [*]; done) | (simp [DL.beq_ints, DL.beq_pairs, *]; done) | fail) ?_) | (refine DL.ifT (by first | assumption | decide | omega | (simp; omega) | (simp; done) | (simp [*]; omega) | (simp [*]; done) | (simp [DL.beq_ints, DL.beq_pairs, *]; done) | fail) ?_) | fail)
  (conv => whnf)
  refine drawX (K := K) (a := a) (w := w2) (c := c) (k := k2) (n := ((IL row).length : Nat) - 1) (F0 := tb K t cc n ps row (path.length : Nat) hs ++ mm m pa ov row sr ev path over turns) (by omega) (by omega) (by omega) (by omega) fun y w3 k3 hs3 hk5 hk6 => ?_
  repeat (first | ((conv => whnf); refine ⟨_, rfl, ?_⟩) | ((conv => whnf); refine ⟨_, _, rfl, ?_⟩) | ((conv => whnf); refine ⟨_, _, _, rfl, ?_⟩) | ((conv => whnf); refine ⟨_, _, _, _, rfl, ?_⟩) | ((conv => whnf); refine DL.exn 0 ⟨_, rfl, ?_⟩) | ((conv => whnf); refine DL.exn 1 ⟨_, rfl, ?_⟩) | ((conv => whnf); refine DL.exn 2 ⟨_, rfl, ?_⟩) | ((conv => whnf); refine DL.exn 3 ⟨_, rfl, ?_⟩) | ((conv => whnf); refine DL.exn 4 ⟨_, rfl, ?_⟩) | ((conv => whnf); refine DL.exn 5 ⟨_, rfl, ?_⟩) | ((conv => whnf); refine DL.exn 0 ⟨_, _, rfl, rfl, ?_⟩) | ((conv => whnf); refine DL.exn 1 ⟨_, _, rfl, rfl, ?_⟩) | ((conv => whnf); refine DL.exn 2 ⟨_, _, rfl, rfl, ?_⟩) | ((conv => whnf); refine DL.exn 3 ⟨_, _, rfl, rfl, ?_⟩) | ((conv => whnf); refine DL.exn 4 ⟨_, _, rfl, rfl, ?_⟩) | ((conv => whnf); refine DL.exn 5 ⟨_, _, rfl, rfl, ?_⟩) | ((conv => whnf); refine DL.exn 0 ⟨_, _, rfl, ?_⟩) | ((conv => whnf); refine DL.exn 1 ⟨_, _, rfl, ?_⟩) | ((conv => whnf); refine DL.exn 2 ⟨_, _, rfl, ?_⟩) | ((conv => whnf); refine DL.exn 3 ⟨_, _, rfl, ?_⟩) | ((conv => whnf); refine DL.exn 4 ⟨_, _, rfl, ?_⟩) | ((conv => whnf); refine DL.exn 5 ⟨_, _, rfl, ?_⟩) | ((conv => whnf); refine DL.exn 0 ⟨_, _, _, rfl, rfl, ?_⟩) | ((conv => whnf); refine DL.exn 1 ⟨_, _, _, rfl, rfl, ?_⟩) | ((conv => whnf); refine DL.exn 2 ⟨_, _, _, rfl, rfl, ?_⟩) | ((conv => whnf); refine DL.exn 3 ⟨_, _, _, rfl, rfl, ?_⟩) | ((conv => whnf); refine DL.exn 4 ⟨_, _, _, rfl, rfl, ?_⟩) | ((conv => whnf); refine DL.exn 5 ⟨_, _, _, rfl, rfl, ?_⟩) | ((conv => whnf); refine Or.inl ⟨by decide, by decide, ?_⟩) | ((conv => whnf); refine Or.inr ⟨_, rfl, by decide, ?_⟩) | ((conv => whnf); refine And.intro (by first | assumption | rfl | decide | omega | exact ⟨rfl, by decide⟩ | exact DL.pl_ints | exact DL.pl_pairs | exact DL.pl_pair | exact Nat.le_of_ble_eq_true rfl | exact ⟨rfl, rfl⟩ | exact small_ok (by omega) (by omega) | exact ⟨small_ok (by omega) (by omega), small_ok (by omega) (by omega)⟩ | exact cdiv_ok (by omega) (by omega) | exact cpow_ok (by omega) (by omega) (by omega) (by omega) | decide +kernel) ?_) | (refine DL.ifF (by first | assumption | decide | omega | (simp; omega) | (simp; done) | (simp [*]; omega) | (simp [*]; done) | (simp [DL.beq_ints, DL.beq_pairs, *]; done) | fail) ?_) | (refine DL.ifT (by first | assumption | decide | omega | (simp; omega) | (simp; done) | (simp [*]; omega) | (simp [*]; done) | (simp [DL.beq_ints, DL.beq_pairs, *]; done) | fail) ?_) | fail)
  have ho := other_one (n := ((IL row).length : Nat)) (p := p) (y := y) (by omega) (by omega) (by omega) (by omega) (by omega) (by omega)
  by_cases s9 : (sort : Int) < 9
  · repeat (first | ((conv => whnf); refine ⟨_, rfl, ?_⟩) | ((conv => whnf); refine ⟨_, _, rfl, ?_⟩) | ((conv => whnf); refine ⟨_, _, _, rfl, ?_⟩) | ((conv => whnf); refine ⟨_, _, _, _, rfl, ?_⟩) | ((conv => whnf); refine DL.exn 0 ⟨_, rfl, ?_⟩) | ((conv => whnf); refine DL.exn 1 ⟨_, rfl, ?_⟩) | ((conv => whnf); refine DL.exn 2 ⟨_, rfl, ?_⟩) | ((conv => whnf); refine DL.exn 3 ⟨_, rfl, ?_⟩) | ((conv => whnf); refine DL.exn 4 ⟨_, rfl, ?_⟩) | ((conv => whnf); refine DL.exn 5 ⟨_, rfl, ?_⟩) | ((conv => whnf); refine DL.exn 0 ⟨_, _, rfl, rfl, ?_⟩) | ((conv => whnf); refine DL.exn 1 ⟨_, _, rfl, rfl, ?_⟩) | ((conv => whnf); refine DL.exn 2 ⟨_, _, rfl, rfl, ?_⟩) | ((conv => whnf); refine DL.exn 3 ⟨_, _, rfl, rfl, ?_⟩) | ((conv => whnf); refine DL.exn 4 ⟨_, _, rfl, rfl, ?_⟩) | ((conv => whnf); refine DL.exn 5 ⟨_, _, rfl, rfl, ?_⟩) | ((conv => whnf); refine DL.exn 0 ⟨_, _, rfl, ?_⟩) | ((conv => whnf); refine DL.exn 1 ⟨_, _, rfl, ?_⟩) | ((conv => whnf); refine DL.exn 2 ⟨_, _, rfl, ?_⟩) | ((conv => whnf); refine DL.exn 3 ⟨_, _, rfl, ?_⟩) | ((conv => whnf); refine DL.exn 4 ⟨_, _, rfl, ?_⟩) | ((conv => whnf); refine DL.exn 5 ⟨_, _, rfl, ?_⟩) | ((conv => whnf); refine DL.exn 0 ⟨_, _, _, rfl, rfl, ?_⟩) | ((conv => whnf); refine DL.exn 1 ⟨_, _, _, rfl, rfl, ?_⟩) | ((conv => whnf); refine DL.exn 2 ⟨_, _, _, rfl, rfl, ?_⟩) | ((conv => whnf); refine DL.exn 3 ⟨_, _, _, rfl, rfl, ?_⟩) | ((conv => whnf); refine DL.exn 4 ⟨_, _, _, rfl, rfl, ?_⟩) | ((conv => whnf); refine DL.exn 5 ⟨_, _, _, rfl, rfl, ?_⟩) | ((conv => whnf); refine Or.inl ⟨by decide, by decide, ?_⟩) | ((conv => whnf); refine Or.inr ⟨_, rfl, by decide, ?_⟩) | ((conv => whnf); refine And.intro (by first | assumption | rfl | decide | omega | exact ⟨rfl, by decide⟩ | exact DL.pl_ints | exact DL.pl_pairs | exact DL.pl_pair | exact Nat.le_of_ble_eq_true rfl | exact ⟨rfl, rfl⟩ | exact small_ok (by omega) (by omega) | exact ⟨small_ok (by omega) (by omega), small_ok (by omega) (by omega)⟩ | exact cdiv_ok (by omega) (by omega) | exact cpow_ok (by omega) (by omega) (by omega) (by omega) | decide +kernel) ?_) | (refine DL.ifF (by first | assumption | decide | omega | (simp; omega) | (simp; done) | (simp [*]; omega) | (simp [*]; done) | (simp [DL.beq_ints, DL.beq_pairs, *]; done) | fail) ?_) | (refine DL.ifT (by first | assumption | decide | omega | (simp; omega) | (simp; done) | (simp [*]; omega) | (simp [*]; done) | (simp [DL.beq_ints, DL.beq_pairs, *]; done) | fail) ?_) | fail)
    (conv => whnf)
    refine drawX (K := K) (a := a) (w := w3) (c := c) (k := k3) (n := 3) (F0 := tb K t cc n ps row (path.length : Nat) hs ++ mm m pa ov row sr ev path over turns) (by omega) (by omega) (by omega) (by omega) fun u w4 k4 hs4 hk7 hk8 => ?_
    repeat (first | ((conv => whnf); refine ⟨_, rfl, ?_⟩) | ((conv => whnf); refine ⟨_, _, rfl, ?_⟩) | ((conv => whnf); refine ⟨_, _, _, rfl, ?_⟩) | ((conv => whnf); refine ⟨_, _, _, _, rfl, ?_⟩) | ((conv => whnf); refine DL.exn 0 ⟨_, rfl, ?_⟩) | ((conv => whnf); refine DL.exn 1 ⟨_, rfl, ?_⟩) | ((conv => whnf); refine DL.exn 2 ⟨_, rfl, ?_⟩) | ((conv => whnf); refine DL.exn 3 ⟨_, rfl, ?_⟩) | ((conv => whnf); refine DL.exn 4 ⟨_, rfl, ?_⟩) | ((conv => whnf); refine DL.exn 5 ⟨_, rfl, ?_⟩) | ((conv => whnf); refine DL.exn 0 ⟨_, _, rfl, rfl, ?_⟩) | ((conv => whnf); refine DL.exn 1 ⟨_, _, rfl, rfl, ?_⟩) | ((conv => whnf); refine DL.exn 2 ⟨_, _, rfl, rfl, ?_⟩) | ((conv => whnf); refine DL.exn 3 ⟨_, _, rfl, rfl, ?_⟩) | ((conv => whnf); refine DL.exn 4 ⟨_, _, rfl, rfl, ?_⟩) | ((conv => whnf); refine DL.exn 5 ⟨_, _, rfl, rfl, ?_⟩) | ((conv => whnf); refine DL.exn 0 ⟨_, _, rfl, ?_⟩) | ((conv => whnf); refine DL.exn 1 ⟨_, _, rfl, ?_⟩) | ((conv => whnf); refine DL.exn 2 ⟨_, _, rfl, ?_⟩) | ((conv => whnf); refine DL.exn 3 ⟨_, _, rfl, ?_⟩) | ((conv => whnf); refine DL.exn 4 ⟨_, _, rfl, ?_⟩) | ((conv => whnf); refine DL.exn 5 ⟨_, _, rfl, ?_⟩) | ((conv => whnf); refine DL.exn 0 ⟨_, _, _, rfl, rfl, ?_⟩) | ((conv => whnf); refine DL.exn 1 ⟨_, _, _, rfl, rfl, ?_⟩) | ((conv => whnf); refine DL.exn 2 ⟨_, _, _, rfl, rfl, ?_⟩) | ((conv => whnf); refine DL.exn 3 ⟨_, _, _, rfl, rfl, ?_⟩) | ((conv => whnf); refine DL.exn 4 ⟨_, _, _, rfl, rfl, ?_⟩) | ((conv => whnf); refine DL.exn 5 ⟨_, _, _, rfl, rfl, ?_⟩) | ((conv => whnf); refine Or.inl ⟨by decide, by decide, ?_⟩) | ((conv => whnf); refine Or.inr ⟨_, rfl, by decide, ?_⟩) | ((conv => whnf); refine And.intro (by first | assumption | rfl | decide | omega | exact ⟨rfl, by decide⟩ | exact DL.pl_ints | exact DL.pl_pairs | exact DL.pl_pair | exact Nat.le_of_ble_eq_true rfl | exact ⟨rfl, rfl⟩ | exact small_ok (by omega) (by omega) | exact ⟨small_ok (by omega) (by omega), small_ok (by omega) (by omega)⟩ | exact cdiv_ok (by omega) (by omega) | exact cpow_ok (by omega) (by omega) (by omega) (by omega) | decide +kernel) ?_) | (refine DL.ifF (by first | assumption | decide | omega | (simp; omega) | (simp; done) | (simp [*]; omega) | (simp [*]; done) | (simp [DL.beq_ints, DL.beq_pairs, *]; done) | fail) ?_) | (refine DL.ifT (by first | assumption | decide | omega | (simp; omega) | (simp; done) | (simp [*]; omega) | (simp [*]; done) | (simp [DL.beq_ints, DL.beq_pairs, *]; done) | fail) ?_) | fail)
    rw [show rng 0 (1 + (u : Int)) = rng ((0 : Nat) : Int) (1 + u) from rfl]
    refine loop_ind (fun its ds M => ∃ (j : Nat) (w' k' : Int) (row' hs' path' over' : List Int) (v7 : Option D), its = rng j (1 + u) ∧ (j : Int) ≤ 1 + u ∧ Good n row0 first ps row' hs' sr ev path' over' ∧ k4 ≤ k' ∧ k' ≤ k4 + j ∧ path'.length ≤ path.length + j ∧
      ds = [some (.ref a), some (.ref t), some (.ref m), some (.int ((IL row).length : Nat)), some (.int sort), some (.int (1 + p)), some (.int (1 + (1 + (p : Int) + y) % ((IL row).length : Nat))), v7, none] ∧
      (M = (a, wl w' c k') :: (tb K t cc n ps row' (path'.length : Nat) hs' ++ mm m pa ov row' sr ev path' over' turns) ∨ M = (tb K t cc n ps row' (path'.length : Nat) hs' ++ mm m pa ov row' sr ev path' over' turns) ++ [(a, wl w' c k')])) ?_ ?_
      ⟨0, w4, k4, row, hs, path, over, none, rfl, by omega, G, by omega, by omega, by omega, rfl, .inl rfl⟩
    · rintro _ _ ⟨j, w', k', row', hs', path', over', v7, e, hj, G', hk9, hk10, hpl, rfl, hM⟩
      have q' := q w' k' ps row' hs' sr ev path' over' turns (by omega) (by omega) G' (by omega) (by omega) (by omega)
      rcases hM with rfl | rfl
      · exact rtn_all q'
      · exact rtn_at [5, 0, 0, 0, 0, 0] rfl q'
    · rintro d r _ _ NX ⟨j, w', k', row', hs', path', over', v7, e, hj, G', hk9, hk10, hpl, rfl, hM⟩ nx
      obtain ⟨hlt, rfl, rfl⟩ := rng_split e
      have hn' := G'.rok.len
      have fin : ∀ (i : Nat) (w5 k5 : Int), (i : Int) < ((IL row).length : Nat) → k' ≤ k5 → k5 ≤ k' + 1 → sp_g_one_change K [.ref t, .ref m, .int i] (tb K t cc n ps row' (path'.length : Nat) hs' ++ mm m pa ov row' sr ev path' over' turns)
          (fun _ M' => NX [some (.ref a), some (.ref t), some (.ref m), some (.int ((IL row).length : Nat)), some (.int sort), some (.int (1 + p)), some (.int (1 + (1 + (p : Int) + y) % ((IL row).length : Nat))), some (.int j), none] (M' ++ [(a, wl w5 c k5)])) X0 := fun i w5 k5 hi hk11 hk12 => by
        have hi' : i < row'.length := by omega
        refine ⟨t, cc, n, ps, row', _, hs', m, pa, ov, sr, ev, path', over', turns, i, rfl, rfl, G'.rok, G'.hl, G'.ol, hi', G'.eq, by omega, fun _ => ?_, fun hf => ?_⟩
        · exact nx _ _ ⟨j + 1, w5, k5, row', hs', path', over', _, rfl, by omega, G', by omega, by omega, by omega, rfl, .inr rfl⟩
        · have e1 : ((path'.length : Nat) : Int) + 1 = ((path' ++ [(i : Int)]).length : Nat) := by simp
          rw [e1]
          exact nx _ _ ⟨j + 1, w5, k5, swp row' i, lft row' hs' i, path' ++ [(i : Int)], ovr row' over' i, _, rfl, by omega, G'.change hi' hf, by omega, by omega, by simp; omega, rfl, .inr rfl⟩
      rcases hM with rfl | rfl
      · repeat (first | ((conv => whnf); refine ⟨_, rfl, ?_⟩) | ((conv => whnf); refine ⟨_, _, rfl, ?_⟩) | ((conv => whnf); refine ⟨_, _, _, rfl, ?_⟩) | ((conv => whnf); refine ⟨_, _, _, _, rfl, ?_⟩) | ((conv => whnf); refine DL.exn 0 ⟨_, rfl, ?_⟩) | ((conv => whnf); refine DL.exn 1 ⟨_, rfl, ?_⟩) | ((conv => whnf); refine DL.exn 2 ⟨_, rfl, ?_⟩) | ((conv => whnf); refine DL.exn 3 ⟨_, rfl, ?_⟩) | ((conv => whnf); refine DL.exn 4 ⟨_, rfl, ?_⟩) | ((conv => whnf); refine DL.exn 5 ⟨_, rfl, ?_⟩) | ((conv => whnf); refine DL.exn 0 ⟨_, _, rfl, rfl, ?_⟩) | ((conv => whnf); refine DL.exn 1 ⟨_, _, rfl, rfl, ?_⟩) | ((conv => whnf); refine DL.exn 2 ⟨_, _, rfl, rfl, ?_⟩) | ((conv => whnf); refine DL.exn 3 ⟨_, _, rfl, rfl, ?_⟩) | ((conv => whnf); refine DL.exn 4 ⟨_, _, rfl, rfl, ?_⟩) | ((conv => whnf); refine DL.exn 5 ⟨_, _, rfl, rfl, ?_⟩) | ((conv => whnf); refine DL.exn 0 ⟨_, _, rfl, ?_⟩) | ((conv => whnf); refine DL.exn 1 ⟨_, _, rfl, ?_⟩) | ((conv => whnf); refine DL.exn 2 ⟨_, _, rfl, ?_⟩) | ((conv => whnf); refine DL.exn 3 ⟨_, _, rfl, ?_⟩) | ((conv => whnf); refine DL.exn 4 ⟨_, _, rfl, ?_⟩) | ((conv => whnf); refine DL.exn 5 ⟨_, _, rfl, ?_⟩) | ((conv => whnf); refine DL.exn 0 ⟨_, _, _, rfl, rfl, ?_⟩) | ((conv => whnf); refine DL.exn 1 ⟨_, _, _, rfl, rfl, ?_⟩) | ((conv => whnf); refine DL.exn 2 ⟨_, _, _, rfl, rfl, ?_⟩) | ((conv => whnf); refine DL.exn 3 ⟨_, _, _, rfl, rfl, ?_⟩) | ((conv => whnf); refine DL.exn 4 ⟨_, _, _, rfl, rfl, ?_⟩) | ((conv => whnf); refine DL.exn 5 ⟨_, _, _, rfl, rfl, ?_⟩) | ((conv => whnf); refine Or.inl ⟨by decide, by decide, ?_⟩) | ((conv => whnf); refine Or.inr ⟨_, rfl, by decide, ?_⟩) | ((conv => whnf); refine And.intro (by first | assumption | rfl | decide | omega | exact ⟨rfl, by decide⟩ | exact DL.pl_ints | exact DL.pl_pairs | exact DL.pl_pair | exact Nat.le_of_ble_eq_true rfl | exact ⟨rfl, rfl⟩ | exact small_ok (by omega) (by omega) | exact ⟨small_ok (by omega) (by omega), small_ok (by omega) (by omega)⟩ | exact cdiv_ok (by omega) (by omega) | exact cpow_ok (by omega) (by omega) (by omega) (by omega) | decide +kernel) ?_) | (refine DL.ifF (by first | assumption | decide | omega | (simp; omega) | (simp; done) | (simp [*]; omega) | (simp [*]; done) | (simp [DL.beq_ints, DL.beq_pairs, *]; done) | fail) ?_) | (refine DL.ifT (by first | assumption | decide | omega | (simp; omega) | (simp; done) | (simp [*]; omega) | (simp [*]; done) | (simp [DL.beq_ints, DL.beq_pairs, *]; done) | fail) ?_) | fail)
        (conv => whnf)
        refine drawX (K := K) (a := a) (w := w') (c := c) (k := k') (n := ((IL row).length : Nat)) (F0 := tb K t cc n ps row' (path'.length : Nat) hs' ++ mm m pa ov row' sr ev path' over' turns) (by omega) (by omega) (by omega) (by omega) fun i w5 k5 hs5 hk11 hk12 => ?_
        repeat (first | ((conv => whnf); refine ⟨_, rfl, ?_⟩) | ((conv => whnf); refine ⟨_, _, rfl, ?_⟩) | ((conv => whnf); refine ⟨_, _, _, rfl, ?_⟩) | ((conv => whnf); refine ⟨_, _, _, _, rfl, ?_⟩) | ((conv => whnf); refine DL.exn 0 ⟨_, rfl, ?_⟩) | ((conv => whnf); refine DL.exn 1 ⟨_, rfl, ?_⟩) | ((conv => whnf); refine DL.exn 2 ⟨_, rfl, ?_⟩) | ((conv => whnf); refine DL.exn 3 ⟨_, rfl, ?_⟩) | ((conv => whnf); refine DL.exn 4 ⟨_, rfl, ?_⟩) | ((conv => whnf); refine DL.exn 5 ⟨_, rfl, ?_⟩) | ((conv => whnf); refine DL.exn 0 ⟨_, _, rfl, rfl, ?_⟩) | ((conv => whnf); refine DL.exn 1 ⟨_, _, rfl, rfl, ?_⟩) | ((conv => whnf); refine DL.exn 2 ⟨_, _, rfl, rfl, ?_⟩) | ((conv => whnf); refine DL.exn 3 ⟨_, _, rfl, rfl, ?_⟩) | ((conv => whnf); refine DL.exn 4 ⟨_, _, rfl, rfl, ?_⟩) | ((conv => whnf); refine DL.exn 5 ⟨_, _, rfl, rfl, ?_⟩) | ((conv => whnf); refine DL.exn 0 ⟨_, _, rfl, ?_⟩) | ((conv => whnf); refine DL.exn 1 ⟨_, _, rfl, ?_⟩) | ((conv => whnf); refine DL.exn 2 ⟨_, _, rfl, ?_⟩) | ((conv => whnf); refine DL.exn 3 ⟨_, _, rfl, ?_⟩) | ((conv => whnf); refine DL.exn 4 ⟨_, _, rfl, ?_⟩) | ((conv => whnf); refine DL.exn 5 ⟨_, _, rfl, ?_⟩) | ((conv => whnf); refine DL.exn 0 ⟨_, _, _, rfl, rfl, ?_⟩) | ((conv => whnf); refine DL.exn 1 ⟨_, _, _, rfl, rfl, ?_⟩) | ((conv => whnf); refine DL.exn 2 ⟨_, _, _, rfl, rfl, ?_⟩) | ((conv => whnf); refine DL.exn 3 ⟨_, _, _, rfl, rfl, ?_⟩) | ((conv => whnf); refine DL.exn 4 ⟨_, _, _, rfl, rfl, ?_⟩) | ((conv => whnf); refine DL.exn 5 ⟨_, _, _, rfl, rfl, ?_⟩) | ((conv => whnf); refine Or.inl ⟨by decide, by decide, ?_⟩) | ((conv => whnf); refine Or.inr ⟨_, rfl, by decide, ?_⟩) | ((conv => whnf); refine And.intro (by first | assumption | rfl | decide | omega | exact ⟨rfl, by decide⟩ | exact DL.pl_ints | exact DL.pl_pairs | exact DL.pl_pair | exact Nat.le_of_ble_eq_true rfl | exact ⟨rfl, rfl⟩ | exact small_ok (by omega) (by omega) | exact ⟨small_ok (by omega) (by omega), small_ok (by omega) (by omega)⟩ | exact cdiv_ok (by omega) (by omega) | exact cpow_ok (by omega) (by omega) (by omega) (by omega) | decide +kernel) ?_) | (refine DL.ifF (by first | assumption | decide | omega | (simp; omega) | (simp; done) | (simp [*]; omega) | (simp [*]; done) | (simp [DL.beq_ints, DL.beq_pairs, *]; done) | fail) ?_) | (refine DL.ifT (by first | assumption | decide | omega | (simp; omega) | (simp; done) | (simp [*]; omega) | (simp [*]; done) | (simp [DL.beq_ints, DL.beq_pairs, *]; done) | fail) ?_) | fail)
        (conv => whnf)
        exact ⟨[1, 1, 1, 1, 1], _, [(a, wl w5 c k5)], rfl, fin i w5 k5 hs5 hk11 hk12⟩
      · repeat (first | ((conv => whnf); refine ⟨_, rfl, ?_⟩) | ((conv => whnf); refine ⟨_, _, rfl, ?_⟩) | ((conv => whnf); refine ⟨_, _, _, rfl, ?_⟩) | ((conv => whnf); refine ⟨_, _, _, _, rfl, ?_⟩) | ((conv => whnf); refine DL.exn 0 ⟨_, rfl, ?_⟩) | ((conv => whnf); refine DL.exn 1 ⟨_, rfl, ?_⟩) | ((conv => whnf); refine DL.exn 2 ⟨_, rfl, ?_⟩) | ((conv => whnf); refine DL.exn 3 ⟨_, rfl, ?_⟩) | ((conv => whnf); refine DL.exn 4 ⟨_, rfl, ?_⟩) | ((conv => whnf); refine DL.exn 5 ⟨_, rfl, ?_⟩) | ((conv => whnf); refine DL.exn 0 ⟨_, _, rfl, rfl, ?_⟩) | ((conv => whnf); refine DL.exn 1 ⟨_, _, rfl, rfl, ?_⟩) | ((conv => whnf); refine DL.exn 2 ⟨_, _, rfl, rfl, ?_⟩) | ((conv => whnf); refine DL.exn 3 ⟨_, _, rfl, rfl, ?_⟩) | ((conv => whnf); refine DL.exn 4 ⟨_, _, rfl, rfl, ?_⟩) | ((conv => whnf); refine DL.exn 5 ⟨_, _, rfl, rfl, ?_⟩) | ((conv => whnf); refine DL.exn 0 ⟨_, _, rfl, ?_⟩) | ((conv => whnf); refine DL.exn 1 ⟨_, _, rfl, ?_⟩) | ((conv => whnf); refine DL.exn 2 ⟨_, _, rfl, ?_⟩) | ((conv => whnf); refine DL.exn 3 ⟨_, _, rfl, ?_⟩) | ((conv => whnf); refine DL.exn 4 ⟨_, _, rfl, ?_⟩) | ((conv => whnf); refine DL.exn 5 ⟨_, _, rfl, ?_⟩) | ((conv => whnf); refine DL.exn 0 ⟨_, _, _, rfl, rfl, ?_⟩) | ((conv => whnf); refine DL.exn 1 ⟨_, _, _, rfl, rfl, ?_⟩) | ((conv => whnf); refine DL.exn 2 ⟨_, _, _, rfl, rfl, ?_⟩) | ((conv => whnf); refine DL.exn 3 ⟨_, _, _, rfl, rfl, ?_⟩) | ((conv => whnf); refine DL.exn 4 ⟨_, _, _, rfl, rfl, ?_⟩) | ((conv => whnf); refine DL.exn 5 ⟨_, _, _, rfl, rfl, ?_⟩) | ((conv => whnf); refine Or.inl ⟨by decide, by decide, ?_⟩) | ((conv => whnf); refine Or.inr ⟨_, rfl, by decide, ?_⟩) | ((conv => whnf); refine And.intro (by first | assumption | rfl | decide | omega | exact ⟨rfl, by decide⟩ | exact DL.pl_ints | exact DL.pl_pairs | exact DL.pl_pair | exact Nat.le_of_ble_eq_true rfl | exact ⟨rfl, rfl⟩ | exact small_ok (by omega) (by omega) | exact ⟨small_ok (by omega) (by omega), small_ok (by omega) (by omega)⟩ | exact cdiv_ok (by omega) (by omega) | exact cpow_ok (by omega) (by omega) (by omega) (by omega) | decide +kernel) ?_) | (refine DL.ifF (by first | assumption | decide | omega | (simp; omega) | (simp; done) | (simp [*]; omega) | (simp [*]; done) | (simp [DL.beq_ints, DL.beq_pairs, *]; done) | fail) ?_) | (refine DL.ifT (by first | assumption | decide | omega | (simp; omega) | (simp; done) | (simp [*]; omega) | (simp [*]; done) | (simp [DL.beq_ints, DL.beq_pairs, *]; done) | fail) ?_) | fail)
        (conv => whnf)
        refine ⟨[5], [(a, wl w' c k')], tb K t cc n ps row' (path'.length : Nat) hs' ++ mm m pa ov row' sr ev path' over' turns, rfl, a, w', c, k', ((IL row).length : Nat), rfl, rfl, by omega, by omega, by omega, by omega, fun d w5 k5 e1 e2 hk11 hk12 => ?_⟩
        obtain ⟨i, rfl⟩ := Int.eq_ofNat_of_zero_le e1
        repeat (first | ((conv => whnf); refine ⟨_, rfl, ?_⟩) | ((conv => whnf); refine ⟨_, _, rfl, ?_⟩) | ((conv => whnf); refine ⟨_, _, _, rfl, ?_⟩) | ((conv => whnf); refine ⟨_, _, _, _, rfl, ?_⟩) | ((conv => whnf); refine DL.exn 0 ⟨_, rfl, ?_⟩) | ((conv => whnf); refine DL.exn 1 ⟨_, rfl, ?_⟩) | ((conv => whnf); refine DL.exn 2 ⟨_, rfl, ?_⟩) | ((conv => whnf); refine DL.exn 3 ⟨_, rfl, ?_⟩) | ((conv => whnf); refine DL.exn 4 ⟨_, rfl, ?_⟩) | ((conv => whnf); refine DL.exn 5 ⟨_, rfl, ?_⟩) | ((conv => whnf); refine DL.exn 0 ⟨_, _, rfl, rfl, ?_⟩) | ((conv => whnf); refine DL.exn 1 ⟨_, _, rfl, rfl, ?_⟩) | ((conv => whnf); refine DL.exn 2 ⟨_, _, rfl, rfl, ?_⟩) | ((conv => whnf); refine DL.exn 3 ⟨_, _, rfl, rfl, ?_⟩) | ((conv => whnf); refine DL.exn 4 ⟨_, _, rfl, rfl, ?_⟩) | ((conv => whnf); refine DL.exn 5 ⟨_, _, rfl, rfl, ?_⟩) | ((conv => whnf); refine DL.exn 0 ⟨_, _, rfl, ?_⟩) | ((conv => whnf); refine DL.exn 1 ⟨_, _, rfl, ?_⟩) | ((conv => whnf); refine DL.exn 2 ⟨_, _, rfl, ?_⟩) | ((conv => whnf); refine DL.exn 3 ⟨_, _, rfl, ?_⟩) | ((conv => whnf); refine DL.exn 4 ⟨_, _, rfl, ?_⟩) | ((conv => whnf); refine DL.exn 5 ⟨_, _, rfl, ?_⟩) | ((conv => whnf); refine DL.exn 0 ⟨_, _, _, rfl, rfl, ?_⟩) | ((conv => whnf); refine DL.exn 1 ⟨_, _, _, rfl, rfl, ?_⟩) | ((conv => whnf); refine DL.exn 2 ⟨_, _, _, rfl, rfl, ?_⟩) | ((conv => whnf); refine DL.exn 3 ⟨_, _, _, rfl, rfl, ?_⟩) | ((conv => whnf); refine DL.exn 4 ⟨_, _, _, rfl, rfl, ?_⟩) | ((conv => whnf); refine DL.exn 5 ⟨_, _, _, rfl, rfl, ?_⟩) | ((conv => whnf); refine Or.inl ⟨by decide, by decide, ?_⟩) | ((conv => whnf); refine Or.inr ⟨_, rfl, by decide, ?_⟩) | ((conv => whnf); refine And.intro (by first | assumption | rfl | decide | omega | exact ⟨rfl, by decide⟩ | exact DL.pl_ints | exact DL.pl_pairs | exact DL.pl_pair | exact Nat.le_of_ble_eq_true rfl | exact ⟨rfl, rfl⟩ | exact small_ok (by omega) (by omega) | exact ⟨small_ok (by omega) (by omega), small_ok (by omega) (by omega)⟩ | exact cdiv_ok (by omega) (by omega) | exact cpow_ok (by omega) (by omega) (by omega) (by omega) | decide +kernel) ?_) | (refine DL.ifF (by first | assumption | decide | omega | (simp; omega) | (simp; done) | (simp [*]; omega) | (simp [*]; done) | (simp [DL.beq_ints, DL.beq_pairs, *]; done) | fail) ?_) | (refine DL.ifT (by first | assumption | decide | omega | (simp; omega) | (simp; done) | (simp [*]; omega) | (simp [*]; done) | (simp [DL.beq_ints, DL.beq_pairs, *]; done) | fail) ?_) | fail)
        (conv => whnf)
        exact ⟨[1, 1, 1, 1, 1], _, [(a, wl w5 c k5)], rfl, fin i w5 k5 e2 hk11 hk12⟩
  by_cases s11 : (sort : Int) < 11
  · repeat (first | ((conv => whnf); refine ⟨_, rfl, ?_⟩) | ((conv => whnf); refine ⟨_, _, rfl, ?_⟩) | ((conv => whnf); refine ⟨_, _, _, rfl, ?_⟩) | ((conv => whnf); refine ⟨_, _, _, _, rfl, ?_⟩) | ((conv => whnf); refine DL.exn 0 ⟨_, rfl, ?_⟩) | ((conv => whnf); refine DL.exn 1 ⟨_, rfl, ?_⟩) | ((conv => whnf); refine DL.exn 2 ⟨_, rfl, ?_⟩) | ((conv => whnf); refine DL.exn 3 ⟨_, rfl, ?_⟩) | ((conv => whnf); refine DL.exn 4 ⟨_, rfl, ?_⟩) | ((conv => whnf); refine DL.exn 5 ⟨_, rfl, ?_⟩) | ((conv => whnf); refine DL.exn 0 ⟨_, _, rfl, rfl, ?_⟩) | ((conv => whnf); refine DL.exn 1 ⟨_, _, rfl, rfl, ?_⟩) | ((conv => whnf); refine DL.exn 2 ⟨_, _, rfl, rfl, ?_⟩) | ((conv => whnf); refine DL.exn 3 ⟨_, _, rfl, rfl, ?_⟩) | ((conv => whnf); refine DL.exn 4 ⟨_, _, rfl, rfl, ?_⟩) | ((conv => whnf); refine DL.exn 5 ⟨_, _, rfl, rfl, ?_⟩) | ((conv => whnf); refine DL.exn 0 ⟨_, _, rfl, ?_⟩) | ((conv => whnf); refine DL.exn 1 ⟨_, _, rfl, ?_⟩) | ((conv => whnf); refine DL.exn 2 ⟨_, _, rfl, ?_⟩) | ((conv => whnf); refine DL.exn 3 ⟨_, _, rfl, ?_⟩) | ((conv => whnf); refine DL.exn 4 ⟨_, _, rfl, ?_⟩) | ((conv => whnf); refine DL.exn 5 ⟨_, _, rfl, ?_⟩) | ((conv => whnf); refine DL.exn 0 ⟨_, _, _, rfl, rfl, ?_⟩) | ((conv => whnf); refine DL.exn 1 ⟨_, _, _, rfl, rfl, ?_⟩) | ((conv => whnf); refine DL.exn 2 ⟨_, _, _, rfl, rfl, ?_⟩) | ((conv => whnf); refine DL.exn 3 ⟨_, _, _, rfl, rfl, ?_⟩) | ((conv => whnf); refine DL.exn 4 ⟨_, _, _, rfl, rfl, ?_⟩) | ((conv => whnf); refine DL.exn 5 ⟨_, _, _, rfl, rfl, ?_⟩) | ((conv => whnf); refine Or.inl ⟨by decide, by decide, ?_⟩) | ((conv => whnf); refine Or.inr ⟨_, rfl, by decide, ?_⟩) | ((conv => whnf); refine And.intro (by first | assumption | rfl | decide | omega | exact ⟨rfl, by decide⟩ | exact DL.pl_ints | exact DL.pl_pairs | exact DL.pl_pair | exact Nat.le_of_ble_eq_true rfl | exact ⟨rfl, rfl⟩ | exact small_ok (by omega) (by omega) | exact ⟨small_ok (by omega) (by omega), small_ok (by omega) (by omega)⟩ | exact cdiv_ok (by omega) (by omega) | exact cpow_ok (by omega) (by omega) (by omega) (by omega) | decide +kernel) ?_) | (refine DL.ifF (by first | assumption | decide | omega | (simp; omega) | (simp; done) | (simp [*]; omega) | (simp [*]; done) | (simp [DL.beq_ints, DL.beq_pairs, *]; done) | fail) ?_) | (refine DL.ifT (by first | assumption | decide | omega | (simp; omega) | (simp; done) | (simp [*]; omega) | (simp [*]; done) | (simp [DL.beq_ints, DL.beq_pairs, *]; done) | fail) ?_) | fail)
    (conv => whnf)
    refine ⟨[1, 1, 1, 1, 1], tb K t cc n ps row (path.length : Nat) hs ++ mm m pa ov row sr ev path over turns, [(a, wl w3 c k3)], rfl, t, cc, n, ps, row, _, hs, m, pa, ov, sr, ev, path, over, turns, 1 + p, 1 + (1 + (p : Int) + y) % ((IL row).length : Nat), decide ((sort : Int) = 10), rfl, rfl, G.bok, G.eq, by omega, by omega, by omega, by omega, by omega, fun qs sr' ev' okq eqq l1 l2 sb g1 g2 => ?_⟩
    exact rtn_at [5, 0, 0, 0, 0, 0] rfl (q w3 k3 qs row hs sr' ev' path over turns (by omega) (by omega) (G.turn okq eqq (turn_sub g1 g2 G.sub) sb) (by omega) (by omega) l2)
  by_cases ht : turns < 2
  · repeat (first | ((conv => whnf); refine ⟨_, rfl, ?_⟩) | ((conv => whnf); refine ⟨_, _, rfl, ?_⟩) | ((conv => whnf); refine ⟨_, _, _, rfl, ?_⟩) | ((conv => whnf); refine ⟨_, _, _, _, rfl, ?_⟩) | ((conv => whnf); refine DL.exn 0 ⟨_, rfl, ?_⟩) | ((conv => whnf); refine DL.exn 1 ⟨_, rfl, ?_⟩) | ((conv => whnf); refine DL.exn 2 ⟨_, rfl, ?_⟩) | ((conv => whnf); refine DL.exn 3 ⟨_, rfl, ?_⟩) | ((conv => whnf); refine DL.exn 4 ⟨_, rfl, ?_⟩) | ((conv => whnf); refine DL.exn 5 ⟨_, rfl, ?_⟩) | ((conv => whnf); refine DL.exn 0 ⟨_, _, rfl, rfl, ?_⟩) | ((conv => whnf); refine DL.exn 1 ⟨_, _, rfl, rfl, ?_⟩) | ((conv => whnf); refine DL.exn 2 ⟨_, _, rfl, rfl, ?_⟩) | ((conv => whnf); refine DL.exn 3 ⟨_, _, rfl, rfl, ?_⟩) | ((conv => whnf); refine DL.exn 4 ⟨_, _, rfl, rfl, ?_⟩) | ((conv => whnf); refine DL.exn 5 ⟨_, _, rfl, rfl, ?_⟩) | ((conv => whnf); refine DL.exn 0 ⟨_, _, rfl, ?_⟩) | ((conv => whnf); refine DL.exn 1 ⟨_, _, rfl, ?_⟩) | ((conv => whnf); refine DL.exn 2 ⟨_, _, rfl, ?_⟩) | ((conv => whnf); refine DL.exn 3 ⟨_, _, rfl, ?_⟩) | ((conv => whnf); refine DL.exn 4 ⟨_, _, rfl, ?_⟩) | ((conv => whnf); refine DL.exn 5 ⟨_, _, rfl, ?_⟩) | ((conv => whnf); refine DL.exn 0 ⟨_, _, _, rfl, rfl, ?_⟩) | ((conv => whnf); refine DL.exn 1 ⟨_, _, _, rfl, rfl, ?_⟩) | ((conv => whnf); refine DL.exn 2 ⟨_, _, _, rfl, rfl, ?_⟩) | ((conv => whnf); refine DL.exn 3 ⟨_, _, _, rfl, rfl, ?_⟩) | ((conv => whnf); refine DL.exn 4 ⟨_, _, _, rfl, rfl, ?_⟩) | ((conv => whnf); refine DL.exn 5 ⟨_, _, _, rfl, rfl, ?_⟩) | ((conv => whnf); refine Or.inl ⟨by decide, by decide, ?_⟩) | ((conv => whnf); refine Or.inr ⟨_, rfl, by decide, ?_⟩) | ((conv => whnf); refine And.intro (by first | assumption | rfl | decide | omega | exact ⟨rfl, by decide⟩ | exact DL.pl_ints | exact DL.pl_pairs | exact DL.pl_pair | exact Nat.le_of_ble_eq_true rfl | exact ⟨rfl, rfl⟩ | exact small_ok (by omega) (by omega) | exact ⟨small_ok (by omega) (by omega), small_ok (by omega) (by omega)⟩ | exact cdiv_ok (by omega) (by omega) | exact cpow_ok (by omega) (by omega) (by omega) (by omega) | decide +kernel) ?_) | (refine DL.ifF (by first | assumption | decide | omega | (simp; omega) | (simp; done) | (simp [*]; omega) | (simp [*]; done) | (simp [DL.beq_ints, DL.beq_pairs, *]; done) | fail) ?_) | (refine DL.ifT (by first | assumption | decide | omega | (simp; omega) | (simp; done) | (simp [*]; omega) | (simp [*]; done) | (simp [DL.beq_ints, DL.beq_pairs, *]; done) | fail) ?_) | fail)
    (conv => whnf)
    refine drawX (K := K) (a := a) (w := w3) (c := c) (k := k3) (n := 2) (F0 := tb K t cc n ps row (path.length : Nat) hs ++ mm m pa ov row sr ev path over (turns + 1)) (by omega) (by omega) (by omega) (by omega) fun u w4 k4 hs4 hk7 hk8 => ?_
    repeat (first | ((conv => whnf); refine ⟨_, rfl, ?_⟩) | ((conv => whnf); refine ⟨_, _, rfl, ?_⟩) | ((conv => whnf); refine ⟨_, _, _, rfl, ?_⟩) | ((conv => whnf); refine ⟨_, _, _, _, rfl, ?_⟩) | ((conv => whnf); refine DL.exn 0 ⟨_, rfl, ?_⟩) | ((conv => whnf); refine DL.exn 1 ⟨_, rfl, ?_⟩) | ((conv => whnf); refine DL.exn 2 ⟨_, rfl, ?_⟩) | ((conv => whnf); refine DL.exn 3 ⟨_, rfl, ?_⟩) | ((conv => whnf); refine DL.exn 4 ⟨_, rfl, ?_⟩) | ((conv => whnf); refine DL.exn 5 ⟨_, rfl, ?_⟩) | ((conv => whnf); refine DL.exn 0 ⟨_, _, rfl, rfl, ?_⟩) | ((conv => whnf); refine DL.exn 1 ⟨_, _, rfl, rfl, ?_⟩) | ((conv => whnf); refine DL.exn 2 ⟨_, _, rfl, rfl, ?_⟩) | ((conv => whnf); refine DL.exn 3 ⟨_, _, rfl, rfl, ?_⟩) | ((conv => whnf); refine DL.exn 4 ⟨_, _, rfl, rfl, ?_⟩) | ((conv => whnf); refine DL.exn 5 ⟨_, _, rfl, rfl, ?_⟩) | ((conv => whnf); refine DL.exn 0 ⟨_, _, rfl, ?_⟩) | ((conv => whnf); refine DL.exn 1 ⟨_, _, rfl, ?_⟩) | ((conv => whnf); refine DL.exn 2 ⟨_, _, rfl, ?_⟩) | ((conv => whnf); refine DL.exn 3 ⟨_, _, rfl, ?_⟩) | ((conv => whnf); refine DL.exn 4 ⟨_, _, rfl, ?_⟩) | ((conv => whnf); refine DL.exn 5 ⟨_, _, rfl, ?_⟩) | ((conv => whnf); refine DL.exn 0 ⟨_, _, _, rfl, rfl, ?_⟩) | ((conv => whnf); refine DL.exn 1 ⟨_, _, _, rfl, rfl, ?_⟩) | ((conv => whnf); refine DL.exn 2 ⟨_, _, _, rfl, rfl, ?_⟩) | ((conv => whnf); refine DL.exn 3 ⟨_, _, _, rfl, rfl, ?_⟩) | ((conv => whnf); refine DL.exn 4 ⟨_, _, _, rfl, rfl, ?_⟩) | ((conv => whnf); refine DL.exn 5 ⟨_, _, _, rfl, rfl, ?_⟩) | ((conv => whnf); refine Or.inl ⟨by decide, by decide, ?_⟩) | ((conv => whnf); refine Or.inr ⟨_, rfl, by decide, ?_⟩) | ((conv => whnf); refine And.intro (by first | assumption | rfl | decide | omega | exact ⟨rfl, by decide⟩ | exact DL.pl_ints | exact DL.pl_pairs | exact DL.pl_pair | exact Nat.le_of_ble_eq_true rfl | exact ⟨rfl, rfl⟩ | exact small_ok (by omega) (by omega) | exact ⟨small_ok (by omega) (by omega), small_ok (by omega) (by omega)⟩ | exact cdiv_ok (by omega) (by omega) | exact cpow_ok (by omega) (by omega) (by omega) (by omega) | decide +kernel) ?_) | (refine DL.ifF (by first | assumption | decide | omega | (simp; omega) | (simp; done) | (simp [*]; omega) | (simp [*]; done) | (simp [DL.beq_ints, DL.beq_pairs, *]; done) | fail) ?_) | (refine DL.ifT (by first | assumption | decide | omega | (simp; omega) | (simp; done) | (simp [*]; omega) | (simp [*]; done) | (simp [DL.beq_ints, DL.beq_pairs, *]; done) | fail) ?_) | fail)
    intro qs0 okq0 hw hl0
    rw [rI] at okq0
    (conv => whnf)
    refine loop_ind (fun its ds M => ∃ (qs ps' sr' ev' : List (Int × Int)) (x5 x6 : Option D), its = PL qs ∧ (∀ z ∈ qs, 1 ≤ z.1 ∧ z.1 < z.2 ∧ z.2 ≤ n) ∧ Good n row0 first ps' row hs sr' ev' path over ∧ sr'.length + qs.length ≤ sr.length + 81 ∧ ev'.length ≤ ev.length ∧
      ds = [some (.ref a), some (.ref t), some (.ref m), some (.int ((IL row).length : Nat)), some (.int sort), x5, x6, none, some (.bl (decide ((u : Int) = 0)))] ∧
      (M = (a, wl w4 c k4) :: (tb K t cc n ps' row (path.length : Nat) hs ++ mm m pa ov row sr' ev' path over (turns + 1)) ∨ M = (tb K t cc n ps' row (path.length : Nat) hs ++ mm m pa ov row sr' ev' path over (turns + 1)) ++ [(a, wl w4 c k4)])) ?_ ?_
      ⟨qs0, ps, sr, ev, _, _, rfl, okq0.mem, G, by omega, by omega, rfl, .inl rfl⟩
    · rintro _ _ ⟨qs, ps', sr', ev', x5, x6, e, hqs, G', hl1, hl2, rfl, hM⟩
      have q' := q w4 k4 ps' row hs sr' ev' path over (turns + 1) (by omega) (by omega) G' (by omega) (by omega) (by omega)
      rcases hM with rfl | rfl
      · exact rtn_all q'
      · exact rtn_at [5, 0, 0, 0, 0, 0] rfl q'
    · rintro d r _ _ NX ⟨qs, ps', sr', ev', x5, x6, e, hqs, G', hl1, hl2, rfl, hM⟩ nx
      cases qs with
      | nil => cases e
      | cons z qs =>
        cases e
        have hz3 := hqs z List.mem_cons_self
        simp only [List.length_cons] at hl1
        have fin : sp_g_one_turn K [.ref t, .ref m, .int z.2, .int z.1, .bl (decide ((u : Int) = 0))] (tb K t cc n ps' row (path.length : Nat) hs ++ mm m pa ov row sr' ev' path over (turns + 1))
            (fun _ M' => NX [some (.ref a), some (.ref t), some (.ref m), some (.int ((IL row).length : Nat)), some (.int sort), some (.int z.1), some (.int z.2), none, some (.bl (decide ((u : Int) = 0)))] (M' ++ [(a, wl w4 c k4)])) X0 :=
          ⟨t, cc, n, ps', row, _, hs, m, pa, ov, sr', ev', path, over, turns + 1, z.2, z.1, decide ((u : Int) = 0), rfl, rfl, G'.bok, G'.eq, by omega, by omega, by omega, by omega, by omega, fun qs1 sr1 ev1 okq eqq l1 l2 sb g1 g2 =>
            nx _ _ ⟨qs, qs1, sr1, ev1, _, _, rfl, fun v hv => hqs v (List.mem_cons_of_mem _ hv), G'.turn okq eqq (turn_sub g1 g2 G'.sub) sb, by omega, by omega, rfl, .inr rfl⟩⟩
        rcases hM with rfl | rfl
        · repeat (first | ((conv => whnf); refine ⟨_, rfl, ?_⟩) | ((conv => whnf); refine ⟨_, _, rfl, ?_⟩) | ((conv => whnf); refine ⟨_, _, _, rfl, ?_⟩) | ((conv => whnf); refine ⟨_, _, _, _, rfl, ?_⟩) | ((conv => whnf); refine DL.exn 0 ⟨_, rfl, ?_⟩) | ((conv => whnf); refine DL.exn 1 ⟨_, rfl, ?_⟩) | ((conv => whnf); refine DL.exn 2 ⟨_, rfl, ?_⟩) | ((conv => whnf); refine DL.exn 3 ⟨_, rfl, ?_⟩) | ((conv => whnf); refine DL.exn 4 ⟨_, rfl, ?_⟩) | ((conv => whnf); refine DL.exn 5 ⟨_, rfl, ?_⟩) | ((conv => whnf); refine DL.exn 0 ⟨_, _, rfl, rfl, ?_⟩) | ((conv => whnf); refine DL.exn 1 ⟨_, _, rfl, rfl, ?_⟩) | ((conv => whnf); refine DL.exn 2 ⟨_, _, rfl, rfl, ?_⟩) | ((conv => whnf); refine DL.exn 3 ⟨_, _, rfl, rfl, ?_⟩) | ((conv => whnf); refine DL.exn 4 ⟨_, _, rfl, rfl, ?_⟩) | ((conv => whnf); refine DL.exn 5 ⟨_, _, rfl, rfl, ?_⟩) | ((conv => whnf); refine DL.exn 0 ⟨_, _, rfl, ?_⟩) | ((conv => whnf); refine DL.exn 1 ⟨_, _, rfl, ?_⟩) | ((conv => whnf); refine DL.exn 2 ⟨_, _, rfl, ?_⟩) | ((conv => whnf); refine DL.exn 3 ⟨_, _, rfl, ?_⟩) | ((conv => whnf); refine DL.exn 4 ⟨_, _, rfl, ?_⟩) | ((conv => whnf); refine DL.exn 5 ⟨_, _, rfl, ?_⟩) | ((conv => whnf); refine DL.exn 0 ⟨_, _, _, rfl, rfl, ?_⟩) | ((conv => whnf); refine DL.exn 1 ⟨_, _, _, rfl, rfl, ?_⟩) | ((conv => whnf); refine DL.exn 2 ⟨_, _, _, rfl, rfl, ?_⟩) | ((conv => whnf); refine DL.exn 3 ⟨_, _, _, rfl, rfl, ?_⟩) | ((conv => whnf); refine DL.exn 4 ⟨_, _, _, rfl, rfl, ?_⟩) | ((conv => whnf); refine DL.exn 5 ⟨_, _, _, rfl, rfl, ?_⟩) | ((conv => whnf); refine Or.inl ⟨by decide, by decide, ?_⟩) | ((conv => whnf); refine Or.inr ⟨_, rfl, by decide, ?_⟩) | ((conv => whnf); refine And.intro (by first | assumption | rfl | decide | omega | exact ⟨rfl, by decide⟩ | exact DL.pl_ints | exact DL.pl_pairs | exact DL.pl_pair | exact Nat.le_of_ble_eq_true rfl | exact ⟨rfl, rfl⟩ | exact small_ok (by omega) (by omega) | exact ⟨small_ok (by omega) (by omega), small_ok (by omega) (by omega)⟩ | exact cdiv_ok (by omega) (by omega) | exact cpow_ok (by omega) (by omega) (by omega) (by omega) | decide +kernel) ?_) | (refine DL.ifF (by first | assumption | decide | omega | (simp; omega) | (simp; done) | (simp [*]; omega) | (simp [*]; done) | (simp [DL.beq_ints, DL.beq_pairs, *]; done) | fail) ?_) | (refine DL.ifT (by first | assumption | decide | omega | (simp; omega) | (simp; done) | (simp [*]; omega) | (simp [*]; done) | (simp [DL.beq_ints, DL.beq_pairs, *]; done) | fail) ?_) | fail)
          (conv => whnf)
          exact ⟨[1, 1, 1, 1, 1], _, [(a, wl w4 c k4)], rfl, fin⟩
        · repeat (first | ((conv => whnf); refine ⟨_, rfl, ?_⟩) | ((conv => whnf); refine ⟨_, _, rfl, ?_⟩) | ((conv => whnf); refine ⟨_, _, _, rfl, ?_⟩) | ((conv => whnf); refine ⟨_, _, _, _, rfl, ?_⟩) | ((conv => whnf); refine DL.exn 0 ⟨_, rfl, ?_⟩) | ((conv => whnf); refine DL.exn 1 ⟨_, rfl, ?_⟩) | ((conv => whnf); refine DL.exn 2 ⟨_, rfl, ?_⟩) | ((conv => whnf); refine DL.exn 3 ⟨_, rfl, ?_⟩) | ((conv => whnf); refine DL.exn 4 ⟨_, rfl, ?_⟩) | ((conv => whnf); refine DL.exn 5 ⟨_, rfl, ?_⟩) | ((conv => whnf); refine DL.exn 0 ⟨_, _, rfl, rfl, ?_⟩) | ((conv => whnf); refine DL.exn 1 ⟨_, _, rfl, rfl, ?_⟩) | ((conv => whnf); refine DL.exn 2 ⟨_, _, rfl, rfl, ?_⟩) | ((conv => whnf); refine DL.exn 3 ⟨_, _, rfl, rfl, ?_⟩) | ((conv => whnf); refine DL.exn 4 ⟨_, _, rfl, rfl, ?_⟩) | ((conv => whnf); refine DL.exn 5 ⟨_, _, rfl, rfl, ?_⟩) | ((conv => whnf); refine DL.exn 0 ⟨_, _, rfl, ?_⟩) | ((conv => whnf); refine DL.exn 1 ⟨_, _, rfl, ?_⟩) | ((conv => whnf); refine DL.exn 2 ⟨_, _, rfl, ?_⟩) | ((conv => whnf); refine DL.exn 3 ⟨_, _, rfl, ?_⟩) | ((conv => whnf); refine DL.exn 4 ⟨_, _, rfl, ?_⟩) | ((conv => whnf); refine DL.exn 5 ⟨_, _, rfl, ?_⟩) | ((conv => whnf); refine DL.exn 0 ⟨_, _, _, rfl, rfl, ?_⟩) | ((conv => whnf); refine DL.exn 1 ⟨_, _, _, rfl, rfl, ?_⟩) | ((conv => whnf); refine DL.exn 2 ⟨_, _, _, rfl, rfl, ?_⟩) | ((conv => whnf); refine DL.exn 3 ⟨_, _, _, rfl, rfl, ?_⟩) | ((conv => whnf); refine DL.exn 4 ⟨_, _, _, rfl, rfl, ?_⟩) | ((conv => whnf); refine DL.exn 5 ⟨_, _, _, rfl, rfl, ?_⟩) | ((conv => whnf); refine Or.inl ⟨by decide, by decide, ?_⟩) | ((conv => whnf); refine Or.inr ⟨_, rfl, by decide, ?_⟩) | ((conv => whnf); refine And.intro (by first | assumption | rfl | decide | omega | exact ⟨rfl, by decide⟩ | exact DL.pl_ints | exact DL.pl_pairs | exact DL.pl_pair | exact Nat.le_of_ble_eq_true rfl | exact ⟨rfl, rfl⟩ | exact small_ok (by omega) (by omega) | exact ⟨small_ok (by omega) (by omega), small_ok (by omega) (by omega)⟩ | exact cdiv_ok (by omega) (by omega) | exact cpow_ok (by omega) (by omega) (by omega) (by omega) | decide +kernel) ?_) | (refine DL.ifF (by first | assumption | decide | omega | (simp; omega) | (simp; done) | (simp [*]; omega) | (simp [*]; done) | (simp [DL.beq_ints, DL.beq_pairs, *]; done) | fail) ?_) | (refine DL.ifT (by first | assumption | decide | omega | (simp; omega) | (simp; done) | (simp [*]; omega) | (simp [*]; done) | (simp [DL.beq_ints, DL.beq_pairs, *]; done) | fail) ?_) | fail)
          (conv => whnf)
          exact ⟨[0, 0, 0, 0, 0], _, [(a, wl w4 c k4)], rfl, fin⟩
  · repeat (first | ((conv => whnf); refine ⟨_, rfl, ?_⟩) | ((conv => whnf); refine ⟨_, _, rfl, ?_⟩) | ((conv => whnf); refine ⟨_, _, _, rfl, ?_⟩) | ((conv => whnf); refine ⟨_, _, _, _, rfl, ?_⟩) | ((conv => whnf); refine DL.exn 0 ⟨_, rfl, ?_⟩) | ((conv => whnf); refine DL.exn 1 ⟨_, rfl, ?_⟩) | ((conv => whnf); refine DL.exn 2 ⟨_, rfl, ?_⟩) | ((conv => whnf); refine DL.exn 3 ⟨_, rfl, ?_⟩) | ((conv => whnf); refine DL.exn 4 ⟨_, rfl, ?_⟩) | ((conv => whnf); refine DL.exn 5 ⟨_, rfl, ?_⟩) | ((conv => whnf); refine DL.exn 0 ⟨_, _, rfl, rfl, ?_⟩) | ((conv => whnf); refine DL.exn 1 ⟨_, _, rfl, rfl, ?_⟩) | ((conv => whnf); refine DL.exn 2 ⟨_, _, rfl, rfl, ?_⟩) | ((conv => whnf); refine DL.exn 3 ⟨_, _, rfl, rfl, ?_⟩) | ((conv => whnf); refine DL.exn 4 ⟨_, _, rfl, rfl, ?_⟩) | ((conv => whnf); refine DL.exn 5 ⟨_, _, rfl, rfl, ?_⟩) | ((conv => whnf); refine DL.exn 0 ⟨_, _, rfl, ?_⟩) | ((conv => whnf); refine DL.exn 1 ⟨_, _, rfl, ?_⟩) | ((conv => whnf); refine DL.exn 2 ⟨_, _, rfl, ?_⟩) | ((conv => whnf); refine DL.exn 3 ⟨_, _, rfl, ?_⟩) | ((conv => whnf); refine DL.exn 4 ⟨_, _, rfl, ?_⟩) | ((conv => whnf); refine DL.exn 5 ⟨_, _, rfl, ?_⟩) | ((conv => whnf); refine DL.exn 0 ⟨_, _, _, rfl, rfl, ?_⟩) | ((conv => whnf); refine DL.exn 1 ⟨_, _, _, rfl, rfl, ?_⟩) | ((conv => whnf); refine DL.exn 2 ⟨_, _, _, rfl, rfl, ?_⟩) | ((conv => whnf); refine DL.exn 3 ⟨_, _, _, rfl, rfl, ?_⟩) | ((conv => whnf); refine DL.exn 4 ⟨_, _, _, rfl, rfl, ?_⟩) | ((conv => whnf); refine DL.exn 5 ⟨_, _, _, rfl, rfl, ?_⟩) | ((conv => whnf); refine Or.inl ⟨by decide, by decide, ?_⟩) | ((conv => whnf); refine Or.inr ⟨_, rfl, by decide, ?_⟩) | ((conv => whnf); refine And.intro (by first | assumption | rfl | decide | omega | exact ⟨rfl, by decide⟩ | exact DL.pl_ints | exact DL.pl_pairs | exact DL.pl_pair | exact Nat.le_of_ble_eq_true rfl | exact ⟨rfl, rfl⟩ | exact small_ok (by omega) (by omega) | exact ⟨small_ok (by omega) (by omega), small_ok (by omega) (by omega)⟩ | exact cdiv_ok (by omega) (by omega) | exact cpow_ok (by omega) (by omega) (by omega) (by omega) | decide +kernel) ?_) | (refine DL.ifF (by first | assumption | decide | omega | (simp; omega) | (simp; done) | (simp [*]; omega) | (simp [*]; done) | (simp [DL.beq_ints, DL.beq_pairs, *]; done) | fail) ?_) | (refine DL.ifT (by first | assumption | decide | omega | (simp; omega) | (simp; done) | (simp [*]; omega) | (simp [*]; done) | (simp [DL.beq_ints, DL.beq_pairs, *]; done) | fail) ?_) | fail)
    exact rtn_all (q w3 k3 ps row hs sr ev path over turns (by omega) (by omega) G (by omega) (by omega) (by omega))
end Nk66

set_option Elab.async false
set_option linter.all false
set_option maxRecDepth 100000
set_option maxHeartbeats 4000000
namespace Nk66
open PySem PySem.Spec L2 DL
theorem len_g_right {K : PySem.W.Frag} : ∀ es M Q E, sp_g_right K es M Q E → es.length = 1 := by
  rintro _ _ _ _ ⟨_, _, _, _, rfl, _⟩; rfl
theorem rd_g_right {K : PySem.W.Frag} : ∀ es M Q E, sp_g_right K es M Q E → t_g_right K { nx := fun _ M => Rtn Q .non M, rt := Rtn Q } (startD nm_g_right es) M := by
  rintro _ M Q _ ⟨a, w, c, k, rfl, rfl, h0, h1, q⟩
  unfold t_g_right
  repeat (first | ((conv => whnf); refine ⟨_, rfl, ?_⟩) | ((conv => whnf); refine ⟨_, _, rfl, ?_⟩) | ((conv => whnf); refine ⟨_, _, _, rfl, ?_⟩) | ((conv => whnf); refine ⟨_, _, _, _, rfl, ?_⟩) | ((conv => whnf); refine DL.exn 0 ⟨_, rfl, ?_⟩) | ((conv => whnf); refine DL.exn 1 ⟨_, rfl, ?_⟩) | ((conv => whnf); refine DL.exn 2 ⟨_, rfl, ?_⟩) | ((conv => whnf); refine DL.exn 3 ⟨_, rfl, ?_⟩) | ((conv => whnf); refine DL.exn 4 ⟨_, rfl, ?_⟩) | ((conv => whnf); refine DL.exn 5 ⟨_, rfl, ?_⟩) | ((conv => whnf); refine DL.exn 6 ⟨_, rfl, ?_⟩) | ((conv => whnf); refine DL.exn 7 ⟨_, rfl, ?_⟩) | ((conv => whnf); refine DL.exn 0 ⟨_, _, rfl, rfl, ?_⟩) | ((conv => whnf); refine DL.exn 1 ⟨_, _, rfl, rfl, ?_⟩) | ((conv => whnf); refine DL.exn 2 ⟨_, _, rfl, rfl, ?_⟩) | ((conv => whnf); refine DL.exn 3 ⟨_, _, rfl, rfl, ?_⟩) | ((conv => whnf); refine DL.exn 4 ⟨_, _, rfl, rfl, ?_⟩) | ((conv => whnf); refine DL.exn 5 ⟨_, _, rfl, rfl, ?_⟩) | ((conv => whnf); refine DL.exn 6 ⟨_, _, rfl, rfl, ?_⟩) | ((conv => whnf); refine DL.exn 7 ⟨_, _, rfl, rfl, ?_⟩) | ((conv => whnf); refine DL.exn 0 ⟨_, _, rfl, ?_⟩) | ((conv => whnf); refine DL.exn 1 ⟨_, _, rfl, ?_⟩) | ((conv => whnf); refine DL.exn 2 ⟨_, _, rfl, ?_⟩) | ((conv => whnf); refine DL.exn 3 ⟨_, _, rfl, ?_⟩) | ((conv => whnf); refine DL.exn 4 ⟨_, _, rfl, ?_⟩) | ((conv => whnf); refine DL.exn 5 ⟨_, _, rfl, ?_⟩) | ((conv => whnf); refine DL.exn 6 ⟨_, _, rfl, ?_⟩) | ((conv => whnf); refine DL.exn 7 ⟨_, _, rfl, ?_⟩) | ((conv => whnf); refine DL.exn 0 ⟨_, _, _, rfl, rfl, ?_⟩) | ((conv => whnf); refine DL.exn 1 ⟨_, _, _, rfl, rfl, ?_⟩) | ((conv => whnf); refine DL.exn 2 ⟨_, _, _, rfl, rfl, ?_⟩) | ((conv => whnf); refine DL.exn 3 ⟨_, _, _, rfl, rfl, ?_⟩) | ((conv => whnf); refine DL.exn 4 ⟨_, _, _, rfl, rfl, ?_⟩) | ((conv => whnf); refine DL.exn 5 ⟨_, _, _, rfl, rfl, ?_⟩) | ((conv => whnf); refine DL.exn 6 ⟨_, _, _, rfl, rfl, ?_⟩) | ((conv => whnf); refine DL.exn 7 ⟨_, _, _, rfl, rfl, ?_⟩) | ((conv => whnf); refine Or.inl ⟨by decide, by decide, ?_⟩) | ((conv => whnf); refine Or.inr ⟨_, rfl, by decide, ?_⟩) | ((conv => whnf); refine And.intro (by first | assumption | rfl | decide | omega | exact ⟨rfl, by decide⟩ | exact DL.pl_ints | exact DL.pl_pairs | exact DL.pl_pair | exact Nat.le_of_ble_eq_true rfl | exact ⟨rfl, rfl⟩ | exact small_ok (by omega) (by omega) | exact ⟨small_ok (by omega) (by omega), small_ok (by omega) (by omega)⟩ | exact cdiv_ok (by omega) (by omega) | exact cmul_ok (by omega) (by omega) (by omega) (by omega) | exact cpow_ok (by omega) (by omega) (by omega) (by omega) | decide +kernel) ?_) | (refine DL.ifF (by first | assumption | decide | omega | (simp; omega) | (simp; done) | (simp [*]; omega) | (simp [*]; done) | (simp [DL.beq_ints, DL.beq_pairs, *]; done) | fail) ?_) | (refine DL.ifT (by first | assumption | decide | omega | (simp; omega) | (simp; done) | (simp [*]; omega) | (simp [*]; done) | (simp [DL.beq_ints, DL.beq_pairs, *]; done) | fail) ?_) | fail)
  (conv => whnf)
  refine drawX (K := K) (a := a) (w := w) (c := c) (k := k) (n := 7) (F0 := []) h0 (by omega) (by omega) (by omega) fun sz w1 k1 hsz hk1 hk2 => ?_
  obtain ⟨n, en⟩ : ∃ n : Int, n = 3 + (sz : Int) := ⟨_, rfl⟩
  have h3 : 3 ≤ n := by omega
  have h9 : n ≤ 9 := by omega
  repeat (first | ((conv => whnf); refine ⟨_, rfl, ?_⟩) | ((conv => whnf); refine ⟨_, _, rfl, ?_⟩) | ((conv => whnf); refine ⟨_, _, _, rfl, ?_⟩) | ((conv => whnf); refine ⟨_, _, _, _, rfl, ?_⟩) | ((conv => whnf); refine DL.exn 0 ⟨_, rfl, ?_⟩) | ((conv => whnf); refine DL.exn 1 ⟨_, rfl, ?_⟩) | ((conv => whnf); refine DL.exn 2 ⟨_, rfl, ?_⟩) | ((conv => whnf); refine DL.exn 3 ⟨_, rfl, ?_⟩) | ((conv => whnf); refine DL.exn 4 ⟨_, rfl, ?_⟩) | ((conv => whnf); refine DL.exn 5 ⟨_, rfl, ?_⟩) | ((conv => whnf); refine DL.exn 6 ⟨_, rfl, ?_⟩) | ((conv => whnf); refine DL.exn 7 ⟨_, rfl, ?_⟩) | ((conv => whnf); refine DL.exn 0 ⟨_, _, rfl, rfl, ?_⟩) | ((conv => whnf); refine DL.exn 1 ⟨_, _, rfl, rfl, ?_⟩) | ((conv => whnf); refine DL.exn 2 ⟨_, _, rfl, rfl, ?_⟩) | ((conv => whnf); refine DL.exn 3 ⟨_, _, rfl, rfl, ?_⟩) | ((conv => whnf); refine DL.exn 4 ⟨_, _, rfl, rfl, ?_⟩) | ((conv => whnf); refine DL.exn 5 ⟨_, _, rfl, rfl, ?_⟩) | ((conv => whnf); refine DL.exn 6 ⟨_, _, rfl, rfl, ?_⟩) | ((conv => whnf); refine DL.exn 7 ⟨_, _, rfl, rfl, ?_⟩) | ((conv => whnf); refine DL.exn 0 ⟨_, _, rfl, ?_⟩) | ((conv => whnf); refine DL.exn 1 ⟨_, _, rfl, ?_⟩) | ((conv => whnf); refine DL.exn 2 ⟨_, _, rfl, ?_⟩) | ((conv => whnf); refine DL.exn 3 ⟨_, _, rfl, ?_⟩) | ((conv => whnf); refine DL.exn 4 ⟨_, _, rfl, ?_⟩) | ((conv => whnf); refine DL.exn 5 ⟨_, _, rfl, ?_⟩) | ((conv => whnf); refine DL.exn 6 ⟨_, _, rfl, ?_⟩) | ((conv => whnf); refine DL.exn 7 ⟨_, _, rfl, ?_⟩) | ((conv => whnf); refine DL.exn 0 ⟨_, _, _, rfl, rfl, ?_⟩) | ((conv => whnf); refine DL.exn 1 ⟨_, _, _, rfl, rfl, ?_⟩) | ((conv => whnf); refine DL.exn 2 ⟨_, _, _, rfl, rfl, ?_⟩) | ((conv => whnf); refine DL.exn 3 ⟨_, _, _, rfl, rfl, ?_⟩) | ((conv => whnf); refine DL.exn 4 ⟨_, _, _, rfl, rfl, ?_⟩) | ((conv => whnf); refine DL.exn 5 ⟨_, _, _, rfl, rfl, ?_⟩) | ((conv => whnf); refine DL.exn 6 ⟨_, _, _, rfl, rfl, ?_⟩) | ((conv => whnf); refine DL.exn 7 ⟨_, _, _, rfl, rfl, ?_⟩) | ((conv => whnf); refine Or.inl ⟨by decide, by decide, ?_⟩) | ((conv => whnf); refine Or.inr ⟨_, rfl, by decide, ?_⟩) | ((conv => whnf); refine And.intro (by first | assumption | rfl | decide | omega | exact ⟨rfl, by decide⟩ | exact DL.pl_ints | exact DL.pl_pairs | exact DL.pl_pair | exact Nat.le_of_ble_eq_true rfl | exact ⟨rfl, rfl⟩ | exact small_ok (by omega) (by omega) | exact ⟨small_ok (by omega) (by omega), small_ok (by omega) (by omega)⟩ | exact cdiv_ok (by omega) (by omega) | exact cmul_ok (by omega) (by omega) (by omega) (by omega) | exact cpow_ok (by omega) (by omega) (by omega) (by omega) | decide +kernel) ?_) | (refine DL.ifF (by first | assumption | decide | omega | (simp; omega) | (simp; done) | (simp [*]; omega) | (simp [*]; done) | (simp [DL.beq_ints, DL.beq_pairs, *]; done) | fail) ?_) | (refine DL.ifT (by first | assumption | decide | omega | (simp; omega) | (simp; done) | (simp [*]; omega) | (simp [*]; done) | (simp [DL.beq_ints, DL.beq_pairs, *]; done) | fail) ?_) | fail)
  (conv => whnf)
  refine ⟨[0], [(a, wl w1 c k1)], [], rfl, a, w1, c, k1, n, by rw [en]; rfl, rfl, by omega, by omega, h3, h9, fun sr w2 k2 oks hsl hk3 hk4 => ?_⟩
  repeat (first | ((conv => whnf); refine ⟨_, rfl, ?_⟩) | ((conv => whnf); refine ⟨_, _, rfl, ?_⟩) | ((conv => whnf); refine ⟨_, _, _, rfl, ?_⟩) | ((conv => whnf); refine ⟨_, _, _, _, rfl, ?_⟩) | ((conv => whnf); refine DL.exn 0 ⟨_, rfl, ?_⟩) | ((conv => whnf); refine DL.exn 1 ⟨_, rfl, ?_⟩) | ((conv => whnf); refine DL.exn 2 ⟨_, rfl, ?_⟩) | ((conv => whnf); refine DL.exn 3 ⟨_, rfl, ?_⟩) | ((conv => whnf); refine DL.exn 4 ⟨_, rfl, ?_⟩) | ((conv => whnf); refine DL.exn 5 ⟨_, rfl, ?_⟩) | ((conv => whnf); refine DL.exn 6 ⟨_, rfl, ?_⟩) | ((conv => whnf); refine DL.exn 7 ⟨_, rfl, ?_⟩) | ((conv => whnf); refine DL.exn 0 ⟨_, _, rfl, rfl, ?_⟩) | ((conv => whnf); refine DL.exn 1 ⟨_, _, rfl, rfl, ?_⟩) | ((conv => whnf); refine DL.exn 2 ⟨_, _, rfl, rfl, ?_⟩) | ((conv => whnf); refine DL.exn 3 ⟨_, _, rfl, rfl, ?_⟩) | ((conv => whnf); refine DL.exn 4 ⟨_, _, rfl, rfl, ?_⟩) | ((conv => whnf); refine DL.exn 5 ⟨_, _, rfl, rfl, ?_⟩) | ((conv => whnf); refine DL.exn 6 ⟨_, _, rfl, rfl, ?_⟩) | ((conv => whnf); refine DL.exn 7 ⟨_, _, rfl, rfl, ?_⟩) | ((conv => whnf); refine DL.exn 0 ⟨_, _, rfl, ?_⟩) | ((conv => whnf); refine DL.exn 1 ⟨_, _, rfl, ?_⟩) | ((conv => whnf); refine DL.exn 2 ⟨_, _, rfl, ?_⟩) | ((conv => whnf); refine DL.exn 3 ⟨_, _, rfl, ?_⟩) | ((conv => whnf); refine DL.exn 4 ⟨_, _, rfl, ?_⟩) | ((conv => whnf); refine DL.exn 5 ⟨_, _, rfl, ?_⟩) | ((conv => whnf); refine DL.exn 6 ⟨_, _, rfl, ?_⟩) | ((conv => whnf); refine DL.exn 7 ⟨_, _, rfl, ?_⟩) | ((conv => whnf); refine DL.exn 0 ⟨_, _, _, rfl, rfl, ?_⟩) | ((conv => whnf); refine DL.exn 1 ⟨_, _, _, rfl, rfl, ?_⟩) | ((conv => whnf); refine DL.exn 2 ⟨_, _, _, rfl, rfl, ?_⟩) | ((conv => whnf); refine DL.exn 3 ⟨_, _, _, rfl, rfl, ?_⟩) | ((conv => whnf); refine DL.exn 4 ⟨_, _, _, rfl, rfl, ?_⟩) | ((conv => whnf); refine DL.exn 5 ⟨_, _, _, rfl, rfl, ?_⟩) | ((conv => whnf); refine DL.exn 6 ⟨_, _, _, rfl, rfl, ?_⟩) | ((conv => whnf); refine DL.exn 7 ⟨_, _, _, rfl, rfl, ?_⟩) | ((conv => whnf); refine Or.inl ⟨by decide, by decide, ?_⟩) | ((conv => whnf); refine Or.inr ⟨_, rfl, by decide, ?_⟩) | ((conv => whnf); refine And.intro (by first | assumption | rfl | decide | omega | exact ⟨rfl, by decide⟩ | exact DL.pl_ints | exact DL.pl_pairs | exact DL.pl_pair | exact Nat.le_of_ble_eq_true rfl | exact ⟨rfl, rfl⟩ | exact small_ok (by omega) (by omega) | exact ⟨small_ok (by omega) (by omega), small_ok (by omega) (by omega)⟩ | exact cdiv_ok (by omega) (by omega) | exact cmul_ok (by omega) (by omega) (by omega) (by omega) | exact cpow_ok (by omega) (by omega) (by omega) (by omega) | decide +kernel) ?_) | (refine DL.ifF (by first | assumption | decide | omega | (simp; omega) | (simp; done) | (simp [*]; omega) | (simp [*]; done) | (simp [DL.beq_ints, DL.beq_pairs, *]; done) | fail) ?_) | (refine DL.ifT (by first | assumption | decide | omega | (simp; omega) | (simp; done) | (simp [*]; omega) | (simp [*]; done) | (simp [DL.beq_ints, DL.beq_pairs, *]; done) | fail) ?_) | fail)
  (conv => whnf)
  refine ⟨by unfold RgOk; omega, ?_⟩
  (conv => whnf)
  rw [show rng 1 (3 + (sz : Int) + 1) = IL (rngI 1 (n + 1)) by rw [en, rng_il]]
  have hrl : (rngI 1 (n + 1)).length = n.toNat := by rw [len_rngI]; congr 1; omega
  refine shufX (K := K) (a := a) (w := w2) (c := c) (k := k2) (f := D.int) (xs := rngI 1 (n + 1)) (F0 := []) (by omega) (by omega) (by omega) (fun _ => pl_int) fun row w3 k3 hp hk5 hk6 => ?_
  have hfl : (row.length : Int) = n := by have := hp.length_eq; omega
  have ok : RowOk n row := ⟨h3, h9, hfl, hp.nodup_iff.mpr nd_rngI, fun x hx => by have := mem_rngI.mp (hp.mem_iff.mp hx); omega⟩
  repeat (first | ((conv => whnf); refine ⟨_, rfl, ?_⟩) | ((conv => whnf); refine ⟨_, _, rfl, ?_⟩) | ((conv => whnf); refine ⟨_, _, _, rfl, ?_⟩) | ((conv => whnf); refine ⟨_, _, _, _, rfl, ?_⟩) | ((conv => whnf); refine DL.exn 0 ⟨_, rfl, ?_⟩) | ((conv => whnf); refine DL.exn 1 ⟨_, rfl, ?_⟩) | ((conv => whnf); refine DL.exn 2 ⟨_, rfl, ?_⟩) | ((conv => whnf); refine DL.exn 3 ⟨_, rfl, ?_⟩) | ((conv => whnf); refine DL.exn 4 ⟨_, rfl, ?_⟩) | ((conv => whnf); refine DL.exn 5 ⟨_, rfl, ?_⟩) | ((conv => whnf); refine DL.exn 6 ⟨_, rfl, ?_⟩) | ((conv => whnf); refine DL.exn 7 ⟨_, rfl, ?_⟩) | ((conv => whnf); refine DL.exn 0 ⟨_, _, rfl, rfl, ?_⟩) | ((conv => whnf); refine DL.exn 1 ⟨_, _, rfl, rfl, ?_⟩) | ((conv => whnf); refine DL.exn 2 ⟨_, _, rfl, rfl, ?_⟩) | ((conv => whnf); refine DL.exn 3 ⟨_, _, rfl, rfl, ?_⟩) | ((conv => whnf); refine DL.exn 4 ⟨_, _, rfl, rfl, ?_⟩) | ((conv => whnf); refine DL.exn 5 ⟨_, _, rfl, rfl, ?_⟩) | ((conv => whnf); refine DL.exn 6 ⟨_, _, rfl, rfl, ?_⟩) | ((conv => whnf); refine DL.exn 7 ⟨_, _, rfl, rfl, ?_⟩) | ((conv => whnf); refine DL.exn 0 ⟨_, _, rfl, ?_⟩) | ((conv => whnf); refine DL.exn 1 ⟨_, _, rfl, ?_⟩) | ((conv => whnf); refine DL.exn 2 ⟨_, _, rfl, ?_⟩) | ((conv => whnf); refine DL.exn 3 ⟨_, _, rfl, ?_⟩) | ((conv => whnf); refine DL.exn 4 ⟨_, _, rfl, ?_⟩) | ((conv => whnf); refine DL.exn 5 ⟨_, _, rfl, ?_⟩) | ((conv => whnf); refine DL.exn 6 ⟨_, _, rfl, ?_⟩) | ((conv => whnf); refine DL.exn 7 ⟨_, _, rfl, ?_⟩) | ((conv => whnf); refine DL.exn 0 ⟨_, _, _, rfl, rfl, ?_⟩) | ((conv => whnf); refine DL.exn 1 ⟨_, _, _, rfl, rfl, ?_⟩) | ((conv => whnf); refine DL.exn 2 ⟨_, _, _, rfl, rfl, ?_⟩) | ((conv => whnf); refine DL.exn 3 ⟨_, _, _, rfl, rfl, ?_⟩) | ((conv => whnf); refine DL.exn 4 ⟨_, _, _, rfl, rfl, ?_⟩) | ((conv => whnf); refine DL.exn 5 ⟨_, _, _, rfl, rfl, ?_⟩) | ((conv => whnf); refine DL.exn 6 ⟨_, _, _, rfl, rfl, ?_⟩) | ((conv => whnf); refine DL.exn 7 ⟨_, _, _, rfl, rfl, ?_⟩) | ((conv => whnf); refine Or.inl ⟨by decide, by decide, ?_⟩) | ((conv => whnf); refine Or.inr ⟨_, rfl, by decide, ?_⟩) | ((conv => whnf); refine And.intro (by first | assumption | rfl | decide | omega | exact ⟨rfl, by decide⟩ | exact DL.pl_ints | exact DL.pl_pairs | exact DL.pl_pair | exact Nat.le_of_ble_eq_true rfl | exact ⟨rfl, rfl⟩ | exact small_ok (by omega) (by omega) | exact ⟨small_ok (by omega) (by omega), small_ok (by omega) (by omega)⟩ | exact cdiv_ok (by omega) (by omega) | exact cmul_ok (by omega) (by omega) (by omega) (by omega) | exact cpow_ok (by omega) (by omega) (by omega) (by omega) | decide +kernel) ?_) | (refine DL.ifF (by first | assumption | decide | omega | (simp; omega) | (simp; done) | (simp [*]; omega) | (simp [*]; done) | (simp [DL.beq_ints, DL.beq_pairs, *]; done) | fail) ?_) | (refine DL.ifT (by first | assumption | decide | omega | (simp; omega) | (simp; done) | (simp [*]; omega) | (simp [*]; done) | (simp [DL.beq_ints, DL.beq_pairs, *]; done) | fail) ?_) | fail)
  (conv => whnf)
  intro b
  refine ⟨b, n, sr, by rw [en]; rfl, rfl, oks, by omega, fun ps hps => ⟨rfl, _, _, rfl, ?_⟩⟩
  have okp : BkOk n ps := oks.perm hps
  repeat (first | ((conv => whnf); refine ⟨_, rfl, ?_⟩) | ((conv => whnf); refine ⟨_, _, rfl, ?_⟩) | ((conv => whnf); refine ⟨_, _, _, rfl, ?_⟩) | ((conv => whnf); refine ⟨_, _, _, _, rfl, ?_⟩) | ((conv => whnf); refine DL.exn 0 ⟨_, rfl, ?_⟩) | ((conv => whnf); refine DL.exn 1 ⟨_, rfl, ?_⟩) | ((conv => whnf); refine DL.exn 2 ⟨_, rfl, ?_⟩) | ((conv => whnf); refine DL.exn 3 ⟨_, rfl, ?_⟩) | ((conv => whnf); refine DL.exn 4 ⟨_, rfl, ?_⟩) | ((conv => whnf); refine DL.exn 5 ⟨_, rfl, ?_⟩) | ((conv => whnf); refine DL.exn 6 ⟨_, rfl, ?_⟩) | ((conv => whnf); refine DL.exn 7 ⟨_, rfl, ?_⟩) | ((conv => whnf); refine DL.exn 0 ⟨_, _, rfl, rfl, ?_⟩) | ((conv => whnf); refine DL.exn 1 ⟨_, _, rfl, rfl, ?_⟩) | ((conv => whnf); refine DL.exn 2 ⟨_, _, rfl, rfl, ?_⟩) | ((conv => whnf); refine DL.exn 3 ⟨_, _, rfl, rfl, ?_⟩) | ((conv => whnf); refine DL.exn 4 ⟨_, _, rfl, rfl, ?_⟩) | ((conv => whnf); refine DL.exn 5 ⟨_, _, rfl, rfl, ?_⟩) | ((conv => whnf); refine DL.exn 6 ⟨_, _, rfl, rfl, ?_⟩) | ((conv => whnf); refine DL.exn 7 ⟨_, _, rfl, rfl, ?_⟩) | ((conv => whnf); refine DL.exn 0 ⟨_, _, rfl, ?_⟩) | ((conv => whnf); refine DL.exn 1 ⟨_, _, rfl, ?_⟩) | ((conv => whnf); refine DL.exn 2 ⟨_, _, rfl, ?_⟩) | ((conv => whnf); refine DL.exn 3 ⟨_, _, rfl, ?_⟩) | ((conv => whnf); refine DL.exn 4 ⟨_, _, rfl, ?_⟩) | ((conv => whnf); refine DL.exn 5 ⟨_, _, rfl, ?_⟩) | ((conv => whnf); refine DL.exn 6 ⟨_, _, rfl, ?_⟩) | ((conv => whnf); refine DL.exn 7 ⟨_, _, rfl, ?_⟩) | ((conv => whnf); refine DL.exn 0 ⟨_, _, _, rfl, rfl, ?_⟩) | ((conv => whnf); refine DL.exn 1 ⟨_, _, _, rfl, rfl, ?_⟩) | ((conv => whnf); refine DL.exn 2 ⟨_, _, _, rfl, rfl, ?_⟩) | ((conv => whnf); refine DL.exn 3 ⟨_, _, _, rfl, rfl, ?_⟩) | ((conv => whnf); refine DL.exn 4 ⟨_, _, _, rfl, rfl, ?_⟩) | ((conv => whnf); refine DL.exn 5 ⟨_, _, _, rfl, rfl, ?_⟩) | ((conv => whnf); refine DL.exn 6 ⟨_, _, _, rfl, rfl, ?_⟩) | ((conv => whnf); refine DL.exn 7 ⟨_, _, _, rfl, rfl, ?_⟩) | ((conv => whnf); refine Or.inl ⟨by decide, by decide, ?_⟩) | ((conv => whnf); refine Or.inr ⟨_, rfl, by decide, ?_⟩) | ((conv => whnf); refine And.intro (by first | assumption | rfl | decide | omega | exact ⟨rfl, by decide⟩ | exact DL.pl_ints | exact DL.pl_pairs | exact DL.pl_pair | exact Nat.le_of_ble_eq_true rfl | exact ⟨rfl, rfl⟩ | exact small_ok (by omega) (by omega) | exact ⟨small_ok (by omega) (by omega), small_ok (by omega) (by omega)⟩ | exact cdiv_ok (by omega) (by omega) | exact cmul_ok (by omega) (by omega) (by omega) (by omega) | exact cpow_ok (by omega) (by omega) (by omega) (by omega) | decide +kernel) ?_) | (refine DL.ifF (by first | assumption | decide | omega | (simp; omega) | (simp; done) | (simp [*]; omega) | (simp [*]; done) | (simp [DL.beq_ints, DL.beq_pairs, *]; done) | fail) ?_) | (refine DL.ifT (by first | assumption | decide | omega | (simp; omega) | (simp; done) | (simp [*]; omega) | (simp [*]; done) | (simp [DL.beq_ints, DL.beq_pairs, *]; done) | fail) ?_) | fail)
  (conv => whnf)
  intro s
  refine ⟨s, n, row, rfl, rfl, ok, rfl, _, _, rfl, ?_⟩
  repeat (first | ((conv => whnf); refine ⟨_, rfl, ?_⟩) | ((conv => whnf); refine ⟨_, _, rfl, ?_⟩) | ((conv => whnf); refine ⟨_, _, _, rfl, ?_⟩) | ((conv => whnf); refine ⟨_, _, _, _, rfl, ?_⟩) | ((conv => whnf); refine DL.exn 0 ⟨_, rfl, ?_⟩) | ((conv => whnf); refine DL.exn 1 ⟨_, rfl, ?_⟩) | ((conv => whnf); refine DL.exn 2 ⟨_, rfl, ?_⟩) | ((conv => whnf); refine DL.exn 3 ⟨_, rfl, ?_⟩) | ((conv => whnf); refine DL.exn 4 ⟨_, rfl, ?_⟩) | ((conv => whnf); refine DL.exn 5 ⟨_, rfl, ?_⟩) | ((conv => whnf); refine DL.exn 6 ⟨_, rfl, ?_⟩) | ((conv => whnf); refine DL.exn 7 ⟨_, rfl, ?_⟩) | ((conv => whnf); refine DL.exn 0 ⟨_, _, rfl, rfl, ?_⟩) | ((conv => whnf); refine DL.exn 1 ⟨_, _, rfl, rfl, ?_⟩) | ((conv => whnf); refine DL.exn 2 ⟨_, _, rfl, rfl, ?_⟩) | ((conv => whnf); refine DL.exn 3 ⟨_, _, rfl, rfl, ?_⟩) | ((conv => whnf); refine DL.exn 4 ⟨_, _, rfl, rfl, ?_⟩) | ((conv => whnf); refine DL.exn 5 ⟨_, _, rfl, rfl, ?_⟩) | ((conv => whnf); refine DL.exn 6 ⟨_, _, rfl, rfl, ?_⟩) | ((conv => whnf); refine DL.exn 7 ⟨_, _, rfl, rfl, ?_⟩) | ((conv => whnf); refine DL.exn 0 ⟨_, _, rfl, ?_⟩) | ((conv => whnf); refine DL.exn 1 ⟨_, _, rfl, ?_⟩) | ((conv => whnf); refine DL.exn 2 ⟨_, _, rfl, ?_⟩) | ((conv => whnf); refine DL.exn 3 ⟨_, _, rfl, ?_⟩) | ((conv => whnf); refine DL.exn 4 ⟨_, _, rfl, ?_⟩) | ((conv => whnf); refine DL.exn 5 ⟨_, _, rfl, ?_⟩) | ((conv => whnf); refine DL.exn 6 ⟨_, _, rfl, ?_⟩) | ((conv => whnf); refine DL.exn 7 ⟨_, _, rfl, ?_⟩) | ((conv => whnf); refine DL.exn 0 ⟨_, _, _, rfl, rfl, ?_⟩) | ((conv => whnf); refine DL.exn 1 ⟨_, _, _, rfl, rfl, ?_⟩) | ((conv => whnf); refine DL.exn 2 ⟨_, _, _, rfl, rfl, ?_⟩) | ((conv => whnf); refine DL.exn 3 ⟨_, _, _, rfl, rfl, ?_⟩) | ((conv => whnf); refine DL.exn 4 ⟨_, _, _, rfl, rfl, ?_⟩) | ((conv => whnf); refine DL.exn 5 ⟨_, _, _, rfl, rfl, ?_⟩) | ((conv => whnf); refine DL.exn 6 ⟨_, _, _, rfl, rfl, ?_⟩) | ((conv => whnf); refine DL.exn 7 ⟨_, _, _, rfl, rfl, ?_⟩) | ((conv => whnf); refine Or.inl ⟨by decide, by decide, ?_⟩) | ((conv => whnf); refine Or.inr ⟨_, rfl, by decide, ?_⟩) | ((conv => whnf); refine And.intro (by first | assumption | rfl | decide | omega | exact ⟨rfl, by decide⟩ | exact DL.pl_ints | exact DL.pl_pairs | exact DL.pl_pair | exact Nat.le_of_ble_eq_true rfl | exact ⟨rfl, rfl⟩ | exact small_ok (by omega) (by omega) | exact ⟨small_ok (by omega) (by omega), small_ok (by omega) (by omega)⟩ | exact cdiv_ok (by omega) (by omega) | exact cmul_ok (by omega) (by omega) (by omega) (by omega) | exact cpow_ok (by omega) (by omega) (by omega) (by omega) | decide +kernel) ?_) | (refine DL.ifF (by first | assumption | decide | omega | (simp; omega) | (simp; done) | (simp [*]; omega) | (simp [*]; done) | (simp [DL.beq_ints, DL.beq_pairs, *]; done) | fail) ?_) | (refine DL.ifT (by first | assumption | decide | omega | (simp; omega) | (simp; done) | (simp [*]; omega) | (simp [*]; done) | (simp [DL.beq_ints, DL.beq_pairs, *]; done) | fail) ?_) | fail)
  (conv => whnf)
  intro t
  refine ⟨t, n, ps, row, rfl, rfl, ok, fun cc => ⟨rfl, ?_⟩⟩
  repeat (first | ((conv => whnf); refine ⟨_, rfl, ?_⟩) | ((conv => whnf); refine ⟨_, _, rfl, ?_⟩) | ((conv => whnf); refine ⟨_, _, _, rfl, ?_⟩) | ((conv => whnf); refine ⟨_, _, _, _, rfl, ?_⟩) | ((conv => whnf); refine DL.exn 0 ⟨_, rfl, ?_⟩) | ((conv => whnf); refine DL.exn 1 ⟨_, rfl, ?_⟩) | ((conv => whnf); refine DL.exn 2 ⟨_, rfl, ?_⟩) | ((conv => whnf); refine DL.exn 3 ⟨_, rfl, ?_⟩) | ((conv => whnf); refine DL.exn 4 ⟨_, rfl, ?_⟩) | ((conv => whnf); refine DL.exn 5 ⟨_, rfl, ?_⟩) | ((conv => whnf); refine DL.exn 6 ⟨_, rfl, ?_⟩) | ((conv => whnf); refine DL.exn 7 ⟨_, rfl, ?_⟩) | ((conv => whnf); refine DL.exn 0 ⟨_, _, rfl, rfl, ?_⟩) | ((conv => whnf); refine DL.exn 1 ⟨_, _, rfl, rfl, ?_⟩) | ((conv => whnf); refine DL.exn 2 ⟨_, _, rfl, rfl, ?_⟩) | ((conv => whnf); refine DL.exn 3 ⟨_, _, rfl, rfl, ?_⟩) | ((conv => whnf); refine DL.exn 4 ⟨_, _, rfl, rfl, ?_⟩) | ((conv => whnf); refine DL.exn 5 ⟨_, _, rfl, rfl, ?_⟩) | ((conv => whnf); refine DL.exn 6 ⟨_, _, rfl, rfl, ?_⟩) | ((conv => whnf); refine DL.exn 7 ⟨_, _, rfl, rfl, ?_⟩) | ((conv => whnf); refine DL.exn 0 ⟨_, _, rfl, ?_⟩) | ((conv => whnf); refine DL.exn 1 ⟨_, _, rfl, ?_⟩) | ((conv => whnf); refine DL.exn 2 ⟨_, _, rfl, ?_⟩) | ((conv => whnf); refine DL.exn 3 ⟨_, _, rfl, ?_⟩) | ((conv => whnf); refine DL.exn 4 ⟨_, _, rfl, ?_⟩) | ((conv => whnf); refine DL.exn 5 ⟨_, _, rfl, ?_⟩) | ((conv => whnf); refine DL.exn 6 ⟨_, _, rfl, ?_⟩) | ((conv => whnf); refine DL.exn 7 ⟨_, _, rfl, ?_⟩) | ((conv => whnf); refine DL.exn 0 ⟨_, _, _, rfl, rfl, ?_⟩) | ((conv => whnf); refine DL.exn 1 ⟨_, _, _, rfl, rfl, ?_⟩) | ((conv => whnf); refine DL.exn 2 ⟨_, _, _, rfl, rfl, ?_⟩) | ((conv => whnf); refine DL.exn 3 ⟨_, _, _, rfl, rfl, ?_⟩) | ((conv => whnf); refine DL.exn 4 ⟨_, _, _, rfl, rfl, ?_⟩) | ((conv => whnf); refine DL.exn 5 ⟨_, _, _, rfl, rfl, ?_⟩) | ((conv => whnf); refine DL.exn 6 ⟨_, _, _, rfl, rfl, ?_⟩) | ((conv => whnf); refine DL.exn 7 ⟨_, _, _, rfl, rfl, ?_⟩) | ((conv => whnf); refine Or.inl ⟨by decide, by decide, ?_⟩) | ((conv => whnf); refine Or.inr ⟨_, rfl, by decide, ?_⟩) | ((conv => whnf); refine And.intro (by first | assumption | rfl | decide | omega | exact ⟨rfl, by decide⟩ | exact DL.pl_ints | exact DL.pl_pairs | exact DL.pl_pair | exact Nat.le_of_ble_eq_true rfl | exact ⟨rfl, rfl⟩ | exact small_ok (by omega) (by omega) | exact ⟨small_ok (by omega) (by omega), small_ok (by omega) (by omega)⟩ | exact cdiv_ok (by omega) (by omega) | exact cmul_ok (by omega) (by omega) (by omega) (by omega) | exact cpow_ok (by omega) (by omega) (by omega) (by omega) | decide +kernel) ?_) | (refine DL.ifF (by first | assumption | decide | omega | (simp; omega) | (simp; done) | (simp [*]; omega) | (simp [*]; done) | (simp [DL.beq_ints, DL.beq_pairs, *]; done) | fail) ?_) | (refine DL.ifT (by first | assumption | decide | omega | (simp; omega) | (simp; done) | (simp [*]; omega) | (simp [*]; done) | (simp [DL.beq_ints, DL.beq_pairs, *]; done) | fail) ?_) | fail)
  (conv => whnf)
  intro pa
  (conv => whnf)
  refine ⟨by decide, ?_⟩
  (conv => whnf)
  refine ⟨by omega, by omega, by simp; omega, fun ov => ?_⟩
  (conv => whnf)
  intro m
  (conv => whnf)
  refine ⟨3, _, _, rfl, by decide +kernel, ?_⟩
  (conv => whnf)
  have eO : (.lst (List.replicate ((3 : Int) + sz).toNat [D.int 0]).flatten : MO) = .lst (IL (List.replicate row.length 0)) := by
    rw [rep_over]; congr 3; omega
  have G0 : Good n row (hs0 row) ps row (hs0 row) sr sr [] (List.replicate row.length 0) := Good.start ok okp fun x => hps.mem_iff
  refine ⟨[3, 3], tb K t cc n ps row 0 (hs0 row), [(m, dM row sr sr pa ov 0), (ov, .lst (IL (List.replicate row.length 0))), (pa, .lst []), (a, wl w3 c k3)], ?_, t, cc, n, ps, row, 0, hs0 row, rfl, rfl, ?_⟩
  · rw [← eO]; rfl
  repeat (first | ((conv => whnf); refine ⟨_, rfl, ?_⟩) | ((conv => whnf); refine ⟨_, _, rfl, ?_⟩) | ((conv => whnf); refine ⟨_, _, _, rfl, ?_⟩) | ((conv => whnf); refine ⟨_, _, _, _, rfl, ?_⟩) | ((conv => whnf); refine DL.exn 0 ⟨_, rfl, ?_⟩) | ((conv => whnf); refine DL.exn 1 ⟨_, rfl, ?_⟩) | ((conv => whnf); refine DL.exn 2 ⟨_, rfl, ?_⟩) | ((conv => whnf); refine DL.exn 3 ⟨_, rfl, ?_⟩) | ((conv => whnf); refine DL.exn 4 ⟨_, rfl, ?_⟩) | ((conv => whnf); refine DL.exn 5 ⟨_, rfl, ?_⟩) | ((conv => whnf); refine DL.exn 6 ⟨_, rfl, ?_⟩) | ((conv => whnf); refine DL.exn 7 ⟨_, rfl, ?_⟩) | ((conv => whnf); refine DL.exn 0 ⟨_, _, rfl, rfl, ?_⟩) | ((conv => whnf); refine DL.exn 1 ⟨_, _, rfl, rfl, ?_⟩) | ((conv => whnf); refine DL.exn 2 ⟨_, _, rfl, rfl, ?_⟩) | ((conv => whnf); refine DL.exn 3 ⟨_, _, rfl, rfl, ?_⟩) | ((conv => whnf); refine DL.exn 4 ⟨_, _, rfl, rfl, ?_⟩) | ((conv => whnf); refine DL.exn 5 ⟨_, _, rfl, rfl, ?_⟩) | ((conv => whnf); refine DL.exn 6 ⟨_, _, rfl, rfl, ?_⟩) | ((conv => whnf); refine DL.exn 7 ⟨_, _, rfl, rfl, ?_⟩) | ((conv => whnf); refine DL.exn 0 ⟨_, _, rfl, ?_⟩) | ((conv => whnf); refine DL.exn 1 ⟨_, _, rfl, ?_⟩) | ((conv => whnf); refine DL.exn 2 ⟨_, _, rfl, ?_⟩) | ((conv => whnf); refine DL.exn 3 ⟨_, _, rfl, ?_⟩) | ((conv => whnf); refine DL.exn 4 ⟨_, _, rfl, ?_⟩) | ((conv => whnf); refine DL.exn 5 ⟨_, _, rfl, ?_⟩) | ((conv => whnf); refine DL.exn 6 ⟨_, _, rfl, ?_⟩) | ((conv => whnf); refine DL.exn 7 ⟨_, _, rfl, ?_⟩) | ((conv => whnf); refine DL.exn 0 ⟨_, _, _, rfl, rfl, ?_⟩) | ((conv => whnf); refine DL.exn 1 ⟨_, _, _, rfl, rfl, ?_⟩) | ((conv => whnf); refine DL.exn 2 ⟨_, _, _, rfl, rfl, ?_⟩) | ((conv => whnf); refine DL.exn 3 ⟨_, _, _, rfl, rfl, ?_⟩) | ((conv => whnf); refine DL.exn 4 ⟨_, _, _, rfl, rfl, ?_⟩) | ((conv => whnf); refine DL.exn 5 ⟨_, _, _, rfl, rfl, ?_⟩) | ((conv => whnf); refine DL.exn 6 ⟨_, _, _, rfl, rfl, ?_⟩) | ((conv => whnf); refine DL.exn 7 ⟨_, _, _, rfl, rfl, ?_⟩) | ((conv => whnf); refine Or.inl ⟨by decide, by decide, ?_⟩) | ((conv => whnf); refine Or.inr ⟨_, rfl, by decide, ?_⟩) | ((conv => whnf); refine And.intro (by first | assumption | rfl | decide | omega | exact ⟨rfl, by decide⟩ | exact DL.pl_ints | exact DL.pl_pairs | exact DL.pl_pair | exact Nat.le_of_ble_eq_true rfl | exact ⟨rfl, rfl⟩ | exact small_ok (by omega) (by omega) | exact ⟨small_ok (by omega) (by omega), small_ok (by omega) (by omega)⟩ | exact cdiv_ok (by omega) (by omega) | exact cmul_ok (by omega) (by omega) (by omega) (by omega) | exact cpow_ok (by omega) (by omega) (by omega) (by omega) | decide +kernel) ?_) | (refine DL.ifF (by first | assumption | decide | omega | (simp; omega) | (simp; done) | (simp [*]; omega) | (simp [*]; done) | (simp [DL.beq_ints, DL.beq_pairs, *]; done) | fail) ?_) | (refine DL.ifT (by first | assumption | decide | omega | (simp; omega) | (simp; done) | (simp [*]; omega) | (simp [*]; done) | (simp [DL.beq_ints, DL.beq_pairs, *]; done) | fail) ?_) | fail)
  (conv => whnf)
  refine ⟨[5], [(a, wl w3 c k3)], tb K t cc n ps row 0 (hs0 row) ++ [(m, dM row sr sr pa ov 0), (ov, .lst (IL (List.replicate row.length 0))), (pa, .lst [])], rfl, a, w3, c, k3, 61, rfl, rfl, by omega, by omega, by omega, by omega, fun dd w4 k4 e1 e2 hk7 hk8 => ?_⟩
  obtain ⟨u, rfl⟩ := Int.eq_ofNat_of_zero_le e1
  repeat (first | ((conv => whnf); refine ⟨_, rfl, ?_⟩) | ((conv => whnf); refine ⟨_, _, rfl, ?_⟩) | ((conv => whnf); refine ⟨_, _, _, rfl, ?_⟩) | ((conv => whnf); refine ⟨_, _, _, _, rfl, ?_⟩) | ((conv => whnf); refine DL.exn 0 ⟨_, rfl, ?_⟩) | ((conv => whnf); refine DL.exn 1 ⟨_, rfl, ?_⟩) | ((conv => whnf); refine DL.exn 2 ⟨_, rfl, ?_⟩) | ((conv => whnf); refine DL.exn 3 ⟨_, rfl, ?_⟩) | ((conv => whnf); refine DL.exn 4 ⟨_, rfl, ?_⟩) | ((conv => whnf); refine DL.exn 5 ⟨_, rfl, ?_⟩) | ((conv => whnf); refine DL.exn 6 ⟨_, rfl, ?_⟩) | ((conv => whnf); refine DL.exn 7 ⟨_, rfl, ?_⟩) | ((conv => whnf); refine DL.exn 0 ⟨_, _, rfl, rfl, ?_⟩) | ((conv => whnf); refine DL.exn 1 ⟨_, _, rfl, rfl, ?_⟩) | ((conv => whnf); refine DL.exn 2 ⟨_, _, rfl, rfl, ?_⟩) | ((conv => whnf); refine DL.exn 3 ⟨_, _, rfl, rfl, ?_⟩) | ((conv => whnf); refine DL.exn 4 ⟨_, _, rfl, rfl, ?_⟩) | ((conv => whnf); refine DL.exn 5 ⟨_, _, rfl, rfl, ?_⟩) | ((conv => whnf); refine DL.exn 6 ⟨_, _, rfl, rfl, ?_⟩) | ((conv => whnf); refine DL.exn 7 ⟨_, _, rfl, rfl, ?_⟩) | ((conv => whnf); refine DL.exn 0 ⟨_, _, rfl, ?_⟩) | ((conv => whnf); refine DL.exn 1 ⟨_, _, rfl, ?_⟩) | ((conv => whnf); refine DL.exn 2 ⟨_, _, rfl, ?_⟩) | ((conv => whnf); refine DL.exn 3 ⟨_, _, rfl, ?_⟩) | ((conv => whnf); refine DL.exn 4 ⟨_, _, rfl, ?_⟩) | ((conv => whnf); refine DL.exn 5 ⟨_, _, rfl, ?_⟩) | ((conv => whnf); refine DL.exn 6 ⟨_, _, rfl, ?_⟩) | ((conv => whnf); refine DL.exn 7 ⟨_, _, rfl, ?_⟩) | ((conv => whnf); refine DL.exn 0 ⟨_, _, _, rfl, rfl, ?_⟩) | ((conv => whnf); refine DL.exn 1 ⟨_, _, _, rfl, rfl, ?_⟩) | ((conv => whnf); refine DL.exn 2 ⟨_, _, _, rfl, rfl, ?_⟩) | ((conv => whnf); refine DL.exn 3 ⟨_, _, _, rfl, rfl, ?_⟩) | ((conv => whnf); refine DL.exn 4 ⟨_, _, _, rfl, rfl, ?_⟩) | ((conv => whnf); refine DL.exn 5 ⟨_, _, _, rfl, rfl, ?_⟩) | ((conv => whnf); refine DL.exn 6 ⟨_, _, _, rfl, rfl, ?_⟩) | ((conv => whnf); refine DL.exn 7 ⟨_, _, _, rfl, rfl, ?_⟩) | ((conv => whnf); refine Or.inl ⟨by decide, by decide, ?_⟩) | ((conv => whnf); refine Or.inr ⟨_, rfl, by decide, ?_⟩) | ((conv => whnf); refine And.intro (by first | assumption | rfl | decide | omega | exact ⟨rfl, by decide⟩ | exact DL.pl_ints | exact DL.pl_pairs | exact DL.pl_pair | exact Nat.le_of_ble_eq_true rfl | exact ⟨rfl, rfl⟩ | exact small_ok (by omega) (by omega) | exact ⟨small_ok (by omega) (by omega), small_ok (by omega) (by omega)⟩ | exact cdiv_ok (by omega) (by omega) | exact cmul_ok (by omega) (by omega) (by omega) (by omega) | exact cpow_ok (by omega) (by omega) (by omega) (by omega) | decide +kernel) ?_) | (refine DL.ifF (by first | assumption | decide | omega | (simp; omega) | (simp; done) | (simp [*]; omega) | (simp [*]; done) | (simp [DL.beq_ints, DL.beq_pairs, *]; done) | fail) ?_) | (refine DL.ifT (by first | assumption | decide | omega | (simp; omega) | (simp; done) | (simp [*]; omega) | (simp [*]; done) | (simp [DL.beq_ints, DL.beq_pairs, *]; done) | fail) ?_) | fail)
  (conv => whnf)
  refine loop_ind (fun its ds M => ∃ (j : Nat) (w' k' : Int) (ps' : List (Int × Int)) (row' hs' : List Int) (sr' ev : List (Int × Int)) (path over : List Int) (turns : Int) (v7 : Option D), its = rng j u ∧ (j : Int) ≤ u ∧ Good n row (hs0 row) ps' row' hs' sr' ev path over ∧ 0 ≤ k' ∧ k' ≤ 100000 + 1000 * (j : Int) ∧
    path.length ≤ 3 * j ∧ sr'.length ≤ 81 + 81 * j ∧ ev.length ≤ 81 ∧ ds = [some (.ref a), some (.int (3 + (sz : Int))), some (.lst (PL sr)), some (.lst (IL row)), some (.ref t), some (.ref m), some (.lst (IL (hs0 row))), v7, none, none, none] ∧
    (M = (a, wl w' c k') :: (tb K t cc n ps' row' (path.length : Nat) hs' ++ [(m, dM row' sr' ev pa ov turns), (ov, .lst (IL over)), (pa, .lst (IL path))]) ∨ M = (tb K t cc n ps' row' (path.length : Nat) hs' ++ mm m pa ov row' sr' ev path over turns) ++ [(a, wl w' c k')])) ?_ ?_
    ⟨0, w4, k4, ps, row, hs0 row, sr, sr, [], List.replicate row.length 0, 0, none, rfl, by omega, G0, by omega, by omega, by simp, by omega, by omega, rfl, .inl rfl⟩
  · rintro _ _ ⟨j, w', k', ps', row', hs', sr', ev, path, over, turns, x7, e, hj, G', hk9, hk10, hpl, hsl2, hel, rfl, hM⟩
    obtain ⟨P, hP, hPl0, hPf⟩ := G'.hist
    have hrl2 : row'.length = row.length := by have := G'.rok.len; omega
    have hPl : ∀ i ∈ P, i < row.length := fun i hi => by have := hPl0 i hi; omega
    (conv => whnf)
    refine ⟨n, by rw [en]; rfl, rfl, h3, h9, fun qs0 okq0 hw hl0 => ?_⟩
    (conv => whnf)
    have hne : qs0 ≠ [] := fun z => by have := hw 1 2 (by omega) (by omega) (by omega); rw [z] at this; cases this
    refine loop_ind (fun its ds M => ∃ (qs ps2 : List (Int × Int)) (x7 x8 x9 : Option D), its = PL qs ∧ (∀ z ∈ qs, 1 ≤ z.1 ∧ z.1 < z.2 ∧ z.2 ≤ n) ∧ BkOk n ps2 ∧ (∀ z ∈ ps2, z ∈ qs) ∧ ds = [some (.ref a), some (.int (3 + (sz : Int))), some (.lst (PL sr)), some (.lst (IL row)), some (.ref t), some (.ref m), some (.lst (IL (hs0 row))), x7, x8, x9, none] ∧
      ((M = (a, wl w' c k') :: (tb K t cc n ps2 row' (path.length : Nat) hs' ++ [(m, dM row' sr' ev pa ov turns), (ov, .lst (IL over)), (pa, .lst (IL path))]) ∧ qs ≠ []) ∨ (M = tb K t cc n ps2 row' (path.length : Nat) hs' ++ [(a, wl w' c k'), (m, dM row' sr' ev pa ov turns), (ov, .lst (IL over)), (pa, .lst (IL path))] ∨ M = tb K t cc n ps2 row' (path.length : Nat) hs' ++ [(m, dM row' sr' ev pa ov turns), (pa, .lst (IL path)), (ov, .lst (IL over)), (a, wl w' c k')]))) ?_ ?_
      ⟨qs0, ps', x7, none, none, rfl, okq0.mem, G'.bok, fun z hz => by have := G'.bok.mem z hz; exact hw z.1 z.2 this.1 this.2.1 this.2.2, rfl, by rcases hM with rfl | rfl; exact .inl ⟨rfl, hne⟩; exact .inr (.inr rfl)⟩
    · rintro _ _ ⟨qs, ps2, x7, x8, x9, e2, hqs, ok2, hsub, rfl, hM⟩
      have hqn : qs = [] := by
        have := congrArg List.length e2
        simp at this
        exact List.eq_nil_of_length_eq_zero this.symm
      subst hqn
      have hps2 : ps2 = [] := List.eq_nil_iff_forall_not_mem.mpr fun z hz => by have := hsub z hz; cases this
      subst hps2
      rcases hM with ⟨_, hc⟩ | rfl | rfl
      · exact absurd rfl hc
      · skip
        repeat (first | ((conv => whnf); refine ⟨_, rfl, ?_⟩) | ((conv => whnf); refine ⟨_, _, rfl, ?_⟩) | ((conv => whnf); refine ⟨_, _, _, rfl, ?_⟩) | ((conv => whnf); refine ⟨_, _, _, _, rfl, ?_⟩) | ((conv => whnf); refine DL.exn 0 ⟨_, rfl, ?_⟩) | ((conv => whnf); refine DL.exn 1 ⟨_, rfl, ?_⟩) | ((conv => whnf); refine DL.exn 2 ⟨_, rfl, ?_⟩) | ((conv => whnf); refine DL.exn 3 ⟨_, rfl, ?_⟩) | ((conv => whnf); refine DL.exn 4 ⟨_, rfl, ?_⟩) | ((conv => whnf); refine DL.exn 5 ⟨_, rfl, ?_⟩) | ((conv => whnf); refine DL.exn 6 ⟨_, rfl, ?_⟩) | ((conv => whnf); refine DL.exn 7 ⟨_, rfl, ?_⟩) | ((conv => whnf); refine DL.exn 0 ⟨_, _, rfl, rfl, ?_⟩) | ((conv => whnf); refine DL.exn 1 ⟨_, _, rfl, rfl, ?_⟩) | ((conv => whnf); refine DL.exn 2 ⟨_, _, rfl, rfl, ?_⟩) | ((conv => whnf); refine DL.exn 3 ⟨_, _, rfl, rfl, ?_⟩) | ((conv => whnf); refine DL.exn 4 ⟨_, _, rfl, rfl, ?_⟩) | ((conv => whnf); refine DL.exn 5 ⟨_, _, rfl, rfl, ?_⟩) | ((conv => whnf); refine DL.exn 6 ⟨_, _, rfl, rfl, ?_⟩) | ((conv => whnf); refine DL.exn 7 ⟨_, _, rfl, rfl, ?_⟩) | ((conv => whnf); refine DL.exn 0 ⟨_, _, rfl, ?_⟩) | ((conv => whnf); refine DL.exn 1 ⟨_, _, rfl, ?_⟩) | ((conv => whnf); refine DL.exn 2 ⟨_, _, rfl, ?_⟩) | ((conv => whnf); refine DL.exn 3 ⟨_, _, rfl, ?_⟩) | ((conv => whnf); refine DL.exn 4 ⟨_, _, rfl, ?_⟩) | ((conv => whnf); refine DL.exn 5 ⟨_, _, rfl, ?_⟩) | ((conv => whnf); refine DL.exn 6 ⟨_, _, rfl, ?_⟩) | ((conv => whnf); refine DL.exn 7 ⟨_, _, rfl, ?_⟩) | ((conv => whnf); refine DL.exn 0 ⟨_, _, _, rfl, rfl, ?_⟩) | ((conv => whnf); refine DL.exn 1 ⟨_, _, _, rfl, rfl, ?_⟩) | ((conv => whnf); refine DL.exn 2 ⟨_, _, _, rfl, rfl, ?_⟩) | ((conv => whnf); refine DL.exn 3 ⟨_, _, _, rfl, rfl, ?_⟩) | ((conv => whnf); refine DL.exn 4 ⟨_, _, _, rfl, rfl, ?_⟩) | ((conv => whnf); refine DL.exn 5 ⟨_, _, _, rfl, rfl, ?_⟩) | ((conv => whnf); refine DL.exn 6 ⟨_, _, _, rfl, rfl, ?_⟩) | ((conv => whnf); refine DL.exn 7 ⟨_, _, _, rfl, rfl, ?_⟩) | ((conv => whnf); refine Or.inl ⟨by decide, by decide, ?_⟩) | ((conv => whnf); refine Or.inr ⟨_, rfl, by decide, ?_⟩) | ((conv => whnf); refine And.intro (by first | assumption | rfl | decide | omega | exact ⟨rfl, by decide⟩ | exact DL.pl_ints | exact DL.pl_pairs | exact DL.pl_pair | exact Nat.le_of_ble_eq_true rfl | exact ⟨rfl, rfl⟩ | exact small_ok (by omega) (by omega) | exact ⟨small_ok (by omega) (by omega), small_ok (by omega) (by omega)⟩ | exact cdiv_ok (by omega) (by omega) | exact cmul_ok (by omega) (by omega) (by omega) (by omega) | exact cpow_ok (by omega) (by omega) (by omega) (by omega) | decide +kernel) ?_) | (refine DL.ifF (by first | assumption | decide | omega | (simp; omega) | (simp; done) | (simp [*]; omega) | (simp [*]; done) | (simp [DL.beq_ints, DL.beq_pairs, *]; done) | fail) ?_) | (refine DL.ifT (by first | assumption | decide | omega | (simp; omega) | (simp; done) | (simp [*]; omega) | (simp [*]; done) | (simp [DL.beq_ints, DL.beq_pairs, *]; done) | fail) ?_) | fail)
        (conv => whnf)
        refine loop_ind (fun its ds M => ∃ (P1 : List Nat) (made : Int) (x10 : Option D), its = IL ((P1.map fun (i : Nat) => (i : Int)).reverse) ∧ (∀ i ∈ P1, i < row.length) ∧ made = (path.length : Int) + ((P.length : Int) - P1.length) ∧
          ds = [some (.ref a), some (.int (3 + (sz : Int))), some (.lst (PL sr)), some (.lst (IL row)), some (.ref t), some (.ref m), some (.lst (IL (hs0 row))), x7, x8, x9, x10] ∧ M = tb K t cc n [] (P1.foldl chg (row, hs0 row)).1 made (P1.foldl chg (row, hs0 row)).2 ++ [(a, wl w' c k'), (m, dM row' sr' ev pa ov turns), (ov, .lst (IL over)), (pa, .lst (IL path))]) ?_ ?_
          ⟨P, (path.length : Nat), none, by rw [← hP] <;> simp [IL, List.map_reverse], hPl, by omega, rfl, by rw [hPf]⟩
        · rintro _ _ ⟨P1, made, x10, e, hP1, hmade, rfl, rfl⟩
          have hnil : P1 = [] := by
            have := congrArg List.length e
            simp at this
            exact List.eq_nil_of_length_eq_zero this.symm
          subst hnil
          have hPlen : (P.length : Int) = path.length := by rw [hP]; simp
          simp only [List.length_nil] at hmade
          have lp : ((IL path).length : Int) = path.length := by simp
          have hm2 : made = 2 * ((IL path).length : Int) := by rw [lp]; omega
          have hp3 : path.length ≤ 183 := by omega
          repeat (first | ((conv => whnf); refine ⟨_, rfl, ?_⟩) | ((conv => whnf); refine ⟨_, _, rfl, ?_⟩) | ((conv => whnf); refine ⟨_, _, _, rfl, ?_⟩) | ((conv => whnf); refine ⟨_, _, _, _, rfl, ?_⟩) | ((conv => whnf); refine DL.exn 0 ⟨_, rfl, ?_⟩) | ((conv => whnf); refine DL.exn 1 ⟨_, rfl, ?_⟩) | ((conv => whnf); refine DL.exn 2 ⟨_, rfl, ?_⟩) | ((conv => whnf); refine DL.exn 3 ⟨_, rfl, ?_⟩) | ((conv => whnf); refine DL.exn 4 ⟨_, rfl, ?_⟩) | ((conv => whnf); refine DL.exn 5 ⟨_, rfl, ?_⟩) | ((conv => whnf); refine DL.exn 6 ⟨_, rfl, ?_⟩) | ((conv => whnf); refine DL.exn 7 ⟨_, rfl, ?_⟩) | ((conv => whnf); refine DL.exn 0 ⟨_, _, rfl, rfl, ?_⟩) | ((conv => whnf); refine DL.exn 1 ⟨_, _, rfl, rfl, ?_⟩) | ((conv => whnf); refine DL.exn 2 ⟨_, _, rfl, rfl, ?_⟩) | ((conv => whnf); refine DL.exn 3 ⟨_, _, rfl, rfl, ?_⟩) | ((conv => whnf); refine DL.exn 4 ⟨_, _, rfl, rfl, ?_⟩) | ((conv => whnf); refine DL.exn 5 ⟨_, _, rfl, rfl, ?_⟩) | ((conv => whnf); refine DL.exn 6 ⟨_, _, rfl, rfl, ?_⟩) | ((conv => whnf); refine DL.exn 7 ⟨_, _, rfl, rfl, ?_⟩) | ((conv => whnf); refine DL.exn 0 ⟨_, _, rfl, ?_⟩) | ((conv => whnf); refine DL.exn 1 ⟨_, _, rfl, ?_⟩) | ((conv => whnf); refine DL.exn 2 ⟨_, _, rfl, ?_⟩) | ((conv => whnf); refine DL.exn 3 ⟨_, _, rfl, ?_⟩) | ((conv => whnf); refine DL.exn 4 ⟨_, _, rfl, ?_⟩) | ((conv => whnf); refine DL.exn 5 ⟨_, _, rfl, ?_⟩) | ((conv => whnf); refine DL.exn 6 ⟨_, _, rfl, ?_⟩) | ((conv => whnf); refine DL.exn 7 ⟨_, _, rfl, ?_⟩) | ((conv => whnf); refine DL.exn 0 ⟨_, _, _, rfl, rfl, ?_⟩) | ((conv => whnf); refine DL.exn 1 ⟨_, _, _, rfl, rfl, ?_⟩) | ((conv => whnf); refine DL.exn 2 ⟨_, _, _, rfl, rfl, ?_⟩) | ((conv => whnf); refine DL.exn 3 ⟨_, _, _, rfl, rfl, ?_⟩) | ((conv => whnf); refine DL.exn 4 ⟨_, _, _, rfl, rfl, ?_⟩) | ((conv => whnf); refine DL.exn 5 ⟨_, _, _, rfl, rfl, ?_⟩) | ((conv => whnf); refine DL.exn 6 ⟨_, _, _, rfl, rfl, ?_⟩) | ((conv => whnf); refine DL.exn 7 ⟨_, _, _, rfl, rfl, ?_⟩) | ((conv => whnf); refine Or.inl ⟨by decide, by decide, ?_⟩) | ((conv => whnf); refine Or.inr ⟨_, rfl, by decide, ?_⟩) | ((conv => whnf); refine And.intro (by first | assumption | rfl | decide | omega | exact ⟨rfl, by decide⟩ | exact DL.pl_ints | exact DL.pl_pairs | exact DL.pl_pair | exact Nat.le_of_ble_eq_true rfl | exact ⟨rfl, rfl⟩ | exact small_ok (by omega) (by omega) | exact ⟨small_ok (by omega) (by omega), small_ok (by omega) (by omega)⟩ | exact cdiv_ok (by omega) (by omega) | exact cmul_ok (by omega) (by omega) (by omega) (by omega) | exact cpow_ok (by omega) (by omega) (by omega) (by omega) | decide +kernel) ?_) | (refine DL.ifF (by first | assumption | decide | omega | (simp; omega) | (simp; done) | (simp [*]; omega) | (simp [*]; done) | (simp [DL.beq_ints, DL.beq_pairs, *]; done) | fail) ?_) | (refine DL.ifT (by first | assumption | decide | omega | (simp; omega) | (simp; done) | (simp [*]; omega) | (simp [*]; done) | (simp [DL.beq_ints, DL.beq_pairs, *]; done) | fail) ?_) | fail)
          (conv => whnf)
          refine ⟨[0, 0], tb K t cc n [] row made (hs0 row), [(a, wl w' c k'), (m, dM row' sr' ev pa ov turns), (ov, .lst (IL over)), (pa, .lst (IL path))], rfl, t, cc, n, [], row, made, hs0 row, rfl, rfl, ?_⟩
          repeat (first | ((conv => whnf); refine ⟨_, rfl, ?_⟩) | ((conv => whnf); refine ⟨_, _, rfl, ?_⟩) | ((conv => whnf); refine ⟨_, _, _, rfl, ?_⟩) | ((conv => whnf); refine ⟨_, _, _, _, rfl, ?_⟩) | ((conv => whnf); refine DL.exn 0 ⟨_, rfl, ?_⟩) | ((conv => whnf); refine DL.exn 1 ⟨_, rfl, ?_⟩) | ((conv => whnf); refine DL.exn 2 ⟨_, rfl, ?_⟩) | ((conv => whnf); refine DL.exn 3 ⟨_, rfl, ?_⟩) | ((conv => whnf); refine DL.exn 4 ⟨_, rfl, ?_⟩) | ((conv => whnf); refine DL.exn 5 ⟨_, rfl, ?_⟩) | ((conv => whnf); refine DL.exn 6 ⟨_, rfl, ?_⟩) | ((conv => whnf); refine DL.exn 7 ⟨_, rfl, ?_⟩) | ((conv => whnf); refine DL.exn 0 ⟨_, _, rfl, rfl, ?_⟩) | ((conv => whnf); refine DL.exn 1 ⟨_, _, rfl, rfl, ?_⟩) | ((conv => whnf); refine DL.exn 2 ⟨_, _, rfl, rfl, ?_⟩) | ((conv => whnf); refine DL.exn 3 ⟨_, _, rfl, rfl, ?_⟩) | ((conv => whnf); refine DL.exn 4 ⟨_, _, rfl, rfl, ?_⟩) | ((conv => whnf); refine DL.exn 5 ⟨_, _, rfl, rfl, ?_⟩) | ((conv => whnf); refine DL.exn 6 ⟨_, _, rfl, rfl, ?_⟩) | ((conv => whnf); refine DL.exn 7 ⟨_, _, rfl, rfl, ?_⟩) | ((conv => whnf); refine DL.exn 0 ⟨_, _, rfl, ?_⟩) | ((conv => whnf); refine DL.exn 1 ⟨_, _, rfl, ?_⟩) | ((conv => whnf); refine DL.exn 2 ⟨_, _, rfl, ?_⟩) | ((conv => whnf); refine DL.exn 3 ⟨_, _, rfl, ?_⟩) | ((conv => whnf); refine DL.exn 4 ⟨_, _, rfl, ?_⟩) | ((conv => whnf); refine DL.exn 5 ⟨_, _, rfl, ?_⟩) | ((conv => whnf); refine DL.exn 6 ⟨_, _, rfl, ?_⟩) | ((conv => whnf); refine DL.exn 7 ⟨_, _, rfl, ?_⟩) | ((conv => whnf); refine DL.exn 0 ⟨_, _, _, rfl, rfl, ?_⟩) | ((conv => whnf); refine DL.exn 1 ⟨_, _, _, rfl, rfl, ?_⟩) | ((conv => whnf); refine DL.exn 2 ⟨_, _, _, rfl, rfl, ?_⟩) | ((conv => whnf); refine DL.exn 3 ⟨_, _, _, rfl, rfl, ?_⟩) | ((conv => whnf); refine DL.exn 4 ⟨_, _, _, rfl, rfl, ?_⟩) | ((conv => whnf); refine DL.exn 5 ⟨_, _, _, rfl, rfl, ?_⟩) | ((conv => whnf); refine DL.exn 6 ⟨_, _, _, rfl, rfl, ?_⟩) | ((conv => whnf); refine DL.exn 7 ⟨_, _, _, rfl, rfl, ?_⟩) | ((conv => whnf); refine Or.inl ⟨by decide, by decide, ?_⟩) | ((conv => whnf); refine Or.inr ⟨_, rfl, by decide, ?_⟩) | ((conv => whnf); refine And.intro (by first | assumption | rfl | decide | omega | exact ⟨rfl, by decide⟩ | exact DL.pl_ints | exact DL.pl_pairs | exact DL.pl_pair | exact Nat.le_of_ble_eq_true rfl | exact ⟨rfl, rfl⟩ | exact small_ok (by omega) (by omega) | exact ⟨small_ok (by omega) (by omega), small_ok (by omega) (by omega)⟩ | exact cdiv_ok (by omega) (by omega) | exact cmul_ok (by omega) (by omega) (by omega) (by omega) | exact cpow_ok (by omega) (by omega) (by omega) (by omega) | decide +kernel) ?_) | (refine DL.ifF (by first | assumption | decide | omega | (simp; omega) | (simp; done) | (simp [*]; omega) | (simp [*]; done) | (simp [DL.beq_ints, DL.beq_pairs, *]; done) | fail) ?_) | (refine DL.ifT (by first | assumption | decide | omega | (simp; omega) | (simp; done) | (simp [*]; omega) | (simp [*]; done) | (simp [DL.beq_ints, DL.beq_pairs, *]; done) | fail) ?_) | fail)
          (conv => whnf)
          refine ⟨[0, 0], tb K t cc n [] row made (hs0 row), [(a, wl w' c k'), (m, dM row' sr' ev pa ov turns), (ov, .lst (IL over)), (pa, .lst (IL path))], rfl, t, cc, n, [], row, made, hs0 row, rfl, rfl, ?_⟩
          repeat (first | ((conv => whnf); refine ⟨_, rfl, ?_⟩) | ((conv => whnf); refine ⟨_, _, rfl, ?_⟩) | ((conv => whnf); refine ⟨_, _, _, rfl, ?_⟩) | ((conv => whnf); refine ⟨_, _, _, _, rfl, ?_⟩) | ((conv => whnf); refine DL.exn 0 ⟨_, rfl, ?_⟩) | ((conv => whnf); refine DL.exn 1 ⟨_, rfl, ?_⟩) | ((conv => whnf); refine DL.exn 2 ⟨_, rfl, ?_⟩) | ((conv => whnf); refine DL.exn 3 ⟨_, rfl, ?_⟩) | ((conv => whnf); refine DL.exn 4 ⟨_, rfl, ?_⟩) | ((conv => whnf); refine DL.exn 5 ⟨_, rfl, ?_⟩) | ((conv => whnf); refine DL.exn 6 ⟨_, rfl, ?_⟩) | ((conv => whnf); refine DL.exn 7 ⟨_, rfl, ?_⟩) | ((conv => whnf); refine DL.exn 0 ⟨_, _, rfl, rfl, ?_⟩) | ((conv => whnf); refine DL.exn 1 ⟨_, _, rfl, rfl, ?_⟩) | ((conv => whnf); refine DL.exn 2 ⟨_, _, rfl, rfl, ?_⟩) | ((conv => whnf); refine DL.exn 3 ⟨_, _, rfl, rfl, ?_⟩) | ((conv => whnf); refine DL.exn 4 ⟨_, _, rfl, rfl, ?_⟩) | ((conv => whnf); refine DL.exn 5 ⟨_, _, rfl, rfl, ?_⟩) | ((conv => whnf); refine DL.exn 6 ⟨_, _, rfl, rfl, ?_⟩) | ((conv => whnf); refine DL.exn 7 ⟨_, _, rfl, rfl, ?_⟩) | ((conv => whnf); refine DL.exn 0 ⟨_, _, rfl, ?_⟩) | ((conv => whnf); refine DL.exn 1 ⟨_, _, rfl, ?_⟩) | ((conv => whnf); refine DL.exn 2 ⟨_, _, rfl, ?_⟩) | ((conv => whnf); refine DL.exn 3 ⟨_, _, rfl, ?_⟩) | ((conv => whnf); refine DL.exn 4 ⟨_, _, rfl, ?_⟩) | ((conv => whnf); refine DL.exn 5 ⟨_, _, rfl, ?_⟩) | ((conv => whnf); refine DL.exn 6 ⟨_, _, rfl, ?_⟩) | ((conv => whnf); refine DL.exn 7 ⟨_, _, rfl, ?_⟩) | ((conv => whnf); refine DL.exn 0 ⟨_, _, _, rfl, rfl, ?_⟩) | ((conv => whnf); refine DL.exn 1 ⟨_, _, _, rfl, rfl, ?_⟩) | ((conv => whnf); refine DL.exn 2 ⟨_, _, _, rfl, rfl, ?_⟩) | ((conv => whnf); refine DL.exn 3 ⟨_, _, _, rfl, rfl, ?_⟩) | ((conv => whnf); refine DL.exn 4 ⟨_, _, _, rfl, rfl, ?_⟩) | ((conv => whnf); refine DL.exn 5 ⟨_, _, _, rfl, rfl, ?_⟩) | ((conv => whnf); refine DL.exn 6 ⟨_, _, _, rfl, rfl, ?_⟩) | ((conv => whnf); refine DL.exn 7 ⟨_, _, _, rfl, rfl, ?_⟩) | ((conv => whnf); refine Or.inl ⟨by decide, by decide, ?_⟩) | ((conv => whnf); refine Or.inr ⟨_, rfl, by decide, ?_⟩) | ((conv => whnf); refine And.intro (by first | assumption | rfl | decide | omega | exact ⟨rfl, by decide⟩ | exact DL.pl_ints | exact DL.pl_pairs | exact DL.pl_pair | exact Nat.le_of_ble_eq_true rfl | exact ⟨rfl, rfl⟩ | exact small_ok (by omega) (by omega) | exact ⟨small_ok (by omega) (by omega), small_ok (by omega) (by omega)⟩ | exact cdiv_ok (by omega) (by omega) | exact cmul_ok (by omega) (by omega) (by omega) (by omega) | exact cpow_ok (by omega) (by omega) (by omega) (by omega) | decide +kernel) ?_) | (refine DL.ifF (by first | assumption | decide | omega | (simp; omega) | (simp; done) | (simp [*]; omega) | (simp [*]; done) | (simp [DL.beq_ints, DL.beq_pairs, *]; done) | fail) ?_) | (refine DL.ifT (by first | assumption | decide | omega | (simp; omega) | (simp; done) | (simp [*]; omega) | (simp [*]; done) | (simp [DL.beq_ints, DL.beq_pairs, *]; done) | fail) ?_) | fail)
          intro nb
          repeat (first | ((conv => whnf); refine ⟨_, rfl, ?_⟩) | ((conv => whnf); refine ⟨_, _, rfl, ?_⟩) | ((conv => whnf); refine ⟨_, _, _, rfl, ?_⟩) | ((conv => whnf); refine ⟨_, _, _, _, rfl, ?_⟩) | ((conv => whnf); refine DL.exn 0 ⟨_, rfl, ?_⟩) | ((conv => whnf); refine DL.exn 1 ⟨_, rfl, ?_⟩) | ((conv => whnf); refine DL.exn 2 ⟨_, rfl, ?_⟩) | ((conv => whnf); refine DL.exn 3 ⟨_, rfl, ?_⟩) | ((conv => whnf); refine DL.exn 4 ⟨_, rfl, ?_⟩) | ((conv => whnf); refine DL.exn 5 ⟨_, rfl, ?_⟩) | ((conv => whnf); refine DL.exn 6 ⟨_, rfl, ?_⟩) | ((conv => whnf); refine DL.exn 7 ⟨_, rfl, ?_⟩) | ((conv => whnf); refine DL.exn 0 ⟨_, _, rfl, rfl, ?_⟩) | ((conv => whnf); refine DL.exn 1 ⟨_, _, rfl, rfl, ?_⟩) | ((conv => whnf); refine DL.exn 2 ⟨_, _, rfl, rfl, ?_⟩) | ((conv => whnf); refine DL.exn 3 ⟨_, _, rfl, rfl, ?_⟩) | ((conv => whnf); refine DL.exn 4 ⟨_, _, rfl, rfl, ?_⟩) | ((conv => whnf); refine DL.exn 5 ⟨_, _, rfl, rfl, ?_⟩) | ((conv => whnf); refine DL.exn 6 ⟨_, _, rfl, rfl, ?_⟩) | ((conv => whnf); refine DL.exn 7 ⟨_, _, rfl, rfl, ?_⟩) | ((conv => whnf); refine DL.exn 0 ⟨_, _, rfl, ?_⟩) | ((conv => whnf); refine DL.exn 1 ⟨_, _, rfl, ?_⟩) | ((conv => whnf); refine DL.exn 2 ⟨_, _, rfl, ?_⟩) | ((conv => whnf); refine DL.exn 3 ⟨_, _, rfl, ?_⟩) | ((conv => whnf); refine DL.exn 4 ⟨_, _, rfl, ?_⟩) | ((conv => whnf); refine DL.exn 5 ⟨_, _, rfl, ?_⟩) | ((conv => whnf); refine DL.exn 6 ⟨_, _, rfl, ?_⟩) | ((conv => whnf); refine DL.exn 7 ⟨_, _, rfl, ?_⟩) | ((conv => whnf); refine DL.exn 0 ⟨_, _, _, rfl, rfl, ?_⟩) | ((conv => whnf); refine DL.exn 1 ⟨_, _, _, rfl, rfl, ?_⟩) | ((conv => whnf); refine DL.exn 2 ⟨_, _, _, rfl, rfl, ?_⟩) | ((conv => whnf); refine DL.exn 3 ⟨_, _, _, rfl, rfl, ?_⟩) | ((conv => whnf); refine DL.exn 4 ⟨_, _, _, rfl, rfl, ?_⟩) | ((conv => whnf); refine DL.exn 5 ⟨_, _, _, rfl, rfl, ?_⟩) | ((conv => whnf); refine DL.exn 6 ⟨_, _, _, rfl, rfl, ?_⟩) | ((conv => whnf); refine DL.exn 7 ⟨_, _, _, rfl, rfl, ?_⟩) | ((conv => whnf); refine Or.inl ⟨by decide, by decide, ?_⟩) | ((conv => whnf); refine Or.inr ⟨_, rfl, by decide, ?_⟩) | ((conv => whnf); refine And.intro (by first | assumption | rfl | decide | omega | exact ⟨rfl, by decide⟩ | exact DL.pl_ints | exact DL.pl_pairs | exact DL.pl_pair | exact Nat.le_of_ble_eq_true rfl | exact ⟨rfl, rfl⟩ | exact small_ok (by omega) (by omega) | exact ⟨small_ok (by omega) (by omega), small_ok (by omega) (by omega)⟩ | exact cdiv_ok (by omega) (by omega) | exact cmul_ok (by omega) (by omega) (by omega) (by omega) | exact cpow_ok (by omega) (by omega) (by omega) (by omega) | decide +kernel) ?_) | (refine DL.ifF (by first | assumption | decide | omega | (simp; omega) | (simp; done) | (simp [*]; omega) | (simp [*]; done) | (simp [DL.beq_ints, DL.beq_pairs, *]; done) | fail) ?_) | (refine DL.ifT (by first | assumption | decide | omega | (simp; omega) | (simp; done) | (simp [*]; omega) | (simp [*]; done) | (simp [DL.beq_ints, DL.beq_pairs, *]; done) | fail) ?_) | fail)
          (conv => whnf)
          refine ⟨[1, 1], tb K t cc n [] row made (hs0 row), (nb, .lst (IL row)) :: [(a, wl w' c k'), (m, dM row' sr' ev pa ov turns), (ov, .lst (IL over)), (pa, .lst (IL path))], rfl, t, cc, n, [], row, made, hs0 row, rfl, rfl, ?_⟩
          repeat (first | ((conv => whnf); refine ⟨_, rfl, ?_⟩) | ((conv => whnf); refine ⟨_, _, rfl, ?_⟩) | ((conv => whnf); refine ⟨_, _, _, rfl, ?_⟩) | ((conv => whnf); refine ⟨_, _, _, _, rfl, ?_⟩) | ((conv => whnf); refine DL.exn 0 ⟨_, rfl, ?_⟩) | ((conv => whnf); refine DL.exn 1 ⟨_, rfl, ?_⟩) | ((conv => whnf); refine DL.exn 2 ⟨_, rfl, ?_⟩) | ((conv => whnf); refine DL.exn 3 ⟨_, rfl, ?_⟩) | ((conv => whnf); refine DL.exn 4 ⟨_, rfl, ?_⟩) | ((conv => whnf); refine DL.exn 5 ⟨_, rfl, ?_⟩) | ((conv => whnf); refine DL.exn 6 ⟨_, rfl, ?_⟩) | ((conv => whnf); refine DL.exn 7 ⟨_, rfl, ?_⟩) | ((conv => whnf); refine DL.exn 0 ⟨_, _, rfl, rfl, ?_⟩) | ((conv => whnf); refine DL.exn 1 ⟨_, _, rfl, rfl, ?_⟩) | ((conv => whnf); refine DL.exn 2 ⟨_, _, rfl, rfl, ?_⟩) | ((conv => whnf); refine DL.exn 3 ⟨_, _, rfl, rfl, ?_⟩) | ((conv => whnf); refine DL.exn 4 ⟨_, _, rfl, rfl, ?_⟩) | ((conv => whnf); refine DL.exn 5 ⟨_, _, rfl, rfl, ?_⟩) | ((conv => whnf); refine DL.exn 6 ⟨_, _, rfl, rfl, ?_⟩) | ((conv => whnf); refine DL.exn 7 ⟨_, _, rfl, rfl, ?_⟩) | ((conv => whnf); refine DL.exn 0 ⟨_, _, rfl, ?_⟩) | ((conv => whnf); refine DL.exn 1 ⟨_, _, rfl, ?_⟩) | ((conv => whnf); refine DL.exn 2 ⟨_, _, rfl, ?_⟩) | ((conv => whnf); refine DL.exn 3 ⟨_, _, rfl, ?_⟩) | ((conv => whnf); refine DL.exn 4 ⟨_, _, rfl, ?_⟩) | ((conv => whnf); refine DL.exn 5 ⟨_, _, rfl, ?_⟩) | ((conv => whnf); refine DL.exn 6 ⟨_, _, rfl, ?_⟩) | ((conv => whnf); refine DL.exn 7 ⟨_, _, rfl, ?_⟩) | ((conv => whnf); refine DL.exn 0 ⟨_, _, _, rfl, rfl, ?_⟩) | ((conv => whnf); refine DL.exn 1 ⟨_, _, _, rfl, rfl, ?_⟩) | ((conv => whnf); refine DL.exn 2 ⟨_, _, _, rfl, rfl, ?_⟩) | ((conv => whnf); refine DL.exn 3 ⟨_, _, _, rfl, rfl, ?_⟩) | ((conv => whnf); refine DL.exn 4 ⟨_, _, _, rfl, rfl, ?_⟩) | ((conv => whnf); refine DL.exn 5 ⟨_, _, _, rfl, rfl, ?_⟩) | ((conv => whnf); refine DL.exn 6 ⟨_, _, _, rfl, rfl, ?_⟩) | ((conv => whnf); refine DL.exn 7 ⟨_, _, _, rfl, rfl, ?_⟩) | ((conv => whnf); refine Or.inl ⟨by decide, by decide, ?_⟩) | ((conv => whnf); refine Or.inr ⟨_, rfl, by decide, ?_⟩) | ((conv => whnf); refine And.intro (by first | assumption | rfl | decide | omega | exact ⟨rfl, by decide⟩ | exact DL.pl_ints | exact DL.pl_pairs | exact DL.pl_pair | exact Nat.le_of_ble_eq_true rfl | exact ⟨rfl, rfl⟩ | exact small_ok (by omega) (by omega) | exact ⟨small_ok (by omega) (by omega), small_ok (by omega) (by omega)⟩ | exact cdiv_ok (by omega) (by omega) | exact cmul_ok (by omega) (by omega) (by omega) (by omega) | exact cpow_ok (by omega) (by omega) (by omega) (by omega) | decide +kernel) ?_) | (refine DL.ifF (by first | assumption | decide | omega | (simp; omega) | (simp; done) | (simp [*]; omega) | (simp [*]; done) | (simp [DL.beq_ints, DL.beq_pairs, *]; done) | fail) ?_) | (refine DL.ifT (by first | assumption | decide | omega | (simp; omega) | (simp; done) | (simp [*]; omega) | (simp [*]; done) | (simp [DL.beq_ints, DL.beq_pairs, *]; done) | fail) ?_) | fail)
          (conv => whnf)
          refine ⟨by rw [rng_len]; show (3 + (sz : Int) + 1 - 1).toNat ≤ _; omega, ?_⟩
          refine cl_map toZero (fun d hd kk hk => ?_) ?_
          · obtain ⟨p, rfl, pa1, pb1⟩ := rng_mem hd
            have pb1 : p < 3 + (sz : Int) + 1 := pb1
            have hlt := List.idxOf_lt_length_of_mem (ok.has pa1 (by omega))
            have h0' : (hs0 row).getD (p - 1).toNat 0 / n = 0 := by
              rw [hs0_get pa1 (by omega)]
              exact Int.ediv_eq_zero_of_lt (by omega) (by omega)
            repeat (first | ((conv => whnf); refine ⟨_, rfl, ?_⟩) | ((conv => whnf); refine ⟨_, _, rfl, ?_⟩) | ((conv => whnf); refine ⟨_, _, _, rfl, ?_⟩) | ((conv => whnf); refine ⟨_, _, _, _, rfl, ?_⟩) | ((conv => whnf); refine DL.exn 0 ⟨_, rfl, ?_⟩) | ((conv => whnf); refine DL.exn 1 ⟨_, rfl, ?_⟩) | ((conv => whnf); refine DL.exn 2 ⟨_, rfl, ?_⟩) | ((conv => whnf); refine DL.exn 3 ⟨_, rfl, ?_⟩) | ((conv => whnf); refine DL.exn 4 ⟨_, rfl, ?_⟩) | ((conv => whnf); refine DL.exn 5 ⟨_, rfl, ?_⟩) | ((conv => whnf); refine DL.exn 6 ⟨_, rfl, ?_⟩) | ((conv => whnf); refine DL.exn 7 ⟨_, rfl, ?_⟩) | ((conv => whnf); refine DL.exn 0 ⟨_, _, rfl, rfl, ?_⟩) | ((conv => whnf); refine DL.exn 1 ⟨_, _, rfl, rfl, ?_⟩) | ((conv => whnf); refine DL.exn 2 ⟨_, _, rfl, rfl, ?_⟩) | ((conv => whnf); refine DL.exn 3 ⟨_, _, rfl, rfl, ?_⟩) | ((conv => whnf); refine DL.exn 4 ⟨_, _, rfl, rfl, ?_⟩) | ((conv => whnf); refine DL.exn 5 ⟨_, _, rfl, rfl, ?_⟩) | ((conv => whnf); refine DL.exn 6 ⟨_, _, rfl, rfl, ?_⟩) | ((conv => whnf); refine DL.exn 7 ⟨_, _, rfl, rfl, ?_⟩) | ((conv => whnf); refine DL.exn 0 ⟨_, _, rfl, ?_⟩) | ((conv => whnf); refine DL.exn 1 ⟨_, _, rfl, ?_⟩) | ((conv => whnf); refine DL.exn 2 ⟨_, _, rfl, ?_⟩) | ((conv => whnf); refine DL.exn 3 ⟨_, _, rfl, ?_⟩) | ((conv => whnf); refine DL.exn 4 ⟨_, _, rfl, ?_⟩) | ((conv => whnf); refine DL.exn 5 ⟨_, _, rfl, ?_⟩) | ((conv => whnf); refine DL.exn 6 ⟨_, _, rfl, ?_⟩) | ((conv => whnf); refine DL.exn 7 ⟨_, _, rfl, ?_⟩) | ((conv => whnf); refine DL.exn 0 ⟨_, _, _, rfl, rfl, ?_⟩) | ((conv => whnf); refine DL.exn 1 ⟨_, _, _, rfl, rfl, ?_⟩) | ((conv => whnf); refine DL.exn 2 ⟨_, _, _, rfl, rfl, ?_⟩) | ((conv => whnf); refine DL.exn 3 ⟨_, _, _, rfl, rfl, ?_⟩) | ((conv => whnf); refine DL.exn 4 ⟨_, _, _, rfl, rfl, ?_⟩) | ((conv => whnf); refine DL.exn 5 ⟨_, _, _, rfl, rfl, ?_⟩) | ((conv => whnf); refine DL.exn 6 ⟨_, _, _, rfl, rfl, ?_⟩) | ((conv => whnf); refine DL.exn 7 ⟨_, _, _, rfl, rfl, ?_⟩) | ((conv => whnf); refine Or.inl ⟨by decide, by decide, ?_⟩) | ((conv => whnf); refine Or.inr ⟨_, rfl, by decide, ?_⟩) | ((conv => whnf); refine And.intro (by first | assumption | rfl | decide | omega | exact ⟨rfl, by decide⟩ | exact DL.pl_ints | exact DL.pl_pairs | exact DL.pl_pair | exact Nat.le_of_ble_eq_true rfl | exact ⟨rfl, rfl⟩ | exact small_ok (by omega) (by omega) | exact ⟨small_ok (by omega) (by omega), small_ok (by omega) (by omega)⟩ | exact cdiv_ok (by omega) (by omega) | exact cmul_ok (by omega) (by omega) (by omega) (by omega) | exact cpow_ok (by omega) (by omega) (by omega) (by omega) | decide +kernel) ?_) | (refine DL.ifF (by first | assumption | decide | omega | (simp; omega) | (simp; done) | (simp [*]; omega) | (simp [*]; done) | (simp [DL.beq_ints, DL.beq_pairs, *]; done) | fail) ?_) | (refine DL.ifT (by first | assumption | decide | omega | (simp; omega) | (simp; done) | (simp [*]; omega) | (simp [*]; done) | (simp [DL.beq_ints, DL.beq_pairs, *]; done) | fail) ?_) | fail)
            (conv => whnf)
            refine ⟨[0, 0], tb K t cc n [] row made (hs0 row), (nb, .lst (IL row)) :: ([(a, wl w' c k'), (m, dM row' sr' ev pa ov turns), (ov, .lst (IL over)), (pa, .lst (IL path))] : Cells), rfl, t, cc, n, [], row, made, hs0 row, p, rfl, rfl, h3, h9, by rw [hs0_len]; exact hfl, pa1, by omega, ?_⟩
            rw [h0']
            exact hk
          rw [rng_zero (lo := 1) (hi := 3 + (sz : Int) + 1) (n := row.length) (by omega)]
          (conv => whnf)
          refine ⟨by decide, ?_⟩
          (conv => whnf)
          refine ⟨by omega, by omega, by simp; omega, ?_⟩
          rw [rep_over, show (3 + (sz : Int)).toNat = row.length by omega]
          repeat (first | ((conv => whnf); refine ⟨_, rfl, ?_⟩) | ((conv => whnf); refine ⟨_, _, rfl, ?_⟩) | ((conv => whnf); refine ⟨_, _, _, rfl, ?_⟩) | ((conv => whnf); refine ⟨_, _, _, _, rfl, ?_⟩) | ((conv => whnf); refine DL.exn 0 ⟨_, rfl, ?_⟩) | ((conv => whnf); refine DL.exn 1 ⟨_, rfl, ?_⟩) | ((conv => whnf); refine DL.exn 2 ⟨_, rfl, ?_⟩) | ((conv => whnf); refine DL.exn 3 ⟨_, rfl, ?_⟩) | ((conv => whnf); refine DL.exn 4 ⟨_, rfl, ?_⟩) | ((conv => whnf); refine DL.exn 5 ⟨_, rfl, ?_⟩) | ((conv => whnf); refine DL.exn 6 ⟨_, rfl, ?_⟩) | ((conv => whnf); refine DL.exn 7 ⟨_, rfl, ?_⟩) | ((conv => whnf); refine DL.exn 0 ⟨_, _, rfl, rfl, ?_⟩) | ((conv => whnf); refine DL.exn 1 ⟨_, _, rfl, rfl, ?_⟩) | ((conv => whnf); refine DL.exn 2 ⟨_, _, rfl, rfl, ?_⟩) | ((conv => whnf); refine DL.exn 3 ⟨_, _, rfl, rfl, ?_⟩) | ((conv => whnf); refine DL.exn 4 ⟨_, _, rfl, rfl, ?_⟩) | ((conv => whnf); refine DL.exn 5 ⟨_, _, rfl, rfl, ?_⟩) | ((conv => whnf); refine DL.exn 6 ⟨_, _, rfl, rfl, ?_⟩) | ((conv => whnf); refine DL.exn 7 ⟨_, _, rfl, rfl, ?_⟩) | ((conv => whnf); refine DL.exn 0 ⟨_, _, rfl, ?_⟩) | ((conv => whnf); refine DL.exn 1 ⟨_, _, rfl, ?_⟩) | ((conv => whnf); refine DL.exn 2 ⟨_, _, rfl, ?_⟩) | ((conv => whnf); refine DL.exn 3 ⟨_, _, rfl, ?_⟩) | ((conv => whnf); refine DL.exn 4 ⟨_, _, rfl, ?_⟩) | ((conv => whnf); refine DL.exn 5 ⟨_, _, rfl, ?_⟩) | ((conv => whnf); refine DL.exn 6 ⟨_, _, rfl, ?_⟩) | ((conv => whnf); refine DL.exn 7 ⟨_, _, rfl, ?_⟩) | ((conv => whnf); refine DL.exn 0 ⟨_, _, _, rfl, rfl, ?_⟩) | ((conv => whnf); refine DL.exn 1 ⟨_, _, _, rfl, rfl, ?_⟩) | ((conv => whnf); refine DL.exn 2 ⟨_, _, _, rfl, rfl, ?_⟩) | ((conv => whnf); refine DL.exn 3 ⟨_, _, _, rfl, rfl, ?_⟩) | ((conv => whnf); refine DL.exn 4 ⟨_, _, _, rfl, rfl, ?_⟩) | ((conv => whnf); refine DL.exn 5 ⟨_, _, _, rfl, rfl, ?_⟩) | ((conv => whnf); refine DL.exn 6 ⟨_, _, _, rfl, rfl, ?_⟩) | ((conv => whnf); refine DL.exn 7 ⟨_, _, _, rfl, rfl, ?_⟩) | ((conv => whnf); refine Or.inl ⟨by decide, by decide, ?_⟩) | ((conv => whnf); refine Or.inr ⟨_, rfl, by decide, ?_⟩) | ((conv => whnf); refine And.intro (by first | assumption | rfl | decide | omega | exact ⟨rfl, by decide⟩ | exact DL.pl_ints | exact DL.pl_pairs | exact DL.pl_pair | exact Nat.le_of_ble_eq_true rfl | exact ⟨rfl, rfl⟩ | exact small_ok (by omega) (by omega) | exact ⟨small_ok (by omega) (by omega), small_ok (by omega) (by omega)⟩ | exact cdiv_ok (by omega) (by omega) | exact cmul_ok (by omega) (by omega) (by omega) (by omega) | exact cpow_ok (by omega) (by omega) (by omega) (by omega) | decide +kernel) ?_) | (refine DL.ifF (by first | assumption | decide | omega | (simp; omega) | (simp; done) | (simp [*]; omega) | (simp [*]; done) | (simp [DL.beq_ints, DL.beq_pairs, *]; done) | fail) ?_) | (refine DL.ifT (by first | assumption | decide | omega | (simp; omega) | (simp; done) | (simp [*]; omega) | (simp [*]; done) | (simp [DL.beq_ints, DL.beq_pairs, *]; done) | fail) ?_) | fail)
          refine rtn_at [] rfl ?_
          show Q (.bl (beq (.lst (IL (List.replicate row.length 0))) (.lst (IL (List.replicate row.length 0))))) []
          have hbb : beq (.lst (IL (List.replicate row.length 0))) (.lst (IL (List.replicate row.length 0))) = true := by rw [beq_ints]; simp
          rw [hbb]
          exact q
        · rintro d r _ _ NX ⟨P1, made, x10, e, hP1, hmade, rfl, rfl⟩ nx
          rcases List.eq_nil_or_concat P1 with hnil | ⟨P2, i, hc⟩
          · subst hnil
            cases e
          · rw [List.concat_eq_append] at hc; subst hc
            have e' : d :: r = D.int i :: IL ((P2.map fun (i : Nat) => (i : Int)).reverse) := by rw [e]; simp [IL]
            obtain ⟨rfl, rfl⟩ : d = D.int i ∧ r = IL ((P2.map fun (i : Nat) => (i : Int)).reverse) := by
              have := List.cons.inj e'; exact this
            have hi := hP1 i (by simp)
            have hP2 : ∀ j ∈ P2, j < row.length := fun j hj => hP1 j (List.mem_append_left _ hj)
            obtain ⟨ok2, l2, l3⟩ := fold_ok ok (hs0_len (row := row)) P2 hP2
            have ef : ((P2 ++ [i]).foldl chg (row, hs0 row)) = (swp (P2.foldl chg (row, hs0 row)).1 i, lft (P2.foldl chg (row, hs0 row)).1 (P2.foldl chg (row, hs0 row)).2 i) := by rw [List.foldl_append]; rfl
            rw [ef]
            have nx' := nx [some (.ref a), some (.int (3 + (sz : Int))), some (.lst (PL sr)), some (.lst (IL row)), some (.ref t), some (.ref m), some (.lst (IL (hs0 row))), x7, x8, x9, some (.int (i : Nat))] (tb K t cc n [] (P2.foldl chg (row, hs0 row)).1 (made + 1) (P2.foldl chg (row, hs0 row)).2 ++ [(a, wl w' c k'), (m, dM row' sr' ev pa ov turns), (ov, .lst (IL over)), (pa, .lst (IL path))]) ⟨P2, made + 1, _, rfl, hP2, by simp at hmade; omega, rfl, rfl⟩
            have s1 := swp_swp (row := (P2.foldl chg (row, hs0 row)).1) (i := i) (by omega) (by omega)
            have s2 := lft_lft (hs := (P2.foldl chg (row, hs0 row)).2) ok2 (by omega) (i := i) (by omega)
            generalize (P2.foldl chg (row, hs0 row)).1 = r2 at *
            generalize (P2.foldl chg (row, hs0 row)).2 = h2 at *
            repeat (first | ((conv => whnf); refine ⟨_, rfl, ?_⟩) | ((conv => whnf); refine ⟨_, _, rfl, ?_⟩) | ((conv => whnf); refine ⟨_, _, _, rfl, ?_⟩) | ((conv => whnf); refine ⟨_, _, _, _, rfl, ?_⟩) | ((conv => whnf); refine DL.exn 0 ⟨_, rfl, ?_⟩) | ((conv => whnf); refine DL.exn 1 ⟨_, rfl, ?_⟩) | ((conv => whnf); refine DL.exn 2 ⟨_, rfl, ?_⟩) | ((conv => whnf); refine DL.exn 3 ⟨_, rfl, ?_⟩) | ((conv => whnf); refine DL.exn 4 ⟨_, rfl, ?_⟩) | ((conv => whnf); refine DL.exn 5 ⟨_, rfl, ?_⟩) | ((conv => whnf); refine DL.exn 6 ⟨_, rfl, ?_⟩) | ((conv => whnf); refine DL.exn 7 ⟨_, rfl, ?_⟩) | ((conv => whnf); refine DL.exn 0 ⟨_, _, rfl, rfl, ?_⟩) | ((conv => whnf); refine DL.exn 1 ⟨_, _, rfl, rfl, ?_⟩) | ((conv => whnf); refine DL.exn 2 ⟨_, _, rfl, rfl, ?_⟩) | ((conv => whnf); refine DL.exn 3 ⟨_, _, rfl, rfl, ?_⟩) | ((conv => whnf); refine DL.exn 4 ⟨_, _, rfl, rfl, ?_⟩) | ((conv => whnf); refine DL.exn 5 ⟨_, _, rfl, rfl, ?_⟩) | ((conv => whnf); refine DL.exn 6 ⟨_, _, rfl, rfl, ?_⟩) | ((conv => whnf); refine DL.exn 7 ⟨_, _, rfl, rfl, ?_⟩) | ((conv => whnf); refine DL.exn 0 ⟨_, _, rfl, ?_⟩) | ((conv => whnf); refine DL.exn 1 ⟨_, _, rfl, ?_⟩) | ((conv => whnf); refine DL.exn 2 ⟨_, _, rfl, ?_⟩) | ((conv => whnf); refine DL.exn 3 ⟨_, _, rfl, ?_⟩) | ((conv => whnf); refine DL.exn 4 ⟨_, _, rfl, ?_⟩) | ((conv => whnf); refine DL.exn 5 ⟨_, _, rfl, ?_⟩) | ((conv => whnf); refine DL.exn 6 ⟨_, _, rfl, ?_⟩) | ((conv => whnf); refine DL.exn 7 ⟨_, _, rfl, ?_⟩) | ((conv => whnf); refine DL.exn 0 ⟨_, _, _, rfl, rfl, ?_⟩) | ((conv => whnf); refine DL.exn 1 ⟨_, _, _, rfl, rfl, ?_⟩) | ((conv => whnf); refine DL.exn 2 ⟨_, _, _, rfl, rfl, ?_⟩) | ((conv => whnf); refine DL.exn 3 ⟨_, _, _, rfl, rfl, ?_⟩) | ((conv => whnf); refine DL.exn 4 ⟨_, _, _, rfl, rfl, ?_⟩) | ((conv => whnf); refine DL.exn 5 ⟨_, _, _, rfl, rfl, ?_⟩) | ((conv => whnf); refine DL.exn 6 ⟨_, _, _, rfl, rfl, ?_⟩) | ((conv => whnf); refine DL.exn 7 ⟨_, _, _, rfl, rfl, ?_⟩) | ((conv => whnf); refine Or.inl ⟨by decide, by decide, ?_⟩) | ((conv => whnf); refine Or.inr ⟨_, rfl, by decide, ?_⟩) | ((conv => whnf); refine And.intro (by first | assumption | rfl | decide | omega | exact ⟨rfl, by decide⟩ | exact DL.pl_ints | exact DL.pl_pairs | exact DL.pl_pair | exact Nat.le_of_ble_eq_true rfl | exact ⟨rfl, rfl⟩ | exact small_ok (by omega) (by omega) | exact ⟨small_ok (by omega) (by omega), small_ok (by omega) (by omega)⟩ | exact cdiv_ok (by omega) (by omega) | exact cmul_ok (by omega) (by omega) (by omega) (by omega) | exact cpow_ok (by omega) (by omega) (by omega) (by omega) | decide +kernel) ?_) | (refine DL.ifF (by first | assumption | decide | omega | (simp; omega) | (simp; done) | (simp [*]; omega) | (simp [*]; done) | (simp [DL.beq_ints, DL.beq_pairs, *]; done) | fail) ?_) | (refine DL.ifT (by first | assumption | decide | omega | (simp; omega) | (simp; done) | (simp [*]; omega) | (simp [*]; done) | (simp [DL.beq_ints, DL.beq_pairs, *]; done) | fail) ?_) | fail)
            (conv => whnf)
            refine ⟨[0, 0], tb K t cc n [] (swp r2 i) made (lft r2 h2 i), [(a, wl w' c k'), (m, dM row' sr' ev pa ov turns), (ov, .lst (IL over)), (pa, .lst (IL path))], rfl, t, cc, n, [], swp r2 i, made, lft r2 h2 i, i, rfl, rfl, swp_ok ok2 (by omega), by rw [lft_len, swp_len]; omega, by rw [swp_len]; omega, by simp, ?_⟩
            rw [s1, s2]
            exact nx'
      · skip
        repeat (first | ((conv => whnf); refine ⟨_, rfl, ?_⟩) | ((conv => whnf); refine ⟨_, _, rfl, ?_⟩) | ((conv => whnf); refine ⟨_, _, _, rfl, ?_⟩) | ((conv => whnf); refine ⟨_, _, _, _, rfl, ?_⟩) | ((conv => whnf); refine DL.exn 0 ⟨_, rfl, ?_⟩) | ((conv => whnf); refine DL.exn 1 ⟨_, rfl, ?_⟩) | ((conv => whnf); refine DL.exn 2 ⟨_, rfl, ?_⟩) | ((conv => whnf); refine DL.exn 3 ⟨_, rfl, ?_⟩) | ((conv => whnf); refine DL.exn 4 ⟨_, rfl, ?_⟩) | ((conv => whnf); refine DL.exn 5 ⟨_, rfl, ?_⟩) | ((conv => whnf); refine DL.exn 6 ⟨_, rfl, ?_⟩) | ((conv => whnf); refine DL.exn 7 ⟨_, rfl, ?_⟩) | ((conv => whnf); refine DL.exn 0 ⟨_, _, rfl, rfl, ?_⟩) | ((conv => whnf); refine DL.exn 1 ⟨_, _, rfl, rfl, ?_⟩) | ((conv => whnf); refine DL.exn 2 ⟨_, _, rfl, rfl, ?_⟩) | ((conv => whnf); refine DL.exn 3 ⟨_, _, rfl, rfl, ?_⟩) | ((conv => whnf); refine DL.exn 4 ⟨_, _, rfl, rfl, ?_⟩) | ((conv => whnf); refine DL.exn 5 ⟨_, _, rfl, rfl, ?_⟩) | ((conv => whnf); refine DL.exn 6 ⟨_, _, rfl, rfl, ?_⟩) | ((conv => whnf); refine DL.exn 7 ⟨_, _, rfl, rfl, ?_⟩) | ((conv => whnf); refine DL.exn 0 ⟨_, _, rfl, ?_⟩) | ((conv => whnf); refine DL.exn 1 ⟨_, _, rfl, ?_⟩) | ((conv => whnf); refine DL.exn 2 ⟨_, _, rfl, ?_⟩) | ((conv => whnf); refine DL.exn 3 ⟨_, _, rfl, ?_⟩) | ((conv => whnf); refine DL.exn 4 ⟨_, _, rfl, ?_⟩) | ((conv => whnf); refine DL.exn 5 ⟨_, _, rfl, ?_⟩) | ((conv => whnf); refine DL.exn 6 ⟨_, _, rfl, ?_⟩) | ((conv => whnf); refine DL.exn 7 ⟨_, _, rfl, ?_⟩) | ((conv => whnf); refine DL.exn 0 ⟨_, _, _, rfl, rfl, ?_⟩) | ((conv => whnf); refine DL.exn 1 ⟨_, _, _, rfl, rfl, ?_⟩) | ((conv => whnf); refine DL.exn 2 ⟨_, _, _, rfl, rfl, ?_⟩) | ((conv => whnf); refine DL.exn 3 ⟨_, _, _, rfl, rfl, ?_⟩) | ((conv => whnf); refine DL.exn 4 ⟨_, _, _, rfl, rfl, ?_⟩) | ((conv => whnf); refine DL.exn 5 ⟨_, _, _, rfl, rfl, ?_⟩) | ((conv => whnf); refine DL.exn 6 ⟨_, _, _, rfl, rfl, ?_⟩) | ((conv => whnf); refine DL.exn 7 ⟨_, _, _, rfl, rfl, ?_⟩) | ((conv => whnf); refine Or.inl ⟨by decide, by decide, ?_⟩) | ((conv => whnf); refine Or.inr ⟨_, rfl, by decide, ?_⟩) | ((conv => whnf); refine And.intro (by first | assumption | rfl | decide | omega | exact ⟨rfl, by decide⟩ | exact DL.pl_ints | exact DL.pl_pairs | exact DL.pl_pair | exact Nat.le_of_ble_eq_true rfl | exact ⟨rfl, rfl⟩ | exact small_ok (by omega) (by omega) | exact ⟨small_ok (by omega) (by omega), small_ok (by omega) (by omega)⟩ | exact cdiv_ok (by omega) (by omega) | exact cmul_ok (by omega) (by omega) (by omega) (by omega) | exact cpow_ok (by omega) (by omega) (by omega) (by omega) | decide +kernel) ?_) | (refine DL.ifF (by first | assumption | decide | omega | (simp; omega) | (simp; done) | (simp [*]; omega) | (simp [*]; done) | (simp [DL.beq_ints, DL.beq_pairs, *]; done) | fail) ?_) | (refine DL.ifT (by first | assumption | decide | omega | (simp; omega) | (simp; done) | (simp [*]; omega) | (simp [*]; done) | (simp [DL.beq_ints, DL.beq_pairs, *]; done) | fail) ?_) | fail)
        (conv => whnf)
        refine loop_ind (fun its ds M => ∃ (P1 : List Nat) (made : Int) (x10 : Option D), its = IL ((P1.map fun (i : Nat) => (i : Int)).reverse) ∧ (∀ i ∈ P1, i < row.length) ∧ made = (path.length : Int) + ((P.length : Int) - P1.length) ∧
          ds = [some (.ref a), some (.int (3 + (sz : Int))), some (.lst (PL sr)), some (.lst (IL row)), some (.ref t), some (.ref m), some (.lst (IL (hs0 row))), x7, x8, x9, x10] ∧ M = tb K t cc n [] (P1.foldl chg (row, hs0 row)).1 made (P1.foldl chg (row, hs0 row)).2 ++ [(m, dM row' sr' ev pa ov turns), (pa, .lst (IL path)), (ov, .lst (IL over)), (a, wl w' c k')]) ?_ ?_
          ⟨P, (path.length : Nat), none, by rw [← hP] <;> simp [IL, List.map_reverse], hPl, by omega, rfl, by rw [hPf]⟩
        · rintro _ _ ⟨P1, made, x10, e, hP1, hmade, rfl, rfl⟩
          have hnil : P1 = [] := by
            have := congrArg List.length e
            simp at this
            exact List.eq_nil_of_length_eq_zero this.symm
          subst hnil
          have hPlen : (P.length : Int) = path.length := by rw [hP]; simp
          simp only [List.length_nil] at hmade
          have lp : ((IL path).length : Int) = path.length := by simp
          have hm2 : made = 2 * ((IL path).length : Int) := by rw [lp]; omega
          have hp3 : path.length ≤ 183 := by omega
          repeat (first | ((conv => whnf); refine ⟨_, rfl, ?_⟩) | ((conv => whnf); refine ⟨_, _, rfl, ?_⟩) | ((conv => whnf); refine ⟨_, _, _, rfl, ?_⟩) | ((conv => whnf); refine ⟨_, _, _, _, rfl, ?_⟩) | ((conv => whnf); refine DL.exn 0 ⟨_, rfl, ?_⟩) | ((conv => whnf); refine DL.exn 1 ⟨_, rfl, ?_⟩) | ((conv => whnf); refine DL.exn 2 ⟨_, rfl, ?_⟩) | ((conv => whnf); refine DL.exn 3 ⟨_, rfl, ?_⟩) | ((conv => whnf); refine DL.exn 4 ⟨_, rfl, ?_⟩) | ((conv => whnf); refine DL.exn 5 ⟨_, rfl, ?_⟩) | ((conv => whnf); refine DL.exn 6 ⟨_, rfl, ?_⟩) | ((conv => whnf); refine DL.exn 7 ⟨_, rfl, ?_⟩) | ((conv => whnf); refine DL.exn 0 ⟨_, _, rfl, rfl, ?_⟩) | ((conv => whnf); refine DL.exn 1 ⟨_, _, rfl, rfl, ?_⟩) | ((conv => whnf); refine DL.exn 2 ⟨_, _, rfl, rfl, ?_⟩) | ((conv => whnf); refine DL.exn 3 ⟨_, _, rfl, rfl, ?_⟩) | ((conv => whnf); refine DL.exn 4 ⟨_, _, rfl, rfl, ?_⟩) | ((conv => whnf); refine DL.exn 5 ⟨_, _, rfl, rfl, ?_⟩) | ((conv => whnf); refine DL.exn 6 ⟨_, _, rfl, rfl, ?_⟩) | ((conv => whnf); refine DL.exn 7 ⟨_, _, rfl, rfl, ?_⟩) | ((conv => whnf); refine DL.exn 0 ⟨_, _, rfl, ?_⟩) | ((conv => whnf); refine DL.exn 1 ⟨_, _, rfl, ?_⟩) | ((conv => whnf); refine DL.exn 2 ⟨_, _, rfl, ?_⟩) | ((conv => whnf); refine DL.exn 3 ⟨_, _, rfl, ?_⟩) | ((conv => whnf); refine DL.exn 4 ⟨_, _, rfl, ?_⟩) | ((conv => whnf); refine DL.exn 5 ⟨_, _, rfl, ?_⟩) | ((conv => whnf); refine DL.exn 6 ⟨_, _, rfl, ?_⟩) | ((conv => whnf); refine DL.exn 7 ⟨_, _, rfl, ?_⟩) | ((conv => whnf); refine DL.exn 0 ⟨_, _, _, rfl, rfl, ?_⟩) | ((conv => whnf); refine DL.exn 1 ⟨_, _, _, rfl, rfl, ?_⟩) | ((conv => whnf); refine DL.exn 2 ⟨_, _, _, rfl, rfl, ?_⟩) | ((conv => whnf); refine DL.exn 3 ⟨_, _, _, rfl, rfl, ?_⟩) | ((conv => whnf); refine DL.exn 4 ⟨_, _, _, rfl, rfl, ?_⟩) | ((conv => whnf); refine DL.exn 5 ⟨_, _, _, rfl, rfl, ?_⟩) | ((conv => whnf); refine DL.exn 6 ⟨_, _, _, rfl, rfl, ?_⟩) | ((conv => whnf); refine DL.exn 7 ⟨_, _, _, rfl, rfl, ?_⟩) | ((conv => whnf); refine Or.inl ⟨by decide, by decide, ?_⟩) | ((conv => whnf); refine Or.inr ⟨_, rfl, by decide, ?_⟩) | ((conv => whnf); refine And.intro (by first | assumption | rfl | decide | omega | exact ⟨rfl, by decide⟩ | exact DL.pl_ints | exact DL.pl_pairs | exact DL.pl_pair | exact Nat.le_of_ble_eq_true rfl | exact ⟨rfl, rfl⟩ | exact small_ok (by omega) (by omega) | exact ⟨small_ok (by omega) (by omega), small_ok (by omega) (by omega)⟩ | exact cdiv_ok (by omega) (by omega) | exact cmul_ok (by omega) (by omega) (by omega) (by omega) | exact cpow_ok (by omega) (by omega) (by omega) (by omega) | decide +kernel) ?_) | (refine DL.ifF (by first | assumption | decide | omega | (simp; omega) | (simp; done) | (simp [*]; omega) | (simp [*]; done) | (simp [DL.beq_ints, DL.beq_pairs, *]; done) | fail) ?_) | (refine DL.ifT (by first | assumption | decide | omega | (simp; omega) | (simp; done) | (simp [*]; omega) | (simp [*]; done) | (simp [DL.beq_ints, DL.beq_pairs, *]; done) | fail) ?_) | fail)
          (conv => whnf)
          refine ⟨[0, 0], tb K t cc n [] row made (hs0 row), [(m, dM row' sr' ev pa ov turns), (pa, .lst (IL path)), (ov, .lst (IL over)), (a, wl w' c k')], rfl, t, cc, n, [], row, made, hs0 row, rfl, rfl, ?_⟩
          repeat (first | ((conv => whnf); refine ⟨_, rfl, ?_⟩) | ((conv => whnf); refine ⟨_, _, rfl, ?_⟩) | ((conv => whnf); refine ⟨_, _, _, rfl, ?_⟩) | ((conv => whnf); refine ⟨_, _, _, _, rfl, ?_⟩) | ((conv => whnf); refine DL.exn 0 ⟨_, rfl, ?_⟩) | ((conv => whnf); refine DL.exn 1 ⟨_, rfl, ?_⟩) | ((conv => whnf); refine DL.exn 2 ⟨_, rfl, ?_⟩) | ((conv => whnf); refine DL.exn 3 ⟨_, rfl, ?_⟩) | ((conv => whnf); refine DL.exn 4 ⟨_, rfl, ?_⟩) | ((conv => whnf); refine DL.exn 5 ⟨_, rfl, ?_⟩) | ((conv => whnf); refine DL.exn 6 ⟨_, rfl, ?_⟩) | ((conv => whnf); refine DL.exn 7 ⟨_, rfl, ?_⟩) | ((conv => whnf); refine DL.exn 0 ⟨_, _, rfl, rfl, ?_⟩) | ((conv => whnf); refine DL.exn 1 ⟨_, _, rfl, rfl, ?_⟩) | ((conv => whnf); refine DL.exn 2 ⟨_, _, rfl, rfl, ?_⟩) | ((conv => whnf); refine DL.exn 3 ⟨_, _, rfl, rfl, ?_⟩) | ((conv => whnf); refine DL.exn 4 ⟨_, _, rfl, rfl, ?_⟩) | ((conv => whnf); refine DL.exn 5 ⟨_, _, rfl, rfl, ?_⟩) | ((conv => whnf); refine DL.exn 6 ⟨_, _, rfl, rfl, ?_⟩) | ((conv => whnf); refine DL.exn 7 ⟨_, _, rfl, rfl, ?_⟩) | ((conv => whnf); refine DL.exn 0 ⟨_, _, rfl, ?_⟩) | ((conv => whnf); refine DL.exn 1 ⟨_, _, rfl, ?_⟩) | ((conv => whnf); refine DL.exn 2 ⟨_, _, rfl, ?_⟩) | ((conv => whnf); refine DL.exn 3 ⟨_, _, rfl, ?_⟩) | ((conv => whnf); refine DL.exn 4 ⟨_, _, rfl, ?_⟩) | ((conv => whnf); refine DL.exn 5 ⟨_, _, rfl, ?_⟩) | ((conv => whnf); refine DL.exn 6 ⟨_, _, rfl, ?_⟩) | ((conv => whnf); refine DL.exn 7 ⟨_, _, rfl, ?_⟩) | ((conv => whnf); refine DL.exn 0 ⟨_, _, _, rfl, rfl, ?_⟩) | ((conv => whnf); refine DL.exn 1 ⟨_, _, _, rfl, rfl, ?_⟩) | ((conv => whnf); refine DL.exn 2 ⟨_, _, _, rfl, rfl, ?_⟩) | ((conv => whnf); refine DL.exn 3 ⟨_, _, _, rfl, rfl, ?_⟩) | ((conv => whnf); refine DL.exn 4 ⟨_, _, _, rfl, rfl, ?_⟩) | ((conv => whnf); refine DL.exn 5 ⟨_, _, _, rfl, rfl, ?_⟩) | ((conv => whnf); refine DL.exn 6 ⟨_, _, _, rfl, rfl, ?_⟩) | ((conv => whnf); refine DL.exn 7 ⟨_, _, _, rfl, rfl, ?_⟩) | ((conv => whnf); refine Or.inl ⟨by decide, by decide, ?_⟩) | ((conv => whnf); refine Or.inr ⟨_, rfl, by decide, ?_⟩) | ((conv => whnf); refine And.intro (by first | assumption | rfl | decide | omega | exact ⟨rfl, by decide⟩ | exact DL.pl_ints | exact DL.pl_pairs | exact DL.pl_pair | exact Nat.le_of_ble_eq_true rfl | exact ⟨rfl, rfl⟩ | exact small_ok (by omega) (by omega) | exact ⟨small_ok (by omega) (by omega), small_ok (by omega) (by omega)⟩ | exact cdiv_ok (by omega) (by omega) | exact cmul_ok (by omega) (by omega) (by omega) (by omega) | exact cpow_ok (by omega) (by omega) (by omega) (by omega) | decide +kernel) ?_) | (refine DL.ifF (by first | assumption | decide | omega | (simp; omega) | (simp; done) | (simp [*]; omega) | (simp [*]; done) | (simp [DL.beq_ints, DL.beq_pairs, *]; done) | fail) ?_) | (refine DL.ifT (by first | assumption | decide | omega | (simp; omega) | (simp; done) | (simp [*]; omega) | (simp [*]; done) | (simp [DL.beq_ints, DL.beq_pairs, *]; done) | fail) ?_) | fail)
          (conv => whnf)
          refine ⟨[0, 0], tb K t cc n [] row made (hs0 row), [(m, dM row' sr' ev pa ov turns), (pa, .lst (IL path)), (ov, .lst (IL over)), (a, wl w' c k')], rfl, t, cc, n, [], row, made, hs0 row, rfl, rfl, ?_⟩
          repeat (first | ((conv => whnf); refine ⟨_, rfl, ?_⟩) | ((conv => whnf); refine ⟨_, _, rfl, ?_⟩) | ((conv => whnf); refine ⟨_, _, _, rfl, ?_⟩) | ((conv => whnf); refine ⟨_, _, _, _, rfl, ?_⟩) | ((conv => whnf); refine DL.exn 0 ⟨_, rfl, ?_⟩) | ((conv => whnf); refine DL.exn 1 ⟨_, rfl, ?_⟩) | ((conv => whnf); refine DL.exn 2 ⟨_, rfl, ?_⟩) | ((conv => whnf); refine DL.exn 3 ⟨_, rfl, ?_⟩) | ((conv => whnf); refine DL.exn 4 ⟨_, rfl, ?_⟩) | ((conv => whnf); refine DL.exn 5 ⟨_, rfl, ?_⟩) | ((conv => whnf); refine DL.exn 6 ⟨_, rfl, ?_⟩) | ((conv => whnf); refine DL.exn 7 ⟨_, rfl, ?_⟩) | ((conv => whnf); refine DL.exn 0 ⟨_, _, rfl, rfl, ?_⟩) | ((conv => whnf); refine DL.exn 1 ⟨_, _, rfl, rfl, ?_⟩) | ((conv => whnf); refine DL.exn 2 ⟨_, _, rfl, rfl, ?_⟩) | ((conv => whnf); refine DL.exn 3 ⟨_, _, rfl, rfl, ?_⟩) | ((conv => whnf); refine DL.exn 4 ⟨_, _, rfl, rfl, ?_⟩) | ((conv => whnf); refine DL.exn 5 ⟨_, _, rfl, rfl, ?_⟩) | ((conv => whnf); refine DL.exn 6 ⟨_, _, rfl, rfl, ?_⟩) | ((conv => whnf); refine DL.exn 7 ⟨_, _, rfl, rfl, ?_⟩) | ((conv => whnf); refine DL.exn 0 ⟨_, _, rfl, ?_⟩) | ((conv => whnf); refine DL.exn 1 ⟨_, _, rfl, ?_⟩) | ((conv => whnf); refine DL.exn 2 ⟨_, _, rfl, ?_⟩) | ((conv => whnf); refine DL.exn 3 ⟨_, _, rfl, ?_⟩) | ((conv => whnf); refine DL.exn 4 ⟨_, _, rfl, ?_⟩) | ((conv => whnf); refine DL.exn 5 ⟨_, _, rfl, ?_⟩) | ((conv => whnf); refine DL.exn 6 ⟨_, _, rfl, ?_⟩) | ((conv => whnf); refine DL.exn 7 ⟨_, _, rfl, ?_⟩) | ((conv => whnf); refine DL.exn 0 ⟨_, _, _, rfl, rfl, ?_⟩) | ((conv => whnf); refine DL.exn 1 ⟨_, _, _, rfl, rfl, ?_⟩) | ((conv => whnf); refine DL.exn 2 ⟨_, _, _, rfl, rfl, ?_⟩) | ((conv => whnf); refine DL.exn 3 ⟨_, _, _, rfl, rfl, ?_⟩) | ((conv => whnf); refine DL.exn 4 ⟨_, _, _, rfl, rfl, ?_⟩) | ((conv => whnf); refine DL.exn 5 ⟨_, _, _, rfl, rfl, ?_⟩) | ((conv => whnf); refine DL.exn 6 ⟨_, _, _, rfl, rfl, ?_⟩) | ((conv => whnf); refine DL.exn 7 ⟨_, _, _, rfl, rfl, ?_⟩) | ((conv => whnf); refine Or.inl ⟨by decide, by decide, ?_⟩) | ((conv => whnf); refine Or.inr ⟨_, rfl, by decide, ?_⟩) | ((conv => whnf); refine And.intro (by first | assumption | rfl | decide | omega | exact ⟨rfl, by decide⟩ | exact DL.pl_ints | exact DL.pl_pairs | exact DL.pl_pair | exact Nat.le_of_ble_eq_true rfl | exact ⟨rfl, rfl⟩ | exact small_ok (by omega) (by omega) | exact ⟨small_ok (by omega) (by omega), small_ok (by omega) (by omega)⟩ | exact cdiv_ok (by omega) (by omega) | exact cmul_ok (by omega) (by omega) (by omega) (by omega) | exact cpow_ok (by omega) (by omega) (by omega) (by omega) | decide +kernel) ?_) | (refine DL.ifF (by first | assumption | decide | omega | (simp; omega) | (simp; done) | (simp [*]; omega) | (simp [*]; done) | (simp [DL.beq_ints, DL.beq_pairs, *]; done) | fail) ?_) | (refine DL.ifT (by first | assumption | decide | omega | (simp; omega) | (simp; done) | (simp [*]; omega) | (simp [*]; done) | (simp [DL.beq_ints, DL.beq_pairs, *]; done) | fail) ?_) | fail)
          intro nb
          repeat (first | ((conv => whnf); refine ⟨_, rfl, ?_⟩) | ((conv => whnf); refine ⟨_, _, rfl, ?_⟩) | ((conv => whnf); refine ⟨_, _, _, rfl, ?_⟩) | ((conv => whnf); refine ⟨_, _, _, _, rfl, ?_⟩) | ((conv => whnf); refine DL.exn 0 ⟨_, rfl, ?_⟩) | ((conv => whnf); refine DL.exn 1 ⟨_, rfl, ?_⟩) | ((conv => whnf); refine DL.exn 2 ⟨_, rfl, ?_⟩) | ((conv => whnf); refine DL.exn 3 ⟨_, rfl, ?_⟩) | ((conv => whnf); refine DL.exn 4 ⟨_, rfl, ?_⟩) | ((conv => whnf); refine DL.exn 5 ⟨_, rfl, ?_⟩) | ((conv => whnf); refine DL.exn 6 ⟨_, rfl, ?_⟩) | ((conv => whnf); refine DL.exn 7 ⟨_, rfl, ?_⟩) | ((conv => whnf); refine DL.exn 0 ⟨_, _, rfl, rfl, ?_⟩) | ((conv => whnf); refine DL.exn 1 ⟨_, _, rfl, rfl, ?_⟩) | ((conv => whnf); refine DL.exn 2 ⟨_, _, rfl, rfl, ?_⟩) | ((conv => whnf); refine DL.exn 3 ⟨_, _, rfl, rfl, ?_⟩) | ((conv => whnf); refine DL.exn 4 ⟨_, _, rfl, rfl, ?_⟩) | ((conv => whnf); refine DL.exn 5 ⟨_, _, rfl, rfl, ?_⟩) | ((conv => whnf); refine DL.exn 6 ⟨_, _, rfl, rfl, ?_⟩) | ((conv => whnf); refine DL.exn 7 ⟨_, _, rfl, rfl, ?_⟩) | ((conv => whnf); refine DL.exn 0 ⟨_, _, rfl, ?_⟩) | ((conv => whnf); refine DL.exn 1 ⟨_, _, rfl, ?_⟩) | ((conv => whnf); refine DL.exn 2 ⟨_, _, rfl, ?_⟩) | ((conv => whnf); refine DL.exn 3 ⟨_, _, rfl, ?_⟩) | ((conv => whnf); refine DL.exn 4 ⟨_, _, rfl, ?_⟩) | ((conv => whnf); refine DL.exn 5 ⟨_, _, rfl, ?_⟩) | ((conv => whnf); refine DL.exn 6 ⟨_, _, rfl, ?_⟩) | ((conv => whnf); refine DL.exn 7 ⟨_, _, rfl, ?_⟩) | ((conv => whnf); refine DL.exn 0 ⟨_, _, _, rfl, rfl, ?_⟩) | ((conv => whnf); refine DL.exn 1 ⟨_, _, _, rfl, rfl, ?_⟩) | ((conv => whnf); refine DL.exn 2 ⟨_, _, _, rfl, rfl, ?_⟩) | ((conv => whnf); refine DL.exn 3 ⟨_, _, _, rfl, rfl, ?_⟩) | ((conv => whnf); refine DL.exn 4 ⟨_, _, _, rfl, rfl, ?_⟩) | ((conv => whnf); refine DL.exn 5 ⟨_, _, _, rfl, rfl, ?_⟩) | ((conv => whnf); refine DL.exn 6 ⟨_, _, _, rfl, rfl, ?_⟩) | ((conv => whnf); refine DL.exn 7 ⟨_, _, _, rfl, rfl, ?_⟩) | ((conv => whnf); refine Or.inl ⟨by decide, by decide, ?_⟩) | ((conv => whnf); refine Or.inr ⟨_, rfl, by decide, ?_⟩) | ((conv => whnf); refine And.intro (by first | assumption | rfl | decide | omega | exact ⟨rfl, by decide⟩ | exact DL.pl_ints | exact DL.pl_pairs | exact DL.pl_pair | exact Nat.le_of_ble_eq_true rfl | exact ⟨rfl, rfl⟩ | exact small_ok (by omega) (by omega) | exact ⟨small_ok (by omega) (by omega), small_ok (by omega) (by omega)⟩ | exact cdiv_ok (by omega) (by omega) | exact cmul_ok (by omega) (by omega) (by omega) (by omega) | exact cpow_ok (by omega) (by omega) (by omega) (by omega) | decide +kernel) ?_) | (refine DL.ifF (by first | assumption | decide | omega | (simp; omega) | (simp; done) | (simp [*]; omega) | (simp [*]; done) | (simp [DL.beq_ints, DL.beq_pairs, *]; done) | fail) ?_) | (refine DL.ifT (by first | assumption | decide | omega | (simp; omega) | (simp; done) | (simp [*]; omega) | (simp [*]; done) | (simp [DL.beq_ints, DL.beq_pairs, *]; done) | fail) ?_) | fail)
          (conv => whnf)
          refine ⟨[1, 1], tb K t cc n [] row made (hs0 row), (nb, .lst (IL row)) :: [(m, dM row' sr' ev pa ov turns), (pa, .lst (IL path)), (ov, .lst (IL over)), (a, wl w' c k')], rfl, t, cc, n, [], row, made, hs0 row, rfl, rfl, ?_⟩
          repeat (first | ((conv => whnf); refine ⟨_, rfl, ?_⟩) | ((conv => whnf); refine ⟨_, _, rfl, ?_⟩) | ((conv => whnf); refine ⟨_, _, _, rfl, ?_⟩) | ((conv => whnf); refine ⟨_, _, _, _, rfl, ?_⟩) | ((conv => whnf); refine DL.exn 0 ⟨_, rfl, ?_⟩) | ((conv => whnf); refine DL.exn 1 ⟨_, rfl, ?_⟩) | ((conv => whnf); refine DL.exn 2 ⟨_, rfl, ?_⟩) | ((conv => whnf); refine DL.exn 3 ⟨_, rfl, ?_⟩) | ((conv => whnf); refine DL.exn 4 ⟨_, rfl, ?_⟩) | ((conv => whnf); refine DL.exn 5 ⟨_, rfl, ?_⟩) | ((conv => whnf); refine DL.exn 6 ⟨_, rfl, ?_⟩) | ((conv => whnf); refine DL.exn 7 ⟨_, rfl, ?_⟩) | ((conv => whnf); refine DL.exn 0 ⟨_, _, rfl, rfl, ?_⟩) | ((conv => whnf); refine DL.exn 1 ⟨_, _, rfl, rfl, ?_⟩) | ((conv => whnf); refine DL.exn 2 ⟨_, _, rfl, rfl, ?_⟩) | ((conv => whnf); refine DL.exn 3 ⟨_, _, rfl, rfl, ?_⟩) | ((conv => whnf); refine DL.exn 4 ⟨_, _, rfl, rfl, ?_⟩) | ((conv => whnf); refine DL.exn 5 ⟨_, _, rfl, rfl, ?_⟩) | ((conv => whnf); refine DL.exn 6 ⟨_, _, rfl, rfl, ?_⟩) | ((conv => whnf); refine DL.exn 7 ⟨_, _, rfl, rfl, ?_⟩) | ((conv => whnf); refine DL.exn 0 ⟨_, _, rfl, ?_⟩) | ((conv => whnf); refine DL.exn 1 ⟨_, _, rfl, ?_⟩) | ((conv => whnf); refine DL.exn 2 ⟨_, _, rfl, ?_⟩) | ((conv => whnf); refine DL.exn 3 ⟨_, _, rfl, ?_⟩) | ((conv => whnf); refine DL.exn 4 ⟨_, _, rfl, ?_⟩) | ((conv => whnf); refine DL.exn 5 ⟨_, _, rfl, ?_⟩) | ((conv => whnf); refine DL.exn 6 ⟨_, _, rfl, ?_⟩) | ((conv => whnf); refine DL.exn 7 ⟨_, _, rfl, ?_⟩) | ((conv => whnf); refine DL.exn 0 ⟨_, _, _, rfl, rfl, ?_⟩) | ((conv => whnf); refine DL.exn 1 ⟨_, _, _, rfl, rfl, ?_⟩) | ((conv => whnf); refine DL.exn 2 ⟨_, _, _, rfl, rfl, ?_⟩) | ((conv => whnf); refine DL.exn 3 ⟨_, _, _, rfl, rfl, ?_⟩) | ((conv => whnf); refine DL.exn 4 ⟨_, _, _, rfl, rfl, ?_⟩) | ((conv => whnf); refine DL.exn 5 ⟨_, _, _, rfl, rfl, ?_⟩) | ((conv => whnf); refine DL.exn 6 ⟨_, _, _, rfl, rfl, ?_⟩) | ((conv => whnf); refine DL.exn 7 ⟨_, _, _, rfl, rfl, ?_⟩) | ((conv => whnf); refine Or.inl ⟨by decide, by decide, ?_⟩) | ((conv => whnf); refine Or.inr ⟨_, rfl, by decide, ?_⟩) | ((conv => whnf); refine And.intro (by first | assumption | rfl | decide | omega | exact ⟨rfl, by decide⟩ | exact DL.pl_ints | exact DL.pl_pairs | exact DL.pl_pair | exact Nat.le_of_ble_eq_true rfl | exact ⟨rfl, rfl⟩ | exact small_ok (by omega) (by omega) | exact ⟨small_ok (by omega) (by omega), small_ok (by omega) (by omega)⟩ | exact cdiv_ok (by omega) (by omega) | exact cmul_ok (by omega) (by omega) (by omega) (by omega) | exact cpow_ok (by omega) (by omega) (by omega) (by omega) | decide +kernel) ?_) | (refine DL.ifF (by first | assumption | decide | omega | (simp; omega) | (simp; done) | (simp [*]; omega) | (simp [*]; done) | (simp [DL.beq_ints, DL.beq_pairs, *]; done) | fail) ?_) | (refine DL.ifT (by first | assumption | decide | omega | (simp; omega) | (simp; done) | (simp [*]; omega) | (simp [*]; done) | (simp [DL.beq_ints, DL.beq_pairs, *]; done) | fail) ?_) | fail)
          (conv => whnf)
          refine ⟨by rw [rng_len]; show (3 + (sz : Int) + 1 - 1).toNat ≤ _; omega, ?_⟩
          refine cl_map toZero (fun d hd kk hk => ?_) ?_
          · obtain ⟨p, rfl, pa1, pb1⟩ := rng_mem hd
            have pb1 : p < 3 + (sz : Int) + 1 := pb1
            have hlt := List.idxOf_lt_length_of_mem (ok.has pa1 (by omega))
            have h0' : (hs0 row).getD (p - 1).toNat 0 / n = 0 := by
              rw [hs0_get pa1 (by omega)]
              exact Int.ediv_eq_zero_of_lt (by omega) (by omega)
            repeat (first | ((conv => whnf); refine ⟨_, rfl, ?_⟩) | ((conv => whnf); refine ⟨_, _, rfl, ?_⟩) | ((conv => whnf); refine ⟨_, _, _, rfl, ?_⟩) | ((conv => whnf); refine ⟨_, _, _, _, rfl, ?_⟩) | ((conv => whnf); refine DL.exn 0 ⟨_, rfl, ?_⟩) | ((conv => whnf); refine DL.exn 1 ⟨_, rfl, ?_⟩) | ((conv => whnf); refine DL.exn 2 ⟨_, rfl, ?_⟩) | ((conv => whnf); refine DL.exn 3 ⟨_, rfl, ?_⟩) | ((conv => whnf); refine DL.exn 4 ⟨_, rfl, ?_⟩) | ((conv => whnf); refine DL.exn 5 ⟨_, rfl, ?_⟩) | ((conv => whnf); refine DL.exn 6 ⟨_, rfl, ?_⟩) | ((conv => whnf); refine DL.exn 7 ⟨_, rfl, ?_⟩) | ((conv => whnf); refine DL.exn 0 ⟨_, _, rfl, rfl, ?_⟩) | ((conv => whnf); refine DL.exn 1 ⟨_, _, rfl, rfl, ?_⟩) | ((conv => whnf); refine DL.exn 2 ⟨_, _, rfl, rfl, ?_⟩) | ((conv => whnf); refine DL.exn 3 ⟨_, _, rfl, rfl, ?_⟩) | ((conv => whnf); refine DL.exn 4 ⟨_, _, rfl, rfl, ?_⟩) | ((conv => whnf); refine DL.exn 5 ⟨_, _, rfl, rfl, ?_⟩) | ((conv => whnf); refine DL.exn 6 ⟨_, _, rfl, rfl, ?_⟩) | ((conv => whnf); refine DL.exn 7 ⟨_, _, rfl, rfl, ?_⟩) | ((conv => whnf); refine DL.exn 0 ⟨_, _, rfl, ?_⟩) | ((conv => whnf); refine DL.exn 1 ⟨_, _, rfl, ?_⟩) | ((conv => whnf); refine DL.exn 2 ⟨_, _, rfl, ?_⟩) | ((conv => whnf); refine DL.exn 3 ⟨_, _, rfl, ?_⟩) | ((conv => whnf); refine DL.exn 4 ⟨_, _, rfl, ?_⟩) | ((conv => whnf); refine DL.exn 5 ⟨_, _, rfl, ?_⟩) | ((conv => whnf); refine DL.exn 6 ⟨_, _, rfl, ?_⟩) | ((conv => whnf); refine DL.exn 7 ⟨_, _, rfl, ?_⟩) | ((conv => whnf); refine DL.exn 0 ⟨_, _, _, rfl, rfl, ?_⟩) | ((conv => whnf); refine DL.exn 1 ⟨_, _, _, rfl, rfl, ?_⟩) | ((conv => whnf); refine DL.exn 2 ⟨_, _, _, rfl, rfl, ?_⟩) | ((conv => whnf); refine DL.exn 3 ⟨_, _, _, rfl, rfl, ?_⟩) | ((conv => whnf); refine DL.exn 4 ⟨_, _, _, rfl, rfl, ?_⟩) | ((conv => whnf); refine DL.exn 5 ⟨_, _, _, rfl, rfl, ?_⟩) | ((conv => whnf); refine DL.exn 6 ⟨_, _, _, rfl, rfl, ?_⟩) | ((conv => whnf); refine DL.exn 7 ⟨_, _, _, rfl, rfl, ?_⟩) | ((conv => whnf); refine Or.inl ⟨by decide, by decide, ?_⟩) | ((conv => whnf); refine Or.inr ⟨_, rfl, by decide, ?_⟩) | ((conv => whnf); refine And.intro (by first | assumption | rfl | decide | omega | exact ⟨rfl, by decide⟩ | exact DL.pl_ints | exact DL.pl_pairs | exact DL.pl_pair | exact Nat.le_of_ble_eq_true rfl | exact ⟨rfl, rfl⟩ | exact small_ok (by omega) (by omega) | exact ⟨small_ok (by omega) (by omega), small_ok (by omega) (by omega)⟩ | exact cdiv_ok (by omega) (by omega) | exact cmul_ok (by omega) (by omega) (by omega) (by omega) | exact cpow_ok (by omega) (by omega) (by omega) (by omega) | decide +kernel) ?_) | (refine DL.ifF (by first | assumption | decide | omega | (simp; omega) | (simp; done) | (simp [*]; omega) | (simp [*]; done) | (simp [DL.beq_ints, DL.beq_pairs, *]; done) | fail) ?_) | (refine DL.ifT (by first | assumption | decide | omega | (simp; omega) | (simp; done) | (simp [*]; omega) | (simp [*]; done) | (simp [DL.beq_ints, DL.beq_pairs, *]; done) | fail) ?_) | fail)
            (conv => whnf)
            refine ⟨[0, 0], tb K t cc n [] row made (hs0 row), (nb, .lst (IL row)) :: ([(m, dM row' sr' ev pa ov turns), (pa, .lst (IL path)), (ov, .lst (IL over)), (a, wl w' c k')] : Cells), rfl, t, cc, n, [], row, made, hs0 row, p, rfl, rfl, h3, h9, by rw [hs0_len]; exact hfl, pa1, by omega, ?_⟩
            rw [h0']
            exact hk
          rw [rng_zero (lo := 1) (hi := 3 + (sz : Int) + 1) (n := row.length) (by omega)]
          (conv => whnf)
          refine ⟨by decide, ?_⟩
          (conv => whnf)
          refine ⟨by omega, by omega, by simp; omega, ?_⟩
          rw [rep_over, show (3 + (sz : Int)).toNat = row.length by omega]
          repeat (first | ((conv => whnf); refine ⟨_, rfl, ?_⟩) | ((conv => whnf); refine ⟨_, _, rfl, ?_⟩) | ((conv => whnf); refine ⟨_, _, _, rfl, ?_⟩) | ((conv => whnf); refine ⟨_, _, _, _, rfl, ?_⟩) | ((conv => whnf); refine DL.exn 0 ⟨_, rfl, ?_⟩) | ((conv => whnf); refine DL.exn 1 ⟨_, rfl, ?_⟩) | ((conv => whnf); refine DL.exn 2 ⟨_, rfl, ?_⟩) | ((conv => whnf); refine DL.exn 3 ⟨_, rfl, ?_⟩) | ((conv => whnf); refine DL.exn 4 ⟨_, rfl, ?_⟩) | ((conv => whnf); refine DL.exn 5 ⟨_, rfl, ?_⟩) | ((conv => whnf); refine DL.exn 6 ⟨_, rfl, ?_⟩) | ((conv => whnf); refine DL.exn 7 ⟨_, rfl, ?_⟩) | ((conv => whnf); refine DL.exn 0 ⟨_, _, rfl, rfl, ?_⟩) | ((conv => whnf); refine DL.exn 1 ⟨_, _, rfl, rfl, ?_⟩) | ((conv => whnf); refine DL.exn 2 ⟨_, _, rfl, rfl, ?_⟩) | ((conv => whnf); refine DL.exn 3 ⟨_, _, rfl, rfl, ?_⟩) | ((conv => whnf); refine DL.exn 4 ⟨_, _, rfl, rfl, ?_⟩) | ((conv => whnf); refine DL.exn 5 ⟨_, _, rfl, rfl, ?_⟩) | ((conv => whnf); refine DL.exn 6 ⟨_, _, rfl, rfl, ?_⟩) | ((conv => whnf); refine DL.exn 7 ⟨_, _, rfl, rfl, ?_⟩) | ((conv => whnf); refine DL.exn 0 ⟨_, _, rfl, ?_⟩) | ((conv => whnf); refine DL.exn 1 ⟨_, _, rfl, ?_⟩) | ((conv => whnf); refine DL.exn 2 ⟨_, _, rfl, ?_⟩) | ((conv => whnf); refine DL.exn 3 ⟨_, _, rfl, ?_⟩) | ((conv => whnf); refine DL.exn 4 ⟨_, _, rfl, ?_⟩) | ((conv => whnf); refine DL.exn 5 ⟨_, _, rfl, ?_⟩) | ((conv => whnf); refine DL.exn 6 ⟨_, _, rfl, ?_⟩) | ((conv => whnf); refine DL.exn 7 ⟨_, _, rfl, ?_⟩) | ((conv => whnf); refine DL.exn 0 ⟨_, _, _, rfl, rfl, ?_⟩) | ((conv => whnf); refine DL.exn 1 ⟨_, _, _, rfl, rfl, ?_⟩) | ((conv => whnf); refine DL.exn 2 ⟨_, _, _, rfl, rfl, ?_⟩) | ((conv => whnf); refine DL.exn 3 ⟨_, _, _, rfl, rfl, ?_⟩) | ((conv => whnf); refine DL.exn 4 ⟨_, _, _, rfl, rfl, ?_⟩) | ((conv => whnf); refine DL.exn 5 ⟨_, _, _, rfl, rfl, ?_⟩) | ((conv => whnf); refine DL.exn 6 ⟨_, _, _, rfl, rfl, ?_⟩) | ((conv => whnf); refine DL.exn 7 ⟨_, _, _, rfl, rfl, ?_⟩) | ((conv => whnf); refine Or.inl ⟨by decide, by decide, ?_⟩) | ((conv => whnf); refine Or.inr ⟨_, rfl, by decide, ?_⟩) | ((conv => whnf); refine And.intro (by first | assumption | rfl | decide | omega | exact ⟨rfl, by decide⟩ | exact DL.pl_ints | exact DL.pl_pairs | exact DL.pl_pair | exact Nat.le_of_ble_eq_true rfl | exact ⟨rfl, rfl⟩ | exact small_ok (by omega) (by omega) | exact ⟨small_ok (by omega) (by omega), small_ok (by omega) (by omega)⟩ | exact cdiv_ok (by omega) (by omega) | exact cmul_ok (by omega) (by omega) (by omega) (by omega) | exact cpow_ok (by omega) (by omega) (by omega) (by omega) | decide +kernel) ?_) | (refine DL.ifF (by first | assumption | decide | omega | (simp; omega) | (simp; done) | (simp [*]; omega) | (simp [*]; done) | (simp [DL.beq_ints, DL.beq_pairs, *]; done) | fail) ?_) | (refine DL.ifT (by first | assumption | decide | omega | (simp; omega) | (simp; done) | (simp [*]; omega) | (simp [*]; done) | (simp [DL.beq_ints, DL.beq_pairs, *]; done) | fail) ?_) | fail)
          refine rtn_at [] rfl ?_
          show Q (.bl (beq (.lst (IL (List.replicate row.length 0))) (.lst (IL (List.replicate row.length 0))))) []
          have hbb : beq (.lst (IL (List.replicate row.length 0))) (.lst (IL (List.replicate row.length 0))) = true := by rw [beq_ints]; simp
          rw [hbb]
          exact q
        · rintro d r _ _ NX ⟨P1, made, x10, e, hP1, hmade, rfl, rfl⟩ nx
          rcases List.eq_nil_or_concat P1 with hnil | ⟨P2, i, hc⟩
          · subst hnil
            cases e
          · rw [List.concat_eq_append] at hc; subst hc
            have e' : d :: r = D.int i :: IL ((P2.map fun (i : Nat) => (i : Int)).reverse) := by rw [e]; simp [IL]
            obtain ⟨rfl, rfl⟩ : d = D.int i ∧ r = IL ((P2.map fun (i : Nat) => (i : Int)).reverse) := by
              have := List.cons.inj e'; exact this
            have hi := hP1 i (by simp)
            have hP2 : ∀ j ∈ P2, j < row.length := fun j hj => hP1 j (List.mem_append_left _ hj)
            obtain ⟨ok2, l2, l3⟩ := fold_ok ok (hs0_len (row := row)) P2 hP2
            have ef : ((P2 ++ [i]).foldl chg (row, hs0 row)) = (swp (P2.foldl chg (row, hs0 row)).1 i, lft (P2.foldl chg (row, hs0 row)).1 (P2.foldl chg (row, hs0 row)).2 i) := by rw [List.foldl_append]; rfl
            rw [ef]
            have nx' := nx [some (.ref a), some (.int (3 + (sz : Int))), some (.lst (PL sr)), some (.lst (IL row)), some (.ref t), some (.ref m), some (.lst (IL (hs0 row))), x7, x8, x9, some (.int (i : Nat))] (tb K t cc n [] (P2.foldl chg (row, hs0 row)).1 (made + 1) (P2.foldl chg (row, hs0 row)).2 ++ [(m, dM row' sr' ev pa ov turns), (pa, .lst (IL path)), (ov, .lst (IL over)), (a, wl w' c k')]) ⟨P2, made + 1, _, rfl, hP2, by simp at hmade; omega, rfl, rfl⟩
            have s1 := swp_swp (row := (P2.foldl chg (row, hs0 row)).1) (i := i) (by omega) (by omega)
            have s2 := lft_lft (hs := (P2.foldl chg (row, hs0 row)).2) ok2 (by omega) (i := i) (by omega)
            generalize (P2.foldl chg (row, hs0 row)).1 = r2 at *
            generalize (P2.foldl chg (row, hs0 row)).2 = h2 at *
            repeat (first | ((conv => whnf); refine ⟨_, rfl, ?_⟩) | ((conv => whnf); refine ⟨_, _, rfl, ?_⟩) | ((conv => whnf); refine ⟨_, _, _, rfl, ?_⟩) | ((conv => whnf); refine ⟨_, _, _, _, rfl, ?_⟩) | ((conv => whnf); refine DL.exn 0 ⟨_, rfl, ?_⟩) | ((conv => whnf); refine DL.exn 1 ⟨_, rfl, ?_⟩) | ((conv => whnf); refine DL.exn 2 ⟨_, rfl, ?_⟩) | ((conv => whnf); refine DL.exn 3 ⟨_, rfl, ?_⟩) | ((conv => whnf); refine DL.exn 4 ⟨_, rfl, ?_⟩) | ((conv => whnf); refine DL.exn 5 ⟨_, rfl, ?_⟩) | ((conv => whnf); refine DL.exn 6 ⟨_, rfl, ?_⟩) | ((conv => whnf); refine DL.exn 7 ⟨_, rfl, ?_⟩) | ((conv => whnf); refine DL.exn 0 ⟨_, _, rfl, rfl, ?_⟩) | ((conv => whnf); refine DL.exn 1 ⟨_, _, rfl, rfl, ?_⟩) | ((conv => whnf); refine DL.exn 2 ⟨_, _, rfl, rfl, ?_⟩) | ((conv => whnf); refine DL.exn 3 ⟨_, _, rfl, rfl, ?_⟩) | ((conv => whnf); refine DL.exn 4 ⟨_, _, rfl, rfl, ?_⟩) | ((conv => whnf); refine DL.exn 5 ⟨_, _, rfl, rfl, ?_⟩) | ((conv => whnf); refine DL.exn 6 ⟨_, _, rfl, rfl, ?_⟩) | ((conv => whnf); refine DL.exn 7 ⟨_, _, rfl, rfl, ?_⟩) | ((conv => whnf); refine DL.exn 0 ⟨_, _, rfl, ?_⟩) | ((conv => whnf); refine DL.exn 1 ⟨_, _, rfl, ?_⟩) | ((conv => whnf); refine DL.exn 2 ⟨_, _, rfl, ?_⟩) | ((conv => whnf); refine DL.exn 3 ⟨_, _, rfl, ?_⟩) | ((conv => whnf); refine DL.exn 4 ⟨_, _, rfl, ?_⟩) | ((conv => whnf); refine DL.exn 5 ⟨_, _, rfl, ?_⟩) | ((conv => whnf); refine DL.exn 6 ⟨_, _, rfl, ?_⟩) | ((conv => whnf); refine DL.exn 7 ⟨_, _, rfl, ?_⟩) | ((conv => whnf); refine DL.exn 0 ⟨_, _, _, rfl, rfl, ?_⟩) | ((conv => whnf); refine DL.exn 1 ⟨_, _, _, rfl, rfl, ?_⟩) | ((conv => whnf); refine DL.exn 2 ⟨_, _, _, rfl, rfl, ?_⟩) | ((conv => whnf); refine DL.exn 3 ⟨_, _, _, rfl, rfl, ?_⟩) | ((conv => whnf); refine DL.exn 4 ⟨_, _, _, rfl, rfl, ?_⟩) | ((conv => whnf); refine DL.exn 5 ⟨_, _, _, rfl, rfl, ?_⟩) | ((conv => whnf); refine DL.exn 6 ⟨_, _, _, rfl, rfl, ?_⟩) | ((conv => whnf); refine DL.exn 7 ⟨_, _, _, rfl, rfl, ?_⟩) | ((conv => whnf); refine Or.inl ⟨by decide, by decide, ?_⟩) | ((conv => whnf); refine Or.inr ⟨_, rfl, by decide, ?_⟩) | ((conv => whnf); refine And.intro (by first | assumption | rfl | decide | omega | exact ⟨rfl, by decide⟩ | exact DL.pl_ints | exact DL.pl_pairs | exact DL.pl_pair | exact Nat.le_of_ble_eq_true rfl | exact ⟨rfl, rfl⟩ | exact small_ok (by omega) (by omega) | exact ⟨small_ok (by omega) (by omega), small_ok (by omega) (by omega)⟩ | exact cdiv_ok (by omega) (by omega) | exact cmul_ok (by omega) (by omega) (by omega) (by omega) | exact cpow_ok (by omega) (by omega) (by omega) (by omega) | decide +kernel) ?_) | (refine DL.ifF (by first | assumption | decide | omega | (simp; omega) | (simp; done) | (simp [*]; omega) | (simp [*]; done) | (simp [DL.beq_ints, DL.beq_pairs, *]; done) | fail) ?_) | (refine DL.ifT (by first | assumption | decide | omega | (simp; omega) | (simp; done) | (simp [*]; omega) | (simp [*]; done) | (simp [DL.beq_ints, DL.beq_pairs, *]; done) | fail) ?_) | fail)
            (conv => whnf)
            refine ⟨[0, 0], tb K t cc n [] (swp r2 i) made (lft r2 h2 i), [(m, dM row' sr' ev pa ov turns), (pa, .lst (IL path)), (ov, .lst (IL over)), (a, wl w' c k')], rfl, t, cc, n, [], swp r2 i, made, lft r2 h2 i, i, rfl, rfl, swp_ok ok2 (by omega), by rw [lft_len, swp_len]; omega, by rw [swp_len]; omega, by simp, ?_⟩
            rw [s1, s2]
            exact nx'
    · rintro d r _ _ NX ⟨qs, ps2, x7, x8, x9, e2, hqs, ok2, hsub, rfl, hM⟩ nx
      cases qs with
      | nil => cases e2
      | cons z qs =>
        cases e2
        have hz3 := hqs z List.mem_cons_self
        rcases hM with ⟨rfl, _⟩ | rfl | rfl
        · repeat (first | ((conv => whnf); refine ⟨_, rfl, ?_⟩) | ((conv => whnf); refine ⟨_, _, rfl, ?_⟩) | ((conv => whnf); refine ⟨_, _, _, rfl, ?_⟩) | ((conv => whnf); refine ⟨_, _, _, _, rfl, ?_⟩) | ((conv => whnf); refine DL.exn 0 ⟨_, rfl, ?_⟩) | ((conv => whnf); refine DL.exn 1 ⟨_, rfl, ?_⟩) | ((conv => whnf); refine DL.exn 2 ⟨_, rfl, ?_⟩) | ((conv => whnf); refine DL.exn 3 ⟨_, rfl, ?_⟩) | ((conv => whnf); refine DL.exn 4 ⟨_, rfl, ?_⟩) | ((conv => whnf); refine DL.exn 5 ⟨_, rfl, ?_⟩) | ((conv => whnf); refine DL.exn 6 ⟨_, rfl, ?_⟩) | ((conv => whnf); refine DL.exn 7 ⟨_, rfl, ?_⟩) | ((conv => whnf); refine DL.exn 0 ⟨_, _, rfl, rfl, ?_⟩) | ((conv => whnf); refine DL.exn 1 ⟨_, _, rfl, rfl, ?_⟩) | ((conv => whnf); refine DL.exn 2 ⟨_, _, rfl, rfl, ?_⟩) | ((conv => whnf); refine DL.exn 3 ⟨_, _, rfl, rfl, ?_⟩) | ((conv => whnf); refine DL.exn 4 ⟨_, _, rfl, rfl, ?_⟩) | ((conv => whnf); refine DL.exn 5 ⟨_, _, rfl, rfl, ?_⟩) | ((conv => whnf); refine DL.exn 6 ⟨_, _, rfl, rfl, ?_⟩) | ((conv => whnf); refine DL.exn 7 ⟨_, _, rfl, rfl, ?_⟩) | ((conv => whnf); refine DL.exn 0 ⟨_, _, rfl, ?_⟩) | ((conv => whnf); refine DL.exn 1 ⟨_, _, rfl, ?_⟩) | ((conv => whnf); refine DL.exn 2 ⟨_, _, rfl, ?_⟩) | ((conv => whnf); refine DL.exn 3 ⟨_, _, rfl, ?_⟩) | ((conv => whnf); refine DL.exn 4 ⟨_, _, rfl, ?_⟩) | ((conv => whnf); refine DL.exn 5 ⟨_, _, rfl, ?_⟩) | ((conv => whnf); refine DL.exn 6 ⟨_, _, rfl, ?_⟩) | ((conv => whnf); refine DL.exn 7 ⟨_, _, rfl, ?_⟩) | ((conv => whnf); refine DL.exn 0 ⟨_, _, _, rfl, rfl, ?_⟩) | ((conv => whnf); refine DL.exn 1 ⟨_, _, _, rfl, rfl, ?_⟩) | ((conv => whnf); refine DL.exn 2 ⟨_, _, _, rfl, rfl, ?_⟩) | ((conv => whnf); refine DL.exn 3 ⟨_, _, _, rfl, rfl, ?_⟩) | ((conv => whnf); refine DL.exn 4 ⟨_, _, _, rfl, rfl, ?_⟩) | ((conv => whnf); refine DL.exn 5 ⟨_, _, _, rfl, rfl, ?_⟩) | ((conv => whnf); refine DL.exn 6 ⟨_, _, _, rfl, rfl, ?_⟩) | ((conv => whnf); refine DL.exn 7 ⟨_, _, _, rfl, rfl, ?_⟩) | ((conv => whnf); refine Or.inl ⟨by decide, by decide, ?_⟩) | ((conv => whnf); refine Or.inr ⟨_, rfl, by decide, ?_⟩) | ((conv => whnf); refine And.intro (by first | assumption | rfl | decide | omega | exact ⟨rfl, by decide⟩ | exact DL.pl_ints | exact DL.pl_pairs | exact DL.pl_pair | exact Nat.le_of_ble_eq_true rfl | exact ⟨rfl, rfl⟩ | exact small_ok (by omega) (by omega) | exact ⟨small_ok (by omega) (by omega), small_ok (by omega) (by omega)⟩ | exact cdiv_ok (by omega) (by omega) | exact cmul_ok (by omega) (by omega) (by omega) (by omega) | exact cpow_ok (by omega) (by omega) (by omega) (by omega) | decide +kernel) ?_) | (refine DL.ifF (by first | assumption | decide | omega | (simp; omega) | (simp; done) | (simp [*]; omega) | (simp [*]; done) | (simp [DL.beq_ints, DL.beq_pairs, *]; done) | fail) ?_) | (refine DL.ifT (by first | assumption | decide | omega | (simp; omega) | (simp; done) | (simp [*]; omega) | (simp [*]; done) | (simp [DL.beq_ints, DL.beq_pairs, *]; done) | fail) ?_) | fail)
          (conv => whnf)
          refine ⟨[1, 1], tb K t cc n ps2 row' (path.length : Nat) hs', [(a, wl w' c k'), (m, dM row' sr' ev pa ov turns), (ov, .lst (IL over)), (pa, .lst (IL path))], rfl, t, cc, n, ps2, row', _, hs', z.1, z.2, rfl, rfl, ok2, ok2.len, by omega, by omega, by omega, fun qs3 ok3 hq3 => ?_⟩
          refine nx _ _ ⟨qs, qs3, _, _, _, rfl, fun v hv => hqs v (List.mem_cons_of_mem _ hv), ok3, fun v hv => ?_, rfl, .inr (.inl rfl)⟩
          have hv2 := (hq3 v).mp hv
          have hmz : mx z.1 z.2 = z := by unfold mx imin imax; rw [if_neg (by omega), if_pos (by omega)]
          rw [hmz] at hv2
          rcases List.mem_cons.mp (hsub v hv2.1) with h | h
          · exact absurd h hv2.2
          · exact h
        · repeat (first | ((conv => whnf); refine ⟨_, rfl, ?_⟩) | ((conv => whnf); refine ⟨_, _, rfl, ?_⟩) | ((conv => whnf); refine ⟨_, _, _, rfl, ?_⟩) | ((conv => whnf); refine ⟨_, _, _, _, rfl, ?_⟩) | ((conv => whnf); refine DL.exn 0 ⟨_, rfl, ?_⟩) | ((conv => whnf); refine DL.exn 1 ⟨_, rfl, ?_⟩) | ((conv => whnf); refine DL.exn 2 ⟨_, rfl, ?_⟩) | ((conv => whnf); refine DL.exn 3 ⟨_, rfl, ?_⟩) | ((conv => whnf); refine DL.exn 4 ⟨_, rfl, ?_⟩) | ((conv => whnf); refine DL.exn 5 ⟨_, rfl, ?_⟩) | ((conv => whnf); refine DL.exn 6 ⟨_, rfl, ?_⟩) | ((conv => whnf); refine DL.exn 7 ⟨_, rfl, ?_⟩) | ((conv => whnf); refine DL.exn 0 ⟨_, _, rfl, rfl, ?_⟩) | ((conv => whnf); refine DL.exn 1 ⟨_, _, rfl, rfl, ?_⟩) | ((conv => whnf); refine DL.exn 2 ⟨_, _, rfl, rfl, ?_⟩) | ((conv => whnf); refine DL.exn 3 ⟨_, _, rfl, rfl, ?_⟩) | ((conv => whnf); refine DL.exn 4 ⟨_, _, rfl, rfl, ?_⟩) | ((conv => whnf); refine DL.exn 5 ⟨_, _, rfl, rfl, ?_⟩) | ((conv => whnf); refine DL.exn 6 ⟨_, _, rfl, rfl, ?_⟩) | ((conv => whnf); refine DL.exn 7 ⟨_, _, rfl, rfl, ?_⟩) | ((conv => whnf); refine DL.exn 0 ⟨_, _, rfl, ?_⟩) | ((conv => whnf); refine DL.exn 1 ⟨_, _, rfl, ?_⟩) | ((conv => whnf); refine DL.exn 2 ⟨_, _, rfl, ?_⟩) | ((conv => whnf); refine DL.exn 3 ⟨_, _, rfl, ?_⟩) | ((conv => whnf); refine DL.exn 4 ⟨_, _, rfl, ?_⟩) | ((conv => whnf); refine DL.exn 5 ⟨_, _, rfl, ?_⟩) | ((conv => whnf); refine DL.exn 6 ⟨_, _, rfl, ?_⟩) | ((conv => whnf); refine DL.exn 7 ⟨_, _, rfl, ?_⟩) | ((conv => whnf); refine DL.exn 0 ⟨_, _, _, rfl, rfl, ?_⟩) | ((conv => whnf); refine DL.exn 1 ⟨_, _, _, rfl, rfl, ?_⟩) | ((conv => whnf); refine DL.exn 2 ⟨_, _, _, rfl, rfl, ?_⟩) | ((conv => whnf); refine DL.exn 3 ⟨_, _, _, rfl, rfl, ?_⟩) | ((conv => whnf); refine DL.exn 4 ⟨_, _, _, rfl, rfl, ?_⟩) | ((conv => whnf); refine DL.exn 5 ⟨_, _, _, rfl, rfl, ?_⟩) | ((conv => whnf); refine DL.exn 6 ⟨_, _, _, rfl, rfl, ?_⟩) | ((conv => whnf); refine DL.exn 7 ⟨_, _, _, rfl, rfl, ?_⟩) | ((conv => whnf); refine Or.inl ⟨by decide, by decide, ?_⟩) | ((conv => whnf); refine Or.inr ⟨_, rfl, by decide, ?_⟩) | ((conv => whnf); refine And.intro (by first | assumption | rfl | decide | omega | exact ⟨rfl, by decide⟩ | exact DL.pl_ints | exact DL.pl_pairs | exact DL.pl_pair | exact Nat.le_of_ble_eq_true rfl | exact ⟨rfl, rfl⟩ | exact small_ok (by omega) (by omega) | exact ⟨small_ok (by omega) (by omega), small_ok (by omega) (by omega)⟩ | exact cdiv_ok (by omega) (by omega) | exact cmul_ok (by omega) (by omega) (by omega) (by omega) | exact cpow_ok (by omega) (by omega) (by omega) (by omega) | decide +kernel) ?_) | (refine DL.ifF (by first | assumption | decide | omega | (simp; omega) | (simp; done) | (simp [*]; omega) | (simp [*]; done) | (simp [DL.beq_ints, DL.beq_pairs, *]; done) | fail) ?_) | (refine DL.ifT (by first | assumption | decide | omega | (simp; omega) | (simp; done) | (simp [*]; omega) | (simp [*]; done) | (simp [DL.beq_ints, DL.beq_pairs, *]; done) | fail) ?_) | fail)
          (conv => whnf)
          refine ⟨[0, 0], tb K t cc n ps2 row' (path.length : Nat) hs', [(a, wl w' c k'), (m, dM row' sr' ev pa ov turns), (ov, .lst (IL over)), (pa, .lst (IL path))], rfl, t, cc, n, ps2, row', _, hs', z.1, z.2, rfl, rfl, ok2, ok2.len, by omega, by omega, by omega, fun qs3 ok3 hq3 => ?_⟩
          refine nx _ _ ⟨qs, qs3, _, _, _, rfl, fun v hv => hqs v (List.mem_cons_of_mem _ hv), ok3, fun v hv => ?_, rfl, .inr (.inl rfl)⟩
          have hv2 := (hq3 v).mp hv
          have hmz : mx z.1 z.2 = z := by unfold mx imin imax; rw [if_neg (by omega), if_pos (by omega)]
          rw [hmz] at hv2
          rcases List.mem_cons.mp (hsub v hv2.1) with h | h
          · exact absurd h hv2.2
          · exact h
        · repeat (first | ((conv => whnf); refine ⟨_, rfl, ?_⟩) | ((conv => whnf); refine ⟨_, _, rfl, ?_⟩) | ((conv => whnf); refine ⟨_, _, _, rfl, ?_⟩) | ((conv => whnf); refine ⟨_, _, _, _, rfl, ?_⟩) | ((conv => whnf); refine DL.exn 0 ⟨_, rfl, ?_⟩) | ((conv => whnf); refine DL.exn 1 ⟨_, rfl, ?_⟩) | ((conv => whnf); refine DL.exn 2 ⟨_, rfl, ?_⟩) | ((conv => whnf); refine DL.exn 3 ⟨_, rfl, ?_⟩) | ((conv => whnf); refine DL.exn 4 ⟨_, rfl, ?_⟩) | ((conv => whnf); refine DL.exn 5 ⟨_, rfl, ?_⟩) | ((conv => whnf); refine DL.exn 6 ⟨_, rfl, ?_⟩) | ((conv => whnf); refine DL.exn 7 ⟨_, rfl, ?_⟩) | ((conv => whnf); refine DL.exn 0 ⟨_, _, rfl, rfl, ?_⟩) | ((conv => whnf); refine DL.exn 1 ⟨_, _, rfl, rfl, ?_⟩) | ((conv => whnf); refine DL.exn 2 ⟨_, _, rfl, rfl, ?_⟩) | ((conv => whnf); refine DL.exn 3 ⟨_, _, rfl, rfl, ?_⟩) | ((conv => whnf); refine DL.exn 4 ⟨_, _, rfl, rfl, ?_⟩) | ((conv => whnf); refine DL.exn 5 ⟨_, _, rfl, rfl, ?_⟩) | ((conv => whnf); refine DL.exn 6 ⟨_, _, rfl, rfl, ?_⟩) | ((conv => whnf); refine DL.exn 7 ⟨_, _, rfl, rfl, ?_⟩) | ((conv => whnf); refine DL.exn 0 ⟨_, _, rfl, ?_⟩) | ((conv => whnf); refine DL.exn 1 ⟨_, _, rfl, ?_⟩) | ((conv => whnf); refine DL.exn 2 ⟨_, _, rfl, ?_⟩) | ((conv => whnf); refine DL.exn 3 ⟨_, _, rfl, ?_⟩) | ((conv => whnf); refine DL.exn 4 ⟨_, _, rfl, ?_⟩) | ((conv => whnf); refine DL.exn 5 ⟨_, _, rfl, ?_⟩) | ((conv => whnf); refine DL.exn 6 ⟨_, _, rfl, ?_⟩) | ((conv => whnf); refine DL.exn 7 ⟨_, _, rfl, ?_⟩) | ((conv => whnf); refine DL.exn 0 ⟨_, _, _, rfl, rfl, ?_⟩) | ((conv => whnf); refine DL.exn 1 ⟨_, _, _, rfl, rfl, ?_⟩) | ((conv => whnf); refine DL.exn 2 ⟨_, _, _, rfl, rfl, ?_⟩) | ((conv => whnf); refine DL.exn 3 ⟨_, _, _, rfl, rfl, ?_⟩) | ((conv => whnf); refine DL.exn 4 ⟨_, _, _, rfl, rfl, ?_⟩) | ((conv => whnf); refine DL.exn 5 ⟨_, _, _, rfl, rfl, ?_⟩) | ((conv => whnf); refine DL.exn 6 ⟨_, _, _, rfl, rfl, ?_⟩) | ((conv => whnf); refine DL.exn 7 ⟨_, _, _, rfl, rfl, ?_⟩) | ((conv => whnf); refine Or.inl ⟨by decide, by decide, ?_⟩) | ((conv => whnf); refine Or.inr ⟨_, rfl, by decide, ?_⟩) | ((conv => whnf); refine And.intro (by first | assumption | rfl | decide | omega | exact ⟨rfl, by decide⟩ | exact DL.pl_ints | exact DL.pl_pairs | exact DL.pl_pair | exact Nat.le_of_ble_eq_true rfl | exact ⟨rfl, rfl⟩ | exact small_ok (by omega) (by omega) | exact ⟨small_ok (by omega) (by omega), small_ok (by omega) (by omega)⟩ | exact cdiv_ok (by omega) (by omega) | exact cmul_ok (by omega) (by omega) (by omega) (by omega) | exact cpow_ok (by omega) (by omega) (by omega) (by omega) | decide +kernel) ?_) | (refine DL.ifF (by first | assumption | decide | omega | (simp; omega) | (simp; done) | (simp [*]; omega) | (simp [*]; done) | (simp [DL.beq_ints, DL.beq_pairs, *]; done) | fail) ?_) | (refine DL.ifT (by first | assumption | decide | omega | (simp; omega) | (simp; done) | (simp [*]; omega) | (simp [*]; done) | (simp [DL.beq_ints, DL.beq_pairs, *]; done) | fail) ?_) | fail)
          (conv => whnf)
          refine ⟨[0, 0], tb K t cc n ps2 row' (path.length : Nat) hs', [(m, dM row' sr' ev pa ov turns), (pa, .lst (IL path)), (ov, .lst (IL over)), (a, wl w' c k')], rfl, t, cc, n, ps2, row', _, hs', z.1, z.2, rfl, rfl, ok2, ok2.len, by omega, by omega, by omega, fun qs3 ok3 hq3 => ?_⟩
          refine nx _ _ ⟨qs, qs3, _, _, _, rfl, fun v hv => hqs v (List.mem_cons_of_mem _ hv), ok3, fun v hv => ?_, rfl, .inr (.inr rfl)⟩
          have hv2 := (hq3 v).mp hv
          have hmz : mx z.1 z.2 = z := by unfold mx imin imax; rw [if_neg (by omega), if_pos (by omega)]
          rw [hmz] at hv2
          rcases List.mem_cons.mp (hsub v hv2.1) with h | h
          · exact absurd h hv2.2
          · exact h
  · rintro d r _ _ NX ⟨j, w', k', ps', row', hs', sr', ev, path, over, turns, v7, e, hj, G', hk9, hk10, hpl, hsl2, hel, rfl, hM⟩ nx
    obtain ⟨hlt, rfl, rfl⟩ := rng_split e
    rcases hM with rfl | rfl
    · repeat (first | ((conv => whnf); refine ⟨_, rfl, ?_⟩) | ((conv => whnf); refine ⟨_, _, rfl, ?_⟩) | ((conv => whnf); refine ⟨_, _, _, rfl, ?_⟩) | ((conv => whnf); refine ⟨_, _, _, _, rfl, ?_⟩) | ((conv => whnf); refine DL.exn 0 ⟨_, rfl, ?_⟩) | ((conv => whnf); refine DL.exn 1 ⟨_, rfl, ?_⟩) | ((conv => whnf); refine DL.exn 2 ⟨_, rfl, ?_⟩) | ((conv => whnf); refine DL.exn 3 ⟨_, rfl, ?_⟩) | ((conv => whnf); refine DL.exn 4 ⟨_, rfl, ?_⟩) | ((conv => whnf); refine DL.exn 5 ⟨_, rfl, ?_⟩) | ((conv => whnf); refine DL.exn 6 ⟨_, rfl, ?_⟩) | ((conv => whnf); refine DL.exn 7 ⟨_, rfl, ?_⟩) | ((conv => whnf); refine DL.exn 0 ⟨_, _, rfl, rfl, ?_⟩) | ((conv => whnf); refine DL.exn 1 ⟨_, _, rfl, rfl, ?_⟩) | ((conv => whnf); refine DL.exn 2 ⟨_, _, rfl, rfl, ?_⟩) | ((conv => whnf); refine DL.exn 3 ⟨_, _, rfl, rfl, ?_⟩) | ((conv => whnf); refine DL.exn 4 ⟨_, _, rfl, rfl, ?_⟩) | ((conv => whnf); refine DL.exn 5 ⟨_, _, rfl, rfl, ?_⟩) | ((conv => whnf); refine DL.exn 6 ⟨_, _, rfl, rfl, ?_⟩) | ((conv => whnf); refine DL.exn 7 ⟨_, _, rfl, rfl, ?_⟩) | ((conv => whnf); refine DL.exn 0 ⟨_, _, rfl, ?_⟩) | ((conv => whnf); refine DL.exn 1 ⟨_, _, rfl, ?_⟩) | ((conv => whnf); refine DL.exn 2 ⟨_, _, rfl, ?_⟩) | ((conv => whnf); refine DL.exn 3 ⟨_, _, rfl, ?_⟩) | ((conv => whnf); refine DL.exn 4 ⟨_, _, rfl, ?_⟩) | ((conv => whnf); refine DL.exn 5 ⟨_, _, rfl, ?_⟩) | ((conv => whnf); refine DL.exn 6 ⟨_, _, rfl, ?_⟩) | ((conv => whnf); refine DL.exn 7 ⟨_, _, rfl, ?_⟩) | ((conv => whnf); refine DL.exn 0 ⟨_, _, _, rfl, rfl, ?_⟩) | ((conv => whnf); refine DL.exn 1 ⟨_, _, _, rfl, rfl, ?_⟩) | ((conv => whnf); refine DL.exn 2 ⟨_, _, _, rfl, rfl, ?_⟩) | ((conv => whnf); refine DL.exn 3 ⟨_, _, _, rfl, rfl, ?_⟩) | ((conv => whnf); refine DL.exn 4 ⟨_, _, _, rfl, rfl, ?_⟩) | ((conv => whnf); refine DL.exn 5 ⟨_, _, _, rfl, rfl, ?_⟩) | ((conv => whnf); refine DL.exn 6 ⟨_, _, _, rfl, rfl, ?_⟩) | ((conv => whnf); refine DL.exn 7 ⟨_, _, _, rfl, rfl, ?_⟩) | ((conv => whnf); refine Or.inl ⟨by decide, by decide, ?_⟩) | ((conv => whnf); refine Or.inr ⟨_, rfl, by decide, ?_⟩) | ((conv => whnf); refine And.intro (by first | assumption | rfl | decide | omega | exact ⟨rfl, by decide⟩ | exact DL.pl_ints | exact DL.pl_pairs | exact DL.pl_pair | exact Nat.le_of_ble_eq_true rfl | exact ⟨rfl, rfl⟩ | exact small_ok (by omega) (by omega) | exact ⟨small_ok (by omega) (by omega), small_ok (by omega) (by omega)⟩ | exact cdiv_ok (by omega) (by omega) | exact cmul_ok (by omega) (by omega) (by omega) (by omega) | exact cpow_ok (by omega) (by omega) (by omega) (by omega) | decide +kernel) ?_) | (refine DL.ifF (by first | assumption | decide | omega | (simp; omega) | (simp; done) | (simp [*]; omega) | (simp [*]; done) | (simp [DL.beq_ints, DL.beq_pairs, *]; done) | fail) ?_) | (refine DL.ifT (by first | assumption | decide | omega | (simp; omega) | (simp; done) | (simp [*]; omega) | (simp [*]; done) | (simp [DL.beq_ints, DL.beq_pairs, *]; done) | fail) ?_) | fail)
      (conv => whnf)
      refine ⟨[0, 0, 0, 0, 1, 0], (a, wl w' c k') :: (tb K t cc n ps' row' (path.length : Nat) hs' ++ mm m pa ov row' sr' ev path over turns), [], rfl, a, w', c, k', t, cc, m, pa, ov, n, row, hs0 row, ps', row', hs', sr', ev, path, over, turns, rfl, rfl, by omega, by omega, G', by omega, by omega, by omega, fun w5 k5 ps5 row5 hs5 sr5 ev5 path5 over5 turns5 hk9 hk10 G5 l1 l2 l3 => ?_⟩
      repeat (first | ((conv => whnf); refine ⟨_, rfl, ?_⟩) | ((conv => whnf); refine ⟨_, _, rfl, ?_⟩) | ((conv => whnf); refine ⟨_, _, _, rfl, ?_⟩) | ((conv => whnf); refine ⟨_, _, _, _, rfl, ?_⟩) | ((conv => whnf); refine DL.exn 0 ⟨_, rfl, ?_⟩) | ((conv => whnf); refine DL.exn 1 ⟨_, rfl, ?_⟩) | ((conv => whnf); refine DL.exn 2 ⟨_, rfl, ?_⟩) | ((conv => whnf); refine DL.exn 3 ⟨_, rfl, ?_⟩) | ((conv => whnf); refine DL.exn 4 ⟨_, rfl, ?_⟩) | ((conv => whnf); refine DL.exn 5 ⟨_, rfl, ?_⟩) | ((conv => whnf); refine DL.exn 6 ⟨_, rfl, ?_⟩) | ((conv => whnf); refine DL.exn 7 ⟨_, rfl, ?_⟩) | ((conv => whnf); refine DL.exn 0 ⟨_, _, rfl, rfl, ?_⟩) | ((conv => whnf); refine DL.exn 1 ⟨_, _, rfl, rfl, ?_⟩) | ((conv => whnf); refine DL.exn 2 ⟨_, _, rfl, rfl, ?_⟩) | ((conv => whnf); refine DL.exn 3 ⟨_, _, rfl, rfl, ?_⟩) | ((conv => whnf); refine DL.exn 4 ⟨_, _, rfl, rfl, ?_⟩) | ((conv => whnf); refine DL.exn 5 ⟨_, _, rfl, rfl, ?_⟩) | ((conv => whnf); refine DL.exn 6 ⟨_, _, rfl, rfl, ?_⟩) | ((conv => whnf); refine DL.exn 7 ⟨_, _, rfl, rfl, ?_⟩) | ((conv => whnf); refine DL.exn 0 ⟨_, _, rfl, ?_⟩) | ((conv => whnf); refine DL.exn 1 ⟨_, _, rfl, ?_⟩) | ((conv => whnf); refine DL.exn 2 ⟨_, _, rfl, ?_⟩) | ((conv => whnf); refine DL.exn 3 ⟨_, _, rfl, ?_⟩) | ((conv => whnf); refine DL.exn 4 ⟨_, _, rfl, ?_⟩) | ((conv => whnf); refine DL.exn 5 ⟨_, _, rfl, ?_⟩) | ((conv => whnf); refine DL.exn 6 ⟨_, _, rfl, ?_⟩) | ((conv => whnf); refine DL.exn 7 ⟨_, _, rfl, ?_⟩) | ((conv => whnf); refine DL.exn 0 ⟨_, _, _, rfl, rfl, ?_⟩) | ((conv => whnf); refine DL.exn 1 ⟨_, _, _, rfl, rfl, ?_⟩) | ((conv => whnf); refine DL.exn 2 ⟨_, _, _, rfl, rfl, ?_⟩) | ((conv => whnf); refine DL.exn 3 ⟨_, _, _, rfl, rfl, ?_⟩) | ((conv => whnf); refine DL.exn 4 ⟨_, _, _, rfl, rfl, ?_⟩) | ((conv => whnf); refine DL.exn 5 ⟨_, _, _, rfl, rfl, ?_⟩) | ((conv => whnf); refine DL.exn 6 ⟨_, _, _, rfl, rfl, ?_⟩) | ((conv => whnf); refine DL.exn 7 ⟨_, _, _, rfl, rfl, ?_⟩) | ((conv => whnf); refine Or.inl ⟨by decide, by decide, ?_⟩) | ((conv => whnf); refine Or.inr ⟨_, rfl, by decide, ?_⟩) | ((conv => whnf); refine And.intro (by first | assumption | rfl | decide | omega | exact ⟨rfl, by decide⟩ | exact DL.pl_ints | exact DL.pl_pairs | exact DL.pl_pair | exact Nat.le_of_ble_eq_true rfl | exact ⟨rfl, rfl⟩ | exact small_ok (by omega) (by omega) | exact ⟨small_ok (by omega) (by omega), small_ok (by omega) (by omega)⟩ | exact cdiv_ok (by omega) (by omega) | exact cmul_ok (by omega) (by omega) (by omega) (by omega) | exact cpow_ok (by omega) (by omega) (by omega) (by omega) | decide +kernel) ?_) | (refine DL.ifF (by first | assumption | decide | omega | (simp; omega) | (simp; done) | (simp [*]; omega) | (simp [*]; done) | (simp [DL.beq_ints, DL.beq_pairs, *]; done) | fail) ?_) | (refine DL.ifT (by first | assumption | decide | omega | (simp; omega) | (simp; done) | (simp [*]; omega) | (simp [*]; done) | (simp [DL.beq_ints, DL.beq_pairs, *]; done) | fail) ?_) | fail)
      (conv => whnf)
      refine ⟨[1, 1, 1, 1, 1], tb K t cc n ps5 row5 (path5.length : Nat) hs5 ++ mm m pa ov row5 sr5 ev5 path5 over5 turns5, [(a, wl w5 c k5)], rfl, t, cc, m, pa, ov, n, row, hs0 row, ps5, row5, hs5, sr5, ev5, path5, over5, turns5, rfl, rfl, G5, by omega, by omega, ?_⟩
      repeat (first | ((conv => whnf); refine ⟨_, rfl, ?_⟩) | ((conv => whnf); refine ⟨_, _, rfl, ?_⟩) | ((conv => whnf); refine ⟨_, _, _, rfl, ?_⟩) | ((conv => whnf); refine ⟨_, _, _, _, rfl, ?_⟩) | ((conv => whnf); refine DL.exn 0 ⟨_, rfl, ?_⟩) | ((conv => whnf); refine DL.exn 1 ⟨_, rfl, ?_⟩) | ((conv => whnf); refine DL.exn 2 ⟨_, rfl, ?_⟩) | ((conv => whnf); refine DL.exn 3 ⟨_, rfl, ?_⟩) | ((conv => whnf); refine DL.exn 4 ⟨_, rfl, ?_⟩) | ((conv => whnf); refine DL.exn 5 ⟨_, rfl, ?_⟩) | ((conv => whnf); refine DL.exn 6 ⟨_, rfl, ?_⟩) | ((conv => whnf); refine DL.exn 7 ⟨_, rfl, ?_⟩) | ((conv => whnf); refine DL.exn 0 ⟨_, _, rfl, rfl, ?_⟩) | ((conv => whnf); refine DL.exn 1 ⟨_, _, rfl, rfl, ?_⟩) | ((conv => whnf); refine DL.exn 2 ⟨_, _, rfl, rfl, ?_⟩) | ((conv => whnf); refine DL.exn 3 ⟨_, _, rfl, rfl, ?_⟩) | ((conv => whnf); refine DL.exn 4 ⟨_, _, rfl, rfl, ?_⟩) | ((conv => whnf); refine DL.exn 5 ⟨_, _, rfl, rfl, ?_⟩) | ((conv => whnf); refine DL.exn 6 ⟨_, _, rfl, rfl, ?_⟩) | ((conv => whnf); refine DL.exn 7 ⟨_, _, rfl, rfl, ?_⟩) | ((conv => whnf); refine DL.exn 0 ⟨_, _, rfl, ?_⟩) | ((conv => whnf); refine DL.exn 1 ⟨_, _, rfl, ?_⟩) | ((conv => whnf); refine DL.exn 2 ⟨_, _, rfl, ?_⟩) | ((conv => whnf); refine DL.exn 3 ⟨_, _, rfl, ?_⟩) | ((conv => whnf); refine DL.exn 4 ⟨_, _, rfl, ?_⟩) | ((conv => whnf); refine DL.exn 5 ⟨_, _, rfl, ?_⟩) | ((conv => whnf); refine DL.exn 6 ⟨_, _, rfl, ?_⟩) | ((conv => whnf); refine DL.exn 7 ⟨_, _, rfl, ?_⟩) | ((conv => whnf); refine DL.exn 0 ⟨_, _, _, rfl, rfl, ?_⟩) | ((conv => whnf); refine DL.exn 1 ⟨_, _, _, rfl, rfl, ?_⟩) | ((conv => whnf); refine DL.exn 2 ⟨_, _, _, rfl, rfl, ?_⟩) | ((conv => whnf); refine DL.exn 3 ⟨_, _, _, rfl, rfl, ?_⟩) | ((conv => whnf); refine DL.exn 4 ⟨_, _, _, rfl, rfl, ?_⟩) | ((conv => whnf); refine DL.exn 5 ⟨_, _, _, rfl, rfl, ?_⟩) | ((conv => whnf); refine DL.exn 6 ⟨_, _, _, rfl, rfl, ?_⟩) | ((conv => whnf); refine DL.exn 7 ⟨_, _, _, rfl, rfl, ?_⟩) | ((conv => whnf); refine Or.inl ⟨by decide, by decide, ?_⟩) | ((conv => whnf); refine Or.inr ⟨_, rfl, by decide, ?_⟩) | ((conv => whnf); refine And.intro (by first | assumption | rfl | decide | omega | exact ⟨rfl, by decide⟩ | exact DL.pl_ints | exact DL.pl_pairs | exact DL.pl_pair | exact Nat.le_of_ble_eq_true rfl | exact ⟨rfl, rfl⟩ | exact small_ok (by omega) (by omega) | exact ⟨small_ok (by omega) (by omega), small_ok (by omega) (by omega)⟩ | exact cdiv_ok (by omega) (by omega) | exact cmul_ok (by omega) (by omega) (by omega) (by omega) | exact cpow_ok (by omega) (by omega) (by omega) (by omega) | decide +kernel) ?_) | (refine DL.ifF (by first | assumption | decide | omega | (simp; omega) | (simp; done) | (simp [*]; omega) | (simp [*]; done) | (simp [DL.beq_ints, DL.beq_pairs, *]; done) | fail) ?_) | (refine DL.ifT (by first | assumption | decide | omega | (simp; omega) | (simp; done) | (simp [*]; omega) | (simp [*]; done) | (simp [DL.beq_ints, DL.beq_pairs, *]; done) | fail) ?_) | fail)
      exact nx _ _ ⟨j + 1, w5, k5, ps5, row5, hs5, sr5, ev5, path5, over5, turns5, _, rfl, by omega, G5, by omega, by omega, by omega, by omega, by omega, rfl, .inr rfl⟩
    · repeat (first | ((conv => whnf); refine ⟨_, rfl, ?_⟩) | ((conv => whnf); refine ⟨_, _, rfl, ?_⟩) | ((conv => whnf); refine ⟨_, _, _, rfl, ?_⟩) | ((conv => whnf); refine ⟨_, _, _, _, rfl, ?_⟩) | ((conv => whnf); refine DL.exn 0 ⟨_, rfl, ?_⟩) | ((conv => whnf); refine DL.exn 1 ⟨_, rfl, ?_⟩) | ((conv => whnf); refine DL.exn 2 ⟨_, rfl, ?_⟩) | ((conv => whnf); refine DL.exn 3 ⟨_, rfl, ?_⟩) | ((conv => whnf); refine DL.exn 4 ⟨_, rfl, ?_⟩) | ((conv => whnf); refine DL.exn 5 ⟨_, rfl, ?_⟩) | ((conv => whnf); refine DL.exn 6 ⟨_, rfl, ?_⟩) | ((conv => whnf); refine DL.exn 7 ⟨_, rfl, ?_⟩) | ((conv => whnf); refine DL.exn 0 ⟨_, _, rfl, rfl, ?_⟩) | ((conv => whnf); refine DL.exn 1 ⟨_, _, rfl, rfl, ?_⟩) | ((conv => whnf); refine DL.exn 2 ⟨_, _, rfl, rfl, ?_⟩) | ((conv => whnf); refine DL.exn 3 ⟨_, _, rfl, rfl, ?_⟩) | ((conv => whnf); refine DL.exn 4 ⟨_, _, rfl, rfl, ?_⟩) | ((conv => whnf); refine DL.exn 5 ⟨_, _, rfl, rfl, ?_⟩) | ((conv => whnf); refine DL.exn 6 ⟨_, _, rfl, rfl, ?_⟩) | ((conv => whnf); refine DL.exn 7 ⟨_, _, rfl, rfl, ?_⟩) | ((conv => whnf); refine DL.exn 0 ⟨_, _, rfl, ?_⟩) | ((conv => whnf); refine DL.exn 1 ⟨_, _, rfl, ?_⟩) | ((conv => whnf); refine DL.exn 2 ⟨_, _, rfl, ?_⟩) | ((conv => whnf); refine DL.exn 3 ⟨_, _, rfl, ?_⟩) | ((conv => whnf); refine DL.exn 4 ⟨_, _, rfl, ?_⟩) | ((conv => whnf); refine DL.exn 5 ⟨_, _, rfl, ?_⟩) | ((conv => whnf); refine DL.exn 6 ⟨_, _, rfl, ?_⟩) | ((conv => whnf); refine DL.exn 7 ⟨_, _, rfl, ?_⟩) | ((conv => whnf); refine DL.exn 0 ⟨_, _, _, rfl, rfl, ?_⟩) | ((conv => whnf); refine DL.exn 1 ⟨_, _, _, rfl, rfl, ?_⟩) | ((conv => whnf); refine DL.exn 2 ⟨_, _, _, rfl, rfl, ?_⟩) | ((conv => whnf); refine DL.exn 3 ⟨_, _, _, rfl, rfl, ?_⟩) | ((conv => whnf); refine DL.exn 4 ⟨_, _, _, rfl, rfl, ?_⟩) | ((conv => whnf); refine DL.exn 5 ⟨_, _, _, rfl, rfl, ?_⟩) | ((conv => whnf); refine DL.exn 6 ⟨_, _, _, rfl, rfl, ?_⟩) | ((conv => whnf); refine DL.exn 7 ⟨_, _, _, rfl, rfl, ?_⟩) | ((conv => whnf); refine Or.inl ⟨by decide, by decide, ?_⟩) | ((conv => whnf); refine Or.inr ⟨_, rfl, by decide, ?_⟩) | ((conv => whnf); refine And.intro (by first | assumption | rfl | decide | omega | exact ⟨rfl, by decide⟩ | exact DL.pl_ints | exact DL.pl_pairs | exact DL.pl_pair | exact Nat.le_of_ble_eq_true rfl | exact ⟨rfl, rfl⟩ | exact small_ok (by omega) (by omega) | exact ⟨small_ok (by omega) (by omega), small_ok (by omega) (by omega)⟩ | exact cdiv_ok (by omega) (by omega) | exact cmul_ok (by omega) (by omega) (by omega) (by omega) | exact cpow_ok (by omega) (by omega) (by omega) (by omega) | decide +kernel) ?_) | (refine DL.ifF (by first | assumption | decide | omega | (simp; omega) | (simp; done) | (simp [*]; omega) | (simp [*]; done) | (simp [DL.beq_ints, DL.beq_pairs, *]; done) | fail) ?_) | (refine DL.ifT (by first | assumption | decide | omega | (simp; omega) | (simp; done) | (simp [*]; omega) | (simp [*]; done) | (simp [DL.beq_ints, DL.beq_pairs, *]; done) | fail) ?_) | fail)
      (conv => whnf)
      refine ⟨[5, 0, 0, 0, 0, 0], (a, wl w' c k') :: (tb K t cc n ps' row' (path.length : Nat) hs' ++ mm m pa ov row' sr' ev path over turns), [], rfl, a, w', c, k', t, cc, m, pa, ov, n, row, hs0 row, ps', row', hs', sr', ev, path, over, turns, rfl, rfl, by omega, by omega, G', by omega, by omega, by omega, fun w5 k5 ps5 row5 hs5 sr5 ev5 path5 over5 turns5 hk9 hk10 G5 l1 l2 l3 => ?_⟩
      repeat (first | ((conv => whnf); refine ⟨_, rfl, ?_⟩) | ((conv => whnf); refine ⟨_, _, rfl, ?_⟩) | ((conv => whnf); refine ⟨_, _, _, rfl, ?_⟩) | ((conv => whnf); refine ⟨_, _, _, _, rfl, ?_⟩) | ((conv => whnf); refine DL.exn 0 ⟨_, rfl, ?_⟩) | ((conv => whnf); refine DL.exn 1 ⟨_, rfl, ?_⟩) | ((conv => whnf); refine DL.exn 2 ⟨_, rfl, ?_⟩) | ((conv => whnf); refine DL.exn 3 ⟨_, rfl, ?_⟩) | ((conv => whnf); refine DL.exn 4 ⟨_, rfl, ?_⟩) | ((conv => whnf); refine DL.exn 5 ⟨_, rfl, ?_⟩) | ((conv => whnf); refine DL.exn 6 ⟨_, rfl, ?_⟩) | ((conv => whnf); refine DL.exn 7 ⟨_, rfl, ?_⟩) | ((conv => whnf); refine DL.exn 0 ⟨_, _, rfl, rfl, ?_⟩) | ((conv => whnf); refine DL.exn 1 ⟨_, _, rfl, rfl, ?_⟩) | ((conv => whnf); refine DL.exn 2 ⟨_, _, rfl, rfl, ?_⟩) | ((conv => whnf); refine DL.exn 3 ⟨_, _, rfl, rfl, ?_⟩) | ((conv => whnf); refine DL.exn 4 ⟨_, _, rfl, rfl, ?_⟩) | ((conv => whnf); refine DL.exn 5 ⟨_, _, rfl, rfl, ?_⟩) | ((conv => whnf); refine DL.exn 6 ⟨_, _, rfl, rfl, ?_⟩) | ((conv => whnf); refine DL.exn 7 ⟨_, _, rfl, rfl, ?_⟩) | ((conv => whnf); refine DL.exn 0 ⟨_, _, rfl, ?_⟩) | ((conv => whnf); refine DL.exn 1 ⟨_, _, rfl, ?_⟩) | ((conv => whnf); refine DL.exn 2 ⟨_, _, rfl, ?_⟩) | ((conv => whnf); refine DL.exn 3 ⟨_, _, rfl, ?_⟩) | ((conv => whnf); refine DL.exn 4 ⟨_, _, rfl, ?_⟩) | ((conv => whnf); refine DL.exn 5 ⟨_, _, rfl, ?_⟩) | ((conv => whnf); refine DL.exn 6 ⟨_, _, rfl, ?_⟩) | ((conv => whnf); refine DL.exn 7 ⟨_, _, rfl, ?_⟩) | ((conv => whnf); refine DL.exn 0 ⟨_, _, _, rfl, rfl, ?_⟩) | ((conv => whnf); refine DL.exn 1 ⟨_, _, _, rfl, rfl, ?_⟩) | ((conv => whnf); refine DL.exn 2 ⟨_, _, _, rfl, rfl, ?_⟩) | ((conv => whnf); refine DL.exn 3 ⟨_, _, _, rfl, rfl, ?_⟩) | ((conv => whnf); refine DL.exn 4 ⟨_, _, _, rfl, rfl, ?_⟩) | ((conv => whnf); refine DL.exn 5 ⟨_, _, _, rfl, rfl, ?_⟩) | ((conv => whnf); refine DL.exn 6 ⟨_, _, _, rfl, rfl, ?_⟩) | ((conv => whnf); refine DL.exn 7 ⟨_, _, _, rfl, rfl, ?_⟩) | ((conv => whnf); refine Or.inl ⟨by decide, by decide, ?_⟩) | ((conv => whnf); refine Or.inr ⟨_, rfl, by decide, ?_⟩) | ((conv => whnf); refine And.intro (by first | assumption | rfl | decide | omega | exact ⟨rfl, by decide⟩ | exact DL.pl_ints | exact DL.pl_pairs | exact DL.pl_pair | exact Nat.le_of_ble_eq_true rfl | exact ⟨rfl, rfl⟩ | exact small_ok (by omega) (by omega) | exact ⟨small_ok (by omega) (by omega), small_ok (by omega) (by omega)⟩ | exact cdiv_ok (by omega) (by omega) | exact cmul_ok (by omega) (by omega) (by omega) (by omega) | exact cpow_ok (by omega) (by omega) (by omega) (by omega) | decide +kernel) ?_) | (refine DL.ifF (by first | assumption | decide | omega | (simp; omega) | (simp; done) | (simp [*]; omega) | (simp [*]; done) | (simp [DL.beq_ints, DL.beq_pairs, *]; done) | fail) ?_) | (refine DL.ifT (by first | assumption | decide | omega | (simp; omega) | (simp; done) | (simp [*]; omega) | (simp [*]; done) | (simp [DL.beq_ints, DL.beq_pairs, *]; done) | fail) ?_) | fail)
      (conv => whnf)
      refine ⟨[1, 1, 1, 1, 1], tb K t cc n ps5 row5 (path5.length : Nat) hs5 ++ mm m pa ov row5 sr5 ev5 path5 over5 turns5, [(a, wl w5 c k5)], rfl, t, cc, m, pa, ov, n, row, hs0 row, ps5, row5, hs5, sr5, ev5, path5, over5, turns5, rfl, rfl, G5, by omega, by omega, ?_⟩
      repeat (first | ((conv => whnf); refine ⟨_, rfl, ?_⟩) | ((conv => whnf); refine ⟨_, _, rfl, ?_⟩) | ((conv => whnf); refine ⟨_, _, _, rfl, ?_⟩) | ((conv => whnf); refine ⟨_, _, _, _, rfl, ?_⟩) | ((conv => whnf); refine DL.exn 0 ⟨_, rfl, ?_⟩) | ((conv => whnf); refine DL.exn 1 ⟨_, rfl, ?_⟩) | ((conv => whnf); refine DL.exn 2 ⟨_, rfl, ?_⟩) | ((conv => whnf); refine DL.exn 3 ⟨_, rfl, ?_⟩) | ((conv => whnf); refine DL.exn 4 ⟨_, rfl, ?_⟩) | ((conv => whnf); refine DL.exn 5 ⟨_, rfl, ?_⟩) | ((conv => whnf); refine DL.exn 6 ⟨_, rfl, ?_⟩) | ((conv => whnf); refine DL.exn 7 ⟨_, rfl, ?_⟩) | ((conv => whnf); refine DL.exn 0 ⟨_, _, rfl, rfl, ?_⟩) | ((conv => whnf); refine DL.exn 1 ⟨_, _, rfl, rfl, ?_⟩) | ((conv => whnf); refine DL.exn 2 ⟨_, _, rfl, rfl, ?_⟩) | ((conv => whnf); refine DL.exn 3 ⟨_, _, rfl, rfl, ?_⟩) | ((conv => whnf); refine DL.exn 4 ⟨_, _, rfl, rfl, ?_⟩) | ((conv => whnf); refine DL.exn 5 ⟨_, _, rfl, rfl, ?_⟩) | ((conv => whnf); refine DL.exn 6 ⟨_, _, rfl, rfl, ?_⟩) | ((conv => whnf); refine DL.exn 7 ⟨_, _, rfl, rfl, ?_⟩) | ((conv => whnf); refine DL.exn 0 ⟨_, _, rfl, ?_⟩) | ((conv => whnf); refine DL.exn 1 ⟨_, _, rfl, ?_⟩) | ((conv => whnf); refine DL.exn 2 ⟨_, _, rfl, ?_⟩) | ((conv => whnf); refine DL.exn 3 ⟨_, _, rfl, ?_⟩) | ((conv => whnf); refine DL.exn 4 ⟨_, _, rfl, ?_⟩) | ((conv => whnf); refine DL.exn 5 ⟨_, _, rfl, ?_⟩) | ((conv => whnf); refine DL.exn 6 ⟨_, _, rfl, ?_⟩) | ((conv => whnf); refine DL.exn 7 ⟨_, _, rfl, ?_⟩) | ((conv => whnf); refine DL.exn 0 ⟨_, _, _, rfl, rfl, ?_⟩) | ((conv => whnf); refine DL.exn 1 ⟨_, _, _, rfl, rfl, ?_⟩) | ((conv => whnf); refine DL.exn 2 ⟨_, _, _, rfl, rfl, ?_⟩) | ((conv => whnf); refine DL.exn 3 ⟨_, _, _, rfl, rfl, ?_⟩) | ((conv => whnf); refine DL.exn 4 ⟨_, _, _, rfl, rfl, ?_⟩) | ((conv => whnf); refine DL.exn 5 ⟨_, _, _, rfl, rfl, ?_⟩) | ((conv => whnf); refine DL.exn 6 ⟨_, _, _, rfl, rfl, ?_⟩) | ((conv => whnf); refine DL.exn 7 ⟨_, _, _, rfl, rfl, ?_⟩) | ((conv => whnf); refine Or.inl ⟨by decide, by decide, ?_⟩) | ((conv => whnf); refine Or.inr ⟨_, rfl, by decide, ?_⟩) | ((conv => whnf); refine And.intro (by first | assumption | rfl | decide | omega | exact ⟨rfl, by decide⟩ | exact DL.pl_ints | exact DL.pl_pairs | exact DL.pl_pair | exact Nat.le_of_ble_eq_true rfl | exact ⟨rfl, rfl⟩ | exact small_ok (by omega) (by omega) | exact ⟨small_ok (by omega) (by omega), small_ok (by omega) (by omega)⟩ | exact cdiv_ok (by omega) (by omega) | exact cmul_ok (by omega) (by omega) (by omega) (by omega) | exact cpow_ok (by omega) (by omega) (by omega) (by omega) | decide +kernel) ?_) | (refine DL.ifF (by first | assumption | decide | omega | (simp; omega) | (simp; done) | (simp [*]; omega) | (simp [*]; done) | (simp [DL.beq_ints, DL.beq_pairs, *]; done) | fail) ?_) | (refine DL.ifT (by first | assumption | decide | omega | (simp; omega) | (simp; done) | (simp [*]; omega) | (simp [*]; done) | (simp [DL.beq_ints, DL.beq_pairs, *]; done) | fail) ?_) | fail)
      exact nx _ _ ⟨j + 1, w5, k5, ps5, row5, hs5, sr5, ev5, path5, over5, turns5, _, rfl, by omega, G5, by omega, by omega, by omega, by omega, by omega, rfl, .inr rfl⟩
end Nk66

set_option Elab.async false
set_option linter.all false
set_option maxRecDepth 100000
set_option maxHeartbeats 4000000
namespace Nk66
open PySem PySem.Spec L2 DL
theorem cut_il {ns : List Int} {lo hi : Option Int} : ∃ ms : List Int, cutD (ns.map D.int) lo hi = IL ms ∧ ms.length ≤ ns.length := by
  unfold cutD
  refine ⟨(ns.drop (HT.sIx (ns.map D.int).length 0 lo)).take (HT.sIx (ns.map D.int).length (ns.map D.int).length hi - HT.sIx (ns.map D.int).length 0 lo), by rw [← List.map_drop, ← List.map_take], ?_⟩
  rw [List.length_take, List.length_drop]
  omega
theorem law_loop {K : PySem.W.Frag} {Z : XEnds} {d0 : D} {ns : List Int} (hz : ∀ x, Z.nx [some d0, x] []) :
    xLoop (xgName 1) (xIfS (xNot (xTru (xCall (sp_g_right K) [] (xCons (xCallP (sp_g_well K) [] (xCons (xVar 1) xNil)) xNil)))) (xRet (xC (.bl false))) xNext) Z (IL ns) [some d0, none] [] := by
  refine loop_ind (fun its ds M => ∃ (ms : List Int) (x : Option D), its = IL ms ∧ ds = [some d0, x] ∧ M = []) ?_ ?_ ⟨ns, none, rfl, rfl, rfl⟩
  · rintro _ _ ⟨ms, x, e, rfl, rfl⟩
    exact hz x
  · rintro d r _ _ NX ⟨ms, x, e, rfl, rfl⟩ nx
    cases ms with
    | nil => cases e
    | cons c ms =>
      cases e
      repeat (first | ((conv => whnf); refine ⟨_, rfl, ?_⟩) | ((conv => whnf); refine ⟨_, _, rfl, ?_⟩) | ((conv => whnf); refine ⟨_, _, _, rfl, ?_⟩) | ((conv => whnf); refine ⟨_, _, _, _, rfl, ?_⟩) | ((conv => whnf); refine DL.exn 0 ⟨_, rfl, ?_⟩) | ((conv => whnf); refine DL.exn 1 ⟨_, rfl, ?_⟩) | ((conv => whnf); refine DL.exn 2 ⟨_, rfl, ?_⟩) | ((conv => whnf); refine DL.exn 3 ⟨_, rfl, ?_⟩) | ((conv => whnf); refine DL.exn 4 ⟨_, rfl, ?_⟩) | ((conv => whnf); refine DL.exn 5 ⟨_, rfl, ?_⟩) | ((conv => whnf); refine DL.exn 6 ⟨_, rfl, ?_⟩) | ((conv => whnf); refine DL.exn 7 ⟨_, rfl, ?_⟩) | ((conv => whnf); refine DL.exn 0 ⟨_, _, rfl, rfl, ?_⟩) | ((conv => whnf); refine DL.exn 1 ⟨_, _, rfl, rfl, ?_⟩) | ((conv => whnf); refine DL.exn 2 ⟨_, _, rfl, rfl, ?_⟩) | ((conv => whnf); refine DL.exn 3 ⟨_, _, rfl, rfl, ?_⟩) | ((conv => whnf); refine DL.exn 4 ⟨_, _, rfl, rfl, ?_⟩) | ((conv => whnf); refine DL.exn 5 ⟨_, _, rfl, rfl, ?_⟩) | ((conv => whnf); refine DL.exn 6 ⟨_, _, rfl, rfl, ?_⟩) | ((conv => whnf); refine DL.exn 7 ⟨_, _, rfl, rfl, ?_⟩) | ((conv => whnf); refine DL.exn 0 ⟨_, _, rfl, ?_⟩) | ((conv => whnf); refine DL.exn 1 ⟨_, _, rfl, ?_⟩) | ((conv => whnf); refine DL.exn 2 ⟨_, _, rfl, ?_⟩) | ((conv => whnf); refine DL.exn 3 ⟨_, _, rfl, ?_⟩) | ((conv => whnf); refine DL.exn 4 ⟨_, _, rfl, ?_⟩) | ((conv => whnf); refine DL.exn 5 ⟨_, _, rfl, ?_⟩) | ((conv => whnf); refine DL.exn 6 ⟨_, _, rfl, ?_⟩) | ((conv => whnf); refine DL.exn 7 ⟨_, _, rfl, ?_⟩) | ((conv => whnf); refine DL.exn 0 ⟨_, _, _, rfl, rfl, ?_⟩) | ((conv => whnf); refine DL.exn 1 ⟨_, _, _, rfl, rfl, ?_⟩) | ((conv => whnf); refine DL.exn 2 ⟨_, _, _, rfl, rfl, ?_⟩) | ((conv => whnf); refine DL.exn 3 ⟨_, _, _, rfl, rfl, ?_⟩) | ((conv => whnf); refine DL.exn 4 ⟨_, _, _, rfl, rfl, ?_⟩) | ((conv => whnf); refine DL.exn 5 ⟨_, _, _, rfl, rfl, ?_⟩) | ((conv => whnf); refine DL.exn 6 ⟨_, _, _, rfl, rfl, ?_⟩) | ((conv => whnf); refine DL.exn 7 ⟨_, _, _, rfl, rfl, ?_⟩) | ((conv => whnf); refine Or.inl ⟨by decide, by decide, ?_⟩) | ((conv => whnf); refine Or.inr ⟨_, rfl, by decide, ?_⟩) | ((conv => whnf); refine And.intro (by first | assumption | rfl | decide | omega | exact ⟨rfl, by decide⟩ | exact DL.pl_ints | exact DL.pl_pairs | exact DL.pl_pair | exact Nat.le_of_ble_eq_true rfl | exact ⟨rfl, rfl⟩ | exact small_ok (by omega) (by omega) | exact ⟨small_ok (by omega) (by omega), small_ok (by omega) (by omega)⟩ | exact cdiv_ok (by omega) (by omega) | exact cmul_ok (by omega) (by omega) (by omega) (by omega) | exact cpow_ok (by omega) (by omega) (by omega) (by omega) | decide +kernel) ?_) | (refine DL.ifF (by first | assumption | decide | omega | (simp; omega) | (simp; done) | (simp [*]; omega) | (simp [*]; done) | (simp [DL.beq_ints, DL.beq_pairs, *]; done) | fail) ?_) | (refine DL.ifT (by first | assumption | decide | omega | (simp; omega) | (simp; done) | (simp [*]; omega) | (simp [*]; done) | (simp [DL.beq_ints, DL.beq_pairs, *]; done) | fail) ?_) | fail)
      intro a
      repeat (first | ((conv => whnf); refine ⟨_, rfl, ?_⟩) | ((conv => whnf); refine ⟨_, _, rfl, ?_⟩) | ((conv => whnf); refine ⟨_, _, _, rfl, ?_⟩) | ((conv => whnf); refine ⟨_, _, _, _, rfl, ?_⟩) | ((conv => whnf); refine DL.exn 0 ⟨_, rfl, ?_⟩) | ((conv => whnf); refine DL.exn 1 ⟨_, rfl, ?_⟩) | ((conv => whnf); refine DL.exn 2 ⟨_, rfl, ?_⟩) | ((conv => whnf); refine DL.exn 3 ⟨_, rfl, ?_⟩) | ((conv => whnf); refine DL.exn 4 ⟨_, rfl, ?_⟩) | ((conv => whnf); refine DL.exn 5 ⟨_, rfl, ?_⟩) | ((conv => whnf); refine DL.exn 6 ⟨_, rfl, ?_⟩) | ((conv => whnf); refine DL.exn 7 ⟨_, rfl, ?_⟩) | ((conv => whnf); refine DL.exn 0 ⟨_, _, rfl, rfl, ?_⟩) | ((conv => whnf); refine DL.exn 1 ⟨_, _, rfl, rfl, ?_⟩) | ((conv => whnf); refine DL.exn 2 ⟨_, _, rfl, rfl, ?_⟩) | ((conv => whnf); refine DL.exn 3 ⟨_, _, rfl, rfl, ?_⟩) | ((conv => whnf); refine DL.exn 4 ⟨_, _, rfl, rfl, ?_⟩) | ((conv => whnf); refine DL.exn 5 ⟨_, _, rfl, rfl, ?_⟩) | ((conv => whnf); refine DL.exn 6 ⟨_, _, rfl, rfl, ?_⟩) | ((conv => whnf); refine DL.exn 7 ⟨_, _, rfl, rfl, ?_⟩) | ((conv => whnf); refine DL.exn 0 ⟨_, _, rfl, ?_⟩) | ((conv => whnf); refine DL.exn 1 ⟨_, _, rfl, ?_⟩) | ((conv => whnf); refine DL.exn 2 ⟨_, _, rfl, ?_⟩) | ((conv => whnf); refine DL.exn 3 ⟨_, _, rfl, ?_⟩) | ((conv => whnf); refine DL.exn 4 ⟨_, _, rfl, ?_⟩) | ((conv => whnf); refine DL.exn 5 ⟨_, _, rfl, ?_⟩) | ((conv => whnf); refine DL.exn 6 ⟨_, _, rfl, ?_⟩) | ((conv => whnf); refine DL.exn 7 ⟨_, _, rfl, ?_⟩) | ((conv => whnf); refine DL.exn 0 ⟨_, _, _, rfl, rfl, ?_⟩) | ((conv => whnf); refine DL.exn 1 ⟨_, _, _, rfl, rfl, ?_⟩) | ((conv => whnf); refine DL.exn 2 ⟨_, _, _, rfl, rfl, ?_⟩) | ((conv => whnf); refine DL.exn 3 ⟨_, _, _, rfl, rfl, ?_⟩) | ((conv => whnf); refine DL.exn 4 ⟨_, _, _, rfl, rfl, ?_⟩) | ((conv => whnf); refine DL.exn 5 ⟨_, _, _, rfl, rfl, ?_⟩) | ((conv => whnf); refine DL.exn 6 ⟨_, _, _, rfl, rfl, ?_⟩) | ((conv => whnf); refine DL.exn 7 ⟨_, _, _, rfl, rfl, ?_⟩) | ((conv => whnf); refine Or.inl ⟨by decide, by decide, ?_⟩) | ((conv => whnf); refine Or.inr ⟨_, rfl, by decide, ?_⟩) | ((conv => whnf); refine And.intro (by first | assumption | rfl | decide | omega | exact ⟨rfl, by decide⟩ | exact DL.pl_ints | exact DL.pl_pairs | exact DL.pl_pair | exact Nat.le_of_ble_eq_true rfl | exact ⟨rfl, rfl⟩ | exact small_ok (by omega) (by omega) | exact ⟨small_ok (by omega) (by omega), small_ok (by omega) (by omega)⟩ | exact cdiv_ok (by omega) (by omega) | exact cmul_ok (by omega) (by omega) (by omega) (by omega) | exact cpow_ok (by omega) (by omega) (by omega) (by omega) | decide +kernel) ?_) | (refine DL.ifF (by first | assumption | decide | omega | (simp; omega) | (simp; done) | (simp [*]; omega) | (simp [*]; done) | (simp [DL.beq_ints, DL.beq_pairs, *]; done) | fail) ?_) | (refine DL.ifT (by first | assumption | decide | omega | (simp; omega) | (simp; done) | (simp [*]; omega) | (simp [*]; done) | (simp [DL.beq_ints, DL.beq_pairs, *]; done) | fail) ?_) | fail)
      (conv => whnf)
      refine ⟨[0], [(a, wl c c 0)], [], rfl, a, c, c, 0, rfl, rfl, by omega, by omega, ?_⟩
      repeat (first | ((conv => whnf); refine ⟨_, rfl, ?_⟩) | ((conv => whnf); refine ⟨_, _, rfl, ?_⟩) | ((conv => whnf); refine ⟨_, _, _, rfl, ?_⟩) | ((conv => whnf); refine ⟨_, _, _, _, rfl, ?_⟩) | ((conv => whnf); refine DL.exn 0 ⟨_, rfl, ?_⟩) | ((conv => whnf); refine DL.exn 1 ⟨_, rfl, ?_⟩) | ((conv => whnf); refine DL.exn 2 ⟨_, rfl, ?_⟩) | ((conv => whnf); refine DL.exn 3 ⟨_, rfl, ?_⟩) | ((conv => whnf); refine DL.exn 4 ⟨_, rfl, ?_⟩) | ((conv => whnf); refine DL.exn 5 ⟨_, rfl, ?_⟩) | ((conv => whnf); refine DL.exn 6 ⟨_, rfl, ?_⟩) | ((conv => whnf); refine DL.exn 7 ⟨_, rfl, ?_⟩) | ((conv => whnf); refine DL.exn 0 ⟨_, _, rfl, rfl, ?_⟩) | ((conv => whnf); refine DL.exn 1 ⟨_, _, rfl, rfl, ?_⟩) | ((conv => whnf); refine DL.exn 2 ⟨_, _, rfl, rfl, ?_⟩) | ((conv => whnf); refine DL.exn 3 ⟨_, _, rfl, rfl, ?_⟩) | ((conv => whnf); refine DL.exn 4 ⟨_, _, rfl, rfl, ?_⟩) | ((conv => whnf); refine DL.exn 5 ⟨_, _, rfl, rfl, ?_⟩) | ((conv => whnf); refine DL.exn 6 ⟨_, _, rfl, rfl, ?_⟩) | ((conv => whnf); refine DL.exn 7 ⟨_, _, rfl, rfl, ?_⟩) | ((conv => whnf); refine DL.exn 0 ⟨_, _, rfl, ?_⟩) | ((conv => whnf); refine DL.exn 1 ⟨_, _, rfl, ?_⟩) | ((conv => whnf); refine DL.exn 2 ⟨_, _, rfl, ?_⟩) | ((conv => whnf); refine DL.exn 3 ⟨_, _, rfl, ?_⟩) | ((conv => whnf); refine DL.exn 4 ⟨_, _, rfl, ?_⟩) | ((conv => whnf); refine DL.exn 5 ⟨_, _, rfl, ?_⟩) | ((conv => whnf); refine DL.exn 6 ⟨_, _, rfl, ?_⟩) | ((conv => whnf); refine DL.exn 7 ⟨_, _, rfl, ?_⟩) | ((conv => whnf); refine DL.exn 0 ⟨_, _, _, rfl, rfl, ?_⟩) | ((conv => whnf); refine DL.exn 1 ⟨_, _, _, rfl, rfl, ?_⟩) | ((conv => whnf); refine DL.exn 2 ⟨_, _, _, rfl, rfl, ?_⟩) | ((conv => whnf); refine DL.exn 3 ⟨_, _, _, rfl, rfl, ?_⟩) | ((conv => whnf); refine DL.exn 4 ⟨_, _, _, rfl, rfl, ?_⟩) | ((conv => whnf); refine DL.exn 5 ⟨_, _, _, rfl, rfl, ?_⟩) | ((conv => whnf); refine DL.exn 6 ⟨_, _, _, rfl, rfl, ?_⟩) | ((conv => whnf); refine DL.exn 7 ⟨_, _, _, rfl, rfl, ?_⟩) | ((conv => whnf); refine Or.inl ⟨by decide, by decide, ?_⟩) | ((conv => whnf); refine Or.inr ⟨_, rfl, by decide, ?_⟩) | ((conv => whnf); refine And.intro (by first | assumption | rfl | decide | omega | exact ⟨rfl, by decide⟩ | exact DL.pl_ints | exact DL.pl_pairs | exact DL.pl_pair | exact Nat.le_of_ble_eq_true rfl | exact ⟨rfl, rfl⟩ | exact small_ok (by omega) (by omega) | exact ⟨small_ok (by omega) (by omega), small_ok (by omega) (by omega)⟩ | exact cdiv_ok (by omega) (by omega) | exact cmul_ok (by omega) (by omega) (by omega) (by omega) | exact cpow_ok (by omega) (by omega) (by omega) (by omega) | decide +kernel) ?_) | (refine DL.ifF (by first | assumption | decide | omega | (simp; omega) | (simp; done) | (simp [*]; omega) | (simp [*]; done) | (simp [DL.beq_ints, DL.beq_pairs, *]; done) | fail) ?_) | (refine DL.ifT (by first | assumption | decide | omega | (simp; omega) | (simp; done) | (simp [*]; omega) | (simp [*]; done) | (simp [DL.beq_ints, DL.beq_pairs, *]; done) | fail) ?_) | fail)
      exact nx _ _ ⟨ms, _, rfl, rfl, rfl⟩
theorem rd_f_law {K : PySem.W.Frag} : ∀ es M Q E, spLaw 63 K es M Q E → t_f_law K { nx := fun _ M => Rtn Q .non M, rt := Rtn Q } (startD nm_f_law es) M := by
  rintro _ _ Q _ ⟨ns, hn, hes, rfl, q⟩
  obtain ⟨ms, em, hm⟩ := cut_il (ns := ns) (lo := none) (hi := some 4)
  rcases hes with rfl | ⟨a, rfl, hK⟩
  · repeat (first | ((conv => whnf); refine ⟨_, rfl, ?_⟩) | ((conv => whnf); refine ⟨_, _, rfl, ?_⟩) | ((conv => whnf); refine ⟨_, _, _, rfl, ?_⟩) | ((conv => whnf); refine ⟨_, _, _, _, rfl, ?_⟩) | ((conv => whnf); refine DL.exn 0 ⟨_, rfl, ?_⟩) | ((conv => whnf); refine DL.exn 1 ⟨_, rfl, ?_⟩) | ((conv => whnf); refine DL.exn 2 ⟨_, rfl, ?_⟩) | ((conv => whnf); refine DL.exn 3 ⟨_, rfl, ?_⟩) | ((conv => whnf); refine DL.exn 4 ⟨_, rfl, ?_⟩) | ((conv => whnf); refine DL.exn 5 ⟨_, rfl, ?_⟩) | ((conv => whnf); refine DL.exn 6 ⟨_, rfl, ?_⟩) | ((conv => whnf); refine DL.exn 7 ⟨_, rfl, ?_⟩) | ((conv => whnf); refine DL.exn 0 ⟨_, _, rfl, rfl, ?_⟩) | ((conv => whnf); refine DL.exn 1 ⟨_, _, rfl, rfl, ?_⟩) | ((conv => whnf); refine DL.exn 2 ⟨_, _, rfl, rfl, ?_⟩) | ((conv => whnf); refine DL.exn 3 ⟨_, _, rfl, rfl, ?_⟩) | ((conv => whnf); refine DL.exn 4 ⟨_, _, rfl, rfl, ?_⟩) | ((conv => whnf); refine DL.exn 5 ⟨_, _, rfl, rfl, ?_⟩) | ((conv => whnf); refine DL.exn 6 ⟨_, _, rfl, rfl, ?_⟩) | ((conv => whnf); refine DL.exn 7 ⟨_, _, rfl, rfl, ?_⟩) | ((conv => whnf); refine DL.exn 0 ⟨_, _, rfl, ?_⟩) | ((conv => whnf); refine DL.exn 1 ⟨_, _, rfl, ?_⟩) | ((conv => whnf); refine DL.exn 2 ⟨_, _, rfl, ?_⟩) | ((conv => whnf); refine DL.exn 3 ⟨_, _, rfl, ?_⟩) | ((conv => whnf); refine DL.exn 4 ⟨_, _, rfl, ?_⟩) | ((conv => whnf); refine DL.exn 5 ⟨_, _, rfl, ?_⟩) | ((conv => whnf); refine DL.exn 6 ⟨_, _, rfl, ?_⟩) | ((conv => whnf); refine DL.exn 7 ⟨_, _, rfl, ?_⟩) | ((conv => whnf); refine DL.exn 0 ⟨_, _, _, rfl, rfl, ?_⟩) | ((conv => whnf); refine DL.exn 1 ⟨_, _, _, rfl, rfl, ?_⟩) | ((conv => whnf); refine DL.exn 2 ⟨_, _, _, rfl, rfl, ?_⟩) | ((conv => whnf); refine DL.exn 3 ⟨_, _, _, rfl, rfl, ?_⟩) | ((conv => whnf); refine DL.exn 4 ⟨_, _, _, rfl, rfl, ?_⟩) | ((conv => whnf); refine DL.exn 5 ⟨_, _, _, rfl, rfl, ?_⟩) | ((conv => whnf); refine DL.exn 6 ⟨_, _, _, rfl, rfl, ?_⟩) | ((conv => whnf); refine DL.exn 7 ⟨_, _, _, rfl, rfl, ?_⟩) | ((conv => whnf); refine Or.inl ⟨by decide, by decide, ?_⟩) | ((conv => whnf); refine Or.inr ⟨_, rfl, by decide, ?_⟩) | ((conv => whnf); refine And.intro (by first | assumption | rfl | decide | omega | exact ⟨rfl, by decide⟩ | exact DL.pl_ints | exact DL.pl_pairs | exact DL.pl_pair | exact Nat.le_of_ble_eq_true rfl | exact ⟨rfl, rfl⟩ | exact small_ok (by omega) (by omega) | exact ⟨small_ok (by omega) (by omega), small_ok (by omega) (by omega)⟩ | exact cdiv_ok (by omega) (by omega) | exact cmul_ok (by omega) (by omega) (by omega) (by omega) | exact cpow_ok (by omega) (by omega) (by omega) (by omega) | decide +kernel) ?_) | (refine DL.ifF (by first | assumption | decide | omega | (simp; omega) | (simp; done) | (simp [*]; omega) | (simp [*]; done) | (simp [DL.beq_ints, DL.beq_pairs, *]; done) | fail) ?_) | (refine DL.ifT (by first | assumption | decide | omega | (simp; omega) | (simp; done) | (simp [*]; omega) | (simp [*]; done) | (simp [DL.beq_ints, DL.beq_pairs, *]; done) | fail) ?_) | fail)
    rw [em]
    (conv => whnf)
    refine ⟨by show (IL ms).length + 1 ≤ 16777216; simp; omega, ?_⟩
    (conv => whnf)
    rw [show IL ms ++ [D.int 0] = IL (ms ++ [0]) by simp]
    exact law_loop fun x => rtn_all (q [])
  · (conv => whnf)
    refine ⟨ns, hK, ?_⟩
    repeat (first | ((conv => whnf); refine ⟨_, rfl, ?_⟩) | ((conv => whnf); refine ⟨_, _, rfl, ?_⟩) | ((conv => whnf); refine ⟨_, _, _, rfl, ?_⟩) | ((conv => whnf); refine ⟨_, _, _, _, rfl, ?_⟩) | ((conv => whnf); refine DL.exn 0 ⟨_, rfl, ?_⟩) | ((conv => whnf); refine DL.exn 1 ⟨_, rfl, ?_⟩) | ((conv => whnf); refine DL.exn 2 ⟨_, rfl, ?_⟩) | ((conv => whnf); refine DL.exn 3 ⟨_, rfl, ?_⟩) | ((conv => whnf); refine DL.exn 4 ⟨_, rfl, ?_⟩) | ((conv => whnf); refine DL.exn 5 ⟨_, rfl, ?_⟩) | ((conv => whnf); refine DL.exn 6 ⟨_, rfl, ?_⟩) | ((conv => whnf); refine DL.exn 7 ⟨_, rfl, ?_⟩) | ((conv => whnf); refine DL.exn 0 ⟨_, _, rfl, rfl, ?_⟩) | ((conv => whnf); refine DL.exn 1 ⟨_, _, rfl, rfl, ?_⟩) | ((conv => whnf); refine DL.exn 2 ⟨_, _, rfl, rfl, ?_⟩) | ((conv => whnf); refine DL.exn 3 ⟨_, _, rfl, rfl, ?_⟩) | ((conv => whnf); refine DL.exn 4 ⟨_, _, rfl, rfl, ?_⟩) | ((conv => whnf); refine DL.exn 5 ⟨_, _, rfl, rfl, ?_⟩) | ((conv => whnf); refine DL.exn 6 ⟨_, _, rfl, rfl, ?_⟩) | ((conv => whnf); refine DL.exn 7 ⟨_, _, rfl, rfl, ?_⟩) | ((conv => whnf); refine DL.exn 0 ⟨_, _, rfl, ?_⟩) | ((conv => whnf); refine DL.exn 1 ⟨_, _, rfl, ?_⟩) | ((conv => whnf); refine DL.exn 2 ⟨_, _, rfl, ?_⟩) | ((conv => whnf); refine DL.exn 3 ⟨_, _, rfl, ?_⟩) | ((conv => whnf); refine DL.exn 4 ⟨_, _, rfl, ?_⟩) | ((conv => whnf); refine DL.exn 5 ⟨_, _, rfl, ?_⟩) | ((conv => whnf); refine DL.exn 6 ⟨_, _, rfl, ?_⟩) | ((conv => whnf); refine DL.exn 7 ⟨_, _, rfl, ?_⟩) | ((conv => whnf); refine DL.exn 0 ⟨_, _, _, rfl, rfl, ?_⟩) | ((conv => whnf); refine DL.exn 1 ⟨_, _, _, rfl, rfl, ?_⟩) | ((conv => whnf); refine DL.exn 2 ⟨_, _, _, rfl, rfl, ?_⟩) | ((conv => whnf); refine DL.exn 3 ⟨_, _, _, rfl, rfl, ?_⟩) | ((conv => whnf); refine DL.exn 4 ⟨_, _, _, rfl, rfl, ?_⟩) | ((conv => whnf); refine DL.exn 5 ⟨_, _, _, rfl, rfl, ?_⟩) | ((conv => whnf); refine DL.exn 6 ⟨_, _, _, rfl, rfl, ?_⟩) | ((conv => whnf); refine DL.exn 7 ⟨_, _, _, rfl, rfl, ?_⟩) | ((conv => whnf); refine Or.inl ⟨by decide, by decide, ?_⟩) | ((conv => whnf); refine Or.inr ⟨_, rfl, by decide, ?_⟩) | ((conv => whnf); refine And.intro (by first | assumption | rfl | decide | omega | exact ⟨rfl, by decide⟩ | exact DL.pl_ints | exact DL.pl_pairs | exact DL.pl_pair | exact Nat.le_of_ble_eq_true rfl | exact ⟨rfl, rfl⟩ | exact small_ok (by omega) (by omega) | exact ⟨small_ok (by omega) (by omega), small_ok (by omega) (by omega)⟩ | exact cdiv_ok (by omega) (by omega) | exact cmul_ok (by omega) (by omega) (by omega) (by omega) | exact cpow_ok (by omega) (by omega) (by omega) (by omega) | decide +kernel) ?_) | (refine DL.ifF (by first | assumption | decide | omega | (simp; omega) | (simp; done) | (simp [*]; omega) | (simp [*]; done) | (simp [DL.beq_ints, DL.beq_pairs, *]; done) | fail) ?_) | (refine DL.ifT (by first | assumption | decide | omega | (simp; omega) | (simp; done) | (simp [*]; omega) | (simp [*]; done) | (simp [DL.beq_ints, DL.beq_pairs, *]; done) | fail) ?_) | fail)
    rw [em]
    (conv => whnf)
    refine ⟨by show (IL ms).length + 1 ≤ 16777216; simp; omega, ?_⟩
    (conv => whnf)
    rw [show IL ms ++ [D.int 0] = IL (ms ++ [0]) by simp]
    exact law_loop fun x => rtn_all (q [])
end Nk66

set_option Elab.async false
set_option linter.all false
set_option maxRecDepth 100000
set_option maxHeartbeats 4000000
namespace Nk66
open PySem PySem.Spec L2 DL
section
variable {P : Program} {w : World} {K : PySem.W.Frag} {mg : Str → Option Value} {base : Heap}
theorem ok_g_mixed (T : Tx fa fn K mg) : Fd P w K mg base 1 (He.ga K "_law_mixed") pa_g_mixed (sp_g_mixed K) := by
  refine fd_ok (t := t_g_mixed K) (T.def_ 0) sc_g_mixed len_g_mixed (fun _ _ _ _ _ _ us hl => match us, hl with | [_, _], _ => rfl) (fun cdv A outer s H E hr => ?_) rd_g_mixed
  have nd : (nm_g_mixed).Nodup := by decide +kernel
  have hu := hu_1 hr
  have hu64 := hu_64 hr
  have hu65 := hu_65 hr
  exact (dss_cons (ds_set (i := 2) nd (de_op op_mod sim_I (de_op op_pow sim_I (de_op or_add sim_add (de_op or_add sim_add (de_op op_mod sim_I (vv 0) de_int) (de_op or_mul sim_mul de_int (vv 1))) de_int) de_int) de_int))
    (dss_cons (ds_set (i := 2) nd (de_op op_mod sim_I (de_op or_add sim_add (vv 2) (de_op or_mul sim_mul (de_op op_mod sim_I (de_op op_fdivW sim_I (vv 0) de_int) de_int) (de_op or_add sim_add (vv 1) de_int))) de_int))
    (dss_cons (ds_set (i := 2) nd (de_op op_mod sim_I (de_op or_mul sim_mul (vv 2) (de_op or_add sim_add (de_op or_add sim_add (de_op op_fdivW sim_I (vv 2) de_int) de_int) (vv 1))) de_int))
    (dss_one (ds_ret (de_op op_mod sim_I (de_op or_mul sim_mul (vv 2) (de_op or_add sim_add (de_op op_fdivW sim_I (vv 2) de_int) de_int)) de_int))))))
theorem ok_g_draw (T : Tx fa fn K mg) : Fd P w K mg base 2 (He.ga K "_law_draw") pa_g_draw (sp_g_draw K) := by
  refine fd_ok (t := t_g_draw K) (T.def_ 1) sc_g_draw len_g_draw (fun _ _ _ _ _ _ us hl => match us, hl with | [_, _], _ => rfl) (fun cdv A outer s H E hr => ?_) rd_g_draw
  have nd : (nm_g_draw).Nodup := by decide +kernel
  have hu := hu_1 hr
  have hu64 := hu_64 hr
  have hu65 := hu_65 hr
  exact (dss_cons (ds_if (dt_cmp op_ge sim_B0 (de_ix (vv 0) de_int) (de_op op_pow sim_I de_int de_int)) (dss_cons (ds_set (i := 2) nd (de_op op_mod sim_I (de_ix (vv 0) de_int) (vv 1)))
    (dss_cons (ds_asg (de_op op_fdivW sim_I (de_ix (vv 0) de_int) (vv 1)) (dg_sub set_list sim_setL (vv 0) de_int))
    (dss_one (ds_ret (vv 2))))) dss_nil)
    (dss_cons (ds_asg (de_op or_add sim_add (de_ix (vv 0) de_int) de_int) (dg_sub set_list sim_setL (vv 0) de_int))
    (dss_one (ds_ret (de_op op_mod sim_I (de_fnP (ok_g_mixed T) (hr.mono (by decide)) (T.glo 26) (da_cons (de_ix (vv 0) de_int) (da_cons (de_ix (vv 0) de_int) da_nil))) (vv 1))))))
theorem ok_g_shuffled (T : Tx fa fn K mg) : Fd P w K mg base 3 (He.ga K "_law_shuffled") pa_g_shuffled (sp_g_shuffled K) := by
  refine fd_ok (t := t_g_shuffled K) (T.def_ 2) sc_g_shuffled len_g_shuffled (fun _ _ _ _ _ _ us hl => match us, hl with | [_, _], _ => rfl) (fun cdv A outer s H E hr => ?_) rd_g_shuffled
  have nd : (nm_g_shuffled).Nodup := by decide +kernel
  have hu := hu_1 hr
  have hu64 := hu_64 hr
  have hu65 := hu_65 hr
  exact (dss_cons (ds_set (i := 2) nd (de_ct call_list_of sim_listM (T.free 4) (by decide +kernel) (da_cons (vv 1) da_nil)))
    (dss_cons (ds_set (i := 3) nd (de_lstM da_nil))
    (dss_cons (ds_while PassesOwn.never (dt_cmp (op_neD hu64) sim_neA (vv 2) (de_lst da_nil)) (dss_one (ds_expr (de_ml PySem.F.slot_list_append PySem.F.type_list_append mt_append sim_append (vv 3) (da_cons (de_ml PySem.F.slot_list_pop PySem.F.type_list_pop mt_popAtN sim_popAt (vv 2) (da_cons (de_fn (ok_g_draw T) (hr.mono (by decide)) (T.glo 2) (da_cons (vv 0) (da_cons (de_cb (call_len) sim_len (T.free 24) PySem.boot_len (da_cons (vv 2) da_nil)) da_nil))) da_nil)) da_nil)))))
    (dss_one (ds_ret (de_fz (vv 3)))))))
theorem ok_g_pairs (T : Tx fa fn K mg) : Fd P w K mg base 1 (He.ga K "_law_pairs") pa_g_pairs (sp_g_pairs K) := by
  refine fd_ok (t := t_g_pairs K) (T.def_ 3) sc_g_pairs len_g_pairs (fun _ _ _ _ _ _ us hl => match us, hl with | [_], _ => rfl) (fun cdv A outer s H E hr => ?_) rd_g_pairs
  have nd : (nm_g_pairs).Nodup := by decide +kernel
  have hu := hu_1 hr
  have hu64 := hu_64 hr
  have hu65 := hu_65 hr
  exact (dss_cons (ds_set (i := 1) nd (de_lst da_nil))
    (dss_cons (ds_for PassesOwn.never rfl (di_r2 (T.free 5) de_int (de_op or_add sim_add (vv 0) de_int)) (dg_name nd rfl (by first | exact Or.inl rfl | exact Or.inr rfl)) (dss_one (ds_set (i := 1) nd (de_op or_add sim_add (vv 1) (de_lc (own := [(("_law_q" : Str), 3)]) nd (di_r2 (T.free 5) (de_op or_add sim_add (vv 2) de_int) (de_op or_add sim_add (vv 0) de_int)) (blkOk_by (N := nm_g_pairs) (sc := defScope s_g_pairs) (by decide +kernel)) (fun _ _ _ _ _ => by exact (dgc_name nd rfl (by first | exact Or.inl rfl | exact Or.inr rfl) (by decide))) (fun _ _ _ _ _ => dts_nil) (fun _ _ _ _ _ => (de_tup (da_cons (vv 2) (da_cons (vv 3) da_nil)))))))))
    (dss_one (ds_ret (vv 1)))))
theorem ok_g_ring (T : Tx fa fn K mg) : Fd P w K mg base 1 (He.ga K "_law_ring") pa_g_ring (sp_g_ring K) := by
  refine fd_ok (t := t_g_ring K) (T.def_ 4) sc_g_ring len_g_ring (fun _ _ _ _ _ _ us hl => match us, hl with | [_], _ => rfl) (fun cdv A outer s H E hr => ?_) rd_g_ring
  have nd : (nm_g_ring).Nodup := by decide +kernel
  have hu := hu_1 hr
  have hu64 := hu_64 hr
  have hu65 := hu_65 hr
  exact (dss_cons (ds_set (i := 1) nd (de_lstM da_nil))
    (dss_cons (ds_for PassesOwn.never rfl (di_r1 (T.free 5) (de_cb (call_len) sim_len (T.free 24) PySem.boot_len (da_cons (vv 0) da_nil))) (dg_name nd rfl (by first | exact Or.inl rfl | exact Or.inr rfl)) (dss_cons (ds_par (i := 3) (j := 4) rfl nd (by decide) (da_cons (de_ix (vv 0) (vv 2)) (da_cons (de_ix (vv 0) (de_op op_mod sim_I (de_op or_add sim_add (vv 2) de_int) (de_cb (call_len) sim_len (T.free 24) PySem.boot_len (da_cons (vv 0) da_nil)))) da_nil)))
    (dss_one (ds_expr (de_ml PySem.F.slot_list_append PySem.F.type_list_append mt_append sim_append (vv 1) (da_cons (de_tup (da_cons (de_cb (call_min2 rfl) sim_C2 (T.free 29) (by decide +kernel) (da_cons (vv 3) (da_cons (vv 4) da_nil))) (da_cons (de_cb (call_max2 rfl) sim_C2 (T.free 28) (by decide +kernel) (da_cons (vv 3) (da_cons (vv 4) da_nil))) da_nil))) da_nil))))))
    (dss_one (ds_ret (de_fz (vv 1))))))
theorem ok_g_strange (T : Tx fa fn K mg) : Fd P w K mg base 4 (He.ga K "_law_strange") pa_g_strange (sp_g_strange K) := by
  refine fd_ok (t := t_g_strange K) (T.def_ 5) sc_g_strange len_g_strange (fun _ _ _ _ _ _ us hl => match us, hl with | [_, _], _ => rfl) (fun cdv A outer s H E hr => ?_) rd_g_strange
  have nd : (nm_g_strange).Nodup := by decide +kernel
  have hu := hu_1 hr
  have hu64 := hu_64 hr
  have hu65 := hu_65 hr
  exact (dss_cons (ds_set (i := 2) nd (de_fn (ok_g_draw T) (hr.mono (by decide)) (T.glo 2) (da_cons (vv 0) (da_cons de_int da_nil))))
    (dss_cons (ds_set (i := 3) nd (de_fn (ok_g_shuffled T) (hr.mono (by decide)) (T.glo 6) (da_cons (vv 0) (da_cons (de_lr (T.free 4) (T.free 5) de_int (de_op or_add sim_add (vv 1) de_int)) da_nil))))
    (dss_cons (ds_set (i := 4) nd (de_sl (vv 3) do_none (do_some (de_op or_add sim_add de_int (de_fn (ok_g_draw T) (hr.mono (by decide)) (T.glo 2) (da_cons (vv 0) (da_cons (de_op op_sub sim_I0 (vv 1) de_int) da_nil)))))))
    (dss_cons (ds_if (dt_cmp (op_eqD hu64) sim_eqA (vv 2) de_int) (dss_one (ds_ret (de_ix (de_lst (da_cons (de_fnP (ok_g_pairs T) (hr.mono (by decide)) (T.glo 17) (da_cons (vv 1) da_nil)) (da_cons (de_lst da_nil) da_nil))) (de_fn (ok_g_draw T) (hr.mono (by decide)) (T.glo 2) (da_cons (vv 0) (da_cons de_int da_nil)))))) dss_nil)
    (dss_cons (ds_if (dt_cmp (op_eqD hu64) sim_eqA (vv 2) de_int) (dss_one (ds_ret (de_fn (ok_g_shuffled T) (hr.mono (by decide)) (T.glo 6) (da_cons (vv 0) (da_cons (de_fnP (ok_g_ring T) (hr.mono (by decide)) (T.glo 27) (da_cons (vv 4) da_nil)) da_nil))))) dss_nil)
    (dss_cons (ds_if (dt_cmp (op_eqD hu64) sim_eqA (vv 2) de_int) (dss_one (ds_ret (de_lc (own := [(("_law_pair" : Str), 5)]) nd (di_seq (de_fnP (ok_g_pairs T) (hr.mono (by decide)) (T.glo 17) (da_cons (vv 1) da_nil))) (blkOk_by (N := nm_g_strange) (sc := defScope s_g_strange) (by decide +kernel)) (fun _ _ _ _ _ => by exact (dgc_name nd rfl (by first | exact Or.inl rfl | exact Or.inr rfl) (by decide))) (fun _ _ _ _ _ => (dts_one (DW.dt (dw_and (dt_cmp (or_in hu65) sim_in (de_ix (vv 5) de_int) (vv 4)) (dw_and1 (dt_cmp (or_in hu65) sim_in (de_ix (vv 5) de_int) (vv 4))))))) (fun _ _ _ _ _ => (vv 5))))) dss_nil)
    (dss_cons (ds_set (i := 6) nd (de_ix (de_lst (da_cons de_int (da_cons de_int (da_cons de_int (da_cons de_int (da_cons de_int (da_cons de_int (da_cons de_int (da_cons de_int da_nil))))))))) (vv 2)))
    (dss_one (ds_ret (de_fn (ok_g_shuffled T) (hr.mono (by decide)) (T.glo 6) (da_cons (vv 0) (da_cons (de_lc (own := [(("_law_pair" : Str), 5)]) nd (di_seq (de_fnP (ok_g_pairs T) (hr.mono (by decide)) (T.glo 17) (da_cons (vv 1) da_nil))) (blkOk_by (N := nm_g_strange) (sc := defScope s_g_strange) (by decide +kernel)) (fun _ _ _ _ _ => by exact (dgc_name nd rfl (by first | exact Or.inl rfl | exact Or.inr rfl) (by decide))) (fun _ _ _ _ _ => (dts_one (dt_cmp op_lt sim_B0 (de_fn (ok_g_draw T) (hr.mono (by decide)) (T.glo 2) (da_cons (vv 0) (da_cons de_int da_nil))) (vv 6)))) (fun _ _ _ _ _ => (vv 5))) da_nil))))))))))))
theorem ok_m_Seating_count (T : Tx fa fn K mg) : Fd P w K mg base 1 (He.ma K (He.ga K "Seating") "count") pa_m_Seating_count (sp_m_Seating_count K) := by
  refine fd_ok (t := t_m_Seating_count K) (T.def_ 6) sc_m_Seating_count len_m_Seating_count (fun _ _ _ _ _ _ us hl => match us, hl with | [_], _ => rfl) (fun cdv A outer s H E hr => ?_) rd_m_Seating_count
  have nd : (nm_m_Seating_count).Nodup := by decide +kernel
  have hu := hu_1 hr
  have hu64 := hu_64 hr
  have hu65 := hu_65 hr
  exact (dss_one (ds_ret (de_cb (call_len) sim_len (T.free 24) PySem.boot_len (da_cons (de_fld (ns := ns_Seating) (j := 0) (T.cls 21) (T.noat 39) (by decide +kernel) (vv 0)) da_nil))))
theorem ok_m_Book_count (T : Tx fa fn K mg) : Fd P w K mg base 1 (He.ma K (He.ga K "Book") "count") pa_m_Book_count (sp_m_Book_count K) := by
  refine fd_ok (t := t_m_Book_count K) (T.def_ 7) sc_m_Book_count len_m_Book_count (fun _ _ _ _ _ _ us hl => match us, hl with | [_], _ => rfl) (fun cdv A outer s H E hr => ?_) rd_m_Book_count
  have nd : (nm_m_Book_count).Nodup := by decide +kernel
  have hu := hu_1 hr
  have hu64 := hu_64 hr
  have hu65 := hu_65 hr
  exact (dss_one (ds_ret (de_fld (ns := ns_Book) (j := 0) (T.cls 37) (T.noat 40) (by decide +kernel) (vv 0))))
theorem ok_f_check_alike (T : Tx fa fn K mg) : Fd P w K mg base 2 (He.ga K "check_alike") pa_f_check_alike (sp_f_check_alike K) := by
  refine fd_ok (t := t_f_check_alike K) (T.def_ 8) sc_f_check_alike len_f_check_alike (fun _ _ _ _ _ _ us hl => match us, hl with | [_, _], _ => rfl) (fun cdv A outer s H E hr => ?_) rd_f_check_alike
  have nd : (nm_f_check_alike).Nodup := by decide +kernel
  have hu := hu_1 hr
  have hu64 := hu_64 hr
  have hu65 := hu_65 hr
  exact (dss_one (ds_if (dt_cmp (op_neD hu64) sim_neA (de_me0P (ok_m_Seating_count T) (T.cls 21) (T.meth 36) (hr.mono (by decide)) (vv 1)) (de_me0P (ok_m_Book_count T) (T.cls 37) (T.meth 38) (hr.mono (by decide)) (vv 0))) (dss_one ds_never) dss_nil))
theorem ok_f_is_whole (T : Tx fa fn K mg) : FdK P w K mg base 1 (He.ga K "is_whole") pa_f_is_whole ["least", "most"] 1 (sp_f_is_whole K) := by
  refine fdk_ok (t := t_f_is_whole K) (T.def_ 9) sc_f_is_whole len_f_is_whole rfl (by decide) (fun _ _ _ _ _ _ us ws hl hl2 => match us, hl, ws, hl2 with | [_], _, [_, _], _ => rfl) (fun cdv A outer s H E hr => ?_) rd_f_is_whole
  have nd : (nm_f_is_whole).Nodup := by decide +kernel
  have hu := hu_1 hr
  have hu64 := hu_64 hr
  have hu65 := hu_65 hr
  exact (dss_one (ds_ret (de_and (de_cb (call_isiB (T := "int")) (sim_isi (b := isT "int")) (T.free 44) (by decide +kernel) (da_cons (vv 0) (da_cons (de_bty (n := "int") (T.free 43) (by decide +kernel)) da_nil))) (de_and (de_not (de_cb (call_isiB (T := "bool")) (sim_isi (b := isT "bool")) (T.free 44) (by decide +kernel) (da_cons (vv 0) (da_cons (de_bty (n := "bool") (T.free 45) (by decide +kernel)) da_nil)))) (de_one (de_chain op_le op_le sim_B0 sim_B0 (vv 1) (vv 0) (vv 2)))))))
theorem ok_m_Seating_seat (T : Tx fa fn K mg) : Fd P w K mg base 2 (He.ma K (He.ga K "Seating") "seat") pa_m_Seating_seat (sp_m_Seating_seat K) := by
  refine fd_ok (t := t_m_Seating_seat K) (T.def_ 10) sc_m_Seating_seat len_m_Seating_seat (fun _ _ _ _ _ _ us hl => match us, hl with | [_, _], _ => rfl) (fun cdv A outer s H E hr => ?_) rd_m_Seating_seat
  have nd : (nm_m_Seating_seat).Nodup := by decide +kernel
  have hu := hu_1 hr
  have hu64 := hu_64 hr
  have hu65 := hu_65 hr
  exact (dss_cons (ds_if (dt_not (dt_tru (de_fnK (ok_f_is_whole T) (hr.mono (by decide)) (T.glo 42) (da_cons (vv 1) da_nil) (dk_cons de_int (dk_cons (de_me0P (ok_m_Seating_count T) (T.cls 21) (T.meth 36) (hr.mono (by decide)) (vv 0)) dk_nil))))) (dss_one ds_never) dss_nil)
    (dss_one (ds_ret (de_tupIx (de_fld (ns := ns_Seating) (j := 0) (T.cls 21) (T.noat 39) (by decide +kernel) (vv 0)) (vv 1)))))
theorem ok_f_first_lifts (T : Tx fa fn K mg) : Fd P w K mg base 3 (He.ga K "first_lifts") pa_f_first_lifts (sp_f_first_lifts K) := by
  refine fd_ok (t := t_f_first_lifts K) (T.def_ 11) sc_f_first_lifts len_f_first_lifts (fun _ _ _ _ _ _ us hl => match us, hl with | [_], _ => rfl) (fun cdv A outer s H E hr => ?_) rd_f_first_lifts
  have nd : (nm_f_first_lifts).Nodup := by decide +kernel
  have hu := hu_1 hr
  have hu64 := hu_64 hr
  have hu65 := hu_65 hr
  exact (dss_one (ds_ret (de_lcM (own := [(("person" : Str), 1)]) nd (di_r2 (T.free 5) de_int (de_op or_add sim_add (de_me0P (ok_m_Seating_count T) (T.cls 21) (T.meth 36) (hr.mono (by decide)) (vv 0)) de_int)) (blkOk_by (N := nm_f_first_lifts) (sc := defScope s_f_first_lifts) (by decide +kernel)) (fun _ _ _ _ _ => by exact (dgc_name nd rfl (by first | exact Or.inl rfl | exact Or.inr rfl) (by decide))) (fun _ _ _ _ _ => dts_nil) (fun _ _ _ _ _ => (de_meP (ok_m_Seating_seat T) (T.cls 21) (T.meth 41) (hr.mono (by decide)) (vv 0) (da_cons (vv 1) da_nil))))))
theorem ok_m_Table_init (T : Tx fa fn K mg) : Fd P w K mg base 4 (He.ma K (He.ga K "Table") "__init__") pa_m_Table_init (sp_m_Table_init K) := by
  refine fd_ok (t := t_m_Table_init K) (T.def_ 12) sc_m_Table_init len_m_Table_init (fun _ _ _ _ _ _ us hl => match us, hl with | [_, _, _], _ => rfl) (fun cdv A outer s H E hr => ?_) rd_m_Table_init
  have nd : (nm_m_Table_init).Nodup := by decide +kernel
  have hu := hu_1 hr
  have hu64 := hu_64 hr
  have hu65 := hu_65 hr
  exact (dss_cons (ds_expr (de_fnP (ok_f_check_alike T) (hr.mono (by decide)) (T.glo 30) (da_cons (vv 1) (da_cons (vv 2) da_nil))))
    (dss_cons (ds_setF (T.cls 13) (T.noat 31) (vv 0) (vv 1))
    (dss_cons (ds_setF (T.cls 13) (T.noat 32) (vv 0) (vv 2))
    (dss_cons (ds_setF (T.cls 13) (T.noat 33) (vv 0) de_int)
    (dss_one (ds_setF (T.cls 13) (T.noat 35) (vv 0) (de_fnP (ok_f_first_lifts T) (hr.mono (by decide)) (T.glo 34) (da_cons (vv 2) da_nil))))))))
theorem ok_f_check_people (T : Tx fa fn K mg) : Fd P w K mg base 2 (He.ga K "check_people") pa_f_check_people (sp_f_check_people K) := by
  refine fd_ok (t := t_f_check_people K) (T.def_ 13) sc_f_check_people len_f_check_people (fun _ _ _ _ _ _ us hl => match us, hl with | [_], _ => rfl) (fun cdv A outer s H E hr => ?_) rd_f_check_people
  have nd : (nm_f_check_people).Nodup := by decide +kernel
  have hu := hu_1 hr
  have hu64 := hu_64 hr
  have hu65 := hu_65 hr
  exact (dss_cons (ds_if (dt_not (dt_tru (de_cb (call_isiB (T := "list")) (sim_isi (b := isT "list")) (T.free 44) (by decide +kernel) (da_cons (vv 0) (da_cons (de_bty (n := "list") (T.free 4) (by decide +kernel)) da_nil))))) (dss_one ds_never) dss_nil)
    (dss_cons (ds_if (dt_not (dt_chain op_le op_le sim_B0 sim_B0 (de_globI (T.int 48)) (de_cb (call_len) sim_len (T.free 24) PySem.boot_len (da_cons (vv 0) da_nil)) (de_globI (T.int 49)))) (dss_one ds_never) dss_nil)
    (dss_one (ds_if (DW.dt (dw_or (dt_not (dt_tru (de_cb (cr_all rfl) sim_all (T.free 50) (by decide +kernel) (da_cons (de_lc (own := [(("one" : Str), 1)]) nd (di_seq (vv 0)) (blkOk_by (N := nm_f_check_people) (sc := defScope s_f_check_people) (by decide +kernel)) (fun _ _ _ _ _ => by exact (dgc_name nd rfl (by first | exact Or.inl rfl | exact Or.inr rfl) (by decide))) (fun _ _ _ _ _ => dts_nil) (fun _ _ _ _ _ => (de_fnK (ok_f_is_whole T) (hr.mono (by decide)) (T.glo 42) (da_cons (vv 1) da_nil) (dk_cons de_int (dk_cons (de_cb (call_len) sim_len (T.free 24) PySem.boot_len (da_cons (vv 0) da_nil)) dk_nil))))) da_nil)))) (dw_or1 (dt_cmp op_lt sim_B0 (de_lenSet (T.free 24) (T.free 51) (vv 0)) (de_cb (call_len) sim_len (T.free 24) PySem.boot_len (da_cons (vv 0) da_nil)))))) (dss_one ds_never) dss_nil))))
theorem ok_m_Seating_init (T : Tx fa fn K mg) : Fd P w K mg base 3 (He.ma K (He.ga K "Seating") "__init__") pa_m_Seating_init (sp_m_Seating_init K) := by
  refine fd_ok (t := t_m_Seating_init K) (T.def_ 14) sc_m_Seating_init len_m_Seating_init (fun _ _ _ _ _ _ us hl => match us, hl with | [_, _], _ => rfl) (fun cdv A outer s H E hr => ?_) rd_m_Seating_init
  have nd : (nm_m_Seating_init).Nodup := by decide +kernel
  have hu := hu_1 hr
  have hu64 := hu_64 hr
  have hu65 := hu_65 hr
  exact (dss_cons (ds_expr (de_fnP (ok_f_check_people T) (hr.mono (by decide)) (T.glo 46) (da_cons (vv 1) da_nil)))
    (dss_one (ds_setF (T.cls 21) (T.noat 39) (vv 0) (de_ct call_tupX sim_tupX (T.free 47) (by decide +kernel) (da_cons (vv 1) da_nil)))))
theorem ok_f_is_pair (T : Tx fa fn K mg) : Fd P w K mg base 2 (He.ga K "is_pair") pa_f_is_pair (sp_f_is_pair K) := by
  refine fd_ok (t := t_f_is_pair K) (T.def_ 15) sc_f_is_pair len_f_is_pair (fun _ _ _ _ _ _ us hl => match us, hl with | [_, _], _ => rfl) (fun cdv A outer s H E hr => ?_) rd_f_is_pair
  have nd : (nm_f_is_pair).Nodup := by decide +kernel
  have hu := hu_1 hr
  have hu64 := hu_64 hr
  have hu65 := hu_65 hr
  exact (dss_cons (ds_if (DW.dt (dw_or (dt_not (dt_tru (de_cb (call_isiB (T := "tuple")) (sim_isi (b := isT "tuple")) (T.free 44) (by decide +kernel) (da_cons (vv 0) (da_cons (de_bty (n := "tuple") (T.free 47) (by decide +kernel)) da_nil))))) (dw_or1 (dt_cmp (op_neD hu64) sim_neA (de_cb (call_len) sim_len (T.free 24) PySem.boot_len (da_cons (vv 0) da_nil)) de_int)))) (dss_one (ds_ret de_bl)) dss_nil)
    (dss_one (ds_ret (de_and (de_cb (cr_all rfl) sim_all (T.free 50) (by decide +kernel) (da_cons (de_lc (own := [(("one" : Str), 2)]) nd (di_tup (vv 0)) (blkOk_by (N := nm_f_is_pair) (sc := defScope s_f_is_pair) (by decide +kernel)) (fun _ _ _ _ _ => by exact (dgc_name nd rfl (by first | exact Or.inl rfl | exact Or.inr rfl) (by decide))) (fun _ _ _ _ _ => dts_nil) (fun _ _ _ _ _ => (de_fnK (ok_f_is_whole T) (hr.mono (by decide)) (T.glo 42) (da_cons (vv 2) da_nil) (dk_cons de_int (dk_cons (vv 1) dk_nil))))) da_nil)) (de_one (de_cmp op_lt sim_B0 (de_ix (vv 0) de_int) (de_ix (vv 0) de_int)))))))
theorem ok_m_Book_init (T : Tx fa fn K mg) : Fd P w K mg base 3 (He.ma K (He.ga K "Book") "__init__") pa_m_Book_init (sp_m_Book_init K) := by
  refine fd_ok (t := t_m_Book_init K) (T.def_ 16) sc_m_Book_init len_m_Book_init (fun _ _ _ _ _ _ us hl => match us, hl with | [_, _, _], _ => rfl) (fun cdv A outer s H E hr => ?_) rd_m_Book_init
  have nd : (nm_m_Book_init).Nodup := by decide +kernel
  have hu := hu_1 hr
  have hu64 := hu_64 hr
  have hu65 := hu_65 hr
  exact (dss_cons (ds_if (dt_not (dt_tru (de_fnK (ok_f_is_whole T) (hr.mono (by decide)) (T.glo 42) (da_cons (vv 1) da_nil) (dk_cons (de_globI (T.int 48)) (dk_cons (de_globI (T.int 49)) dk_nil))))) (dss_one ds_never) dss_nil)
    (dss_cons (ds_if (dt_not (dt_tru (de_cb (call_isiB (T := "list")) (sim_isi (b := isT "list")) (T.free 44) (by decide +kernel) (da_cons (vv 2) (da_cons (de_bty (n := "list") (T.free 4) (by decide +kernel)) da_nil))))) (dss_one ds_never) dss_nil)
    (dss_cons (ds_for PassesOwn.never rfl (di_enum (T.free 52) (vv 2)) (dg_tup rfl (dgs_cons (dg_name nd rfl (by first | exact Or.inl rfl | exact Or.inr rfl)) (dgs_cons (dg_name nd rfl (by first | exact Or.inl rfl | exact Or.inr rfl)) dgs_nil))) (dss_cons (ds_if (dt_not (dt_tru (de_fnP (ok_f_is_pair T) (hr.mono (by decide)) (T.glo 53) (da_cons (vv 4) (da_cons (vv 1) da_nil))))) (dss_one ds_never) dss_nil)
    (dss_one (ds_if (dt_cmp (or_in hu65) sim_in (vv 4) (de_sl (vv 2) do_none (do_some (vv 3)))) (dss_one ds_never) dss_nil))))
    (dss_cons (ds_setF (T.cls 37) (T.noat 40) (vv 0) (vv 1))
    (dss_one (ds_setF (T.cls 37) (T.noat 55) (vv 0) (de_ct call_tuple_of sim_tup (T.free 47) (by decide +kernel) (da_cons (de_cb cr_sortedPO sim_sortP (T.free 54) (by decide +kernel) (da_cons (vv 2) da_nil)) da_nil))))))))
theorem ok_m_Table_lifts (T : Tx fa fn K mg) : Fd P w K mg base 1 (He.ma K (He.ga K "Table") "lifts") pa_m_Table_lifts (sp_m_Table_lifts K) := by
  refine fd_ok (t := t_m_Table_lifts K) (T.def_ 17) sc_m_Table_lifts len_m_Table_lifts (fun _ _ _ _ _ _ us hl => match us, hl with | [_], _ => rfl) (fun cdv A outer s H E hr => ?_) rd_m_Table_lifts
  have nd : (nm_m_Table_lifts).Nodup := by decide +kernel
  have hu := hu_1 hr
  have hu64 := hu_64 hr
  have hu65 := hu_65 hr
  exact (dss_one (ds_ret (de_ct call_list_of sim_list (T.free 4) (by decide +kernel) (da_cons (de_fld (ns := ns_Table) (j := 3) (T.cls 13) (T.noat 35) (by decide +kernel) (vv 0)) da_nil))))
theorem ok_g_are_apart (T : Tx fa fn K mg) : Fd P w K mg base 1 (He.ga K "_law_are_apart") pa_g_are_apart (sp_g_are_apart K) := by
  refine fd_ok (t := t_g_are_apart K) (T.def_ 18) sc_g_are_apart len_g_are_apart (fun _ _ _ _ _ _ us hl => match us, hl with | [_, _, _], _ => rfl) (fun cdv A outer s H E hr => ?_) rd_g_are_apart
  have nd : (nm_g_are_apart).Nodup := by decide +kernel
  have hu := hu_1 hr
  have hu64 := hu_64 hr
  have hu65 := hu_65 hr
  exact (dss_one (ds_ret (de_cmp (or_in hu65) sim_in (de_tup (da_cons (de_cb (call_min2 rfl) sim_C2 (T.free 29) (by decide +kernel) (da_cons (vv 1) (da_cons (vv 2) da_nil))) (da_cons (de_cb (call_max2 rfl) sim_C2 (T.free 28) (by decide +kernel) (da_cons (vv 1) (da_cons (vv 2) da_nil))) da_nil))) (vv 0))))
theorem ok_m_Seating_who (T : Tx fa fn K mg) : Fd P w K mg base 2 (He.ma K (He.ga K "Seating") "who") pa_m_Seating_who (sp_m_Seating_who K) := by
  refine fd_ok (t := t_m_Seating_who K) (T.def_ 19) sc_m_Seating_who len_m_Seating_who (fun _ _ _ _ _ _ us hl => match us, hl with | [_, _], _ => rfl) (fun cdv A outer s H E hr => ?_) rd_m_Seating_who
  have nd : (nm_m_Seating_who).Nodup := by decide +kernel
  have hu := hu_1 hr
  have hu64 := hu_64 hr
  have hu65 := hu_65 hr
  exact (dss_one (ds_ret (de_ix (de_fld (ns := ns_Seating) (j := 0) (T.cls 21) (T.noat 39) (by decide +kernel) (vv 0)) (de_op op_mod sim_I (vv 1) (de_me0P (ok_m_Seating_count T) (T.cls 21) (T.meth 36) (hr.mono (by decide)) (vv 0))))))
theorem ok_m_Book_check_person (T : Tx fa fn K mg) : Fd P w K mg base 2 (He.ma K (He.ga K "Book") "check_person") pa_m_Book_check_person (sp_m_Book_check_person K) := by
  refine fd_ok (t := t_m_Book_check_person K) (T.def_ 20) sc_m_Book_check_person len_m_Book_check_person (fun _ _ _ _ _ _ us hl => match us, hl with | [_, _], _ => rfl) (fun cdv A outer s H E hr => ?_) rd_m_Book_check_person
  have nd : (nm_m_Book_check_person).Nodup := by decide +kernel
  have hu := hu_1 hr
  have hu64 := hu_64 hr
  have hu65 := hu_65 hr
  exact (dss_one (ds_if (dt_not (dt_tru (de_fnK (ok_f_is_whole T) (hr.mono (by decide)) (T.glo 42) (da_cons (vv 1) da_nil) (dk_cons de_int (dk_cons (de_fld (ns := ns_Book) (j := 0) (T.cls 37) (T.noat 40) (by decide +kernel) (vv 0)) dk_nil))))) (dss_one ds_never) dss_nil))
theorem ok_m_Book_are_strangers (T : Tx fa fn K mg) : Fd P w K mg base 3 (He.ma K (He.ga K "Book") "are_strangers") pa_m_Book_are_strangers (sp_m_Book_are_strangers K) := by
  refine fd_ok (t := t_m_Book_are_strangers K) (T.def_ 21) sc_m_Book_are_strangers len_m_Book_are_strangers (fun _ _ _ _ _ _ us hl => match us, hl with | [_, _, _], _ => rfl) (fun cdv A outer s H E hr => ?_) rd_m_Book_are_strangers
  have nd : (nm_m_Book_are_strangers).Nodup := by decide +kernel
  have hu := hu_1 hr
  have hu64 := hu_64 hr
  have hu65 := hu_65 hr
  exact (dss_cons (ds_expr (de_meP (ok_m_Book_check_person T) (T.cls 37) (T.meth 63) (hr.mono (by decide)) (vv 0) (da_cons (vv 1) da_nil)))
    (dss_cons (ds_expr (de_meP (ok_m_Book_check_person T) (T.cls 37) (T.meth 63) (hr.mono (by decide)) (vv 0) (da_cons (vv 2) da_nil)))
    (dss_one (ds_ret (de_cmp (or_in hu65) sim_in (de_tup (da_cons (de_cb (call_min2 rfl) sim_C2 (T.free 29) (by decide +kernel) (da_cons (vv 1) (da_cons (vv 2) da_nil))) (da_cons (de_cb (call_max2 rfl) sim_C2 (T.free 28) (by decide +kernel) (da_cons (vv 1) (da_cons (vv 2) da_nil))) da_nil))) (de_fld (ns := ns_Book) (j := 1) (T.cls 37) (T.noat 55) (by decide +kernel) (vv 0)))))))
theorem ok_m_Seating_people (T : Tx fa fn K mg) : Fd P w K mg base 1 (He.ma K (He.ga K "Seating") "people") pa_m_Seating_people (sp_m_Seating_people K) := by
  refine fd_ok (t := t_m_Seating_people K) (T.def_ 22) sc_m_Seating_people len_m_Seating_people (fun _ _ _ _ _ _ us hl => match us, hl with | [_], _ => rfl) (fun cdv A outer s H E hr => ?_) rd_m_Seating_people
  have nd : (nm_m_Seating_people).Nodup := by decide +kernel
  have hu := hu_1 hr
  have hu64 := hu_64 hr
  have hu65 := hu_65 hr
  exact (dss_one (ds_ret (de_ct call_list_of sim_listM (T.free 4) (by decide +kernel) (da_cons (de_fld (ns := ns_Seating) (j := 0) (T.cls 21) (T.noat 39) (by decide +kernel) (vv 0)) da_nil))))
theorem ok_f_changed (T : Tx fa fn K mg) : Fd P w K mg base 5 (He.ga K "changed") pa_f_changed (sp_f_changed K) := by
  refine fd_ok (t := t_f_changed K) (T.def_ 23) sc_f_changed len_f_changed (fun _ _ _ _ _ _ us hl => match us, hl with | [_, _], _ => rfl) (fun cdv A outer s H E hr => ?_) rd_f_changed
  have nd : (nm_f_changed).Nodup := by decide +kernel
  have hu := hu_1 hr
  have hu64 := hu_64 hr
  have hu65 := hu_65 hr
  exact (dss_cons (ds_set (i := 2) nd (de_me0P (ok_m_Seating_people T) (T.cls 21) (T.meth 22) (hr.mono (by decide)) (vv 0)))
    (dss_cons (ds_par (i := 3) (j := 4) rfl nd (by decide) (da_cons (de_op op_mod sim_I (vv 1) (de_cb (call_len) sim_len (T.free 24) PySem.boot_len (da_cons (vv 2) da_nil))) (da_cons (de_op op_mod sim_I (de_op or_add sim_add (vv 1) de_int) (de_cb (call_len) sim_len (T.free 24) PySem.boot_len (da_cons (vv 2) da_nil))) da_nil)))
    (dss_cons (ds_asg (de_tup (da_cons (de_ix (vv 2) (vv 4)) (da_cons (de_ix (vv 2) (vv 3)) da_nil))) (dg_tup rfl (dgs_cons (dg_sub set_list sim_setL (vv 2) (vv 3)) (dgs_cons (dg_sub set_list sim_setL (vv 2) (vv 4)) dgs_nil))))
    (dss_frz 2 (dss_one (ds_ret (de_mk (ok_m_Seating_init T) (T.mkr 7) (hr.mono (by decide)) (T.glo 8) (da_cons (vv 2) da_nil))))))))
theorem ok_m_Table_change (T : Tx fa fn K mg) : Fd P w K mg base 6 (He.ma K (He.ga K "Table") "change") pa_m_Table_change (sp_m_Table_change K) := by
  refine fd_ok (t := t_m_Table_change K) (T.def_ 24) sc_m_Table_change len_m_Table_change (fun _ _ _ _ _ _ us hl => match us, hl with | [_, _], _ => rfl) (fun cdv A outer s H E hr => ?_) rd_m_Table_change
  have nd : (nm_m_Table_change).Nodup := by decide +kernel
  have hu := hu_1 hr
  have hu64 := hu_64 hr
  have hu65 := hu_65 hr
  exact (dss_cons (ds_if (dt_not (dt_tru (de_fnK (ok_f_is_whole T) (hr.mono (by decide)) (T.glo 42) (da_cons (vv 1) da_nil) (dk_cons de_int (dk_cons (de_op op_sub sim_I0 (de_cb (call_len) sim_len (T.free 24) PySem.boot_len (da_cons (de_fld (ns := ns_Table) (j := 3) (T.cls 13) (T.noat 35) (by decide +kernel) (vv 0)) da_nil)) de_int) dk_nil))))) (dss_one ds_never) dss_nil)
    (dss_cons (ds_par (i := 2) (j := 3) rfl nd (by decide) (da_cons (de_meP (ok_m_Seating_who T) (T.cls 21) (T.meth 60) (hr.mono (by decide)) (de_fld (ns := ns_Table) (j := 1) (T.cls 13) (T.noat 32) (by decide +kernel) (vv 0)) (da_cons (vv 1) da_nil)) (da_cons (de_meP (ok_m_Seating_who T) (T.cls 21) (T.meth 60) (hr.mono (by decide)) (de_fld (ns := ns_Table) (j := 1) (T.cls 13) (T.noat 32) (by decide +kernel) (vv 0)) (da_cons (de_op or_add sim_add (vv 1) de_int) da_nil)) da_nil)))
    (dss_cons (ds_if (dt_tru (de_meP (ok_m_Book_are_strangers T) (T.cls 37) (T.meth 61) (hr.mono (by decide)) (de_fld (ns := ns_Table) (j := 0) (T.cls 13) (T.noat 31) (by decide +kernel) (vv 0)) (da_cons (vv 2) (da_cons (vv 3) da_nil)))) (dss_one ds_never) dss_nil)
    (dss_cons (ds_setF (T.cls 13) (T.noat 32) (vv 0) (de_fnP (ok_f_changed T) (hr.mono (by decide)) (T.glo 62) (da_cons (de_fld (ns := ns_Table) (j := 1) (T.cls 13) (T.noat 32) (by decide +kernel) (vv 0)) (da_cons (vv 1) da_nil))))
    (dss_cons (ds_augL ip_add (de_fld (ns := ns_Table) (j := 3) (T.cls 13) (T.noat 35) (by decide +kernel) (vv 0)) (de_op op_sub sim_I0 (vv 2) de_int) de_int)
    (dss_cons (ds_augL ip_sub (de_fld (ns := ns_Table) (j := 3) (T.cls 13) (T.noat 35) (by decide +kernel) (vv 0)) (de_op op_sub sim_I0 (vv 3) de_int) de_int)
    (dss_one (ds_augF (g := fun i j => i + j) (ns := ns_Table) (j := 2) in_add (T.cls 13) (T.noat 33) (by decide +kernel) (by decide) (vv 0) de_int))))))))
theorem ok_g_step (T : Tx fa fn K mg) : Fd P w K mg base 1 (He.ga K "_law_step") pa_g_step (sp_g_step K) := by
  refine fd_ok (t := t_g_step K) (T.def_ 25) sc_g_step len_g_step (fun _ _ _ _ _ _ us hl => match us, hl with | [_, _], _ => rfl) (fun cdv A outer s H E hr => ?_) rd_g_step
  have nd : (nm_g_step).Nodup := by decide +kernel
  have hu := hu_1 hr
  have hu64 := hu_64 hr
  have hu65 := hu_65 hr
  exact (dss_cons (ds_set (i := 2) nd (de_ct call_list_of sim_listM (T.free 4) (by decide +kernel) (da_cons (vv 0) da_nil)))
    (dss_cons (ds_set (i := 3) nd (de_op op_mod sim_I (de_op or_add sim_add (vv 1) de_int) (de_cb (call_len) sim_len (T.free 24) PySem.boot_len (da_cons (vv 2) da_nil))))
    (dss_cons (ds_asg (de_tup (da_cons (de_ix (vv 2) (vv 3)) (da_cons (de_ix (vv 2) (vv 1)) da_nil))) (dg_tup rfl (dgs_cons (dg_sub set_list sim_setL (vv 2) (vv 1)) (dgs_cons (dg_sub set_list sim_setL (vv 2) (vv 3)) dgs_nil))))
    (dss_one (ds_ret (de_fz (vv 2)))))))
theorem ok_g_one_change (T : Tx fa fn K mg) : Fd P w K mg base 7 (He.ga K "_law_one_change") pa_g_one_change (sp_g_one_change K) := by
  refine fd_ok (t := t_g_one_change K) (T.def_ 26) sc_g_one_change len_g_one_change (fun _ _ _ _ _ _ us hl => match us, hl with | [_, _, _], _ => rfl) (fun cdv A outer s H E hr => ?_) rd_g_one_change
  have nd : (nm_g_one_change).Nodup := by decide +kernel
  have hu := hu_1 hr
  have hu64 := hu_64 hr
  have hu65 := hu_65 hr
  exact (dss_cons (ds_set (i := 3) nd (de_cb (call_len) sim_len (T.free 24) PySem.boot_len (da_cons (de_dgetS (ks := DM) (j := 0) (by decide +kernel) hu (vv 1)) da_nil)))
    (dss_cons (ds_par (i := 4) (j := 5) rfl nd (by decide) (da_cons (de_ix (de_dgetS (ks := DM) (j := 0) (by decide +kernel) hu (vv 1)) (vv 2)) (da_cons (de_ix (de_dgetS (ks := DM) (j := 0) (by decide +kernel) hu (vv 1)) (de_op op_mod sim_I (de_op or_add sim_add (vv 2) de_int) (vv 3))) da_nil)))
    (dss_one (ds_if (dt_not (dt_tru (de_fnP (ok_g_are_apart T) (hr.mono (by decide)) (T.glo 58) (da_cons (de_dgetS (ks := DM) (j := 1) (by decide +kernel) hu (vv 1)) (da_cons (vv 4) (da_cons (vv 5) da_nil)))))) (dss_cons (ds_expr (de_me (ok_m_Table_change T) (T.cls 13) (T.meth 19) (hr.mono (by decide)) (vv 0) (da_cons (vv 2) da_nil)))
    (dss_cons (ds_dputS (ks := DM) (j := 0) (by decide +kernel) (by decide +kernel) (by decide) hu (vv 1) (de_fnP (ok_g_step T) (hr.mono (by decide)) (T.glo 59) (da_cons (de_dgetS (ks := DM) (j := 0) (by decide +kernel) hu (vv 1)) (da_cons (vv 2) da_nil))))
    (dss_cons (ds_expr (de_ml PySem.F.slot_list_append PySem.F.type_list_append mt_append sim_append (de_dgetS (ks := DM) (j := 3) (by decide +kernel) hu (vv 1)) (da_cons (vv 2) da_nil)))
    (dss_one (ds_if (dt_cmp (op_eqD hu64) sim_eqA (vv 2) (de_op op_sub sim_I0 (vv 3) de_int)) (dss_cons (ds_asg (de_op or_add sim_add (de_ix (de_dgetS (ks := DM) (j := 4) (by decide +kernel) hu (vv 1)) (de_op op_sub sim_I0 (vv 4) de_int)) de_int) (dg_sub set_list sim_setL (de_dgetS (ks := DM) (j := 4) (by decide +kernel) hu (vv 1)) (de_op op_sub sim_I0 (vv 4) de_int)))
    (dss_one (ds_asg (de_op op_sub sim_I0 (de_ix (de_dgetS (ks := DM) (j := 4) (by decide +kernel) hu (vv 1)) (de_op op_sub sim_I0 (vv 5) de_int)) de_int) (dg_sub set_list sim_setL (de_dgetS (ks := DM) (j := 4) (by decide +kernel) hu (vv 1)) (de_op op_sub sim_I0 (vv 5) de_int))))) dss_nil))))) dss_nil))))
theorem ok_f_check_two (T : Tx fa fn K mg) : Fd P w K mg base 3 (He.ga K "check_two") pa_f_check_two (sp_f_check_two K) := by
  refine fd_ok (t := t_f_check_two K) (T.def_ 27) sc_f_check_two len_f_check_two (fun _ _ _ _ _ _ us hl => match us, hl with | [_, _, _], _ => rfl) (fun cdv A outer s H E hr => ?_) rd_f_check_two
  have nd : (nm_f_check_two).Nodup := by decide +kernel
  have hu := hu_1 hr
  have hu64 := hu_64 hr
  have hu65 := hu_65 hr
  exact (dss_cons (ds_expr (de_meP (ok_m_Book_check_person T) (T.cls 37) (T.meth 63) (hr.mono (by decide)) (vv 0) (da_cons (vv 1) da_nil)))
    (dss_cons (ds_expr (de_meP (ok_m_Book_check_person T) (T.cls 37) (T.meth 63) (hr.mono (by decide)) (vv 0) (da_cons (vv 2) da_nil)))
    (dss_one (ds_if (dt_cmp (op_eqD hu64) sim_eqA (vv 1) (vv 2)) (dss_one ds_never) dss_nil))))
theorem ok_m_Book_strangers (T : Tx fa fn K mg) : Fd P w K mg base 1 (He.ma K (He.ga K "Book") "strangers") pa_m_Book_strangers (sp_m_Book_strangers K) := by
  refine fd_ok (t := t_m_Book_strangers K) (T.def_ 28) sc_m_Book_strangers len_m_Book_strangers (fun _ _ _ _ _ _ us hl => match us, hl with | [_], _ => rfl) (fun cdv A outer s H E hr => ?_) rd_m_Book_strangers
  have nd : (nm_m_Book_strangers).Nodup := by decide +kernel
  have hu := hu_1 hr
  have hu64 := hu_64 hr
  have hu65 := hu_65 hr
  exact (dss_one (ds_ret (de_ct call_list_of sim_list (T.free 4) (by decide +kernel) (da_cons (de_fld (ns := ns_Book) (j := 1) (T.cls 37) (T.noat 55) (by decide +kernel) (vv 0)) da_nil))))
theorem ok_f_with_strangers (T : Tx fa fn K mg) : Fd P w K mg base 5 (He.ga K "with_strangers") pa_f_with_strangers (sp_f_with_strangers K) := by
  refine fd_ok (t := t_f_with_strangers K) (T.def_ 29) sc_f_with_strangers len_f_with_strangers (fun _ _ _ _ _ _ us hl => match us, hl with | [_, _, _], _ => rfl) (fun cdv A outer s H E hr => ?_) rd_f_with_strangers
  have nd : (nm_f_with_strangers).Nodup := by decide +kernel
  have hu := hu_1 hr
  have hu64 := hu_64 hr
  have hu65 := hu_65 hr
  exact (dss_cons (ds_expr (de_fnP (ok_f_check_two T) (hr.mono (by decide)) (T.glo 66) (da_cons (vv 0) (da_cons (vv 1) (da_cons (vv 2) da_nil)))))
    (dss_cons (ds_if (dt_tru (de_meP (ok_m_Book_are_strangers T) (T.cls 37) (T.meth 61) (hr.mono (by decide)) (vv 0) (da_cons (vv 1) (da_cons (vv 2) da_nil)))) (dss_one (ds_ret (vv 0))) dss_nil)
    (dss_one (ds_ret (de_mk (ok_m_Book_init T) (T.mkr 9) (hr.mono (by decide)) (T.glo 10) (da_cons (de_me0P (ok_m_Book_count T) (T.cls 37) (T.meth 38) (hr.mono (by decide)) (vv 0)) (da_cons (de_op or_add sim_add (de_me0P (ok_m_Book_strangers T) (T.cls 37) (T.meth 67) (hr.mono (by decide)) (vv 0)) (de_lst (da_cons (de_tup (da_cons (de_cb (call_min2 rfl) sim_C2 (T.free 29) (by decide +kernel) (da_cons (vv 1) (da_cons (vv 2) da_nil))) (da_cons (de_cb (call_max2 rfl) sim_C2 (T.free 28) (by decide +kernel) (da_cons (vv 1) (da_cons (vv 2) da_nil))) da_nil))) da_nil))) da_nil)))))))
theorem ok_m_Table_part (T : Tx fa fn K mg) : Fd P w K mg base 6 (He.ma K (He.ga K "Table") "part") pa_m_Table_part (sp_m_Table_part K) := by
  refine fd_ok (t := t_m_Table_part K) (T.def_ 30) sc_m_Table_part len_m_Table_part (fun _ _ _ _ _ _ us hl => match us, hl with | [_, _, _], _ => rfl) (fun cdv A outer s H E hr => ?_) rd_m_Table_part
  have nd : (nm_m_Table_part).Nodup := by decide +kernel
  have hu := hu_1 hr
  have hu64 := hu_64 hr
  have hu65 := hu_65 hr
  exact (dss_one (ds_setF (T.cls 13) (T.noat 31) (vv 0) (de_fnP (ok_f_with_strangers T) (hr.mono (by decide)) (T.glo 65) (da_cons (de_fld (ns := ns_Table) (j := 0) (T.cls 13) (T.noat 31) (by decide +kernel) (vv 0)) (da_cons (vv 1) (da_cons (vv 2) da_nil))))))
theorem ok_f_with_friends (T : Tx fa fn K mg) : Fd P w K mg base 5 (He.ga K "with_friends") pa_f_with_friends (sp_f_with_friends K) := by
  refine fd_ok (t := t_f_with_friends K) (T.def_ 31) sc_f_with_friends len_f_with_friends (fun _ _ _ _ _ _ us hl => match us, hl with | [_, _, _], _ => rfl) (fun cdv A outer s H E hr => ?_) rd_f_with_friends
  have nd : (nm_f_with_friends).Nodup := by decide +kernel
  have hu := hu_1 hr
  have hu64 := hu_64 hr
  have hu65 := hu_65 hr
  exact (dss_cons (ds_expr (de_fnP (ok_f_check_two T) (hr.mono (by decide)) (T.glo 66) (da_cons (vv 0) (da_cons (vv 1) (da_cons (vv 2) da_nil)))))
    (dss_cons (ds_if (dt_not (dt_tru (de_meP (ok_m_Book_are_strangers T) (T.cls 37) (T.meth 61) (hr.mono (by decide)) (vv 0) (da_cons (vv 1) (da_cons (vv 2) da_nil))))) (dss_one (ds_ret (vv 0))) dss_nil)
    (dss_one (ds_ret (de_mk (ok_m_Book_init T) (T.mkr 9) (hr.mono (by decide)) (T.glo 10) (da_cons (de_me0P (ok_m_Book_count T) (T.cls 37) (T.meth 38) (hr.mono (by decide)) (vv 0)) (da_cons (de_lc (own := [(("pair" : Str), 3)]) nd (di_seq (de_me0P (ok_m_Book_strangers T) (T.cls 37) (T.meth 67) (hr.mono (by decide)) (vv 0))) (blkOk_by (N := nm_f_with_friends) (sc := defScope s_f_with_friends) (by decide +kernel)) (fun _ _ _ _ _ => by exact (dgc_name nd rfl (by first | exact Or.inl rfl | exact Or.inr rfl) (by decide))) (fun _ _ _ _ _ => (dts_one (dt_cmp (op_neD hu64) sim_neA (vv 3) (de_tup (da_cons (de_cb (call_min2 rfl) sim_C2 (T.free 29) (by decide +kernel) (da_cons (vv 1) (da_cons (vv 2) da_nil))) (da_cons (de_cb (call_max2 rfl) sim_C2 (T.free 28) (by decide +kernel) (da_cons (vv 1) (da_cons (vv 2) da_nil))) da_nil)))))) (fun _ _ _ _ _ => (vv 3))) da_nil)))))))
theorem ok_m_Table_befriend (T : Tx fa fn K mg) : Fd P w K mg base 6 (He.ma K (He.ga K "Table") "befriend") pa_m_Table_befriend (sp_m_Table_befriend K) := by
  refine fd_ok (t := t_m_Table_befriend K) (T.def_ 32) sc_m_Table_befriend len_m_Table_befriend (fun _ _ _ _ _ _ us hl => match us, hl with | [_, _, _], _ => rfl) (fun cdv A outer s H E hr => ?_) rd_m_Table_befriend
  have nd : (nm_m_Table_befriend).Nodup := by decide +kernel
  have hu := hu_1 hr
  have hu64 := hu_64 hr
  have hu65 := hu_65 hr
  exact (dss_one (ds_setF (T.cls 13) (T.noat 31) (vv 0) (de_fnP (ok_f_with_friends T) (hr.mono (by decide)) (T.glo 68) (da_cons (de_fld (ns := ns_Table) (j := 0) (T.cls 13) (T.noat 31) (by decide +kernel) (vv 0)) (da_cons (vv 1) (da_cons (vv 2) da_nil))))))
theorem ok_g_one_turn (T : Tx fa fn K mg) : Fd P w K mg base 7 (He.ga K "_law_one_turn") pa_g_one_turn (sp_g_one_turn K) := by
  refine fd_ok (t := t_g_one_turn K) (T.def_ 33) sc_g_one_turn len_g_one_turn (fun _ _ _ _ _ _ us hl => match us, hl with | [_, _, _, _, _], _ => rfl) (fun cdv A outer s H E hr => ?_) rd_g_one_turn
  have nd : (nm_g_one_turn).Nodup := by decide +kernel
  have hu := hu_1 hr
  have hu64 := hu_64 hr
  have hu65 := hu_65 hr
  exact (dss_cons (ds_set (i := 5) nd (de_tup (da_cons (de_cb (call_min2 rfl) sim_C2 (T.free 29) (by decide +kernel) (da_cons (vv 2) (da_cons (vv 3) da_nil))) (da_cons (de_cb (call_max2 rfl) sim_C2 (T.free 28) (by decide +kernel) (da_cons (vv 2) (da_cons (vv 3) da_nil))) da_nil))))
    (dss_cons (ds_dputS (ks := DM) (j := 1) (by decide +kernel) (by decide +kernel) (by decide) hu (vv 1) (de_op or_add sim_add (de_lc (own := [(("_law_some" : Str), 6)]) nd (di_seq (de_dgetS (ks := DM) (j := 1) (by decide +kernel) hu (vv 1))) (blkOk_by (N := nm_g_one_turn) (sc := defScope s_g_one_turn) (by decide +kernel)) (fun _ _ _ _ _ => by exact (dgc_name nd rfl (by first | exact Or.inl rfl | exact Or.inr rfl) (by decide))) (fun _ _ _ _ _ => (dts_one (dt_cmp (op_neD hu64) sim_neA (vv 6) (vv 5)))) (fun _ _ _ _ _ => (vv 6))) (de_op or_mul sim_mul (de_lst (da_cons (vv 5) da_nil)) (de_ct call_int1 sim_int (T.free 43) (by decide +kernel) (da_cons (vv 4) da_nil)))))
    (dss_one (ds_if (dt_tru (vv 4)) (dss_one (ds_expr (de_me (ok_m_Table_part T) (T.cls 13) (T.meth 64) (hr.mono (by decide)) (vv 0) (da_cons (vv 2) (da_cons (vv 3) da_nil))))) (dss_cons (ds_expr (de_me (ok_m_Table_befriend T) (T.cls 13) (T.meth 18) (hr.mono (by decide)) (vv 0) (da_cons (vv 2) (da_cons (vv 3) da_nil))))
    (dss_one (ds_dputS (ks := DM) (j := 2) (by decide +kernel) (by decide +kernel) (by decide) hu (vv 1) (de_lc (own := [(("_law_some" : Str), 6)]) nd (di_seq (de_dgetS (ks := DM) (j := 2) (by decide +kernel) hu (vv 1))) (blkOk_by (N := nm_g_one_turn) (sc := defScope s_g_one_turn) (by decide +kernel)) (fun _ _ _ _ _ => by exact (dgc_name nd rfl (by first | exact Or.inl rfl | exact Or.inr rfl) (by decide))) (fun _ _ _ _ _ => (dts_one (dt_cmp (op_neD hu64) sim_neA (vv 6) (vv 5)))) (fun _ _ _ _ _ => (vv 6))))))))))
theorem ok_g_deed (T : Tx fa fn K mg) : Fd P w K mg base 8 (He.ga K "_law_deed") pa_g_deed (sp_g_deed K) := by
  refine fd_ok (t := t_g_deed K) (T.def_ 34) sc_g_deed len_g_deed (fun _ _ _ _ _ _ us hl => match us, hl with | [_, _, _], _ => rfl) (fun cdv A outer s H E hr => ?_) rd_g_deed
  have nd : (nm_g_deed).Nodup := by decide +kernel
  have hu := hu_1 hr
  have hu64 := hu_64 hr
  have hu65 := hu_65 hr
  exact (dss_cons (ds_set (i := 3) nd (de_cb (call_len) sim_len (T.free 24) PySem.boot_len (da_cons (de_dgetS (ks := DM) (j := 0) (by decide +kernel) hu (vv 2)) da_nil)))
    (dss_cons (ds_set (i := 4) nd (de_fn (ok_g_draw T) (hr.mono (by decide)) (T.glo 2) (da_cons (vv 0) (da_cons de_int da_nil))))
    (dss_cons (ds_set (i := 5) nd (de_op or_add sim_add de_int (de_fn (ok_g_draw T) (hr.mono (by decide)) (T.glo 2) (da_cons (vv 0) (da_cons (vv 3) da_nil)))))
    (dss_cons (ds_set (i := 6) nd (de_op or_add sim_add de_int (de_op op_mod sim_I (de_op or_add sim_add (vv 5) (de_fn (ok_g_draw T) (hr.mono (by decide)) (T.glo 2) (da_cons (vv 0) (da_cons (de_op op_sub sim_I0 (vv 3) de_int) da_nil)))) (vv 3))))
    (dss_one (ds_if (dt_cmp op_lt sim_B0 (vv 4) de_int) (dss_one (ds_for PassesOwn.never rfl (di_r1 (T.free 5) (de_op or_add sim_add de_int (de_fn (ok_g_draw T) (hr.mono (by decide)) (T.glo 2) (da_cons (vv 0) (da_cons de_int da_nil))))) (dg_name nd rfl (by first | exact Or.inl rfl | exact Or.inr rfl)) (dss_one (ds_expr (de_fn (ok_g_one_change T) (hr.mono (by decide)) (T.glo 56) (da_cons (vv 1) (da_cons (vv 2) (da_cons (de_fn (ok_g_draw T) (hr.mono (by decide)) (T.glo 2) (da_cons (vv 0) (da_cons (vv 3) da_nil))) da_nil)))))))) (dss_one (ds_if (dt_cmp op_lt sim_B0 (vv 4) de_int) (dss_one (ds_expr (de_fn (ok_g_one_turn T) (hr.mono (by decide)) (T.glo 57) (da_cons (vv 1) (da_cons (vv 2) (da_cons (vv 5) (da_cons (vv 6) (da_cons (de_cmp (op_eqD hu64) sim_eqA (vv 4) de_int) da_nil)))))))) (dss_one (ds_if (dt_cmp op_lt sim_B0 (de_dgetS (ks := DM) (j := 5) (by decide +kernel) hu (vv 2)) de_int) (dss_cons (ds_dputS (ks := DM) (j := 5) (by decide +kernel) (by decide +kernel) (by decide) hu (vv 2) (de_op or_add sim_add (de_dgetS (ks := DM) (j := 5) (by decide +kernel) hu (vv 2)) de_int))
    (dss_cons (ds_set (i := 8) nd (de_cmp (op_eqD hu64) sim_eqA (de_fn (ok_g_draw T) (hr.mono (by decide)) (T.glo 2) (da_cons (vv 0) (da_cons de_int da_nil))) de_int))
    (dss_one (ds_for PassesOwn.never rfl (di_seq (de_fnP (ok_g_pairs T) (hr.mono (by decide)) (T.glo 17) (da_cons (vv 3) da_nil))) (dg_tup rfl (dgs_cons (dg_name nd rfl (by first | exact Or.inl rfl | exact Or.inr rfl)) (dgs_cons (dg_name nd rfl (by first | exact Or.inl rfl | exact Or.inr rfl)) dgs_nil))) (dss_one (ds_expr (de_fn (ok_g_one_turn T) (hr.mono (by decide)) (T.glo 57) (da_cons (vv 1) (da_cons (vv 2) (da_cons (vv 6) (da_cons (vv 5) (da_cons (vv 8) da_nil)))))))))))) dss_nil))))))))))
theorem ok_m_Table_times (T : Tx fa fn K mg) : Fd P w K mg base 3 (He.ma K (He.ga K "Table") "times") pa_m_Table_times (sp_m_Table_times K) := by
  refine fd_ok (t := t_m_Table_times K) (T.def_ 35) sc_m_Table_times len_m_Table_times (fun _ _ _ _ _ _ us hl => match us, hl with | [_, _], _ => rfl) (fun cdv A outer s H E hr => ?_) rd_m_Table_times
  have nd : (nm_m_Table_times).Nodup := by decide +kernel
  have hu := hu_1 hr
  have hu64 := hu_64 hr
  have hu65 := hu_65 hr
  exact (dss_cons (ds_expr (de_meP (ok_m_Book_check_person T) (T.cls 37) (T.meth 63) (hr.mono (by decide)) (de_fld (ns := ns_Table) (j := 0) (T.cls 13) (T.noat 31) (by decide +kernel) (vv 0)) (da_cons (vv 1) da_nil)))
    (dss_one (ds_ret (de_op op_fdivW sim_I (de_ix (de_fld (ns := ns_Table) (j := 3) (T.cls 13) (T.noat 35) (by decide +kernel) (vv 0)) (de_op op_sub sim_I0 (vv 1) de_int)) (de_cb (call_len) sim_len (T.free 24) PySem.boot_len (da_cons (de_fld (ns := ns_Table) (j := 3) (T.cls 13) (T.noat 35) (by decide +kernel) (vv 0)) da_nil))))))
theorem ok_g_rounds (T : Tx fa fn K mg) : Fd P w K mg base 1 (He.ga K "_law_rounds") pa_g_rounds (sp_g_rounds K) := by
  refine fd_ok (t := t_g_rounds K) (T.def_ 36) sc_g_rounds len_g_rounds (fun _ _ _ _ _ _ us hl => match us, hl with | [_, _, _, _], _ => rfl) (fun cdv A outer s H E hr => ?_) rd_g_rounds
  have nd : (nm_g_rounds).Nodup := by decide +kernel
  have hu := hu_1 hr
  have hu64 := hu_64 hr
  have hu65 := hu_65 hr
  exact (dss_one (ds_ret (de_op op_fdivW sim_I (de_op op_sub sim_I0 (de_ix (vv 0) (de_op op_sub sim_I0 (vv 2) de_int)) (de_ix (vv 0) (de_op op_sub sim_I0 (vv 1) de_int))) (vv 3))))
theorem ok_m_Table_changes (T : Tx fa fn K mg) : Fd P w K mg base 1 (He.ma K (He.ga K "Table") "changes") pa_m_Table_changes (sp_m_Table_changes K) := by
  refine fd_ok (t := t_m_Table_changes K) (T.def_ 37) sc_m_Table_changes len_m_Table_changes (fun _ _ _ _ _ _ us hl => match us, hl with | [_], _ => rfl) (fun cdv A outer s H E hr => ?_) rd_m_Table_changes
  have nd : (nm_m_Table_changes).Nodup := by decide +kernel
  have hu := hu_1 hr
  have hu64 := hu_64 hr
  have hu65 := hu_65 hr
  exact (dss_one (ds_ret (de_fld (ns := ns_Table) (j := 2) (T.cls 13) (T.noat 33) (by decide +kernel) (vv 0))))
theorem ok_g_kept (T : Tx fa fn K mg) : Fd P w K mg base 4 (He.ga K "_law_kept") pa_g_kept (sp_g_kept K) := by
  refine fd_ok (t := t_g_kept K) (T.def_ 38) sc_g_kept len_g_kept (fun _ _ _ _ _ _ us hl => match us, hl with | [_, _, _], _ => rfl) (fun cdv A outer s H E hr => ?_) rd_g_kept
  have nd : (nm_g_kept).Nodup := by decide +kernel
  have hu := hu_1 hr
  have hu64 := hu_64 hr
  have hu65 := hu_65 hr
  exact (dss_cons (ds_set (i := 3) nd (de_cb (call_len) sim_len (T.free 24) PySem.boot_len (da_cons (de_dgetS (ks := DM) (j := 0) (by decide +kernel) hu (vv 1)) da_nil)))
    (dss_cons (ds_set (i := 4) nd (de_me0 (ok_m_Table_lifts T) (T.cls 13) (T.meth 14) (hr.mono (by decide)) (vv 0)))
    (dss_cons (ds_if (dt_cmp (op_neD hu64) sim_neA (de_lc (own := [(("_law_thing" : Str), 5)]) nd (di_seq (vv 4)) (blkOk_by (N := nm_g_kept) (sc := defScope s_g_kept) (by decide +kernel)) (fun _ _ _ _ _ => by exact (dgc_name nd rfl (by first | exact Or.inl rfl | exact Or.inr rfl) (by decide))) (fun _ _ _ _ _ => dts_nil) (fun _ _ _ _ _ => (de_op op_mod sim_I (vv 5) (vv 3)))) (de_lc (own := [(("_law_p" : Str), 6)]) nd (di_r2 (T.free 5) de_int (de_op or_add sim_add (vv 3) de_int)) (blkOk_by (N := nm_g_kept) (sc := defScope s_g_kept) (by decide +kernel)) (fun _ _ _ _ _ => by exact (dgc_name nd rfl (by first | exact Or.inl rfl | exact Or.inr rfl) (by decide))) (fun _ _ _ _ _ => dts_nil) (fun _ _ _ _ _ => (de_ml PySem.F.slot_list_index PySem.F.type_list_index mt_index sim_indexI (de_dgetS (ks := DM) (j := 0) (by decide +kernel) hu (vv 1)) (da_cons (vv 6) da_nil))))) (dss_one (ds_ret de_bl)) dss_nil)
    (dss_cons (ds_if (DW.dt (dw_or (dt_cmp (op_neD hu64) sim_neA (de_cb (cr_sum rfl) sim_sum (T.free 69) (by decide +kernel) (da_cons (vv 4) da_nil)) (de_cb (cr_sum rfl) sim_sum (T.free 69) (by decide +kernel) (da_cons (vv 2) da_nil))) (dw_or1 (dt_cmp (op_neD hu64) sim_neA (de_lc (own := [(("_law_p" : Str), 6)]) nd (di_r2 (T.free 5) de_int (de_op or_add sim_add (vv 3) de_int)) (blkOk_by (N := nm_g_kept) (sc := defScope s_g_kept) (by decide +kernel)) (fun _ _ _ _ _ => by exact (dgc_name nd rfl (by first | exact Or.inl rfl | exact Or.inr rfl) (by decide))) (fun _ _ _ _ _ => dts_nil) (fun _ _ _ _ _ => (de_me (ok_m_Table_times T) (T.cls 13) (T.meth 25) (hr.mono (by decide)) (vv 0) (da_cons (vv 6) da_nil)))) (de_dgetS (ks := DM) (j := 4) (by decide +kernel) hu (vv 1)))))) (dss_one (ds_ret de_bl)) dss_nil)
    (dss_cons (ds_for PassesOwn.never rfl (di_seq (de_dgetS (ks := DM) (j := 2) (by decide +kernel) hu (vv 1))) (dg_tup rfl (dgs_cons (dg_name nd rfl (by first | exact Or.inl rfl | exact Or.inr rfl)) (dgs_cons (dg_name nd rfl (by first | exact Or.inl rfl | exact Or.inr rfl)) dgs_nil))) (dss_one (ds_if (dt_cmp (op_neD hu64) sim_neA (de_fnP (ok_g_rounds T) (hr.mono (by decide)) (T.glo 70) (da_cons (vv 4) (da_cons (vv 6) (da_cons (vv 7) (da_cons (vv 3) da_nil))))) (de_fnP (ok_g_rounds T) (hr.mono (by decide)) (T.glo 70) (da_cons (vv 2) (da_cons (vv 6) (da_cons (vv 7) (da_cons (vv 3) da_nil)))))) (dss_one (ds_ret de_bl)) dss_nil)))
    (dss_cons (ds_set (i := 8) nd (de_cb (cr_sum rfl) sim_sum (T.free 69) (by decide +kernel) (da_cons (de_lc (own := [(("_law_p" : Str), 6), (("_law_q" : Str), 7)]) nd (di_seq (de_fnP (ok_g_pairs T) (hr.mono (by decide)) (T.glo 17) (da_cons (vv 3) da_nil))) (blkOk_by (N := nm_g_kept) (sc := defScope s_g_kept) (by decide +kernel)) (fun _ _ _ _ _ => by exact (dgc_tupK (K := K) (n := 2) rfl (dgcs_cons (dgc_name nd rfl (by first | exact Or.inl rfl | exact Or.inr rfl) (by decide)) (dgcs_cons (dgc_name nd rfl (by first | exact Or.inl rfl | exact Or.inr rfl) (by decide)) dgcs_nil)))) (fun _ _ _ _ _ => dts_nil) (fun _ _ _ _ _ => (de_cb call_abs sim_C1 (T.free 71) (by decide +kernel) (da_cons (de_op op_sub sim_I0 (de_fnP (ok_g_rounds T) (hr.mono (by decide)) (T.glo 70) (da_cons (vv 4) (da_cons (vv 6) (da_cons (vv 7) (da_cons (vv 3) da_nil))))) (de_fnP (ok_g_rounds T) (hr.mono (by decide)) (T.glo 70) (da_cons (vv 2) (da_cons (vv 6) (da_cons (vv 7) (da_cons (vv 3) da_nil)))))) da_nil)))) da_nil)))
    (dss_one (ds_ret (de_and (de_cmp (op_eqD hu64) sim_eqA (de_me0 (ok_m_Table_changes T) (T.cls 13) (T.meth 23) (hr.mono (by decide)) (vv 0)) (de_cb (call_len) sim_len (T.free 24) PySem.boot_len (da_cons (de_dgetS (ks := DM) (j := 3) (by decide +kernel) hu (vv 1)) da_nil))) (de_and (de_cmp op_le sim_B0 (vv 8) (de_cb (call_len) sim_len (T.free 24) PySem.boot_len (da_cons (de_dgetS (ks := DM) (j := 3) (by decide +kernel) hu (vv 1)) da_nil))) (de_one (de_cmp (op_eqD hu64) sim_eqA (de_op op_mod sim_I (de_op op_sub sim_I0 (de_cb (call_len) sim_len (T.free 24) PySem.boot_len (da_cons (de_dgetS (ks := DM) (j := 3) (by decide +kernel) hu (vv 1)) da_nil)) (vv 8)) de_int) de_int))))))))))))
theorem ok_m_Table_seating (T : Tx fa fn K mg) : Fd P w K mg base 1 (He.ma K (He.ga K "Table") "seating") pa_m_Table_seating (sp_m_Table_seating K) := by
  refine fd_ok (t := t_m_Table_seating K) (T.def_ 39) sc_m_Table_seating len_m_Table_seating (fun _ _ _ _ _ _ us hl => match us, hl with | [_], _ => rfl) (fun cdv A outer s H E hr => ?_) rd_m_Table_seating
  have nd : (nm_m_Table_seating).Nodup := by decide +kernel
  have hu := hu_1 hr
  have hu64 := hu_64 hr
  have hu65 := hu_65 hr
  exact (dss_one (ds_ret (de_fld (ns := ns_Table) (j := 1) (T.cls 13) (T.noat 32) (by decide +kernel) (vv 0))))
theorem ok_g_right (T : Tx fa fn K mg) : Fd P w K mg base 9 (He.ga K "_law_right") pa_g_right (sp_g_right K) := by
  refine fd_ok (t := t_g_right K) (T.def_ 40) sc_g_right len_g_right (fun _ _ _ _ _ _ us hl => match us, hl with | [_], _ => rfl) (fun cdv A outer s H E hr => ?_) rd_g_right
  have nd : (nm_g_right).Nodup := by decide +kernel
  have hu := hu_1 hr
  have hu64 := hu_64 hr
  have hu65 := hu_65 hr
  exact (dss_cons (ds_set (i := 1) nd (de_op or_add sim_add de_int (de_fn (ok_g_draw T) (hr.mono (by decide)) (T.glo 2) (da_cons (vv 0) (da_cons de_int da_nil)))))
    (dss_cons (ds_set (i := 2) nd (de_fn (ok_g_strange T) (hr.mono (by decide)) (T.glo 3) (da_cons (vv 0) (da_cons (vv 1) da_nil))))
    (dss_cons (ds_set (i := 3) nd (de_fn (ok_g_shuffled T) (hr.mono (by decide)) (T.glo 6) (da_cons (vv 0) (da_cons (de_lr (T.free 4) (T.free 5) de_int (de_op or_add sim_add (vv 1) de_int)) da_nil))))
    (dss_cons (ds_set (i := 4) nd (de_mkM (ok_m_Table_init T) (T.mkr 11) (hr.mono (by decide)) (T.glo 12) (da_cons (de_mk (ok_m_Book_init T) (T.mkr 9) (hr.mono (by decide)) (T.glo 10) (da_cons (vv 1) (da_cons (de_ct call_list_of sim_list (T.free 4) (by decide +kernel) (da_cons (vv 2) da_nil)) da_nil))) (da_cons (de_mk (ok_m_Seating_init T) (T.mkr 7) (hr.mono (by decide)) (T.glo 8) (da_cons (de_ct call_list_of sim_list (T.free 4) (by decide +kernel) (da_cons (vv 3) da_nil)) da_nil)) da_nil))))
    (dss_cons (ds_set (i := 5) nd (de_disp (ks := [("row" : Str), ("strange" : Str), ("ever" : Str), ("path" : Str), ("over" : Str), ("turns" : Str)]) (dps_cons (vv 3) (dps_cons (vv 2) (dps_cons (de_ct call_list_of sim_list (T.free 4) (by decide +kernel) (da_cons (vv 2) da_nil)) (dps_cons (de_lstM da_nil) (dps_cons (de_op or_mul sim_mulM (de_lst (da_cons de_int da_nil)) (vv 1)) (dps_cons de_int dps_nil)))))) (by decide +kernel)))
    (dss_cons (ds_set (i := 6) nd (de_me0 (ok_m_Table_lifts T) (T.cls 13) (T.meth 14) (hr.mono (by decide)) (vv 4)))
    (dss_cons (ds_for PassesOwn.never rfl (di_r1 (T.free 5) (de_fn (ok_g_draw T) (hr.mono (by decide)) (T.glo 2) (da_cons (vv 0) (da_cons de_int da_nil)))) (dg_name nd rfl (by first | exact Or.inl rfl | exact Or.inr rfl)) (dss_cons (ds_expr (de_fn (ok_g_deed T) (hr.mono (by decide)) (T.glo 15) (da_cons (vv 0) (da_cons (vv 4) (da_cons (vv 5) da_nil)))))
    (dss_one (ds_if (dt_not (dt_tru (de_fn (ok_g_kept T) (hr.mono (by decide)) (T.glo 16) (da_cons (vv 4) (da_cons (vv 5) (da_cons (vv 6) da_nil)))))) (dss_one (ds_ret de_bl)) dss_nil))))
    (dss_cons (ds_for PassesOwn.never rfl (di_seq (de_fnP (ok_g_pairs T) (hr.mono (by decide)) (T.glo 17) (da_cons (vv 1) da_nil))) (dg_tup rfl (dgs_cons (dg_name nd rfl (by first | exact Or.inl rfl | exact Or.inr rfl)) (dgs_cons (dg_name nd rfl (by first | exact Or.inl rfl | exact Or.inr rfl)) dgs_nil))) (dss_one (ds_expr (de_me (ok_m_Table_befriend T) (T.cls 13) (T.meth 18) (hr.mono (by decide)) (vv 4) (da_cons (vv 8) (da_cons (vv 9) da_nil))))))
    (dss_cons (ds_for PassesOwn.never rfl (di_seq (de_rev (de_dgetS (ks := DM) (j := 3) (by decide +kernel) hu (vv 5)))) (dg_name nd rfl (by first | exact Or.inl rfl | exact Or.inr rfl)) (dss_one (ds_expr (de_me (ok_m_Table_change T) (T.cls 13) (T.meth 19) (hr.mono (by decide)) (vv 4) (da_cons (vv 10) da_nil)))))
    (dss_cons (ds_if (DW.dt (dw_or (dt_cmp (op_neD hu64) sim_neA (de_me0 (ok_m_Table_lifts T) (T.cls 13) (T.meth 14) (hr.mono (by decide)) (vv 4)) (vv 6)) (dw_or (dt_cmp (op_neD hu64) sim_neA (de_me0P (ok_m_Seating_people T) (T.cls 21) (T.meth 22) (hr.mono (by decide)) (de_me0 (ok_m_Table_seating T) (T.cls 13) (T.meth 20) (hr.mono (by decide)) (vv 4))) (vv 3)) (dw_or1 (dt_cmp (op_neD hu64) sim_neA (de_me0 (ok_m_Table_changes T) (T.cls 13) (T.meth 23) (hr.mono (by decide)) (vv 4)) (de_op or_mul sim_mul de_int (de_cb (call_len) sim_len (T.free 24) PySem.boot_len (da_cons (de_dgetS (ks := DM) (j := 3) (by decide +kernel) hu (vv 5)) da_nil)))))))) (dss_one (ds_ret de_bl)) dss_nil)
    (dss_one (ds_ret (de_cmp (op_eqD hu64) sim_eqA (de_lc (own := [(("_law_p" : Str), 8)]) nd (di_r2 (T.free 5) de_int (de_op or_add sim_add (vv 1) de_int)) (blkOk_by (N := nm_g_right) (sc := defScope s_g_right) (by decide +kernel)) (fun _ _ _ _ _ => by exact (dgc_name nd rfl (by first | exact Or.inl rfl | exact Or.inr rfl) (by decide))) (fun _ _ _ _ _ => dts_nil) (fun _ _ _ _ _ => (de_me (ok_m_Table_times T) (T.cls 13) (T.meth 25) (hr.mono (by decide)) (vv 4) (da_cons (vv 8) da_nil)))) (de_op or_mul sim_mul (de_lst (da_cons de_int da_nil)) (vv 1)))))))))))))))
theorem ok_g_well (T : Tx fa fn K mg) : Fd P w K mg base 1 (He.ga K "_law_well") pa_g_well (sp_g_well K) := by
  refine fd_ok (t := t_g_well K) (T.def_ 41) sc_g_well len_g_well (fun _ _ _ _ _ _ us hl => match us, hl with | [_], _ => rfl) (fun cdv A outer s H E hr => ?_) rd_g_well
  have nd : (nm_g_well).Nodup := by decide +kernel
  have hu := hu_1 hr
  have hu64 := hu_64 hr
  have hu65 := hu_65 hr
  exact (dss_one (ds_ret (de_lstM (da_cons (vv 0) (da_cons (vv 0) (da_cons de_int da_nil))))))
theorem ok_f_law (T : Tx fa fn K mg) : ∃ fd, (∀ (s : Shared) (u : Value), BindsTo s fd ⟨[u], []⟩ [("_law_script", u)]) ∧ ∀ base : Heap, FnOk P w K mg base CX0 10 (He.ga K "law") fd ["_law_script"] (sp0 63 K) := by
  refine fd_law (t := t_f_law K) (T.def_ 42) sc_f_law (fun _ _ _ _ _ _ us hl => match us, hl with | [_], _ => rfl) (fun base cdv A outer s H E hr => ?_) rd_f_law
  have nd : (nm_f_law).Nodup := by decide +kernel
  have hu := hu_1 hr
  have hu64 := hu_64 hr
  have hu65 := hu_65 hr
  exact (dss_cons (ds_for PassesOwn.never rfl (di_seq (de_op or_add sim_add (de_slS (vv 0) do_none (do_some de_int)) (de_lst (da_cons de_int da_nil)))) (dg_name nd rfl (by first | exact Or.inl rfl | exact Or.inr rfl)) (dss_one (ds_if (dt_not (dt_tru (de_fn (ok_g_right T) (hr.mono (by decide)) (T.glo 1) (da_cons (de_fnP (ok_g_well T) (hr.mono (by decide)) (T.glo 0) (da_cons (vv 1) da_nil)) da_nil)))) (dss_one (ds_ret de_bl)) dss_nil)))
    (dss_one (ds_ret de_bl)))
end
def lo0 : List Str := ["_wall", "SeatError", "BadBook", "NoPerson", "BadSeating", "Unlike", "BadWay", "NotFriends", "FEWEST", "MOST", "is_whole", "is_pair", "Book", "check_two", "with_strangers", "with_friends", "check_people", "Seating", "check_alike", "changed", "first_lifts", "Table", "_law_mixed", "_law_well", "_law_draw", "_law_one", "_law_shuffled", "_law_pairs", "_law_ring", "_law_strange"]
def lo1 : List Str := ["_law_step", "_law_are_apart", "_law_rounds", "_law_one_change", "_law_one_turn", "_law_deed", "_law_kept", "_law_right"]
abbrev loose : List Str := lo0 ++ lo1
abbrev R : PySem.W.OpenRow := PySem.W.OpenLaw.row PySem.Challenge.rw_neverpass_k66_whole_lifts_through_books
abbrev hk : PySem.W.Hook := He.hookD 4 fa fn
def ob (s : PySem.W.SharedT) : He.AlD := He.obsDG 4 fa fn (HandSHeadRun.getT s)
theorem ob_eq (s : PySem.W.SharedT) : ob s = hk.obs s.abs := He.obsDG_eq (HandSHeadRun.getT_eq s)
theorem run (w : World) : HandSHeadRun.RunEq R (PySem.W.view R.prog [44]) hk ob 6000 loose w := by
  intro os
  kernel_rfl
end Nk66
open PySem PySem.W PySem.Calls PyProof.Rows
theorem PySem.Challenge.cw_neverpass_k66_whole_lifts_through_books_holds : PySem.Challenge.rw_neverpass_k66_whole_lifts_through_books.Holds := by
  w_on; o_law
  refine HandSHeadRun.head_any (r := OpenLaw.row PySem.Challenge.rw_neverpass_k66_whole_lifts_through_books) (q := view (OpenLaw.row PySem.Challenge.rw_neverpass_k66_whole_lifts_through_books).prog [44]) (H := Nk66.hk) (ob := Nk66.ob) (M := 6000) (loose := Nk66.loose) (d := HandSHeadRun.topDef (OpenLaw.row PySem.Challenge.rw_neverpass_k66_whole_lifts_through_books).prog 44) (kwd := []) Nk66.ob_eq
    (by kernel_rfl) (fun s => by kernel_rfl) Nk66.run (by kernel_rfl) (by kernel_rfl) (by kernel_rfl) (by rfl) (by first | assumption | decide +kernel) (by decide +kernel) ⟨rfl, rfl, rfl, rfl, rfl, by decide +kernel⟩ ?hw ?hc
  case hw => w_witness2
  case hc =>
    refine L2.walk_ofE (l := PySem.Challenge.rw_neverpass_k66_whole_lifts_through_books) (n := 63) (k := 10) (x := "_law_script") (CX := L2.CX0) rfl (by decide) (by kernel_rfl) ⟨rfl, by decide, by decide⟩ ?F (fun _ _ _ _ z => z)
    intro w mg fa h Y G hmg0
    obtain ⟨K, KX, c⟩ := Y
    have hmg : mg ("law" : PySem.Str) = some (.ref fa) := by
      have e : (HandSHeadRun.topDef (OpenLaw.row PySem.Challenge.rw_neverpass_k66_whole_lifts_through_books).prog 44).name = ("law" : PySem.Str) := by kernel_rfl
      rw [← e]
      exact hmg0
    have T : DL.Tx Nk66.fa Nk66.fn K mg := ⟨h, KX, G, c⟩
    have e := hmg.symm.trans (T.glo 72)
    cases e
    obtain ⟨fd, hb, hF⟩ := Nk66.ok_f_law (P := (PySem.Challenge.rw_neverpass_k66_whole_lifts_through_books).prog) (w := w) T
    exact ⟨K, fd, DL.sp0 63 K, KX, hb, fun H a ns hl _ hS => DL.only_law H a ns hl hS _, fun base _ _ => hF base⟩

