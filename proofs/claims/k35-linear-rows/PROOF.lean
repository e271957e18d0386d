import PyProof.Rows.All
import Wide.All
import OpenK.AllK
import Wide.FinOn
import HandS.ForMost
import HandS.Wide
import HandS.Flow
import HandS.IsInst
import HandS.Defaults
import HandS.TupAny
import HandS.Deep
import HandS.Zip
import HandS.RaiseMore
import HandS.Conv
import HandS.Head0
import HandS.Head1
import HandS.Head2
import HandS.HeadEnd
import HandS.HeadHook1
import HandS.HeadHook2
import HandS.HeadHook4
import PyProof.ReprReads
import KE.GoesEnum
import PySem.Challenge.RW_soldwhole_k35_linear_rows
set_option Elab.async false
set_option linter.all false
set_option maxRecDepth 100000
set_option autoImplicit false
namespace Lay
open PySem PySem.Spec PyProof.Rows L2

/-! ## data: trees, how they lie in the abstract heap -/
abbrev D := PyData
abbrev En := List (Option D)

def KeyD : D → Key → Prop
  | .int i, .inl j => i = j
  | .str x, .inr y => x = y
  | _, _ => False
def KeysD : List D → List Key → Prop
  | [], [] => True
  | d :: ds, k :: ks => KeyD d k ∧ KeysD ds ks
  | _, _ => False
def KeyT : D → List Key → Prop
  | .tuple ds, ks => KeysD ds ks
  | _, _ => False

/-- a tuple of the written part -/
def KT (K : PySem.W.Frag) (a : Addr) (xs : List V) : Prop := ∃ (o : Obj) (its : Array Value) (n : Nat), K.lookup a = some o ∧ o.cls = .type "tuple" ∧ o.data = .seq its n ∧ its.size ≤ sizeLine ∧ Vals xs its.toList
def TupAt (K : PySem.W.Frag) (H : Hp) (a : Addr) (xs : List V) : Prop := H a = some (.tup xs) ∨ KT K a xs
theorem TupAt.sq {K : PySem.W.Frag} {H : Hp} {a : Addr} {xs : List V} : TupAt K H a xs → SqT K H a xs
  | .inl h => .inl (.inl h)
  | .inr h => .inr h
mutual
inductive Dat (K : PySem.W.Frag) (H : Hp) : D → V → Prop
  | non : Dat K H .none .non
  | bl (b : Bool) : Dat K H (.bool b) (.bl b)
  | int (i : Int) : Dat K H (.int i) (.int i)
  | str (x : Str) : Dat K H (.str x) (.str x)
  | lst {a : Addr} {xs : List V} {ds : List D} : SqL K H a xs → xs.length ≤ sizeLine → Dats K H ds xs → Dat K H (.list ds) (.ref a)
  | tup {a : Addr} {xs : List V} {ds : List D} : TupAt K H a xs → xs.length ≤ sizeLine → Dats K H ds xs → Dat K H (.tuple ds) (.ref a)
  | dk {a : Addr} {es : List (Key × V)} {kvs : List (D × D)} : H a = some (.dK es) → DatK K H kvs es → Dat K H (.dict kvs) (.ref a)
  | dt {a : Addr} {es : List (List Key × V)} {kvs : List (D × D)} : H a = some (.dT es) → DatT K H kvs es → Dat K H (.dict kvs) (.ref a)
inductive Dats (K : PySem.W.Frag) (H : Hp) : List D → List V → Prop
  | nil : Dats K H [] []
  | cons {d : D} {v : V} {ds : List D} {vs : List V} : Dat K H d v → Dats K H ds vs → Dats K H (d :: ds) (v :: vs)
inductive DatK (K : PySem.W.Frag) (H : Hp) : List (D × D) → List (Key × V) → Prop
  | nil : DatK K H [] []
  | cons {k d : D} {kk : Key} {v : V} {r : List (D × D)} {s : List (Key × V)} : KeyD k kk → Dat K H d v → DatK K H r s → DatK K H ((k, d) :: r) ((kk, v) :: s)
inductive DatT (K : PySem.W.Frag) (H : Hp) : List (D × D) → List (List Key × V) → Prop
  | nil : DatT K H [] []
  | cons {k d : D} {kk : List Key} {v : V} {r : List (D × D)} {s : List (List Key × V)} : KeyT k kk → Dat K H d v → DatT K H r s → DatT K H ((k, d) :: r) ((kk, v) :: s)
end

/-- what carries data from one heap to another -/
structure Tr (K : PySem.W.Frag) (H H' : Hp) : Prop where
  l : ∀ a xs, SqL K H a xs → SqL K H' a xs
  t : ∀ a xs, TupAt K H a xs → TupAt K H' a xs
  k : ∀ a es, H a = some (.dK es) → H' a = some (.dK es)
  d : ∀ a es, H a = some (.dT es) → H' a = some (.dT es)
def Ext (H H' : Hp) : Prop := ∀ a o, H a = some o → H' a = some o
theorem Ext.refl (H : Hp) : Ext H H := fun _ _ h => h
theorem Ext.trans {H H1 H2 : Hp} (x : Ext H H1) (y : Ext H1 H2) : Ext H H2 := fun a o h => y a o (x a o h)
theorem Ext.new {H : Hp} {p : Addr} {o : HO} (h : H p = none) : Ext H (upd H p o) := fun a u e => by
  rw [upd_ne (ne_of_none e h)]; exact e
theorem SqL.ext {K : PySem.W.Frag} {H H' : Hp} {a : Addr} {xs : List V} (e : Ext H H') (h : SqL K H a xs) : SqL K H' a xs := by
  rcases h with (h | ⟨o, h⟩) | h
  · exact .inl (.inl (e _ _ h))
  · exact .inl (.inr ⟨o, e _ _ h⟩)
  · exact .inr h
theorem Ext.tr {K : PySem.W.Frag} {H H' : Hp} (e : Ext H H') : Tr K H H' where
  l := fun _ _ h => SqL.ext e h
  t := fun _ _ h => h.elim (fun h => .inl (e _ _ h)) .inr
  k := fun _ _ h => e _ _ h
  d := fun _ _ h => e _ _ h

section
variable {K : PySem.W.Frag} {H H' : Hp}
mutual
theorem Dat.tr (t : Tr K H H') : ∀ (d : D) (v : V), Dat K H d v → Dat K H' d v
  | .none, _, h => by cases h; exact .non
  | .bool b, _, h => by cases h; exact .bl b
  | .int i, _, h => by cases h; exact .int i
  | .str x, _, h => by cases h; exact .str x
  | .list ds, _, h => by
    cases h with
    | lst h z r => exact .lst (t.l _ _ h) z (Dats.tr t ds _ r)
  | .tuple ds, _, h => by
    cases h with
    | tup h z r => exact .tup (t.t _ _ h) z (Dats.tr t ds _ r)
  | .dict kvs, _, h => by
    cases h with
    | dk h r => exact .dk (t.k _ _ h) (DatK.tr t kvs _ r)
    | dt h r => exact .dt (t.d _ _ h) (DatT.tr t kvs _ r)
theorem Dats.tr (t : Tr K H H') : ∀ (ds : List D) (vs : List V), Dats K H ds vs → Dats K H' ds vs
  | [], _, h => by cases h; exact .nil
  | d :: ds, _, h => by
    cases h with
    | cons h r => exact .cons (Dat.tr t d _ h) (Dats.tr t ds _ r)
theorem DatK.tr (t : Tr K H H') : ∀ (ds : List (D × D)) (vs : List (Key × V)), DatK K H ds vs → DatK K H' ds vs
  | [], _, h => by cases h; exact .nil
  | (k, d) :: ds, _, h => by
    cases h with
    | cons q h r => exact .cons q (Dat.tr t d _ h) (DatK.tr t ds _ r)
theorem DatT.tr (t : Tr K H H') : ∀ (ds : List (D × D)) (vs : List (List Key × V)), DatT K H ds vs → DatT K H' ds vs
  | [], _, h => by cases h; exact .nil
  | (k, d) :: ds, _, h => by
    cases h with
    | cons q h r => exact .cons q (Dat.tr t d _ h) (DatT.tr t ds _ r)
end
theorem Dat.ext (e : Ext H H') {d : D} {v : V} (h : Dat K H d v) : Dat K H' d v := Dat.tr e.tr d v h
theorem Dats.ext (e : Ext H H') {d : List D} {v : List V} (h : Dats K H d v) : Dats K H' d v := Dats.tr e.tr d v h
theorem Dats.len : ∀ {ds : List D} {vs : List V}, Dats K H ds vs → ds.length = vs.length
  | _, _, .nil => rfl
  | _, _, .cons _ r => congrArg (· + 1) (Dats.len r)
theorem Dats.get : ∀ {ds : List D} {vs : List V} {i : Nat} {d : D}, Dats K H ds vs → ds[i]? = some d → ∃ v, vs[i]? = some v ∧ Dat K H d v
  | _, _, _, _, .nil, e => by simp at e
  | _, _, 0, _, .cons h _, e => by simp at e; subst e; exact ⟨_, rfl, h⟩
  | _, _, i + 1, _, .cons _ r, e => by
    obtain ⟨v, h1, h2⟩ := Dats.get (i := i) r (by simpa using e)
    exact ⟨v, by simpa using h1, h2⟩
theorem Dats.getV : ∀ {ds : List D} {vs : List V} {i : Nat} {v : V}, Dats K H ds vs → vs[i]? = some v → ∃ d, ds[i]? = some d ∧ Dat K H d v
  | _, _, _, _, .nil, e => by simp at e
  | _, _, 0, _, .cons h _, e => by simp at e; subst e; exact ⟨_, rfl, h⟩
  | _, _, i + 1, _, .cons _ r, e => by
    obtain ⟨v, h1, h2⟩ := Dats.getV (i := i) r (by simpa using e)
    exact ⟨v, by simpa using h1, h2⟩
theorem Dats.app : ∀ {ds es : List D} {vs ws : List V}, Dats K H ds vs → Dats K H es ws → Dats K H (ds ++ es) (vs ++ ws)
  | _, _, _, _, .nil, s => s
  | _, _, _, _, .cons h r, s => .cons h (Dats.app r s)
theorem Dats.take : ∀ {ds : List D} {vs : List V} (n : Nat), Dats K H ds vs → Dats K H (ds.take n) (vs.take n)
  | _, _, 0, _ => .nil
  | _, _, _ + 1, .nil => .nil
  | _, _, n + 1, .cons h r => .cons h (Dats.take n r)
theorem Dats.drop : ∀ {ds : List D} {vs : List V} (n : Nat), Dats K H ds vs → Dats K H (ds.drop n) (vs.drop n)
  | _, _, 0, r => r
  | _, _, _ + 1, .nil => .nil
  | _, _, n + 1, .cons _ r => Dats.drop n r
theorem Dats.set {d : D} {v : V} (q : Dat K H d v) : ∀ {ds : List D} {vs : List V} (i : Nat), Dats K H ds vs → Dats K H (ds.set i d) (vs.set i v)
  | _, _, _, .nil => .nil
  | _, _, 0, .cons _ r => .cons q r
  | _, _, i + 1, .cons h r => .cons h (Dats.set q i r)
theorem Dats.erase : ∀ {ds : List D} {vs : List V} (i : Nat), Dats K H ds vs → Dats K H (ds.eraseIdx i) (vs.eraseIdx i)
  | _, _, _, .nil => .nil
  | _, _, 0, .cons _ r => r
  | _, _, i + 1, .cons h r => .cons h (Dats.erase i r)
end

/-! ## hidden addresses, owned slots -/
theorem TupAt.mono {K : PySem.W.Frag} {H H' : Hp} {a : Addr} {xs : List V} (e : Ext H H') : TupAt K H a xs → TupAt K H' a xs
  | .inl h => .inl (e _ _ h)
  | .inr h => .inr h
def hid (Z : List Addr) (H : Hp) : Hp := fun a => if a ∈ Z then none else H a
theorem hid_some {Z : List Addr} {H : Hp} {a : Addr} {o : HO} : hid Z H a = some o ↔ a ∉ Z ∧ H a = some o := by
  unfold hid
  split
  · constructor
    · intro h; cases h
    · intro h; exact absurd ‹a ∈ Z› h.1
  · constructor
    · intro h; exact ⟨‹_›, h⟩
    · intro h; exact h.2
abbrev Ow := List (Nat × Addr)
abbrev adr (own : Ow) : List Addr := own.map (·.2)
/-- everything but what is owned stands -/
def Gro (own : Ow) (H H' : Hp) : Prop := ∀ a o, H a = some o → a ∉ adr own → H' a = some o
theorem nadr {own : Ow} {tc : List Nat} {a : Addr} (h : a ∉ adr own) : ∀ j, (j, a) ∈ own → j ∉ tc := fun j q => absurd (List.mem_map.mpr ⟨_, q, rfl⟩) h
/-- everything stands but what the slots tc own -/
def Grt (tc : List Nat) (own : Ow) (H H' : Hp) : Prop := ∀ a o, H a = some o → (∀ j, (j, a) ∈ own → j ∉ tc) → H' a = some o
theorem Grt.refl {tc : List Nat} {own : Ow} {H : Hp} : Grt tc own H H := fun _ _ h _ => h
theorem Grt.trans {tc : List Nat} {own : Ow} {H H1 H2 : Hp} (x : Grt tc own H H1) (y : Grt tc own H1 H2) : Grt tc own H H2 := fun a o h n => y a o (x a o h n) n
theorem Grt.of {tc : List Nat} {own : Ow} {H H' : Hp} (x : Ext H H') : Grt tc own H H' := fun a o h _ => x a o h
theorem Grt.all {tc : List Nat} {own : Ow} {H H' : Hp} (x : Grt tc own H H') : Gro own H H' := fun a o h n => x a o h (nadr n)
theorem Grt.ext {own : Ow} {H H' : Hp} (x : Grt [] own H H') : Ext H H' := fun a o h => x a o h fun _ _ => List.not_mem_nil
theorem Gro.refl {own : Ow} {H : Hp} : Gro own H H := fun _ _ h _ => h
theorem Gro.trans {own : Ow} {H H1 H2 : Hp} (x : Gro own H H1) (y : Gro own H1 H2) : Gro own H H2 := fun a o h n => y a o (x a o h n) n
theorem Gro.of {own : Ow} {H H' : Hp} (x : Ext H H') : Gro own H H' := fun a o h _ => x a o h
theorem Gro.hid {own : Ow} {H H' : Hp} {Z : List Addr} (x : Gro own H H') : Ext (hid (adr own ++ Z) H) (hid (adr own ++ Z) H') := fun a o h => by
  have := hid_some.mp h
  exact hid_some.mpr ⟨this.1, x a o this.2 fun q => this.1 (List.mem_append_left _ q)⟩
theorem Grt.hid {tc : List Nat} {own : Ow} {H H' : Hp} {Z : List Addr} (x : Grt tc own H H') : Ext (hid (adr own ++ Z) H) (hid (adr own ++ Z) H') := x.all.hid
theorem hid_sub {Z Z' : List Addr} {H : Hp} (h : ∀ a ∈ Z', a ∈ Z) : Ext (hid Z H) (hid Z' H) := fun a o e => by
  have := hid_some.mp e
  exact hid_some.mpr ⟨fun q => this.1 (h a q), this.2⟩
theorem hid_new {Z : List Addr} {p : Addr} {H : Hp} (h : H p = none) : Ext (hid Z H) (hid (p :: Z) H) := fun a o e => by
  have := hid_some.mp e
  refine hid_some.mpr ⟨fun q => ?_, this.2⟩
  rcases List.mem_cons.mp q with q | q
  · subst q; rw [h] at this; cases this.2
  · exact this.1 q

/-- what an owned object holds -/
inductive Ob (K : PySem.W.Frag) (H : Hp) : D → HO → Prop
  | lst {ds : List D} {xs : List V} : xs.length ≤ sizeLine → Dats K H ds xs → Ob K H (.list ds) (.lst xs)
  | dk {kvs : List (D × D)} {es : List (Key × V)} : DatK K H kvs es → Ob K H (.dict kvs) (.dK es)
  | dt {kvs : List (D × D)} {es : List (List Key × V)} : DatT K H kvs es → Ob K H (.dict kvs) (.dT es)
theorem Ob.tr {K : PySem.W.Frag} {H H' : Hp} (t : Tr K H H') {d : D} {o : HO} (h : Ob K H d o) : Ob K H' d o := by
  cases h with
  | lst z r => exact .lst z (Dats.tr t _ _ r)
  | dk r => exact .dk (DatK.tr t _ _ r)
  | dt r => exact .dt (DatT.tr t _ _ r)
theorem Ob.ext {K : PySem.W.Frag} {H H' : Hp} (e : Ext H H') {d : D} {o : HO} (h : Ob K H d o) : Ob K H' d o := h.tr e.tr
theorem Ob.dat {K : PySem.W.Frag} {H : Hp} {d : D} {o : HO} {a : Addr} (h : Ob K H d o) (e : H a = some o) : Dat K H d (.ref a) := by
  cases h with
  | lst z r => exact .lst (SqL.of e) z r
  | dk r => exact .dk e r
  | dt r => exact .dt e r

structure Rep (K : PySem.W.Frag) (own : Ow) (Z : List Addr) (ρ : En) (σ : L2.St) (H : Hp) : Prop where
  len : ρ.length = σ.length
  dat : ∀ (i : Nat) (d : D), ρ[i]? = some (some d) → i ∉ own.map (·.1) → ∃ v, σ[i]? = some (some v) ∧ Dat K (hid (adr own ++ Z) H) d v
  obj : ∀ (i : Nat) (a : Addr), (i, a) ∈ own → σ[i]? = some (some (.ref a)) ∧ ∃ d o, ρ[i]? = some (some d) ∧ H a = some o ∧ Ob K (hid (adr own ++ Z) H) d o
  nd1 : (own.map (·.1)).Nodup
  nd2 : (adr own).Nodup
  dis : ∀ a ∈ adr own, a ∉ Z
  zin : ∀ z ∈ Z, ∃ o, H z = some o

section
variable {K : PySem.W.Frag} {own : Ow} {Z : List Addr} {ρ : En} {σ : L2.St} {H H' : Hp}
theorem Rep.ain (R : Rep K own Z ρ σ H) {a : Addr} (h : a ∈ adr own) : ∃ o, H a = some o := by
  obtain ⟨⟨i, b⟩, hm, rfl⟩ := List.mem_map.mp h
  obtain ⟨_, d, o, _, e, _⟩ := R.obj i b hm
  exact ⟨o, e⟩
theorem Rep.new_nin (R : Rep K own Z ρ σ H) {p : Addr} (h : H p = none) : p ∉ adr own ++ Z := fun q => by
  rcases List.mem_append.mp q with q | q
  · obtain ⟨o, e⟩ := R.ain q; rw [h] at e; cases e
  · obtain ⟨o, e⟩ := R.zin p q; rw [h] at e; cases e
/-- the whole heap stands -/
theorem Rep.ext (R : Rep K own Z ρ σ H) (e : Ext H H') : Rep K own Z ρ σ H' where
  len := R.len
  dat := fun i d h n => let ⟨v, h1, h2⟩ := R.dat i d h n; ⟨v, h1, h2.ext (Gro.of e).hid⟩
  obj := fun i a h => let ⟨h1, d, o, h2, h3, h4⟩ := R.obj i a h; ⟨h1, d, o, h2, e _ _ h3, h4.ext (Gro.of e).hid⟩
  nd1 := R.nd1
  nd2 := R.nd2
  dis := R.dis
  zin := fun z h => let ⟨o, q⟩ := R.zin z h; ⟨o, e _ _ q⟩
/-- a slot takes data -/
theorem Rep.set (R : Rep K own Z ρ σ H) {i : Nat} {d : D} {v : V} (hi : i ∉ own.map (·.1)) (h : Dat K (hid (adr own ++ Z) H) d v) : Rep K own Z (ρ.set i (some d)) (σ.set i (some v)) H where
  len := by rw [List.length_set, List.length_set]; exact R.len
  dat := fun j e q n => by
    rw [List.getElem?_set] at q
    by_cases hij : i = j
    · subst hij
      simp only [if_true] at q
      split at q
      · rename_i hl
        simp only [Option.some.injEq] at q
        subst q
        exact ⟨v, by rw [List.getElem?_set]; simp [R.len ▸ hl], h⟩
      · cases q
    · rw [if_neg hij] at q
      obtain ⟨w, h1, h2⟩ := R.dat j e q n
      exact ⟨w, by rw [List.getElem?_set, if_neg hij]; exact h1, h2⟩
  obj := fun j a q => by
    obtain ⟨h1, e, o, h2, h3, h4⟩ := R.obj j a q
    have hij : i ≠ j := fun z => hi (by subst z; exact List.mem_map.mpr ⟨_, q, rfl⟩)
    exact ⟨by rw [List.getElem?_set, if_neg hij]; exact h1, e, o, by rw [List.getElem?_set, if_neg hij]; exact h2, h3, h4⟩
  nd1 := R.nd1
  nd2 := R.nd2
  dis := R.dis
  zin := R.zin
/-- a slot is forgotten -/
theorem Rep.kill (R : Rep K own Z ρ σ H) {i : Nat} (hi : i ∉ own.map (·.1)) : Rep K own Z (ρ.set i none) σ H where
  len := by rw [List.length_set]; exact R.len
  dat := fun j e q n => by
    rw [List.getElem?_set] at q
    by_cases hij : i = j
    · subst hij
      simp only [if_true] at q
      split at q <;> cases q
    · rw [if_neg hij] at q
      exact R.dat j e q n
  obj := fun j a q => by
    obtain ⟨h1, e, o, h2, h3, h4⟩ := R.obj j a q
    have hij : i ≠ j := fun z => hi (by subst z; exact List.mem_map.mpr ⟨_, q, rfl⟩)
    exact ⟨h1, e, o, by rw [List.getElem?_set, if_neg hij]; exact h2, h3, h4⟩
  nd1 := R.nd1
  nd2 := R.nd2
  dis := R.dis
  zin := R.zin
/-- a new object is hidden -/
theorem Rep.hide (R : Rep K own Z ρ σ H) {p : Addr} {o : HO} (hn : H p = none) (e : Gro own H H') (ea : ∀ a ∈ adr own, H' a = H a) (hp : H' p = some o) : Rep K own (p :: Z) ρ σ H' := by
  have x : Ext (hid (adr own ++ Z) H) (hid (adr own ++ p :: Z) H') := fun a u q => by
    have := hid_some.mp q
    refine hid_some.mpr ⟨fun z => ?_, e a u this.2 fun z => this.1 (List.mem_append_left _ z)⟩
    rcases List.mem_append.mp z with z | z
    · exact this.1 (List.mem_append_left _ z)
    · rcases List.mem_cons.mp z with z | z
      · subst z; rw [hn] at this; cases this.2
      · exact this.1 (List.mem_append_right _ z)
  refine ⟨R.len, fun i d h n => ?_, fun i a h => ?_, R.nd1, R.nd2, fun a h z => ?_, fun y h => ?_⟩
  · obtain ⟨v, h1, h2⟩ := R.dat i d h n
    exact ⟨v, h1, h2.ext x⟩
  · obtain ⟨h1, d, u, h2, h3, h4⟩ := R.obj i a h
    exact ⟨h1, d, u, h2, by rw [ea a (List.mem_map.mpr ⟨_, h, rfl⟩)]; exact h3, h4.ext x⟩
  · rcases List.mem_cons.mp z with z | z
    · subst z; exact R.new_nin hn (List.mem_append_left _ h)
    · exact R.dis a h z
  · rcases List.mem_cons.mp h with z | z
    · subst z; exact ⟨o, hp⟩
    · obtain ⟨u, q⟩ := R.zin y z
      by_cases hz : y ∈ adr own
      · exact ⟨u, by rw [ea y hz]; exact q⟩
      · exact ⟨u, e y u q hz⟩
/-- what was hidden is shown -/
theorem Rep.unhide {p : Addr} (R : Rep K own (p :: Z) ρ σ H) : Rep K own Z ρ σ H := by
  have x : Ext (hid (adr own ++ p :: Z) H) (hid (adr own ++ Z) H) := hid_sub fun a h => by
    rcases List.mem_append.mp h with h | h
    · exact List.mem_append_left _ h
    · exact List.mem_append_right _ (List.mem_cons_of_mem _ h)
  refine ⟨R.len, fun i d h n => ?_, fun i a h => ?_, R.nd1, R.nd2, fun a h z => R.dis a h (List.mem_cons_of_mem _ z), fun z h => R.zin z (List.mem_cons_of_mem _ h)⟩
  · obtain ⟨v, h1, h2⟩ := R.dat i d h n
    exact ⟨v, h1, h2.ext x⟩
  · obtain ⟨h1, d, u, h2, h3, h4⟩ := R.obj i a h
    exact ⟨h1, d, u, h2, h3, h4.ext x⟩
end
end Lay

namespace Lay
open PySem PySem.Spec PyProof.Rows L2

/-! ## what a reading realises -/
abbrev XE := En → Option (D × En)
abbrev XT := En → Option (Bool × En)
abbrev XA := En → Option (List D × En)

section
variable (K : PySem.W.Frag) (tc ow : List Nat)
def Sem (te : TE) (f : XE) : Prop := ∀ (own : Ow) (Z : List Addr) (ρ : En) (σ : L2.St) (H : Hp) (d : D) (ρ' : En) (Q : VK), own.map (·.1) = ow → Rep K own Z ρ σ H → f ρ = some (d, ρ') →
  (∀ v H', Rep K own Z ρ' σ H' → Grt tc own H H' → Dat K (hid (adr own ++ Z) H') d v → Q v H') → te σ H Q
def SemT (tt : TT) (f : XT) : Prop := ∀ (own : Ow) (Z : List Addr) (ρ : En) (σ : L2.St) (H : Hp) (b : Bool) (ρ' : En) (Q : Bool → Hp → Prop), own.map (·.1) = ow → Rep K own Z ρ σ H → f ρ = some (b, ρ') →
  (∀ H', Rep K own Z ρ' σ H' → Grt tc own H H' → Q b H') → tt σ H Q
def SemA (ta : TA) (f : XA) : Prop := ∀ (own : Ow) (Z : List Addr) (ρ : En) (σ : L2.St) (H : Hp) (ds : List D) (ρ' : En) (Q : List V → Hp → Prop), own.map (·.1) = ow → Rep K own Z ρ σ H → f ρ = some (ds, ρ') →
  (∀ vs H', Rep K own Z ρ' σ H' → Grt tc own H H' → Dats K (hid (adr own ++ Z) H') ds vs → Q vs H') → ta σ H Q
/-- a new list, a new dict -/
def SemF (te : TE) (f : XE) : Prop := ∀ (own : Ow) (Z : List Addr) (ρ : En) (σ : L2.St) (H : Hp) (d : D) (ρ' : En) (Q : VK), own.map (·.1) = ow → Rep K own Z ρ σ H → f ρ = some (d, ρ') →
  (∀ p o H', Rep K own (p :: Z) ρ' σ H' → Grt tc own H H' → H p = none → H' p = some o → Ob K (hid (adr own ++ p :: Z) H') d o → Q (.ref p) H') → te σ H Q
end

structure Ct where
  P : Program
  w : World
  K : PySem.W.Frag
  mg : Str → Option Value
  base : Heap
/-- the contexts a piece of syntax runs in: a body's one, a comprehension's blocks -/
structure Fam {ι : Type} (X : ι → Cx) (C : Ct) (N : List Str) (k : Nat) : Prop where
  P : ∀ i, (X i).prog = C.P
  w : ∀ i, (X i).w = C.w
  K : ∀ i, (X i).K = C.K
  mg : ∀ i, (X i).mg = C.mg
  base : ∀ i, (X i).base = C.base
  nm : ∀ i, (X i).N = N
  nd : N.Nodup
  calm : ∀ i, (X i).calm = true
  room : ∀ i, Room k (X i).A
  gd : ∀ i, (X i).A.guards = some []

section
variable {ι : Type} (X : ι → Cx) (C : Ct) (tc ow : List Nat)
structure RE (e : Expr) (f : XE) : Prop where
  ex : ∃ te, (∀ i, PE (X i) e te) ∧ Sem C.K tc ow te f
structure RF (e : Expr) (f : XE) : Prop where
  ex : ∃ te, (∀ i, PE (X i) e te) ∧ SemF C.K tc ow te f
structure RT (e : Expr) (f : XT) : Prop where
  ex : ∃ tt, (∀ i, PT (X i) e tt) ∧ SemT C.K tc ow tt f
structure RW (e : Expr) (f : XT) : Prop where
  ex : ∃ tt, (∀ i, PW (X i) e tt) ∧ SemT C.K tc ow tt f
structure RA (es : List Expr) (f : XA) : Prop where
  ex : ∃ ta, (∀ i, PA (X i) es ta) ∧ SemA C.K tc ow ta f
  len : ∀ ρ ds ρ', f ρ = some (ds, ρ') → ds.length = es.length
end

/-! ## combinators -/
def varE (i : Nat) : XE := fun ρ => match ρ[i]? with
  | some (some d) => some (d, ρ)
  | _ => none
def cE (d : D) : XE := fun ρ => some (d, ρ)
def opE (g : D → D → Option D) (fa fb : XE) : XE := fun ρ => (fa ρ).bind fun p => (fb p.2).bind fun q => (g p.1 q.1).map fun z => (z, q.2)
def unE (g : D → Option D) (fa : XE) : XE := fun ρ => (fa ρ).bind fun p => (g p.1).map fun z => (z, p.2)
def nilA : XA := fun ρ => some ([], ρ)
def consA (fa : XE) (fr : XA) : XA := fun ρ => (fa ρ).bind fun p => (fr p.2).map fun q => (p.1 :: q.1, q.2)
def clE (g : List D → Option D) (fa : XA) : XE := fun ρ => (fa ρ).bind fun p => (g p.1).map fun z => (z, p.2)
def tupE (fa : XA) : XE := fun ρ => (fa ρ).bind fun p => if p.1.length ≤ sizeLine then some (.tuple p.1, p.2) else none
def lstE (fa : XA) : XE := fun ρ => (fa ρ).bind fun p => if p.1.length ≤ sizeLine then some (.list p.1, p.2) else none
def asB : D → Option Bool
  | .bool b => some b
  | _ => none
def tE (f : XE) : XT := fun ρ => (f ρ).bind fun p => (asB p.1).map fun b => (b, p.2)
def eT (f : XT) : XE := fun ρ => (f ρ).map fun p => (.bool p.1, p.2)
def andT (f g : XT) : XT := fun ρ => (f ρ).bind fun p => if p.1 = true then g p.2 else some (false, p.2)
def orT (f g : XT) : XT := fun ρ => (f ρ).bind fun p => if p.1 = true then some (true, p.2) else g p.2
def notT (f : XT) : XT := fun ρ => (f ρ).map fun p => (!p.1, p.2)
def ifE (t : XT) (f g : XE) : XE := fun ρ => (t ρ).bind fun p => if p.1 = true then f p.2 else g p.2
def chE (r r' : D → D → Option D) (fa fb fc : XE) : XE := fun ρ => (fa ρ).bind fun p => (fb p.2).bind fun q => (r p.1 q.1).bind fun z => (asB z).bind fun k =>
  if k = true then (fc q.2).bind fun u => (r' q.1 u.1).map fun y => (y, u.2) else some (.bool false, q.2)

/-! ## rules -/
section
variable {ι : Type} {X : ι → Cx} {C : Ct} {tc ow : List Nat} {N : List Str} {k : Nat}

theorem RF.re {e : Expr} {f : XE} (h : RF X C tc ow e f) : RE X C tc ow e f := by
  obtain ⟨te, h1, h2⟩ := h.ex
  refine ⟨te, h1, fun own Z ρ σ H d ρ' Q ho R hf hq => h2 own Z ρ σ H d ρ' Q ho R hf fun p o H' R' g hn hp ob => ?_⟩
  have hp2 : hid (adr own ++ Z) H' p = some o := hid_some.mpr ⟨R.new_nin hn, hp⟩
  have x : Ext (hid (adr own ++ p :: Z) H') (hid (adr own ++ Z) H') := hid_sub fun a h => by
    rcases List.mem_append.mp h with h | h
    · exact List.mem_append_left _ h
    · exact List.mem_append_right _ (List.mem_cons_of_mem _ h)
  exact hq _ _ R'.unhide g ((ob.ext x).dat hp2)

theorem re_var (F : Fam X C N k) (i : Nat) {x : Str} {pos : Pos} (hN : N[i]? = some x) (hv : ∀ j, Vis (X j).env.scope x) (hi : ow.contains i = false) (hd : (x == ("__debug__" : Str)) = false := by decide) (hcd : (x == ("__classdict__" : Str)) = false := by decide) :
    RE X C tc ow (.Name x pos) (varE i) := by
  refine ⟨tVar i, fun j => pe_var (by rw [F.nm j]; exact hN) (hv j) hd hcd, fun own Z ρ σ H d ρ' Q ho R hf hq => ?_⟩
  unfold varE at hf
  split at hf
  · rename_i e h1
    simp only [Option.some.injEq, Prod.mk.injEq] at hf
    obtain ⟨rfl, rfl⟩ := hf
    have hi' : i ∉ own.map (·.1) := fun z => by
      rw [ho] at z
      rw [List.contains_iff_mem.mpr z] at hi
      cases hi
    obtain ⟨v, h2, h3⟩ := R.dat i _ h1 hi'
    exact ⟨v, h2, hq v H R Grt.refl h3⟩
  · cases hf
theorem re_cst {e : Expr} {d : D} {v : V} (h : ∀ j, PE (X j) e (tC v)) (hd : ∀ H, Dat C.K H d v) : RE X C tc ow e (cE d) :=
  ⟨tC v, h, fun own Z ρ σ H d' ρ' Q ho R hf hq => by
    simp only [cE, Option.some.injEq, Prod.mk.injEq] at hf
    obtain ⟨rfl, rfl⟩ := hf
    exact hq v H R Grt.refl (hd _)⟩
theorem re_int {i : Int} {j : Nat} {pos : Pos} : RE X C tc ow (.Constant (.int i) j pos) (cE (.int i)) := re_cst (fun _ => pe_int) fun _ => .int i
theorem re_str {x : Str} {j : Nat} {pos : Pos} : RE X C tc ow (.Constant (.str x) j pos) (cE (.str x)) := re_cst (fun _ => pe_str) fun _ => .str x
theorem re_bl {b : Bool} {j : Nat} {pos : Pos} : RE X C tc ow (.Constant (.bool b) j pos) (cE (.bool b)) := re_cst (fun _ => pe_bl) fun _ => .bl b
theorem re_non {j : Nat} {pos : Pos} : RE X C tc ow (.Constant .none j pos) (cE .none) := re_cst (fun _ => pe_non) fun _ => .non
/-- a module's constant -/
theorem re_glob (F : Fam X C N k) {x : Str} {a : Addr} {d : D} {pos : Pos} (hm : C.mg x = some (.ref a)) (hd : ∀ H, Dat C.K H d (.ref a)) (hg : ∀ j, Gl (X j) x) (hdb : (x == ("__debug__" : Str)) = false := by decide) :
    RE X C tc ow (.Name x pos) (cE d) := re_cst (v := .ref a) (fun j => pe_glob (hg j) (by rw [F.mg j]; exact hm) rfl hdb) hd

/-- an operator by values -/
def Zok (Z : List Addr) (H : Hp) : Prop := ∀ z ∈ Z, ∃ o, H z = some o
def OpS (K : PySem.W.Frag) (r : R2) (g : D → D → Option D) : Prop := ∀ (Z : List Addr) (H : Hp) (x y : V) (dx dy z : D) (Q : VK), Zok Z H → Dat K (hid Z H) dx x → Dat K (hid Z H) dy y → g dx dy = some z →
  (∀ v H', Ext H H' → Dat K (hid Z H') z v → Q v H') → r x y H Q
def UnS (K : PySem.W.Frag) (r : V → Hp → VK → Prop) (g : D → Option D) : Prop := ∀ (Z : List Addr) (H : Hp) (x : V) (dx z : D) (Q : VK), Zok Z H → Dat K (hid Z H) dx x → g dx = some z →
  (∀ v H', Ext H H' → Dat K (hid Z H') z v → Q v H') → r x H Q
def ClS (K : PySem.W.Frag) (r : List V → Hp → VK → Prop) (g : List D → Option D) : Prop := ∀ (Z : List Addr) (H : Hp) (xs : List V) (ds : List D) (z : D) (Q : VK), Zok Z H → Dats K (hid Z H) ds xs → g ds = some z →
  (∀ v H', Ext H H' → Dat K (hid Z H') z v → Q v H') → r xs H Q
/-- a call that makes a new list or dict -/
def ClF (K : PySem.W.Frag) (r : List V → Hp → VK → Prop) (g : List D → Option D) : Prop := ∀ (Z : List Addr) (H : Hp) (xs : List V) (ds : List D) (z : D) (Q : VK), Zok Z H → Dats K (hid Z H) ds xs → g ds = some z →
  (∀ p o H', Ext H H' → H p = none → H' p = some o → Ob K (hid (p :: Z) H') z o → Q (.ref p) H') → r xs H Q
theorem Rep.zok {K : PySem.W.Frag} {own : Ow} {Z : List Addr} {ρ : En} {σ : L2.St} {H : Hp} (R : Rep K own Z ρ σ H) : Zok (adr own ++ Z) H := fun z h => by
  rcases List.mem_append.mp h with h | h
  · exact R.ain h
  · exact R.zin z h

theorem opE_some {g : D → D → Option D} {fa fb : XE} {ρ ρ' : En} {d : D} (h : opE g fa fb ρ = some (d, ρ')) : ∃ x ρ1 y, fa ρ = some (x, ρ1) ∧ fb ρ1 = some (y, ρ') ∧ g x y = some d := by
  unfold opE at h
  cases ha : fa ρ with
  | none => rw [ha] at h; cases h
  | some p =>
    obtain ⟨x, ρ1⟩ := p
    rw [ha] at h
    simp only [Option.bind_some] at h
    cases hb : fb ρ1 with
    | none => rw [hb] at h; cases h
    | some q =>
      obtain ⟨y, ρ2⟩ := q
      rw [hb] at h
      simp only [Option.bind_some] at h
      cases hg : g x y with
      | none => rw [hg] at h; cases h
      | some z =>
        rw [hg] at h
        simp only [Option.map_some, Option.some.injEq, Prod.mk.injEq] at h
        obtain ⟨rfl, rfl⟩ := h
        exact ⟨x, ρ1, y, rfl, hb, hg⟩
theorem sem_op {K : PySem.W.Frag} {r : R2} {g : D → D → Option D} {ta tb : TE} {fa fb : XE} (hs : OpS K r g) (ha : Sem K tc ow ta fa) (hb : Sem K tc ow tb fb) : Sem K tc ow (tOp r ta tb) (opE g fa fb) :=
  fun own Z ρ σ H d ρ' Q ho R hf hq => by
    obtain ⟨x, ρ1, y, h1, h2, h3⟩ := opE_some hf
    refine ha own Z ρ σ H x ρ1 _ ho R h1 fun v H1 R1 g1 d1 => ?_
    refine hb own Z ρ1 σ H1 y ρ' _ ho R1 h2 fun u H2 R2 g2 d2 => ?_
    exact hs _ H2 v u x y d Q R2.zok (d1.ext g2.hid) d2 h3 fun z H3 e d3 => hq z H3 (R2.ext e) ((g1.trans g2).trans (Grt.of e)) d3
theorem re_op {op : Operator} {r : R2} {g : D → D → Option D} {a b : Expr} {fa fb : XE} {pos : Pos} (ho : ∀ i, OpR (X i) (binaryOp op) r) (hs : OpS C.K r g) (ha : RE X C tc ow a fa) (hb : RE X C tc ow b fb) :
    RE X C tc ow (.BinOp a op b pos) (opE g fa fb) := by
  obtain ⟨ta, a1, a2⟩ := ha.ex
  obtain ⟨tb, b1, b2⟩ := hb.ex
  exact ⟨_, fun i => pe_op (ho i) (a1 i) (b1 i), sem_op hs a2 b2⟩
theorem re_cmp {op : CmpOp} {r : R2} {g : D → D → Option D} {a b : Expr} {fa fb : XE} {pos : Pos} (ho : ∀ i, OpR (X i) (compareOp op) r) (hs : OpS C.K r g) (hm : behindInMarks op b = false) (ha : RE X C tc ow a fa) (hb : RE X C tc ow b fb) :
    RE X C tc ow (.Compare a [op] [b] pos) (opE g fa fb) := by
  obtain ⟨ta, a1, a2⟩ := ha.ex
  obtain ⟨tb, b1, b2⟩ := hb.ex
  exact ⟨_, fun i => pe_cmpR (ho i) (a1 i) (b1 i) hm, sem_op hs a2 b2⟩
theorem sem_test {K : PySem.W.Frag} {t : TE} {f : XE} (h : Sem K tc ow t f) : SemT K tc ow (tTest t) (tE f) := fun own Z ρ σ H b ρ' Q ho R hf hq => by
  unfold tE at hf
  cases e : f ρ with
  | none => rw [e] at hf; cases hf
  | some p =>
    obtain ⟨d, ρ1⟩ := p
    rw [e] at hf
    simp only [Option.bind_some] at hf
    cases d with
    | bool c =>
      simp only [asB, Option.map_some, Option.some.injEq, Prod.mk.injEq] at hf
      obtain ⟨rfl, rfl⟩ := hf
      refine h own Z ρ σ H _ _ _ ho R e fun v H' R' g d => ?_
      cases d
      exact ⟨c, rfl, hq H' R' g⟩
    | _ => simp only [asB] at hf; cases hf
theorem rt_cmp {op : CmpOp} {r : R2} {g : D → D → Option D} {a b : Expr} {fa fb : XE} {pos : Pos} (ho : ∀ i, OpR (X i) (compareOp op) r) (hs : OpS C.K r g) (hm : behindInMarks op b = false) (ha : RE X C tc ow a fa) (hb : RE X C tc ow b fb) :
    RT X C tc ow (.Compare a [op] [b] pos) (tE (opE g fa fb)) := by
  obtain ⟨ta, a1, a2⟩ := ha.ex
  obtain ⟨tb, b1, b2⟩ := hb.ex
  exact ⟨_, fun i => pt_cmpR (ho i) (a1 i) (b1 i) hm, sem_test (sem_op hs a2 b2)⟩
theorem rt_val {e : Expr} {f : XE} (h : RE X C tc ow e f) (he : ∀ i whole, isTrue e (X i).env whole = (do let v ← whole; standAt e.pos; holding [v] (truthy v))) : RT X C tc ow e (tE f) := by
  obtain ⟨t, a1, a2⟩ := h.ex
  exact ⟨_, fun i => pt_val (a1 i) (he i), sem_test a2⟩
/-! ### and, or, not -/
theorem sem_and {K : PySem.W.Frag} {t u : TT} {f g : XT} (h : SemT K tc ow t f) (h' : SemT K tc ow u g) : SemT K tc ow (tAnd t u) (andT f g) := fun own Z ρ σ H b ρ' Q ho R hf hq => by
  unfold andT at hf
  cases e : f ρ with
  | none => rw [e] at hf; cases hf
  | some p =>
    obtain ⟨c, ρ1⟩ := p
    rw [e] at hf
    simp only [Option.bind_some] at hf
    refine h own Z ρ σ H c ρ1 _ ho R e fun H1 R1 g1 => ?_
    cases c with
    | true =>
      rw [if_pos rfl] at hf ⊢
      exact h' own Z ρ1 σ H1 b ρ' _ ho R1 hf fun H2 R2 g2 => hq H2 R2 (g1.trans g2)
    | false =>
      rw [if_neg Bool.false_ne_true] at hf ⊢
      simp only [Option.some.injEq, Prod.mk.injEq] at hf
      obtain ⟨rfl, rfl⟩ := hf
      exact hq H1 R1 g1
theorem sem_or {K : PySem.W.Frag} {t u : TT} {f g : XT} (h : SemT K tc ow t f) (h' : SemT K tc ow u g) : SemT K tc ow (tOr t u) (orT f g) := fun own Z ρ σ H b ρ' Q ho R hf hq => by
  unfold orT at hf
  cases e : f ρ with
  | none => rw [e] at hf; cases hf
  | some p =>
    obtain ⟨c, ρ1⟩ := p
    rw [e] at hf
    simp only [Option.bind_some] at hf
    refine h own Z ρ σ H c ρ1 _ ho R e fun H1 R1 g1 => ?_
    cases c with
    | true =>
      rw [if_pos rfl] at hf ⊢
      simp only [Option.some.injEq, Prod.mk.injEq] at hf
      obtain ⟨rfl, rfl⟩ := hf
      exact hq H1 R1 g1
    | false =>
      rw [if_neg Bool.false_ne_true] at hf ⊢
      exact h' own Z ρ1 σ H1 b ρ' _ ho R1 hf fun H2 R2 g2 => hq H2 R2 (g1.trans g2)
theorem sem_not {K : PySem.W.Frag} {t : TT} {f : XT} (h : SemT K tc ow t f) : SemT K tc ow (tNot t) (notT f) := fun own Z ρ σ H b ρ' Q ho R hf hq => by
  unfold notT at hf
  cases e : f ρ with
  | none => rw [e] at hf; cases hf
  | some p =>
    obtain ⟨c, ρ1⟩ := p
    rw [e] at hf
    simp only [Option.map_some, Option.some.injEq, Prod.mk.injEq] at hf
    obtain ⟨rfl, rfl⟩ := hf
    exact h own Z ρ σ H c ρ1 _ ho R e fun H1 R1 g1 => hq H1 R1 g1
section
variable {a b : Expr} {rest : List Expr} {f g : XT} {pos : Pos}
theorem rw_and1 (h : RT X C tc ow a f) : RW X C tc ow (.BoolOp .And [a] pos) f := by
  obtain ⟨t, a1, a2⟩ := h.ex
  exact ⟨_, fun i => pw_and1 (a1 i), a2⟩
theorem rw_or1 (h : RT X C tc ow a f) : RW X C tc ow (.BoolOp .Or [a] pos) f := by
  obtain ⟨t, a1, a2⟩ := h.ex
  exact ⟨_, fun i => pw_or1 (a1 i), a2⟩
theorem rw_and (h : RT X C tc ow a f) (h' : RW X C tc ow (.BoolOp .And (b :: rest) pos) g) : RW X C tc ow (.BoolOp .And (a :: b :: rest) pos) (andT f g) := by
  obtain ⟨t, a1, a2⟩ := h.ex
  obtain ⟨u, b1, b2⟩ := h'.ex
  exact ⟨_, fun i => pw_and (a1 i) (b1 i), sem_and a2 b2⟩
theorem rw_or (h : RT X C tc ow a f) (h' : RW X C tc ow (.BoolOp .Or (b :: rest) pos) g) : RW X C tc ow (.BoolOp .Or (a :: b :: rest) pos) (orT f g) := by
  obtain ⟨t, a1, a2⟩ := h.ex
  obtain ⟨u, b1, b2⟩ := h'.ex
  exact ⟨_, fun i => pw_or (a1 i) (b1 i), sem_or a2 b2⟩
theorem rt_w {e : Expr} (h : RW X C tc ow e f) : RT X C tc ow e f := by
  obtain ⟨t, a1, a2⟩ := h.ex
  exact ⟨_, fun i => (a1 i).pt, a2⟩
theorem rt_not (h : RT X C tc ow a f) : RT X C tc ow (.UnaryOp .Not a pos) (notT f) := by
  obtain ⟨t, a1, a2⟩ := h.ex
  exact ⟨_, fun i => pt_not (a1 i), sem_not a2⟩
end
/-! ### and, or, not as values of truths -/
section
variable {a b c : Expr} {rest : List Expr} {fa fb fc : XE} {f g : XT} {pos : Pos}
theorem sem_andV {K : PySem.W.Frag} {ta tb : TE} (h : Sem K tc ow ta fa) (h' : Sem K tc ow tb fb) : Sem K tc ow (tAndV ta tb) (ifE (tE fa) fb (cE (.bool false))) := fun own Z ρ σ H d ρ' Q ho R hf hq => by
  unfold ifE at hf
  cases e : tE fa ρ with
  | none => rw [e] at hf; cases hf
  | some p =>
    obtain ⟨c, ρ1⟩ := p
    rw [e] at hf
    simp only [Option.bind_some] at hf
    have h2 := sem_test h own Z ρ σ H c ρ1 (fun k H1 => Rep K own Z ρ1 σ H1 ∧ Grt tc own H H1 ∧ k = c) ho R e fun H1 R1 g1 => ⟨R1, g1, rfl⟩
    refine h own Z ρ σ H (.bool c) ρ1 _ ho R ?_ fun v H1 R1 g1 d1 => ?_
    · unfold tE at e
      cases q : fa ρ with
      | none => rw [q] at e; cases e
      | some r =>
        obtain ⟨x, ρ2⟩ := r
        rw [q] at e
        simp only [Option.bind_some] at e
        cases x with
        | bool y =>
          simp only [asB, Option.map_some, Option.some.injEq, Prod.mk.injEq] at e
          obtain ⟨rfl, rfl⟩ := e
          rfl
        | _ => simp only [asB] at e; cases e
    · cases d1
      refine ⟨c, rfl, ?_⟩
      cases c with
      | true =>
        rw [if_pos rfl] at hf ⊢
        exact h' own Z ρ1 σ H1 d ρ' _ ho R1 hf fun v H2 R2 g2 d2 => hq v H2 R2 (g1.trans g2) d2
      | false =>
        rw [if_neg Bool.false_ne_true] at hf ⊢
        simp only [cE, Option.some.injEq, Prod.mk.injEq] at hf
        obtain ⟨rfl, rfl⟩ := hf
        exact hq _ H1 R1 g1 (.bl false)
theorem tE_some {ρ ρ1 : En} {c : Bool} (e : tE fa ρ = some (c, ρ1)) : fa ρ = some (.bool c, ρ1) := by
  unfold tE at e
  cases q : fa ρ with
  | none => rw [q] at e; cases e
  | some r =>
    obtain ⟨x, ρ2⟩ := r
    rw [q] at e
    simp only [Option.bind_some] at e
    cases x with
    | bool y =>
      simp only [asB, Option.map_some, Option.some.injEq, Prod.mk.injEq] at e
      obtain ⟨rfl, rfl⟩ := e
      rfl
    | _ => simp only [asB] at e; cases e
theorem sem_orV {K : PySem.W.Frag} {ta tb : TE} (h : Sem K tc ow ta fa) (h' : Sem K tc ow tb fb) : Sem K tc ow (tOrV ta tb) (ifE (tE fa) (cE (.bool true)) fb) := fun own Z ρ σ H d ρ' Q ho R hf hq => by
  unfold ifE at hf
  cases e : tE fa ρ with
  | none => rw [e] at hf; cases hf
  | some p =>
    obtain ⟨c, ρ1⟩ := p
    rw [e] at hf
    simp only [Option.bind_some] at hf
    refine h own Z ρ σ H (.bool c) ρ1 _ ho R (tE_some e) fun v H1 R1 g1 d1 => ?_
    cases d1
    refine ⟨c, rfl, ?_⟩
    cases c with
    | true =>
      rw [if_pos rfl] at hf ⊢
      simp only [cE, Option.some.injEq, Prod.mk.injEq] at hf
      obtain ⟨rfl, rfl⟩ := hf
      exact hq _ H1 R1 g1 (.bl true)
    | false =>
      rw [if_neg Bool.false_ne_true] at hf ⊢
      exact h' own Z ρ1 σ H1 d ρ' _ ho R1 hf fun v H2 R2 g2 d2 => hq v H2 R2 (g1.trans g2) d2
def notE (fa : XE) : XE := fun ρ => (tE fa ρ).map fun p => (.bool (!p.1), p.2)
theorem sem_notV {K : PySem.W.Frag} {ta : TE} (h : Sem K tc ow ta fa) : Sem K tc ow (tNotV ta) (notE fa) := fun own Z ρ σ H d ρ' Q ho R hf hq => by
  unfold notE at hf
  cases e : tE fa ρ with
  | none => rw [e] at hf; cases hf
  | some p =>
    obtain ⟨c, ρ1⟩ := p
    rw [e] at hf
    simp only [Option.map_some, Option.some.injEq, Prod.mk.injEq] at hf
    obtain ⟨rfl, rfl⟩ := hf
    refine h own Z ρ σ H (.bool c) _ _ ho R (tE_some e) fun v H1 R1 g1 d1 => ?_
    cases d1
    exact ⟨c, rfl, hq _ H1 R1 g1 (.bl _)⟩
theorem re_one {op : BoolOp} (h : RE X C tc ow a fa) : RE X C tc ow (.BoolOp op [a] pos) fa := by
  obtain ⟨t, a1, a2⟩ := h.ex
  exact ⟨_, fun i => pe_one (a1 i), a2⟩
theorem re_and (h : RE X C tc ow a fa) (h' : RE X C tc ow (.BoolOp .And (b :: rest) pos) fb) : RE X C tc ow (.BoolOp .And (a :: b :: rest) pos) (ifE (tE fa) fb (cE (.bool false))) := by
  obtain ⟨t, a1, a2⟩ := h.ex
  obtain ⟨u, b1, b2⟩ := h'.ex
  exact ⟨_, fun i => pe_and (a1 i) (b1 i), sem_andV a2 b2⟩
theorem re_or (h : RE X C tc ow a fa) (h' : RE X C tc ow (.BoolOp .Or (b :: rest) pos) fb) : RE X C tc ow (.BoolOp .Or (a :: b :: rest) pos) (ifE (tE fa) (cE (.bool true)) fb) := by
  obtain ⟨t, a1, a2⟩ := h.ex
  obtain ⟨u, b1, b2⟩ := h'.ex
  exact ⟨_, fun i => pe_or (a1 i) (b1 i), sem_orV a2 b2⟩
theorem re_not (h : RE X C tc ow a fa) : RE X C tc ow (.UnaryOp .Not a pos) (notE fa) := by
  obtain ⟨t, a1, a2⟩ := h.ex
  exact ⟨_, fun i => pe_not (a1 i), sem_notV a2⟩
theorem re_if (hc : RT X C tc ow c f) (ha : RE X C tc ow a fa) (hb : RE X C tc ow b fb) : RE X C tc ow (.IfExp c a b pos) (ifE f fa fb) := by
  obtain ⟨tc, c1, c2⟩ := hc.ex
  obtain ⟨ta, a1, a2⟩ := ha.ex
  obtain ⟨tb, b1, b2⟩ := hb.ex
  refine ⟨_, fun i => pe_ifExp (c1 i) (a1 i) (b1 i), fun own Z ρ σ H d ρ' Q ho R hf hq => ?_⟩
  unfold ifE at hf
  cases e : f ρ with
  | none => rw [e] at hf; cases hf
  | some p =>
    obtain ⟨c, ρ1⟩ := p
    rw [e] at hf
    simp only [Option.bind_some] at hf
    refine c2 own Z ρ σ H c ρ1 _ ho R e fun H1 R1 g1 => ?_
    cases c with
    | true =>
      rw [if_pos rfl] at hf ⊢
      exact a2 own Z ρ1 σ H1 d ρ' _ ho R1 hf fun v H2 R2 g2 d2 => hq v H2 R2 (g1.trans g2) d2
    | false =>
      rw [if_neg Bool.false_ne_true] at hf ⊢
      exact b2 own Z ρ1 σ H1 d ρ' _ ho R1 hf fun v H2 R2 g2 d2 => hq v H2 R2 (g1.trans g2) d2
/-- a < b < c -/
theorem sem_chain {K : PySem.W.Frag} {r r' : R2} {g g' : D → D → Option D} {ta tb t3 : TE} (hs : OpS K r g) (hs' : OpS K r' g') (a2 : Sem K tc ow ta fa) (b2 : Sem K tc ow tb fb) (c2 : Sem K tc ow t3 fc) : Sem K tc ow (tChain r r' ta tb t3) (chE g g' fa fb fc) := fun own Z ρ σ H d ρ' Q ho R hf hq => by
  unfold chE at hf
  cases e1 : fa ρ with
  | none => rw [e1] at hf; cases hf
  | some p =>
    obtain ⟨x, ρ1⟩ := p
    rw [e1] at hf
    simp only [Option.bind_some] at hf
    cases e2 : fb ρ1 with
    | none => rw [e2] at hf; cases hf
    | some q =>
      obtain ⟨y, ρ2⟩ := q
      rw [e2] at hf
      simp only [Option.bind_some] at hf
      cases e3 : g x y with
      | none => rw [e3] at hf; cases hf
      | some z =>
        rw [e3] at hf
        simp only [Option.bind_some] at hf
        cases z with
        | bool k =>
          simp only [asB, Option.bind_some] at hf
          refine a2 own Z ρ σ H x ρ1 _ ho R e1 fun v H1 R1 g1 d1 => ?_
          refine b2 own Z ρ1 σ H1 y ρ2 _ ho R1 e2 fun u H2 R2 g2 d2 => ?_
          refine hs _ H2 v u x y (.bool k) _ R2.zok (d1.ext g2.hid) d2 e3 fun z H3 e d3 => ?_
          cases d3
          refine ⟨k, rfl, ?_⟩
          cases k with
          | true =>
            rw [if_pos rfl] at hf ⊢
            cases e4 : fc ρ2 with
            | none => rw [e4] at hf; cases hf
            | some s =>
              obtain ⟨w, ρ3⟩ := s
              rw [e4] at hf
              simp only [Option.bind_some] at hf
              cases e5 : g' y w with
              | none => rw [e5] at hf; cases hf
              | some t =>
                rw [e5] at hf
                simp only [Option.map_some, Option.some.injEq, Prod.mk.injEq] at hf
                obtain ⟨rfl, rfl⟩ := hf
                refine c2 own Z ρ2 σ H3 w _ _ ho (R2.ext e) e4 fun u2 H4 R4 g4 d4 => ?_
                exact hs' _ H4 u u2 y w _ Q R4.zok ((d2.ext (Gro.of e).hid).ext g4.hid) d4 e5 fun z H5 e' d5 =>
                  hq z H5 (R4.ext e') ((((g1.trans g2).trans (Grt.of e)).trans g4).trans (Grt.of e')) d5
          | false =>
            rw [if_neg Bool.false_ne_true] at hf ⊢
            simp only [Option.some.injEq, Prod.mk.injEq] at hf
            obtain ⟨rfl, rfl⟩ := hf
            exact hq _ H3 (R2.ext e) ((g1.trans g2).trans (Grt.of e)) (.bl false)
        | _ => simp only [asB] at hf; cases hf
theorem re_chain {op op' : CmpOp} {r r' : R2} {g g' : D → D → Option D} (hs : OpS C.K r g) (hs' : OpS C.K r' g') (ha : RE X C tc ow a fa) (hb : RE X C tc ow b fb) (hc : RE X C tc ow c fc)
    (pc : ∀ (i : ι) {ta tb t3 : TE}, PE (X i) a ta → PE (X i) b tb → PE (X i) c t3 → PE (X i) (.Compare a [op, op'] [b, c] pos) (tChain r r' ta tb t3)) :
    RE X C tc ow (.Compare a [op, op'] [b, c] pos) (chE g g' fa fb fc) := by
  obtain ⟨ta, a1, a2⟩ := ha.ex
  obtain ⟨tb, b1, b2⟩ := hb.ex
  obtain ⟨t3, c1, c2⟩ := hc.ex
  exact ⟨_, fun i => pc i (a1 i) (b1 i) (c1 i), sem_chain hs hs' a2 b2 c2⟩
theorem rt_chain {op op' : CmpOp} {r r' : R2} {g g' : D → D → Option D} (hs : OpS C.K r g) (hs' : OpS C.K r' g') (ha : RE X C tc ow a fa) (hb : RE X C tc ow b fb) (hc : RE X C tc ow c fc)
    (pc : ∀ (i : ι) {ta tb t3 : TE}, PE (X i) a ta → PE (X i) b tb → PE (X i) c t3 → PT (X i) (.Compare a [op, op'] [b, c] pos) (tTest (tChain r r' ta tb t3))) :
    RT X C tc ow (.Compare a [op, op'] [b, c] pos) (tE (chE g g' fa fb fc)) := by
  obtain ⟨ta, a1, a2⟩ := ha.ex
  obtain ⟨tb, b1, b2⟩ := hb.ex
  obtain ⟨t3, c1, c2⟩ := hc.ex
  exact ⟨_, fun i => pc i (a1 i) (b1 i) (c1 i), sem_test (sem_chain hs hs' a2 b2 c2)⟩
end
/-! ### arguments, displays, calls -/
section
variable {e : Expr} {es : List Expr} {f : XE} {fr : XA} {pos : Pos}
theorem ra_nil : RA X C tc ow [] nilA := ⟨⟨tNil, fun _ => pa_nil, fun own Z ρ σ H ds ρ' Q ho R hf hq => by
  simp only [nilA, Option.some.injEq, Prod.mk.injEq] at hf
  obtain ⟨rfl, rfl⟩ := hf
  exact hq [] H R Grt.refl .nil⟩, fun ρ ds ρ' h => by
  simp only [nilA, Option.some.injEq, Prod.mk.injEq] at h
  rw [← h.1]; rfl⟩
theorem ra_cons (h : RE X C tc ow e f) (hr : RA X C tc ow es fr) (hs : ∀ i, starEach (e :: es) (X i).env = (false, eval e (X i).env) :: starEach es (X i).env) : RA X C tc ow (e :: es) (consA f fr) := by
  obtain ⟨t, a1, a2⟩ := h.ex
  obtain ⟨u, b1, b2⟩ := hr.ex
  refine ⟨⟨_, fun i => pa_cons (a1 i) (b1 i) (hs i), fun own Z ρ σ H ds ρ' Q ho R hf hq => ?_⟩, fun ρ ds ρ' hf => by
    unfold consA at hf
    cases e1 : f ρ with
    | none => rw [e1] at hf; cases hf
    | some p =>
      rw [e1] at hf
      simp only [Option.bind_some] at hf
      cases e2 : fr p.2 with
      | none => rw [e2] at hf; cases hf
      | some q =>
        rw [e2] at hf
        simp only [Option.map_some, Option.some.injEq, Prod.mk.injEq] at hf
        rw [← hf.1, List.length_cons, List.length_cons, hr.len _ _ _ e2]⟩
  unfold consA at hf
  cases e1 : f ρ with
  | none => rw [e1] at hf; cases hf
  | some p =>
    obtain ⟨x, ρ1⟩ := p
    rw [e1] at hf
    simp only [Option.bind_some] at hf
    cases e2 : fr ρ1 with
    | none => rw [e2] at hf; cases hf
    | some q =>
      obtain ⟨y, ρ2⟩ := q
      rw [e2] at hf
      simp only [Option.map_some, Option.some.injEq, Prod.mk.injEq] at hf
      obtain ⟨rfl, rfl⟩ := hf
      refine a2 own Z ρ σ H x ρ1 _ ho R e1 fun v H1 R1 g1 d1 => ?_
      refine b2 own Z ρ1 σ H1 y _ _ ho R1 e2 fun u H2 R2 g2 d2 => ?_
      exact hq (v :: u) H2 R2 (g1.trans g2) (.cons (d1.ext g2.hid) d2)
theorem hid_upd {Z : List Addr} {H : Hp} {p : Addr} {o : HO} (h : p ∉ Z) : hid Z (upd H p o) p = some o := hid_some.mpr ⟨h, upd_same⟩
theorem re_tup {x1} (h : RA X C tc ow es fr) : RE X C tc ow (.Tuple es x1 pos) (tupE fr) := by
  obtain ⟨t, a1, a2⟩ := h.ex
  refine ⟨_, fun i => pe_tup (a1 i), fun own Z ρ σ H d ρ' Q ho R hf hq => ?_⟩
  unfold tupE at hf
  cases e1 : fr ρ with
  | none => rw [e1] at hf; cases hf
  | some p =>
    obtain ⟨x, ρ1⟩ := p
    rw [e1] at hf
    simp only [Option.bind_some] at hf
    split at hf
    · rename_i hl
      simp only [Option.some.injEq, Prod.mk.injEq] at hf
      obtain ⟨rfl, rfl⟩ := hf
      refine a2 own Z ρ σ H x _ _ ho R e1 fun vs H1 R1 g1 d1 => ⟨by rw [← d1.len]; exact hl, fun p hp => ?_⟩
      exact hq _ _ (R1.ext (Ext.new hp)) (g1.trans (Grt.of (Ext.new hp))) (.tup (.inl (hid_upd (R1.new_nin hp))) (by rw [← d1.len]; exact hl) (d1.ext (Gro.of (Ext.new hp)).hid))
    · cases hf
theorem rf_lst (h : RA X C tc ow es fr) : RF X C tc ow (.List es pos) (lstE fr) := by
  obtain ⟨t, a1, a2⟩ := h.ex
  refine ⟨_, fun i => pe_lst (a1 i), fun own Z ρ σ H d ρ' Q ho R hf hq => ?_⟩
  unfold lstE at hf
  cases e1 : fr ρ with
  | none => rw [e1] at hf; cases hf
  | some p =>
    obtain ⟨x, ρ1⟩ := p
    rw [e1] at hf
    simp only [Option.bind_some] at hf
    split at hf
    · rename_i hl
      simp only [Option.some.injEq, Prod.mk.injEq] at hf
      obtain ⟨rfl, rfl⟩ := hf
      refine a2 own Z ρ σ H x _ _ ho R e1 fun vs H1 R1 g1 d1 => ⟨by rw [← d1.len]; exact hl, fun p hp => ?_⟩
      have hp0 : H p = none := by
        cases q : H p with
        | none => rfl
        | some u =>
          by_cases hm : p ∈ adr own
          · obtain ⟨o, q2⟩ := R1.ain hm
            rw [hp] at q2; cases q2
          · rw [g1 p u q (nadr hm)] at hp; cases hp
      refine hq p _ _ (R1.hide hp (Gro.of (Ext.new hp)) (fun a ha => upd_ne fun z => ?_) upd_same) (g1.trans (Grt.of (Ext.new hp))) hp0 upd_same (.lst (by rw [← d1.len]; exact hl) (d1.ext fun a u q => ?_))
      · subst z
        obtain ⟨o, q2⟩ := R1.ain ha
        rw [hp] at q2; cases q2
      · have h3 := hid_some.mp q
        have hap : a ≠ p := fun z => by subst z; rw [hp] at h3; cases h3.2
        refine hid_some.mpr ⟨fun z => ?_, by rw [upd_ne hap]; exact h3.2⟩
        rcases List.mem_append.mp z with z | z
        · exact h3.1 (List.mem_append_left _ z)
        · rcases List.mem_cons.mp z with z | z
          · exact hap z
          · exact h3.1 (List.mem_append_right _ z)
    · cases hf
/-- a built-in's call -/
theorem re_callB {id : String} {x : Str} {r : List V → Hp → VK → Prop} {g : List D → Option D} {p : Pos} (F : Fam X C N k) (hc : ∀ i, CallR (X i) (.builtin id) r) (hs : ClS C.K r g) (hm : C.mg x = none) (hv : bootBuiltins x = some (.builtin id)) (hg : ∀ i, Gl (X i) x)
    (ha : RA X C tc ow (e :: es) fr) (he : ∀ i, ∀ {t : TA}, PA (X i) (e :: es) t → CallR (X i) (.builtin id) r → Gl (X i) x → (X i).mg x = none → PE (X i) (.Call (.Name x p) (e :: es) [] pos) (tCB r t)) :
    RE X C tc ow (.Call (.Name x p) (e :: es) [] pos) (clE g fr) := by
  obtain ⟨t, a1, a2⟩ := ha.ex
  refine ⟨_, fun i => he i (a1 i) (hc i) (hg i) (by rw [F.mg i]; exact hm), fun own Z ρ σ H d ρ' Q ho R hf hq => ?_⟩
  unfold clE at hf
  cases e1 : fr ρ with
  | none => rw [e1] at hf; cases hf
  | some p =>
    obtain ⟨ds, ρ1⟩ := p
    rw [e1] at hf
    simp only [Option.bind_some] at hf
    cases e2 : g ds with
    | none => rw [e2] at hf; cases hf
    | some z =>
      rw [e2] at hf
      simp only [Option.map_some, Option.some.injEq, Prod.mk.injEq] at hf
      obtain ⟨rfl, rfl⟩ := hf
      refine a2 own Z ρ σ H ds _ _ ho R e1 fun vs H1 R1 g1 d1 => ?_
      exact hs _ H1 vs ds _ Q R1.zok d1 e2 fun v H2 e d2 => hq v H2 (R1.ext e) (g1.trans (Grt.of e)) d2
end
end
end Lay

namespace Lay
open PySem PySem.Spec PyProof.Rows L2

/-! ## statements -/
inductive Out where
  | nx (ρ : En)
  | rt (d : D) (ρ : En)
  | bk (ρ : En)
  | ct (ρ : En)
  | bad
abbrev XS := En → Out

structure Step (mu : List Nat) (own : Ow) (H : Hp) (own' : Ow) (H' : Hp) : Prop where
  gro : Gro own H H'
  new : ∀ p ∈ own', p.2 ∈ adr own ∨ H p.2 = none
  mu : ∀ i ∈ mu, ∀ a, (i, a) ∈ own' → (i, a) ∈ own
theorem Step.refl {mu : List Nat} {own : Ow} {H : Hp} : Step mu own H own H := ⟨Gro.refl, fun p h => .inl (List.mem_map.mpr ⟨p, h, rfl⟩), fun _ _ _ h => h⟩
theorem Step.of {mu : List Nat} {own : Ow} {H H' : Hp} (g : Gro own H H') : Step mu own H own H' := ⟨g, fun p h => .inl (List.mem_map.mpr ⟨p, h, rfl⟩), fun _ _ _ h => h⟩
theorem Step.back {mu : List Nat} {own own1 : Ow} {H H1 : Hp} (x : Step mu own H own1 H1) {a : Addr} (h : a ∈ adr own1 ∨ H1 a = none) : a ∈ adr own ∨ H a = none := by
  rcases h with h | h
  · obtain ⟨p, hp, rfl⟩ := List.mem_map.mp h
    exact x.new p hp
  · by_cases ha : a ∈ adr own
    · exact .inl ha
    · cases q : H a with
      | none => exact .inr rfl
      | some o => rw [x.gro a o q ha] at h; cases h
theorem Step.trans {mu : List Nat} {own own1 own2 : Ow} {H H1 H2 : Hp} (x : Step mu own H own1 H1) (y : Step mu own1 H1 own2 H2) : Step mu own H own2 H2 where
  gro := fun a o h n => y.gro a o (x.gro a o h n) fun q => by
    obtain ⟨p, hp, rfl⟩ := List.mem_map.mp q
    rcases x.new p hp with r | r
    · exact n r
    · rw [h] at r; cases r
  new := fun p h => x.back (y.new p h)
  mu := fun i hi a h => x.mu i hi a (y.mu i hi a h)
theorem Step.hid {mu : List Nat} {own own1 : Ow} {H H1 : Hp} {Z : List Addr} (x : Step mu own H own1 H1) : Ext (hid (adr own ++ Z) H) (hid (adr own1 ++ Z) H1) := fun a o e => by
  have h := hid_some.mp e
  have n : a ∉ adr own := fun q => h.1 (List.mem_append_left _ q)
  refine hid_some.mpr ⟨fun q => ?_, x.gro a o h.2 n⟩
  rcases List.mem_append.mp q with q | q
  · obtain ⟨p, hp, rfl⟩ := List.mem_map.mp q
    rcases x.new p hp with r | r
    · exact n r
    · rw [h.2] at r; cases r
  · exact h.1 (List.mem_append_right _ q)

section
variable (K : PySem.W.Frag) (mu : List Nat) (fr : Bool) (owl : List Nat)
/-- what is wanted behind a statement: fr: what is returned is a new object; owl: what is owned at the loop's head -/
def After (ow' : List Nat) (own : Ow) (Z : List Addr) (H : Hp) (E : Ends) : Out → Prop
  | .nx ρ' => ∀ (own' : Ow) (σ' : L2.St) (H' : Hp), own'.map (·.1) = ow' → Step mu own H own' H' → Rep K own' Z ρ' σ' H' → E.nx σ' H'
  | .bk ρ' => ∀ (own' : Ow) (σ' : L2.St) (H' : Hp), own'.map (·.1) = owl → Step mu own H own' H' → Rep K own' Z ρ' σ' H' → E.bk σ' H'
  | .ct ρ' => ∀ (own' : Ow) (σ' : L2.St) (H' : Hp), own'.map (·.1) = owl → Step mu own H own' H' → Rep K own' Z ρ' σ' H' → E.ct σ' H'
  | .rt d ρ' => match fr with
    | true => ∀ (own' : Ow) (σ' : L2.St) (H' : Hp) (p : Addr) (o : HO), own'.map (·.1) = mu → Step mu own H own' H' → Rep K own' (p :: Z) ρ' σ' H' → (p ∈ adr own ∨ H p = none) → H' p = some o → Ob K (hid (adr own' ++ p :: Z) H') d o → E.rt (.ref p) H'
    | false => ∀ (v : V) (own' : Ow) (σ' : L2.St) (H' : Hp), own'.map (·.1) = mu → Step mu own H own' H' → Rep K own' Z ρ' σ' H' → Dat K (hid (adr own' ++ Z) H') d v → E.rt v H'
  | .bad => False
def SemS (ow ow' : List Nat) (ts : TS) (F : XS) : Prop := ∀ (own : Ow) (Z : List Addr) (ρ : En) (σ : L2.St) (H : Hp) (E : Ends), own.map (·.1) = ow → Rep K own Z ρ σ H → After K mu fr owl ow' own Z H E (F ρ) → ts E σ H
end
section
variable {K : PySem.W.Frag} {mu : List Nat} {fr : Bool} {owl : List Nat}
theorem After.step {ow' : List Nat} {own own1 : Ow} {Z : List Addr} {H H1 : Hp} {E : Ends} (s : Step mu own H own1 H1) : ∀ {o : Out}, After K mu fr owl ow' own Z H E o → After K mu fr owl ow' own1 Z H1 E o
  | .nx _, h => fun own' σ' H' e s' R => h own' σ' H' e (s.trans s') R
  | .bk _, h => fun own' σ' H' e s' R => h own' σ' H' e (s.trans s') R
  | .ct _, h => fun own' σ' H' e s' R => h own' σ' H' e (s.trans s') R
  | .rt d ρ, h => by
    cases fr with
    | true => exact fun own' σ' H' p o e s' R hp h1 h2 => h own' σ' H' p o e (s.trans s') R (s.back hp) h1 h2
    | false => exact fun v own' σ' H' e s' R hd => h v own' σ' H' e (s.trans s') R hd
  | .bad, h => h
/-- only the next end is changed -/
theorem After.nxt {ow1 ow2 : List Nat} {own : Ow} {Z : List Addr} {H : Hp} {E E' : Ends} {o : Out} (h : After K mu fr owl ow2 own Z H E o) (h1 : ∀ ρ, o = .nx ρ → After K mu fr owl ow1 own Z H E' (.nx ρ))
    (hb : ∀ σ H, E.bk σ H → E'.bk σ H) (hc : ∀ σ H, E.ct σ H → E'.ct σ H) (hr : ∀ v H, E.rt v H → E'.rt v H) : After K mu fr owl ow1 own Z H E' o := by
  cases o with
  | nx ρ => exact h1 ρ rfl
  | bk ρ => exact fun own' σ' H' e s' R => hb _ _ (h own' σ' H' e s' R)
  | ct ρ => exact fun own' σ' H' e s' R => hc _ _ (h own' σ' H' e s' R)
  | rt d ρ =>
    cases fr with
    | true => exact fun own' σ' H' p o e s' R hp h1 h2 => hr _ _ (h own' σ' H' p o e s' R hp h1 h2)
    | false => exact fun v own' σ' H' e s' R hd => hr _ _ (h v own' σ' H' e s' R hd)
  | bad => exact h
end

section
variable {ι : Type} (X : ι → Cx) (C : Ct) (mu : List Nat) (fr : Bool) (owl : List Nat) (ow ow' : List Nat)
structure RS (st : Stmt) (F : XS) : Prop where
  ex : ∃ ts, (∀ i, PS (X i) st ts) ∧ SemS C.K mu fr owl ow ow' ts F
structure RSs (st : List Stmt) (F : XS) : Prop where
  ex : ∃ ts, (∀ i, PSs (X i) st ts) ∧ SemS C.K mu fr owl ow ow' ts F
end

def nopS : XS := fun ρ => .nx ρ
def seqS (F G : XS) : XS := fun ρ => match F ρ with
  | .nx ρ' => G ρ'
  | o => o
def setS (i : Nat) (f : XE) : XS := fun ρ => match f ρ with
  | some (d, ρ') => .nx (ρ'.set i (some d))
  | none => .bad
def ownS (i : Nat) (f : XE) : XS := fun ρ => if i < ρ.length then setS i f ρ else .bad
def retOS (i : Nat) : XS := fun ρ => match varE i ρ with
  | some (d, ρ') => .rt d (ρ'.set i none)
  | none => .bad
def dropS (f : XE) : XS := fun ρ => match f ρ with
  | some (_, ρ') => .nx ρ'
  | none => .bad
def retS (f : XE) : XS := fun ρ => match f ρ with
  | some (d, ρ') => .rt d ρ'
  | none => .bad
def ifS (t : XT) (F G : XS) : XS := fun ρ => match t ρ with
  | some (b, ρ') => if b = true then F ρ' else G ρ'
  | none => .bad
def kil (ρ : En) : List Nat → En
  | [] => ρ
  | v :: vs => (kil ρ vs).set v none
def killS (vs : List Nat) : XS := fun ρ => .nx (kil ρ vs)

section
variable {ι : Type} {X : ι → Cx} {C : Ct} {mu : List Nat} {fr : Bool} {tc owl ow ow1 ow2 : List Nat} {N : List Str} {k : Nat}

theorem ow_inj : ∀ {l : Ow}, (l.map (·.2)).Nodup → ∀ {p q : Nat × Addr}, p ∈ l → q ∈ l → p.2 = q.2 → p = q
  | [], _, _, _, hp, _, _ => by cases hp
  | x :: l, nd, p, q, hp, hq, e => by
    rw [List.map_cons, List.nodup_cons] at nd
    rcases List.mem_cons.mp hp with e1 | hp
    · rcases List.mem_cons.mp hq with e2 | hq
      · rw [e1, e2]
      · exact absurd (List.mem_map.mpr ⟨q, hq, by rw [← e, e1]⟩) nd.1
    · rcases List.mem_cons.mp hq with e2 | hq
      · exact absurd (List.mem_map.mpr ⟨p, hp, by rw [e, e2]⟩) nd.1
      · exact ow_inj nd.2 hp hq e
theorem Rep.sub {K : PySem.W.Frag} {own own' : Ow} {Z : List Addr} {ρ : En} {σ : L2.St} {H : Hp} (R : Rep K own Z ρ σ H) (s : own'.Sublist own) : Rep K own' Z ρ σ H := by
  have sub : ∀ p ∈ own', p ∈ own := fun p h => s.subset h
  have x : Ext (hid (adr own ++ Z) H) (hid (adr own' ++ Z) H) := hid_sub fun a h => by
    rcases List.mem_append.mp h with h | h
    · obtain ⟨p, hp, rfl⟩ := List.mem_map.mp h
      exact List.mem_append_left _ (List.mem_map.mpr ⟨p, sub p hp, rfl⟩)
    · exact List.mem_append_right _ h
  refine ⟨R.len, fun i d h n => ?_, fun i a h => ?_, R.nd1.sublist (s.map _), R.nd2.sublist (s.map _), fun a h => R.dis a ?h5, R.zin⟩
  · by_cases hi : i ∈ own.map (·.1)
    · obtain ⟨⟨j, a⟩, hp, rfl⟩ := List.mem_map.mp hi
      obtain ⟨h1, e, o, h2, h3, h4⟩ := R.obj j a hp
      rw [h2] at h
      simp only [Option.some.injEq] at h
      subst h
      refine ⟨.ref a, h1, (h4.ext x).dat (hid_some.mpr ⟨fun q => ?_, h3⟩)⟩
      rcases List.mem_append.mp q with q | q
      · obtain ⟨⟨m, b⟩, hm, e2⟩ := List.mem_map.mp q
        have e2 : b = a := e2
        subst e2
        have : (m, b) = (j, b) := by
          exact ow_inj R.nd2 (sub _ hm) hp rfl
        cases this
        exact n (List.mem_map.mpr ⟨_, hm, rfl⟩)
      · exact R.dis a (List.mem_map.mpr ⟨_, hp, rfl⟩) q
    · obtain ⟨v, h1, h2⟩ := R.dat i d h hi
      exact ⟨v, h1, h2.ext x⟩
  · obtain ⟨h1, d, o, h2, h3, h4⟩ := R.obj i a (sub _ h)
    exact ⟨h1, d, o, h2, h3, h4.ext x⟩
  case h5 =>
    obtain ⟨p, hp, rfl⟩ := List.mem_map.mp h
    exact List.mem_map.mpr ⟨p, sub p hp, rfl⟩
/-- some of what is owned is given up -/
def keepO (ks : List Nat) (own : Ow) : Ow := own.filter fun p => ks.contains p.1
theorem keepO_map (ks : List Nat) (own : Ow) : (keepO ks own).map (·.1) = (own.map (·.1)).filter fun i => ks.contains i := by
  unfold keepO
  induction own with
  | nil => rfl
  | cons p r ih =>
    rw [List.filter_cons, List.map_cons, List.filter_cons]
    split <;> rename_i h
    · rw [List.map_cons, ih]
    · exact ih
theorem Step.keep {K : PySem.W.Frag} {own : Ow} {H : Hp} (ks : List Nat) : Step mu own H (keepO ks own) H :=
  ⟨Gro.refl, fun p h => .inl (List.mem_map.mpr ⟨p, (List.mem_filter.mp h).1, rfl⟩), fun _ _ _ h => (List.mem_filter.mp h).1⟩
theorem sem_weak {K : PySem.W.Frag} {ts : TS} {F : XS} (h : ow1 = ow.filter fun i => ow1.contains i) (hs : SemS K mu fr owl ow1 ow2 ts F) : SemS K mu fr owl ow ow2 ts F := fun own Z ρ σ H E ho R hf => by
  refine hs (keepO ow1 own) Z ρ σ H E (by rw [keepO_map, ho, ← h]) (R.sub List.filter_sublist) ?_
  exact hf.step (Step.keep (K := K) ow1)
/-- ahead of a block: what is owned there may be more -/
theorem rss_weak {sts : List Stmt} {F : XS} (hs : RSs X C mu fr owl ow1 ow2 sts F) (h : ow1 = ow.filter fun i => ow1.contains i) : RSs X C mu fr owl ow ow2 sts F := by
  obtain ⟨t, a1, a2⟩ := hs.ex
  exact ⟨t, a1, sem_weak h a2⟩
theorem rss_nil (h : ow2 = ow.filter fun i => ow2.contains i) : RSs X C mu fr owl ow ow2 [] nopS := ⟨tNext, fun _ => pss_nil, fun own Z ρ σ H E ho R hf => by
  refine hf (keepO ow2 own) σ H ?_ (Step.keep (K := C.K) ow2) (R.sub List.filter_sublist)
  rw [keepO_map, ho, ← h]⟩
/-- .. and some slots are forgotten at the end -/
theorem Rep.kils {K : PySem.W.Frag} {own : Ow} {Z : List Addr} {ρ : En} {σ : L2.St} {H : Hp} (R : Rep K own Z ρ σ H) : ∀ {vs : List Nat}, (∀ v ∈ vs, v ∉ own.map (·.1)) → Rep K own Z (kil ρ vs) σ H
  | [], _ => R
  | v :: vs, h => (Rep.kils R fun x hx => h x (List.mem_cons_of_mem _ hx)).kill (h v (List.mem_cons_self ..))
theorem rss_kill (vs : List Nat) (h : ow2 = ow.filter fun i => ow2.contains i) (hv : vs.all (fun v => !ow2.contains v) = true) : RSs X C mu fr owl ow ow2 [] (killS vs) := ⟨tNext, fun _ => pss_nil, fun own Z ρ σ H E ho R hf => by
  have e : (keepO ow2 own).map (·.1) = ow2 := by rw [keepO_map, ho, ← h]
  refine hf (keepO ow2 own) σ H e (Step.keep (K := C.K) ow2) ((R.sub List.filter_sublist).kils fun v hm => ?_)
  show v ∉ (keepO ow2 own).map (·.1)
  rw [e]
  intro q
  have := List.all_eq_true.mp hv v hm
  rw [List.contains_iff_mem.mpr q] at this
  cases this⟩
theorem sem_seq {K : PySem.W.Frag} {t u : TS} {F G : XS} (h : SemS K mu fr owl ow ow1 t F) (h' : SemS K mu fr owl ow1 ow2 u G) : SemS K mu fr owl ow ow2 (tSeq t u) (seqS F G) := fun own Z ρ σ H E ho R hf => by
  refine h own Z ρ σ H _ ho R ?_
  unfold seqS at hf
  cases e : F ρ with
  | nx ρ1 =>
    rw [e] at hf
    exact fun own1 σ1 H1 e1 s1 R1 => h' own1 Z ρ1 σ1 H1 E e1 R1 (hf.step s1)
  | bk ρ1 => rw [e] at hf; exact hf
  | ct ρ1 => rw [e] at hf; exact hf
  | rt d ρ1 => rw [e] at hf; exact hf
  | bad => rw [e] at hf; exact hf
theorem rss_cons {st : Stmt} {rest : List Stmt} {F G : XS} (h : RS X C mu fr owl ow ow1 st F) (h' : RSs X C mu fr owl ow1 ow2 rest G) : RSs X C mu fr owl ow ow2 (st :: rest) (seqS F G) := by
  obtain ⟨t, a1, a2⟩ := h.ex
  obtain ⟨u, b1, b2⟩ := h'.ex
  exact ⟨_, fun i => pss_cons (a1 i) (b1 i), sem_seq a2 b2⟩
/-- nothing comes behind a return -/
theorem rss_last {st : Stmt} {F : XS} (h : RS X C mu fr owl ow ow1 st F) (hw : ow2 = ow1.filter fun i => ow2.contains i) : RSs X C mu fr owl ow ow2 [st] (seqS F nopS) := rss_cons h (rss_nil hw)

theorem xe_cases {f : XE} {ρ : En} {P : Out → Prop} {g : D → En → Out} (h : P (match f ρ with | some (d, ρ') => g d ρ' | none => .bad)) (hb : ¬ P .bad) : ∃ d ρ', f ρ = some (d, ρ') ∧ P (g d ρ') := by
  cases e : f ρ with
  | none => rw [e] at h; exact absurd h hb
  | some p => obtain ⟨d, ρ'⟩ := p; rw [e] at h; exact ⟨d, ρ', rfl, h⟩
theorem notin_of {own : Ow} {i : Nat} (ho : own.map (·.1) = ow) (hi : ow.contains i = false) : i ∉ own.map (·.1) := fun z => by
  rw [ho] at z
  rw [List.contains_iff_mem.mpr z] at hi
  cases hi

theorem rs_set {x : Str} {e : Expr} {f : XE} {pos pos' : Pos} (F : Fam X C N k) (i : Nat) (he : RE X C tc ow e f) (hi : N[i]? = some x) (hx : ∀ j, Loc (X j).env.scope x) (hw : ow.contains i = false)
    (hf : ∀ j, (X j).fn x = true ∨ (X j).env.scope.names.lookup x = some .local) (hs : ∀ j, swapsWith e (some (.Name x pos')) pos.line (X j).env = pure false) :
    RS X C mu fr owl ow ow (.Assign [.Name x pos'] e pos) (setS i f) := by
  obtain ⟨t, a1, a2⟩ := he.ex
  refine ⟨_, fun j => ps_set (i := i) (by rw [F.nm j]; exact F.nd) (by rw [F.nm j]; exact hi) (hx j) (a1 j) (hs j) (hf j), fun own Z ρ σ H E ho R h => ?_⟩
  obtain ⟨d, ρ1, e1, h⟩ := xe_cases (P := After C.K mu fr owl ow own Z H E) h (fun q => q)
  exact a2 own Z ρ σ H d ρ1 _ ho R e1 fun v H1 R1 g1 d1 => h own _ H1 ho (Step.of g1.all) (R1.set (notin_of ho hw) d1)

/-- a new object takes a slot -/
theorem Rep.push {K : PySem.W.Frag} {own : Ow} {Z : List Addr} {ρ : En} {σ : L2.St} {H : Hp} {p : Addr} {o : HO} {d : D} {i : Nat} (R : Rep K own (p :: Z) ρ σ H) (hi : i ∉ own.map (·.1)) (hl : i < σ.length) (hp : p ∉ adr own) (hz : p ∉ Z)
    (e : H p = some o) (ob : Ob K (hid (adr own ++ p :: Z) H) d o) : Rep K (own ++ [(i, p)]) Z (ρ.set i (some d)) (σ.set i (some (.ref p))) H := by
  have m1 : (own ++ [(i, p)]).map (·.1) = own.map (·.1) ++ [i] := by rw [List.map_append]; rfl
  have m2 : adr (own ++ [(i, p)]) = adr own ++ [p] := by show List.map _ _ = _; rw [List.map_append]; rfl
  have x : Ext (hid (adr own ++ p :: Z) H) (hid (adr (own ++ [(i, p)]) ++ Z) H) := hid_sub fun a h => by
    rw [m2] at h
    simp only [List.mem_append, List.mem_cons, List.not_mem_nil, or_false] at h ⊢
    rcases h with (h | h) | h
    · exact .inl h
    · exact .inr (.inl h)
    · exact .inr (.inr h)
  refine ⟨by rw [List.length_set, List.length_set]; exact R.len, fun j c q n => ?_, fun j a q => ?_, ?_, ?_, fun a h z => ?_, fun z h => R.zin z (List.mem_cons_of_mem _ h)⟩
  · rw [m1] at n
    have hij : i ≠ j := fun z => n (by subst z; exact List.mem_append_right _ (List.mem_singleton.mpr rfl))
    rw [List.getElem?_set, if_neg hij] at q
    obtain ⟨v, h1, h2⟩ := R.dat j c q fun z => n (List.mem_append_left _ z)
    exact ⟨v, by rw [List.getElem?_set, if_neg hij]; exact h1, h2.ext x⟩
  · rcases List.mem_append.mp q with q | q
    · obtain ⟨h1, c, u, h2, h3, h4⟩ := R.obj j a q
      have hij : i ≠ j := fun z => hi (by subst z; exact List.mem_map.mpr ⟨_, q, rfl⟩)
      exact ⟨by rw [List.getElem?_set, if_neg hij]; exact h1, c, u, by rw [List.getElem?_set, if_neg hij]; exact h2, h3, h4.ext x⟩
    · have q := List.mem_singleton.mp q
      cases q
      exact ⟨by rw [List.getElem?_set]; simp [hl], d, o, by rw [List.getElem?_set]; simp [R.len, hl], e, ob.ext x⟩
  · rw [m1]
    exact List.nodup_append.mpr ⟨R.nd1, List.nodup_cons.mpr ⟨List.not_mem_nil, List.nodup_nil⟩, fun a ha b hb => by rw [List.mem_singleton.mp hb]; exact fun z => hi (z ▸ ha)⟩
  · rw [m2]
    exact List.nodup_append.mpr ⟨R.nd2, List.nodup_cons.mpr ⟨List.not_mem_nil, List.nodup_nil⟩, fun a ha b hb => by rw [List.mem_singleton.mp hb]; exact fun z => hp (z ▸ ha)⟩
  · rw [m2] at h
    rcases List.mem_append.mp h with h | h
    · exact R.dis a h (List.mem_cons_of_mem _ z)
    · rw [List.mem_singleton.mp h] at z
      exact hz z
/-- x = a new list: owned from here on -/
theorem rs_own {x : Str} {e : Expr} {f : XE} {pos pos' : Pos} (F : Fam X C N k) (i : Nat) (he : RF X C tc ow e f) (hi : N[i]? = some x) (hx : ∀ j, Loc (X j).env.scope x) (hw : ow.contains i = false)
    (hps : ∀ (j : ι) {te : TE}, PE (X j) e te → PS (X j) (.Assign [.Name x pos'] e pos) (tAsg te (gName i))) (hmu : mu.contains i = false) :
    RS X C mu fr owl ow (ow ++ [i]) (.Assign [.Name x pos'] e pos) (ownS i f) := by
  obtain ⟨t, a1, a2⟩ := he.ex
  refine ⟨_, fun j => hps j (a1 j), fun own Z ρ σ H E ho R h => ?_⟩
  unfold ownS at h
  split at h
  · rename_i hl
    obtain ⟨d, ρ1, e1, h⟩ := xe_cases (P := After C.K mu fr owl (ow ++ [i]) own Z H E) h (fun q => q)
    refine a2 own Z ρ σ H d ρ1 _ ho R e1 fun p o H1 R1 g1 hn hp ob => ?_
    have hpn := R.new_nin hn
    refine h (own ++ [(i, p)]) _ H1 (by rw [List.map_append, ho]; rfl) ⟨g1.all, fun q hq => ?_, fun m hm a hq => ?_⟩ (R1.push (notin_of ho hw) (by rw [← R.len]; exact hl) (fun z => hpn (List.mem_append_left _ z)) (fun z => hpn (List.mem_append_right _ z)) hp ob)
    · rcases List.mem_append.mp hq with hq | hq
      · exact .inl (List.mem_map.mpr ⟨q, hq, rfl⟩)
      · rw [List.mem_singleton.mp hq]
        exact .inr hn
    · rcases List.mem_append.mp hq with hq | hq
      · exact hq
      · have := List.mem_singleton.mp hq
        cases this
        rw [List.contains_iff_mem.mpr hm] at hmu
        cases hmu
  · exact absurd h (fun q => q)
theorem rs_drop {e : Expr} {f : XE} {pos : Pos} (he : RE X C tc ow e f) (hs : ∀ j, swapsWith e none pos.line (X j).env = pure false) : RS X C mu fr owl ow ow (.Expr e pos) (dropS f) := by
  obtain ⟨t, a1, a2⟩ := he.ex
  refine ⟨_, fun j => ps_expr (a1 j) (hs j), fun own Z ρ σ H E ho R h => ?_⟩
  obtain ⟨d, ρ1, e1, h⟩ := xe_cases (P := After C.K mu fr owl ow own Z H E) (g := fun _ ρ' => Out.nx ρ') h (fun q => q)
  exact a2 own Z ρ σ H d ρ1 _ ho R e1 fun v H1 R1 g1 d1 => h own _ H1 ho (Step.of g1.all) R1
theorem rs_pass {pos : Pos} : RS X C mu fr owl ow ow (.Pass pos) nopS := ⟨_, fun _ => ps_pass, fun own Z ρ σ H E ho R h => h own σ H ho Step.refl R⟩
theorem rs_ret {e : Expr} {f : XE} {pos : Pos} (he : RE X C tc ow e f) (hm : mu = ow.filter fun i => mu.contains i) : RS X C mu false owl ow ow2 (.Return (some e) pos) (retS f) := by
  obtain ⟨t, a1, a2⟩ := he.ex
  refine ⟨_, fun j => ps_ret (a1 j), fun own Z ρ σ H E ho R h => ?_⟩
  obtain ⟨d, ρ1, e1, h⟩ := xe_cases (P := After C.K mu false owl ow2 own Z H E) (g := fun d ρ' => Out.rt d ρ') h (fun q => q)
  refine a2 own Z ρ σ H d ρ1 _ ho R e1 fun v H1 R1 g1 d1 => ?_
  refine h v (keepO mu own) σ H1 (by rw [keepO_map, ho, ← hm]) ((Step.of g1.all).trans (Step.keep (K := C.K) mu)) (R1.sub List.filter_sublist) (d1.ext (hid_sub fun a h => ?_))
  rcases List.mem_append.mp h with h | h
  · obtain ⟨p, hp, rfl⟩ := List.mem_map.mp h
    exact List.mem_append_left _ (List.mem_map.mpr ⟨p, (List.mem_filter.mp hp).1, rfl⟩)
  · exact List.mem_append_right _ h
theorem rs_retF {e : Expr} {f : XE} {pos : Pos} (he : RF X C tc ow e f) (hm : mu = ow.filter fun i => mu.contains i) : RS X C mu true owl ow ow2 (.Return (some e) pos) (retS f) := by
  obtain ⟨t, a1, a2⟩ := he.ex
  refine ⟨_, fun j => ps_ret (a1 j), fun own Z ρ σ H E ho R h => ?_⟩
  obtain ⟨d, ρ1, e1, h⟩ := xe_cases (P := After C.K mu true owl ow2 own Z H E) (g := fun d ρ' => Out.rt d ρ') h (fun q => q)
  refine a2 own Z ρ σ H d ρ1 _ ho R e1 fun p o H1 R1 g1 hn hp ob => ?_
  refine h (keepO mu own) σ H1 p o (by rw [keepO_map, ho, ← hm]) ((Step.of g1.all).trans (Step.keep (K := C.K) mu)) (R1.sub List.filter_sublist) (.inr hn) hp (ob.ext (hid_sub fun a h => ?_))
  rcases List.mem_append.mp h with h | h
  · obtain ⟨p, hp, rfl⟩ := List.mem_map.mp h
    exact List.mem_append_left _ (List.mem_map.mpr ⟨p, (List.mem_filter.mp hp).1, rfl⟩)
  · exact List.mem_append_right _ h
/-- return x, x owned -/
theorem rs_retO {x : Str} {pos pos' : Pos} (F : Fam X C N k) (i : Nat) (hN : N[i]? = some x) (hv : ∀ j, Vis (X j).env.scope x) (hw : ow.contains i = true) (hmi : mu.contains i = false) (hm : mu = ow.filter fun i => mu.contains i) (hd : (x == ("__debug__" : Str)) = false := by decide) (hcd : (x == ("__classdict__" : Str)) = false := by decide) :
    RS X C mu true owl ow ow2 (.Return (some (.Name x pos')) pos) (retOS i) := by
  refine ⟨_, fun j => ps_ret (pe_var (i := i) (by rw [F.nm j]; exact hN) (hv j) hd hcd), fun own Z ρ σ H E ho R h => ?_⟩
  obtain ⟨d, ρ1, e1, h⟩ := xe_cases (P := After C.K mu true owl ow2 own Z H E) (g := fun d ρ' => Out.rt d (ρ'.set i none)) h (fun q => q)
  have hio : i ∈ own.map (·.1) := by rw [ho]; exact List.contains_iff_mem.mp hw
  obtain ⟨⟨j, a⟩, hja, rfl⟩ := List.mem_map.mp hio
  obtain ⟨h1, d', o, h2, h3, h4⟩ := R.obj j a hja
  unfold varE at e1
  rw [h2] at e1
  simp only [Option.some.injEq, Prod.mk.injEq] at e1
  obtain ⟨rfl, rfl⟩ := e1
  refine ⟨.ref a, h1, ?_⟩
  have nin : a ∉ adr (keepO mu own) := fun q => by
    obtain ⟨p, hp, e⟩ := List.mem_map.mp q
    have hp := List.mem_filter.mp hp
    have := ow_inj R.nd2 hp.1 hja e
    subst this
    rw [hmi] at hp
    cases hp.2
  have sub : ∀ b, b ∈ adr (keepO mu own) ++ a :: Z → b ∈ adr own ++ Z := fun b hb => by
    rcases List.mem_append.mp hb with hb | hb
    · obtain ⟨p, hp, rfl⟩ := List.mem_map.mp hb
      exact List.mem_append_left _ (List.mem_map.mpr ⟨p, (List.mem_filter.mp hp).1, rfl⟩)
    · rcases List.mem_cons.mp hb with rfl | hb
      · exact List.mem_append_left _ (List.mem_map.mpr ⟨_, hja, rfl⟩)
      · exact List.mem_append_right _ hb
  have ail : a ∈ adr own := List.mem_map.mpr ⟨_, hja, rfl⟩
  have R2 := R.sub (own' := keepO mu own) List.filter_sublist
  have R3 : Rep C.K (keepO mu own) (a :: Z) (ρ.set j none) σ H := by
    refine ⟨by rw [List.length_set]; exact R.len, fun m c q n => ?_, fun m b q => ?_, R2.nd1, R2.nd2, fun b hb z => ?_, fun z hz => ?_⟩
    · rw [List.getElem?_set] at q
      by_cases hjm : j = m
      · subst hjm
        simp only [if_true] at q
        split at q <;> cases q
      · rw [if_neg hjm] at q
        by_cases hmo : m ∈ own.map (·.1)
        · obtain ⟨⟨m', b⟩, hmb, rfl⟩ := List.mem_map.mp hmo
          obtain ⟨k1, c', o', k2, k3, k4⟩ := R.obj m' b hmb
          rw [k2] at q
          simp only [Option.some.injEq] at q
          subst q
          have hba : b ≠ a := fun z => by
            have := ow_inj R.nd2 hmb hja z
            cases this
            exact hjm rfl
          refine ⟨.ref b, k1, (k4.ext (hid_sub sub)).dat (hid_some.mpr ⟨fun z => ?_, k3⟩)⟩
          rcases List.mem_append.mp z with z | z
          · obtain ⟨p, hp, e⟩ := List.mem_map.mp z
            have := ow_inj R.nd2 (List.mem_filter.mp hp).1 hmb e
            subst this
            exact n (List.mem_map.mpr ⟨_, hp, rfl⟩)
          · rcases List.mem_cons.mp z with z | z
            · exact hba z
            · exact R.dis b (List.mem_map.mpr ⟨_, hmb, rfl⟩) z
        · obtain ⟨v, k1, k2⟩ := R.dat m c q hmo
          exact ⟨v, k1, k2.ext (hid_sub sub)⟩
    · obtain ⟨k1, c', o', k2, k3, k4⟩ := R.obj m b (List.mem_filter.mp q).1
      have hjm : j ≠ m := fun z => by
        subst z
        have hq := (List.mem_filter.mp q).2
        rw [hmi] at hq
        cases hq
      exact ⟨k1, c', o', by rw [List.getElem?_set, if_neg hjm]; exact k2, k3, k4.ext (hid_sub sub)⟩
    · rcases List.mem_cons.mp z with z | z
      · subst z; exact nin hb
      · exact R2.dis b hb z
    · rcases List.mem_cons.mp hz with rfl | hz
      · exact ⟨o, h3⟩
      · exact R.zin z hz
  exact h (keepO mu own) σ H a o (by rw [keepO_map, ho, ← hm]) (Step.keep (K := C.K) mu) R3 (.inl ail) h3 (h4.ext (hid_sub sub))
theorem rs_if {c : Expr} {a b : List Stmt} {t : XT} {F G : XS} {pos : Pos} (hc : RT X C tc ow c t) (ha : RSs X C mu fr owl ow ow2 a F) (hb : RSs X C mu fr owl ow ow2 b G) : RS X C mu fr owl ow ow2 (.If c a b pos) (ifS t F G) := by
  obtain ⟨tc, c1, c2⟩ := hc.ex
  obtain ⟨ta, a1, a2⟩ := ha.ex
  obtain ⟨tb, b1, b2⟩ := hb.ex
  refine ⟨_, fun j => ps_if (c1 j) (a1 j) (b1 j), fun own Z ρ σ H E ho R h => ?_⟩
  unfold ifS at h
  cases e : t ρ with
  | none => rw [e] at h; exact absurd h (fun q => q)
  | some p =>
    obtain ⟨v, ρ1⟩ := p
    rw [e] at h
    refine c2 own Z ρ σ H v ρ1 _ ho R e fun H1 R1 g1 => ?_
    cases v with
    | true =>
      rw [if_pos rfl]
      exact a2 own Z ρ1 σ H1 E ho R1 (After.step (Step.of g1.all) (by simpa only [if_true] using h))
    | false =>
      rw [if_neg Bool.false_ne_true]
      exact b2 own Z ρ1 σ H1 E ho R1 (After.step (Step.of g1.all) (by simpa only [Bool.false_eq_true, if_false] using h))
end
end Lay

namespace Lay
open PySem PySem.Spec PyProof.Rows L2

/-! ## functions -/
structure FnG (C : Ct) (k : Nat) (f : Addr) (fd : FuncData) (ps : List Str) (sp : Sp) : Prop where
  len : ∀ vs H Q E, sp vs H Q E → vs.length = ps.length
  run : ∀ (A : Around) (outer : List Env) (s : Shared) (H : Hp) (args : Args) (us : List Value) (vs : List V) (Q : VK) (E : XK), A.guards = some [] → Room k A → Env0 C.P C.w C.K C.mg C.base A outer s H → BindsTo s fd args (ps.zip us) → Vals vs us → sp vs H Q E →
    codeAny (model C.P C.w) A (.call (.ref f) args) (CR L2.CX0 outer C.P C.w H s Q E) s
structure Fn (C : Ct) (x : Str) (k : Nat) (ps : List Str) (sp : Sp) : Prop where
  ex : ∃ f fd, C.mg x = some (.ref f) ∧ PySem.W.keepIn C.K (.ref f) = true ∧ Binds C.K fd ps [] ∧ FnG C k f fd ps sp
theorem FnG.mono {C : Ct} {j k : Nat} {f : Addr} {fd : FuncData} {ps : List Str} {sp : Sp} (F : FnG C j f fd ps sp) (h : j ≤ k) : FnG C k f fd ps sp := ⟨F.len, fun A outer s H args us vs Q E hg hr => F.run A outer s H args us vs Q E hg (hr.mono h)⟩

theorem fnG_of {C : Ct} {k : Nat} {f : Addr} {name qual : Str} {params : Arguments} {body : List Stmt} {scope : Scope} {dV kV doc pm cdv ct oc : Value} {an od : Option Addr}
    {osl : Array (Option Value)} {N ps : List Str} {sp : Sp} (lk : C.K.lookup f = some ⟨oc, od, .func (PySem.W.fnOf name qual params body scope dV kV doc pm an cdv ct), osl⟩) (hcd : PySem.W.codeIn C.K cdv qual = true) (S : FnScope N ps scope)
    (len : ∀ vs H Q E, sp vs H Q E → vs.length = ps.length)
    (hbody : ∀ (A : Around) (outer : List Env) (s : Shared) (H : Hp) (vs : List V) (Q : VK) (E : XK), (A.deeper (envOfC qual scope s.heap.objs.size f cdv)).guards = some [] → Room k (A.deeper (envOfC qual scope s.heap.objs.size f cdv)) → sp vs H Q E →
      ∃ t, PSs (cxOf L2.CX0 C.P C.w C.K C.mg C.base N qual scope f cdv A outer s H E).nox body t ∧ t { nx := fun _ H' => Q .non H', rt := Q } (L2.start N vs) H) :
    FnG C (k + 1) f (PySem.W.fnOf name qual params body scope dV kV doc pm an cdv ct) ps sp := by
  refine ⟨len, fun A outer s H args us vs Q E hgd hr e0 hb r hsp => ?_⟩
  have inK : C.K.In s.heap := e0.mod.kin.keeps (fun b o e => (e0.bs b o e).1)
  have nolim : s.heap.NoLimit := e0.mod.nolimit.keeps (fun b o e => (e0.bs b o e).1)
  have kinds : ∀ y ∈ ps.zip us, scope.names.lookup y.1 = some .local ∨ (scope.names.lookup y.1 = some .cell ∧ ((cellsFrom (s.heap.objs.size + 1) scope.names []).lookup y.1).isSome = true) := by
    rintro ⟨n, v⟩ hy
    exact (S.par n (List.of_mem_zip hy).1).elim (fun q => .inl q) (fun q => .inr ⟨q, PySem.W.cellsFrom_some _ _ _ (.inl q)⟩)
  obtain ⟨t, ht, hq⟩ := hbody A outer s H vs Q E hgd (hr.deeper _) hsp
  have vl := len _ _ _ _ hsp
  refine codeAny_call_function hr.depth (inK _ _ lk) rfl S.co S.gen rfl (PySem.W.codeRec_of inK hcd) (hb _ _ _ _ (wpAny_newFunctionEnv_cells S.kind kinds fun env he s1 x => ?_))
  subst he
  refine ⟨nolim.keeps x.toInCall.keep, codeAny_func ?_⟩
  have I0 := inv_start (CX := L2.CX0) (N := N) (E := E) S hr.hd e0 vl r x
  have hrun := ht.nox.run [] s1 (L2.start N vs) H _ I0 hq
  refine wpAny_mono hrun (fun fl s' hs => ?_) (fun e s' hs => hs)
  cases fl with
  | next => obtain ⟨σ', H', J, q⟩ := hs; exact ⟨V.non, H', J.os, J.bare, J.base, J.hok, rfl, q⟩
  | ret u => obtain ⟨v, σ', H', J, rv, q⟩ := hs; exact ⟨v, H', J.os, J.bare, J.base, J.hok, rv, q⟩
  | brk => exact hs.elim fun _ h => h.elim fun _ h => h.2.elim
  | cont => exact hs.elim fun _ h => h.elim fun _ h => h.2.elim

/-- what a body's context is -/
theorem fam_of {C : Ct} {k : Nat} {N : List Str} {qual : Str} {scope : Scope} {f : Addr} {cdv : Value} {A : Around} {outer : List Env} {s : Shared} {H : Hp} {E : XK} (nd : N.Nodup)
    (hg : (A.deeper (envOfC qual scope s.heap.objs.size f cdv)).guards = some []) (hr : Room k (A.deeper (envOfC qual scope s.heap.objs.size f cdv))) :
    Fam (fun _ : Unit => (cxOf L2.CX0 C.P C.w C.K C.mg C.base N qual scope f cdv A outer s H E).nox) C N k :=
  ⟨fun _ => rfl, fun _ => rfl, fun _ => rfl, fun _ => rfl, fun _ => rfl, fun _ => rfl, nd, fun _ => rfl, fun _ => hr, fun _ => hg⟩

/-! ### promises -/
/-- no argument is changed -/
def spP (K : PySem.W.Frag) (n : Nat) (F : List D → Option D) : Sp := fun vs H Q _ => ∃ (Z : List Addr) (ds : List D) (d : D), vs.length = n ∧ Zok Z H ∧ Dats K (hid Z H) ds vs ∧ F ds = some d ∧ ∀ v H', Ext H H' → Dat K (hid Z H') d v → Q v H'
/-- .. and what comes back is a new object -/
def spPF (K : PySem.W.Frag) (n : Nat) (F : List D → Option D) : Sp := fun vs H Q _ => ∃ (Z : List Addr) (ds : List D) (d : D), vs.length = n ∧ Zok Z H ∧ Dats K (hid Z H) ds vs ∧ F ds = some d ∧
  ∀ p o H', Ext H H' → H p = none → H' p = some o → Ob K (hid (p :: Z) H') d o → Q (.ref p) H'
/-- the first argument is changed -/
def spB (K : PySem.W.Frag) (n : Nat) (F : D → List D → Option (D × D)) : Sp := fun vs H Q _ => ∃ (Z : List Addr) (a : Addr) (o : HO) (b : D) (vs' : List V) (ds : List D) (d b' : D), vs = .ref a :: vs' ∧ vs.length = n ∧ H a = some o ∧ a ∉ Z ∧ Zok Z H ∧ Ob K (hid (a :: Z) H) b o ∧ Dats K (hid (a :: Z) H) ds vs' ∧
  F b ds = some (d, b') ∧ ∀ v o' H', (∀ c u, H c = some u → c ≠ a → H' c = some u) → H' a = some o' → Ob K (hid (a :: Z) H') b' o' → Dat K (hid (a :: Z) H') d v → Q v H'
def spBF (K : PySem.W.Frag) (n : Nat) (F : D → List D → Option (D × D)) : Sp := fun vs H Q _ => ∃ (Z : List Addr) (a : Addr) (o : HO) (b : D) (vs' : List V) (ds : List D) (d b' : D), vs = .ref a :: vs' ∧ vs.length = n ∧ H a = some o ∧ a ∉ Z ∧ Zok Z H ∧ Ob K (hid (a :: Z) H) b o ∧ Dats K (hid (a :: Z) H) ds vs' ∧
  F b ds = some (d, b') ∧ ∀ p u o' H', (∀ c u, H c = some u → c ≠ a → H' c = some u) → H' a = some o' → Ob K (hid (a :: p :: Z) H') b' o' → H p = none → H' p = some u → Ob K (hid (a :: p :: Z) H') d u → Q (.ref p) H'

/-- a body's value -/
def runP (m : Nat) (F : XS) (ds : List D) : Option D := match F (ds.map some ++ List.replicate m none) with
  | .rt d _ => some d
  | .nx _ => some .none
  | _ => none
def runPF (m : Nat) (F : XS) (ds : List D) : Option D := match F (ds.map some ++ List.replicate m none) with
  | .rt d _ => some d
  | _ => none
def b0 (d : D) (ρ : En) : Option (D × D) := match ρ[0]? with
  | some (some b) => some (d, b)
  | _ => none
def runB (m : Nat) (F : XS) (b : D) (ds : List D) : Option (D × D) := match F (some b :: (ds.map some ++ List.replicate m none)) with
  | .rt d ρ => b0 d ρ
  | .nx ρ => b0 .none ρ
  | _ => none
def runBF (m : Nat) (F : XS) (b : D) (ds : List D) : Option (D × D) := match F (some b :: (ds.map some ++ List.replicate m none)) with
  | .rt d ρ => b0 d ρ
  | _ => none

theorem getElem?_map_some {α : Type} {xs : List α} {m : Nat} {i : Nat} {y : α} (h : (xs.map some ++ List.replicate m none)[i]? = some (some y)) : xs[i]? = some y := by
  by_cases hi : i < xs.length
  · rw [List.getElem?_append_left (by simpa using hi), List.getElem?_map] at h
    cases e : xs[i]? with
    | none => rw [e] at h; cases h
    | some x => rw [e] at h; simp only [Option.map_some, Option.some.injEq] at h; rw [h]
  · rw [List.getElem?_append_right (by simpa using hi), List.getElem?_replicate] at h
    split at h <;> cases h
theorem rep_start {K : PySem.W.Frag} {Z : List Addr} {H : Hp} {ds : List D} {vs : List V} {m : Nat} (zo : Zok Z H) (h : Dats K (hid Z H) ds vs) : Rep K [] Z (ds.map some ++ List.replicate m none) (vs.map some ++ List.replicate m none) H where
  len := by simp [h.len]
  dat := fun i d q _ => by
    obtain ⟨v, h1, h2⟩ := h.get (getElem?_map_some q)
    refine ⟨v, ?_, h2⟩
    have hi : i < vs.length := by
      by_cases hi : i < vs.length
      · exact hi
      · rw [List.getElem?_eq_none (by omega)] at h1; cases h1
    rw [List.getElem?_append_left (by simpa using hi), List.getElem?_map, h1]
    rfl
  obj := fun i a h => by cases h
  nd1 := List.nodup_nil
  nd2 := List.nodup_nil
  dis := fun a h => by cases h
  zin := zo
theorem rep_startB {K : PySem.W.Frag} {Z : List Addr} {H : Hp} {ds : List D} {vs : List V} {m : Nat} {a : Addr} {o : HO} {b : D} (zo : Zok Z H) (ha : H a = some o) (hz : a ∉ Z) (ob : Ob K (hid (a :: Z) H) b o) (h : Dats K (hid (a :: Z) H) ds vs) :
    Rep K [(0, a)] Z (some b :: (ds.map some ++ List.replicate m none)) (some (.ref a) :: (vs.map some ++ List.replicate m none)) H where
  len := by simp [h.len]
  dat := fun i d q n => by
    cases i with
    | zero => exact absurd (List.mem_singleton.mpr rfl) n
    | succ i =>
      obtain ⟨v, h1, h2⟩ := h.get (getElem?_map_some (show (ds.map some ++ List.replicate m none)[i]? = some (some d) from by simpa using q))
      refine ⟨v, ?_, h2⟩
      have hi : i < vs.length := by
        by_cases hi : i < vs.length
        · exact hi
        · rw [List.getElem?_eq_none (by omega)] at h1; cases h1
      rw [List.getElem?_cons_succ, List.getElem?_append_left (by simpa using hi), List.getElem?_map, h1]
      rfl
  obj := fun i c q => by
    have q := List.mem_singleton.mp q
    cases q
    exact ⟨rfl, b, o, rfl, ha, ob⟩
  nd1 := List.nodup_cons.mpr ⟨List.not_mem_nil, List.nodup_nil⟩
  nd2 := List.nodup_cons.mpr ⟨List.not_mem_nil, List.nodup_nil⟩
  dis := fun c q => by rw [List.mem_singleton.mp q]; exact hz
  zin := zo

section
variable {C : Ct} {k : Nat} {f : Addr} {fd : FuncData} {x : Str} {params : Arguments} {body : List Stmt} {scope : Scope} {kws : List (Str × V)} {N ps : List Str} {F : XS} {ow2 : List Nat}
abbrev FnHere (C : Ct) (x : Str) (params : Arguments) (body : List Stmt) (scope : Scope) : Prop := ∃ f fd, C.mg x = some (.ref f) ∧ FunD C.K x x params body scope [] [] f fd
theorem start_eq (N : List Str) (vs : List V) {m : Nat} (h : N.length = vs.length + m) : L2.start N vs = vs.map some ++ List.replicate m none := by
  unfold L2.start
  rw [show N.length - vs.length = m by omega]
theorem fnP (hf : FnHere C x params body scope) (S : FnScope N ps scope) (m : Nat) (hm : N.length = ps.length + m)
    (hb : ∀ (kV doc pm : Value) (an : Option Addr) (cdv ct : Value) (us : List Value), us.length = ps.length → bindArgs (PySem.W.fnOf x x params body scope .none kV doc pm an cdv ct) ⟨us, []⟩ = pure (ps.zip us))
    (h : ∀ (f : Addr) (cdv : Value) (A : Around) (outer : List Env) (s : Shared) (H : Hp) (E : XK), Fam (fun _ : Unit => (cxOf L2.CX0 C.P C.w C.K C.mg C.base N x scope f cdv A outer s H E).nox) C N k →
      RSs (fun _ : Unit => (cxOf L2.CX0 C.P C.w C.K C.mg C.base N x scope f cdv A outer s H E).nox) C [] false [] [] ow2 body F) :
    Fn C x (k + 1) ps (spP C.K ps.length (runP m F)) := by
  obtain ⟨f, fd, hg, FD⟩ := hf
  refine ⟨f, fd, hg, FD.kp, FD.bindsN hb, ?_⟩
  obtain ⟨oc, od, dV, kV, doc, pm, an, cdv, ct, osl, rfl, lk, hcd, _, _⟩ := FD.ex
  refine fnG_of lk hcd S (fun vs H Q E h => by obtain ⟨Z, ds, d, h, _⟩ := h; exact h) fun A outer s H vs Q E hgd hr hsp => ?_
  obtain ⟨t, h1, h2⟩ := (h f cdv A outer s H E (fam_of S.nd hgd hr)).ex
  obtain ⟨Z, ds, d, hl, zo, hd, hF, hq⟩ := hsp
  refine ⟨t, h1 (), ?_⟩
  rw [start_eq N vs (m := m) (by omega)]
  refine h2 [] Z _ _ H _ rfl (rep_start zo hd) ?_
  unfold runP at hF
  split at hF
  · rename_i d' ρ' e
    rw [e]
    simp only [Option.some.injEq] at hF
    subst hF
    intro v own' σ' H' e' st R' dd
    have : own' = [] := List.map_eq_nil_iff.mp e'
    subst this
    exact hq v H' (fun a o q => st.gro a o q (by simp)) dd
  · rename_i ρ' e
    rw [e]
    simp only [Option.some.injEq] at hF
    subst hF
    intro own' σ' H' e' st R'
    exact hq _ H' (fun a o q => st.gro a o q (by simp)) .non
  · cases hF
theorem fnPF (hf : FnHere C x params body scope) (S : FnScope N ps scope) (m : Nat) (hm : N.length = ps.length + m)
    (hb : ∀ (kV doc pm : Value) (an : Option Addr) (cdv ct : Value) (us : List Value), us.length = ps.length → bindArgs (PySem.W.fnOf x x params body scope .none kV doc pm an cdv ct) ⟨us, []⟩ = pure (ps.zip us))
    (h : ∀ (f : Addr) (cdv : Value) (A : Around) (outer : List Env) (s : Shared) (H : Hp) (E : XK), Fam (fun _ : Unit => (cxOf L2.CX0 C.P C.w C.K C.mg C.base N x scope f cdv A outer s H E).nox) C N k →
      RSs (fun _ : Unit => (cxOf L2.CX0 C.P C.w C.K C.mg C.base N x scope f cdv A outer s H E).nox) C [] true [] [] ow2 body F) :
    Fn C x (k + 1) ps (spPF C.K ps.length (runPF m F)) := by
  obtain ⟨f, fd, hg, FD⟩ := hf
  refine ⟨f, fd, hg, FD.kp, FD.bindsN hb, ?_⟩
  obtain ⟨oc, od, dV, kV, doc, pm, an, cdv, ct, osl, rfl, lk, hcd, _, _⟩ := FD.ex
  refine fnG_of lk hcd S (fun vs H Q E h => by obtain ⟨Z, ds, d, h, _⟩ := h; exact h) fun A outer s H vs Q E hgd hr hsp => ?_
  obtain ⟨t, h1, h2⟩ := (h f cdv A outer s H E (fam_of S.nd hgd hr)).ex
  obtain ⟨Z, ds, d, hl, zo, hd, hF, hq⟩ := hsp
  refine ⟨t, h1 (), ?_⟩
  rw [start_eq N vs (m := m) (by omega)]
  refine h2 [] Z _ _ H _ rfl (rep_start zo hd) ?_
  unfold runPF at hF
  split at hF
  · rename_i d' ρ' e
    rw [e]
    simp only [Option.some.injEq] at hF
    subst hF
    intro own' σ' H' p o e' st R' hp h3 h4
    have : own' = [] := List.map_eq_nil_iff.mp e'
    subst this
    exact hq p o H' (fun a o q => st.gro a o q (by simp)) (hp.elim (fun z => absurd z (by simp)) id) h3 h4
  · cases hF
theorem fnB (hf : FnHere C x params body scope) (S : FnScope N ps scope) (m : Nat) (hm : N.length = ps.length + m)
    (hb : ∀ (kV doc pm : Value) (an : Option Addr) (cdv ct : Value) (us : List Value), us.length = ps.length → bindArgs (PySem.W.fnOf x x params body scope .none kV doc pm an cdv ct) ⟨us, []⟩ = pure (ps.zip us))
    (h : ∀ (f : Addr) (cdv : Value) (A : Around) (outer : List Env) (s : Shared) (H : Hp) (E : XK), Fam (fun _ : Unit => (cxOf L2.CX0 C.P C.w C.K C.mg C.base N x scope f cdv A outer s H E).nox) C N k →
      RSs (fun _ : Unit => (cxOf L2.CX0 C.P C.w C.K C.mg C.base N x scope f cdv A outer s H E).nox) C [0] false [] [0] [0] body F) :
    Fn C x (k + 1) ps (spB C.K ps.length (runB m F)) := by
  obtain ⟨f, fd, hg, FD⟩ := hf
  refine ⟨f, fd, hg, FD.kp, FD.bindsN hb, ?_⟩
  obtain ⟨oc, od, dV, kV, doc, pm, an, cdv, ct, osl, rfl, lk, hcd, _, _⟩ := FD.ex
  refine fnG_of lk hcd S (fun vs H Q E h => by obtain ⟨Z, a, o, b, vs', ds, d, b', _, h, _⟩ := h; exact h) fun A outer s H vs Q E hgd hr hsp => ?_
  obtain ⟨t, h1, h2⟩ := (h f cdv A outer s H E (fam_of S.nd hgd hr)).ex
  obtain ⟨Z, a, o, b, vs', ds, d, b', rfl, hl, ha, hz, zo, ob, hd, hF, hq⟩ := hsp
  refine ⟨t, h1 (), ?_⟩
  rw [start_eq N (.ref a :: vs') (m := m) (by omega)]
  refine h2 [(0, a)] Z _ _ H _ rfl (rep_startB zo ha hz ob hd) ?_
  have fin : ∀ {own' : Ow} {σ' : L2.St} {H' : Hp} {ρ' : En} {d' : D}, own'.map (·.1) = [0] → Step [0] [(0, a)] H own' H' → Rep C.K own' Z ρ' σ' H' → b0 d' ρ' = some (d, b') →
      own' = [(0, a)] ∧ d' = d ∧ ∃ o', H' a = some o' ∧ Ob C.K (hid (a :: Z) H') b' o' := fun {own' σ' H' ρ' d'} e' st R' hb0 => by
    obtain ⟨⟨i, c⟩, rfl, hi⟩ : ∃ p, own' = [p] ∧ p.1 = 0 := by
      cases own' with
      | nil => cases e'
      | cons p r =>
        cases r with
        | nil => simp only [List.map_cons, List.map_nil, List.cons.injEq, and_true] at e'; exact ⟨p, rfl, e'⟩
        | cons q r => simp at e'
    have hi : i = 0 := hi
    subst hi
    have := List.mem_singleton.mp (st.mu 0 (List.mem_singleton.mpr rfl) c (List.mem_singleton.mpr rfl))
    cases this
    obtain ⟨_, d2, o', k1, k2, k3⟩ := R'.obj 0 a (List.mem_singleton.mpr rfl)
    unfold b0 at hb0
    rw [k1] at hb0
    simp only [Option.some.injEq, Prod.mk.injEq] at hb0
    obtain ⟨rfl, rfl⟩ := hb0
    exact ⟨rfl, rfl, o', k2, k3⟩
  unfold runB at hF
  split at hF
  · rename_i d' ρ' e
    rw [e]
    intro v own' σ' H' e' st R' dd
    obtain ⟨rfl, rfl, o', k2, k3⟩ := fin e' st R' hF
    exact hq v o' H' (fun c u q n => st.gro c u q (by simpa using n)) k2 k3 dd
  · rename_i ρ' e
    rw [e]
    intro own' σ' H' e' st R'
    obtain ⟨rfl, rfl, o', k2, k3⟩ := fin e' st R' hF
    exact hq _ o' H' (fun c u q n => st.gro c u q (by simpa using n)) k2 k3 .non
  · cases hF
theorem fnBF (hf : FnHere C x params body scope) (S : FnScope N ps scope) (m : Nat) (hm : N.length = ps.length + m)
    (hb : ∀ (kV doc pm : Value) (an : Option Addr) (cdv ct : Value) (us : List Value), us.length = ps.length → bindArgs (PySem.W.fnOf x x params body scope .none kV doc pm an cdv ct) ⟨us, []⟩ = pure (ps.zip us))
    (h : ∀ (f : Addr) (cdv : Value) (A : Around) (outer : List Env) (s : Shared) (H : Hp) (E : XK), Fam (fun _ : Unit => (cxOf L2.CX0 C.P C.w C.K C.mg C.base N x scope f cdv A outer s H E).nox) C N k →
      RSs (fun _ : Unit => (cxOf L2.CX0 C.P C.w C.K C.mg C.base N x scope f cdv A outer s H E).nox) C [0] true [] [0] [0] body F) :
    Fn C x (k + 1) ps (spBF C.K ps.length (runBF m F)) := by
  obtain ⟨f, fd, hg, FD⟩ := hf
  refine ⟨f, fd, hg, FD.kp, FD.bindsN hb, ?_⟩
  obtain ⟨oc, od, dV, kV, doc, pm, an, cdv, ct, osl, rfl, lk, hcd, _, _⟩ := FD.ex
  refine fnG_of lk hcd S (fun vs H Q E h => by obtain ⟨Z, a, o, b, vs', ds, d, b', _, h, _⟩ := h; exact h) fun A outer s H vs Q E hgd hr hsp => ?_
  obtain ⟨t, h1, h2⟩ := (h f cdv A outer s H E (fam_of S.nd hgd hr)).ex
  obtain ⟨Z, a, o, b, vs', ds, d, b', rfl, hl, ha, hz, zo, ob, hd, hF, hq⟩ := hsp
  refine ⟨t, h1 (), ?_⟩
  rw [start_eq N (.ref a :: vs') (m := m) (by omega)]
  refine h2 [(0, a)] Z _ _ H _ rfl (rep_startB zo ha hz ob hd) ?_
  unfold runBF at hF
  split at hF
  · rename_i d' ρ' e
    rw [e]
    intro own' σ' H' p u e' st R' hp h3 h4
    obtain ⟨⟨i, c⟩, rfl, hi⟩ : ∃ p, own' = [p] ∧ p.1 = 0 := by
      cases own' with
      | nil => cases e'
      | cons p r =>
        cases r with
        | nil => simp only [List.map_cons, List.map_nil, List.cons.injEq, and_true] at e'; exact ⟨p, rfl, e'⟩
        | cons q r => simp at e'
    have hi : i = 0 := hi
    subst hi
    have := List.mem_singleton.mp (st.mu 0 (List.mem_singleton.mpr rfl) c (List.mem_singleton.mpr rfl))
    cases this
    obtain ⟨_, d2, o', k1, k2, k3⟩ := R'.obj 0 a (List.mem_singleton.mpr rfl)
    unfold b0 at hF
    rw [k1] at hF
    simp only [Option.some.injEq, Prod.mk.injEq] at hF
    obtain ⟨rfl, rfl⟩ := hF
    have hpa : p ∉ adr [(0, a)] := fun z => R'.dis p z (List.mem_cons_self ..)
    exact hq p u o' H' (fun c u q n => st.gro c u q (by simpa using n)) k2 k3 (hp.elim (fun z => absurd z hpa) id) h3 h4
  · cases hF
end
end Lay

namespace Lay
open PySem PySem.Spec PyProof.Rows L2

/-! ## calls of defs -/
theorem pe_callG {Y : Cx} {C : Ct} {k j : Nat} {x : Str} {f : Addr} {fd : FuncData} {ps : List Str} {sp : Sp} {e : Expr} {es : List Expr} {t : TA} {p pos : Pos} (hP : Y.prog = C.P) (hw : Y.w = C.w) (hK : Y.K = C.K) (hmg : Y.mg = C.mg) (hbase : Y.base = C.base)
    (hr : Room k Y.A) (hgd : Y.A.guards = some []) (hj : j ≤ k) (G : FnG C j f fd ps sp) (hg : Gl Y x) (hm : C.mg x = some (.ref f)) (hk : PySem.W.keepIn C.K (.ref f) = true) (hb : Binds C.K fd ps []) (ha : PA Y (e :: es) t) (hdb : (x == ("__debug__" : Str)) = false)
    (he : starEach (e :: es) Y.env = (false, eval e Y.env) :: starEach es Y.env) (hpl : (backTo pos (starEach es Y.env)).any (·.1) = false) :
    PE Y (.Call (.Name x p) (e :: es) [] pos) (tCall sp [] E0 t) := by
  obtain ⟨P, w, K, mg, base⟩ := C
  have hP : Y.prog = P := hP
  have hw : Y.w = w := hw
  have hK : Y.K = K := hK
  have hmg : Y.mg = mg := hmg
  have hbase : Y.base = base := hbase
  subst hP hw hK hmg hbase
  refine ⟨fun pins s σ H Q I h => wpAny_Call_Name_kw (ld_glob I hg hm ?_ hdb)⟩
  refine PySem.W.callWith_K (h₀ := Y.base) I.ok.mod.kin hk (thn (ha.run pos pins s σ H _ I h) fun us s1 ⟨vs, H1, I1, r, q⟩ => ⟨I1.kIn, ?_⟩) he hpl
  have q' : sp vs H1 Q E0 := by have q : sp (vs ++ []) H1 Q E0 := q; rw [List.append_nil] at q; exact q
  have hl : us.length = ps.length := by rw [← r.length]; exact G.len _ _ _ _ q'
  have hb' := hb s1 us I1.kIn (by rw [List.append_nil]; exact hl)
  rw [List.append_nil] at hb'
  refine wpAny_call (codeAny_mono ((G.mono hj).run Y.A Y.stack s1 H1 ⟨us, []⟩ us vs Q E0 hgd hr I1.env0 hb' r q') fun r s' hq => ?_)
  cases r with
  | error e => exact hq.elim
  | ok fl =>
    cases fl with
    | ret u => exact I1.after hq
    | next => exact hq.elim
    | brk => exact hq.elim
    | cont => exact hq.elim

theorem hid_congr {Z Z' : List Addr} {H : Hp} (h : ∀ a, a ∈ Z ↔ a ∈ Z') : hid Z H = hid Z' H := by
  funext a
  unfold hid
  by_cases ha : a ∈ Z
  · rw [if_pos ha, if_pos ((h a).mp ha)]
  · rw [if_neg ha, if_neg fun q => ha ((h a).mpr q)]
/-- an owned object is changed -/
theorem Rep.chg {K : PySem.W.Frag} {own : Ow} {Z Z2 : List Addr} {ρ : En} {σ : L2.St} {H H' : Hp} {i : Nat} {a : Addr} {o' : HO} {b' : D} (R : Rep K own Z ρ σ H) (ho : (i, a) ∈ own) (keep : ∀ c u, H c = some u → c ≠ a → H' c = some u) (ha : H' a = some o')
    (hz : ∀ z ∈ Z2, z ∈ Z ∨ H z = none) (zin : ∀ z ∈ Z2, ∃ o, H' z = some o) (ob : Ob K (hid (adr own ++ Z2) H') b' o') : Rep K own Z2 (ρ.set i (some b')) σ H' := by
  have aa : a ∈ adr own := List.mem_map.mpr ⟨_, ho, rfl⟩
  have x : Ext (hid (adr own ++ Z) H) (hid (adr own ++ Z2) H') := fun c u q => by
    have h := hid_some.mp q
    have hca : c ≠ a := fun z => h.1 (by rw [z]; exact List.mem_append_left _ aa)
    refine hid_some.mpr ⟨fun z => ?_, keep c u h.2 hca⟩
    rcases List.mem_append.mp z with z | z
    · exact h.1 (List.mem_append_left _ z)
    · rcases hz c z with z | z
      · exact h.1 (List.mem_append_right _ z)
      · rw [h.2] at z; cases z
  have hil : i < ρ.length := by
    obtain ⟨_, d, o, h2, _⟩ := R.obj i a ho
    by_cases hl : i < ρ.length
    · exact hl
    · rw [List.getElem?_eq_none (by omega)] at h2; cases h2
  refine ⟨by rw [List.length_set]; exact R.len, fun j d q n => ?_, fun j c q => ?_, R.nd1, R.nd2, fun c hc z => ?_, zin⟩
  · have hij : i ≠ j := fun z => n (by subst z; exact List.mem_map.mpr ⟨_, ho, rfl⟩)
    rw [List.getElem?_set, if_neg hij] at q
    obtain ⟨v, h1, h2⟩ := R.dat j d q n
    exact ⟨v, h1, h2.ext x⟩
  · by_cases hij : i = j
    · subst hij
      have hca : c = a := by
        have inj1 : ∀ {l : Ow}, (l.map (·.1)).Nodup → ∀ {p q : Nat × Addr}, p ∈ l → q ∈ l → p.1 = q.1 → p = q := by
          intro l
          induction l with
          | nil => intro _ p q hp; cases hp
          | cons x l ih =>
            intro nd p q hp hq e
            rw [List.map_cons, List.nodup_cons] at nd
            rcases List.mem_cons.mp hp with e1 | hp
            · rcases List.mem_cons.mp hq with e2 | hq
              · rw [e1, e2]
              · exact absurd (List.mem_map.mpr ⟨q, hq, by rw [← e, e1]⟩) nd.1
            · rcases List.mem_cons.mp hq with e2 | hq
              · exact absurd (List.mem_map.mpr ⟨p, hp, by rw [e, e2]⟩) nd.1
              · exact ih nd.2 hp hq e
        have := inj1 R.nd1 q ho rfl
        cases this
        rfl
      subst hca
      obtain ⟨h1, d, o, h2, h3, h4⟩ := R.obj i c q
      exact ⟨h1, b', o', by rw [List.getElem?_set]; simp [hil], ha, ob⟩
    · obtain ⟨h1, d, o, h2, h3, h4⟩ := R.obj j c q
      have hca : c ≠ a := fun z => by
        subst z
        have := ow_inj R.nd2 q ho rfl
        cases this
        exact hij rfl
      exact ⟨h1, d, o, by rw [List.getElem?_set, if_neg hij]; exact h2, keep c o h3 hca, h4.ext x⟩
  · rcases hz c z with z | z
    · exact R.dis c hc z
    · obtain ⟨o, h⟩ := R.ain hc
      rw [h] at z; cases z

theorem mem_mid {a p : Addr} {l m : List Addr} : a ∈ l ++ p :: m ↔ a ∈ p :: (l ++ m) := by
  simp only [List.mem_append, List.mem_cons]
  constructor
  · rintro (h | h | h)
    · exact .inr (.inl h)
    · exact .inl h
    · exact .inr (.inr h)
  · rintro (h | h | h)
    · exact .inr (.inl h)
    · exact .inl h
    · exact .inr (.inr h)
def callB (g : D → List D → Option (D × D)) (i : Nat) (fr : XA) : XE := fun ρ => (fr ρ).bind fun p => match p.2[i]? with
  | some (some b) => (g b p.1).map fun r => (r.1, p.2.set i (some r.2))
  | _ => none

section
variable {ι : Type} {X : ι → Cx} {C : Ct} {mu : List Nat} {fr : Bool} {tc owl ow ow1 ow2 : List Nat} {N : List Str} {k : Nat}
theorem Gl_args {e : Expr} {es : List Expr} (h : (starEach (e :: es) = fun env => (false, eval e env) :: starEach es env)) : True := trivial

theorem re_callP {x : Str} {j n : Nat} {ps : List Str} {g : List D → Option D} {e : Expr} {es : List Expr} {fa : XA} {p pos : Pos} (F : Fam X C N k) (G : Fn C x j ps (spP C.K n g)) (hj : j ≤ k) (hn : (e :: es).length = n) (hg : ∀ i, Gl (X i) x) (ha : RA X C tc ow (e :: es) fa)
    (he : ∀ i, starEach (e :: es) (X i).env = (false, eval e (X i).env) :: starEach es (X i).env) (hpl : ∀ i, (backTo pos (starEach es (X i).env)).any (·.1) = false) (hdb : (x == ("__debug__" : Str)) = false := by decide) :
    RE X C tc ow (.Call (.Name x p) (e :: es) [] pos) (clE g fa) := by
  obtain ⟨f, fd, hm, hk, hb, G⟩ := G.ex
  obtain ⟨t, a1, a2⟩ := ha.ex
  refine ⟨_, fun i => pe_callG (F.P i) (F.w i) (F.K i) (F.mg i) (F.base i) (F.room i) (F.gd i) hj G (hg i) hm hk hb (a1 i) hdb (he i) (hpl i), fun own Z ρ σ H d ρ' Q ho R hf hq => ?_⟩
  unfold clE at hf
  cases e1 : fa ρ with
  | none => rw [e1] at hf; cases hf
  | some q =>
    obtain ⟨ds, ρ1⟩ := q
    rw [e1] at hf
    simp only [Option.bind_some] at hf
    cases e2 : g ds with
    | none => rw [e2] at hf; cases hf
    | some z =>
      rw [e2] at hf
      simp only [Option.map_some, Option.some.injEq, Prod.mk.injEq] at hf
      obtain ⟨rfl, rfl⟩ := hf
      refine a2 own Z ρ σ H ds _ _ ho R e1 fun vs H1 R1 g1 d1 => ?_
      refine ⟨adr own ++ Z, ds, _, ?_, R1.zok, by rw [List.append_nil]; exact d1, e2, fun v H2 e d2 => hq v H2 (R1.ext e) (g1.trans (Grt.of e)) d2⟩
      rw [List.append_nil, ← d1.len, ha.len _ _ _ e1, hn]
theorem rf_callP {x : Str} {j n : Nat} {ps : List Str} {g : List D → Option D} {e : Expr} {es : List Expr} {fa : XA} {p pos : Pos} (F : Fam X C N k) (G : Fn C x j ps (spPF C.K n g)) (hj : j ≤ k) (hn : (e :: es).length = n) (hg : ∀ i, Gl (X i) x) (ha : RA X C tc ow (e :: es) fa)
    (he : ∀ i, starEach (e :: es) (X i).env = (false, eval e (X i).env) :: starEach es (X i).env) (hpl : ∀ i, (backTo pos (starEach es (X i).env)).any (·.1) = false) (hdb : (x == ("__debug__" : Str)) = false := by decide) :
    RF X C tc ow (.Call (.Name x p) (e :: es) [] pos) (clE g fa) := by
  obtain ⟨f, fd, hm, hk, hb, G⟩ := G.ex
  obtain ⟨t, a1, a2⟩ := ha.ex
  refine ⟨_, fun i => pe_callG (F.P i) (F.w i) (F.K i) (F.mg i) (F.base i) (F.room i) (F.gd i) hj G (hg i) hm hk hb (a1 i) hdb (he i) (hpl i), fun own Z ρ σ H d ρ' Q ho R hf hq => ?_⟩
  unfold clE at hf
  cases e1 : fa ρ with
  | none => rw [e1] at hf; cases hf
  | some q =>
    obtain ⟨ds, ρ1⟩ := q
    rw [e1] at hf
    simp only [Option.bind_some] at hf
    cases e2 : g ds with
    | none => rw [e2] at hf; cases hf
    | some z =>
      rw [e2] at hf
      simp only [Option.map_some, Option.some.injEq, Prod.mk.injEq] at hf
      obtain ⟨rfl, rfl⟩ := hf
      refine a2 own Z ρ σ H ds _ _ ho R e1 fun vs H1 R1 g1 d1 => ?_
      refine ⟨adr own ++ Z, ds, _, ?_, R1.zok, by rw [List.append_nil]; exact d1, e2, fun p o H2 e hn hp ob => ?_⟩
      · rw [List.append_nil, ← d1.len, ha.len _ _ _ e1, hn]
      · have hp0 : H p = none := by
          cases q : H p with
          | none => rfl
          | some u =>
            by_cases hm : p ∈ adr own
            · obtain ⟨o2, q2⟩ := R1.ain hm
              rw [hn] at q2; cases q2
            · rw [g1 p u q (nadr hm)] at hn; cases hn
        refine hq p o H2 (R1.hide hn (Gro.of e) (fun a ha => ?_) hp) (g1.trans (Grt.of e)) hp0 hp (by rw [hid_congr (Z' := p :: (adr own ++ Z)) fun a => mem_mid]; exact ob)
        · obtain ⟨u, q⟩ := R1.ain ha
          rw [q, e a u q]
/-- the slot and the object that is changed in it -/
theorem Rep.slot {K : PySem.W.Frag} {own : Ow} {Z : List Addr} {ρ : En} {σ : L2.St} {H : Hp} (R : Rep K own Z ρ σ H) (ho : own.map (·.1) = ow) {i : Nat} (hi : ow.contains i = true) : ∃ a, (i, a) ∈ own ∧ σ[i]? = some (some (.ref a)) ∧ ∀ b, ρ[i]? = some (some b) → ∃ o, H a = some o ∧ Ob K (hid (adr own ++ Z) H) b o := by
  have hio : i ∈ own.map (·.1) := by rw [ho]; exact List.contains_iff_mem.mp hi
  obtain ⟨⟨j, a⟩, hja, rfl⟩ := List.mem_map.mp hio
  obtain ⟨h1, d', o, h2, h3, h4⟩ := R.obj j a hja
  refine ⟨a, hja, h1, fun b hb => ?_⟩
  rw [h2] at hb
  simp only [Option.some.injEq] at hb
  subst hb
  exact ⟨o, h3, h4⟩
/-- what is hidden to a callee that changes a -/
def butA (own : Ow) (Z : List Addr) (a : Addr) : List Addr := (adr own).filter (fun c => decide (c ≠ a)) ++ Z
theorem butA_mem {own : Ow} {Z : List Addr} {a : Addr} (h : a ∈ adr own) (c : Addr) : c ∈ a :: butA own Z a ↔ c ∈ adr own ++ Z := by
  unfold butA
  simp only [List.mem_cons, List.mem_append, List.mem_filter, decide_eq_true_eq]
  constructor
  · rintro (h1 | ⟨h1, _⟩ | h1)
    · exact .inl (h1 ▸ h)
    · exact .inl h1
    · exact .inr h1
  · rintro (h1 | h1)
    · by_cases hc : c = a
      · exact .inl hc
      · exact .inr (.inl ⟨h1, hc⟩)
    · exact .inr (.inr h1)
theorem butA_nin {K : PySem.W.Frag} {own : Ow} {Z : List Addr} {ρ : En} {σ : L2.St} {H : Hp} (R : Rep K own Z ρ σ H) {a : Addr} (h : a ∈ adr own) : a ∉ butA own Z a := fun q => by
  unfold butA at q
  rcases List.mem_append.mp q with q | q
  · simp at q
  · exact R.dis a h q
theorem re_callB_ {x y : Str} {j n : Nat} {ps : List Str} {g : D → List D → Option (D × D)} {es : List Expr} {fa : XA} {p pos p1 : Pos} (F : Fam X C N k) (G : Fn C x j ps (spB C.K n g)) (hj : j ≤ k) (i : Nat) (hi : ow.contains i = true) (htc : tc.contains i = true) (hN : N[i]? = some y) (hv : ∀ j, Vis (X j).env.scope y)
    (hn : es.length + 1 = n) (hg : ∀ i, Gl (X i) x) (ha : RA X C tc ow es fa)
    (he : ∀ i, starEach (.Name y p1 :: es) (X i).env = (false, eval (.Name y p1) (X i).env) :: starEach es (X i).env) (hpl : ∀ i, (backTo pos (starEach es (X i).env)).any (·.1) = false) (hdb : (x == ("__debug__" : Str)) = false := by decide)
    (hd : (y == ("__debug__" : Str)) = false := by decide) (hcd : (y == ("__classdict__" : Str)) = false := by decide) :
    RE X C tc ow (.Call (.Name x p) (.Name y p1 :: es) [] pos) (callB g i fa) := by
  obtain ⟨f, fd, hm, hk, hb, G⟩ := G.ex
  obtain ⟨t, a1, a2⟩ := ha.ex
  refine ⟨_, fun m => pe_callG (F.P m) (F.w m) (F.K m) (F.mg m) (F.base m) (F.room m) (F.gd m) hj G (hg m) hm hk hb (pa_cons (pe_var (i := i) (by rw [F.nm m]; exact hN) (hv m) hd hcd) (a1 m) (he m)) hdb (he m) (hpl m), fun own Z ρ σ H d ρ' Q ho R hf hq => ?_⟩
  unfold callB at hf
  cases e1 : fa ρ with
  | none => rw [e1] at hf; cases hf
  | some q =>
    obtain ⟨ds, ρ1⟩ := q
    rw [e1] at hf
    simp only [Option.bind_some] at hf
    obtain ⟨a, hia, hs, _⟩ := R.slot ho hi
    refine ⟨.ref a, hs, a2 own Z ρ σ H ds ρ1 _ ho R e1 fun vs H1 R1 g1 d1 => ?_⟩
    split at hf
    · rename_i b hb1
      cases e2 : g b ds with
      | none => rw [e2] at hf; cases hf
      | some z =>
        obtain ⟨r, b'⟩ := z
        rw [e2] at hf
        simp only [Option.map_some, Option.some.injEq, Prod.mk.injEq] at hf
        obtain ⟨rfl, rfl⟩ := hf
        obtain ⟨_, _, o, k2, k3, k4⟩ := R1.obj i a hia
        rw [hb1] at k2
        simp only [Option.some.injEq] at k2
        subst k2
        have aa : a ∈ adr own := List.mem_map.mpr ⟨_, hia, rfl⟩
        have hc := hid_congr (H := H1) (butA_mem (Z := Z) aa)
        refine ⟨butA own Z a, a, o, b, vs, ds, _, b', by rw [List.append_nil], ?_, k3, butA_nin R1 aa, fun z hz => R1.zok z ((butA_mem aa z).mp (List.mem_cons_of_mem _ hz)), by rw [hc]; exact k4, by rw [hc]; exact d1, e2, fun v o' H2 keep ha2 ob2 dd => ?_⟩
        · rw [List.append_nil, List.length_cons, ← d1.len, ha.len _ _ _ e1, hn]
        · have hc2 := hid_congr (H := H2) (butA_mem (Z := Z) aa)
          rw [hc2] at ob2 dd
          refine hq v H2 (R1.chg hia keep ha2 (fun z h => .inl h) (fun z h => ?_) ob2) (g1.trans fun c u q n => keep c u q fun z => n i (z ▸ hia) (List.contains_iff_mem.mp htc)) dd
          obtain ⟨u, q⟩ := R1.zin z h
          exact ⟨u, keep z u q fun e => R1.dis a aa (e ▸ h)⟩
    · cases hf
theorem rf_callB_ {x y : Str} {j n : Nat} {ps : List Str} {g : D → List D → Option (D × D)} {es : List Expr} {fa : XA} {p pos p1 : Pos} (F : Fam X C N k) (G : Fn C x j ps (spBF C.K n g)) (hj : j ≤ k) (i : Nat) (hi : ow.contains i = true) (htc : tc.contains i = true) (hN : N[i]? = some y) (hv : ∀ j, Vis (X j).env.scope y)
    (hn : es.length + 1 = n) (hg : ∀ i, Gl (X i) x) (ha : RA X C tc ow es fa)
    (he : ∀ i, starEach (.Name y p1 :: es) (X i).env = (false, eval (.Name y p1) (X i).env) :: starEach es (X i).env) (hpl : ∀ i, (backTo pos (starEach es (X i).env)).any (·.1) = false) (hdb : (x == ("__debug__" : Str)) = false := by decide)
    (hd : (y == ("__debug__" : Str)) = false := by decide) (hcd : (y == ("__classdict__" : Str)) = false := by decide) :
    RF X C tc ow (.Call (.Name x p) (.Name y p1 :: es) [] pos) (callB g i fa) := by
  obtain ⟨f, fd, hm, hk, hb, G⟩ := G.ex
  obtain ⟨t, a1, a2⟩ := ha.ex
  refine ⟨_, fun m => pe_callG (F.P m) (F.w m) (F.K m) (F.mg m) (F.base m) (F.room m) (F.gd m) hj G (hg m) hm hk hb (pa_cons (pe_var (i := i) (by rw [F.nm m]; exact hN) (hv m) hd hcd) (a1 m) (he m)) hdb (he m) (hpl m), fun own Z ρ σ H d ρ' Q ho R hf hq => ?_⟩
  unfold callB at hf
  cases e1 : fa ρ with
  | none => rw [e1] at hf; cases hf
  | some q =>
    obtain ⟨ds, ρ1⟩ := q
    rw [e1] at hf
    simp only [Option.bind_some] at hf
    obtain ⟨a, hia, hs, _⟩ := R.slot ho hi
    refine ⟨.ref a, hs, a2 own Z ρ σ H ds ρ1 _ ho R e1 fun vs H1 R1 g1 d1 => ?_⟩
    split at hf
    · rename_i b hb1
      cases e2 : g b ds with
      | none => rw [e2] at hf; cases hf
      | some z =>
        obtain ⟨r, b'⟩ := z
        rw [e2] at hf
        simp only [Option.map_some, Option.some.injEq, Prod.mk.injEq] at hf
        obtain ⟨rfl, rfl⟩ := hf
        obtain ⟨_, _, o, k2, k3, k4⟩ := R1.obj i a hia
        rw [hb1] at k2
        simp only [Option.some.injEq] at k2
        subst k2
        have aa : a ∈ adr own := List.mem_map.mpr ⟨_, hia, rfl⟩
        have hc := hid_congr (H := H1) (butA_mem (Z := Z) aa)
        refine ⟨butA own Z a, a, o, b, vs, ds, _, b', by rw [List.append_nil], ?_, k3, butA_nin R1 aa, fun z hz => R1.zok z ((butA_mem aa z).mp (List.mem_cons_of_mem _ hz)), by rw [hc]; exact k4, by rw [hc]; exact d1, e2, fun p u o' H2 keep ha2 ob2 hpn hp ob3 => ?_⟩
        · rw [List.append_nil, List.length_cons, ← d1.len, ha.len _ _ _ e1, hn]
        · have hc2 : hid (a :: p :: butA own Z a) H2 = hid (adr own ++ p :: Z) H2 := hid_congr fun c => by
            have := butA_mem (Z := Z) aa c
            simp only [List.mem_cons, List.mem_append] at this ⊢
            constructor
            · rintro (h | h | h)
              · rcases this.mp (.inl h) with h | h
                · exact .inl h
                · exact .inr (.inr h)
              · exact .inr (.inl h)
              · rcases this.mp (.inr h) with h | h
                · exact .inl h
                · exact .inr (.inr h)
            · rintro (h | h | h)
              · rcases this.mpr (.inl h) with h | h
                · exact .inl h
                · exact .inr (.inr h)
              · exact .inr (.inl h)
              · rcases this.mpr (.inr h) with h | h
                · exact .inl h
                · exact .inr (.inr h)
          rw [hc2] at ob2 ob3
          have hp0 : H p = none := by
            cases q : H p with
            | none => rfl
            | some u =>
              by_cases hm : p ∈ adr own
              · obtain ⟨o2, q2⟩ := R1.ain hm
                rw [hpn] at q2; cases q2
              · rw [g1 p u q (nadr hm)] at hpn; cases hpn
          refine hq p u H2 (R1.chg hia keep ha2 (fun z h => ?_) (fun z h => ?_) ob2) (g1.trans fun c u q n => keep c u q fun z => n i (z ▸ hia) (List.contains_iff_mem.mp htc)) hp0 hp ob3
          · rcases List.mem_cons.mp h with rfl | h
            · exact .inr hpn
            · exact .inl h
          · rcases List.mem_cons.mp h with rfl | h
            · exact ⟨u, hp⟩
            · obtain ⟨u, q⟩ := R1.zin z h
              exact ⟨u, keep z u q fun e => R1.dis a aa (e ▸ h)⟩
    · cases hf
end
end Lay

namespace Lay
open PySem PySem.Spec PyProof.Rows L2

/-! ## what is walked -/
/-- the iterator J yields ds, in every later heap -/
def Wk (K : PySem.W.Frag) (Zs : List Addr) (H0 : Hp) (J : It) (ds : List D) : Prop := ∀ (Zs' : List Addr) (H : Hp), Ext (hid Zs H0) (hid Zs' H) → Zok Zs' H →
  (∀ i, i < ds.length → J.go i H) ∧ (∀ i x H', i < ds.length → J.yld i H x H' → Ext H H' ∧ ∃ d, ds[i]? = some d ∧ Dat K (hid Zs' H') d x) ∧ J.stop ds.length H
abbrev XI := En → Option (List D × En)
def SemI (K : PySem.W.Frag) (tc ow : List Nat) (wi : TI) (f : XI) : Prop := ∀ (own : Ow) (Z : List Addr) (ρ : En) (σ : L2.St) (H : Hp) (ds : List D) (ρ' : En) (R : It → Hp → Prop), own.map (·.1) = ow → Rep K own Z ρ σ H → f ρ = some (ds, ρ') →
  (∀ J H', Rep K own Z ρ' σ H' → Grt tc own H H' → ds.length ≤ sizeLine → Wk K (adr own ++ Z) H' J ds → R J H') → wi σ H R
abbrev XG := D → En → Option En
/-- a target; ts: the slots it stores -/
def SemG (K : PySem.W.Frag) (ow : List Nat) (ts : List Nat) (g : TG) (f : XG) : Prop := ∀ (own : Ow) (Z : List Addr) (ρ : En) (σ : L2.St) (H : Hp) (d : D) (v : V) (ρ' : En) (Q : L2.St → Hp → Prop), own.map (·.1) = ow → Rep K own Z ρ σ H → Dat K (hid (adr own ++ Z) H) d v → f d ρ = some ρ' →
  (∀ σ', Rep K own Z ρ' σ' H → (∀ vs : List Nat, (∀ t ∈ ts, t ∈ vs) → wipe σ' vs = wipe σ vs) → Q σ' H) → g v σ H Q
section
variable {ι : Type} (X : ι → Cx) (C : Ct) (tc ow : List Nat)
structure RI (tg e : Expr) (f : XI) : Prop where
  ex : ∃ wi, (∀ i, PI (X i) tg e wi) ∧ SemI C.K tc ow wi f
end
section
variable {ι : Type} (X : ι → Cx) (C : Ct) (ow : List Nat)
structure RG (ts : List Nat) (tg : Expr) (f : XG) : Prop where
  ex : ∃ g, (∀ i, PG (X i) tg g) ∧ SemG C.K ow ts g f
end
section
variable {ι : Type} (X : ι → Cx) (C : Ct) (tc ow : List Nat)
structure RQ (ifs : List Expr) (f : XT) : Prop where
  ex : ∃ tt, (∀ i, PTs (X i) ifs tt) ∧ SemT C.K tc ow tt f
end

/-! ### targets -/
theorem wipe_set {σ : L2.St} {i : Nat} {x : Option V} : ∀ {vs : List Nat}, i ∈ vs → wipe (σ.set i x) vs = wipe σ vs
  | [], h => by cases h
  | v :: vs, h => by
    unfold wipe
    by_cases hi : i ∈ vs
    · rw [wipe_set hi]
    · have hv : i = v := by
        rcases List.mem_cons.mp h with h | h
        · exact h
        · exact absurd h hi
      subst hv
      have key : ∀ (us : List Nat) (τ : L2.St), i ∉ us → wipe (τ.set i x) us = (wipe τ us).set i x := by
        intro us
        induction us with
        | nil => intro τ _; rfl
        | cons u us ih =>
          intro τ hn
          unfold wipe
          rw [ih τ fun q => hn (List.mem_cons_of_mem _ q), List.set_comm]
          exact fun e => hn (e ▸ List.mem_cons_self ..)
      rw [key vs σ hi, List.set_set]
theorem wipe_wipe {σ : L2.St} : ∀ {us vs : List Nat}, (∀ u ∈ us, u ∈ vs) → wipe (wipe σ us) vs = wipe σ vs
  | [], _, _ => rfl
  | u :: us, vs, h => by
    show wipe ((wipe σ us).set u none) vs = _
    rw [wipe_set (h u (List.mem_cons_self ..)), wipe_wipe fun x hx => h x (List.mem_cons_of_mem _ hx)]
def nameG (i : Nat) : XG := fun d ρ => some (ρ.set i (some d))
def nilG : List D → En → Option En := fun ds ρ => match ds with
  | [] => some ρ
  | _ => none
def consG (f : XG) (g : List D → En → Option En) : List D → En → Option En := fun ds ρ => match ds with
  | d :: r => (f d ρ).bind fun ρ' => g r ρ'
  | [] => none
def tupG (g : List D → En → Option En) : XG := fun d ρ => match d with
  | .tuple ds => g ds ρ
  | _ => none
def SemGs (K : PySem.W.Frag) (ow : List Nat) (ts : List Nat) (g : TGs) (f : List D → En → Option En) : Prop := ∀ (own : Ow) (Z : List Addr) (ρ : En) (σ : L2.St) (H : Hp) (ds : List D) (vs : List V) (ρ' : En) (Q : L2.St → Hp → Prop), own.map (·.1) = ow → Rep K own Z ρ σ H → Dats K (hid (adr own ++ Z) H) ds vs → f ds ρ = some ρ' →
  (∀ σ', Rep K own Z ρ' σ' H → (∀ vs : List Nat, (∀ t ∈ ts, t ∈ vs) → wipe σ' vs = wipe σ vs) → Q σ' H) → g vs σ H Q
section
variable {ι : Type} (X : ι → Cx) (C : Ct) (ow : List Nat)
structure RGs (ts : List Nat) (n : Nat) (tg : List Expr) (f : List D → En → Option En) : Prop where
  ex : ∃ g, (∀ i, PGs (X i) tg g) ∧ SemGs C.K ow ts g f
  len : ∀ ds ρ ρ', f ds ρ = some ρ' → ds.length = n
end
section
variable {ι : Type} {X : ι → Cx} {C : Ct} {mu : List Nat} {fr : Bool} {tc owl ow ow1 ow2 : List Nat} {N : List Str} {k : Nat}
theorem rg_name (F : Fam X C N k) (i : Nat) {x : Str} {pos : Pos} (hi : N[i]? = some x) (hx : ∀ j, Loc (X j).env.scope x) (hw : ow.contains i = false) (hf : ∀ j, (X j).fn x = true ∨ (X j).env.scope.names.lookup x = some .local) : RG X C ow [i] (.Name x pos) (nameG i) :=
  ⟨gName i, fun j => pg_name (by rw [F.nm j]; exact F.nd) (by rw [F.nm j]; exact hi) (hx j) (hf j), fun own Z ρ σ H d v ρ' Q ho R hd hf hq => by
    simp only [nameG, Option.some.injEq] at hf
    subst hf
    exact hq _ (R.set (notin_of ho hw) hd) fun vs hvs => wipe_set (hvs i (List.mem_singleton.mpr rfl))⟩
theorem rgs_nil : RGs X C ow [] 0 [] nilG := ⟨⟨gNil, fun _ => pgs_nil, fun own Z ρ σ H ds vs ρ' Q ho R hd hf hq => by
    unfold nilG at hf
    split at hf
    · cases hd
      simp only [Option.some.injEq] at hf
      subst hf
      exact ⟨rfl, hq σ R fun _ _ => rfl⟩
    · cases hf⟩, fun ds ρ ρ' hf => by
    unfold nilG at hf
    split at hf
    · rfl
    · cases hf⟩
theorem rgs_cons {ts us : List Nat} {n : Nat} {e : Expr} {es : List Expr} {f : XG} {g : List D → En → Option En} (h : RG X C ow ts e f) (h' : RGs X C ow us n es g) (hs : ∀ i, (assignEach (e :: es) (X i).env).map (·.2) = assign e (X i).env :: (assignEach es (X i).env).map (·.2)) :
    RGs X C ow (ts ++ us) (n + 1) (e :: es) (consG f g) := by
  obtain ⟨t, a1, a2⟩ := h.ex
  obtain ⟨u, b1, b2⟩ := h'.ex
  refine ⟨⟨_, fun i => pgs_cons (a1 i) (b1 i) (hs i), fun own Z ρ σ H ds vs ρ' Q ho R hd hf hq => ?_⟩, fun ds ρ ρ' hf => ?_⟩
  · unfold consG at hf
    cases hd with
    | nil => cases hf
    | cons d r =>
      rename_i d0 v0 ds0 vs0
      simp only at hf
      cases e1 : f d0 ρ with
      | none => rw [e1] at hf; cases hf
      | some ρ1 =>
        rw [e1] at hf
        simp only [Option.bind_some] at hf
        refine ⟨_, _, rfl, a2 own Z ρ σ H _ _ ρ1 _ ho R d e1 fun σ1 R1 w1 => ?_⟩
        exact b2 own Z ρ1 σ1 H _ _ ρ' Q ho R1 r hf fun σ2 R2 w2 => hq σ2 R2 fun vs hvs => (w2 vs fun t ht => hvs t (List.mem_append_right _ ht)).trans (w1 vs fun t ht => hvs t (List.mem_append_left _ ht))
  · unfold consG at hf
    split at hf
    · rename_i d r
      cases e1 : f d ρ with
      | none => rw [e1] at hf; cases hf
      | some ρ1 =>
        rw [e1] at hf
        simp only [Option.bind_some] at hf
        rw [List.length_cons, h'.len _ _ _ hf]
    · cases hf
theorem rg_tup {ts : List Nat} {n kk : Nat} {es : List Expr} {pos : Pos} {g : List D → En → Option En} (F : Fam X C N k) (h : RGs X C ow ts n es g) (hn : ∀ i, (assignEach es (X i).env).length = n) (hst : ∀ i, (assignEach es (X i).env).findIdx? (·.1) = none) :
    RG X C ow ts (.Tuple es kk pos) (tupG g) := by
  obtain ⟨t, a1, a2⟩ := h.ex
  refine ⟨gTup C.K n t, fun i => ?_, fun own Z ρ σ H d v ρ' Q ho R hd hf hq => ?_⟩
  · have := pg_tup (pos := pos) (k := kk) (F.calm i) (a1 i) (hn i) (hst i)
    rw [F.K i] at this
    exact this
  · unfold tupG at hf
    split at hf
    · rename_i ds
      cases hd with
      | tup s z r =>
        rename_i a xs
        refine ⟨a, xs, rfl, ?_, ?_, a2 own Z ρ σ H ds xs ρ' Q ho R r hf hq⟩
        · exact (s.mono (fun a o q => (hid_some.mp q).2)).sq
        · rw [← r.len, h.len _ _ _ hf]
    · cases hf

/-! ### for -/
def loopS (fg : XG) (F : XS) : List D → XS
  | [], ρ => .nx ρ
  | d :: ds, ρ => match fg d ρ with
    | none => .bad
    | some ρ1 => match F ρ1 with
      | .nx ρ2 => loopS fg F ds ρ2
      | .ct ρ2 => loopS fg F ds ρ2
      | .bk ρ2 => .nx ρ2
      | o => o
def forS (fi : XI) (fg : XG) (F : XS) : XS := fun ρ => match fi ρ with
  | some (ds, ρ1) => loopS fg F ds ρ1
  | none => .bad
theorem After.ends {K : PySem.W.Frag} {ow' owl' : List Nat} {own : Ow} {Z : List Addr} {H : Hp} {E E' : Ends} (hr : E.rt = E'.rt) {d : D} {ρ : En} (h : After K mu fr owl ow' own Z H E (.rt d ρ)) : After K mu fr owl' ow2 own Z H E' (.rt d ρ) := by
  cases fr with
  | true => exact fun own' σ' H' p o e s' R hp h1 h2 => by have := h own' σ' H' p o e s' R hp h1 h2; rw [hr] at this; exact this
  | false => exact fun v own' σ' H' e s' R hd => by have := h v own' σ' H' e s' R hd; rw [hr] at this; exact this
theorem rs_for {ts : List Nat} {tg iter : Expr} {body : List Stmt} {fi : XI} {fg : XG} {F : XS} {pos : Pos} (Fm : Fam X C N k) (hi : RI X C tc ow tg iter fi) (hg : RG X C ow ts tg fg) (hb : RSs X C mu fr ow ow ow body F)
    (hp : ∀ i, PassesOwn (model (X i).prog (X i).w) (X i).A (X i).env (X i).xe) (hs : ∀ i x, foldedSetIterable iter (X i).env x = pure x) : RS X C mu fr owl ow ow (.For tg iter body [] pos) (forS fi fg F) := by
  obtain ⟨wi, i1, i2⟩ := hi.ex
  obtain ⟨g, g1, g2⟩ := hg.ex
  obtain ⟨tb, b1, b2⟩ := hb.ex
  refine ⟨_, fun i => ps_for (hp i) (Fm.calm i) (i1 i) (g1 i) (b1 i) (hs i), fun own0 Z ρ σ H E ho R h => ?_⟩
  unfold forS at h
  cases e : fi ρ with
  | none => rw [e] at h; exact absurd h (fun q => q)
  | some p =>
    obtain ⟨ds, ρ1⟩ := p
    rw [e] at h
    have h : After C.K mu fr owl ow own0 Z H E (loopS fg F ds ρ1) := h
    refine i2 own0 Z ρ σ H ds ρ1 _ ho R e fun J H1 R1 gr zl wk => ?_
    have h1 := h.step (Step.of gr.all)
    refine ⟨fun i m σ' H' => i + m = ds.length ∧ ∃ own ρ', own.map (·.1) = ow ∧ Step mu own0 H1 own H' ∧ Rep C.K own Z ρ' σ' H' ∧ After C.K mu fr owl ow own0 Z H1 E (loopS fg F (ds.drop i) ρ'),
      ⟨ds.length, by omega, own0, ρ1, ho, Step.refl, R1, by rw [List.drop_zero]; exact h1⟩, fun i m σ' H' => ?_⟩
    rintro ⟨him, own, ρ', ho', st, R', ha⟩
    obtain ⟨w1, w2, w3⟩ := wk (adr own ++ Z) H' st.hid R'.zok
    by_cases hlt : i < ds.length
    · refine .inr ⟨w1 i hlt, fun σ2 H2 => (i + 1) + (m - 1) = ds.length ∧ ∃ own ρ', own.map (·.1) = ow ∧ Step mu own0 H1 own H2 ∧ Rep C.K own Z ρ' σ2 H2 ∧ After C.K mu fr owl ow own0 Z H1 E (loopS fg F (ds.drop (i + 1)) ρ'),
        fun σ2 H2 hn => ⟨m - 1, by omega, hn⟩, fun x H2 hy => ?_⟩
      obtain ⟨ex, d, hd, dd⟩ := w2 i x H2 hlt hy
      have hdr : ds.drop i = d :: ds.drop (i + 1) := by
        rw [List.drop_eq_getElem_cons hlt]
        rw [List.getElem?_eq_getElem hlt] at hd
        simp only [Option.some.injEq] at hd
        rw [hd]
      rw [hdr] at ha
      unfold loopS at ha
      cases e1 : fg d ρ' with
      | none => rw [e1] at ha; exact absurd ha (fun q => q)
      | some ρ2 =>
        rw [e1] at ha
        simp only at ha
        have R2 := R'.ext ex
        have st2 : Step mu own0 H1 own H2 := st.trans (Step.of (Gro.of ex))
        refine g2 own Z ρ' σ' H2 d x ρ2 _ ho' R2 dd e1 fun σ3 R3 _ => ?_
        refine b2 own Z ρ2 σ3 H2 _ ho' R3 ?_
        cases e2 : F ρ2 with
        | nx ρ3 =>
          rw [e2] at ha
          exact fun own' σ4 H4 e4 s4 R4 => ⟨by omega, own', ρ3, e4, st2.trans s4, R4, ha⟩
        | ct ρ3 =>
          rw [e2] at ha
          exact fun own' σ4 H4 e4 s4 R4 => ⟨by omega, own', ρ3, e4, st2.trans s4, R4, ha⟩
        | bk ρ3 =>
          rw [e2] at ha
          have ha : After C.K mu fr owl ow own0 Z H1 E (.nx ρ3) := ha
          exact fun own' σ4 H4 e4 s4 R4 => ha own' σ4 H4 e4 (st2.trans s4) R4
        | rt d' ρ3 =>
          rw [e2] at ha
          have ha : After C.K mu fr owl ow own0 Z H1 E (.rt d' ρ3) := ha
          exact After.ends (E := E) (E' := { E with nx := _, ct := _, bk := E.nx }) rfl (ha.step st2)
        | bad => rw [e2] at ha; exact absurd ha (fun q => q)
    · have hie : i = ds.length := by omega
      subst hie
      rw [List.drop_length] at ha
      exact .inl ⟨w3, ha own σ' H' ho' st R'⟩

/-! ### while -/
def whileN (t : XT) (F : XS) : Nat → XS
  | 0 => fun _ => .bad
  | n + 1 => fun ρ => match t ρ with
    | none => .bad
    | some (b, ρ1) => if b = true then (match F ρ1 with
      | .nx ρ2 => whileN t F n ρ2
      | .ct ρ2 => whileN t F n ρ2
      | .bk ρ2 => .nx ρ2
      | o => o) else .nx ρ1
def whileS (fu : En → Nat) (t : XT) (F : XS) : XS := fun ρ => whileN t F (fu ρ) ρ
theorem rs_while {c : Expr} {body : List Stmt} {t : XT} {F : XS} {pos : Pos} (fu : En → Nat) (hc : RT X C tc ow c t) (hb : RSs X C mu fr ow ow ow body F) (hp : ∀ i, PassesOwn (model (X i).prog (X i).w) (X i).A (X i).env (X i).xe) :
    RS X C mu fr owl ow ow (.While c body [] pos) (whileS fu t F) := by
  obtain ⟨tc, c1, c2⟩ := hc.ex
  obtain ⟨tb, b1, b2⟩ := hb.ex
  refine ⟨_, fun i => ps_while (hp i) (c1 i) (b1 i), fun own0 Z ρ σ H E ho R h => ?_⟩
  refine ⟨fun m σ' H' => ∃ own ρ', own.map (·.1) = ow ∧ Step mu own0 H own H' ∧ Rep C.K own Z ρ' σ' H' ∧ After C.K mu fr owl ow own0 Z H E (whileN t F m ρ'), ⟨fu ρ, own0, ρ, ho, Step.refl, R, h⟩, fun m σ' H' => ?_⟩
  rintro ⟨own, ρ', ho', st, R', ha⟩
  cases m with
  | zero => exact absurd ha (fun q => q)
  | succ m =>
    unfold whileN at ha
    cases e : t ρ' with
    | none => rw [e] at ha; exact absurd ha (fun q => q)
    | some p =>
      obtain ⟨b, ρ1⟩ := p
      rw [e] at ha
      refine c2 own Z ρ' σ' H' b ρ1 _ ho' R' e fun H1 R1 gr => ?_
      have st1 : Step mu own0 H own H1 := st.trans (Step.of gr.all)
      cases b with
      | true =>
        simp only [if_true] at ha ⊢
        refine ⟨fun σ2 H2 => ∃ own ρ', own.map (·.1) = ow ∧ Step mu own0 H own H2 ∧ Rep C.K own Z ρ' σ2 H2 ∧ After C.K mu fr owl ow own0 Z H E (whileN t F m ρ'), fun σ2 H2 hn => ⟨m, Nat.lt_succ_self m, hn⟩, ?_⟩
        refine b2 own Z ρ1 σ' H1 _ ho' R1 ?_
        cases e2 : F ρ1 with
        | nx ρ3 =>
          rw [e2] at ha
          exact fun own' σ4 H4 e4 s4 R4 => ⟨own', ρ3, e4, st1.trans s4, R4, ha⟩
        | ct ρ3 =>
          rw [e2] at ha
          exact fun own' σ4 H4 e4 s4 R4 => ⟨own', ρ3, e4, st1.trans s4, R4, ha⟩
        | bk ρ3 =>
          rw [e2] at ha
          have ha : After C.K mu fr owl ow own0 Z H E (.nx ρ3) := ha
          exact fun own' σ4 H4 e4 s4 R4 => ha own' σ4 H4 e4 (st1.trans s4) R4
        | rt d' ρ3 =>
          rw [e2] at ha
          have ha : After C.K mu fr owl ow own0 Z H E (.rt d' ρ3) := ha
          exact After.ends (E := E) (E' := { E with nx := _, ct := _, bk := E.nx }) rfl (ha.step st1)
        | bad => rw [e2] at ha; exact absurd ha (fun q => q)
      | false =>
        simp only [Bool.false_eq_true, if_false] at ha ⊢
        exact ha own σ' H1 ho' st1 R1
theorem rs_break {pos : Pos} (h : owl = ow.filter fun i => owl.contains i) : RS X C mu fr owl ow ow2 (.Break pos) .bk := ⟨_, fun _ => ps_break, fun own Z ρ σ H E ho R hf => hf (keepO owl own) σ H (by rw [keepO_map, ho, ← h]) (Step.keep (K := C.K) owl) (R.sub List.filter_sublist)⟩
theorem rs_cont {pos : Pos} (h : owl = ow.filter fun i => owl.contains i) : RS X C mu fr owl ow ow2 (.Continue pos) .ct := ⟨_, fun _ => ps_continue, fun own Z ρ σ H E ho R hf => hf (keepO owl own) σ H (by rw [keepO_map, ho, ← h]) (Step.keep (K := C.K) owl) (R.sub List.filter_sublist)⟩

/-! ### comprehensions -/
def compL (vs : List Nat) (fg : XG) (ft : XT) (fe : XE) : List D → En → Option (List D × En)
  | [], ρ => some ([], ρ)
  | d :: ds, ρ => (fg d (kil ρ vs)).bind fun ρ1 => (ft ρ1).bind fun p => if p.1 = true then (fe p.2).bind fun q => (compL vs fg ft fe ds q.2).map fun r => (q.1 :: r.1, r.2) else compL vs fg ft fe ds p.2
def backE : List Nat → En → En → En
  | [], _, ρ => ρ
  | v :: vs, ρ1, ρ => (backE vs ρ1 ρ).set v (ρ1[v]?.getD none)
def compE (fi : XI) (vs : List Nat) (fg : XG) (ft : XT) (fe : XE) : XE := fun ρ => (fi ρ).bind fun p => (compL vs fg ft fe p.1 p.2).map fun r => (.list r.1, backE vs p.2 r.2)
def yesT : XT := fun ρ => some (true, ρ)
theorem rq_nil : RQ X C tc ow [] yesT := ⟨tYes, fun _ => pts_nil, fun own Z ρ σ H b ρ' Q ho R hf hq => by
  simp only [yesT, Option.some.injEq, Prod.mk.injEq] at hf
  obtain ⟨rfl, rfl⟩ := hf
  exact hq H R Grt.refl⟩
theorem rq_one {c : Expr} {f : XT} (h : RT X C tc ow c f) : RQ X C tc ow [c] f := by
  obtain ⟨t, a1, a2⟩ := h.ex
  exact ⟨t, fun i => pts_one (a1 i), a2⟩
/-- the blocks of a comprehension -/
abbrev Blk (ι : Type) := ι × Shared × Hp × Addr × List (Str × Addr) × List Addr
def blkF (X : ι → Cx) (scope : Scope) : Blk ι → Cx := fun q => (X q.1).blk q.2.1 q.2.2.1 scope (compEnvC scope q.2.2.2.2.1 q.2.2.2.1 (X q.1).env) q.2.2.2.2.2
theorem Fam.blk (F : Fam X C N k) (scope : Scope) : Fam (blkF X scope) C N k :=
  ⟨fun q => F.P q.1, fun q => F.w q.1, fun q => F.K q.1, fun q => F.mg q.1, fun q => F.base q.1, fun q => F.nm q.1, F.nd, fun q => F.calm q.1, fun q => F.room q.1, fun q => F.gd q.1⟩

theorem mem_of_eq {i v : Nat} {vs : List Nat} (e : v = i) : i ∈ v :: vs := by subst e; exact List.mem_cons_self ..
theorem kil_len (ρ : En) : ∀ vs : List Nat, (kil ρ vs).length = ρ.length
  | [] => rfl
  | v :: vs => by unfold kil; rw [List.length_set, kil_len ρ vs]
theorem backE_len (ρ1 ρ : En) : ∀ vs : List Nat, (backE vs ρ1 ρ).length = ρ.length
  | [] => rfl
  | v :: vs => by unfold backE; rw [List.length_set, backE_len ρ1 ρ vs]
theorem kil_nin {ρ : En} {i : Nat} : ∀ {vs : List Nat}, i ∉ vs → (kil ρ vs)[i]? = ρ[i]?
  | [], _ => rfl
  | v :: vs, h => by
    unfold kil
    rw [List.getElem?_set, if_neg fun e => h (mem_of_eq e), kil_nin fun q => h (List.mem_cons_of_mem _ q)]
theorem kil_in {ρ : En} {i : Nat} {d : D} : ∀ {vs : List Nat}, i ∈ vs → (kil ρ vs)[i]? ≠ some (some d)
  | [], h => by cases h
  | v :: vs, h => fun e => by
    unfold kil at e
    rw [List.getElem?_set] at e
    by_cases hv : v = i
    · rw [if_pos hv] at e
      split at e <;> cases e
    · rw [if_neg hv] at e
      rcases List.mem_cons.mp h with h | h
      · exact hv h.symm
      · exact kil_in h e
theorem wipe_nin {σ : L2.St} {i : Nat} : ∀ {vs : List Nat}, i ∉ vs → (wipe σ vs)[i]? = σ[i]?
  | [], _ => rfl
  | v :: vs, h => by
    unfold wipe
    rw [List.getElem?_set, if_neg fun e => h (mem_of_eq e), wipe_nin fun q => h (List.mem_cons_of_mem _ q)]
theorem backE_nin {ρ1 ρ : En} {i : Nat} : ∀ {vs : List Nat}, i ∉ vs → (backE vs ρ1 ρ)[i]? = ρ[i]?
  | [], _ => rfl
  | v :: vs, h => by
    unfold backE
    rw [List.getElem?_set, if_neg fun e => h (mem_of_eq e), backE_nin fun q => h (List.mem_cons_of_mem _ q)]
theorem backE_in {ρ1 ρ : En} {i : Nat} {d : D} : ∀ {vs : List Nat}, i ∈ vs → (backE vs ρ1 ρ)[i]? = some (some d) → ρ1[i]? = some (some d)
  | [], h, _ => by cases h
  | v :: vs, h, e => by
    unfold backE at e
    rw [List.getElem?_set] at e
    by_cases hv : v = i
    · subst hv
      rw [if_pos rfl] at e
      split at e
      · simp only [Option.some.injEq] at e
        cases q : ρ1[v]? with
        | none => rw [q] at e; cases e
        | some o => rw [q] at e; simp only [Option.getD_some] at e; rw [e]
      · cases e
    · rw [if_neg hv] at e
      rcases List.mem_cons.mp h with h | h
      · exact absurd h.symm hv
      · exact backE_in h e
theorem Rep.wipe {K : PySem.W.Frag} {own : Ow} {Z : List Addr} {ρ : En} {σ : L2.St} {H : Hp} {vs : List Nat} (R : Rep K own Z ρ σ H) (hv : ∀ v ∈ vs, v ∉ own.map (·.1)) : Rep K own Z (kil ρ vs) (wipe σ vs) H where
  len := by rw [kil_len, wipe_length]; exact R.len
  dat := fun i d q n => by
    by_cases hi : i ∈ vs
    · exact absurd q (kil_in hi)
    · rw [kil_nin hi] at q
      obtain ⟨v, h1, h2⟩ := R.dat i d q n
      exact ⟨v, by rw [wipe_nin hi]; exact h1, h2⟩
  obj := fun i a q => by
    have hi : i ∉ vs := fun z => hv i z (List.mem_map.mpr ⟨_, q, rfl⟩)
    obtain ⟨h1, d, o, h2, h3⟩ := R.obj i a q
    exact ⟨by rw [wipe_nin hi]; exact h1, d, o, by rw [kil_nin hi]; exact h2, h3⟩
  nd1 := R.nd1
  nd2 := R.nd2
  dis := R.dis
  zin := R.zin
theorem Rep.back {K : PySem.W.Frag} {own : Ow} {Z : List Addr} {ρ1 ρ : En} {σ : L2.St} {H1 H : Hp} {vs : List Nat} (R1 : Rep K own Z ρ1 σ H1) (g : Gro own H1 H) (R : Rep K own Z (kil ρ vs) (L2.wipe σ vs) H) (hv : ∀ v ∈ vs, v ∉ own.map (·.1)) : Rep K own Z (backE vs ρ1 ρ) σ H where
  len := by
    rw [backE_len]
    have := R.len
    rw [kil_len, wipe_length] at this
    exact this
  dat := fun i d q n => by
    by_cases hi : i ∈ vs
    · obtain ⟨v, h1, h2⟩ := R1.dat i d (backE_in hi q) n
      exact ⟨v, h1, h2.ext g.hid⟩
    · rw [backE_nin hi] at q
      obtain ⟨v, h1, h2⟩ := R.dat i d (by rw [kil_nin hi]; exact q) n
      exact ⟨v, by rw [wipe_nin hi] at h1; exact h1, h2⟩
  obj := fun i a q => by
    have hi : i ∉ vs := fun z => hv i z (List.mem_map.mpr ⟨_, q, rfl⟩)
    obtain ⟨h1, d, o, h2, h3⟩ := R.obj i a q
    exact ⟨by rw [wipe_nin hi] at h1; exact h1, d, o, by rw [backE_nin hi]; rw [kil_nin hi] at h2; exact h2, h3⟩
  nd1 := R.nd1
  nd2 := R.nd2
  dis := R.dis
  zin := R.zin
theorem hid_updIn {Z : List Addr} {H : Hp} {p : Addr} {o : HO} (h : p ∈ Z) : hid Z (upd H p o) = hid Z H := by
  funext a
  unfold hid
  by_cases ha : a ∈ Z
  · rw [if_pos ha, if_pos ha]
  · rw [if_neg ha, if_neg ha, upd_ne fun e => ha (by rw [e]; exact h)]
theorem Rep.updZ {K : PySem.W.Frag} {own : Ow} {Z : List Addr} {ρ : En} {σ : L2.St} {H : Hp} {p : Addr} {o : HO} (R : Rep K own Z ρ σ H) (h : p ∈ Z) : Rep K own Z ρ σ (upd H p o) := by
  have e : hid (adr own ++ Z) (upd H p o) = hid (adr own ++ Z) H := hid_updIn (List.mem_append_right _ h)
  refine ⟨R.len, fun i d q n => by rw [e]; exact R.dat i d q n, fun i a q => ?_, R.nd1, R.nd2, R.dis, fun z hz => ?_⟩
  · obtain ⟨h1, d, u, h2, h3, h4⟩ := R.obj i a q
    have : a ≠ p := fun z => R.dis a (List.mem_map.mpr ⟨_, q, rfl⟩) (z ▸ h)
    exact ⟨h1, d, u, h2, by rw [upd_ne this]; exact h3, by rw [e]; exact h4⟩
  · by_cases hzp : z = p
    · exact ⟨o, by rw [hzp]; exact upd_same⟩
    · obtain ⟨u, q⟩ := R.zin z hz
      exact ⟨u, by rw [upd_ne hzp]; exact q⟩

theorem sem_lc {K : PySem.W.Frag} {wi : TI} {g : TG} {tt : TT} {te : TE} {ts vs : List Nat} {fi : XI} {fg : XG} {ft : XT} {fe : XE} (hi : SemI K tc ow wi fi) (hg : SemG K ow ts g fg) (ht : SemT K tc ow tt ft) (he : Sem K tc ow te fe) (hts : ∀ t ∈ ts, t ∈ vs) (hv : vs.all (fun v => !ow.contains v) = true) :
    SemF K tc ow (tLc wi g tt te vs) (compE fi vs fg ft fe) := fun own Z ρ σ H d ρ' Q ho R hf hq => by
  have hvo : ∀ v ∈ vs, v ∉ own.map (·.1) := fun v hm q => by
    rw [ho] at q
    have := List.all_eq_true.mp hv v hm
    rw [List.contains_iff_mem.mpr q] at this
    cases this
  unfold compE at hf
  cases e0 : fi ρ with
  | none => rw [e0] at hf; cases hf
  | some p0 =>
    obtain ⟨ds, ρ1⟩ := p0
    rw [e0] at hf
    simp only [Option.bind_some] at hf
    refine hi own Z ρ σ H ds ρ1 _ ho R e0 fun J H1 R1 gr zl wk => ?_
    intro p hp
    have hpn := R1.new_nin hp
    have hp0 : H p = none := by
      cases q : H p with
      | none => rfl
      | some u =>
        by_cases hm : p ∈ adr own
        · obtain ⟨o2, q2⟩ := R1.ain hm
          rw [hp] at q2; cases q2
        · rw [gr p u q (nadr hm)] at hp; cases hp
    -- the invariant at turn i: what is made so far, what is left
    refine ⟨fun i m H' => i + m = ds.length ∧ ∃ (ρ2 : En) (acc : List V) (ad : List D) (rest : List D), Rep K own (p :: Z) (kil ρ2 vs) (wipe σ vs) H' ∧ (∀ a o, H1 a = some o → (∀ j, (j, a) ∈ own → j ∉ tc) → H' a = some o) ∧ H' p = some (.lst acc) ∧ Dats K (hid (adr own ++ p :: Z) H') ad acc ∧ acc.length ≤ i ∧
      ∃ r, compL vs fg ft fe (ds.drop i) ρ2 = some (rest, r) ∧ (.list (ad ++ rest), backE vs ρ1 r) = (d, ρ'), ⟨ds.length, by omega, ?_⟩, fun i m H' => ?_⟩
    · cases e1 : compL vs fg ft fe ds ρ1 with
      | none => rw [e1] at hf; cases hf
      | some q =>
        rw [e1] at hf
        simp only [Option.map_some, Option.some.injEq] at hf
        refine ⟨ρ1, [], [], q.1, ((R1.hide hp (Gro.of (Ext.new hp)) (fun a ha => upd_ne fun z => ?_) upd_same).wipe hvo), fun a o q n => by rw [upd_ne fun z => by subst z; rw [hp] at q; cases q]; exact q, upd_same, .nil, Nat.le_refl _, q.2, by rw [List.drop_zero]; exact e1, hf⟩
        subst z
        obtain ⟨o, q2⟩ := R1.ain ha
        rw [hp] at q2; cases q2
    · rintro ⟨him, ρ2, acc, ad, rest, R2, kp, hacc, dacc, hal, r, hc, hfin⟩
      have gr2 : Grt tc own H1 H' := kp
      have x : Ext (hid (adr own ++ Z) H1) (hid (adr own ++ p :: Z) H') := fun a o q => by
        have h := hid_some.mp q
        refine hid_some.mpr ⟨fun z => ?_, kp a o h.2 (nadr fun z => h.1 (List.mem_append_left _ z))⟩
        rcases List.mem_append.mp z with z | z
        · exact h.1 (List.mem_append_left _ z)
        · rcases List.mem_cons.mp z with z | z
          · subst z; rw [hp] at h; cases h.2
          · exact h.1 (List.mem_append_right _ z)
      obtain ⟨w1, w2, w3⟩ := wk _ H' x R2.zok
      by_cases hlt : i < ds.length
      · refine .inr ⟨w1 i hlt, fun H2 => (i + 1) + (m - 1) = ds.length ∧ ∃ (ρ2 : En) (acc : List V) (ad : List D) (rest : List D), Rep K own (p :: Z) (kil ρ2 vs) (wipe σ vs) H2 ∧ (∀ a o, H1 a = some o → (∀ j, (j, a) ∈ own → j ∉ tc) → H2 a = some o) ∧ H2 p = some (.lst acc) ∧ Dats K (hid (adr own ++ p :: Z) H2) ad acc ∧ acc.length ≤ i + 1 ∧
          ∃ r, compL vs fg ft fe (ds.drop (i + 1)) ρ2 = some (rest, r) ∧ (.list (ad ++ rest), backE vs ρ1 r) = (d, ρ'), fun H2 hn => ⟨m - 1, by omega, hn⟩, fun y H2 hy => ?_⟩
        obtain ⟨ex, d1, hd, dd⟩ := w2 i y H2 hlt hy
        have hdr : ds.drop i = d1 :: ds.drop (i + 1) := by
          rw [List.drop_eq_getElem_cons hlt]
          rw [List.getElem?_eq_getElem hlt] at hd
          simp only [Option.some.injEq] at hd
          rw [hd]
        rw [hdr] at hc
        unfold compL at hc
        cases e1 : fg d1 (kil ρ2 vs) with
        | none => rw [e1] at hc; cases hc
        | some ρ3 =>
          rw [e1] at hc
          simp only [Option.bind_some] at hc
          refine hg own (p :: Z) _ _ H2 d1 y ρ3 _ ho (R2.ext ex) dd e1 fun σ3 R3 w3' => ?_
          have hw : wipe σ3 vs = wipe σ vs := (w3' vs hts).trans (wipe_wipe fun u h => h)
          refine ⟨hw, ?_⟩
          cases e2 : ft ρ3 with
          | none => rw [e2] at hc; cases hc
          | some q2 =>
            obtain ⟨b, ρ4⟩ := q2
            rw [e2] at hc
            simp only [Option.bind_some] at hc
            refine ht own (p :: Z) ρ3 σ3 H2 b ρ4 _ ho R3 e2 fun H3 R4 g4 => ?_
            have hpo : p ∉ adr own := fun z => R4.dis p z (List.mem_cons_self ..)
            cases b with
            | true =>
              simp only [if_true] at hc ⊢
              cases e3 : fe ρ4 with
              | none => rw [e3] at hc; cases hc
              | some q3 =>
                obtain ⟨y2, ρ5⟩ := q3
                rw [e3] at hc
                simp only [Option.bind_some] at hc
                cases e4 : compL vs fg ft fe (ds.drop (i + 1)) ρ5 with
                | none => rw [e4] at hc; cases hc
                | some q4 =>
                  obtain ⟨rest2, r2⟩ := q4
                  rw [e4] at hc
                  simp only [Option.map_some, Option.some.injEq, Prod.mk.injEq] at hc
                  obtain ⟨rfl, rfl⟩ := hc
                  refine he own (p :: Z) ρ4 σ3 H3 y2 ρ5 _ ho R4 e3 fun v H4 R5 g5 d5 => ?_
                  have hacc4 : H4 p = some (.lst acc) := g5 p _ (g4 p _ (ex p _ hacc) (nadr hpo)) (nadr hpo)
                  refine ⟨acc, hacc4, by omega, by omega, ρ5, acc ++ [v], ad ++ [y2], rest2, ?_, fun a o q n => ?_, upd_same, ?_, ?_, r2, e4, ?_⟩
                  · have := (R5.wipe hvo).updZ (p := p) (o := .lst (acc ++ [v])) (List.mem_cons_self ..)
                    rw [hw] at this
                    exact this
                  · rw [upd_ne fun z => by subst z; rw [hp] at q; cases q]
                    exact g5 a o (g4 a o (ex a o (kp a o q n)) n) n
                  · rw [hid_updIn (List.mem_append_right _ (List.mem_cons_self ..))]
                    exact ((dacc.ext (Grt.of (tc := tc) (own := own) ex).hid).ext (g4.trans g5).hid).app (.cons d5 .nil)
                  · rw [List.length_append, List.length_singleton]; omega
                  · rw [List.append_assoc]; exact hfin
            | false =>
              simp only [Bool.false_eq_true, if_false] at hc ⊢
              refine ⟨by omega, ρ4, acc, ad, rest, ?_, fun a o q n => g4 a o (ex a o (kp a o q n)) n, g4 p _ (ex p _ hacc) (nadr hpo), (dacc.ext (Grt.of (tc := tc) (own := own) ex).hid).ext g4.hid, by omega, r, hc, hfin⟩
              have := R4.wipe hvo
              rw [hw] at this
              exact this
      · have hie : i = ds.length := by omega
        subst hie
        rw [List.drop_length] at hc
        unfold compL at hc
        simp only [Option.some.injEq, Prod.mk.injEq] at hc
        obtain ⟨rfl, rfl⟩ := hc
        rw [List.append_nil] at hfin
        cases hfin
        refine .inl ⟨w3, ?_⟩
        have R1' : Rep K own (p :: Z) ρ1 σ (upd H1 p (.lst acc)) := R1.hide hp (Gro.of (Ext.new hp)) (fun a ha => upd_ne fun z => by subst z; obtain ⟨o, q2⟩ := R1.ain ha; rw [hp] at q2; cases q2) upd_same
        have hpo : p ∉ adr own := fun z => R2.dis p z (List.mem_cons_self ..)
        have g' : Grt tc own (upd H1 p (.lst acc)) H' := fun a o q n => by
          by_cases hap : a = p
          · subst hap; rw [upd_same] at q; rw [← q]; exact hacc
          · rw [upd_ne hap] at q; exact kp a o q n
        exact hq p (.lst acc) H' (R1'.back g'.all R2 hvo) (gr.trans gr2) hp0 hacc (.lst (by omega) dacc)
theorem rf_lc {elt tg iter : Expr} {ifs : List Expr} {scope : Scope} {ownL : List (Str × Nat)} {pos : Pos} {ts : List Nat} {fi : XI} {fg : XG} {ft : XT} {fe : XE} (F : Fam X C N k) (hi : RI X C tc ow tg iter fi) (ok : ∀ i, BlkOk N (X i).env.scope scope ownL)
    (hg : RG (blkF X scope) C ow ts tg fg) (ht : RQ (blkF X scope) C tc ow ifs ft) (he : RE (blkF X scope) C tc ow elt fe) (hs : ∀ i x, foldedSetIterable iter (X i).env x = pure x) (hts : ts.all (fun t => (ownL.map (·.2)).contains t) = true) (hv : (ownL.map (·.2)).all (fun v => !ow.contains v) = true) :
    RF X C tc ow (.ListComp elt [⟨tg, iter, ifs, 0⟩] scope pos) (compE fi (ownL.map (·.2)) fg ft fe) := by
  obtain ⟨wi, i1, i2⟩ := hi.ex
  obtain ⟨g, g1, g2⟩ := hg.ex
  obtain ⟨tt, t1, t2⟩ := ht.ex
  obtain ⟨te, e1, e2⟩ := he.ex
  refine ⟨_, fun i => pe_lc (own := ownL) (F.calm i) (by rw [F.nm i]; exact F.nd) (i1 i) (by rw [F.nm i]; exact ok i) (fun s H C' cl fp => g1 (i, s, H, C', cl, fp)) (fun s H C' cl fp => t1 (i, s, H, C', cl, fp)) (fun s H C' cl fp => e1 (i, s, H, C', cl, fp)) (hs i), ?_⟩
  exact sem_lc i2 g2 t2 e2 (fun t h => List.contains_iff_mem.mp (List.all_eq_true.mp hts t h)) hv
theorem sem_own {K : PySem.W.Frag} {te : TE} {f : XE} {i : Nat} (h : SemF K tc ow te f) (hw : ow.contains i = false) (hmu : mu.contains i = false) : SemS K mu fr owl ow (ow ++ [i]) (tAsg te (gName i)) (ownS i f) := fun own Z ρ σ H E ho R h' => by
  unfold ownS at h'
  split at h'
  · rename_i hl
    obtain ⟨d, ρ1, e1, h'⟩ := xe_cases (P := After K mu fr owl (ow ++ [i]) own Z H E) h' (fun q => q)
    refine h own Z ρ σ H d ρ1 _ ho R e1 fun p o H1 R1 g1 hn hp ob => ?_
    have hpn := R.new_nin hn
    refine h' (own ++ [(i, p)]) _ H1 (by rw [List.map_append, ho]; rfl) ⟨g1.all, fun q hq => ?_, fun m hm a hq => ?_⟩ (R1.push (notin_of ho hw) (by rw [← R.len]; exact hl) (fun z => hpn (List.mem_append_left _ z)) (fun z => hpn (List.mem_append_right _ z)) hp ob)
    · rcases List.mem_append.mp hq with hq | hq
      · exact .inl (List.mem_map.mpr ⟨q, hq, rfl⟩)
      · rw [List.mem_singleton.mp hq]
        exact .inr hn
    · rcases List.mem_append.mp hq with hq | hq
      · exact hq
      · have := List.mem_singleton.mp hq
        cases this
        rw [List.contains_iff_mem.mpr hm] at hmu
        cases hmu
  · exact absurd h' (fun q => q)
theorem sem_set {K : PySem.W.Frag} {te : TE} {f : XE} {i : Nat} (h : Sem K tc ow te f) (hw : ow.contains i = false) : SemS K mu fr owl ow ow (tAsg te (gName i)) (setS i f) := fun own Z ρ σ H E ho R h' => by
  obtain ⟨d, ρ1, e1, h'⟩ := xe_cases (P := After K mu fr owl ow own Z H E) h' (fun q => q)
  exact h own Z ρ σ H d ρ1 _ ho R e1 fun v H1 R1 g1 d1 => h' own _ H1 ho (Step.of g1.all) (R1.set (notin_of ho hw) d1)
theorem SemF.sem {K : PySem.W.Frag} {te : TE} {f : XE} (h2 : SemF K tc ow te f) : Sem K tc ow te f := fun own Z ρ σ H d ρ' Q ho R hf hq => h2 own Z ρ σ H d ρ' Q ho R hf fun p o H' R' g hn hp ob => by
  have hp2 : hid (adr own ++ Z) H' p = some o := hid_some.mpr ⟨R.new_nin hn, hp⟩
  have x : Ext (hid (adr own ++ p :: Z) H') (hid (adr own ++ Z) H') := hid_sub fun a h => mem_mid.mpr (List.mem_cons_of_mem _ h)
  exact hq _ _ R'.unhide g ((ob.ext x).dat hp2)
/-- y = [.. for ..] -/
theorem rs_setLc {y : Str} {py : Pos} {elt tg iter : Expr} {ifs : List Expr} {scope : Scope} {ownL : List (Str × Nat)} {pos spos : Pos} {ts : List Nat} {fi : XI} {fg : XG} {ft : XT} {fe : XE} (F : Fam X C N k) (j : Nat) (hy : N[j]? = some y) (hyl : ∀ i, (X i).env.scope.names.lookup y = some .local) (hw : ow.contains j = false)
    (hsw : ∀ i, swapsWith (.ListComp elt [⟨tg, iter, ifs, 0⟩] scope pos) (some (.Name y py)) spos.line (X i).env = pure true) (hi : RI X C tc ow tg iter fi) (ok : ∀ i, BlkOk N (X i).env.scope scope ownL)
    (hg : RG (blkF X scope) C ow ts tg fg) (ht : RQ (blkF X scope) C tc ow ifs ft) (he : RE (blkF X scope) C tc ow elt fe) (hs : ∀ i x, foldedSetIterable iter (X i).env x = pure x) (hts : ts.all (fun t => (ownL.map (·.2)).contains t) = true) (hv : (ownL.map (·.2)).all (fun v => !ow.contains v) = true) :
    RS X C mu fr owl ow ow (.Assign [.Name y py] (.ListComp elt [⟨tg, iter, ifs, 0⟩] scope pos) spos) (setS j (compE fi (ownL.map (·.2)) fg ft fe)) := by
  obtain ⟨wi, i1, i2⟩ := hi.ex
  obtain ⟨g, g1, g2⟩ := hg.ex
  obtain ⟨tt, t1, t2⟩ := ht.ex
  obtain ⟨te, e1, e2⟩ := he.ex
  refine ⟨_, fun i => ps_setLc (own := ownL) (F.calm i) (by rw [F.nm i]; exact F.nd) (by rw [F.nm i]; exact hy) (hyl i) (hsw i) (i1 i) (by rw [F.nm i]; exact ok i) (fun s H C' cl fp => g1 (i, s, H, C', cl, fp)) (fun s H C' cl fp => t1 (i, s, H, C', cl, fp)) (fun s H C' cl fp => e1 (i, s, H, C', cl, fp)) (hs i), ?_⟩
  exact sem_set (sem_lc i2 g2 t2 e2 (fun t h => List.contains_iff_mem.mp (List.all_eq_true.mp hts t h)) hv).sem hw
theorem rs_ownLc {y : Str} {py : Pos} {elt tg iter : Expr} {ifs : List Expr} {scope : Scope} {ownL : List (Str × Nat)} {pos spos : Pos} {ts : List Nat} {fi : XI} {fg : XG} {ft : XT} {fe : XE} (F : Fam X C N k) (j : Nat) (hy : N[j]? = some y) (hyl : ∀ i, (X i).env.scope.names.lookup y = some .local) (hw : ow.contains j = false) (hmu : mu.contains j = false)
    (hsw : ∀ i, swapsWith (.ListComp elt [⟨tg, iter, ifs, 0⟩] scope pos) (some (.Name y py)) spos.line (X i).env = pure true) (hi : RI X C tc ow tg iter fi) (ok : ∀ i, BlkOk N (X i).env.scope scope ownL)
    (hg : RG (blkF X scope) C ow ts tg fg) (ht : RQ (blkF X scope) C tc ow ifs ft) (he : RE (blkF X scope) C tc ow elt fe) (hs : ∀ i x, foldedSetIterable iter (X i).env x = pure x) (hts : ts.all (fun t => (ownL.map (·.2)).contains t) = true) (hv : (ownL.map (·.2)).all (fun v => !ow.contains v) = true) :
    RS X C mu fr owl ow (ow ++ [j]) (.Assign [.Name y py] (.ListComp elt [⟨tg, iter, ifs, 0⟩] scope pos) spos) (ownS j (compE fi (ownL.map (·.2)) fg ft fe)) := by
  obtain ⟨wi, i1, i2⟩ := hi.ex
  obtain ⟨g, g1, g2⟩ := hg.ex
  obtain ⟨tt, t1, t2⟩ := ht.ex
  obtain ⟨te, e1, e2⟩ := he.ex
  refine ⟨_, fun i => ps_setLc (own := ownL) (F.calm i) (by rw [F.nm i]; exact F.nd) (by rw [F.nm i]; exact hy) (hyl i) (hsw i) (i1 i) (by rw [F.nm i]; exact ok i) (fun s H C' cl fp => g1 (i, s, H, C', cl, fp)) (fun s H C' cl fp => t1 (i, s, H, C', cl, fp)) (fun s H C' cl fp => e1 (i, s, H, C', cl, fp)) (hs i), ?_⟩
  exact sem_own (sem_lc i2 g2 t2 e2 (fun t h => List.contains_iff_mem.mp (List.all_eq_true.mp hts t h)) hv) hw hmu
end
end Lay

namespace Lay
open PySem PySem.Spec PyProof.Rows L2

/-! ## operators by data -/
section
variable {K : PySem.W.Frag} {Z : List Addr} {H H' : Hp}
theorem hidX (Z : List Addr) (H : Hp) : Ext (hid Z H) H := fun a o q => (hid_some.mp q).2
theorem Ext.hid' {Z : List Addr} (e : Ext H H') : Ext (hid Z H) (hid Z H') := fun a o q => hid_some.mpr ⟨(hid_some.mp q).1, e a o (hid_some.mp q).2⟩
theorem zok_nin (zo : Zok Z H) {p : Addr} (h : H p = none) : p ∉ Z := fun q => by
  obtain ⟨o, e⟩ := zo p q; rw [h] at e; cases e
mutual
/-- as the library's deep == reads data -/
theorem Dat.dp : ∀ (d : D) (v : V), SeqAt.shaped d = true ∨ d.canLay0 = true → Dat K (hid Z H) d v → Dp K H v d
  | .none, _, _, h => by cases h; exact .non
  | .bool b, _, _, h => by cases h; exact .bl b
  | .int i, _, _, h => by cases h; exact .int i
  | .str x, _, _, h => by cases h; exact .str x
  | .list ds, _, s, h => by
    cases h with
    | lst h z r => exact .lst (SqL.ext (hidX Z H) h) (Dats.dp ds _ (by rcases s with s | s; exact SeqAt.canLay_of_shaped s; exact s) r)
  | .tuple ds, _, s, h => by
    cases h with
    | tup h z r => exact .tup (h.mono (hidX Z H)).sq (Dats.dp ds _ (by rcases s with s | s; exact SeqAt.canLay_of_shaped s; exact s) r)
  | .dict kvs, _, s, _ => by rcases s with s | s; exact absurd (SeqAt.canLay_of_shaped s) Bool.false_ne_true; exact absurd s Bool.false_ne_true
theorem Dats.dp : ∀ (ds : List D) (vs : List V), PyData.canLayAll0 ds = true → Dats K (hid Z H) ds vs → DpAll K H vs ds
  | [], _, _, h => by cases h; exact .nil
  | d :: ds, _, s, h => by
    cases h with
    | cons h r =>
      have s' : (d.canLay0 && PyData.canLayAll0 ds) = true := s
      rw [Bool.and_eq_true] at s'
      exact .cons (Dat.dp d _ (.inr s'.1) h) (Dats.dp ds _ s'.2 r)
end
end
section
variable {K : PySem.W.Frag}
/-- two ints -/
def iiD (P : Int → Int → Bool) (g : Int → Int → D) : D → D → Option D
  | .int a, .int b => if P a b = true then some (g a b) else none
  | _, _ => none
theorem opS_I {C : Int → Int → Prop} {g : Int → Int → V} {P : Int → Int → Bool} {g' : Int → Int → D} (hC : ∀ i j, P i j = true → C i j) (hg : ∀ K H i j, Dat K H (g' i j) (g i j)) : OpS K (rI C g) (iiD P g') := fun Z H x y dx dy z Q zo hx hy hz hq => by
  unfold iiD at hz
  split at hz
  · cases hx
    cases hy
    split at hz
    · rename_i hp
      simp only [Option.some.injEq] at hz
      subst hz
      exact ⟨_, _, rfl, rfl, hC _ _ hp, hq _ H (Ext.refl H) (hg _ _ _ _)⟩
    · cases hz
  · cases hz
def ii0 (g : Int → Int → D) : D → D → Option D
  | .int a, .int b => some (g a b)
  | _, _ => none
theorem opS_I0 {g : Int → Int → V} {g' : Int → Int → D} (hg : ∀ K H i j, Dat K H (g' i j) (g i j)) : OpS K (rI0 g) (ii0 g') := fun Z H x y dx dy z Q zo hx hy hz hq => by
  unfold ii0 at hz
  split at hz
  · cases hx
    cases hy
    simp only [Option.some.injEq] at hz
    subst hz
    exact ⟨_, _, rfl, rfl, hq _ H (Ext.refl H) (hg _ _ _ _)⟩
  · cases hz
def subD : D → D → Option D := ii0 fun a b => .int (a - b)
theorem os_sub : OpS K (rI0 fun i j => .int (i - j)) subD := opS_I0 fun _ _ _ _ => .int _
def mulD : D → D → Option D := iiD (fun i j => decide (i.natAbs.log2 + j.natAbs.log2 < 1000000)) fun a b => .int (a * b)
theorem os_mul : OpS K (rI CMulW fun i j => .int (i * j)) mulD := opS_I (fun i j h => by have h := of_decide_eq_true h; exact h) fun _ _ _ _ => .int _
/-- // by any divisor below 2 ^ 9000 in size -/
def CDivD (_ j : Int) : Prop := j ≠ 0 ∧ j.natAbs.log2 < 9000
theorem op_fdivD {X : Cx} : OpR X (binaryOp .FloorDiv) (rI CDivD fun i j => .int (i.fdiv j)) := opI fun _ _ _ _ _ _ _ hc q => floordiv_int hc.1 q (.inl (PyProof.noPylong_of_log2 hc.2))
def fdivD : D → D → Option D := iiD (fun _ j => decide (j ≠ 0) && decide (j.natAbs.log2 < 9000)) fun a b => .int (a.fdiv b)
theorem os_fdiv : OpS K (rI CDivD fun i j => .int (i.fdiv j)) fdivD := opS_I (fun i j h => by simp only [Bool.and_eq_true, decide_eq_true_eq] at h; exact h) fun _ _ _ _ => .int _
def modD : D → D → Option D := iiD (fun _ j => decide (j ≠ 0)) fun a b => .int (a.fmod b)
theorem os_mod : OpS K (rI (fun _ j => j ≠ 0) fun i j => .int (i.fmod j)) modD := opS_I (fun i j h => of_decide_eq_true h) fun _ _ _ _ => .int _
def powD : D → D → Option D := iiD (fun i j => decide (0 ≤ j ∧ j ≤ 1000000 ∧ i.natAbs < 2 ^ 64)) fun a b => .int (a ^ b.toNat)
theorem os_pow : OpS K (rI CPow fun i j => .int (i ^ j.toNat)) powD := opS_I (fun i j h => by have h := of_decide_eq_true h; exact h) fun _ _ _ _ => .int _
/-! + of ints, texts, lists, tuples -/
/-- list + list, whatever holds them -/
def rCatS (K : PySem.W.Frag) : R2 := fun x y H Q => ∃ l b xs zs, x = .ref l ∧ y = .ref b ∧ SqL K H l xs ∧ SqL K H b zs ∧ xs.length + zs.length ≤ sizeLine ∧ ∀ p, H p = none → Q (.ref p) (upd H p (.lst (xs ++ zs)))
theorem op_catS {X : Cx} : OpR X (binaryOp .Add) (rCatS X.K) := by
  intro pins s σ H x y v u Q I rx ry h
  obtain ⟨l, b, xs, zs, rfl, rfl, hH, hB, hz, q⟩ := h
  cases rx
  cases ry
  obtain ⟨its, r, ⟨⟨cls, dd, data, sl⟩, n, ho, hc, hd0, hd⟩, z⟩ := I.list hH
  obtain ⟨its2, r2, ⟨⟨cls2, dd2, data2, sl2⟩, n2, ho2, hc2, hd02, hd2⟩, z2⟩ := I.list hB
  simp only at hc hd hc2 hd2
  subst hc hd hc2 hd2
  have e : its.toArray ++ its2.toArray = (its ++ its2).toArray := by simp
  have hsz : its.toArray.size + its2.toArray.size ≤ sizeLine := by
    have := r.length
    have := r2.length
    simp only [List.size_toArray]
    omega
  refine concat_meets ⟨_, ho, rfl⟩ ⟨_, ho2, rfl⟩ noFill_list_add seq_list_add PySem.F.slot_list_add PySem.F.entry_list_add (PySem.F.args_list_add_2 _ _) (list_addW l b its.toArray its2.toArray n n2 dd dd2 sl sl2 hsz) ⟨ho, ho2, ?_⟩
  rw [e]
  exact ⟨.ref _, _, I.lnew (t' := s.toks) (r.append r2) (by rw [List.length_append]; omega), rfl, q _ I.fresh⟩
def rAddD (K : PySem.W.Frag) : R2 := fun x y H Q => rI0 (fun i j => .int (i + j)) x y H Q ∨ (fun x y H Q => ∃ i j, x = .str i ∧ y = .str j ∧ i.length + j.length ≤ sizeLine ∧ Q (.str (i ++ j)) H) x y H Q ∨ rCatS K x y H Q ∨ rCatA K x y H Q
theorem op_addD {X : Cx} : OpR X (binaryOp .Add) (rAddD X.K) := op_add.or (op_add_str.or (op_catS.or op_catA))
def addD : D → D → Option D
  | .int a, .int b => some (.int (a + b))
  | .str a, .str b => if a.length + b.length ≤ sizeLine then some (.str (a ++ b)) else none
  | .list a, .list b => if a.length + b.length ≤ sizeLine then some (.list (a ++ b)) else none
  | .tuple a, .tuple b => if a.length + b.length ≤ sizeLine then some (.tuple (a ++ b)) else none
  | _, _ => none
theorem os_add : OpS K (rAddD K) addD := fun Z H x y dx dy z Q zo hx hy hz hq => by
  unfold addD at hz
  split at hz
  · cases hx
    cases hy
    simp only [Option.some.injEq] at hz
    subst hz
    exact .inl ⟨_, _, rfl, rfl, hq _ H (Ext.refl H) (.int _)⟩
  · cases hx
    cases hy
    split at hz
    · simp only [Option.some.injEq] at hz
      subst hz
      exact .inr (.inl ⟨_, _, rfl, rfl, ‹_›, hq _ H (Ext.refl H) (.str _)⟩)
    · cases hz
  · cases hx with
    | lst h1 z1 r1 =>
      cases hy with
      | lst h2 z2 r2 =>
        split at hz
        · rename_i hl
          simp only [Option.some.injEq] at hz
          subst hz
          rw [r1.len, r2.len] at hl
          refine .inr (.inr (.inl ⟨_, _, _, _, rfl, rfl, SqL.ext (hidX Z H) h1, SqL.ext (hidX Z H) h2, hl, fun p hp => ?_⟩))
          exact hq _ _ (Ext.new hp) (.lst (SqL.of (hid_upd (zok_nin zo hp))) (by rw [List.length_append]; exact hl) ((r1.ext (Ext.new hp).hid').app (r2.ext (Ext.new hp).hid')))
        · cases hz
  · cases hx with
    | tup h1 z1 r1 =>
      cases hy with
      | tup h2 z2 r2 =>
        split at hz
        · rename_i hl
          simp only [Option.some.injEq] at hz
          subst hz
          rw [r1.len, r2.len] at hl
          refine .inr (.inr (.inr ⟨_, _, _, _, rfl, rfl, (h1.mono (hidX Z H)).sq, (h2.mono (hidX Z H)).sq, hl, fun e => ?_, fun _ e => ?_, fun _ _ p hp => ?_⟩))
          · subst e
            cases r1
            exact hq _ H (Ext.refl H) (.tup h2 z2 r2)
          · subst e
            cases r2
            rw [List.append_nil] at hq
            exact hq _ H (Ext.refl H) (.tup h1 z1 r1)
          · exact hq _ _ (Ext.new hp) (.tup (.inl (hid_upd (zok_nin zo hp))) (by rw [List.length_append]; exact hl) ((r1.ext (Ext.new hp).hid').app (r2.ext (Ext.new hp).hid')))
        · cases hz
  · cases hz
/-! < and its like: ints, texts -/
def rLtD : R2 := fun x y H Q => rI0 (fun i j => .bl (decide (i < j))) x y H Q ∨ (fun x y H Q => ∃ i j, x = .str i ∧ y = .str j ∧ Q (.bl (decide (i.cps.toList < j.cps.toList))) H) x y H Q
theorem op_ltD {X : Cx} : OpR X (compareOp .Lt) rLtD := op_lt.or op_lt_str
def ltD : D → D → Option D
  | .int a, .int b => some (.bool (decide (a < b)))
  | .str a, .str b => some (.bool (decide (a.cps.toList < b.cps.toList)))
  | _, _ => none
theorem os_lt : OpS K rLtD ltD := fun Z H x y dx dy z Q zo hx hy hz hq => by
  unfold ltD at hz
  split at hz
  · cases hx; cases hy
    simp only [Option.some.injEq] at hz
    subst hz
    exact .inl ⟨_, _, rfl, rfl, hq _ H (Ext.refl H) (.bl _)⟩
  · cases hx; cases hy
    simp only [Option.some.injEq] at hz
    subst hz
    exact .inr ⟨_, _, rfl, rfl, hq _ H (Ext.refl H) (.bl _)⟩
  · cases hz
def leI : D → D → Option D := ii0 fun a b => .bool (decide (a ≤ b))
def gtI : D → D → Option D := ii0 fun a b => .bool (decide (b < a))
def geI : D → D → Option D := ii0 fun a b => .bool (decide (b ≤ a))
theorem os_le : OpS K (rI0 fun i j => .bl (decide (i ≤ j))) leI := opS_I0 fun _ _ _ _ => .bl _
theorem os_gt : OpS K (rI0 fun i j => .bl (decide (j < i))) gtI := opS_I0 fun _ _ _ _ => .bl _
theorem os_ge : OpS K (rI0 fun i j => .bl (decide (j ≤ i))) geI := opS_I0 fun _ _ _ _ => .bl _
/-! ==, != of data -/
def isSc : D → Bool
  | .none | .bool _ | .int _ | .str _ => true
  | _ => false
def rEqA (K : PySem.W.Frag) : R2 := fun x y H Q => rEq x y H Q ∨ rEqD K x y H Q
def rNeA (K : PySem.W.Frag) : R2 := fun x y H Q => rNe x y H Q ∨ rNeD K x y H Q
theorem op_eqA {X : Cx} (hu : X.A.units + 64 < cLine) : OpR X (compareOp .Eq) (rEqA X.K) := op_eq.or (op_eqD hu)
theorem op_neA {X : Cx} (hu : X.A.units + 64 < cLine) : OpR X (compareOp .NotEq) (rNeA X.K) := op_ne.or (op_neD hu)
/-- equality as Python has it, of texts and data of bounded depth -/
def eqB : D → D → Option Bool
  | .str a, .str b => some (a == b)
  | x, y => if SeqAt.shaped x = true ∧ SeqAt.shaped y = true then some (PyData.eqv x y) else none
def eqD : D → D → Option D := fun x y => (eqB x y).map .bool
def neD : D → D → Option D := fun x y => (eqB x y).map fun b => .bool (!b)
theorem os_eq : OpS K (rEqA K) eqD := fun Z H x y dx dy z Q zo hx hy hz hq => by
  unfold eqD eqB at hz
  split at hz
  · cases hx; cases hy
    simp only [Option.map_some, Option.some.injEq] at hz
    subst hz
    refine .inl ⟨rfl, ?_⟩
    rw [dec_str]
    exact hq _ H (Ext.refl H) (.bl _)
  · split at hz
    · rename_i hs
      simp only [Option.map_some, Option.some.injEq] at hz
      subst hz
      exact .inr ⟨_, _, Dat.dp _ _ (.inl hs.1) hx, Dat.dp _ _ (.inl hs.2) hy, hs.1, hs.2, hq _ H (Ext.refl H) (.bl _)⟩
    · cases hz
theorem os_ne : OpS K (rNeA K) neD := fun Z H x y dx dy z Q zo hx hy hz hq => by
  unfold neD eqB at hz
  split at hz
  · cases hx; cases hy
    simp only [Option.map_some, Option.some.injEq] at hz
    subst hz
    refine .inl ⟨rfl, ?_⟩
    rw [dec_str]
    exact hq _ H (Ext.refl H) (.bl _)
  · split at hz
    · rename_i hs
      simp only [Option.map_some, Option.some.injEq] at hz
      subst hz
      exact .inr ⟨_, _, Dat.dp _ _ (.inl hs.1) hx, Dat.dp _ _ (.inl hs.2) hy, hs.1, hs.2, hq _ H (Ext.refl H) (.bl _)⟩
    · cases hz
/-! is None -/
def isNonB : D → Bool
  | .none => true
  | _ => false
theorem non_dec {H : Hp} {d : D} {v : V} (h : Dat K H d v) : decide (v = .non) = isNonB d := by
  cases h <;> rfl
def isND : D → D → Option D
  | x, .none => some (.bool (isNonB x))
  | _, _ => none
def notND : D → D → Option D
  | x, .none => some (.bool (!isNonB x))
  | _, _ => none
theorem os_isN : OpS K (fun x y H Q => y = .non ∧ Q (.bl (decide (x = .non))) H) isND := fun Z H x y dx dy z Q zo hx hy hz hq => by
  unfold isND at hz
  split at hz
  · cases hy
    simp only [Option.some.injEq] at hz
    subst hz
    refine ⟨rfl, ?_⟩
    rw [non_dec hx]
    exact hq _ H (Ext.refl H) (.bl _)
  · cases hz
theorem os_notN : OpS K (fun x y H Q => y = .non ∧ Q (.bl (!decide (x = .non))) H) notND := fun Z H x y dx dy z Q zo hx hy hz hq => by
  unfold notND at hz
  split at hz
  · cases hy
    simp only [Option.some.injEq] at hz
    subst hz
    refine ⟨rfl, ?_⟩
    rw [non_dec hx]
    exact hq _ H (Ext.refl H) (.bl _)
  · cases hz
/-! in, not in: of lists, of texts -/
def rInA (K : PySem.W.Frag) : R2 := fun x y H Q => rInD K x y H Q ∨ (fun x y H Q => ∃ i j, x = .str i ∧ y = .str j ∧ Q (.bl (!(Builtin.Str.occurrences j i 0 j.length 1).isEmpty)) H) x y H Q
def rNotInA (K : PySem.W.Frag) : R2 := fun x y H Q => rNotInD K x y H Q ∨ (fun x y H Q => ∃ i j, x = .str i ∧ y = .str j ∧ Q (.bl (!(!(Builtin.Str.occurrences j i 0 j.length 1).isEmpty))) H) x y H Q
theorem op_inA {X : Cx} (hu : X.A.units + 65 < cLine) : OpR X (compareOp .In) (rInA X.K) := (op_inD hu).or op_in_str
theorem op_notInA {X : Cx} (hu : X.A.units + 65 < cLine) : OpR X (compareOp .NotIn) (rNotInA X.K) := (op_notInD hu).or op_notIn_str
def inB : D → D → Option Bool
  | x, .list ds => if SeqAt.shaped x = true ∧ SeqAt.shaped (.list ds) = true then some (ds.any fun z => PyData.eqv z x) else none
  | .str a, .str b => some (!(Builtin.Str.occurrences b a 0 b.length 1).isEmpty)
  | _, _ => none
def inD : D → D → Option D := fun x y => (inB x y).map .bool
def notInD : D → D → Option D := fun x y => (inB x y).map fun b => .bool (!b)
theorem os_in : OpS K (rInA K) inD := fun Z H x y dx dy z Q zo hx hy hz hq => by
  unfold inD inB at hz
  split at hz
  · split at hz
    · rename_i hs
      simp only [Option.map_some, Option.some.injEq] at hz
      subst hz
      exact .inl ⟨_, _, Dat.dp _ _ (.inl hs.1) hx, Dat.dp _ _ (.inl hs.2) hy, hs.1, hs.2, hq _ H (Ext.refl H) (.bl _)⟩
    · cases hz
  · cases hx; cases hy
    simp only [Option.map_some, Option.some.injEq] at hz
    subst hz
    exact .inr ⟨_, _, rfl, rfl, hq _ H (Ext.refl H) (.bl _)⟩
  · cases hz
theorem os_notIn : OpS K (rNotInA K) notInD := fun Z H x y dx dy z Q zo hx hy hz hq => by
  unfold notInD inB at hz
  split at hz
  · split at hz
    · rename_i hs
      simp only [Option.map_some, Option.some.injEq] at hz
      subst hz
      exact .inl ⟨_, _, Dat.dp _ _ (.inl hs.1) hx, Dat.dp _ _ (.inl hs.2) hy, hs.1, hs.2, hq _ H (Ext.refl H) (.bl _)⟩
    · cases hz
  · cases hx; cases hy
    simp only [Option.map_some, Option.some.injEq] at hz
    subst hz
    exact .inr ⟨_, _, rfl, rfl, hq _ H (Ext.refl H) (.bl _)⟩
  · cases hz
/-! an item -/
def ixD : D → D → Option D
  | .list ds, .int i => atI ds i
  | .tuple ds, .int i => atI ds i
  | .str z, .int i => if z.length ≤ sizeLine then (atI z.cps.toList i).map fun c => .str ⟨#[c]⟩ else none
  | _, _ => none
theorem Dats.atI {H : Hp} {ds : List D} {vs : List V} {i : Int} {d : D} (h : Dats K H ds vs) (e : L2.atI ds i = some d) : ∃ v, L2.atI vs i = some v ∧ Dat K H d v := by
  unfold L2.atI at e ⊢
  rw [← h.len]
  cases q : ixN ds.length i with
  | none => rw [q] at e; cases e
  | some j => rw [q] at e; exact h.get e
theorem os_ix : OpS K (rIx K) ixD := fun Z H x y dx dy z Q zo hx hy hz hq => by
  unfold ixD at hz
  split at hz
  · cases hx with
    | lst h1 z1 r1 =>
      cases hy
      obtain ⟨v, h2, h3⟩ := r1.atI hz
      exact .inl ⟨_, _, _, v, rfl, rfl, SqL.ext (hidX Z H) h1, h2, hq _ H (Ext.refl H) h3⟩
  · cases hx with
    | tup h1 z1 r1 =>
      cases hy
      obtain ⟨v, h2, h3⟩ := r1.atI hz
      exact .inr (.inl ⟨_, _, _, v, rfl, rfl, (h1.mono (hidX Z H)).sq, h2, hq _ H (Ext.refl H) h3⟩)
  · cases hx; cases hy
    split at hz
    · rename_i hl
      cases e : L2.atI _ _ with
      | none => rw [e] at hz; cases hz
      | some c =>
        rw [e] at hz
        simp only [Option.map_some, Option.some.injEq] at hz
        subst hz
        exact .inr (.inr ⟨_, _, c, rfl, rfl, hl, e, hq _ H (Ext.refl H) (.str _)⟩)
    · cases hz
  · cases hz
/-! one-place -/
def negD : D → Option D
  | .int i => some (.int (-i))
  | _ => none
theorem us_neg : UnS K (rU fun i => .int (-i)) negD := fun Z H x dx z Q zo hx hz hq => by
  unfold negD at hz
  split at hz
  · cases hx
    simp only [Option.some.injEq] at hz
    subst hz
    exact ⟨_, rfl, hq _ H (Ext.refl H) (.int _)⟩
  · cases hz
end
section
variable {ι : Type} {X : ι → Cx} {C : Ct} {tc ow : List Nat} {N : List Str} {k : Nat} {a b : Expr} {fa fb : XE} {pos : Pos}
theorem re_add (F : Fam X C N k) (ha : RE X C tc ow a fa) (hb : RE X C tc ow b fb) : RE X C tc ow (.BinOp a .Add b pos) (opE addD fa fb) := re_op (fun i => by rw [← F.K i]; exact op_addD) os_add ha hb
theorem re_sub (ha : RE X C tc ow a fa) (hb : RE X C tc ow b fb) : RE X C tc ow (.BinOp a .Sub b pos) (opE subD fa fb) := re_op (fun i => op_sub) os_sub ha hb
theorem re_mul (ha : RE X C tc ow a fa) (hb : RE X C tc ow b fb) : RE X C tc ow (.BinOp a .Mult b pos) (opE mulD fa fb) := re_op (fun i => op_mulW) os_mul ha hb
theorem re_fdiv (ha : RE X C tc ow a fa) (hb : RE X C tc ow b fb) : RE X C tc ow (.BinOp a .FloorDiv b pos) (opE fdivD fa fb) := re_op (fun i => op_fdivD) os_fdiv ha hb
theorem re_mod (ha : RE X C tc ow a fa) (hb : RE X C tc ow b fb) : RE X C tc ow (.BinOp a .Mod b pos) (opE modD fa fb) := re_op (fun i => op_modN) os_mod ha hb
theorem re_pow (ha : RE X C tc ow a fa) (hb : RE X C tc ow b fb) : RE X C tc ow (.BinOp a .Pow b pos) (opE powD fa fb) := re_op (fun i => op_pow) os_pow ha hb
theorem re_neg (ha : RE X C tc ow a fa) : RE X C tc ow (.UnaryOp .USub a pos) (unE negD fa) := by
  obtain ⟨t, a1, a2⟩ := ha.ex
  refine ⟨_, fun i => pe_un un_neg (a1 i), fun own Z ρ σ H d ρ' Q ho R hf hq => ?_⟩
  unfold unE at hf
  cases e1 : fa ρ with
  | none => rw [e1] at hf; cases hf
  | some p =>
    obtain ⟨x, ρ1⟩ := p
    rw [e1] at hf
    simp only [Option.bind_some] at hf
    cases e2 : negD x with
    | none => rw [e2] at hf; cases hf
    | some z =>
      rw [e2] at hf
      simp only [Option.map_some, Option.some.injEq, Prod.mk.injEq] at hf
      obtain ⟨rfl, rfl⟩ := hf
      exact a2 own Z ρ σ H x _ _ ho R e1 fun v H1 R1 g1 d1 => us_neg _ H1 v x _ Q R1.zok d1 e2 fun v H2 e d2 => hq v H2 (R1.ext e) (g1.trans (Grt.of e)) d2
theorem re_lt (ha : RE X C tc ow a fa) (hb : RE X C tc ow b fb) : RE X C tc ow (.Compare a [.Lt] [b] pos) (opE ltD fa fb) := re_cmp (fun i => op_ltD) os_lt (nomark _) ha hb
theorem re_le (ha : RE X C tc ow a fa) (hb : RE X C tc ow b fb) : RE X C tc ow (.Compare a [.LtE] [b] pos) (opE leI fa fb) := re_cmp (fun i => op_le) os_le (nomark _) ha hb
theorem re_gt (ha : RE X C tc ow a fa) (hb : RE X C tc ow b fb) : RE X C tc ow (.Compare a [.Gt] [b] pos) (opE gtI fa fb) := re_cmp (fun i => op_gt) os_gt (nomark _) ha hb
theorem re_ge (ha : RE X C tc ow a fa) (hb : RE X C tc ow b fb) : RE X C tc ow (.Compare a [.GtE] [b] pos) (opE geI fa fb) := re_cmp (fun i => op_ge) os_ge (nomark _) ha hb
theorem re_eq (F : Fam X C N k) (ha : RE X C tc ow a fa) (hb : RE X C tc ow b fb) : RE X C tc ow (.Compare a [.Eq] [b] pos) (opE eqD fa fb) := re_cmp (fun i => by rw [← F.K i]; exact op_eqA (F.room i).units) os_eq (nomark _) ha hb
theorem re_ne (F : Fam X C N k) (ha : RE X C tc ow a fa) (hb : RE X C tc ow b fb) : RE X C tc ow (.Compare a [.NotEq] [b] pos) (opE neD fa fb) := re_cmp (fun i => by rw [← F.K i]; exact op_neA (F.room i).units) os_ne (nomark _) ha hb
theorem re_isN (ha : RE X C tc ow a fa) (hb : RE X C tc ow b fb) : RE X C tc ow (.Compare a [.Is] [b] pos) (opE isND fa fb) := re_cmp (fun i => op_isN) os_isN (nomark _) ha hb
theorem re_notN (ha : RE X C tc ow a fa) (hb : RE X C tc ow b fb) : RE X C tc ow (.Compare a [.IsNot] [b] pos) (opE notND fa fb) := re_cmp (fun i => op_notN) os_notN (nomark _) ha hb
theorem re_in (F : Fam X C N k) (ha : RE X C tc ow a fa) (hb : RE X C tc ow b fb) (hm : behindInMarks .In b = false) : RE X C tc ow (.Compare a [.In] [b] pos) (opE inD fa fb) := re_cmp (fun i => by rw [← F.K i]; exact op_inA (by have := (F.room i).un; omega)) os_in hm ha hb
theorem re_notIn (F : Fam X C N k) (ha : RE X C tc ow a fa) (hb : RE X C tc ow b fb) (hm : behindInMarks .NotIn b = false) : RE X C tc ow (.Compare a [.NotIn] [b] pos) (opE notInD fa fb) := re_cmp (fun i => by rw [← F.K i]; exact op_notInA (by have := (F.room i).un; omega)) os_notIn hm ha hb
/-- a comparison as a test -/
theorem rt_of {op : CmpOp} {g : D → D → Option D} (h : ∀ {ι' : Type} {X' : ι' → Cx}, True) (ha : RE X C tc ow (.Compare a [op] [b] pos) (opE g fa fb)) (hp : ∀ i te, PE (X i) (.Compare a [op] [b] pos) te → PT (X i) (.Compare a [op] [b] pos) (tTest te)) : RT X C tc ow (.Compare a [op] [b] pos) (tE (opE g fa fb)) := by
  obtain ⟨t, a1, a2⟩ := ha.ex
  exact ⟨_, fun i => hp i t (a1 i), sem_test a2⟩
theorem rt_lt (ha : RE X C tc ow a fa) (hb : RE X C tc ow b fb) : RT X C tc ow (.Compare a [.Lt] [b] pos) (tE (opE ltD fa fb)) := rt_cmp (fun i => op_ltD) os_lt (nomark _) ha hb
theorem rt_le (ha : RE X C tc ow a fa) (hb : RE X C tc ow b fb) : RT X C tc ow (.Compare a [.LtE] [b] pos) (tE (opE leI fa fb)) := rt_cmp (fun i => op_le) os_le (nomark _) ha hb
theorem rt_gt (ha : RE X C tc ow a fa) (hb : RE X C tc ow b fb) : RT X C tc ow (.Compare a [.Gt] [b] pos) (tE (opE gtI fa fb)) := rt_cmp (fun i => op_gt) os_gt (nomark _) ha hb
theorem rt_ge (ha : RE X C tc ow a fa) (hb : RE X C tc ow b fb) : RT X C tc ow (.Compare a [.GtE] [b] pos) (tE (opE geI fa fb)) := rt_cmp (fun i => op_ge) os_ge (nomark _) ha hb
theorem rt_eq (F : Fam X C N k) (ha : RE X C tc ow a fa) (hb : RE X C tc ow b fb) : RT X C tc ow (.Compare a [.Eq] [b] pos) (tE (opE eqD fa fb)) := rt_cmp (fun i => by rw [← F.K i]; exact op_eqA (F.room i).units) os_eq (nomark _) ha hb
theorem rt_ne (F : Fam X C N k) (ha : RE X C tc ow a fa) (hb : RE X C tc ow b fb) : RT X C tc ow (.Compare a [.NotEq] [b] pos) (tE (opE neD fa fb)) := rt_cmp (fun i => by rw [← F.K i]; exact op_neA (F.room i).units) os_ne (nomark _) ha hb
theorem rt_isN (ha : RE X C tc ow a fa) (hb : RE X C tc ow b fb) : RT X C tc ow (.Compare a [.Is] [b] pos) (tE (opE isND fa fb)) := rt_cmp (fun i => op_isN) os_isN (nomark _) ha hb
theorem rt_notN (ha : RE X C tc ow a fa) (hb : RE X C tc ow b fb) : RT X C tc ow (.Compare a [.IsNot] [b] pos) (tE (opE notND fa fb)) := rt_cmp (fun i => op_notN) os_notN (nomark _) ha hb
theorem rt_in (F : Fam X C N k) (ha : RE X C tc ow a fa) (hb : RE X C tc ow b fb) (hm : behindInMarks .In b = false) : RT X C tc ow (.Compare a [.In] [b] pos) (tE (opE inD fa fb)) := rt_cmp (fun i => by rw [← F.K i]; exact op_inA (by have := (F.room i).un; omega)) os_in hm ha hb
theorem rt_notIn (F : Fam X C N k) (ha : RE X C tc ow a fa) (hb : RE X C tc ow b fb) (hm : behindInMarks .NotIn b = false) : RT X C tc ow (.Compare a [.NotIn] [b] pos) (tE (opE notInD fa fb)) := rt_cmp (fun i => by rw [← F.K i]; exact op_notInA (by have := (F.room i).un; omega)) os_notIn hm ha hb
theorem re_ix (F : Fam X C N k) (ha : RE X C tc ow a fa) (hb : RE X C tc ow b fb) (hs : PlainIx b) : RE X C tc ow (.Subscript a b pos) (opE ixD fa fb) := by
  obtain ⟨ta, a1, a2⟩ := ha.ex
  obtain ⟨tb, b1, b2⟩ := hb.ex
  exact ⟨_, fun i => pe_ix (by rw [← F.K i]; exact ix_seq) (a1 i) (b1 i) hs, sem_op os_ix a2 b2⟩
end
end Lay

namespace Lay
open PySem PySem.Spec PyProof.Rows L2

/-! ## reading what is owned: for a while it is data -/
mutual
/-- no list, no dict in it -/
def lfree : D → Bool
  | .none | .bool _ | .int _ | .str _ => true
  | .tuple ds => lfrees ds
  | .list _ => false
  | .dict _ => false
def lfrees : List D → Bool
  | [] => true
  | d :: ds => lfree d && lfrees ds
end
section
variable {K : PySem.W.Frag} {H H' : Hp}
mutual
theorem Dat.lf (t : ∀ a xs, TupAt K H a xs → TupAt K H' a xs) : ∀ (d : D) (v : V), lfree d = true → Dat K H d v → Dat K H' d v
  | .none, _, _, h => by cases h; exact .non
  | .bool b, _, _, h => by cases h; exact .bl b
  | .int i, _, _, h => by cases h; exact .int i
  | .str x, _, _, h => by cases h; exact .str x
  | .list ds, _, f, _ => by simp [lfree] at f
  | .dict ds, _, f, _ => by simp [lfree] at f
  | .tuple ds, _, f, h => by
    cases h with
    | tup h z r => exact .tup (t _ _ h) z (Dats.lf t ds _ (by simpa [lfree] using f) r)
theorem Dats.lf (t : ∀ a xs, TupAt K H a xs → TupAt K H' a xs) : ∀ (ds : List D) (vs : List V), lfrees ds = true → Dats K H ds vs → Dats K H' ds vs
  | [], _, _, h => by cases h; exact .nil
  | d :: ds, _, f, h => by
    cases h with
    | cons h r =>
      have f' : (lfree d && lfrees ds) = true := by simpa [lfrees] using f
      rw [Bool.and_eq_true] at f'
      exact .cons (Dat.lf t d _ f'.1 h) (Dats.lf t ds _ f'.2 r)
end
end
/-- data without lists stands whatever is hidden of lists and dicts -/
theorem Dat.unb {K : PySem.W.Frag} {H : Hp} {Z Z' : List Addr} (hz : ∀ a ∈ Z', a ∉ Z → ∀ xs, H a ≠ some (.tup xs)) {d : D} {v : V} (f : lfree d = true) (h : Dat K (hid Z H) d v) : Dat K (hid Z' H) d v :=
  Dat.lf (fun a xs t => t.elim (fun q => .inl (hid_some.mpr ⟨fun z => hz a z (hid_some.mp q).1 xs (hid_some.mp q).2, (hid_some.mp q).2⟩)) .inr) d v f h
theorem Dats.unb {K : PySem.W.Frag} {H : Hp} {Z Z' : List Addr} (hz : ∀ a ∈ Z', a ∉ Z → ∀ xs, H a ≠ some (.tup xs)) {d : List D} {v : List V} (f : lfrees d = true) (h : Dats K (hid Z H) d v) : Dats K (hid Z' H) d v :=
  Dats.lf (fun a xs t => t.elim (fun q => .inl (hid_some.mpr ⟨fun z => hz a z (hid_some.mp q).1 xs (hid_some.mp q).2, (hid_some.mp q).2⟩)) .inr) d v f h
open Classical in
noncomputable def borE (f : XE) : XE := fun ρ => match f ρ with
  | some (d, ρ') => if lfree d = true ∧ ρ' = ρ then some (d, ρ) else none
  | none => none
open Classical in
noncomputable def borT (f : XT) : XT := fun ρ => match f ρ with
  | some (b, ρ') => if ρ' = ρ then some (b, ρ) else none
  | none => none
open Classical in
noncomputable def borF (f : XE) : XE := fun ρ => match f ρ with
  | some (.list ds, ρ') => if lfrees ds = true ∧ ρ' = ρ then some (.list ds, ρ) else none
  | _ => none

section
variable {ι : Type} {X : ι → Cx} {C : Ct} {mu : List Nat} {fr : Bool} {tc owl ow ow1 ow2 : List Nat} {N : List Str} {k : Nat}
theorem Ob.notup {K : PySem.W.Frag} {H : Hp} {d : D} {o : HO} (h : Ob K H d o) : ∀ xs, o ≠ .tup xs := by cases h <;> (intro xs e; cases e)
theorem keep_notup {K : PySem.W.Frag} {own : Ow} {Z : List Addr} {ρ : En} {σ : L2.St} {H : Hp} (R : Rep K own Z ρ σ H) (ks : List Nat) : ∀ a ∈ adr own ++ Z, a ∉ adr (keepO ks own) ++ Z → ∀ xs, H a ≠ some (.tup xs) := fun a ha hn xs e => by
  rcases List.mem_append.mp ha with ha | ha
  · obtain ⟨⟨j, c⟩, hp, rfl⟩ := List.mem_map.mp ha
    obtain ⟨_, d, o, _, h3, h4⟩ := R.obj j c hp
    have h3 : H c = some o := h3
    have e : H c = some (.tup xs) := e
    rw [h3] at e
    cases e
    exact h4.notup xs rfl
  · exact hn (List.mem_append_right _ ha)
/-- e reads what is owned, as data; nothing is changed by it -/
theorem re_bor {e : Expr} {f : XE} (h : RE X C [] ow1 e f) (hw : ow1 = ow.filter fun i => ow1.contains i) : RE X C tc ow e (borE f) := by
  obtain ⟨t, a1, a2⟩ := h.ex
  refine ⟨t, a1, fun own Z ρ σ H d ρ' Q ho R hf hq => ?_⟩
  unfold borE at hf
  cases e1 : f ρ with
  | none => rw [e1] at hf; cases hf
  | some p =>
    obtain ⟨x, ρ1⟩ := p
    rw [e1] at hf
    simp only at hf
    split at hf
    · rename_i hl
      obtain ⟨hl, hr⟩ := hl
      subst hr
      simp only [Option.some.injEq, Prod.mk.injEq] at hf
      obtain ⟨rfl, rfl⟩ := hf
      refine a2 (keepO ow1 own) Z _ σ H _ _ _ (by rw [keepO_map, ho, ← hw]) (R.sub List.filter_sublist) e1 fun v H1 R1 g1 d1 => ?_
      have R2 := R.ext g1.ext
      exact hq v H1 R2 (Grt.of g1.ext) (d1.unb (keep_notup R2 ow1) hl)
    · cases hf
theorem rt_bor {e : Expr} {f : XT} (h : RT X C [] ow1 e f) (hw : ow1 = ow.filter fun i => ow1.contains i) : RT X C tc ow e (borT f) := by
  obtain ⟨t, a1, a2⟩ := h.ex
  refine ⟨t, a1, fun own Z ρ σ H d ρ' Q ho R hf hq => ?_⟩
  unfold borT at hf
  cases e1 : f ρ with
  | none => rw [e1] at hf; cases hf
  | some p =>
    obtain ⟨x, ρ1⟩ := p
    rw [e1] at hf
    simp only at hf
    split at hf
    · rename_i hr
      subst hr
      simp only [Option.some.injEq, Prod.mk.injEq] at hf
      obtain ⟨rfl, rfl⟩ := hf
      exact a2 (keepO ow1 own) Z _ σ H _ _ _ (by rw [keepO_map, ho, ← hw]) (R.sub List.filter_sublist) e1 fun H1 R1 g1 => hq H1 (R.ext g1.ext) (Grt.of g1.ext)
    · cases hf
theorem semF_bor {K : PySem.W.Frag} {t : TE} {f : XE} (a2 : SemF K [] ow1 t f) (hw : ow1 = ow.filter fun i => ow1.contains i) : SemF K tc ow t (borF f) := fun own Z ρ σ H d ρ' Q ho R hf hq => by
  unfold borF at hf
  split at hf
  · rename_i ds ρ1 e1
    split at hf
    · rename_i hl
      obtain ⟨hl, hr⟩ := hl
      subst hr
      simp only [Option.some.injEq, Prod.mk.injEq] at hf
      obtain ⟨rfl, rfl⟩ := hf
      refine a2 (keepO ow1 own) Z _ σ H _ _ _ (by rw [keepO_map, ho, ← hw]) (R.sub List.filter_sublist) e1 fun p o H1 R1 g1 hn hp ob => ?_
      have e := g1.ext
      have R2 := R.ext e
      refine hq p o H1 (R.hide hn (Gro.of e) (fun a ha => ?_) hp) (Grt.of e) hn hp ?_
      · obtain ⟨u, q⟩ := R.ain ha
        rw [q, e a u q]
      · cases ob with
        | lst z r =>
          refine .lst z (r.unb (fun a ha hnn xs q => ?_) hl)
          rcases List.mem_append.mp ha with ha | ha
          · exact keep_notup R2 ow1 a (List.mem_append_left _ ha) (fun z => hnn (by
              rcases List.mem_append.mp z with z | z
              · exact List.mem_append_left _ z
              · exact List.mem_append_right _ (List.mem_cons_of_mem _ z))) xs q
          · exact hnn (List.mem_append_right _ ha)
    · cases hf
  · cases hf
theorem rf_bor {e : Expr} {f : XE} (h : RF X C [] ow1 e f) (hw : ow1 = ow.filter fun i => ow1.contains i) : RF X C tc ow e (borF f) := by
  obtain ⟨t, a1, a2⟩ := h.ex
  exact ⟨t, a1, semF_bor a2 hw⟩

/-! ## changing what is owned -/
theorem Rep.upd {K : PySem.W.Frag} {own : Ow} {Z : List Addr} {ρ : En} {σ : L2.St} {H : Hp} {i : Nat} {a : Addr} {o' : HO} {b' : D} (R : Rep K own Z ρ σ H) (ho : (i, a) ∈ own) (ob : Ob K (hid (adr own ++ Z) H) b' o') : Rep K own Z (ρ.set i (some b')) σ (upd H a o') := by
  have aa : a ∈ adr own := List.mem_map.mpr ⟨_, ho, rfl⟩
  refine R.chg ho (fun c u h n => by rw [upd_ne n]; exact h) upd_same (fun z h => .inl h) (fun z h => ?_) (by rw [hid_updIn (List.mem_append_left _ aa)]; exact ob)
  obtain ⟨u, q⟩ := R.zin z h
  exact ⟨u, by rw [upd_ne fun e => R.dis a aa (by rw [← e]; exact h)]; exact q⟩
theorem Gro.upd {own : Ow} {H H' : Hp} {i : Nat} {a : Addr} {o : HO} (g : Gro own H H') (ho : (i, a) ∈ own) : Gro own H (L2.upd H' a o) := fun c u q n => by
  rw [upd_ne fun e => n (by rw [e]; exact List.mem_map.mpr ⟨_, ho, rfl⟩)]
  exact g c u q n
def getL (i : Nat) (ρ : En) : Option (List D) := match ρ[i]? with
  | some (some (.list ds)) => some ds
  | _ => none
theorem Rep.getL {K : PySem.W.Frag} {own : Ow} {Z : List Addr} {ρ : En} {σ : L2.St} {H : Hp} {i : Nat} {a : Addr} {ds : List D} (R : Rep K own Z ρ σ H) (ho : (i, a) ∈ own) (h : getL i ρ = some ds) : ∃ xs, H a = some (.lst xs) ∧ xs.length ≤ sizeLine ∧ Dats K (hid (adr own ++ Z) H) ds xs := by
  obtain ⟨_, d, o, h2, h3, h4⟩ := R.obj i a ho
  unfold Lay.getL at h
  rw [h2] at h
  cases h4 with
  | lst z r => simp only [Option.some.injEq] at h; subst h; exact ⟨_, h3, z, r⟩
  | dk r => cases h
  | dt r => cases h
/-- a method of one argument that changes the list: g of what it holds and the argument -/
def mutS (i : Nat) (g : List D → D → Option (List D)) (f : XE) : XS := fun ρ => match getL i ρ with
  | none => .bad
  | some _ => match f ρ with
    | some (d, ρ1) => (match getL i ρ1 with
      | some ds => (match g ds d with
        | some ds' => .nx (ρ1.set i (some (.list ds')))
        | none => .bad)
      | none => .bad)
    | none => .bad
def appG : List D → D → Option (List D) := fun ds d => if ds.length < sizeLine then some (ds ++ [d]) else none
def extG : List D → D → Option (List D) := fun ds d => match d with
  | .list es => if ds.length + es.length ≤ sizeLine then some (ds ++ es) else none
  | _ => none
def insG (k : D) : List D → D → Option (List D) := fun ds d => match k with
  | .int i => if ds.length < sizeLine ∧ 0 ≤ i ∧ i < 2 ^ 63 then some (ds.take i.toNat ++ [d] ++ ds.drop i.toNat) else none
  | _ => none
theorem mutS_after {K : PySem.W.Frag} {own : Ow} {Z : List Addr} {H : Hp} {E : Ends} {i : Nat} {g : List D → D → Option (List D)} {f : XE} {ρ : En} (h : After K mu fr owl ow own Z H E (mutS i g f ρ)) :
    ∃ d0 d ρ1 ds ds', getL i ρ = some d0 ∧ f ρ = some (d, ρ1) ∧ getL i ρ1 = some ds ∧ g ds d = some ds' ∧ After K mu fr owl ow own Z H E (.nx (ρ1.set i (some (.list ds')))) := by
  unfold mutS at h
  cases e0 : getL i ρ with
  | none => rw [e0] at h; exact absurd h fun q => q
  | some d0 =>
    rw [e0] at h
    simp only at h
    cases e1 : f ρ with
    | none => rw [e1] at h; exact absurd h fun q => q
    | some p =>
      obtain ⟨d, ρ1⟩ := p
      rw [e1] at h
      simp only at h
      cases e2 : getL i ρ1 with
      | none => rw [e2] at h; exact absurd h fun q => q
      | some ds =>
        rw [e2] at h
        simp only at h
        cases e3 : g ds d with
        | none => rw [e3] at h; exact absurd h fun q => q
        | some ds' => rw [e3] at h; exact ⟨d0, d, ρ1, ds, ds', rfl, rfl, e2, e3, h⟩
/-- x.m(e), x owned: r by values, g by data -/
theorem rs_mut1 {x : Str} {m : Str} {e : Expr} {f : XE} {p apos cpos pos : Pos} {r : V → List V → Hp → VK → Prop} {g : List D → D → Option (List D)} (F : Fam X C N k) (i : Nat) (he : RE X C tc ow e f) (hi : ow.contains i = true) (hN : N[i]? = some x) (hv : ∀ j, Vis (X j).env.scope x)
    (hr : ∀ (a : Addr) (xs : List V) (Zs : List Addr) (H : Hp) (ds : List D) (d : D) (v : V) (ds' : List D) (Q : VK), H a = some (.lst xs) → xs.length ≤ sizeLine → Dats C.K (hid Zs H) ds xs → Dat C.K (hid Zs H) d v → g ds d = some ds' →
      (∀ xs' : List V, xs'.length ≤ sizeLine → Dats C.K (hid Zs H) ds' xs' → Q .non (upd H a (.lst xs'))) → r (.ref a) [v] H Q)
    (hpe : ∀ (j : ι) {to te : TE}, PE (X j) (.Name x p) to → PE (X j) e te → PE (X j) (.Call (.Attribute (.Name x p) m apos) [e] [] cpos) (tBM (X j).K "list" r to (tCons te tNil)))
    (hs : ∀ j, swapsWith (.Call (.Attribute (.Name x p) m apos) [e] [] cpos) none pos.line (X j).env = pure false) (hd : (x == ("__debug__" : Str)) = false := by decide) (hcd : (x == ("__classdict__" : Str)) = false := by decide) :
    RS X C mu fr owl ow ow (.Expr (.Call (.Attribute (.Name x p) m apos) [e] [] cpos) pos) (mutS i g f) := by
  obtain ⟨t, a1, a2⟩ := he.ex
  refine ⟨_, fun j => ps_expr (by have := hpe j (pe_var (i := i) (by rw [F.nm j]; exact hN) (hv j) hd hcd) (a1 j); rw [F.K j] at this; exact this) (hs j), fun own Z ρ σ H E ho R h => ?_⟩
  obtain ⟨d0, d, ρ1, ds, ds', e0, e1, e2, e3, h⟩ := mutS_after h
  obtain ⟨a, hia, hs1, hob⟩ := R.slot ho hi
  obtain ⟨xs0, k1, _⟩ := R.getL hia e0
  refine ⟨.ref a, hs1, .inl ⟨rfl, _, SqL.of k1⟩, a2 own Z ρ σ H d ρ1 _ ho R e1 fun v H1 R1 g1 d1 => ?_⟩
  obtain ⟨xs, k2, k3, k4⟩ := R1.getL hia e2
  exact hr a xs _ H1 ds d v ds' _ k2 k3 k4 d1 e3 fun xs' hl hd' => h own σ _ ho (Step.of (g1.all.upd hia)) (R1.upd hia (.lst hl hd'))
theorem r_append {K : PySem.W.Frag} {a : Addr} {xs : List V} {Zs : List Addr} {H : Hp} {ds : List D} {d : D} {v : V} {ds' : List D} {Q : VK} (h1 : H a = some (.lst xs)) (h2 : xs.length ≤ sizeLine) (h3 : Dats K (hid Zs H) ds xs) (h4 : Dat K (hid Zs H) d v) (h5 : appG ds d = some ds')
    (hq : ∀ xs' : List V, xs'.length ≤ sizeLine → Dats K (hid Zs H) ds' xs' → Q .non (upd H a (.lst xs'))) : rAppend (.ref a) [v] H Q := by
  unfold appG at h5
  split at h5
  · rename_i hl
    simp only [Option.some.injEq] at h5
    subst h5
    rw [h3.len] at hl
    exact ⟨a, xs, v, rfl, rfl, h1, hl, hq _ (by rw [List.length_append, List.length_singleton]; omega) (h3.app (.cons h4 .nil))⟩
  · cases h5
/-- x.insert(k, e) -/
def insS (i : Nat) (fk f : XE) : XS := fun ρ => match getL i ρ with
  | none => .bad
  | some _ => match fk ρ with
    | none => .bad
    | some (kk, ρ0) => match f ρ0 with
      | none => .bad
      | some (d, ρ1) => match getL i ρ1 with
        | none => .bad
        | some ds => match insG kk ds d with
          | none => .bad
          | some ds' => .nx (ρ1.set i (some (.list ds')))
theorem rs_insert {x : Str} {e ek : Expr} {f fk : XE} {p apos cpos pos : Pos} (F : Fam X C N k) (i : Nat) (hk : RE X C tc ow ek fk) (he : RE X C tc ow e f) (hi : ow.contains i = true) (hN : N[i]? = some x) (hv : ∀ j, Vis (X j).env.scope x)
    (hpe : ∀ (j : ι) {to tk te : TE}, PE (X j) (.Name x p) to → PE (X j) ek tk → PE (X j) e te → PE (X j) (.Call (.Attribute (.Name x p) "insert" apos) [ek, e] [] cpos) (tBM (X j).K "list" (fun x vs H Q => ∃ (l : Addr) (xs : List V) (i : Int) (y : V), x = .ref l ∧ vs = [.int i, y] ∧ H l = some (.lst xs) ∧ xs.length < sizeLine ∧ 0 ≤ i ∧ i < 2 ^ 63 ∧
      Q .non (upd H l (.lst (xs.take i.toNat ++ [y] ++ xs.drop i.toNat)))) to (tCons tk (tCons te tNil))))
    (hs : ∀ j, swapsWith (.Call (.Attribute (.Name x p) "insert" apos) [ek, e] [] cpos) none pos.line (X j).env = pure false) (hd : (x == ("__debug__" : Str)) = false := by decide) (hcd : (x == ("__classdict__" : Str)) = false := by decide) :
    RS X C mu fr owl ow ow (.Expr (.Call (.Attribute (.Name x p) "insert" apos) [ek, e] [] cpos) pos) (insS i fk f) := by
  obtain ⟨t, a1, a2⟩ := he.ex
  obtain ⟨tk, b1, b2⟩ := hk.ex
  refine ⟨_, fun j => ps_expr (by have := hpe j (pe_var (i := i) (by rw [F.nm j]; exact hN) (hv j) hd hcd) (b1 j) (a1 j); rw [F.K j] at this; exact this) (hs j), fun own Z ρ σ H E ho R h => ?_⟩
  unfold insS at h
  split at h
  · exact absurd h fun q => q
  · rename_i d0 e0
    split at h
    · exact absurd h fun q => q
    · rename_i kk ρ0 ek0
      split at h
      · exact absurd h fun q => q
      · rename_i d ρ1 e1
        split at h
        · exact absurd h fun q => q
        · rename_i ds e2
          split at h
          · exact absurd h fun q => q
          · rename_i ds' e3
            obtain ⟨a, hia, hs1, hob⟩ := R.slot ho hi
            obtain ⟨xs0, k1, _⟩ := R.getL hia e0
            refine ⟨.ref a, hs1, .inl ⟨rfl, _, SqL.of k1⟩, b2 own Z ρ σ H kk ρ0 _ ho R ek0 fun vk H0 R0 g0 dk => ?_⟩
            refine a2 own Z ρ0 σ H0 d ρ1 _ ho R0 e1 fun v H1 R1 g1 d1 => ?_
            obtain ⟨xs, k2, k3, k4⟩ := R1.getL hia e2
            unfold insG at e3
            split at e3
            · rename_i n
              split at e3
              · rename_i hl
                simp only [Option.some.injEq] at e3
                subst e3
                cases dk
                have hl1 := hl.1
                rw [k4.len] at hl1
                exact ⟨a, xs, n, v, rfl, rfl, k2, hl1, hl.2.1, hl.2.2, h own σ _ ho (Step.of ((g0.trans g1).all.upd hia)) (R1.upd hia (.lst (by
                  rw [List.length_append, List.length_append, List.length_take, List.length_drop, List.length_singleton]; omega) (((k4.take n.toNat).app (.cons d1 .nil)).app (k4.drop n.toNat))))⟩
              · cases e3
            · cases e3
/-- x[k] = e -/
def setiS (i : Nat) (fk f : XE) : XS := fun ρ => match f ρ with
  | none => .bad
  | some (d, ρ1) => match fk ρ1 with
    | some (.int n, ρ2) => (match getL i ρ2 with
      | none => .bad
      | some ds => match ixN ds.length n with
        | none => .bad
        | some j => .nx (ρ2.set i (some (.list (ds.set j d)))))
    | _ => .bad
theorem rs_seti {x : Str} {e ek : Expr} {f fk : XE} {p spos pos : Pos} (F : Fam X C N k) (i : Nat) (hk : RE X C tc ow ek fk) (he : RE X C tc ow e f) (hi : ow.contains i = true) (hN : N[i]? = some x) (hv : ∀ j, Vis (X j).env.scope x)
    (hps : ∀ (j : ι) {to tk te : TE}, PE (X j) (.Name x p) to → PE (X j) ek tk → PE (X j) e te → PS (X j) (.Assign [.Subscript (.Name x p) ek spos] e pos) (tAsg te (gSub to tk rSetL)))
    (hd : (x == ("__debug__" : Str)) = false := by decide) (hcd : (x == ("__classdict__" : Str)) = false := by decide) :
    RS X C mu fr owl ow ow (.Assign [.Subscript (.Name x p) ek spos] e pos) (setiS i fk f) := by
  obtain ⟨t, a1, a2⟩ := he.ex
  obtain ⟨tk, b1, b2⟩ := hk.ex
  refine ⟨_, fun j => hps j (pe_var (i := i) (by rw [F.nm j]; exact hN) (hv j) hd hcd) (b1 j) (a1 j), fun own Z ρ σ H E ho R h => ?_⟩
  unfold setiS at h
  split at h
  · exact absurd h fun q => q
  · rename_i d ρ1 e1
    split at h
    · rename_i n ρ2 e2
      split at h
      · exact absurd h fun q => q
      · rename_i ds e3
        split at h
        · exact absurd h fun q => q
        · rename_i j e4
          obtain ⟨a, hia, hs1, hob⟩ := R.slot ho hi
          refine a2 own Z ρ σ H d ρ1 _ ho R e1 fun v H1 R1 g1 d1 => ⟨.ref a, hs1, ?_⟩
          refine b2 own Z ρ1 σ H1 _ ρ2 _ ho R1 e2 fun vk H2 R2 g2 dk => ?_
          obtain ⟨xs, k2, k3, k4⟩ := R2.getL hia e3
          cases dk
          rw [k4.len] at e4
          exact ⟨a, xs, n, j, rfl, rfl, k2, e4, h own σ _ ho (Step.of ((g1.trans g2).all.upd hia)) (R2.upd hia (.lst (by rw [List.length_set]; exact k3) (k4.set (d1.ext g2.hid) j)))⟩
    · exact absurd h fun q => q
end
end Lay

namespace Lay
open PySem PySem.Spec PyProof.Rows L2

/-! ## what for and comprehensions walk -/
def itD : D → Option (List D)
  | .list ds => some ds
  | .tuple ds => some ds
  | .str z => if z.cps.size ≤ sizeLine then some (z.cps.toList.map fun c => .str ⟨#[c]⟩) else none
  | _ => none
def itE (f : XE) : XI := fun ρ => (f ρ).bind fun p => (itD p.1).map fun ds => (ds, p.2)
def iSeqA (K : PySem.W.Frag) (tl : TE) : TI := fun σ H R => tl σ H fun x H1 => (∃ a, x = .ref a ∧ (∃ xs, SqL K H1 a xs) ∧ R (Itl K a) H1) ∨ (∃ a, x = .ref a ∧ (∃ xs, SqT K H1 a xs) ∧ R (Itt K a) H1) ∨ (∃ z, x = .str z ∧ R (Its z) H1)
theorem pi_seqA {X : Cx} {tg l : Expr} {tl : TE} (hl : PE X l tl) : PI X tg l (iSeqA X.K tl) := by
  refine ⟨fun pins s σ H R I h => thn (hl.run pins s σ H _ I h) fun v s1 hx => ?_⟩
  obtain ⟨x, H1, I1, r1, q1⟩ := hx
  have fp : ∀ (o : Obj), ∀ b ∈ [s1.heap.objs.size], FpOk X pins H1 b := fun o b hb => by
    rw [List.mem_singleton.mp hb]
    exact I1.fpOk (Nat.le_refl _) (I1.hok.fresh (Nat.le_refl _))
  rcases q1 with ⟨a, rfl, ⟨xs, hq⟩, q⟩ | ⟨a, rfl, ⟨xs, hq⟩, q⟩ | ⟨z, rfl, q⟩
  · cases r1
    obtain ⟨its, rv, p, hz⟩ := I1.list hq
    exact wpAny_pyIter_list p.isList ⟨s1.heap.objs.size, [s1.heap.objs.size], _, _, H1, rfl, I1.kept (t' := s1.toks) (fun b o e => Heap.get?_push_of_some _ e), turn_list a _, ⟨_, Heap.get?_push_size _ rfl, rfl, rfl⟩, fp default, q⟩
  · cases r1
    obtain ⟨its, rv, p, hz⟩ := I1.tuple hq
    exact wpAny_pyIter_tuple (show s1.heap.IsTuple a its.toArray from p) ⟨s1.heap.objs.size, [s1.heap.objs.size], _, _, H1, rfl, I1.kept (t' := s1.toks) (fun b o e => Heap.get?_push_of_some _ e), turn_tuple a _, ⟨_, Heap.get?_push_size _ rfl, rfl, rfl⟩, fp default, q⟩
  · obtain ⟨t, rfl⟩ := r1
    cases ha : z.cps.all (· < 128)
    · exact wpAny_pyIter_wide ha (pi_one (tk := s1.toks) I1 _ (turn_str _ z t "str_iterator" (.inr rfl)) ⟨_, Heap.get?_push_size _ rfl, rfl, rfl⟩ q)
    · exact wpAny_pyIter_ascii ha (pi_one (tk := s1.toks) I1 _ (turn_str _ z t "str_ascii_iterator" (.inl rfl)) ⟨_, Heap.get?_push_size _ rfl, rfl, rfl⟩ q)
section
variable {K : PySem.W.Frag} {Zs : List Addr} {H0 : Hp}
theorem wk_list {a : Addr} {xs : List V} {ds : List D} (h : SqL K (hid Zs H0) a xs) (r : Dats K (hid Zs H0) ds xs) : Wk K Zs H0 (Itl K a) ds := fun Zs' H e zo => by
  have hq : SqL K H a xs := SqL.ext (hidX Zs' H) (SqL.ext e h)
  have r' := r.ext e
  refine ⟨fun i hi => ?_, fun i x H' hi hy => ?_, ⟨xs, hq, by rw [r.len]; exact Nat.le_refl _⟩⟩
  · obtain ⟨v, h1, _⟩ := r'.get (List.getElem?_eq_getElem hi)
    exact ⟨xs, v, hq, h1⟩
  · obtain ⟨rfl, hx⟩ := hy
    obtain ⟨d, h1, h2⟩ := r'.getV (hx xs hq)
    exact ⟨Ext.refl _, d, h1, h2⟩
theorem wk_tup {a : Addr} {xs : List V} {ds : List D} (h : TupAt K (hid Zs H0) a xs) (r : Dats K (hid Zs H0) ds xs) : Wk K Zs H0 (Itt K a) ds := fun Zs' H e zo => by
  have hq : SqT K H a xs := ((h.mono e).mono (hidX Zs' H)).sq
  have r' := r.ext e
  refine ⟨fun i hi => ?_, fun i x H' hi hy => ?_, ⟨xs, hq, by rw [r.len]; exact Nat.le_refl _⟩⟩
  · obtain ⟨v, h1, _⟩ := r'.get (List.getElem?_eq_getElem hi)
    exact ⟨xs, v, hq, h1⟩
  · obtain ⟨rfl, hx⟩ := hy
    obtain ⟨d, h1, h2⟩ := r'.getV (hx xs hq)
    exact ⟨Ext.refl _, d, h1, h2⟩
theorem wk_str {z : Str} : Wk K Zs H0 (Its z) (z.cps.toList.map fun c => .str ⟨#[c]⟩) := fun Zs' H e zo => by
  refine ⟨fun i hi => ?_, fun i x H' hi hy => ?_, ?_⟩
  · show i < z.cps.size
    simpa using hi
  · obtain ⟨rfl, c, hc, rfl⟩ := hy
    exact ⟨Ext.refl _, .str ⟨#[c]⟩, by rw [List.getElem?_map]; simp [hc], .str _⟩
  · show z.cps.size ≤ _
    simp
theorem wk_rng {lo : Int} {n : Nat} : Wk K Zs H0 (Itr lo n) ((List.range n).map fun i => .int (lo + (i : Nat))) := fun Zs' H e zo => by
  refine ⟨fun i hi => ?_, fun i x H' hi hy => ?_, ?_⟩
  · show i < n
    simpa using hi
  · obtain ⟨rfl, rfl⟩ := hy
    have hi : i < n := by simpa using hi
    exact ⟨Ext.refl _, .int (lo + i), by rw [List.getElem?_map, List.getElem?_range hi]; rfl, .int _⟩
  · show n ≤ _
    simp
theorem dat2 {Zs' : List Addr} {H : Hp} {T : Addr} {x y : V} {dx dy : D} (zo : Zok Zs' H) (hn : H T = none) (hx : Dat K (hid Zs' H) dx x) (hy : Dat K (hid Zs' H) dy y) : Dat K (hid Zs' (upd H T (.tup [x, y]))) (.tuple [dx, dy]) (.ref T) :=
  .tup (.inl (hid_upd (zok_nin zo hn))) (by show 2 ≤ sizeLine; decide) (.cons (hx.ext (Ext.new hn).hid') (.cons (hy.ext (Ext.new hn).hid') .nil))
theorem wk_enum {a : Addr} {xs : List V} {ds : List D} (h : SqL K (hid Zs H0) a xs) (r : Dats K (hid Zs H0) ds xs) : Wk K Zs H0 (Ite K a) (ds.zipIdx.map fun p => .tuple [.int (p.2 : Nat), p.1]) := fun Zs' H e zo => by
  have hq : SqL K H a xs := SqL.ext (hidX Zs' H) (SqL.ext e h)
  have r' := r.ext e
  refine ⟨fun i hi => ?_, fun i x H' hi hy => ?_, ⟨xs, hq, by simp [r.len]⟩⟩
  · have hi : i < ds.length := by simpa using hi
    obtain ⟨v, h1, _⟩ := r'.get (List.getElem?_eq_getElem hi)
    exact ⟨xs, v, hq, h1⟩
  · obtain ⟨T, v, rfl, hn, rfl, hx⟩ := hy
    obtain ⟨d, h1, h2⟩ := r'.getV (hx xs hq)
    exact ⟨Ext.new hn, .tuple [.int i, d], by simp [List.getElem?_map, List.getElem?_zipIdx, h1], dat2 zo hn (.int _) h2⟩
def zipD (ds es : List D) : List D := (ds.zip es).map fun p => .tuple [p.1, p.2]
theorem zipD_len (ds es : List D) : (zipD ds es).length = min ds.length es.length := by unfold zipD; rw [List.length_map, List.length_zip]
theorem zipD_get {ds es : List D} {i : Nat} {d e : D} (h1 : ds[i]? = some d) (h2 : es[i]? = some e) : (zipD ds es)[i]? = some (.tuple [d, e]) := by
  unfold zipD
  rw [List.getElem?_map, (List.getElem?_zip_eq_some (z := (d, e))).mpr ⟨h1, h2⟩]
  rfl
theorem wk_zip {a b : Addr} {xs ys : List V} {ds es : List D} (h : SqL K (hid Zs H0) a xs) (r : Dats K (hid Zs H0) ds xs) (h' : SqL K (hid Zs H0) b ys) (r' : Dats K (hid Zs H0) es ys) : Wk K Zs H0 (Itz K a b) (zipD ds es) := fun Zs' H e zo => by
  have hq : SqL K H a xs := SqL.ext (hidX Zs' H) (SqL.ext e h)
  have hq' : SqL K H b ys := SqL.ext (hidX Zs' H) (SqL.ext e h')
  have r1 := r.ext e
  have r2 := r'.ext e
  refine ⟨fun i hi => ?_, fun i x H' hi hy => ?_, ⟨xs, ys, hq, hq', ?_⟩⟩
  · rw [zipD_len] at hi
    obtain ⟨v, h1, _⟩ := r1.get (List.getElem?_eq_getElem (show i < ds.length by omega))
    obtain ⟨u, h2, _⟩ := r2.get (List.getElem?_eq_getElem (show i < es.length by omega))
    exact ⟨xs, ys, v, u, hq, hq', h1, h2⟩
  · obtain ⟨T, v, u, rfl, hn, rfl, hx, hy⟩ := hy
    obtain ⟨d, h1, h2⟩ := r1.getV (hx xs hq)
    obtain ⟨d', h3, h4⟩ := r2.getV (hy ys hq')
    exact ⟨Ext.new hn, _, zipD_get h1 h3, dat2 zo hn h2 h4⟩
  · rw [zipD_len, ← r.len, ← r'.len]; omega
theorem wk_zipT {a b : Addr} {xs ys : List V} {ds es : List D} (h : TupAt K (hid Zs H0) a xs) (r : Dats K (hid Zs H0) ds xs) (h' : TupAt K (hid Zs H0) b ys) (r' : Dats K (hid Zs H0) es ys) : Wk K Zs H0 (RZ.ItzT K a b) (zipD ds es) := fun Zs' H e zo => by
  have hq : SqT K H a xs := ((h.mono e).mono (hidX Zs' H)).sq
  have hq' : SqT K H b ys := ((h'.mono e).mono (hidX Zs' H)).sq
  have r1 := r.ext e
  have r2 := r'.ext e
  refine ⟨fun i hi => ?_, fun i x H' hi hy => ?_, ⟨xs, ys, hq, hq', ?_⟩⟩
  · rw [zipD_len] at hi
    obtain ⟨v, h1, _⟩ := r1.get (List.getElem?_eq_getElem (show i < ds.length by omega))
    obtain ⟨u, h2, _⟩ := r2.get (List.getElem?_eq_getElem (show i < es.length by omega))
    exact ⟨xs, ys, v, u, hq, hq', h1, h2⟩
  · obtain ⟨T, v, u, rfl, hn, rfl, hx, hy⟩ := hy
    obtain ⟨d, h1, h2⟩ := r1.getV (hx xs hq)
    obtain ⟨d', h3, h4⟩ := r2.getV (hy ys hq')
    exact ⟨Ext.new hn, _, zipD_get h1 h3, dat2 zo hn h2 h4⟩
  · rw [zipD_len, ← r.len, ← r'.len]; omega
end
def rngE (fa : XA) : XI := fun ρ => (fa ρ).bind fun p => match p.1 with
  | [.int j] => if j ≤ sizeLine ∧ -(2 ^ 62) ≤ j then some ((List.range j.toNat).map fun i => .int (0 + (i : Nat)), p.2) else none
  | [.int i, .int j] => if (-(2 ^ 62) ≤ i ∧ i < 2 ^ 62 ∧ -(2 ^ 62) ≤ j ∧ j < 2 ^ 62) ∧ j - i ≤ sizeLine then some ((List.range (j - i).toNat).map fun m => .int (i + (m : Nat)), p.2) else none
  | _ => none
def enumE (fa : XA) : XI := fun ρ => (fa ρ).bind fun p => match p.1 with
  | [.list ds] => some (ds.zipIdx.map fun p => .tuple [.int (p.2 : Nat), p.1], p.2)
  | _ => none
def zipE (fa : XA) : XI := fun ρ => (fa ρ).bind fun p => match p.1 with
  | [.list ds, .list es] => some (zipD ds es, p.2)
  | [.tuple ds, .tuple es] => some (zipD ds es, p.2)
  | _ => none
section
variable {ι : Type} {X : ι → Cx} {C : Ct} {mu : List Nat} {fr : Bool} {tc owl ow ow1 ow2 : List Nat} {N : List Str} {k : Nat}
theorem ri_val {tg e : Expr} {f : XE} (F : Fam X C N k) (h : RE X C tc ow e f) : RI X C tc ow tg e (itE f) := by
  obtain ⟨t, a1, a2⟩ := h.ex
  refine ⟨iSeqA C.K t, fun i => by rw [← F.K i]; exact pi_seqA (a1 i), fun own Z ρ σ H ds ρ' R' ho R hf hq => ?_⟩
  unfold itE at hf
  cases e1 : f ρ with
  | none => rw [e1] at hf; cases hf
  | some p =>
    obtain ⟨d, ρ1⟩ := p
    rw [e1] at hf
    simp only [Option.bind_some] at hf
    refine a2 own Z ρ σ H d ρ1 _ ho R e1 fun v H1 R1 g1 d1 => ?_
    cases d1 with
    | lst h z r =>
      simp only [itD, Option.map_some, Option.some.injEq, Prod.mk.injEq] at hf
      obtain ⟨rfl, rfl⟩ := hf
      exact .inl ⟨_, rfl, ⟨_, SqL.ext (hidX _ H1) h⟩, hq _ H1 R1 g1 (by rw [r.len]; exact z) (wk_list h r)⟩
    | tup h z r =>
      simp only [itD, Option.map_some, Option.some.injEq, Prod.mk.injEq] at hf
      obtain ⟨rfl, rfl⟩ := hf
      exact .inr (.inl ⟨_, rfl, ⟨_, (h.mono (hidX _ H1)).sq⟩, hq _ H1 R1 g1 (by rw [r.len]; exact z) (wk_tup h r)⟩)
    | str x =>
      simp only [itD] at hf
      split at hf
      · rename_i hz
        simp only [Option.map_some, Option.some.injEq, Prod.mk.injEq] at hf
        obtain ⟨rfl, rfl⟩ := hf
        exact .inr (.inr ⟨_, rfl, hq _ H1 R1 g1 (by simpa using hz) wk_str⟩)
      · cases hf
    | _ => simp only [itD] at hf; cases hf
theorem ri_rng1 {tg a : Expr} {fa : XA} {p pos : Pos} (F : Fam X C N k) (hm : C.mg "range" = none) (hg : ∀ i, Gl (X i) "range") (ha : RA X C tc ow [a] fa) (hs : ∀ i, starEach [a] (X i).env = [(false, eval a (X i).env)]) :
    RI X C tc ow tg (.Call (.Name "range" p) [a] [] pos) (rngE fa) := by
  obtain ⟨t, a1, a2⟩ := ha.ex
  refine ⟨_, fun i => pi_range1 (hg i) (by rw [F.mg i]; exact hm) (a1 i) (hs i), fun own Z ρ σ H ds ρ' R' ho R hf hq => ?_⟩
  unfold rngE at hf
  cases e1 : fa ρ with
  | none => rw [e1] at hf; cases hf
  | some q =>
    obtain ⟨as, ρ1⟩ := q
    rw [e1] at hf
    simp only [Option.bind_some] at hf
    have hl := ha.len _ _ _ e1
    refine a2 own Z ρ σ H as ρ1 _ ho R e1 fun vs H1 R1 g1 d1 => ?_
    split at hf
    · rename_i j
      split at hf
      · rename_i hb
        simp only [Option.some.injEq, Prod.mk.injEq] at hf
        obtain ⟨rfl, rfl⟩ := hf
        cases d1 with
        | cons h r =>
          cases h
          cases r
          have hsl := sizeLine_eq
          refine ⟨j, rfl, hb.2, by omega, hq _ H1 R1 g1 (by simp; omega) wk_rng⟩
      · cases hf
    · cases hl
    · cases hf
theorem ri_rng2 {tg a b : Expr} {fa : XA} {p pos : Pos} (F : Fam X C N k) (hm : C.mg "range" = none) (hg : ∀ i, Gl (X i) "range") (ha : RA X C tc ow [a, b] fa) (hs : ∀ i, starEach [a, b] (X i).env = [(false, eval a (X i).env), (false, eval b (X i).env)]) (hs2 : ∀ i, starEach [b] (X i).env = [(false, eval b (X i).env)]) :
    RI X C tc ow tg (.Call (.Name "range" p) [a, b] [] pos) (rngE fa) := by
  obtain ⟨t, a1, a2⟩ := ha.ex
  refine ⟨_, fun i => pi_range2 (hg i) (by rw [F.mg i]; exact hm) (a1 i) (hs i) (hs2 i), fun own Z ρ σ H ds ρ' R' ho R hf hq => ?_⟩
  unfold rngE at hf
  cases e1 : fa ρ with
  | none => rw [e1] at hf; cases hf
  | some q =>
    obtain ⟨as, ρ1⟩ := q
    rw [e1] at hf
    simp only [Option.bind_some] at hf
    have hl := ha.len _ _ _ e1
    refine a2 own Z ρ σ H as ρ1 _ ho R e1 fun vs H1 R1 g1 d1 => ?_
    split at hf
    · cases hl
    · rename_i i j
      split at hf
      · rename_i hb
        simp only [Option.some.injEq, Prod.mk.injEq] at hf
        obtain ⟨rfl, rfl⟩ := hf
        cases d1 with
        | cons h r =>
          cases h
          cases r with
          | cons h r =>
            cases h
            cases r
            exact ⟨i, j, rfl, hb.1, hq _ H1 R1 g1 (by simp; omega) wk_rng⟩
      · cases hf
    · cases hf
theorem ri_enum {a : Expr} {fa : XA} {p pos tpos : Pos} {elts : List Expr} {kk : Nat} (F : Fam X C N k) (hm : C.mg "enumerate" = none) (hg : ∀ i, Gl (X i) "enumerate") (ha : RA X C tc ow [a] fa) (hs : ∀ i, starEach [a] (X i).env = [(false, eval a (X i).env)]) :
    RI X C tc ow (.Tuple elts kk tpos) (.Call (.Name "enumerate" p) [a] [] pos) (enumE fa) := by
  obtain ⟨t, a1, a2⟩ := ha.ex
  refine ⟨iEnum C.K t, fun i => by rw [← F.K i]; exact pi_enum (hg i) (by rw [F.mg i]; exact hm) (a1 i) (hs i), fun own Z ρ σ H ds ρ' R' ho R hf hq => ?_⟩
  unfold enumE at hf
  cases e1 : fa ρ with
  | none => rw [e1] at hf; cases hf
  | some q =>
    obtain ⟨as, ρ1⟩ := q
    rw [e1] at hf
    simp only [Option.bind_some] at hf
    refine a2 own Z ρ σ H as ρ1 _ ho R e1 fun vs H1 R1 g1 d1 => ?_
    split at hf
    · simp only [Option.some.injEq, Prod.mk.injEq] at hf
      obtain ⟨rfl, rfl⟩ := hf
      cases d1 with
      | cons h r =>
        cases r
        cases h with
        | lst h z r => exact ⟨_, _, rfl, SqL.ext (hidX _ H1) h, hq _ H1 R1 g1 (by simp [r.len]; exact z) (wk_enum h r)⟩
    · cases hf
theorem ri_zip {a b : Expr} {fa : XA} {p pos tpos : Pos} {elts : List Expr} {kk : Nat} (F : Fam X C N k) (hm : C.mg "zip" = none) (hg : ∀ i, Gl (X i) "zip") (ha : RA X C tc ow [a, b] fa) (hs : ∀ i, starEach [a, b] (X i).env = (false, eval a (X i).env) :: starEach [b] (X i).env) (hpl : ∀ i, (backTo pos (starEach [b] (X i).env)).any (·.1) = false) :
    RI X C tc ow (.Tuple elts kk tpos) (.Call (.Name "zip" p) [a, b] [] pos) (zipE fa) := by
  obtain ⟨t, a1, a2⟩ := ha.ex
  refine ⟨RZ.iZipA C.K t, fun i => by rw [← F.K i]; exact RZ.pi_zipA (hg i) (by rw [F.mg i]; exact hm) (a1 i) (hs i) (hpl i), fun own Z ρ σ H ds ρ' R' ho R hf hq => ?_⟩
  unfold zipE at hf
  cases e1 : fa ρ with
  | none => rw [e1] at hf; cases hf
  | some q =>
    obtain ⟨as, ρ1⟩ := q
    rw [e1] at hf
    simp only [Option.bind_some] at hf
    refine a2 own Z ρ σ H as ρ1 _ ho R e1 fun vs H1 R1 g1 d1 => ?_
    split at hf
    · simp only [Option.some.injEq, Prod.mk.injEq] at hf
      obtain ⟨rfl, rfl⟩ := hf
      cases d1 with
      | cons h r =>
        cases r with
        | cons h' r =>
          cases r
          cases h with
          | lst h z r =>
            cases h' with
            | lst h' z' r' =>
              exact ⟨_, _, _, _, rfl, .inl ⟨SqL.ext (hidX _ H1) h, SqL.ext (hidX _ H1) h', hq _ H1 R1 g1 (by rw [zipD_len, r.len]; omega) (wk_zip h r h' r')⟩⟩
    · simp only [Option.some.injEq, Prod.mk.injEq] at hf
      obtain ⟨rfl, rfl⟩ := hf
      cases d1 with
      | cons h r =>
        cases r with
        | cons h' r =>
          cases r
          cases h with
          | tup h z r =>
            cases h' with
            | tup h' z' r' =>
              exact ⟨_, _, _, _, rfl, .inr ⟨(h.mono (hidX _ H1)).sq, (h'.mono (hidX _ H1)).sq, hq _ H1 R1 g1 (by rw [zipD_len, r.len]; omega) (wk_zipT h r h' r')⟩⟩
    · cases hf
end
end Lay

namespace Lay
open PySem PySem.Spec PyProof.Rows L2

/-! ## built-ins by data -/
section
variable {K : PySem.W.Frag}
theorem ClS.or {r r' : List V → Hp → VK → Prop} {g g' g2 : List D → Option D} (h : ClS K r g) (h' : ClS K r' g') (hg : ∀ ds z, g2 ds = some z → g ds = some z ∨ g' ds = some z) : ClS K (fun xs H Q => r xs H Q ∨ r' xs H Q) g2 := fun Z H xs ds z Q zo hd hz hq => by
  rcases hg ds z hz with e | e
  · exact .inl (h Z H xs ds z Q zo hd e hq)
  · exact .inr (h' Z H xs ds z Q zo hd e hq)
/-- one argument -/
def g1 (g : D → Option D) : List D → Option D
  | [d] => g d
  | _ => none
theorem cs1 {r : List V → Hp → VK → Prop} {g : D → Option D} (h : ∀ (Z : List Addr) (H : Hp) (x : V) (d z : D) (Q : VK), Zok Z H → Dat K (hid Z H) d x → g d = some z → (∀ v H', Ext H H' → Dat K (hid Z H') z v → Q v H') → r [x] H Q) : ClS K r (g1 g) := fun Z H xs ds z Q zo hd hz hq => by
  unfold g1 at hz
  split at hz
  · cases hd with
    | cons a b => cases b; exact h Z H _ _ z Q zo a hz hq
  · cases hz
def rLenA (K : PySem.W.Frag) : List V → Hp → VK → Prop := fun xs H Q => (∃ p ys, xs = [.ref p] ∧ (SqL K H p ys ∨ SqT K H p ys) ∧ Q (.int ys.length) H) ∨ (∃ z, xs = [.str z] ∧ z.length ≤ sizeLine ∧ Q (.int z.length) H)
theorem call_lenA {X : Cx} : CallR X (.builtin "len") (rLenA X.K) := call_len_seq.or call_len_str
def lenD : D → Option D
  | .list ds => some (.int ds.length)
  | .tuple ds => some (.int ds.length)
  | .str z => if z.length ≤ sizeLine then some (.int z.length) else none
  | _ => none
theorem cs_len : ClS K (rLenA K) (g1 lenD) := cs1 fun Z H x d z Q zo hd hz hq => by
  unfold lenD at hz
  split at hz
  · cases hd with
    | lst h z r =>
      simp only [Option.some.injEq] at hz
      subst hz
      rw [r.len] at hq
      exact .inl ⟨_, _, rfl, .inl (SqL.ext (hidX Z H) h), hq _ H (Ext.refl H) (.int _)⟩
  · cases hd with
    | tup h z r =>
      simp only [Option.some.injEq] at hz
      subst hz
      rw [r.len] at hq
      exact .inl ⟨_, _, rfl, .inr (h.mono (hidX Z H)).sq, hq _ H (Ext.refl H) (.int _)⟩
  · split at hz
    · cases hd
      simp only [Option.some.injEq] at hz
      subst hz
      exact .inr ⟨_, rfl, ‹_›, hq _ H (Ext.refl H) (.int _)⟩
    · cases hz
  · cases hz
def absD : D → Option D
  | .int i => some (.int (if i < 0 then -i else i))
  | _ => none
theorem cs_abs : ClS K (fun xs H Q => ∃ i, xs = [.int i] ∧ Q (.int (if i < 0 then -i else i)) H) (g1 absD) := cs1 fun Z H x d z Q zo hd hz hq => by
  unfold absD at hz
  split at hz
  · cases hd
    simp only [Option.some.injEq] at hz
    subst hz
    exact ⟨_, rfl, hq _ H (Ext.refl H) (.int _)⟩
  · cases hz
def rIntA : List V → Hp → VK → Prop := fun xs H Q => ((∃ i, xs = [.int i] ∧ Q (.int i) H) ∨ ∃ k, xs = [.bl k] ∧ Q (.int (if k then 1 else 0)) H) ∨ (∃ a n, xs = [.str a] ∧ PySem.intText? a = some n ∧ a.length ≤ 640 ∧ Q (.int n) H)
theorem call_intA {X : Cx} : CallR X (.type "int") rIntA := call_int1.or call_int_str
def intD : D → Option D
  | .int i => some (.int i)
  | .bool b => some (.int (if b then 1 else 0))
  | .str a => if a.length ≤ 640 then (PySem.intText? a).map .int else none
  | _ => none
theorem cs_int : ClS K rIntA (g1 intD) := cs1 fun Z H x d z Q zo hd hz hq => by
  unfold intD at hz
  split at hz
  · cases hd
    simp only [Option.some.injEq] at hz
    subst hz
    exact .inl (.inl ⟨_, rfl, hq _ H (Ext.refl H) (.int _)⟩)
  · cases hd
    simp only [Option.some.injEq] at hz
    subst hz
    exact .inl (.inr ⟨_, rfl, hq _ H (Ext.refl H) (.int _)⟩)
  · cases hd
    split at hz
    · rename_i a hl
      cases e : PySem.intText? a with
      | none => rw [e] at hz; cases hz
      | some n =>
        rw [e] at hz
        simp only [Option.map_some, Option.some.injEq] at hz
        subst hz
        exact .inr ⟨_, n, rfl, e, hl, hq _ H (Ext.refl H) (.int _)⟩
    · cases hz
  · cases hz
def rStrA : List V → Hp → VK → Prop := fun xs H Q => (∃ i, xs = [.int i] ∧ i.natAbs.log2 < 1920 ∧ Q (.str (toString i)) H) ∨ (∃ a, xs = [.str a] ∧ Q (.str a) H)
theorem call_strA {X : Cx} : CallR X (.type "str") rStrA := call_str_int.or SkE.call_str_str
def strD : D → Option D
  | .int i => if i.natAbs.log2 < 1920 then some (.str (toString i)) else none
  | .str a => some (.str a)
  | _ => none
theorem cs_str : ClS K rStrA (g1 strD) := cs1 fun Z H x d z Q zo hd hz hq => by
  unfold strD at hz
  split at hz
  · split at hz
    · cases hd
      simp only [Option.some.injEq] at hz
      subst hz
      exact .inl ⟨_, rfl, ‹_›, hq _ H (Ext.refl H) (.str _)⟩
    · cases hz
  · cases hd
    simp only [Option.some.injEq] at hz
    subst hz
    exact .inr ⟨_, rfl, hq _ H (Ext.refl H) (.str _)⟩
  · cases hz
def rTupleA (K : PySem.W.Frag) : List V → Hp → VK → Prop := fun xs H Q => ∃ p ys, xs = [.ref p] ∧ ((SqL K H p ys ∧ ∀ l, H l = none → Q (.ref l) (upd H l (.tup ys))) ∨ (SqT K H p ys ∧ Q (.ref p) H))
def tupleD : D → Option D
  | .list ds => some (.tuple ds)
  | .tuple ds => some (.tuple ds)
  | _ => none
theorem cs_tuple : ClS K (rTupleA K) (g1 tupleD) := cs1 fun Z H x d z Q zo hd hz hq => by
  unfold tupleD at hz
  split at hz
  · cases hd with
    | lst h z r =>
      simp only [Option.some.injEq] at hz
      subst hz
      exact ⟨_, _, rfl, .inl ⟨SqL.ext (hidX Z H) h, fun l hl => hq _ _ (Ext.new hl) (.tup (.inl (hid_upd (zok_nin zo hl))) z (r.ext (Ext.new hl).hid'))⟩⟩
  · cases hd with
    | tup h z r =>
      simp only [Option.some.injEq] at hz
      subst hz
      exact ⟨_, _, rfl, .inr ⟨(h.mono (hidX Z H)).sq, hq _ H (Ext.refl H) (.tup h z r)⟩⟩
  · cases hz
def rListA (K : PySem.W.Frag) : List V → Hp → VK → Prop := fun xs H Q => ∃ p ys, xs = [.ref p] ∧ (SqL K H p ys ∨ SqT K H p ys) ∧ ∀ l, H l = none → Q (.ref l) (upd H l (.lst ys))
def listD : D → Option D
  | .list ds => some (.list ds)
  | .tuple ds => some (.list ds)
  | _ => none
theorem hid_consNew {Z : List Addr} {H : Hp} {p : Addr} {o : HO} (hp : H p = none) : Ext (hid Z H) (hid (p :: Z) (upd H p o)) := fun a u q => by
  have h := hid_some.mp q
  have hap : a ≠ p := fun z => by subst z; rw [hp] at h; cases h.2
  exact hid_some.mpr ⟨fun z => by rcases List.mem_cons.mp z with z | z; exact hap z; exact h.1 z, by rw [upd_ne hap]; exact h.2⟩
theorem cf_list : ClF K (rListA K) (g1 listD) := fun Z H xs ds z Q zo hd hz hq => by
  unfold g1 at hz
  split at hz
  · cases hd with
    | cons a b =>
      cases b
      unfold listD at hz
      split at hz
      · cases a with
        | lst h z r =>
          simp only [Option.some.injEq] at hz
          subst hz
          exact ⟨_, _, rfl, .inl (SqL.ext (hidX Z H) h), fun l hl => hq l _ _ (Ext.new hl) hl upd_same (.lst z (r.ext (hid_consNew hl)))⟩
      · cases a with
        | tup h z r =>
          simp only [Option.some.injEq] at hz
          subst hz
          exact ⟨_, _, rfl, .inr (h.mono (hidX Z H)).sq, fun l hl => hq l _ _ (Ext.new hl) hl upd_same (.lst z (r.ext (hid_consNew hl)))⟩
      · cases hz
  · cases hz
/-! all, any, sum, max, min -/
def boolsD : List D → Option (List Bool)
  | [] => some []
  | .bool b :: r => (boolsD r).map fun bs => b :: bs
  | _ :: _ => none
def intsD : List D → Option (List Int)
  | [] => some []
  | .int b :: r => (intsD r).map fun bs => b :: bs
  | _ :: _ => none
theorem Dats.bools {H : Hp} : ∀ {ds : List D} {vs : List V} {bs : List Bool}, Dats K H ds vs → boolsD ds = some bs → vs = bs.map V.bl
  | [], _, _, h, e => by cases h; simp only [boolsD, Option.some.injEq] at e; subst e; rfl
  | d :: r, _, bs, h, e => by
    cases h with
    | cons a b =>
      cases a with
      | bl c =>
        simp only [boolsD] at e
        cases q : boolsD r with
        | none => rw [q] at e; cases e
        | some cs =>
          rw [q] at e
          simp only [Option.map_some, Option.some.injEq] at e
          subst e
          rw [Dats.bools b q]
          rfl
      | _ => simp only [boolsD] at e; cases e
theorem Dats.ints {H : Hp} : ∀ {ds : List D} {vs : List V} {bs : List Int}, Dats K H ds vs → intsD ds = some bs → vs = bs.map V.int
  | [], _, _, h, e => by cases h; simp only [intsD, Option.some.injEq] at e; subst e; rfl
  | d :: r, _, bs, h, e => by
    cases h with
    | cons a b =>
      cases a with
      | int c =>
        simp only [intsD] at e
        cases q : intsD r with
        | none => rw [q] at e; cases e
        | some cs =>
          rw [q] at e
          simp only [Option.map_some, Option.some.injEq] at e
          subst e
          rw [Dats.ints b q]
          rfl
      | _ => simp only [intsD] at e; cases e
def allD : D → Option D
  | .list ds => (boolsD ds).map fun bs => .bool (bs.all id)
  | _ => none
def anyD : D → Option D
  | .list ds => (boolsD ds).map fun bs => .bool (bs.any id)
  | _ => none
def sumD : D → Option D
  | .list ds => (intsD ds).map fun ns => .int ns.sum
  | _ => none
theorem cs_all : ClS K (rAll K) (g1 allD) := cs1 fun Z H x d z Q zo hd hz hq => by
  unfold allD at hz
  split at hz
  · cases hd with
    | lst h z r =>
      rename_i ds a xs
      cases e : boolsD ds with
      | none => rw [e] at hz; cases hz
      | some bs =>
        rw [e] at hz
        simp only [Option.map_some, Option.some.injEq] at hz
        subst hz
        have ex := r.bools e
        subst ex
        exact ⟨_, bs, rfl, SqL.ext (hidX Z H) h, hq _ H (Ext.refl H) (.bl _)⟩
  · cases hz
theorem cs_any : ClS K (rAny K) (g1 anyD) := cs1 fun Z H x d z Q zo hd hz hq => by
  unfold anyD at hz
  split at hz
  · cases hd with
    | lst h z r =>
      rename_i ds a xs
      cases e : boolsD ds with
      | none => rw [e] at hz; cases hz
      | some bs =>
        rw [e] at hz
        simp only [Option.map_some, Option.some.injEq] at hz
        subst hz
        have ex := r.bools e
        subst ex
        exact ⟨_, bs, rfl, SqL.ext (hidX Z H) h, hq _ H (Ext.refl H) (.bl _)⟩
  · cases hz
theorem cs_sum : ClS K (rSum K) (g1 sumD) := cs1 fun Z H x d z Q zo hd hz hq => by
  unfold sumD at hz
  split at hz
  · cases hd with
    | lst h z r =>
      rename_i ds a xs
      cases e : intsD ds with
      | none => rw [e] at hz; cases hz
      | some bs =>
        rw [e] at hz
        simp only [Option.map_some, Option.some.injEq] at hz
        subst hz
        have ex := r.ints e
        subst ex
        exact ⟨_, bs, rfl, SqL.ext (hidX Z H) h, hq _ H (Ext.refl H) (.int _)⟩
  · cases hz
def max2G : List D → Option D
  | [.int i, .int j] => some (.int (if j > i then j else i))
  | _ => none
def min2G : List D → Option D
  | [.int i, .int j] => some (.int (if j < i then j else i))
  | _ => none
theorem cs_max2 : ClS K (fun xs H Q => ∃ i j, xs = [.int i, .int j] ∧ Q (.int (if j > i then j else i)) H) max2G := fun Z H xs ds z Q zo hd hz hq => by
  unfold max2G at hz
  split at hz
  · cases hd with
    | cons a b =>
      cases b with
      | cons b c =>
        cases a; cases b; cases c
        simp only [Option.some.injEq] at hz
        subst hz
        exact ⟨_, _, rfl, hq _ H (Ext.refl H) (.int _)⟩
  · cases hz
theorem cs_min2 : ClS K (fun xs H Q => ∃ i j, xs = [.int i, .int j] ∧ Q (.int (if j < i then j else i)) H) min2G := fun Z H xs ds z Q zo hd hz hq => by
  unfold min2G at hz
  split at hz
  · cases hd with
    | cons a b =>
      cases b with
      | cons b c =>
        cases a; cases b; cases c
        simp only [Option.some.injEq] at hz
        subst hz
        exact ⟨_, _, rfl, hq _ H (Ext.refl H) (.int _)⟩
  · cases hz
/-! repr of data -/
def rReprA (K : PySem.W.Frag) : List V → Hp → VK → Prop := fun xs H Q => ∃ (x : V) (d : PyData), xs = [x] ∧ Dp K H x d ∧ SeqAt.shaped d = true ∧ d.showable = true ∧ d.shown.length ≤ sizeLine ∧ Q (.str d.shown) H
theorem call_reprA {X : Cx} (hg : X.A.guards = some []) (hu : X.A.units + 200 < cLine) : CallR X (.builtin "repr") (rReprA X.K) := by
  intro pins s σ H xs us Q I r h
  obtain ⟨x, d, rfl, hd, hs, hsh, hl, q⟩ := h
  obtain ⟨u, rfl, ru⟩ := vals1 r
  obtain ⟨as, rd⟩ := Dp.reads I d x u hd ru
  have hdep := SeqAt.depth_of_shaped hs
  have hnd : d.hasDict = true → sysModules ∉ as := PyData.noDict_hsm (PyData.hasDict_of_canLay d (SeqAt.canLay_of_shaped hs))
  cases x with
  | non => cases ru; cases hd; exact PySem.P.repr_of_none ⟨.str _, H, I.tok _, ⟨_, rfl⟩, q⟩
  | bl b => cases ru; cases hd; exact PySem.P.repr_of_bool ⟨.str _, H, I.tok _, ⟨_, rfl⟩, q⟩
  | int i =>
    obtain ⟨t, rfl⟩ := ru
    cases hd
    exact PySem.P.repr_of_int (by simpa [PyData.showable] using hsh) ⟨.str _, H, I.tok _, ⟨_, rfl⟩, q⟩
  | str z =>
    obtain ⟨t, rfl⟩ := ru
    cases hd
    exact PySem.P.repr_of_str ⟨.str _, H, I.tok _, ⟨_, rfl⟩, q⟩ hl
  | ref a =>
    cases ru
    exact repr_of_reads' rd hsh hnd hg (by omega) (fun _ _ e => e) (fun h' u tk hk => ⟨.str _, H, I.kept (t' := tk) hk, ⟨_, rfl⟩, q⟩) hl
  | byt _ => cases hd
  | flt _ => cases hd
  | ty _ => cases hd
def reprD : D → Option D := fun d => if SeqAt.shaped d = true ∧ d.showable = true ∧ d.shown.length ≤ sizeLine then some (.str d.shown) else none
theorem cs_repr : ClS K (rReprA K) (g1 reprD) := cs1 fun Z H x d z Q zo hd hz hq => by
  unfold reprD at hz
  split at hz
  · rename_i h
    simp only [Option.some.injEq] at hz
    subst hz
    exact ⟨x, d, rfl, Dat.dp d x (.inl h.1) hd, h.1, h.2.1, h.2.2, hq _ H (Ext.refl H) (.str _)⟩
  · cases hz
/-! isinstance with a built-in class -/
def tyName : D → String
  | .none => "NoneType"
  | .bool _ => "bool"
  | .int _ => "int"
  | .str _ => "str"
  | .list _ => "list"
  | .tuple _ => "tuple"
  | .dict _ => "dict"
theorem Dat.tyX {H : Hp} {Z : List Addr} {d : D} {v : V} (h : Dat K (hid Z H) d v) : TyX K H v (.type (tyName d)) := by
  cases h with
  | non => exact .base .non
  | bl b => exact .base (.bl b)
  | int i => exact .base (.int i)
  | str x => exact .base (.str x)
  | lst h z r =>
    rcases h with (h | ⟨o, h⟩) | ⟨o, its, n, h1, h2, _⟩
    · exact .base (.lst (hidX Z H _ _ h))
    · exact .base (.frz (hidX Z H _ _ h))
    · exact .kList h1 h2
  | tup h z r =>
    rcases h with h | ⟨o, its, n, h1, h2, _⟩
    · exact .base (.tup (hidX Z H _ _ h))
    · exact .kTuple h1 h2
  | dk h r => exact .base (.dK (hidX Z H _ _ h))
  | dt h r => exact .base (.dT (hidX Z H _ _ h))
/-- isinstance(x, T) for x of a type by its name -/
def isiB (T : String) : D → Option Bool := fun d => kitB (tyName d) T
def isiE (T : String) (f : XE) : XE := fun ρ => (f ρ).bind fun p => (isiB T p.1).map fun b => (.bool b, p.2)
end
section
variable {ι : Type} {X : ι → Cx} {C : Ct} {mu : List Nat} {fr : Bool} {tc owl ow ow1 ow2 : List Nat} {N : List Str} {k : Nat}
section
variable {e : Expr} {es : List Expr} {fa : XA} {x : Str} {id : String} {r : List V → Hp → VK → Prop} {g : List D → Option D} {p pos : Pos}
theorem sem_cl {K : PySem.W.Frag} {t : TA} (hs : ClS K r g) (a2 : SemA K tc ow t fa) : Sem K tc ow (tCB r t) (clE g fa) := fun own Z ρ σ H d ρ' Q ho R hf hq => by
  unfold clE at hf
  cases e1 : fa ρ with
  | none => rw [e1] at hf; cases hf
  | some q =>
    obtain ⟨ds, ρ1⟩ := q
    rw [e1] at hf
    simp only [Option.bind_some] at hf
    cases e2 : g ds with
    | none => rw [e2] at hf; cases hf
    | some z =>
      rw [e2] at hf
      simp only [Option.map_some, Option.some.injEq, Prod.mk.injEq] at hf
      obtain ⟨rfl, rfl⟩ := hf
      exact a2 own Z ρ σ H ds _ _ ho R e1 fun vs H1 R1 g1 d1 => hs _ H1 vs ds _ Q R1.zok d1 e2 fun v H2 e d2 => hq v H2 (R1.ext e) (g1.trans (Grt.of e)) d2
theorem sem_clF {K : PySem.W.Frag} {t : TA} (hs : ClF K r g) (a2 : SemA K tc ow t fa) : SemF K tc ow (tCB r t) (clE g fa) := fun own Z ρ σ H d ρ' Q ho R hf hq => by
  unfold clE at hf
  cases e1 : fa ρ with
  | none => rw [e1] at hf; cases hf
  | some q =>
    obtain ⟨ds, ρ1⟩ := q
    rw [e1] at hf
    simp only [Option.bind_some] at hf
    cases e2 : g ds with
    | none => rw [e2] at hf; cases hf
    | some z =>
      rw [e2] at hf
      simp only [Option.map_some, Option.some.injEq, Prod.mk.injEq] at hf
      obtain ⟨rfl, rfl⟩ := hf
      refine a2 own Z ρ σ H ds _ _ ho R e1 fun vs H1 R1 g1 d1 => hs _ H1 vs ds _ Q R1.zok d1 e2 fun p o H2 e hn hp ob => ?_
      have hp0 : H p = none := by
        cases q : H p with
        | none => rfl
        | some u =>
          by_cases hm : p ∈ adr own
          · obtain ⟨o2, q2⟩ := R1.ain hm
            rw [hn] at q2; cases q2
          · rw [g1 p u q (nadr hm)] at hn; cases hn
      refine hq p o H2 (R1.hide hn (Gro.of e) (fun a ha => ?_) hp) (g1.trans (Grt.of e)) hp0 hp (by rw [hid_congr (Z' := p :: (adr own ++ Z)) fun a => mem_mid]; exact ob)
      obtain ⟨u, q⟩ := R1.ain ha
      rw [q, e a u q]
theorem re_bi (F : Fam X C N k) (hc : ∀ i, CallR (X i) (.builtin id) r) (hs : ClS C.K r g) (hm : C.mg x = none) (hv : bootBuiltins x = some (.builtin id)) (hg : ∀ i, Gl (X i) x) (ha : RA X C tc ow (e :: es) fa)
    (he : ∀ i, starEach (e :: es) (X i).env = (false, eval e (X i).env) :: starEach es (X i).env) (hpl : ∀ i, (backTo pos (starEach es (X i).env)).any (·.1) = false) (hn : x ≠ "__name__" := by decide) (hdb : (x == ("__debug__" : Str)) = false := by decide) :
    RE X C tc ow (.Call (.Name x p) (e :: es) [] pos) (clE g fa) := by
  obtain ⟨t, a1, a2⟩ := ha.ex
  exact ⟨_, fun i => pe_callB (hc i) (hg i) (by rw [F.mg i]; exact hm) hv (a1 i) hn hdb (he i) (hpl i), sem_cl hs a2⟩
theorem re_ty (F : Fam X C N k) (hc : ∀ i, CallR (X i) (.type id) r) (hs : ClS C.K r g) (hm : C.mg x = none) (hv : bootBuiltins x = some (.type id)) (hg : ∀ i, Gl (X i) x) (ha : RA X C tc ow (e :: es) fa)
    (he : ∀ i, starEach (e :: es) (X i).env = (false, eval e (X i).env) :: starEach es (X i).env) (hpl : ∀ i, (backTo pos (starEach es (X i).env)).any (·.1) = false) (hn : x ≠ "__name__" := by decide) (hdb : (x == ("__debug__" : Str)) = false := by decide) :
    RE X C tc ow (.Call (.Name x p) (e :: es) [] pos) (clE g fa) := by
  obtain ⟨t, a1, a2⟩ := ha.ex
  exact ⟨_, fun i => pe_callTy (hc i) (hg i) (by rw [F.mg i]; exact hm) hv (a1 i) hn hdb (he i) (hpl i), sem_cl hs a2⟩
theorem rf_ty (F : Fam X C N k) (hc : ∀ i, CallR (X i) (.type id) r) (hs : ClF C.K r g) (hm : C.mg x = none) (hv : bootBuiltins x = some (.type id)) (hg : ∀ i, Gl (X i) x) (ha : RA X C tc ow (e :: es) fa)
    (he : ∀ i, starEach (e :: es) (X i).env = (false, eval e (X i).env) :: starEach es (X i).env) (hpl : ∀ i, (backTo pos (starEach es (X i).env)).any (·.1) = false) (hn : x ≠ "__name__" := by decide) (hdb : (x == ("__debug__" : Str)) = false := by decide) :
    RF X C tc ow (.Call (.Name x p) (e :: es) [] pos) (clE g fa) := by
  obtain ⟨t, a1, a2⟩ := ha.ex
  exact ⟨_, fun i => pe_callTy (hc i) (hg i) (by rw [F.mg i]; exact hm) hv (a1 i) hn hdb (he i) (hpl i), sem_clF hs a2⟩
end
theorem re_isi {T : String} {TN : Str} {e : Expr} {f : XE} {p p2 pos : Pos} (F : Fam X C N k) (hm : C.mg "isinstance" = none) (hmT : C.mg TN = none) (hvT : bootBuiltins TN = some (.type T)) (hg : ∀ i, Gl (X i) "isinstance") (hgT : ∀ i, Gl (X i) TN) (h : RE X C tc ow e f)
    (h1 : ∀ i, starEach [e, .Name TN p2] (X i).env = (false, eval e (X i).env) :: starEach [.Name TN p2] (X i).env) (h2 : ∀ i, starEach [.Name TN p2] (X i).env = (false, eval (.Name TN p2) (X i).env) :: starEach [] (X i).env) (hpl : ∀ i, (backTo pos (starEach [.Name TN p2] (X i).env)).any (·.1) = false)
    (hnT : TN ≠ "__name__" := by decide) (hdT : (TN == ("__debug__" : Str)) = false := by decide) : RE X C tc ow (.Call (.Name "isinstance" p) [e, .Name TN p2] [] pos) (isiE T f) := by
  obtain ⟨t, a1, a2⟩ := h.ex
  refine ⟨tCB (rIsi C.K) (tCons t (tCons (tC (.ty T)) tNil)), fun i => pe_callB (by rw [← F.K i]; exact call_isi) (hg i) (by rw [F.mg i]; exact hm) boot_isinstance (pa_cons (a1 i) (pa_cons (pe_bltn (hgT i) (by rw [F.mg i]; exact hmT) hvT rfl hnT hdT) pa_nil (h2 i)) (h1 i)) (by decide) (by decide) (h1 i) (hpl i),
    fun own Z ρ σ H d ρ' Q ho R hf hq => ?_⟩
  unfold isiE at hf
  cases e1 : f ρ with
  | none => rw [e1] at hf; cases hf
  | some q =>
    obtain ⟨x, ρ1⟩ := q
    rw [e1] at hf
    simp only [Option.bind_some] at hf
    cases e2 : isiB T x with
    | none => rw [e2] at hf; cases hf
    | some b =>
      rw [e2] at hf
      simp only [Option.map_some, Option.some.injEq, Prod.mk.injEq] at hf
      obtain ⟨rfl, rfl⟩ := hf
      exact a2 own Z ρ σ H x _ _ ho R e1 fun v H1 R1 g1 d1 => ⟨v, .ty T, _, _, b, rfl, .ty T, d1.tyX, kit_ty e2, hq _ H1 R1 g1 (.bl b)⟩

/-! ## slices -/
abbrev XO := En → Option (Option Int × En)
def SemO (K : PySem.W.Frag) (tc ow : List Nat) (to : TO) (f : XO) : Prop := ∀ (own : Ow) (Z : List Addr) (ρ : En) (σ : L2.St) (H : Hp) (o : Option Int) (ρ' : En) (Q : Option Int → Hp → Prop), own.map (·.1) = ow → Rep K own Z ρ σ H → f ρ = some (o, ρ') →
  (∀ H', Rep K own Z ρ' σ H' → Grt tc own H H' → Q o H') → to σ H Q
structure RO {ι : Type} (X : ι → Cx) (C : Ct) (tc ow : List Nat) (e : Option Expr) (f : XO) : Prop where
  ex : ∃ to, (∀ i, PO (X i) e to) ∧ SemO C.K tc ow to f
def noO : XO := fun ρ => some (none, ρ)
def someO (f : XE) : XO := fun ρ => (f ρ).bind fun p => match p.1 with
  | .int i => some (some i, p.2)
  | _ => none
theorem ro_none : RO X C tc ow none noO := ⟨tNoPart, fun _ => po_none, fun own Z ρ σ H o ρ' Q ho R hf hq => by
  simp only [noO, Option.some.injEq, Prod.mk.injEq] at hf
  obtain ⟨rfl, rfl⟩ := hf
  exact hq H R Grt.refl⟩
theorem ro_some {e : Expr} {f : XE} (h : RE X C tc ow e f) : RO X C tc ow (some e) (someO f) := by
  obtain ⟨t, a1, a2⟩ := h.ex
  refine ⟨_, fun i => po_some (a1 i), fun own Z ρ σ H o ρ' Q ho R hf hq => ?_⟩
  unfold someO at hf
  cases e1 : f ρ with
  | none => rw [e1] at hf; cases hf
  | some q =>
    obtain ⟨x, ρ1⟩ := q
    rw [e1] at hf
    simp only [Option.bind_some] at hf
    refine a2 own Z ρ σ H x ρ1 _ ho R e1 fun v H1 R1 g1 d1 => ?_
    cases d1 with
    | int i =>
      simp only [Option.some.injEq, Prod.mk.injEq] at hf
      obtain ⟨rfl, rfl⟩ := hf
      exact ⟨i, rfl, hq H1 R1 g1⟩
    | _ => cases hf
def cutL {α : Type} (xs : List α) (lo hi : Option Int) : List α := (xs.drop (HT.sIx xs.length 0 lo)).take (HT.sIx xs.length xs.length hi - HT.sIx xs.length 0 lo)
theorem Dats.cut {K : PySem.W.Frag} {H : Hp} {ds : List D} {vs : List V} (h : Dats K H ds vs) (lo hi : Option Int) : Dats K H (cutL ds lo hi) (cutV vs lo hi) := by
  unfold cutL cutV
  rw [h.len]
  exact (h.drop _).take _
end
end Lay

namespace Lay
open PySem PySem.Spec PyProof.Rows L2

section
variable {ι : Type} {X : ι → Cx} {C : Ct} {mu : List Nat} {fr : Bool} {tc owl ow ow1 ow2 : List Nat} {N : List Str} {k : Nat}
/-! ## slices -/
def rSlX (K : PySem.W.Frag) : V → Option Int → Option Int → Hp → VK → Prop := fun x lo hi H Q => rSlL K x lo hi H Q ∨ rSlA K x lo hi H Q ∨ rSlS x lo hi H Q
theorem sl_X {Y : Cx} : SlR Y (rSlX Y.K) := sl_list.or (sl_tupA.or sl_str)
def slD (lo hi : Option Int) : D → Option D
  | .list ds => some (.list (cutL ds lo hi))
  | .tuple ds => some (.tuple (cutL ds lo hi))
  | .str z => if z.length ≤ sizeLine then some (.str (cutS z lo hi)) else none
  | _ => none
def slE (f : XE) (fl fh : XO) : XE := fun ρ => (f ρ).bind fun p => (fl p.2).bind fun q => (fh q.2).bind fun r => (slD q.1 r.1 p.1).map fun z => (z, r.2)
theorem sIx_all {n : Nat} {lo hi : Option Int} (h : HT.sIx n 0 lo = 0 ∧ HT.sIx n n hi = n) {α : Type} {xs : List α} (hx : xs.length = n) : cutL xs lo hi = xs := by
  unfold cutL
  rw [hx, h.1, h.2, List.drop_zero, Nat.sub_zero, ← hx, List.take_length]
theorem cutL_len {α : Type} (xs : List α) (lo hi : Option Int) : (cutL xs lo hi).length ≤ xs.length := by
  unfold cutL
  rw [List.length_take, List.length_drop]
  omega
theorem sl_sem {K : PySem.W.Frag} {Z : List Addr} {H : Hp} {x : V} {d z : D} {lo hi : Option Int} {Q : VK} (zo : Zok Z H) (hd : Dat K (hid Z H) d x) (hz : slD lo hi d = some z) (hq : ∀ v H', Ext H H' → Dat K (hid Z H') z v → Q v H') : rSlX K x lo hi H Q := by
  unfold slD at hz
  split at hz
  · cases hd with
    | lst h zl r =>
      simp only [Option.some.injEq] at hz
      subst hz
      exact .inl ⟨_, _, rfl, SqL.ext (hidX Z H) h, fun p hp => hq _ _ (Ext.new hp) (.lst (SqL.of (hid_upd (zok_nin zo hp))) (Nat.le_trans (cutV_length _ _ _) zl) ((r.cut lo hi).ext (Ext.new hp).hid'))⟩
  · cases hd with
    | tup h zl r =>
      simp only [Option.some.injEq] at hz
      subst hz
      refine .inr (.inl ⟨_, _, rfl, (h.mono (hidX Z H)).sq, fun hw => ?_, fun _ p hp => ?_⟩)
      · rw [sIx_all hw r.len] at hq
        exact hq _ H (Ext.refl H) (.tup h zl r)
      · exact hq _ _ (Ext.new hp) (.tup (.inl (hid_upd (zok_nin zo hp))) (Nat.le_trans (cutV_length _ _ _) zl) ((r.cut lo hi).ext (Ext.new hp).hid'))
  · split at hz
    · cases hd
      simp only [Option.some.injEq] at hz
      subst hz
      exact .inr (.inr ⟨_, rfl, ‹_›, hq _ H (Ext.refl H) (.str _)⟩)
    · cases hz
  · cases hz
theorem re_slice {e : Expr} {lo hi : Option Expr} {f : XE} {fl fh : XO} {p2 pos : Pos} (F : Fam X C N k) (h : RE X C tc ow e f) (hl : RO X C tc ow lo fl) (hh : RO X C tc ow hi fh) : RE X C tc ow (.Subscript e (.Slice lo hi none p2) pos) (slE f fl fh) := by
  obtain ⟨t, a1, a2⟩ := h.ex
  obtain ⟨tl, b1, b2⟩ := hl.ex
  obtain ⟨th, c1, c2⟩ := hh.ex
  refine ⟨tSl (rSlX C.K) t tl th, fun i => by rw [← F.K i]; exact pe_slice sl_X (a1 i) (b1 i) (c1 i), fun own Z ρ σ H d ρ' Q ho R hf hq => ?_⟩
  unfold slE at hf
  cases e1 : f ρ with
  | none => rw [e1] at hf; cases hf
  | some q =>
    obtain ⟨x, ρ1⟩ := q
    rw [e1] at hf
    simp only [Option.bind_some] at hf
    cases e2 : fl ρ1 with
    | none => rw [e2] at hf; cases hf
    | some q2 =>
      obtain ⟨lo', ρ2⟩ := q2
      rw [e2] at hf
      simp only [Option.bind_some] at hf
      cases e3 : fh ρ2 with
      | none => rw [e3] at hf; cases hf
      | some q3 =>
        obtain ⟨hi', ρ3⟩ := q3
        rw [e3] at hf
        simp only [Option.bind_some] at hf
        cases e4 : slD lo' hi' x with
        | none => rw [e4] at hf; cases hf
        | some z =>
          rw [e4] at hf
          simp only [Option.map_some, Option.some.injEq, Prod.mk.injEq] at hf
          obtain ⟨rfl, rfl⟩ := hf
          refine a2 own Z ρ σ H x ρ1 _ ho R e1 fun v H1 R1 g1 d1 => ?_
          refine b2 own Z ρ1 σ H1 lo' ρ2 _ ho R1 e2 fun H2 R2 g2 => ?_
          refine c2 own Z ρ2 σ H2 hi' _ _ ho R2 e3 fun H3 R3 g3 => ?_
          exact sl_sem R3.zok ((d1.ext g2.hid).ext g3.hid) e4 fun v H4 e d4 => hq v H4 (R3.ext e) (((g1.trans g2).trans g3).trans (Grt.of e)) d4

/-! ## x op= e, x[k] op= e -/
def augS (g : D → D → Option D) (i : Nat) (f : XE) : XS := fun ρ => match ρ[i]? with
  | some (some d) => (match f ρ with
    | some (e, ρ1) => (match g d e with
      | some z => .nx (ρ1.set i (some z))
      | none => .bad)
    | none => .bad)
  | _ => .bad
def rIAdd : R2 := fun x y H Q => rI0 (fun i j => .int (i + j)) x y H Q ∨ (fun x y H Q => ∃ i j, x = .str i ∧ y = .str j ∧ i.length + j.length ≤ sizeLine ∧ Q (.str (i ++ j)) H) x y H Q
theorem iop_addD {Y : Cx} : OpR Y (inplaceOp .Add) rIAdd := iop_add.or iop_add_str
def iaddD : D → D → Option D
  | .int a, .int b => some (.int (a + b))
  | .str a, .str b => if a.length + b.length ≤ sizeLine then some (.str (a ++ b)) else none
  | _, _ => none
theorem os_iadd {K : PySem.W.Frag} : OpS K rIAdd iaddD := fun Z H x y dx dy z Q zo hx hy hz hq => by
  unfold iaddD at hz
  split at hz
  · cases hx; cases hy
    simp only [Option.some.injEq] at hz
    subst hz
    exact .inl ⟨_, _, rfl, rfl, hq _ H (Ext.refl H) (.int _)⟩
  · cases hx; cases hy
    split at hz
    · simp only [Option.some.injEq] at hz
      subst hz
      exact .inr ⟨_, _, rfl, rfl, ‹_›, hq _ H (Ext.refl H) (.str _)⟩
    · cases hz
  · cases hz
theorem rs_aug {x : Str} {e : Expr} {f : XE} {op : Operator} {r : R2} {g : D → D → Option D} {pos pos' : Pos} (F : Fam X C N k) (i : Nat) (hop : ∀ j, OpR (X j) (inplaceOp op) r) (hos : OpS C.K r g) (he : RE X C tc ow e f) (hi : N[i]? = some x) (hx : ∀ j, Loc (X j).env.scope x) (hw : ow.contains i = false)
    (hf : ∀ j, (X j).fn x = true ∨ (X j).env.scope.names.lookup x = some .local) : RS X C mu fr owl ow ow (.AugAssign (.Name x pos') op e pos) (augS g i f) := by
  obtain ⟨t, a1, a2⟩ := he.ex
  refine ⟨_, fun j => ps_aug (i := i) (by rw [F.nm j]; exact F.nd) (by rw [F.nm j]; exact hi) (hx j) (a1 j) (hop j) (hf j), fun own Z ρ σ H E ho R h => ?_⟩
  unfold augS at h
  split at h
  · rename_i d ed
    split at h
    · rename_i e' ρ1 e1
      split at h
      · rename_i z e2
        obtain ⟨v, h1, h2⟩ := R.dat i d ed (notin_of ho hw)
        refine ⟨v, h1, a2 own Z ρ σ H e' ρ1 _ ho R e1 fun u H1 R1 g1 d1 => ?_⟩
        exact hos _ H1 v u d e' z _ R1.zok (h2.ext g1.hid) d1 e2 fun y H2 e d2 => h own _ H2 ho (Step.of (g1.all.trans (Gro.of e))) ((R1.ext e).set (notin_of ho hw) d2)
      · exact absurd h fun q => q
    · exact absurd h fun q => q
  · exact absurd h fun q => q
theorem pget_list {Y : Cx} : PGet Y (rIxL Y.K) := by
  intro pins s σ H o i ov iv Q I ro ri h
  obtain ⟨p, xs, n, z, rfl, rfl, hq, he, q⟩ := h
  cases ro
  obtain ⟨t, rfl⟩ := ri
  obtain ⟨its, r, pl, hz⟩ := I.list hq
  obtain ⟨j, h1, h2, h3, h4, h5⟩ := atI_get he
  obtain ⟨u, eu, ru⟩ := r.get h2
  have hl := r.length
  have hn := line63
  have fin : EP Y pins σ Q u s := ⟨z, H, I, ru, q⟩
  by_cases h0 : 0 ≤ n
  · have hj : n.toNat = j := by
      rw [seqIndex_of h0 h5] at h1
      exact Option.some.inj h1
    exact wpAny_getItem_list pl.isList h0 (by omega) (by rw [hj]; simpa using eu) fin
  · have hj : (n + (its.toArray.size : Int)).toNat = j := by
      rw [seqIndex_neg (by omega) h4] at h1
      rw [List.size_toArray, ← hl]
      exact Option.some.inj h1
    exact wpAny_getItem_list_neg pl.isList (by omega) (by rw [List.size_toArray]; omega) (by omega) (by rw [hj]; simpa using eu) fin
/-- x[n] op= e, n a written number -/
def augiS (g : D → D → Option D) (i : Nat) (n : Int) (f : XE) : XS := fun ρ => match getL i ρ with
  | none => .bad
  | some ds => match L2.atI ds n with
    | none => .bad
    | some d => match f ρ with
      | none => .bad
      | some (e, ρ1) => match getL i ρ1 with
        | none => .bad
        | some es => match g d e with
          | none => .bad
          | some z => match ixN es.length n with
            | none => .bad
            | some j => .nx (ρ1.set i (some (.list (es.set j z))))
theorem rs_augi {x : Str} {e : Expr} {f : XE} {op : Operator} {r : R2} {g : D → D → Option D} {n : Int} {jj : Nat} {p ip spos pos : Pos} (F : Fam X C N k) (i : Nat) (hop : ∀ j, OpR (X j) (inplaceOp op) r) (hos : OpS C.K r g) (he : RE X C tc ow e f) (hi : ow.contains i = true) (hN : N[i]? = some x) (hv : ∀ j, Vis (X j).env.scope x)
    (ha : ∀ (j : ι) ov iv new, augStore (.Constant (.int n) jj ip) ov iv new = (do holding [new, ov, iv] (setItem ov iv new); release [new, ov, iv] []; pure .next)) (hd : (x == ("__debug__" : Str)) = false := by decide) (hcd : (x == ("__classdict__" : Str)) = false := by decide) :
    RS X C mu fr owl ow ow (.AugAssign (.Subscript (.Name x p) (.Constant (.int n) jj ip) spos) op e pos) (augiS g i n f) := by
  obtain ⟨t, a1, a2⟩ := he.ex
  refine ⟨tAugS (tVar i) (tC (.int n)) t (rIxL C.K) r rSetL, fun j => by rw [← F.K j]; exact ps_augS (pe_var (i := i) (by rw [F.nm j]; exact hN) (hv j) hd hcd) pe_int pget_list (a1 j) (hop j) set_list (ha j), fun own Z ρ σ H E ho R h => ?_⟩
  unfold augiS at h
  split at h
  · exact absurd h fun q => q
  · rename_i ds e0
    split at h
    · exact absurd h fun q => q
    · rename_i d ed
      split at h
      · exact absurd h fun q => q
      · rename_i e' ρ1 e1
        split at h
        · exact absurd h fun q => q
        · rename_i es e2
          split at h
          · exact absurd h fun q => q
          · rename_i z e3
            split at h
            · exact absurd h fun q => q
            · rename_i m e4
              obtain ⟨a, hia, hs1, hob⟩ := R.slot ho hi
              obtain ⟨xs, k1, k2, k3⟩ := R.getL hia e0
              obtain ⟨v, h5, h6⟩ := k3.atI ed
              refine ⟨.ref a, hs1, a, xs, n, v, rfl, rfl, SqL.of k1, h5, a2 own Z ρ σ H e' ρ1 _ ho R e1 fun u H1 R1 g1 d1 => ?_⟩
              refine hos _ H1 v u d e' z _ R1.zok (h6.ext g1.hid) d1 e3 fun y H2 e d2 => ?_
              obtain ⟨xs', k4, k5, k6⟩ := (R1.ext e).getL hia e2
              rw [k6.len] at e4
              exact ⟨a, xs', n, m, rfl, rfl, k4, e4, h own σ _ ho (Step.of ((g1.all.trans (Gro.of e)).upd hia)) ((R1.ext e).upd hia (.lst (by rw [List.length_set]; exact k5) (k6.set d2 m)))⟩

/-! ## methods of texts -/
def splitD : D → D → Option D
  | .str a, .str b => if (b.length == 0) = false ∧ a.length + 2 ≤ sizeLine then some (.list ((PySem.Txt.split a b).map .str)) else none
  | _, _ => none
theorem dats_strs {K : PySem.W.Frag} {H : Hp} : ∀ ys : List Str, Dats K H (ys.map .str) (ys.map V.str)
  | [] => .nil
  | y :: ys => .cons (.str y) (dats_strs ys)
def m1E (g : D → D → Option D) (f h : XE) : XE := opE g f h
theorem rf_split {o e : Expr} {f h : XE} {apos pos : Pos} (hlen : ∀ a b : Str, (PySem.Txt.split a b).length ≤ a.length + 2) (ho : RE X C tc ow o f) (he : RE X C tc ow e h)
    (hpe : ∀ (j : ι) {to te : TE}, PE (X j) o to → PE (X j) e te → PE (X j) (.Call (.Attribute o "split" apos) [e] [] pos) (tM1 (fun x xs H Q => ∃ a b, x = .str a ∧ xs = [.str b] ∧ (b.length == 0) = false ∧ a.length + 2 ≤ sizeLine ∧ rNewStrs (PySem.Txt.split a b) H Q) to te)) :
    RF X C tc ow (.Call (.Attribute o "split" apos) [e] [] pos) (opE splitD f h) := by
  obtain ⟨t, a1, a2⟩ := ho.ex
  obtain ⟨u, b1, b2⟩ := he.ex
  refine ⟨_, fun j => hpe j (a1 j) (b1 j), fun own Z ρ σ H d ρ' Q hw R hf hq => ?_⟩
  obtain ⟨x, ρ1, y, h1, h2, h3⟩ := opE_some hf
  refine a2 own Z ρ σ H x ρ1 _ hw R h1 fun v H1 R1 g1 d1 => ?_
  unfold splitD at h3
  split at h3
  · rename_i a b
    split at h3
    · rename_i hc
      simp only [Option.some.injEq] at h3
      subst h3
      cases d1
      refine ⟨⟨a, rfl⟩, b2 own Z ρ1 σ H1 _ ρ' _ hw R1 h2 fun w H2 R2 g2 d2 => ?_⟩
      cases d2
      refine ⟨a, b, rfl, rfl, hc.1, hc.2, fun p hp => ?_⟩
      have hp0 : H p = none := by
        cases q : H p with
        | none => rfl
        | some u =>
          by_cases hm : p ∈ adr own
          · obtain ⟨o2, q2⟩ := R2.ain hm
            rw [hp] at q2; cases q2
          · rw [(g1.trans g2) p u q (nadr hm)] at hp; cases hp
      refine hq p _ _ (R2.hide hp (Gro.of (Ext.new hp)) (fun c hc => upd_ne fun z => ?_) upd_same) ((g1.trans g2).trans (Grt.of (Ext.new hp))) hp0 upd_same (.lst (by rw [List.length_map]; exact Nat.le_trans (hlen a b) hc.2) (dats_strs _))
      subst z
      obtain ⟨o2, q2⟩ := R2.ain hc
      rw [hp] at q2; cases q2
    · cases h3
  · cases h3
end
end Lay

namespace Lay
open PySem PySem.Spec PyProof.Rows L2

/-- the built-ins stand under their names -/
structure Blt (mg : Str → Option Value) : Prop where
  len : mg "len" = none
  abs : mg "abs" = none
  int : mg "int" = none
  str : mg "str" = none
  bool : mg "bool" = none
  tuple : mg "tuple" = none
  list : mg "list" = none
  dict : mg "dict" = none
  all : mg "all" = none
  any : mg "any" = none
  sum : mg "sum" = none
  max : mg "max" = none
  min : mg "min" = none
  repr : mg "repr" = none
  isinstance : mg "isinstance" = none
  range : mg "range" = none
  enumerate : mg "enumerate" = none
  zip : mg "zip" = none
  sorted : mg "sorted" = none
  set : mg "set" = none

/-- a module's constant -/
def Cst (C : Ct) (x : Str) (d : D) : Prop := ∃ a, C.mg x = some (.ref a) ∧ ∀ H, Dat C.K H d (.ref a)
def rLeD : R2 := fun x y H Q => rI0 (fun i j => .bl (decide (i ≤ j))) x y H Q ∨ (fun x y H Q => ∃ i j, x = .str i ∧ y = .str j ∧ Q (.bl (!decide (j.cps.toList < i.cps.toList))) H) x y H Q
theorem op_leD {X : Cx} : OpR X (compareOp .LtE) rLeD := op_le.or op_le_str
def leD : D → D → Option D
  | .int a, .int b => some (.bool (decide (a ≤ b)))
  | .str a, .str b => some (.bool (!decide (b.cps.toList < a.cps.toList)))
  | _, _ => none
theorem os_leD {K : PySem.W.Frag} : OpS K rLeD leD := fun Z H x y dx dy z Q zo hx hy hz hq => by
  unfold leD at hz
  split at hz
  · cases hx; cases hy
    simp only [Option.some.injEq] at hz
    subst hz
    exact .inl ⟨_, _, rfl, rfl, hq _ H (Ext.refl H) (.bl _)⟩
  · cases hx; cases hy
    simp only [Option.some.injEq] at hz
    subst hz
    exact .inr ⟨_, _, rfl, rfl, hq _ H (Ext.refl H) (.bl _)⟩
  · cases hz
section
variable {ι : Type} {X : ι → Cx} {C : Ct} {mu : List Nat} {fr : Bool} {tc owl ow ow1 ow2 : List Nat} {N : List Str} {k : Nat}
section
variable {a b c e : Expr} {es : List Expr} {fa fb fc f : XE} {fr' : XA} {p pos : Pos}
theorem re_cg (F : Fam X C N k) {x : Str} {d : D} (h : Cst C x d) (hg : ∀ j, Gl (X j) x) (hdb : (x == ("__debug__" : Str)) = false := by decide) : RE X C tc ow (.Name x pos) (cE d) := by
  obtain ⟨v, h1, h2⟩ := h
  exact re_glob F h1 h2 hg hdb
theorem re_leD (ha : RE X C tc ow a fa) (hb : RE X C tc ow b fb) : RE X C tc ow (.Compare a [.LtE] [b] pos) (opE leD fa fb) := re_cmp (fun i => op_leD) os_leD (nomark _) ha hb
theorem rt_leD (ha : RE X C tc ow a fa) (hb : RE X C tc ow b fb) : RT X C tc ow (.Compare a [.LtE] [b] pos) (tE (opE leD fa fb)) := rt_cmp (fun i => op_leD) os_leD (nomark _) ha hb
theorem re_leLt (ha : RE X C tc ow a fa) (hb : RE X C tc ow b fb) (hc : RE X C tc ow c fc) (hm : lastMarks [.LtE, .Lt] [b, c] = false) : RE X C tc ow (.Compare a [.LtE, .Lt] [b, c] pos) (chE leD ltD fa fb fc) :=
  re_chain os_leD os_lt ha hb hc fun i _ _ _ x y z => pe_chain op_leD op_ltD x y z hm
theorem re_leLe (ha : RE X C tc ow a fa) (hb : RE X C tc ow b fb) (hc : RE X C tc ow c fc) (hm : lastMarks [.LtE, .LtE] [b, c] = false) : RE X C tc ow (.Compare a [.LtE, .LtE] [b, c] pos) (chE leD leD fa fb fc) :=
  re_chain os_leD os_leD ha hb hc fun i _ _ _ x y z => pe_chain op_leD op_leD x y z hm
theorem rt_leLt (ha : RE X C tc ow a fa) (hb : RE X C tc ow b fb) (hc : RE X C tc ow c fc) (hm : lastMarks [.LtE, .Lt] [b, c] = false) : RT X C tc ow (.Compare a [.LtE, .Lt] [b, c] pos) (tE (chE leD ltD fa fb fc)) :=
  rt_chain os_leD os_lt ha hb hc fun i _ _ _ x y z => pt_chain op_leD op_ltD x y z hm
theorem rt_leLe (ha : RE X C tc ow a fa) (hb : RE X C tc ow b fb) (hc : RE X C tc ow c fc) (hm : lastMarks [.LtE, .LtE] [b, c] = false) : RT X C tc ow (.Compare a [.LtE, .LtE] [b, c] pos) (tE (chE leD leD fa fb fc)) :=
  rt_chain os_leD os_leD ha hb hc fun i _ _ _ x y z => pt_chain op_leD op_leD x y z hm
/-! built-ins by name -/
section
variable {B : Blt C.mg}
abbrev StarOk (X : ι → Cx) (e : Expr) (es : List Expr) : Prop := ∀ i, starEach (e :: es) (X i).env = (false, eval e (X i).env) :: starEach es (X i).env
abbrev PlainOk (X : ι → Cx) (es : List Expr) (pos : Pos) : Prop := ∀ i, (backTo pos (starEach es (X i).env)).any (·.1) = false
theorem re_len (F : Fam X C N k) (B : Blt C.mg) (ha : RE X C tc ow e f) (hg : ∀ i, Gl (X i) "len") (he : StarOk X e []) (hpl : PlainOk X [] pos) : RE X C tc ow (.Call (.Name "len" p) [e] [] pos) (clE (g1 lenD) (consA f nilA)) :=
  re_bi F (fun i => by rw [← F.K i]; exact call_lenA) cs_len B.len boot_len hg (ra_cons ha ra_nil he) he hpl
theorem re_abs (F : Fam X C N k) (B : Blt C.mg) (ha : RE X C tc ow e f) (hg : ∀ i, Gl (X i) "abs") (he : StarOk X e []) (hpl : PlainOk X [] pos) : RE X C tc ow (.Call (.Name "abs" p) [e] [] pos) (clE (g1 absD) (consA f nilA)) :=
  re_bi F (fun i => call_abs) cs_abs B.abs boot_abs hg (ra_cons ha ra_nil he) he hpl
theorem re_repr (F : Fam X C N k) (B : Blt C.mg) (ha : RE X C tc ow e f) (hg : ∀ i, Gl (X i) "repr") (he : StarOk X e []) (hpl : PlainOk X [] pos) : RE X C tc ow (.Call (.Name "repr" p) [e] [] pos) (clE (g1 reprD) (consA f nilA)) :=
  re_bi F (fun i => by rw [← F.K i]; exact call_reprA (F.gd i) (by have := (F.room i).un; omega)) cs_repr B.repr boot_repr hg (ra_cons ha ra_nil he) he hpl
theorem re_all (F : Fam X C N k) (B : Blt C.mg) (ha : RE X C tc ow e f) (hg : ∀ i, Gl (X i) "all") (he : StarOk X e []) (hpl : PlainOk X [] pos) : RE X C tc ow (.Call (.Name "all" p) [e] [] pos) (clE (g1 allD) (consA f nilA)) :=
  re_bi F (fun i => by rw [← F.K i]; exact cr_all (F.calm i)) cs_all B.all boot_all hg (ra_cons ha ra_nil he) he hpl
theorem re_any (F : Fam X C N k) (B : Blt C.mg) (ha : RE X C tc ow e f) (hg : ∀ i, Gl (X i) "any") (he : StarOk X e []) (hpl : PlainOk X [] pos) : RE X C tc ow (.Call (.Name "any" p) [e] [] pos) (clE (g1 anyD) (consA f nilA)) :=
  re_bi F (fun i => by rw [← F.K i]; exact cr_any (F.calm i)) cs_any B.any boot_any hg (ra_cons ha ra_nil he) he hpl
theorem re_sum (F : Fam X C N k) (B : Blt C.mg) (ha : RE X C tc ow e f) (hg : ∀ i, Gl (X i) "sum") (he : StarOk X e []) (hpl : PlainOk X [] pos) : RE X C tc ow (.Call (.Name "sum" p) [e] [] pos) (clE (g1 sumD) (consA f nilA)) :=
  re_bi F (fun i => by rw [← F.K i]; exact cr_sum (F.calm i)) cs_sum B.sum boot_sum hg (ra_cons ha ra_nil he) he hpl
theorem re_intc (F : Fam X C N k) (B : Blt C.mg) (ha : RE X C tc ow e f) (hg : ∀ i, Gl (X i) "int") (he : StarOk X e []) (hpl : PlainOk X [] pos) : RE X C tc ow (.Call (.Name "int" p) [e] [] pos) (clE (g1 intD) (consA f nilA)) :=
  re_ty F (fun i => call_intA) cs_int B.int boot_int hg (ra_cons ha ra_nil he) he hpl
theorem re_strc (F : Fam X C N k) (B : Blt C.mg) (ha : RE X C tc ow e f) (hg : ∀ i, Gl (X i) "str") (he : StarOk X e []) (hpl : PlainOk X [] pos) : RE X C tc ow (.Call (.Name "str" p) [e] [] pos) (clE (g1 strD) (consA f nilA)) :=
  re_ty F (fun i => call_strA) cs_str B.str boot_str hg (ra_cons ha ra_nil he) he hpl
theorem re_tuple (F : Fam X C N k) (B : Blt C.mg) (ha : RE X C tc ow e f) (hg : ∀ i, Gl (X i) "tuple") (he : StarOk X e []) (hpl : PlainOk X [] pos) : RE X C tc ow (.Call (.Name "tuple" p) [e] [] pos) (clE (g1 tupleD) (consA f nilA)) :=
  re_ty F (fun i => by rw [← F.K i]; exact call_tuple_of) cs_tuple B.tuple boot_tuple hg (ra_cons ha ra_nil he) he hpl
theorem rf_list (F : Fam X C N k) (B : Blt C.mg) (ha : RE X C tc ow e f) (hg : ∀ i, Gl (X i) "list") (he : StarOk X e []) (hpl : PlainOk X [] pos) : RF X C tc ow (.Call (.Name "list" p) [e] [] pos) (clE (g1 listD) (consA f nilA)) :=
  rf_ty F (fun i => by rw [← F.K i]; exact call_list_of) cf_list B.list boot_list hg (ra_cons ha ra_nil he) he hpl
theorem re_max2 (F : Fam X C N k) (B : Blt C.mg) (ha : RE X C tc ow e f) (hb : RE X C tc ow a fa) (hg : ∀ i, Gl (X i) "max") (he : StarOk X e [a]) (he2 : StarOk X a []) (hpl : PlainOk X [a] pos) : RE X C tc ow (.Call (.Name "max" p) [e, a] [] pos) (clE max2G (consA f (consA fa nilA))) :=
  re_bi F (fun i => call_max2 (F.calm i)) cs_max2 B.max boot_max hg (ra_cons ha (ra_cons hb ra_nil he2) he) he hpl
theorem re_min2 (F : Fam X C N k) (B : Blt C.mg) (ha : RE X C tc ow e f) (hb : RE X C tc ow a fa) (hg : ∀ i, Gl (X i) "min") (he : StarOk X e [a]) (he2 : StarOk X a []) (hpl : PlainOk X [a] pos) : RE X C tc ow (.Call (.Name "min" p) [e, a] [] pos) (clE min2G (consA f (consA fa nilA))) :=
  re_bi F (fun i => call_min2 (F.calm i)) cs_min2 B.min boot_min hg (ra_cons ha (ra_cons hb ra_nil he2) he) he hpl
end
end
/-! statements -/
theorem rs_retN {pos : Pos} (hm : mu = ow.filter fun i => mu.contains i) : RS X C mu false owl ow ow2 (.Return none pos) (fun ρ => .rt .none ρ) :=
  ⟨tRetN, fun _ => ps_retN, fun own Z ρ σ H E ho R h => h .non (keepO mu own) σ H (by rw [keepO_map, ho, ← hm]) (Step.keep (K := C.K) mu) (R.sub List.filter_sublist) .non⟩
/-- a, b = x, y: two plain local names -/
def parS (i j : Nat) (fa : XA) : XS := fun ρ => match fa ρ with
  | some ([d, e], ρ1) => .nx ((ρ1.set i (some d)).set j (some e))
  | _ => .bad
theorem rs_par {x y : Str} {a b : Expr} {fa : XA} {px py pt pos : Pos} {kt k2 : Nat} {pt2 : Pos} (F : Fam X C N k) (i j : Nat) (ha : RA X C tc ow [a, b] fa) (hi : N[i]? = some x) (hj : N[j]? = some y) (hij : i ≠ j) (wi : ow.contains i = false) (wj : ow.contains j = false)
    (hx : ∀ m, (X m).env.scope.names.lookup x = some .local) (hy : ∀ m, (X m).env.scope.names.lookup y = some .local)
    (hw : ∀ m, swappedStores [.Tuple [.Name x px, .Name y py] kt pt] (.Tuple [a, b] k2 pt2) (X m).env = pure (some [x, y])) (hs : ∀ m, swapsWithSole [.Tuple [.Name x px, .Name y py] kt pt] (.Tuple [a, b] k2 pt2) pos.line (X m).env = pure false) :
    RS X C mu fr owl ow ow (.Assign [.Tuple [.Name x px, .Name y py] kt pt] (.Tuple [a, b] k2 pt2) pos) (parS i j fa) := by
  obtain ⟨t, a1, a2⟩ := ha.ex
  refine ⟨_, fun m => ps_par (i := i) (j := j) (F.calm m) (by rw [F.nm m]; exact F.nd) (by rw [F.nm m]; exact hi) (by rw [F.nm m]; exact hj) hij (hx m) (hy m) (a1 m) (hw m) (hs m), fun own Z ρ σ H E ho R h => ?_⟩
  unfold parS at h
  split at h
  · rename_i d e ρ1 e1
    refine a2 own Z ρ σ H _ ρ1 _ ho R e1 fun vs H1 R1 g1 d1 => ?_
    cases d1 with
    | cons hd r =>
      cases r with
      | cons he r =>
        cases r
        exact ⟨_, _, rfl, h own _ H1 ho (Step.of g1.all) ((R1.set (notin_of ho wi) hd).set (notin_of ho wj) he)⟩
  · exact absurd h fun q => q
/-- a, b, .. = e -/
def setG (fg : XG) (f : XE) : XS := fun ρ => match f ρ with
  | some (d, ρ1) => (match fg d ρ1 with
    | some ρ2 => .nx ρ2
    | none => .bad)
  | none => .bad
theorem rs_asg {ts : List Nat} {tg e : Expr} {f : XE} {fg : XG} {pos : Pos} (he : RE X C tc ow e f) (hg : RG X C ow ts tg fg) (hs : ∀ m, swapsWithSole [tg] e pos.line (X m).env = pure false) (hw : ∀ m, swappedStores [tg] e (X m).env = pure none)
    (h1 : ∀ m, (assignEach [tg] (X m).env).map (·.2) = [assign tg (X m).env]) : RS X C mu fr owl ow ow (.Assign [tg] e pos) (setG fg f) := by
  obtain ⟨t, a1, a2⟩ := he.ex
  obtain ⟨g, b1, b2⟩ := hg.ex
  refine ⟨_, fun m => ps_asg (a1 m) (b1 m) (hs m) (hw m) (h1 m), fun own Z ρ σ H E ho R h => ?_⟩
  unfold setG at h
  split at h
  · rename_i d ρ1 e1
    split at h
    · rename_i ρ2 e2
      exact a2 own Z ρ σ H d ρ1 _ ho R e1 fun v H1 R1 g1 d1 => b2 own Z ρ1 σ H1 d v ρ2 _ ho R1 d1 e2 fun σ2 R2 _ => h own σ2 H1 ho (Step.of g1.all) R2
    · exact absurd h fun q => q
  · exact absurd h fun q => q
end
end Lay

namespace Lay
open PySem PySem.Spec PyProof.Rows L2

/-- enough turns for Euclid's loop -/
def fuN (i : Nat) (ρ : En) : Nat := match ρ[i]? with
  | some (some (.int n)) => n.natAbs + 1
  | _ => 0
section
variable {ι : Type} {X : ι → Cx} {C : Ct} {mu : List Nat} {fr : Bool} {tc owl ow ow1 ow2 : List Nat} {N : List Str} {k : Nat}
/-! y = [.. for ..] that reads what is owned -/
theorem rs_setLcB {y : Str} {py : Pos} {elt tg iter : Expr} {ifs : List Expr} {scope : Scope} {ownL : List (Str × Nat)} {pos spos : Pos} {ts : List Nat} {fi : XI} {fg : XG} {ft : XT} {fe : XE} (F : Fam X C N k) (j : Nat) (hy : N[j]? = some y) (hyl : ∀ i, (X i).env.scope.names.lookup y = some .local) (hw : ow.contains j = false)
    (hsw : ∀ i, swapsWith (.ListComp elt [⟨tg, iter, ifs, 0⟩] scope pos) (some (.Name y py)) spos.line (X i).env = pure true) (hb : ow1 = ow.filter fun i => ow1.contains i) (hi : RI X C [] ow1 tg iter fi) (ok : ∀ i, BlkOk N (X i).env.scope scope ownL)
    (hg : RG (blkF X scope) C ow1 ts tg fg) (ht : RQ (blkF X scope) C [] ow1 ifs ft) (he : RE (blkF X scope) C [] ow1 elt fe) (hs : ∀ i x, foldedSetIterable iter (X i).env x = pure x) (hts : ts.all (fun t => (ownL.map (·.2)).contains t) = true) (hv : (ownL.map (·.2)).all (fun v => !ow1.contains v) = true) :
    RS X C mu fr owl ow ow (.Assign [.Name y py] (.ListComp elt [⟨tg, iter, ifs, 0⟩] scope pos) spos) (setS j (borF (compE fi (ownL.map (·.2)) fg ft fe))) := by
  obtain ⟨wi, i1, i2⟩ := hi.ex
  obtain ⟨g, g1, g2⟩ := hg.ex
  obtain ⟨tt, t1, t2⟩ := ht.ex
  obtain ⟨te, e1, e2⟩ := he.ex
  refine ⟨_, fun i => ps_setLc (own := ownL) (F.calm i) (by rw [F.nm i]; exact F.nd) (by rw [F.nm i]; exact hy) (hyl i) (hsw i) (i1 i) (by rw [F.nm i]; exact ok i) (fun s H C' cl fp => g1 (i, s, H, C', cl, fp)) (fun s H C' cl fp => t1 (i, s, H, C', cl, fp)) (fun s H C' cl fp => e1 (i, s, H, C', cl, fp)) (hs i), ?_⟩
  exact sem_set (semF_bor (tc := []) (sem_lc i2 g2 t2 e2 (fun t h => List.contains_iff_mem.mp (List.all_eq_true.mp hts t h)) hv) hb).sem hw
/-! an item of what is owned -/
def ixoE (i : Nat) (fb : XE) : XE := fun ρ => match fb ρ with
  | some (.int n, ρ1) => (match getL i ρ1 with
    | some ds => (atI ds n).map fun d => (d, ρ1)
    | none => none)
  | _ => none
theorem re_ixo {x : Str} {b : Expr} {fb : XE} {p pos : Pos} (F : Fam X C N k) (i : Nat) (hi : ow.contains i = true) (hN : N[i]? = some x) (hv : ∀ j, Vis (X j).env.scope x) (hb : RE X C tc ow b fb) (hs : PlainIx b)
    (hd : (x == ("__debug__" : Str)) = false := by decide) (hcd : (x == ("__classdict__" : Str)) = false := by decide) : RE X C tc ow (.Subscript (.Name x p) b pos) (ixoE i fb) := by
  obtain ⟨tb, b1, b2⟩ := hb.ex
  refine ⟨_, fun j => pe_ix (r := rIx C.K) (by rw [← F.K j]; exact ix_seq) (pe_var (i := i) (by rw [F.nm j]; exact hN) (hv j) hd hcd) (b1 j) hs, fun own Z ρ σ H d ρ' Q ho R hf hq => ?_⟩
  unfold ixoE at hf
  split at hf
  · rename_i n ρ1 e1
    split at hf
    · rename_i ds e2
      cases e3 : atI ds n with
      | none => rw [e3] at hf; cases hf
      | some d' =>
        rw [e3] at hf
        simp only [Option.map_some, Option.some.injEq, Prod.mk.injEq] at hf
        obtain ⟨rfl, rfl⟩ := hf
        obtain ⟨a, hia, hs1, hob⟩ := R.slot ho hi
        refine ⟨.ref a, hs1, ?_⟩
        refine b2 own Z ρ σ H _ _ _ ho R e1 fun vk H1 R1 g1 dk => ?_
        obtain ⟨xs, k2, k3, k4⟩ := R1.getL hia e2
        cases dk
        obtain ⟨v, h2, h3⟩ := k4.atI e3
        exact .inl ⟨_, _, _, v, rfl, rfl, SqL.of k2, h2, hq v H1 R1 g1 h3⟩
    · cases hf
  · cases hf
/-! x[k], x[m] = e -/
def setit (i : Nat) (fk : XE) (d : D) : En → Option En := fun ρ => match fk ρ with
  | some (.int n, ρ2) => (match getL i ρ2 with
    | none => none
    | some ds => match ixN ds.length n with
      | none => none
      | some j => some (ρ2.set i (some (.list (ds.set j d)))))
  | _ => none
def swapS (i : Nat) (f f1 f2 : XE) : XS := fun ρ => match f ρ with
  | some (.tuple [d, e], ρ1) => (match setit i f1 d ρ1 with
    | some ρ2 => (match setit i f2 e ρ2 with
      | some ρ3 => .nx ρ3
      | none => .bad)
    | none => .bad)
  | _ => .bad
theorem sub_sem {K : PySem.W.Frag} {own : Ow} {Z : List Addr} {ρ ρ' : En} {σ : L2.St} {H : Hp} {i : Nat} {to tk : TE} {fk : XE} {d : D} {v : V} {Q : L2.St → Hp → Prop} (R : Rep K own Z ρ σ H) (ho : own.map (·.1) = ow) (hi : ow.contains i = true) (b2 : Sem K tc ow tk fk)
    (hto : ∀ v H (Q : VK), σ[i]? = some (some v) → Q v H → to σ H Q) (hd : Dat K (hid (adr own ++ Z) H) d v) (h : setit i fk d ρ = some ρ')
    (hq : ∀ H', Gro own H H' → (∀ d v, Dat K (hid (adr own ++ Z) H) d v → Dat K (hid (adr own ++ Z) H') d v) → Rep K own Z ρ' σ H' → Q σ H') : gSub to tk rSetL v σ H Q := by
  unfold setit at h
  split at h
  · rename_i n ρ2 e2
    split at h
    · cases h
    · rename_i ds e3
      split at h
      · cases h
      · rename_i j e4
        simp only [Option.some.injEq] at h
        subst h
        obtain ⟨a, hia, hs1, hob⟩ := R.slot ho hi
        refine hto _ H _ hs1 ?_
        refine b2 own Z ρ σ H _ ρ2 _ ho R e2 fun vk H2 R2 g2 dk => ?_
        obtain ⟨xs, k2, k3, k4⟩ := R2.getL hia e3
        cases dk
        rw [k4.len] at e4
        have aa : a ∈ adr own := List.mem_map.mpr ⟨_, hia, rfl⟩
        refine ⟨a, xs, n, j, rfl, rfl, k2, e4, hq _ (g2.all.upd hia) (fun d v q => ?_) (R2.upd hia (.lst (by rw [List.length_set]; exact k3) (k4.set (hd.ext g2.hid) j)))⟩
        rw [hid_updIn (List.mem_append_left _ aa)]
        exact q.ext g2.hid
  · cases h
theorem rs_swap {x : Str} {e k1 k2 : Expr} {f f1 f2 : XE} {p1 p2 s1 s2 tp pos : Pos} {kt : Nat} (F : Fam X C N k) (i : Nat) (he : RE X C tc ow e f) (h1 : RE X C tc ow k1 f1) (h2 : RE X C tc ow k2 f2) (hi : ow.contains i = true) (hN : N[i]? = some x) (hv : ∀ j, Vis (X j).env.scope x)
    (hg : ∀ (j : ι) {to t1 t2 te : TE}, PE (X j) (.Name x p1) to → PE (X j) (.Name x p2) to → PE (X j) k1 t1 → PE (X j) k2 t2 → PE (X j) e te → PS (X j) (.Assign [.Tuple [.Subscript (.Name x p1) k1 s1, .Subscript (.Name x p2) k2 s2] kt tp] e pos) (tAsg te (gTup (X j).K 2 (gCons (gSub to t1 rSetL) (gCons (gSub to t2 rSetL) gNil)))))
    (hd : (x == ("__debug__" : Str)) = false := by decide) (hcd : (x == ("__classdict__" : Str)) = false := by decide) :
    RS X C mu fr owl ow ow (.Assign [.Tuple [.Subscript (.Name x p1) k1 s1, .Subscript (.Name x p2) k2 s2] kt tp] e pos) (swapS i f f1 f2) := by
  obtain ⟨t, a1, a2⟩ := he.ex
  obtain ⟨t1, b1, b2⟩ := h1.ex
  obtain ⟨t2, c1, c2⟩ := h2.ex
  refine ⟨_, fun j => by
    have := hg j (pe_var (i := i) (by rw [F.nm j]; exact hN) (hv j) hd hcd) (pe_var (i := i) (by rw [F.nm j]; exact hN) (hv j) hd hcd) (b1 j) (c1 j) (a1 j)
    rw [F.K j] at this
    exact this, fun own Z ρ σ H E ho R h => ?_⟩
  unfold swapS at h
  split at h
  · rename_i d e ρ1 e1
    split at h
    · rename_i ρ2 e2
      split at h
      · rename_i ρ3 e3
        refine a2 own Z ρ σ H _ ρ1 _ ho R e1 fun v H1 R1 g1 d1 => ?_
        cases d1 with
        | tup s z r =>
          rename_i a xs
          cases r with
          | cons hd r =>
            cases r with
            | cons he r =>
              cases r
              refine ⟨_, _, rfl, (s.mono (fun a o q => (hid_some.mp q).2)).sq, rfl, _, _, rfl, ?_⟩
              refine sub_sem R1 ho hi b2 (fun v H Q q r => ⟨v, q, r⟩) hd e2 fun H2 g2 t2 R2 => ⟨_, _, rfl, ?_⟩
              refine sub_sem R2 ho hi c2 (fun v H Q q r => ⟨v, q, r⟩) (t2 _ _ he) e3 fun H3 g3 t3 R3 => ⟨rfl, ?_⟩
              exact h own σ H3 ho (Step.of ((g1.all.trans g2).trans g3)) R3
      · exact absurd h fun q => q
    · exact absurd h fun q => q
  · exact absurd h fun q => q
end
section
variable {C : Ct} {x : Str} {params : Arguments} {body : List Stmt} {scope : Scope} {ps : List Str}
/-- a function that may not be called any more: the end of a recursion's promise -/
theorem fnP0 (k : Nat) (hf : FnHere C x params body scope)
    (hb : ∀ (kV doc pm : Value) (an : Option Addr) (cdv ct : Value) (us : List Value), us.length = ps.length → bindArgs (PySem.W.fnOf x x params body scope .none kV doc pm an cdv ct) ⟨us, []⟩ = pure (ps.zip us)) :
    Fn C x k ps (spP C.K ps.length fun _ => none) := by
  obtain ⟨f, fd, hg, FD⟩ := hf
  refine ⟨f, fd, hg, FD.kp, FD.bindsN hb, ⟨fun vs H Q E h => ?_, fun A outer s H args us vs Q E hgd hr e0 hb r hsp => ?_⟩⟩
  · obtain ⟨Z, ds, d, hl, _⟩ := h
    exact hl
  · obtain ⟨Z, ds, d, hl, zo, hd, hF, hq⟩ := hsp
    cases hF
end
end Lay

namespace Lay
open PySem PySem.Spec PyProof.Rows L2

/-! ## the head: what stands behind the top -/
mutual
/-- a value of the module as data -/
def datB (K : PySem.W.Frag) : D → Value → Bool
  | .none, .none => true
  | .bool b, .bool c => b == c
  | .int i, .int j _ => decide (i = j)
  | .str x, .str y _ => decide (x = y)
  | .tuple ds, .ref a => (match K.lookup a with
    | some ⟨.type c, _, .seq its _, _⟩ => decide (c = "tuple") && (decide (its.size ≤ sizeLine) && datsB K ds its.toList)
    | _ => false)
  | _, _ => false
def datsB (K : PySem.W.Frag) : List D → List Value → Bool
  | [], [] => true
  | d :: ds, u :: us => datB K d u && datsB K ds us
  | _, _ => false
end
mutual
theorem datB_ok {K : PySem.W.Frag} : ∀ (d : D) (u : Value), datB K d u = true → ∃ v, RelV v u ∧ ∀ H, Dat K H d v
  | .none, u, h => by
    cases u with
    | none => exact ⟨.non, rfl, fun _ => .non⟩
    | _ => cases h
  | .bool b, u, h => by
    cases u with
    | bool c =>
      have e : b = c := eq_of_beq (show (b == c) = true from h)
      exact ⟨.bl b, by rw [e]; rfl, fun _ => .bl b⟩
    | _ => cases h
  | .int i, u, h => by
    cases u with
    | int j t =>
      have e : i = j := of_decide_eq_true h
      exact ⟨.int i, ⟨t, by rw [e]⟩, fun _ => .int i⟩
    | _ => cases h
  | .str x, u, h => by
    cases u with
    | str y t =>
      have e : x = y := of_decide_eq_true h
      exact ⟨.str x, ⟨t, by rw [e]⟩, fun _ => .str x⟩
    | _ => cases h
  | .tuple ds, u, h => by
    cases u with
    | ref a =>
      have h' : (match K.lookup a with
        | some ⟨.type c, _, .seq its _, _⟩ => decide (c = "tuple") && (decide (its.size ≤ sizeLine) && datsB K ds its.toList)
        | _ => false) = true := by rw [← h]; rfl
      split at h'
      · rename_i c od its n sl q
        rw [Bool.and_eq_true, Bool.and_eq_true] at h'
        obtain ⟨vs, r1, r2⟩ := datsB_ok ds _ h'.2.2
        have z := of_decide_eq_true h'.2.1
        refine ⟨.ref a, rfl, fun H => .tup (.inr ⟨_, its, n, q, congrArg Value.type (of_decide_eq_true h'.1), rfl, z, r1⟩) ?_ (r2 H)⟩
        have := r1.length
        simp only [Array.length_toList] at this
        omega
      · cases h'
    | _ => cases h
  | .list _, _, h => by cases h
  | .dict _, _, h => by cases h
theorem datsB_ok {K : PySem.W.Frag} : ∀ (ds : List D) (us : List Value), datsB K ds us = true → ∃ vs, Vals vs us ∧ ∀ H, Dats K H ds vs
  | [], [], _ => ⟨[], .nil, fun _ => .nil⟩
  | [], _ :: _, h => by cases h
  | _ :: _, [], h => by cases h
  | d :: ds, u :: us, h => by
    have h' : (datB K d u && datsB K ds us) = true := by rw [← h]; rfl
    rw [Bool.and_eq_true] at h'
    obtain ⟨v, r1, r2⟩ := datB_ok d u h'.1
    obtain ⟨vs, r3, r4⟩ := datsB_ok ds us h'.2
    exact ⟨v :: vs, .cons r1 r3, fun H => .cons (r2 H) (r4 H)⟩
end
/-- the module's constants -/
def cstB (K : PySem.W.Frag) (p : Str × D) : Bool := (match p.2 with
  | .tuple _ => true
  | _ => false) && datB K p.2 (.ref (He.ga K p.1))
theorem cstB_ok {K : PySem.W.Frag} {x : Str} {d : D} (h : cstB K (x, d) = true) (H : Hp) : Dat K H d (.ref (He.ga K x)) := by
  unfold cstB at h
  rw [Bool.and_eq_true] at h
  obtain ⟨v, r, q⟩ := datB_ok _ _ h.2
  have e : v = .ref (He.ga K x) := RelV.inj r (show RelV (.ref (He.ga K x)) (.ref (He.ga K x)) from rfl)
  exact e ▸ q H
abbrev AlL : Type := He.AlD × Bool
def obsL (fa : List He.Fa) (fn : List He.DefD) (cs : List (Str × D)) (K : PySem.W.Frag) : AlL := (He.obsD fa fn K, cs.all (cstB K))
def valL (fn : List He.DefD) : AlL := (He.valD fn, true)
structure SaysL (fa : List He.Fa) (fn : List He.DefD) (cs : List (Str × D)) (K : PySem.W.Frag) : Prop where
  d : He.SaysD fa fn K
  c : cs.all (cstB K) = true
def obsLG (n : Nat) (fa : List He.Fa) (fn : List He.DefD) (cs : List (Str × D)) (g : Addr → Option Obj) : AlL := obsL fa fn cs (He.frG g (He.asD g n))
def hookL (n : Nat) (fa : List He.Fa) (fn : List He.DefD) (cs : List (Str × D)) : PySem.W.Hook where
  α := AlL
  obs := fun s => obsLG n fa fn cs s.heap.get?
  val := fun _ => valL fn
  says := fun _ h => ∃ K : PySem.W.Frag, K.In h ∧ SaysL fa fn cs K
  of := fun _ _ e => ⟨_, He.frG_in, ⟨congrArg (fun z : AlL => z.1) e, congrArg (fun z : AlL => z.2) e⟩⟩
  keeps := fun _ _ _ ⟨K, hK, c⟩ k => ⟨K, PySem.W.Frag.In.keeps hK k, c⟩
theorem obsLG_eq {n : Nat} {fa : List He.Fa} {fn : List He.DefD} {cs : List (Str × D)} {g : Addr → Option Obj} {s : Shared} (h : ∀ a, g a = s.heap.get? a) : obsLG n fa fn cs g = (hookL n fa fn cs).obs s := by
  have e : g = s.heap.get? := funext h
  rw [e] <;> rfl
/-- a def of the top as a datum -/
def dD (x : Str) (st : Stmt) : He.DefD := ⟨(x, none), x, x, defArgs st, defBody st, defScope st, [], []⟩
/-- what the names stand for, in a heap that grew from that behind the top -/
structure Top (fa : List He.Fa) (fn : List He.DefD) (cs : List (Str × D)) (C : Ct) : Prop where
  s : SaysL fa fn cs C.K
  g : ∀ x, He.Fa.glo x ∈ fa → C.mg x = some (.ref (He.ga C.K x))
  f : ∀ x, He.Fa.free x ∈ fa → C.mg x = none
theorem Top.of {fa : List He.Fa} {fn : List He.DefD} {cs : List (Str × D)} {C : Ct} {h : Heap} (s : SaysL fa fn cs C.K) (X : C.K.In h) (G : h.Ns mainGlobals C.mg) : Top fa fn cs C :=
  ⟨s, fun _ m => He.glo_ok X G (s.d.facts m), fun _ m => He.free_ok X G (s.d.facts m)⟩
theorem Top.fn {fa : List He.Fa} {fn : List He.DefD} {cs : List (Str × D)} {C : Ct} (T : Top fa fn cs C) {x : Str} {st : Stmt} (i : Nat) (h : fn[i]? = some (dD x st)) (hg : He.Fa.glo x ∈ fa) : FnHere C x (defArgs st) (defBody st) (defScope st) := by
  obtain ⟨fd, F⟩ := T.s.d.def_ i h
  exact ⟨_, fd, T.g x hg, F⟩
theorem Top.gi {fa : List He.Fa} {fn : List He.DefD} {cs : List (Str × D)} {C : Ct} (T : Top fa fn cs C) {x : Str} (i : Nat) (h : fa[i]? = some (.glo x)) : C.mg x = some (.ref (He.ga C.K x)) := T.g x (List.mem_of_getElem? h)
theorem Top.fi {fa : List He.Fa} {fn : List He.DefD} {cs : List (Str × D)} {C : Ct} (T : Top fa fn cs C) {x : Str} (i : Nat) (h : fa[i]? = some (.free x)) : C.mg x = none := T.f x (List.mem_of_getElem? h)
theorem Top.fnI {fa : List He.Fa} {fn : List He.DefD} {cs : List (Str × D)} {C : Ct} (T : Top fa fn cs C) {x : Str} {st : Stmt} (i j : Nat) (h : fn[i]? = some (dD x st)) (hg : fa[j]? = some (.glo x)) : FnHere C x (defArgs st) (defBody st) (defScope st) := T.fn i h (List.mem_of_getElem? hg)
theorem Top.cst {fa : List He.Fa} {fn : List He.DefD} {cs : List (Str × D)} {C : Ct} (T : Top fa fn cs C) {x : Str} {d : D} (h : (x, d) ∈ cs) (hg : He.Fa.glo x ∈ fa) : Cst C x d :=
  ⟨_, T.g x hg, fun H => cstB_ok (List.all_eq_true.mp T.s.c _ h) H⟩
theorem Top.cstI {fa : List He.Fa} {fn : List He.DefD} {cs : List (Str × D)} {C : Ct} (T : Top fa fn cs C) {x : Str} {d : D} (i j : Nat) (h : cs[i]? = some (x, d)) (hg : fa[j]? = some (.glo x)) : Cst C x d := T.cst (List.mem_of_getElem? h) (List.mem_of_getElem? hg)
end Lay

namespace Lay
open PySem PySem.Spec PyProof.Rows L2

/-! ## a law's end: the law is called by the caller alone, whose reprs are not under way -/
section
variable {P : Program} {w : World} {K : PySem.W.Frag} {mg mb : Str → Option Value} {k : Nat} {fa a : Addr} {nm x : Str} {sp : Sp} {s : Shared} {us : List Value} {ns : List Int}
abbrev scr (us : List Value) : Obj := { cls := .type "list", data := .seq us.toArray }
theorem lawG_core {H : Hp} (kin : K.In s.heap) (nsm : s.heap.Ns mainGlobals mg) (nsb : s.heap.Ns builtinsNs mb) (bb : ∀ y : Str, y ≠ "__name__" → mb y = bootBuiltins y) (lim : s.heap.NoLimit) (gn : s.gens = #[])
    (at_ : s.heap.get? a = some (scr us)) (rm : Room k callerA)
    (named : mg nm = some (.ref fa)) (F : ∀ base : Heap, K.In base → base.Ns mainGlobals mg → Fn ⟨P, w, K, mg, base⟩ nm k [x] sp)
    (good : sp [.ref a] H (fun v _ => v = .bl true) fun _ _ _ => False) (ok : HOk P w H s.heap) (only : ∀ b u, H b = some u → b = a ∧ K.lookup a = none ∧ ∃ o xs, u = .frz o (.lst xs)) :
    codeAny (model P w) callerA (.call (.ref fa) ⟨[.ref a], []⟩) (fun r t => r = .ok (.ret (.bool true)) ∧ OldK s.heap t.heap ∧ t.os = s.os ∧ AllBare t.gens) s := by
  have free : ∀ {b : Addr} {o : Obj} {es : Array DictEntry} {n : Nat}, s.heap.get? b = some o → o.data = .dict es n → H b = none := fun {b o es n} g d => by
    cases q : H b with
    | none => rfl
    | some u =>
      have := (only b u q).1
      subst this
      rw [at_] at g
      cases g
      cases (show Data.seq us.toArray = Data.dict es n from d)
  have down : ∀ {b : Addr} {m : Str → Option Value}, s.heap.Ns b m → (hidT s.heap H).Ns b m := fun ⟨o, es, n, g, d, r⟩ => ⟨o, es, n, hidT_get g (free g d), d, r⟩
  have kb : K.In (hidT s.heap H) := fun b o g => hidT_get (kin b o g) (by
    cases q : H b with
    | none => rfl
    | some u =>
      have z := only b u q
      rw [z.1, z.2.1] at g
      cases g)
  have md : Mod K mg (hidT s.heap H) := ⟨kb, down nsm, ⟨mb, down nsb, bb⟩, by obtain ⟨mc, l1, l2⟩ := lim; exact ⟨mc, down l1, l2⟩⟩
  have e0 : Env0 P w K mg (hidT s.heap H) callerA [] s H := ⟨rfl, md, fun b o g => of_hidT g, Nat.le_of_eq (hidT_size _ _), trivial, fun b z => (List.not_mem_nil z).elim, ok, .of_eq gn⟩
  obtain ⟨f, fd, mgf, _, bn, G⟩ := (F _ kb (down nsm)).ex
  cases named.symm.trans mgf
  have run := G.run callerA [] s H ⟨[.ref a], []⟩ [.ref a] [.ref a] _ _ rfl rm e0 (bn s [.ref a] kin rfl) (.cons rfl .nil) good
  refine codeAny_mono run fun r t h => ?_
  rcases r with e | fl
  · exact h.elim
  · cases fl with
    | ret u =>
      obtain ⟨v, H', os, bare, un, ok', rv, q⟩ := h
      cases (show v = .bl true from q)
      cases (show u = Value.bool true from rv)
      refine ⟨rfl, OldK.of_keep fun b o g => ?_, os, bare⟩
      cases q : H b with
      | none => exact un.keep b o g q (fun z => (List.not_mem_nil z).elim) (by simp)
      | some u =>
        obtain ⟨_, _, ob, xs, rfl⟩ := only b u q
        have g1 := (ok b _ q).1
        rw [g] at g1
        cases g1
        exact (ok' b _ (un.frzs b _ _ q)).1
    | _ => exact (show False from h).elim
theorem lawG (kin : K.In s.heap) (nsm : s.heap.Ns mainGlobals mg) (nsb : s.heap.Ns builtinsNs mb) (bb : ∀ y : Str, y ≠ "__name__" → mb y = bootBuiltins y) (lim : s.heap.NoLimit) (gn : s.gens = #[])
    (at_ : s.heap.get? a = some (scr us)) (intsA : IntsAre us ns) (len : ns.length ≤ sizeLine) (rm : Room k callerA)
    (named : mg nm = some (.ref fa)) (F : ∀ base : Heap, K.In base → base.Ns mainGlobals mg → Fn ⟨P, w, K, mg, base⟩ nm k [x] sp)
    (good : ∀ H : Hp, SqL K H a (ns.map V.int) → sp [.ref a] H (fun v _ => v = .bl true) fun _ _ _ => False) :
    codeAny (model P w) callerA (.call (.ref fa) ⟨[.ref a], []⟩) (fun r t => r = .ok (.ret (.bool true)) ∧ OldK s.heap t.heap ∧ t.os = s.os ∧ AllBare t.gens) s := by
  have vs := vals_ints intsA
  have ln := intsA.length
  cases lk : K.lookup a with
  | some o =>
    have g := kin a o lk
    rw [at_] at g
    cases g
    exact lawG_core (H := fun _ => none) kin nsm nsb bb lim gn at_ rm named F (good _ (.inr ⟨_, us.toArray, _, lk, rfl, rfl, rfl, by rw [List.size_toArray, ln]; exact len, by simpa using vs⟩)) (fun b u z => nomatch z) (fun b u z => nomatch z)
  | none =>
    have hit : (fun b => if b = a then some (HO.frz (scr us) (.lst (ns.map V.int))) else none) a = some (HO.frz (scr us) (.lst (ns.map V.int))) := if_pos rfl
    refine lawG_core (H := fun b => if b = a then some (.frz (scr us) (.lst (ns.map V.int))) else none) kin nsm nsb bb lim gn at_ rm named F (good _ (.inl (.inr ⟨_, hit⟩))) (fun b u z => ?_) (fun b u z => ?_)
    · by_cases e : b = a
      · subst e
        cases hit.symm.trans z
        exact ⟨at_, by rw [List.length_map]; exact len, us, _, vs, at_⟩
      · cases (if_neg e).symm.trans z
    · by_cases e : b = a
      · subst e
        cases hit.symm.trans z
        exact ⟨rfl, lk, _, _, rfl⟩
      · cases (if_neg e).symm.trans z
end
/-- a script is data -/
theorem Dat.ints {K : PySem.W.Frag} {H : Hp} : ∀ ns : List Int, Dats K H (ns.map .int) (ns.map V.int)
  | [] => .nil
  | n :: ns => .cons (.int n) (Dat.ints ns)
theorem Dat.scr {K : PySem.W.Frag} {H : Hp} {a : Addr} {ns : List Int} (S : SqL K H a (ns.map V.int)) (hl : (ns.map V.int).length ≤ sizeLine) : Dat K (hid [] H) (.list (ns.map .int)) (.ref a) :=
  .lst (SqL.ext (fun _ _ q => hid_some.mpr ⟨List.not_mem_nil, q⟩) S) hl (Dat.ints ns)
/-- the walk that head_any asks for -/
theorem walkG {l : PySem.W.OpenLaw} {n k : Nat} {q : Program} {loose : List Str} {XP : (Str → Option Value) → Heap → Prop} {YP : World → Heap → Prop} {d : DefRec} {x : Str} (most : l.most = some n) (small : n ≤ sizeLine) (nod : d.params.defaults = []) (rm : Room k callerA)
    (F : ∀ (w : World) (mg : Str → Option Value) (fa : Addr) (h : Heap), YP w h → h.Ns mainGlobals mg → mg d.name = some (.ref fa) →
      ∃ (K : PySem.W.Frag) (sp : Sp), K.In h ∧
        (∀ (H : Hp) (a : Addr) (ns : List Int), ns.length ≤ n → SqL K H a (ns.map V.int) → sp [.ref a] H (fun v _ => v = .bl true) fun _ _ _ => False) ∧
        ∀ base : Heap, K.In base → base.Ns mainGlobals mg → Fn ⟨l.prog, w, K, mg, base⟩ d.name k [x] sp) :
    PySem.W.WalkO q loose XP YP l.row.toRowW d [] (fun f vs => PySem.call f vs) :=
  Att.attach_call most nod fun w _ s mg mb fa _ _ _ _ a us ns G Y _ _ _ named ob intsA len gn => by
    obtain ⟨K, sp, kin, good, run⟩ := F w mg fa _ Y G.T.g named
    exact lawG kin G.T.g G.T.b G.T.builtins G.T.nolimit gn ob intsA (Nat.le_trans len small) rm named run fun H => good H a ns len
end Lay

namespace Lay
open PySem PySem.Spec PyProof.Rows L2

/-! ## enumerate over a tuple -/
set_option maxHeartbeats 1000000 in
theorem en_new {u : Value} {ob : Obj} {G : Heap → Prop} (B : Begins u ob G) :
    Meets (Builtin.«enumerate.__new__» ⟨[.type "enumerate", u], []⟩) (fun _ R s => G s.heap ∧
      R (.ok (.ret (.ref (s.heap.push ob).objs.size))) { s with heap := (s.heap.push ob).push { cls := .type "enumerate", data := .fields #[.none, .bool false, .ref s.heap.objs.size, rawInt 0, .none, .none] } }) :=
  .of_wp fun p w A R s hh => by
    obtain ⟨hp, gn, dr, tk, os⟩ := s
    obtain ⟨g1, hh⟩ := hh
    have subs := sub_enumerate
    have it : ∀ {A2 : Around} {E2 : Value → Shared → Prop} {Q2 : Value → Shared → Prop}, Q2 (.ref hp.objs.size) ⟨hp.push ob, gn, dr, tk, os⟩ → wpAny (model p w) A2 (pyIter u) Q2 E2 ⟨hp, gn, dr, tk, os⟩ := fun q => B.iter p w _ _ ⟨hp, gn, dr, tk, os⟩ _ g1 q
    wp_walk using it
    refine wpAny_stack_any fun _ => wpAny_pure ?_
    split
    · rename_i c _ _ _ _ _
      cases (c == Value.type "enumerate") <;> (wp_walk using it; exact ⟨_, rfl, hh⟩)
    · wp_walk using it
      exact ⟨_, rfl, hh⟩
theorem en_call {p : Program} {w : World} {A : Around} {E : Value → Shared → Prop} {s : Shared} {u : Value} {ob : Obj} {G : Heap → Prop} {Q : Value → Shared → Prop} (B : Begins u ob G) (g : G s.heap)
    (q : ∀ h2, IsEnum h2 (s.heap.objs.size + 1) s.heap.objs.size 0 .none → h2.get? s.heap.objs.size = some ob → (∀ b o, s.heap.get? b = some o → h2.get? b = some o) → Q (.ref (s.heap.objs.size + 1)) { s with heap := h2 }) :
    wpAny (model p w) A (call (.type "enumerate") [u]) Q E s := by
  refine callType_new F.called_enumerate (by decide) (F.typeCall_enumerate_1 _) (F.newCall_enumerate_1 _) (fun obj => F.args_object_init_2 obj _) F.entry_enumerate_new (en_new B) ⟨g, ?_⟩
  have z : (s.heap.push ob).objs.size = s.heap.objs.size + 1 := Heap.size_push ..
  have o1 : (s.heap.push ob).get? s.heap.objs.size = some ob := Heap.get?_push_size _ B.free
  show _ ∧ _
  rw [z]
  have en : IsEnum ((s.heap.push ob).push { cls := .type "enumerate", data := .fields #[.none, .bool false, .ref s.heap.objs.size, rawInt 0, .none, .none] }) (s.heap.objs.size + 1) s.heap.objs.size 0 .none := by
    have t := Heap.get?_push_size (s.heap.push ob) (o := { cls := .type "enumerate", data := .fields #[.none, .bool false, .ref s.heap.objs.size, rawInt 0, .none, .none] }) rfl
    rw [z] at t
    exact t
  exact ⟨⟨_, en, rfl⟩, q _ en (Heap.get?_push_of_some _ o1) fun b o x => Heap.get?_push_of_some _ (Heap.get?_push_of_some _ x)⟩
def Iten (K : PySem.W.Frag) (a : Addr) : It :=
  ⟨fun i H => ∃ (xs : List V) (x : V), SqT K H a xs ∧ xs[i]? = some x, fun i H v H' => ∃ T x, v = .ref T ∧ H T = none ∧ H' = upd H T (.tup [.int (i : Nat), x]) ∧ ∀ xs, SqT K H a xs → xs[i]? = some x, fun i H => ∃ xs : List V, SqT K H a xs ∧ xs.length = i⟩

theorem turn_en {P : Program} {w : World} {K : PySem.W.Frag} {elts : List Expr} {kk : Nat} {tpos : Pos} (a e it : Addr) :
    Turn P w K (.Tuple elts kk tpos) (Iten K a) [e, it] e (fun i h => (∃ old, IsEnum h e it ((i : Nat) : Int) old) ∧ h.IsTupleIter it a i ∧ e ≠ it) where
  mem := List.mem_cons_self
  obj := fun i h st b hb => by
    obtain ⟨⟨old, en⟩, ⟨o, ho, hc, hd⟩, _⟩ := st
    rcases List.mem_cons.mp hb with z | z
    · subst z
      exact ⟨_, en, fun v q => nomatch q⟩
    · rw [List.mem_singleton.mp z]
      exact ⟨o, ho, fun v q => by rw [hd] at q; cases q⟩
  keep := fun i h h' st k => by
    obtain ⟨⟨old, en⟩, ti, ne⟩ := st
    exact ⟨⟨old, k e List.mem_cons_self _ en⟩, ti.at fun o q => k it (List.mem_cons_of_mem _ List.mem_cons_self) o q, ne⟩
  item := by
    intro X hP hw hK hc i pins s σ H E I hf st hg
    subst hP hw hK
    obtain ⟨⟨old, en⟩, ti, ne⟩ := st
    obtain ⟨xs, x, hq, hx⟩ := hg
    obtain ⟨its, rv, p, hz⟩ := I.tuple hq
    obtain ⟨u, hu, ru⟩ := rv.get hx
    have p' : s.heap.IsTuple a its.toArray := p
    have ai : a ≠ it := fun z => by
      subst z
      obtain ⟨o, g1, c1, _⟩ := p
      obtain ⟨o2, g2, c2, _⟩ := ti
      rw [g1] at g2
      cases g2
      rw [c1] at c2
      injection c2 with q
      exact absurd q (by decide)
    have ae : a ≠ e := fun z => by
      subst z
      obtain ⟨o, g1, c1, _⟩ := p
      rw [show s.heap.get? a = _ from en] at g1
      cases g1
      injection c1 with q
      exact absurd q (by decide)
    have hel : e < s.heap.objs.size := Heap.lt_size en
    have hil : it < s.heap.objs.size := by obtain ⟨_, q, _⟩ := ti; exact Heap.lt_size q
    have iu : its.toArray[i]? = some u := by simpa using hu
    have il : i < its.toArray.size := by
      rcases Nat.lt_or_ge i its.toArray.size with q | q
      · exact q
      · rw [Array.getElem?_eq_none q] at iu; cases iu
    refine wpAny_pyNext_enum_itemD (Draws.tuple (prog := X.prog) (w := X.w) (A := X.A.in1) (I.ok.hd hc) it a ai its.toArray) en ⟨ti, p'⟩ il ne (by simp [ne, Ne.symm ae]) fun y h' tk hy ho st' hT hsz hk => ?_
    have yu : u = y := Option.some.inj (iu.symm.trans hy)
    subst yu
    refine ⟨_, rfl, wpAny_letOwnedTupleGo_enum (s := { s with heap := h', toks := tk + 1 }) ho fun h2 en2 sb => ?_⟩
    have hT2 : h2.get? s.heap.objs.size = some { cls := .type "tuple", data := .seq #[.int i tk, u] } := (sb.2 _ (Nat.ne_of_gt hel)).trans hT
    have new : ObjOk X.prog X.w (upd H s.heap.objs.size (.tup [.int (i : Nat), x])) h2 s.heap.objs.size (.tup [.int (i : Nat), x]) := ⟨by show 2 ≤ sizeLine; decide, [.int i tk, u], .cons ⟨_, rfl⟩ (.cons ru .nil), ⟨_, hT2, rfl, _, rfl⟩⟩
    have I1 : Inv X pins σ (upd H s.heap.objs.size (.tup [.int (i : Nat), x])) { s with heap := h2, toks := tk + 1 } :=
      I.turnedNew (ch := [e, it]) (fun b ob hb q => by
        have b1 : b ≠ e := fun z => hb (by rw [z]; exact List.mem_cons_self)
        have b2 : b ≠ it := fun z => hb (by rw [z]; exact List.mem_cons_of_mem _ List.mem_cons_self)
        exact (sb.2 b b1).trans (hk b ob b1 b2 q)) hf (Nat.le_refl _) new
    refine ⟨.ref s.heap.objs.size, _, I1, rfl, ⟨_, x, rfl, I.hok.fresh (Nat.le_refl _), rfl, fun ys hy => by rw [I.tuple_inj hy hq]; exact hx⟩, ⟨⟨u, ?_⟩, st'.1.at fun o q => (sb.2 it (Ne.symm ne)).trans q, ne⟩, fun b hb => ?_⟩
    · rw [show ((i + 1 : Nat) : Int) = (i : Int) + 1 by omega]
      exact en2
    · have lt : b < s.heap.objs.size := by
        rcases List.mem_cons.mp hb with z | z
        · rw [z]; exact hel
        · rw [List.mem_singleton.mp z]; exact hil
      rw [upd_ne (Nat.ne_of_lt lt)]
      exact (hf b hb).1
  done := by
    intro X hP hw hK hc i pins s σ H E I hf st hg
    subst hP hw hK
    obtain ⟨⟨old, en⟩, ti, ne⟩ := st
    obtain ⟨xs, hq, hx⟩ := hg
    obtain ⟨its, rv, p, hz⟩ := I.tuple hq
    have p' : s.heap.IsTuple a its.toArray := p
    have ai : a ≠ it := fun z => by
      subst z
      obtain ⟨o, g1, c1, _⟩ := p
      obtain ⟨o2, g2, c2, _⟩ := ti
      rw [g1] at g2
      cases g2
      rw [c1] at c2
      injection c2 with q
      exact absurd q (by decide)
    obtain ⟨f0, f1, f2, f3, f4, f5⟩ := hf it (List.mem_cons_of_mem _ List.mem_cons_self)
    have ix : i = its.toArray.size := by
      have := rv.length
      rw [List.size_toArray]
      omega
    refine wpAny_pyNext_enum_endD (Draws.tuple (prog := X.prog) (w := X.w) (A := X.A.in1) (I.ok.hd hc) it a ai its.toArray) en ⟨by rw [← ix]; exact ti, p'⟩ fun h' eb => ⟨rfl, ?_⟩
    exact I.turned (t' := s.toks) (fun b o hb q => eb b o hb q) f0 f1 f3 f4 f5
  self := fun A i s Q E st h => by
    obtain ⟨⟨_, en⟩, _⟩ := st
    exact wpAny_pyIter_enum en h
/-- .. as it walks -/
theorem wk_enumN {K : PySem.W.Frag} {Zs : List Addr} {H0 : Hp} {a : Addr} {xs : List V} {ds : List D} (h : TupAt K (hid Zs H0) a xs) (r : Dats K (hid Zs H0) ds xs) : Wk K Zs H0 (Iten K a) (ds.zipIdx.map fun p => .tuple [.int (p.2 : Nat), p.1]) := fun Zs' H e zo => by
  have hq : SqT K H a xs := ((h.mono e).mono (hidX Zs' H)).sq
  have r' := r.ext e
  refine ⟨fun i hi => ?_, fun i x H' hi hy => ?_, ⟨xs, hq, by simp [r.len]⟩⟩
  · have hi : i < ds.length := by simpa using hi
    obtain ⟨v, h1, _⟩ := r'.get (List.getElem?_eq_getElem hi)
    exact ⟨xs, v, hq, h1⟩
  · obtain ⟨T, v, rfl, hn, rfl, hx⟩ := hy
    obtain ⟨d, h1, h2⟩ := r'.getV (hx xs hq)
    exact ⟨Ext.new hn, .tuple [.int i, d], by simp [List.getElem?_map, List.getElem?_zipIdx, h1], dat2 zo hn (.int _) h2⟩
def iEnumN (K : PySem.W.Frag) (ta : TA) : TI := fun σ H R => ta σ H fun vs H1 => ∃ a xs, vs = [.ref a] ∧ SqT K H1 a xs ∧ R (Iten K a) H1
theorem pi_enumN {X : Cx} {e : Expr} {ta : TA} {p pos tpos : Pos} {elts : List Expr} {kk : Nat} (hg : Gl X "enumerate") (hm : X.mg "enumerate" = none) (ha : PA X [e] ta) (hs : starEach [e] X.env = [(false, eval e X.env)]) :
    PI X (.Tuple elts kk tpos) (.Call (.Name "enumerate" p) [e] [] pos) (iEnumN X.K ta) := by
  refine ⟨fun pins s σ H R I h => ?_⟩
  refine Call_ (ld_blt I hg hm boot_enumerate (PyProof.Rows.callWith_type1 (thn (ha.run pos pins s σ H _ I h) fun us t ⟨vs, H1, I1, r1, q1⟩ => ?_) hs rfl))
  obtain ⟨a, xs, rfl, hq, q⟩ := q1
  cases r1 with
  | cons r rr =>
    cases rr
    cases r
    obtain ⟨its, rv, p', hz⟩ := I1.tuple hq
    refine en_call (begins_tuple a its.toArray) (show t.heap.IsTuple a its.toArray from p') fun h' en oi hk => wpAny_pyIter_enum en ?_
    have I2 : Inv X pins σ H1 { t with heap := h' } := I1.kept (t' := t.toks) hk
    refine ⟨t.heap.objs.size + 1, [t.heap.objs.size + 1, t.heap.objs.size], _, _, H1, rfl, I2, turn_en a (t.heap.objs.size + 1) t.heap.objs.size, ⟨⟨.none, en⟩, ⟨_, oi, rfl, rfl⟩, Nat.succ_ne_self _⟩, fun b hb => ?_, q⟩
    have le : t.heap.objs.size ≤ b := by
      rcases List.mem_cons.mp hb with z | z
      · rw [z]; exact Nat.le_add_right _ _
      · rw [List.mem_singleton.mp z]; exact Nat.le_refl _
    exact I1.fpOk le (I1.hok.fresh le)
/-- enumerate of a tuple -/
def enumT (fa : XA) : XI := fun ρ => (fa ρ).bind fun p => match p.1 with
  | [.tuple ds] => some (ds.zipIdx.map fun p => .tuple [.int (p.2 : Nat), p.1], p.2)
  | _ => none
section
variable {ι : Type} {X : ι → Cx} {C : Ct} {tc ow : List Nat} {N : List Str} {k : Nat}
theorem ri_enumT {a : Expr} {fa : XA} {p pos tpos : Pos} {elts : List Expr} {kk : Nat} (F : Fam X C N k) (hm : C.mg "enumerate" = none) (hg : ∀ i, Gl (X i) "enumerate") (ha : RA X C tc ow [a] fa) (hs : ∀ i, starEach [a] (X i).env = [(false, eval a (X i).env)]) :
    RI X C tc ow (.Tuple elts kk tpos) (.Call (.Name "enumerate" p) [a] [] pos) (enumT fa) := by
  obtain ⟨t, a1, a2⟩ := ha.ex
  refine ⟨iEnumN C.K t, fun i => by rw [← F.K i]; exact pi_enumN (hg i) (by rw [F.mg i]; exact hm) (a1 i) (hs i), fun own Z ρ σ H ds ρ' R' ho R hf hq => ?_⟩
  unfold enumT at hf
  cases e1 : fa ρ with
  | none => rw [e1] at hf; cases hf
  | some q =>
    obtain ⟨as, ρ1⟩ := q
    rw [e1] at hf
    simp only [Option.bind_some] at hf
    refine a2 own Z ρ σ H as ρ1 _ ho R e1 fun vs H1 R1 g1 d1 => ?_
    split at hf
    · simp only [Option.some.injEq, Prod.mk.injEq] at hf
      obtain ⟨rfl, rfl⟩ := hf
      cases d1 with
      | cons h r =>
        cases r
        cases h with
        | tup h z r => exact ⟨_, _, rfl, (h.mono (hidX _ H1)).sq, hq _ H1 R1 g1 (by simp [r.len]; exact z) (wk_enumN h r)⟩
    · cases hf
end
end Lay

namespace Lay
open PySem PySem.Spec PyProof.Rows L2

/-! ## the pure side: tools -/
theorem seqS_nx {F G : XS} {ρ ρ1 : En} (h : F ρ = .nx ρ1) : seqS F G ρ = G ρ1 := by
  unfold seqS
  rw [h]
theorem seqS_rt {F G : XS} {ρ ρ1 : En} {d : D} (h : F ρ = .rt d ρ1) : seqS F G ρ = .rt d ρ1 := by
  unfold seqS
  rw [h]
theorem ifS_t {t : XT} {F G : XS} {ρ ρ1 : En} (h : t ρ = some (true, ρ1)) : ifS t F G ρ = F ρ1 := by
  unfold ifS
  rw [h]
  exact if_pos rfl
theorem ifS_f {t : XT} {F G : XS} {ρ ρ1 : En} (h : t ρ = some (false, ρ1)) : ifS t F G ρ = G ρ1 := by
  unfold ifS
  rw [h]
  exact if_neg Bool.false_ne_true
theorem setS_eq {i : Nat} {f : XE} {ρ ρ1 : En} {d : D} (h : f ρ = some (d, ρ1)) : setS i f ρ = .nx (ρ1.set i (some d)) := by
  unfold setS
  rw [h]
theorem ownS_eq {i : Nat} {f : XE} {ρ ρ1 : En} {d : D} (hi : i < ρ.length) (h : f ρ = some (d, ρ1)) : ownS i f ρ = .nx (ρ1.set i (some d)) := by
  unfold ownS
  rw [if_pos hi, setS_eq h]
theorem retS_eq {f : XE} {ρ ρ1 : En} {d : D} (h : f ρ = some (d, ρ1)) : retS f ρ = .rt d ρ1 := by
  unfold retS
  rw [h]
theorem opE_eq {g : D → D → Option D} {fa fb : XE} {ρ ρ1 ρ2 : En} {a b c : D} (h1 : fa ρ = some (a, ρ1)) (h2 : fb ρ1 = some (b, ρ2)) (h3 : g a b = some c) : opE g fa fb ρ = some (c, ρ2) := by
  simp only [opE, h1, h2, h3, Option.bind_some, Option.map_some]
theorem clE_eq {g : List D → Option D} {fa : XA} {ρ ρ1 : En} {as : List D} {c : D} (h1 : fa ρ = some (as, ρ1)) (h3 : g as = some c) : clE g fa ρ = some (c, ρ1) := by
  simp only [clE, h1, h3, Option.bind_some, Option.map_some]
theorem consA_eq {fa : XE} {fr : XA} {ρ ρ1 ρ2 : En} {a : D} {as : List D} (h1 : fa ρ = some (a, ρ1)) (h2 : fr ρ1 = some (as, ρ2)) : consA fa fr ρ = some (a :: as, ρ2) := by
  simp only [consA, h1, h2, Option.bind_some, Option.map_some]
theorem tE_eq {f : XE} {ρ ρ1 : En} {b : Bool} (h : f ρ = some (.bool b, ρ1)) : tE f ρ = some (b, ρ1) := by
  simp only [tE, h, asB, Option.bind_some, Option.map_some]
/-! slots given up -/
theorem kil_get (ρ : En) (j : Nat) : ∀ vs, (kil ρ vs)[j]? = if j ∈ vs ∧ j < ρ.length then some none else ρ[j]?
  | [] => by simp [kil]
  | v :: vs => by
    show ((kil ρ vs).set v none)[j]? = _
    rw [List.getElem?_set, kil_get ρ j vs, kil_len]
    by_cases e : v = j
    · subst e
      by_cases l : v < ρ.length
      · simp [l]
      · simp [l, List.getElem?_eq_none (Nat.le_of_not_lt l)]
    · simp [e, Ne.symm e]
theorem kil_idem (ρ : En) (vs : List Nat) : kil (kil ρ vs) vs = kil ρ vs := by
  refine List.ext_getElem? fun j => ?_
  rw [kil_get, kil_len]
  split
  · rename_i h
    rw [kil_get, if_pos h]
  · rfl
theorem backE_get (ρ1 ρ : En) (j : Nat) : ∀ vs, (backE vs ρ1 ρ)[j]? = if j ∈ vs ∧ j < ρ.length then some (ρ1[j]?.getD none) else ρ[j]?
  | [] => by simp [backE]
  | v :: vs => by
    show ((backE vs ρ1 ρ).set v _)[j]? = _
    rw [List.getElem?_set, backE_get ρ1 ρ j vs, backE_len]
    by_cases e : v = j
    · subst e
      by_cases l : v < ρ.length
      · simp [l]
      · simp [l, List.getElem?_eq_none (Nat.le_of_not_lt l)]
    · simp [e, Ne.symm e]
theorem backE_kil {ρ R : En} {vs : List Nat} (h : kil R vs = kil ρ vs) : backE vs ρ R = ρ := by
  have hl : R.length = ρ.length := by rw [← kil_len R vs, h, kil_len]
  refine List.ext_getElem? fun j => ?_
  rw [backE_get]
  split
  · rename_i q
    have : j < ρ.length := by omega
    rw [List.getElem?_eq_getElem this]
    rfl
  · rename_i q
    have e := congrArg (fun l : En => l[j]?) h
    simp only [kil_get, hl] at e q
    rw [if_neg q, if_neg q] at e
    exact e
/-- a comprehension whose parts leave the rest as it is -/
theorem compL_pure {vs : List Nat} {fg : XG} {ft : XT} {fe : XE} {ρ : En} {p : D → Bool} {h : D → D} : ∀ {ds : List D} {ρ0 : En}, kil ρ0 vs = kil ρ vs →
    (∀ d ∈ ds, ∃ ρ1, fg d (kil ρ vs) = some ρ1 ∧ kil ρ1 vs = kil ρ vs ∧ ft ρ1 = some (p d, ρ1) ∧ (p d = true → fe ρ1 = some (h d, ρ1))) →
    ∃ R, compL vs fg ft fe ds ρ0 = some ((ds.filter p).map h, R) ∧ kil R vs = kil ρ vs
  | [], ρ0, hk, _ => ⟨ρ0, rfl, hk⟩
  | d :: ds, ρ0, hk, H => by
    obtain ⟨ρ1, a1, a2, a3, a4⟩ := H d List.mem_cons_self
    obtain ⟨R, r1, r2⟩ := compL_pure (ds := ds) a2 fun e he => H e (List.mem_cons_of_mem _ he)
    refine ⟨R, ?_, r2⟩
    simp only [compL, hk, a1, a3, Option.bind_some]
    cases q : p d with
    | true =>
      simp only [if_true, a4 q, Option.bind_some, r1, Option.map_some, List.filter_cons, q]
      rfl
    | false =>
      simp only [Bool.false_eq_true, if_false, r1, List.filter_cons, q]
theorem compE_pure {fi : XI} {vs : List Nat} {fg : XG} {ft : XT} {fe : XE} {ρ : En} {ds : List D} (p : D → Bool) (h : D → D) (hi : fi ρ = some (ds, ρ))
    (H : ∀ d ∈ ds, ∃ ρ1, fg d (kil ρ vs) = some ρ1 ∧ kil ρ1 vs = kil ρ vs ∧ ft ρ1 = some (p d, ρ1) ∧ (p d = true → fe ρ1 = some (h d, ρ1))) :
    compE fi vs fg ft fe ρ = some (.list ((ds.filter p).map h), ρ) := by
  obtain ⟨R, r1, r2⟩ := compL_pure (ρ0 := ρ) rfl H
  simp only [compE, hi, Option.bind_some, r1, Option.map_some, backE_kil r2]
/-- .. that keeps all -/
theorem compE_map {fi : XI} {vs : List Nat} {fg : XG} {fe : XE} {ρ : En} {ds : List D} (h : D → D) (hi : fi ρ = some (ds, ρ))
    (H : ∀ d ∈ ds, ∃ ρ1, fg d (kil ρ vs) = some ρ1 ∧ kil ρ1 vs = kil ρ vs ∧ fe ρ1 = some (h d, ρ1)) :
    compE fi vs fg yesT fe ρ = some (.list (ds.map h), ρ) := by
  have := compE_pure (p := fun _ => true) (h := h) (ft := yesT) hi fun d hd => by
    obtain ⟨ρ1, a, b, c⟩ := H d hd
    exact ⟨ρ1, a, b, rfl, fun _ => c⟩
  rw [this]
  congr 3
  rw [List.filter_eq_self.mpr fun _ _ => rfl]
/-- a comprehension over a row made of other things -/
theorem compL_on {α : Type} {vs : List Nat} {fg : XG} {ft : XT} {fe : XE} {ρ : En} {p : α → Bool} {e h : α → D} : ∀ {ds : List α} {ρ0 : En}, kil ρ0 vs = kil ρ vs →
    (∀ d ∈ ds, ∃ ρ1, fg (e d) (kil ρ vs) = some ρ1 ∧ kil ρ1 vs = kil ρ vs ∧ ft ρ1 = some (p d, ρ1) ∧ (p d = true → fe ρ1 = some (h d, ρ1))) →
    ∃ R, compL vs fg ft fe (ds.map e) ρ0 = some ((ds.filter p).map h, R) ∧ kil R vs = kil ρ vs
  | [], ρ0, hk, _ => ⟨ρ0, rfl, hk⟩
  | d :: ds, ρ0, hk, H => by
    obtain ⟨ρ1, a1, a2, a3, a4⟩ := H d List.mem_cons_self
    obtain ⟨R, r1, r2⟩ := compL_on (ds := ds) a2 fun e he => H e (List.mem_cons_of_mem _ he)
    refine ⟨R, ?_, r2⟩
    simp only [List.map_cons, compL, hk, a1, a3, Option.bind_some]
    cases q : p d with
    | true =>
      simp only [if_true, a4 q, Option.bind_some, r1, Option.map_some, List.filter_cons, q]
      rfl
    | false =>
      simp only [Bool.false_eq_true, if_false, r1, List.filter_cons, q]
theorem compE_on {α : Type} {fi : XI} {vs : List Nat} {fg : XG} {ft : XT} {fe : XE} {ρ : En} {ds : List α} {ls : List D} (p : α → Bool) (e h : α → D) (hi : fi ρ = some (ls, ρ)) (hl : ls = ds.map e)
    (H : ∀ d ∈ ds, ∃ ρ1, fg (e d) (kil ρ vs) = some ρ1 ∧ kil ρ1 vs = kil ρ vs ∧ ft ρ1 = some (p d, ρ1) ∧ (p d = true → fe ρ1 = some (h d, ρ1))) :
    compE fi vs fg ft fe ρ = some (.list ((ds.filter p).map h), ρ) := by
  subst hl
  obtain ⟨R, r1, r2⟩ := compL_on (ρ0 := ρ) rfl H
  simp only [compE, hi, Option.bind_some, r1, Option.map_some, backE_kil r2]
theorem compE_onA {α : Type} {fi : XI} {vs : List Nat} {fg : XG} {fe : XE} {ρ : En} {ds : List α} {ls : List D} (e h : α → D) (hi : fi ρ = some (ls, ρ)) (hl : ls = ds.map e)
    (H : ∀ d ∈ ds, ∃ ρ1, fg (e d) (kil ρ vs) = some ρ1 ∧ kil ρ1 vs = kil ρ vs ∧ fe ρ1 = some (h d, ρ1)) :
    compE fi vs fg yesT fe ρ = some (.list (ds.map h), ρ) := by
  have := compE_on (p := fun _ => true) (e := e) (h := h) (ft := yesT) hi hl fun d hd => by
    obtain ⟨ρ1, a, b, c⟩ := H d hd
    exact ⟨ρ1, a, b, rfl, fun _ => c⟩
  rw [this]
  congr 3
  rw [List.filter_eq_self.mpr fun _ _ => rfl]
theorem borE_eq {f : XE} {ρ : En} {d : D} (h : f ρ = some (d, ρ)) (l : lfree d = true) : borE f ρ = some (d, ρ) := by
  simp [borE, h, l]
theorem borT_eq {f : XT} {ρ : En} {b : Bool} (h : f ρ = some (b, ρ)) : borT f ρ = some (b, ρ) := by
  simp [borT, h]
theorem borF_eq {f : XE} {ρ : En} {ds : List D} (h : f ρ = some (.list ds, ρ)) (l : lfrees ds = true) : borF f ρ = some (.list ds, ρ) := by
  simp [borF, h, l]
theorem varE_eq {ρ : En} {i : Nat} {d : D} (h : ρ[i]? = some (some d)) : varE i ρ = some (d, ρ) := by
  simp [varE, h]
theorem atI_nat {α : Type} {xs : List α} {i : Nat} (h : i < xs.length) : L2.atI xs (i : Int) = xs[i]? := by
  unfold L2.atI L2.ixN
  rw [if_pos (by omega), if_pos (by omega)]
  rfl
theorem ixN_nat {n i : Nat} (h : i < n) : L2.ixN n (i : Int) = some i := by
  unfold L2.ixN
  rw [if_pos (by omega), if_pos (by omega)]
  rfl
/-- a loop that falls through -/
theorem loopS_all {fg : XG} {F : XS} (P : Nat → En → Prop) : ∀ {ds : List D} {ρ : En} (k : Nat), P k ρ →
    (∀ i d ρ, ds[i]? = some d → P (k + i) ρ → ∃ ρ1 ρ2, fg d ρ = some ρ1 ∧ F ρ1 = .nx ρ2 ∧ P (k + i + 1) ρ2) → ∃ ρ', loopS fg F ds ρ = .nx ρ' ∧ P (k + ds.length) ρ'
  | [], ρ, k, h0, _ => ⟨ρ, rfl, h0⟩
  | d :: ds, ρ, k, h0, H => by
    obtain ⟨ρ1, ρ2, a, b, c⟩ := H 0 d ρ rfl h0
    obtain ⟨ρ', e, q⟩ := loopS_all P (ds := ds) (k + 1) c fun i d' ρ hi hp => by
      have := H (i + 1) d' ρ hi (by rw [show k + (i + 1) = k + 1 + i by omega]; exact hp)
      rw [show k + (i + 1) + 1 = k + 1 + i + 1 by omega] at this
      exact this
    refine ⟨ρ', ?_, by rw [List.length_cons, show k + (ds.length + 1) = k + 1 + ds.length by omega]; exact q⟩
    simp only [loopS, a, b, e]
/-- .. or comes back -/
theorem loopS_or {fg : XG} {F : XS} (P : Nat → En → Prop) (R : D → En → Prop) : ∀ {ds : List D} {ρ : En} (k : Nat), P k ρ →
    (∀ i d ρ, ds[i]? = some d → P (k + i) ρ → ∃ ρ1, fg d ρ = some ρ1 ∧ ((∃ ρ2, F ρ1 = .nx ρ2 ∧ P (k + i + 1) ρ2) ∨ ∃ e ρ2, F ρ1 = .rt e ρ2 ∧ R e ρ2)) →
    (∃ ρ', loopS fg F ds ρ = .nx ρ' ∧ P (k + ds.length) ρ') ∨ ∃ e ρ', loopS fg F ds ρ = .rt e ρ' ∧ R e ρ'
  | [], ρ, k, h0, _ => .inl ⟨ρ, rfl, h0⟩
  | d :: ds, ρ, k, h0, H => by
    obtain ⟨ρ1, a, b | b⟩ := H 0 d ρ rfl h0
    · obtain ⟨ρ2, b, c⟩ := b
      rcases loopS_or P R (ds := ds) (k + 1) c fun i d' ρ hi hp => by
        have := H (i + 1) d' ρ hi (by rw [show k + (i + 1) = k + 1 + i by omega]; exact hp)
        rw [show k + (i + 1) + 1 = k + 1 + i + 1 by omega] at this
        exact this with ⟨ρ', e, q⟩ | ⟨x, ρ', e, q⟩
      · exact .inl ⟨ρ', by simp only [loopS, a, b, e], by rw [List.length_cons, show k + (ds.length + 1) = k + 1 + ds.length by omega]; exact q⟩
      · exact .inr ⟨x, ρ', by simp only [loopS, a, b, e], q⟩
    · obtain ⟨x, ρ2, b, c⟩ := b
      exact .inr ⟨x, ρ2, by simp only [loopS, a, b], c⟩
theorem forS_eq {fi : XI} {fg : XG} {F : XS} {ρ ρ1 : En} {ds : List D} (h : fi ρ = some (ds, ρ1)) : forS fi fg F ρ = loopS fg F ds ρ1 := by
  unfold forS
  rw [h]
theorem whileN_nx {T : XT} {F : XS} {n : Nat} {ρ ρ1 ρ2 : En} (t : T ρ = some (true, ρ1)) (b : F ρ1 = .nx ρ2) : whileN T F (n + 1) ρ = whileN T F n ρ2 := by
  simp only [whileN, t, if_true, b]
theorem whileN_end {T : XT} {F : XS} {n : Nat} {ρ ρ1 : En} (t : T ρ = some (false, ρ1)) : whileN T F (n + 1) ρ = .nx ρ1 := by
  simp only [whileN, t, Bool.false_eq_true, if_false]
/-! == of data -/
theorem eqB_int (a b : Int) : eqB (.int a) (.int b) = some (decide (a = b)) := by
  have h : eqB (.int a) (.int b) = some (PyData.eqv (.int a) (.int b)) := rfl
  rw [h]
  simp only [PyData.eqv, Option.some.injEq]
  by_cases e : a = b <;> simp [e]
end Lay

namespace Lay
open PySem PySem.Spec PyProof.Rows L2

/-! ## data that == and repr take -/
def Sh (k : Nat) (d : D) : Prop := d.canLay0 = true ∧ d.depth ≤ k
theorem sh_int (i : Int) : Sh 0 (.int i) := ⟨rfl, by simp [PyData.depth]⟩
theorem sh_bool (b : Bool) : Sh 0 (.bool b) := ⟨rfl, by simp [PyData.depth]⟩
theorem sh_none : Sh 0 .none := ⟨rfl, by simp [PyData.depth]⟩
theorem Sh.mono {k m : Nat} {d : D} (h : Sh k d) (l : k ≤ m) : Sh m d := ⟨h.1, Nat.le_trans h.2 l⟩
theorem sh_all {k : Nat} : ∀ {ds : List D}, (∀ d ∈ ds, Sh k d) → PyData.canLayAll0 ds = true ∧ PyData.depthAll ds ≤ k
  | [], _ => ⟨rfl, Nat.zero_le _⟩
  | d :: ds, h => by
    obtain ⟨a, b⟩ := h d List.mem_cons_self
    obtain ⟨c, e⟩ := sh_all (ds := ds) fun x hx => h x (List.mem_cons_of_mem _ hx)
    exact ⟨by simp [PyData.canLayAll0, a, c], by simp only [PyData.depthAll]; omega⟩
theorem sh_list {k : Nat} {ds : List D} (h : ∀ d ∈ ds, Sh k d) : Sh (k + 1) (.list ds) := by
  obtain ⟨a, b⟩ := sh_all h
  exact ⟨by simp [PyData.canLay0, a], by simp only [PyData.depth]; omega⟩
theorem sh_tup {k : Nat} {ds : List D} (h : ∀ d ∈ ds, Sh k d) : Sh (k + 1) (.tuple ds) := by
  obtain ⟨a, b⟩ := sh_all h
  exact ⟨by simp [PyData.canLay0, a], by simp only [PyData.depth]; omega⟩
theorem Sh.ok {k : Nat} {d : D} (h : Sh k d) (l : k ≤ 64) : SeqAt.shaped d = true := by
  unfold SeqAt.shaped
  rw [h.1, Bool.true_and]
  exact decide_eq_true (Nat.le_trans h.2 l)
theorem eqB_sh {x y : D} {k m : Nat} (h : Sh k x) (h' : Sh m y) (l : k ≤ 64) (l' : m ≤ 64) (ns : ∀ a, x ≠ .str a) : eqB x y = some (PyData.eqv x y) := by
  unfold eqB
  split
  · exact absurd rfl (ns _)
  · rw [if_pos ⟨h.ok l, h'.ok l'⟩]
mutual
theorem eqv_refl : ∀ d : D, d.canLay0 = true → PyData.eqv d d = true
  | .none, _ => rfl
  | .bool b, _ => by simp [PyData.eqv]
  | .int i, _ => by simp [PyData.eqv]
  | .str x, _ => by simp [PyData.eqv]
  | .list ds, h => by simp only [PyData.eqv]; exact eqvAll_refl ds (by simpa [PyData.canLay0] using h)
  | .tuple ds, h => by simp only [PyData.eqv]; exact eqvAll_refl ds (by simpa [PyData.canLay0] using h)
  | .dict _, h => by simp [PyData.canLay0] at h
theorem eqvAll_refl : ∀ ds : List D, PyData.canLayAll0 ds = true → PyData.eqvAll ds ds = true
  | [], _ => rfl
  | d :: ds, h => by
    simp only [PyData.canLayAll0, Bool.and_eq_true] at h
    simp only [PyData.eqvAll, Bool.and_eq_true]
    exact ⟨eqv_refl d h.1, eqvAll_refl ds h.2⟩
end
def Tx (B : Nat) (d : D) : Prop := d.showable = true ∧ d.shown.length ≤ B
theorem tx_int {i : Int} (h : i.natAbs.log2 < 1920) : Tx 1921 (.int i) := ⟨by simp [PyData.showable, h], by simp only [PyData.shown]; exact int_text_len_1921 h⟩
theorem tx_none : Tx 4 .none := ⟨rfl, by simp only [PyData.shown]; decide⟩
theorem Tx.mono {k m : Nat} {d : D} (h : Tx k d) (l : k ≤ m) : Tx m d := ⟨h.1, Nat.le_trans h.2 l⟩
theorem tx_all {B : Nat} : ∀ {ds : List D}, (∀ d ∈ ds, Tx B d) → PyData.showableAll ds = true ∧ (PyData.shownAll ds).length = ds.length ∧ ∀ t ∈ PyData.shownAll ds, t.length ≤ B
  | [], _ => ⟨rfl, rfl, fun _ h => nomatch h⟩
  | d :: ds, h => by
    obtain ⟨a, b⟩ := h d List.mem_cons_self
    obtain ⟨c, e, f⟩ := tx_all (ds := ds) fun x hx => h x (List.mem_cons_of_mem _ hx)
    refine ⟨by simp [PyData.showableAll, a, c], by simp [PyData.shownAll, e], fun t ht => ?_⟩
    simp only [PyData.shownAll, List.mem_cons] at ht
    rcases ht with rfl | ht
    · exact b
    · exact f t ht
theorem str_app (a b : Str) : (a ++ b).length = a.length + b.length := by
  show (a.cps ++ b.cps).size = _
  rw [Array.size_append]
  rfl
theorem textFrom_le {B : Nat} : ∀ (ts : List Str) (k : Nat) (acc : Str), (∀ t ∈ ts, t.length ≤ B) → (textFrom k acc ts).length ≤ acc.length + ts.length * (B + 2)
  | [], k, acc, _ => by show acc.length ≤ _; omega
  | t :: r, k, acc, h => by
    have ih := textFrom_le r (k + 1) (acc ++ (if k > 0 then ", " else "" : String) ++ t) fun x hx => h x (List.mem_cons_of_mem _ hx)
    have ht := h t List.mem_cons_self
    have hc : ((if k > 0 then ", " else "" : String) : Str).length ≤ 2 := by split <;> decide
    rw [str_app, str_app] at ih
    show (textFrom (k + 1) _ r).length ≤ _
    rw [List.length_cons, Nat.add_mul, Nat.one_mul]
    omega
theorem join_le {B : Nat} (ts : List Str) (h : ∀ t ∈ ts, t.length ≤ B) : (Str.join ", " ts).length ≤ ts.length * (B + 2) := by
  cases ts with
  | nil => exact Nat.zero_le _
  | cons t r =>
    have := join_length_add (t :: r) (by simp)
    have hp : ∀ l : List Str, (∀ x ∈ l, x.length ≤ B) → piled l ≤ l.length * (B + 2) := by
      intro l
      induction l with
      | nil => intro _; rw [piled_nil]; exact Nat.zero_le _
      | cons x l ih =>
        intro hl
        have a := ih fun y hy => hl y (List.mem_cons_of_mem _ hy)
        have b := hl x List.mem_cons_self
        rw [List.length_cons, Nat.add_mul, Nat.one_mul]
        rw [piled_cons]
        omega
    have := hp _ h
    omega
theorem tx_list {B n : Nat} {ds : List D} (h : ∀ d ∈ ds, Tx B d) (hn : ds.length ≤ n) : Tx (n * (B + 2) + 4) (.list ds) := by
  obtain ⟨a, b, c⟩ := tx_all h
  refine ⟨by simp [PyData.showable, a], ?_⟩
  have := textFrom_le (PyData.shownAll ds) 0 "[" c
  simp only [PyData.shown, listText]
  rw [str_app]
  rw [b] at this
  have m := Nat.mul_le_mul_right (B + 2) hn
  have e1 : (("[" : String) : Str).length = 1 := rfl
  have e2 : (("]" : String) : Str).length = 1 := rfl
  omega
theorem tx_tup {B n : Nat} {ds : List D} (h : ∀ d ∈ ds, Tx B d) (hn : ds.length ≤ n) : Tx (n * (B + 2) + 4) (.tuple ds) := by
  obtain ⟨a, b, c⟩ := tx_all h
  refine ⟨by simp [PyData.showable, a], ?_⟩
  have := join_le (PyData.shownAll ds) c
  simp only [PyData.shown, tupleText]
  rw [str_app, str_app]
  rw [b] at this
  have m := Nat.mul_le_mul_right (B + 2) hn
  have e1 : (("(" : String) : Str).length = 1 := rfl
  have e2 : ((if (PyData.shownAll ds).length == 1 then ",)" else ")" : String) : Str).length ≤ 2 := by split <;> decide
  omega
theorem repr_eq {k B : Nat} {d : D} (h : Sh k d) (t : Tx B d) (l : k ≤ 64) (m : B ≤ sizeLine) : reprD d = some (.str d.shown) := by
  unfold reprD
  rw [if_pos ⟨h.ok l, t.1, Nat.le_trans t.2 m⟩]
theorem eqB_str (a b : Str) : eqB (.str a) (.str b) = some (a == b) := rfl
end Lay

namespace Lay
open PySem PySem.Spec PyProof.Rows L2
abbrev topS (i : Nat) : Stmt := PySem.Challenge.pw_soldwhole_k35_linear_rows.main.body.getD i (.Pass ⟨0,0,0,0⟩)
def c_NOUGHT : D := .tuple [.int 0, .int 1]
abbrev s_common_divisor : Stmt := topS 1
abbrev n_common_divisor : List Str := ["one", "other"]
theorem N_common_divisor : n_common_divisor.Nodup := by decide +kernel
theorem sc_common_divisor : FnScope n_common_divisor ["one", "other"] (defScope s_common_divisor) := ⟨rfl, rfl, rfl, N_common_divisor, rfl, by decide +kernel, by decide +kernel⟩
noncomputable def S_common_divisor : XS :=
    seqS (whileS (fuN 1) (tE (opE neD (varE 1) (cE (.int 0))))
    (seqS (parS 0 1 (consA (varE 1) (consA (opE modD (clE (g1 intD) (consA (varE 0) nilA)) (varE 1)) (nilA))))
    (nopS)))
    (seqS (retS (varE 0)) (nopS))
noncomputable def F_common_divisor : List D → Option D := runP 0 S_common_divisor
theorem w_common_divisor {C : Ct} (B : Blt C.mg) (hf : FnHere C "common_divisor" (defArgs s_common_divisor) (defBody s_common_divisor) (defScope s_common_divisor)) : Fn C "common_divisor" 1 ["one", "other"] (spP C.K 2 F_common_divisor) :=
  fnP (k := 0) (ow2 := []) hf sc_common_divisor 0 rfl (fun _ _ _ _ _ _ us hl => match us, hl with | [_, _], _ => rfl) fun _ _ _ _ _ _ _ F =>
    (rss_cons (rs_while (tc := []) (fuN 1) (rt_ne F (re_var F 1 rfl (by first | exact fun _ => Or.inl rfl | exact fun _ => Or.inr (Or.inl rfl) | exact fun _ => Or.inr (Or.inr rfl)) rfl) re_int)
    (rss_cons (rs_par (tc := []) F 0 1 (ra_cons (re_var F 1 rfl (by first | exact fun _ => Or.inl rfl | exact fun _ => Or.inr (Or.inl rfl) | exact fun _ => Or.inr (Or.inr rfl)) rfl) (ra_cons (re_mod (re_intc F B (re_var F 0 rfl (by first | exact fun _ => Or.inl rfl | exact fun _ => Or.inr (Or.inl rfl) | exact fun _ => Or.inr (Or.inr rfl)) rfl) (fun _ => rfl) (fun _ => rfl) (fun _ => rfl)) (re_var F 1 rfl (by first | exact fun _ => Or.inl rfl | exact fun _ => Or.inr (Or.inl rfl) | exact fun _ => Or.inr (Or.inr rfl)) rfl)) ra_nil (fun _ => rfl)) (fun _ => rfl)) rfl rfl (by decide) rfl rfl (fun _ => rfl) (fun _ => rfl) (fun _ => rfl) (fun _ => rfl))
    (rss_nil rfl))
    (fun _ => PassesOwn.never))
    (rss_cons (ow1 := []) (rs_ret (tc := []) (re_var F 0 rfl (by first | exact fun _ => Or.inl rfl | exact fun _ => Or.inr (Or.inl rfl) | exact fun _ => Or.inr (Or.inr rfl)) rfl) rfl) (rss_nil rfl)))
abbrev s_reduced : Stmt := topS 2
abbrev n_reduced : List Str := ["n", "d", "shared"]
theorem N_reduced : n_reduced.Nodup := by decide +kernel
theorem sc_reduced : FnScope n_reduced ["n", "d"] (defScope s_reduced) := ⟨rfl, rfl, rfl, N_reduced, rfl, by decide +kernel, by decide +kernel⟩
noncomputable def S_reduced : XS :=
    seqS (setS 2 (clE F_common_divisor (consA (clE (g1 absD) (consA (varE 0) nilA)) (consA (clE (g1 absD) (consA (varE 1) nilA)) (nilA)))))
    (seqS (setS 2 (ifE (tE (opE gtI (varE 1) (cE (.int 0)))) (varE 2) (opE subD (cE (.int 0)) (varE 2))))
    (seqS (retS (tupE (consA (opE fdivD (varE 0) (varE 2)) (consA (opE fdivD (varE 1) (varE 2)) (nilA))))) (nopS)))
noncomputable def F_reduced : List D → Option D := runP 1 S_reduced
theorem w_reduced {C : Ct} (B : Blt C.mg) (h_common_divisor : Fn C "common_divisor" 1 ["one", "other"] (spP C.K 2 F_common_divisor)) (hf : FnHere C "reduced" (defArgs s_reduced) (defBody s_reduced) (defScope s_reduced)) : Fn C "reduced" 2 ["n", "d"] (spP C.K 2 F_reduced) :=
  fnP (k := 1) (ow2 := []) hf sc_reduced 1 rfl (fun _ _ _ _ _ _ us hl => match us, hl with | [_, _], _ => rfl) fun _ _ _ _ _ _ _ F =>
    (rss_cons (rs_set (tc := []) F 2 (re_callP F h_common_divisor (by omega) rfl (fun _ => rfl) (ra_cons (re_abs F B (re_var F 0 rfl (by first | exact fun _ => Or.inl rfl | exact fun _ => Or.inr (Or.inl rfl) | exact fun _ => Or.inr (Or.inr rfl)) rfl) (fun _ => rfl) (fun _ => rfl) (fun _ => rfl)) (ra_cons (re_abs F B (re_var F 1 rfl (by first | exact fun _ => Or.inl rfl | exact fun _ => Or.inr (Or.inl rfl) | exact fun _ => Or.inr (Or.inr rfl)) rfl) (fun _ => rfl) (fun _ => rfl) (fun _ => rfl)) ra_nil (fun _ => rfl)) (fun _ => rfl)) (fun _ => rfl) (fun _ => rfl)) rfl (by first | exact fun _ => Or.inl rfl | exact fun _ => Or.inr rfl) rfl (by first | exact fun _ => Or.inr rfl | exact fun _ => Or.inl rfl) (fun _ => rfl))
    (rss_cons (rs_set (tc := []) F 2 (re_if (rt_gt  (re_var F 1 rfl (by first | exact fun _ => Or.inl rfl | exact fun _ => Or.inr (Or.inl rfl) | exact fun _ => Or.inr (Or.inr rfl)) rfl) re_int) (re_var F 2 rfl (by first | exact fun _ => Or.inl rfl | exact fun _ => Or.inr (Or.inl rfl) | exact fun _ => Or.inr (Or.inr rfl)) rfl) (re_sub re_int (re_var F 2 rfl (by first | exact fun _ => Or.inl rfl | exact fun _ => Or.inr (Or.inl rfl) | exact fun _ => Or.inr (Or.inr rfl)) rfl))) rfl (by first | exact fun _ => Or.inl rfl | exact fun _ => Or.inr rfl) rfl (by first | exact fun _ => Or.inr rfl | exact fun _ => Or.inl rfl) (fun _ => rfl))
    (rss_cons (ow1 := []) (rs_ret (tc := []) (re_tup (ra_cons (re_fdiv (re_var F 0 rfl (by first | exact fun _ => Or.inl rfl | exact fun _ => Or.inr (Or.inl rfl) | exact fun _ => Or.inr (Or.inr rfl)) rfl) (re_var F 2 rfl (by first | exact fun _ => Or.inl rfl | exact fun _ => Or.inr (Or.inl rfl) | exact fun _ => Or.inr (Or.inr rfl)) rfl)) (ra_cons (re_fdiv (re_var F 1 rfl (by first | exact fun _ => Or.inl rfl | exact fun _ => Or.inr (Or.inl rfl) | exact fun _ => Or.inr (Or.inr rfl)) rfl) (re_var F 2 rfl (by first | exact fun _ => Or.inl rfl | exact fun _ => Or.inr (Or.inl rfl) | exact fun _ => Or.inr (Or.inr rfl)) rfl)) ra_nil (fun _ => rfl)) (fun _ => rfl))) rfl) (rss_nil rfl))))
abbrev s_lessened : Stmt := topS 3
abbrev n_lessened : List Str := ["one", "other"]
theorem N_lessened : n_lessened.Nodup := by decide +kernel
theorem sc_lessened : FnScope n_lessened ["one", "other"] (defScope s_lessened) := ⟨rfl, rfl, rfl, N_lessened, rfl, by decide +kernel, by decide +kernel⟩
noncomputable def S_lessened : XS :=
    seqS (retS (clE F_reduced (consA (opE subD (opE mulD (opE ixD (varE 0) (cE (.int 0))) (opE ixD (varE 1) (cE (.int 1)))) (opE mulD (opE ixD (varE 1) (cE (.int 0))) (opE ixD (varE 0) (cE (.int 1))))) (consA (opE mulD (opE ixD (varE 0) (cE (.int 1))) (opE ixD (varE 1) (cE (.int 1)))) (nilA))))) (nopS)
noncomputable def F_lessened : List D → Option D := runP 0 S_lessened
theorem w_lessened {C : Ct} (B : Blt C.mg) (h_reduced : Fn C "reduced" 2 ["n", "d"] (spP C.K 2 F_reduced)) (hf : FnHere C "lessened" (defArgs s_lessened) (defBody s_lessened) (defScope s_lessened)) : Fn C "lessened" 3 ["one", "other"] (spP C.K 2 F_lessened) :=
  fnP (k := 2) (ow2 := []) hf sc_lessened 0 rfl (fun _ _ _ _ _ _ us hl => match us, hl with | [_, _], _ => rfl) fun _ _ _ _ _ _ _ F =>
    (rss_cons (ow1 := []) (rs_ret (tc := []) (re_callP F h_reduced (by omega) rfl (fun _ => rfl) (ra_cons (re_sub (re_mul (re_ix F (re_var F 0 rfl (by first | exact fun _ => Or.inl rfl | exact fun _ => Or.inr (Or.inl rfl) | exact fun _ => Or.inr (Or.inr rfl)) rfl) re_int (fun _ _ => rfl)) (re_ix F (re_var F 1 rfl (by first | exact fun _ => Or.inl rfl | exact fun _ => Or.inr (Or.inl rfl) | exact fun _ => Or.inr (Or.inr rfl)) rfl) re_int (fun _ _ => rfl))) (re_mul (re_ix F (re_var F 1 rfl (by first | exact fun _ => Or.inl rfl | exact fun _ => Or.inr (Or.inl rfl) | exact fun _ => Or.inr (Or.inr rfl)) rfl) re_int (fun _ _ => rfl)) (re_ix F (re_var F 0 rfl (by first | exact fun _ => Or.inl rfl | exact fun _ => Or.inr (Or.inl rfl) | exact fun _ => Or.inr (Or.inr rfl)) rfl) re_int (fun _ _ => rfl)))) (ra_cons (re_mul (re_ix F (re_var F 0 rfl (by first | exact fun _ => Or.inl rfl | exact fun _ => Or.inr (Or.inl rfl) | exact fun _ => Or.inr (Or.inr rfl)) rfl) re_int (fun _ _ => rfl)) (re_ix F (re_var F 1 rfl (by first | exact fun _ => Or.inl rfl | exact fun _ => Or.inr (Or.inl rfl) | exact fun _ => Or.inr (Or.inr rfl)) rfl) re_int (fun _ _ => rfl))) ra_nil (fun _ => rfl)) (fun _ => rfl)) (fun _ => rfl) (fun _ => rfl)) rfl) (rss_nil rfl))
abbrev s_times : Stmt := topS 4
abbrev n_times : List Str := ["one", "other"]
theorem N_times : n_times.Nodup := by decide +kernel
theorem sc_times : FnScope n_times ["one", "other"] (defScope s_times) := ⟨rfl, rfl, rfl, N_times, rfl, by decide +kernel, by decide +kernel⟩
noncomputable def S_times : XS :=
    seqS (retS (clE F_reduced (consA (opE mulD (opE ixD (varE 0) (cE (.int 0))) (opE ixD (varE 1) (cE (.int 0)))) (consA (opE mulD (opE ixD (varE 0) (cE (.int 1))) (opE ixD (varE 1) (cE (.int 1)))) (nilA))))) (nopS)
noncomputable def F_times : List D → Option D := runP 0 S_times
theorem w_times {C : Ct} (B : Blt C.mg) (h_reduced : Fn C "reduced" 2 ["n", "d"] (spP C.K 2 F_reduced)) (hf : FnHere C "times" (defArgs s_times) (defBody s_times) (defScope s_times)) : Fn C "times" 3 ["one", "other"] (spP C.K 2 F_times) :=
  fnP (k := 2) (ow2 := []) hf sc_times 0 rfl (fun _ _ _ _ _ _ us hl => match us, hl with | [_, _], _ => rfl) fun _ _ _ _ _ _ _ F =>
    (rss_cons (ow1 := []) (rs_ret (tc := []) (re_callP F h_reduced (by omega) rfl (fun _ => rfl) (ra_cons (re_mul (re_ix F (re_var F 0 rfl (by first | exact fun _ => Or.inl rfl | exact fun _ => Or.inr (Or.inl rfl) | exact fun _ => Or.inr (Or.inr rfl)) rfl) re_int (fun _ _ => rfl)) (re_ix F (re_var F 1 rfl (by first | exact fun _ => Or.inl rfl | exact fun _ => Or.inr (Or.inl rfl) | exact fun _ => Or.inr (Or.inr rfl)) rfl) re_int (fun _ _ => rfl))) (ra_cons (re_mul (re_ix F (re_var F 0 rfl (by first | exact fun _ => Or.inl rfl | exact fun _ => Or.inr (Or.inl rfl) | exact fun _ => Or.inr (Or.inr rfl)) rfl) re_int (fun _ _ => rfl)) (re_ix F (re_var F 1 rfl (by first | exact fun _ => Or.inl rfl | exact fun _ => Or.inr (Or.inl rfl) | exact fun _ => Or.inr (Or.inr rfl)) rfl) re_int (fun _ _ => rfl))) ra_nil (fun _ => rfl)) (fun _ => rfl)) (fun _ => rfl) (fun _ => rfl)) rfl) (rss_nil rfl))
abbrev s_over : Stmt := topS 5
abbrev n_over : List Str := ["one", "other"]
theorem N_over : n_over.Nodup := by decide +kernel
theorem sc_over : FnScope n_over ["one", "other"] (defScope s_over) := ⟨rfl, rfl, rfl, N_over, rfl, by decide +kernel, by decide +kernel⟩
noncomputable def S_over : XS :=
    seqS (retS (clE F_reduced (consA (opE mulD (opE ixD (varE 0) (cE (.int 0))) (opE ixD (varE 1) (cE (.int 1)))) (consA (opE mulD (opE ixD (varE 0) (cE (.int 1))) (opE ixD (varE 1) (cE (.int 0)))) (nilA))))) (nopS)
noncomputable def F_over : List D → Option D := runP 0 S_over
theorem w_over {C : Ct} (B : Blt C.mg) (h_reduced : Fn C "reduced" 2 ["n", "d"] (spP C.K 2 F_reduced)) (hf : FnHere C "over" (defArgs s_over) (defBody s_over) (defScope s_over)) : Fn C "over" 3 ["one", "other"] (spP C.K 2 F_over) :=
  fnP (k := 2) (ow2 := []) hf sc_over 0 rfl (fun _ _ _ _ _ _ us hl => match us, hl with | [_, _], _ => rfl) fun _ _ _ _ _ _ _ F =>
    (rss_cons (ow1 := []) (rs_ret (tc := []) (re_callP F h_reduced (by omega) rfl (fun _ => rfl) (ra_cons (re_mul (re_ix F (re_var F 0 rfl (by first | exact fun _ => Or.inl rfl | exact fun _ => Or.inr (Or.inl rfl) | exact fun _ => Or.inr (Or.inr rfl)) rfl) re_int (fun _ _ => rfl)) (re_ix F (re_var F 1 rfl (by first | exact fun _ => Or.inl rfl | exact fun _ => Or.inr (Or.inl rfl) | exact fun _ => Or.inr (Or.inr rfl)) rfl) re_int (fun _ _ => rfl))) (ra_cons (re_mul (re_ix F (re_var F 0 rfl (by first | exact fun _ => Or.inl rfl | exact fun _ => Or.inr (Or.inl rfl) | exact fun _ => Or.inr (Or.inr rfl)) rfl) re_int (fun _ _ => rfl)) (re_ix F (re_var F 1 rfl (by first | exact fun _ => Or.inl rfl | exact fun _ => Or.inr (Or.inl rfl) | exact fun _ => Or.inr (Or.inr rfl)) rfl) re_int (fun _ _ => rfl))) ra_nil (fun _ => rfl)) (fun _ => rfl)) (fun _ => rfl) (fun _ => rfl)) rfl) (rss_nil rfl))
abbrev s_led : Stmt := topS 8
abbrev n_led : List Str := ["row", "by", "factor", "one", "other"]
theorem N_led : n_led.Nodup := by decide +kernel
theorem sc_led : FnScope n_led ["row", "by", "factor"] (defScope s_led) := ⟨rfl, rfl, rfl, N_led, rfl, by decide +kernel, by decide +kernel⟩
noncomputable def S_led : XS :=
    seqS (retS (compE (zipE (consA (varE 0) (consA (varE 1) (nilA)))) [3, 4] (tupG (consG (nameG 3) (consG (nameG 4) (nilG)))) (yesT) (clE F_lessened (consA (varE 3) (consA (clE F_times (consA (varE 2) (consA (varE 4) (nilA)))) (nilA)))))) (nopS)
noncomputable def F_led : List D → Option D := runPF 2 S_led
theorem w_led {C : Ct} (B : Blt C.mg) (h_lessened : Fn C "lessened" 3 ["one", "other"] (spP C.K 2 F_lessened)) (h_times : Fn C "times" 3 ["one", "other"] (spP C.K 2 F_times)) (hf : FnHere C "led" (defArgs s_led) (defBody s_led) (defScope s_led)) : Fn C "led" 4 ["row", "by", "factor"] (spPF C.K 3 F_led) :=
  fnPF (k := 3) (ow2 := []) hf sc_led 2 rfl (fun _ _ _ _ _ _ us hl => match us, hl with | [_, _, _], _ => rfl) fun _ _ _ _ _ _ _ F =>
    (rss_cons (ow1 := []) (rs_retF (tc := []) (rf_lc F (ri_zip F B.zip (fun _ => rfl) (ra_cons (re_var F 0 rfl (by first | exact fun _ => Or.inl rfl | exact fun _ => Or.inr (Or.inl rfl) | exact fun _ => Or.inr (Or.inr rfl)) rfl) (ra_cons (re_var F 1 rfl (by first | exact fun _ => Or.inl rfl | exact fun _ => Or.inr (Or.inl rfl) | exact fun _ => Or.inr (Or.inr rfl)) rfl) ra_nil (fun _ => rfl)) (fun _ => rfl)) (fun _ => rfl) (fun _ => rfl)) (fun _ => blkOk_by (by first | decide +kernel | kernel_rfl)) (rg_tup (Fam.blk F _) (rgs_cons (rg_name (Fam.blk F _) 3 rfl (by first | exact fun _ => Or.inl rfl | exact fun _ => Or.inr rfl) rfl (by first | exact fun _ => Or.inr rfl | exact fun _ => Or.inl rfl)) (rgs_cons (rg_name (Fam.blk F _) 4 rfl (by first | exact fun _ => Or.inl rfl | exact fun _ => Or.inr rfl) rfl (by first | exact fun _ => Or.inr rfl | exact fun _ => Or.inl rfl)) rgs_nil (fun _ => rfl)) (fun _ => rfl)) (fun _ => rfl) (fun _ => rfl)) rq_nil (re_callP (Fam.blk F _) h_lessened (by omega) rfl (fun _ => rfl) (ra_cons (re_var (Fam.blk F _) 3 rfl (by first | exact fun _ => Or.inl rfl | exact fun _ => Or.inr (Or.inl rfl) | exact fun _ => Or.inr (Or.inr rfl)) rfl) (ra_cons (re_callP (Fam.blk F _) h_times (by omega) rfl (fun _ => rfl) (ra_cons (re_var (Fam.blk F _) 2 rfl (by first | exact fun _ => Or.inl rfl | exact fun _ => Or.inr (Or.inl rfl) | exact fun _ => Or.inr (Or.inr rfl)) rfl) (ra_cons (re_var (Fam.blk F _) 4 rfl (by first | exact fun _ => Or.inl rfl | exact fun _ => Or.inr (Or.inl rfl) | exact fun _ => Or.inr (Or.inr rfl)) rfl) ra_nil (fun _ => rfl)) (fun _ => rfl)) (fun _ => rfl) (fun _ => rfl)) ra_nil (fun _ => rfl)) (fun _ => rfl)) (fun _ => rfl) (fun _ => rfl)) (fun _ _ => rfl) rfl rfl (ownL := [("one", 3), ("other", 4)])) rfl) (rss_nil rfl))
abbrev s_solved : Stmt := topS 9
abbrev n_solved : List Str := ["rows", "right", "table", "at", "good", "index", "row", "end", "one"]
theorem N_solved : n_solved.Nodup := by decide +kernel
theorem sc_solved : FnScope n_solved ["rows", "right"] (defScope s_solved) := ⟨rfl, rfl, rfl, N_solved, rfl, by decide +kernel, by decide +kernel⟩
noncomputable def S_solved : XS :=
    seqS (ownS 2 (compE (zipE (consA (varE 0) (consA (varE 1) (nilA)))) [6, 7] (tupG (consG (nameG 6) (consG (nameG 7) (nilG)))) (yesT) (opE addD (clE (g1 listD) (consA (varE 6) nilA)) (lstE (consA (varE 7) (nilA))))))
    (seqS (forS (rngE (consA (borE (clE (g1 lenD) (consA (varE 2) nilA))) (nilA))) (nameG 3)
    (seqS (setS 4 (compE (rngE (consA (varE 3) (consA (borE (clE (g1 lenD) (consA (varE 2) nilA))) (nilA)))) [5] (nameG 5) (tE (opE neD (opE ixD (ixoE 2 (varE 5)) (varE 3)) (cE c_NOUGHT))) (varE 5)))
    (seqS (ifS (tE (opE eqD (varE 4) (lstE (nilA))))
    (seqS (retS (cE .none)) (nopS))
    (nopS))
    (seqS (swapS 2 (tupE (consA (ixoE 2 (opE ixD (varE 4) (cE (.int 0)))) (consA (ixoE 2 (varE 3)) (nilA)))) (varE 3) (opE ixD (varE 4) (cE (.int 0))))
    (seqS (setiS 2 (varE 3) (compE (itE (ixoE 2 (varE 3))) [8] (nameG 8) (yesT) (clE F_over (consA (varE 8) (consA (opE ixD (ixoE 2 (varE 3)) (varE 3)) (nilA))))))
    (seqS (forS (rngE (consA (borE (clE (g1 lenD) (consA (varE 2) nilA))) (nilA))) (nameG 5)
    (seqS (ifS (andT (tE (opE neD (varE 5) (varE 3))) (tE (opE neD (opE ixD (ixoE 2 (varE 5)) (varE 3)) (cE c_NOUGHT))))
    (seqS (setiS 2 (varE 5) (clE F_led (consA (ixoE 2 (varE 5)) (consA (ixoE 2 (varE 3)) (consA (opE ixD (ixoE 2 (varE 5)) (varE 3)) (nilA))))))
    (nopS))
    (nopS))
    (killS [5])))
    (killS [3, 4, 5])))))))
    (seqS (retS (clE (g1 tupleD) (consA (compE (itE (varE 2)) [6] (nameG 6) (yesT) (opE ixD (varE 6) (unE negD (cE (.int 1))))) nilA))) (nopS)))
noncomputable def F_solved : List D → Option D := runP 7 S_solved
theorem w_solved {C : Ct} (B : Blt C.mg) (h_NOUGHT : Cst C "NOUGHT" c_NOUGHT) (h_over : Fn C "over" 3 ["one", "other"] (spP C.K 2 F_over)) (h_led : Fn C "led" 4 ["row", "by", "factor"] (spPF C.K 3 F_led)) (hf : FnHere C "solved" (defArgs s_solved) (defBody s_solved) (defScope s_solved)) : Fn C "solved" 5 ["rows", "right"] (spP C.K 2 F_solved) :=
  fnP (k := 4) (ow2 := []) hf sc_solved 7 rfl (fun _ _ _ _ _ _ us hl => match us, hl with | [_, _], _ => rfl) fun _ _ _ _ _ _ _ F =>
    (rss_cons (rs_own (tc := []) F 2 (rf_lc F (ri_zip F B.zip (fun _ => rfl) (ra_cons (re_var F 0 rfl (by first | exact fun _ => Or.inl rfl | exact fun _ => Or.inr (Or.inl rfl) | exact fun _ => Or.inr (Or.inr rfl)) rfl) (ra_cons (re_var F 1 rfl (by first | exact fun _ => Or.inl rfl | exact fun _ => Or.inr (Or.inl rfl) | exact fun _ => Or.inr (Or.inr rfl)) rfl) ra_nil (fun _ => rfl)) (fun _ => rfl)) (fun _ => rfl) (fun _ => rfl)) (fun _ => blkOk_by (by first | decide +kernel | kernel_rfl)) (rg_tup (Fam.blk F _) (rgs_cons (rg_name (Fam.blk F _) 6 rfl (by first | exact fun _ => Or.inl rfl | exact fun _ => Or.inr rfl) rfl (by first | exact fun _ => Or.inr rfl | exact fun _ => Or.inl rfl)) (rgs_cons (rg_name (Fam.blk F _) 7 rfl (by first | exact fun _ => Or.inl rfl | exact fun _ => Or.inr rfl) rfl (by first | exact fun _ => Or.inr rfl | exact fun _ => Or.inl rfl)) rgs_nil (fun _ => rfl)) (fun _ => rfl)) (fun _ => rfl) (fun _ => rfl)) rq_nil (re_add (Fam.blk F _) (RF.re (rf_list (Fam.blk F _) B (re_var (Fam.blk F _) 6 rfl (by first | exact fun _ => Or.inl rfl | exact fun _ => Or.inr (Or.inl rfl) | exact fun _ => Or.inr (Or.inr rfl)) rfl) (fun _ => rfl) (fun _ => rfl) (fun _ => rfl))) (RF.re (rf_lst (ra_cons (re_var (Fam.blk F _) 7 rfl (by first | exact fun _ => Or.inl rfl | exact fun _ => Or.inr (Or.inl rfl) | exact fun _ => Or.inr (Or.inr rfl)) rfl) ra_nil (fun _ => rfl))))) (fun _ _ => rfl) rfl rfl (ownL := [("row", 6), ("end", 7)])) rfl (by first | exact fun _ => Or.inl rfl | exact fun _ => Or.inr rfl) rfl (fun _ => fun h => ps_set (i := 2) N_solved rfl (by first | exact Or.inl rfl | exact Or.inr rfl) h) rfl)
    (rss_cons (rs_for (tc := []) F (ri_rng1 F B.range (fun _ => rfl) (ra_cons (re_bor (ow1 := []) (re_len F B (re_var F 2 rfl (by first | exact fun _ => Or.inl rfl | exact fun _ => Or.inr (Or.inl rfl) | exact fun _ => Or.inr (Or.inr rfl)) rfl) (fun _ => rfl) (fun _ => rfl) (fun _ => rfl)) rfl) ra_nil (fun _ => rfl)) (fun _ => rfl)) (rg_name F 3 rfl (by first | exact fun _ => Or.inl rfl | exact fun _ => Or.inr rfl) rfl (by first | exact fun _ => Or.inr rfl | exact fun _ => Or.inl rfl))
    (rss_cons (rs_setLc (tc := []) F 4 rfl (fun _ => rfl) rfl (fun _ => sw_true rfl rfl rfl (by decide +kernel)) (ri_rng2 F B.range (fun _ => rfl) (ra_cons (re_var F 3 rfl (by first | exact fun _ => Or.inl rfl | exact fun _ => Or.inr (Or.inl rfl) | exact fun _ => Or.inr (Or.inr rfl)) rfl) (ra_cons (re_bor (ow1 := []) (re_len F B (re_var F 2 rfl (by first | exact fun _ => Or.inl rfl | exact fun _ => Or.inr (Or.inl rfl) | exact fun _ => Or.inr (Or.inr rfl)) rfl) (fun _ => rfl) (fun _ => rfl) (fun _ => rfl)) rfl) ra_nil (fun _ => rfl)) (fun _ => rfl)) (fun _ => rfl) (fun _ => rfl)) (fun _ => blkOk_by (by first | decide +kernel | kernel_rfl)) (rg_name (Fam.blk F _) 5 rfl (by first | exact fun _ => Or.inl rfl | exact fun _ => Or.inr rfl) rfl (by first | exact fun _ => Or.inr rfl | exact fun _ => Or.inl rfl)) (rq_one (rt_ne (Fam.blk F _) (re_ix (Fam.blk F _) (re_ixo (Fam.blk F _) 2 rfl rfl (by first | exact fun _ => Or.inl rfl | exact fun _ => Or.inr (Or.inl rfl) | exact fun _ => Or.inr (Or.inr rfl)) (re_var (Fam.blk F _) 5 rfl (by first | exact fun _ => Or.inl rfl | exact fun _ => Or.inr (Or.inl rfl) | exact fun _ => Or.inr (Or.inr rfl)) rfl) (fun _ _ => rfl)) (re_var (Fam.blk F _) 3 rfl (by first | exact fun _ => Or.inl rfl | exact fun _ => Or.inr (Or.inl rfl) | exact fun _ => Or.inr (Or.inr rfl)) rfl) (fun _ _ => rfl)) (re_cg (Fam.blk F _) h_NOUGHT (fun _ => rfl)))) (re_var (Fam.blk F _) 5 rfl (by first | exact fun _ => Or.inl rfl | exact fun _ => Or.inr (Or.inl rfl) | exact fun _ => Or.inr (Or.inr rfl)) rfl) (fun _ _ => rfl) rfl rfl (ownL := [("index", 5)]))
    (rss_cons (rs_if (tc := []) (ow2 := [2]) (rt_eq F (re_var F 4 rfl (by first | exact fun _ => Or.inl rfl | exact fun _ => Or.inr (Or.inl rfl) | exact fun _ => Or.inr (Or.inr rfl)) rfl) (RF.re (rf_lst ra_nil)))
    (rss_cons (ow1 := [2]) (rs_ret (tc := []) re_non rfl) (rss_nil rfl))
    (rss_nil rfl))
    (rss_cons (rs_swap (tc := []) F 2 (re_tup (ra_cons (re_ixo F 2 rfl rfl (by first | exact fun _ => Or.inl rfl | exact fun _ => Or.inr (Or.inl rfl) | exact fun _ => Or.inr (Or.inr rfl)) (re_ix F (re_var F 4 rfl (by first | exact fun _ => Or.inl rfl | exact fun _ => Or.inr (Or.inl rfl) | exact fun _ => Or.inr (Or.inr rfl)) rfl) re_int (fun _ _ => rfl)) (fun _ _ => rfl)) (ra_cons (re_ixo F 2 rfl rfl (by first | exact fun _ => Or.inl rfl | exact fun _ => Or.inr (Or.inl rfl) | exact fun _ => Or.inr (Or.inr rfl)) (re_var F 3 rfl (by first | exact fun _ => Or.inl rfl | exact fun _ => Or.inr (Or.inl rfl) | exact fun _ => Or.inr (Or.inr rfl)) rfl) (fun _ _ => rfl)) ra_nil (fun _ => rfl)) (fun _ => rfl))) (re_var F 3 rfl (by first | exact fun _ => Or.inl rfl | exact fun _ => Or.inr (Or.inl rfl) | exact fun _ => Or.inr (Or.inr rfl)) rfl) (re_ix F (re_var F 4 rfl (by first | exact fun _ => Or.inl rfl | exact fun _ => Or.inr (Or.inl rfl) | exact fun _ => Or.inr (Or.inr rfl)) rfl) re_int (fun _ _ => rfl)) rfl rfl (by first | exact fun _ => Or.inl rfl | exact fun _ => Or.inr (Or.inl rfl) | exact fun _ => Or.inr (Or.inr rfl)) (fun j => fun a1 a2 b c d => ps_asg d (pg_tup (F.calm j) (pgs_cons (pg_sub a1 b set_list) (pgs_cons (pg_sub a2 c set_list) pgs_nil)))))
    (rss_cons (rs_seti (tc := []) F 2 (re_var F 3 rfl (by first | exact fun _ => Or.inl rfl | exact fun _ => Or.inr (Or.inl rfl) | exact fun _ => Or.inr (Or.inr rfl)) rfl) (RF.re (rf_lc F (ri_val F (re_ixo F 2 rfl rfl (by first | exact fun _ => Or.inl rfl | exact fun _ => Or.inr (Or.inl rfl) | exact fun _ => Or.inr (Or.inr rfl)) (re_var F 3 rfl (by first | exact fun _ => Or.inl rfl | exact fun _ => Or.inr (Or.inl rfl) | exact fun _ => Or.inr (Or.inr rfl)) rfl) (fun _ _ => rfl))) (fun _ => blkOk_by (by first | decide +kernel | kernel_rfl)) (rg_name (Fam.blk F _) 8 rfl (by first | exact fun _ => Or.inl rfl | exact fun _ => Or.inr rfl) rfl (by first | exact fun _ => Or.inr rfl | exact fun _ => Or.inl rfl)) rq_nil (re_callP (Fam.blk F _) h_over (by omega) rfl (fun _ => rfl) (ra_cons (re_var (Fam.blk F _) 8 rfl (by first | exact fun _ => Or.inl rfl | exact fun _ => Or.inr (Or.inl rfl) | exact fun _ => Or.inr (Or.inr rfl)) rfl) (ra_cons (re_ix (Fam.blk F _) (re_ixo (Fam.blk F _) 2 rfl rfl (by first | exact fun _ => Or.inl rfl | exact fun _ => Or.inr (Or.inl rfl) | exact fun _ => Or.inr (Or.inr rfl)) (re_var (Fam.blk F _) 3 rfl (by first | exact fun _ => Or.inl rfl | exact fun _ => Or.inr (Or.inl rfl) | exact fun _ => Or.inr (Or.inr rfl)) rfl) (fun _ _ => rfl)) (re_var (Fam.blk F _) 3 rfl (by first | exact fun _ => Or.inl rfl | exact fun _ => Or.inr (Or.inl rfl) | exact fun _ => Or.inr (Or.inr rfl)) rfl) (fun _ _ => rfl)) ra_nil (fun _ => rfl)) (fun _ => rfl)) (fun _ => rfl) (fun _ => rfl)) (fun _ _ => rfl) rfl rfl (ownL := [("one", 8)]))) rfl rfl (by first | exact fun _ => Or.inl rfl | exact fun _ => Or.inr (Or.inl rfl) | exact fun _ => Or.inr (Or.inr rfl)) (fun _ => fun a b c => ps_asg c (pg_sub a b set_list)))
    (rss_cons (rs_for (tc := []) F (ri_rng1 F B.range (fun _ => rfl) (ra_cons (re_bor (ow1 := []) (re_len F B (re_var F 2 rfl (by first | exact fun _ => Or.inl rfl | exact fun _ => Or.inr (Or.inl rfl) | exact fun _ => Or.inr (Or.inr rfl)) rfl) (fun _ => rfl) (fun _ => rfl) (fun _ => rfl)) rfl) ra_nil (fun _ => rfl)) (fun _ => rfl)) (rg_name F 5 rfl (by first | exact fun _ => Or.inl rfl | exact fun _ => Or.inr rfl) rfl (by first | exact fun _ => Or.inr rfl | exact fun _ => Or.inl rfl))
    (rss_cons (rs_if (tc := []) (ow2 := [2]) (rt_w (rw_and (rt_ne F (re_var F 5 rfl (by first | exact fun _ => Or.inl rfl | exact fun _ => Or.inr (Or.inl rfl) | exact fun _ => Or.inr (Or.inr rfl)) rfl) (re_var F 3 rfl (by first | exact fun _ => Or.inl rfl | exact fun _ => Or.inr (Or.inl rfl) | exact fun _ => Or.inr (Or.inr rfl)) rfl)) (rw_and1 (rt_ne F (re_ix F (re_ixo F 2 rfl rfl (by first | exact fun _ => Or.inl rfl | exact fun _ => Or.inr (Or.inl rfl) | exact fun _ => Or.inr (Or.inr rfl)) (re_var F 5 rfl (by first | exact fun _ => Or.inl rfl | exact fun _ => Or.inr (Or.inl rfl) | exact fun _ => Or.inr (Or.inr rfl)) rfl) (fun _ _ => rfl)) (re_var F 3 rfl (by first | exact fun _ => Or.inl rfl | exact fun _ => Or.inr (Or.inl rfl) | exact fun _ => Or.inr (Or.inr rfl)) rfl) (fun _ _ => rfl)) (re_cg F h_NOUGHT (fun _ => rfl))))))
    (rss_cons (rs_seti (tc := []) F 2 (re_var F 5 rfl (by first | exact fun _ => Or.inl rfl | exact fun _ => Or.inr (Or.inl rfl) | exact fun _ => Or.inr (Or.inr rfl)) rfl) (RF.re (rf_callP F h_led (by omega) rfl (fun _ => rfl) (ra_cons (re_ixo F 2 rfl rfl (by first | exact fun _ => Or.inl rfl | exact fun _ => Or.inr (Or.inl rfl) | exact fun _ => Or.inr (Or.inr rfl)) (re_var F 5 rfl (by first | exact fun _ => Or.inl rfl | exact fun _ => Or.inr (Or.inl rfl) | exact fun _ => Or.inr (Or.inr rfl)) rfl) (fun _ _ => rfl)) (ra_cons (re_ixo F 2 rfl rfl (by first | exact fun _ => Or.inl rfl | exact fun _ => Or.inr (Or.inl rfl) | exact fun _ => Or.inr (Or.inr rfl)) (re_var F 3 rfl (by first | exact fun _ => Or.inl rfl | exact fun _ => Or.inr (Or.inl rfl) | exact fun _ => Or.inr (Or.inr rfl)) rfl) (fun _ _ => rfl)) (ra_cons (re_ix F (re_ixo F 2 rfl rfl (by first | exact fun _ => Or.inl rfl | exact fun _ => Or.inr (Or.inl rfl) | exact fun _ => Or.inr (Or.inr rfl)) (re_var F 5 rfl (by first | exact fun _ => Or.inl rfl | exact fun _ => Or.inr (Or.inl rfl) | exact fun _ => Or.inr (Or.inr rfl)) rfl) (fun _ _ => rfl)) (re_var F 3 rfl (by first | exact fun _ => Or.inl rfl | exact fun _ => Or.inr (Or.inl rfl) | exact fun _ => Or.inr (Or.inr rfl)) rfl) (fun _ _ => rfl)) ra_nil (fun _ => rfl)) (fun _ => rfl)) (fun _ => rfl)) (fun _ => rfl) (fun _ => rfl))) rfl rfl (by first | exact fun _ => Or.inl rfl | exact fun _ => Or.inr (Or.inl rfl) | exact fun _ => Or.inr (Or.inr rfl)) (fun _ => fun a b c => ps_asg c (pg_sub a b set_list)))
    (rss_nil rfl))
    (rss_nil rfl))
    (rss_kill [5] rfl rfl))
    (fun _ => PassesOwn.never) (fun _ _ => rfl))
    (rss_kill [3, 4, 5] rfl rfl))))))
    (fun _ => PassesOwn.never) (fun _ _ => rfl))
    (rss_weak (ow1 := []) (rss_cons (ow1 := []) (rs_ret (tc := []) (re_tuple F B (RF.re (rf_lc F (ri_val F (re_var F 2 rfl (by first | exact fun _ => Or.inl rfl | exact fun _ => Or.inr (Or.inl rfl) | exact fun _ => Or.inr (Or.inr rfl)) rfl)) (fun _ => blkOk_by (by first | decide +kernel | kernel_rfl)) (rg_name (Fam.blk F _) 6 rfl (by first | exact fun _ => Or.inl rfl | exact fun _ => Or.inr rfl) rfl (by first | exact fun _ => Or.inr rfl | exact fun _ => Or.inl rfl)) rq_nil (re_ix (Fam.blk F _) (re_var (Fam.blk F _) 6 rfl (by first | exact fun _ => Or.inl rfl | exact fun _ => Or.inr (Or.inl rfl) | exact fun _ => Or.inr (Or.inr rfl)) rfl) (re_neg re_int) (fun _ _ => rfl)) (fun _ _ => rfl) rfl rfl (ownL := [("row", 6)]))) (fun _ => rfl) (fun _ => rfl) (fun _ => rfl)) rfl) (rss_nil rfl)) rfl)))
abbrev s__law_bag : Stmt := topS 11
abbrev n__law_bag : List Str := ["_law_script", "_law_cell"]
theorem N__law_bag : n__law_bag.Nodup := by decide +kernel
theorem sc__law_bag : FnScope n__law_bag ["_law_script"] (defScope s__law_bag) := ⟨rfl, rfl, rfl, N__law_bag, rfl, by decide +kernel, by decide +kernel⟩
noncomputable def S__law_bag : XS :=
    seqS (retS (lstE (consA (cE (.int 0)) (consA (cE (.int 1234567891)) (consA (cE (.int 0)) (consA (compE (itE (slE (varE 0) (noO) (someO (cE (.int 63))))) [1] (nameG 1) (yesT) (clE (g1 absD) (consA (varE 1) nilA))) (nilA))))))) (nopS)
noncomputable def F__law_bag : List D → Option D := runPF 1 S__law_bag
theorem w__law_bag {C : Ct} (B : Blt C.mg) (hf : FnHere C "_law_bag" (defArgs s__law_bag) (defBody s__law_bag) (defScope s__law_bag)) : Fn C "_law_bag" 1 ["_law_script"] (spPF C.K 1 F__law_bag) :=
  fnPF (k := 0) (ow2 := []) hf sc__law_bag 1 rfl (fun _ _ _ _ _ _ us hl => match us, hl with | [_], _ => rfl) fun _ _ _ _ _ _ _ F =>
    (rss_cons (ow1 := []) (rs_retF (tc := []) (rf_lst (ra_cons re_int (ra_cons re_int (ra_cons re_int (ra_cons (RF.re (rf_lc F (ri_val F (re_slice F (re_var F 0 rfl (by first | exact fun _ => Or.inl rfl | exact fun _ => Or.inr (Or.inl rfl) | exact fun _ => Or.inr (Or.inr rfl)) rfl) ro_none (ro_some re_int))) (fun _ => blkOk_by (by first | decide +kernel | kernel_rfl)) (rg_name (Fam.blk F _) 1 rfl (by first | exact fun _ => Or.inl rfl | exact fun _ => Or.inr rfl) rfl (by first | exact fun _ => Or.inr rfl | exact fun _ => Or.inl rfl)) rq_nil (re_abs (Fam.blk F _) B (re_var (Fam.blk F _) 1 rfl (by first | exact fun _ => Or.inl rfl | exact fun _ => Or.inr (Or.inl rfl) | exact fun _ => Or.inr (Or.inr rfl)) rfl) (fun _ => rfl) (fun _ => rfl) (fun _ => rfl)) (fun _ _ => rfl) rfl rfl (ownL := [("_law_cell", 1)]))) ra_nil (fun _ => rfl)) (fun _ => rfl)) (fun _ => rfl)) (fun _ => rfl))) rfl) (rss_nil rfl))
abbrev s__law_take : Stmt := topS 12
abbrev n__law_take : List Str := ["_law_bag_here", "_law_many", "_law_cell", "_law_stirred", "_law_value", "_law_begin", "_law_second"]
theorem N__law_take : n__law_take.Nodup := by decide +kernel
theorem sc__law_take : FnScope n__law_take ["_law_bag_here", "_law_many"] (defScope s__law_take) := ⟨rfl, rfl, rfl, N__law_take, rfl, by decide +kernel, by decide +kernel⟩
noncomputable def S__law_take : XS :=
    seqS (ifS (tE (opE eqD (ixoE 0 (cE (.int 0))) (cE (.int 0))))
    (seqS (setS 2 (opE ixD (opE addD (slE (ixoE 0 (cE (.int 3))) (someO (ixoE 0 (cE (.int 2)))) (noO)) (lstE (consA (cE (.int 0)) (nilA)))) (cE (.int 0))))
    (seqS (augiS iaddD 0 2 (cE (.int 1)))
    (seqS (ifS (tE (opE geI (varE 2) (opE powD (cE (.int 10)) (cE (.int 18)))))
    (seqS (setiS 0 (cE (.int 0)) (varE 2))
    (nopS))
    (nopS))
    (seqS (setS 3 (opE addD (opE addD (opE mulD (ixoE 0 (cE (.int 1))) (cE (.int 48271))) (opE modD (clE (g1 intD) (consA (varE 2) nilA)) (cE (.int 2147483647)))) (opE mulD (cE (.int 7919)) (ixoE 0 (cE (.int 2))))))
    (seqS (setiS 0 (cE (.int 1)) (opE modD (clE (g1 intD) (consA (varE 3) nilA)) (cE (.int 2147483647))))
    (killS [2, 3]))))))
    (nopS))
    (seqS (ifS (tE (opE gtI (ixoE 0 (cE (.int 0))) (cE (.int 0))))
    (seqS (setS 4 (opE modD (clE (g1 intD) (consA (ixoE 0 (cE (.int 0))) nilA)) (varE 1)))
    (seqS (setiS 0 (cE (.int 0)) (opE fdivD (clE (g1 intD) (consA (ixoE 0 (cE (.int 0))) nilA)) (varE 1)))
    (seqS (retS (varE 4)) (nopS))))
    (nopS))
    (seqS (setS 5 (opE modD (clE (g1 intD) (consA (opE mulD (opE addD (ixoE 0 (cE (.int 1))) (cE (.int 1))) (cE (.int 39373))) nilA)) (cE (.int 1000000007))))
    (seqS (setS 6 (opE modD (clE (g1 intD) (consA (opE mulD (opE modD (clE (g1 intD) (consA (opE mulD (varE 5) (varE 5)) nilA)) (cE (.int 998244353))) (cE (.int 30011))) nilA)) (cE (.int 998244353))))
    (seqS (retS (opE modD (clE (g1 intD) (consA (opE fdivD (varE 6) (cE (.int 7))) nilA)) (varE 1))) (nopS)))))
noncomputable def F__law_take : D → List D → Option (D × D) := runB 5 S__law_take
theorem w__law_take {C : Ct} (B : Blt C.mg) (hf : FnHere C "_law_take" (defArgs s__law_take) (defBody s__law_take) (defScope s__law_take)) : Fn C "_law_take" 1 ["_law_bag_here", "_law_many"] (spB C.K 2 F__law_take) :=
  fnB (k := 0) hf sc__law_take 5 rfl (fun _ _ _ _ _ _ us hl => match us, hl with | [_, _], _ => rfl) fun _ _ _ _ _ _ _ F =>
    (rss_cons (rs_if (tc := []) (ow2 := [0]) (rt_eq F (re_ixo F 0 rfl rfl (by first | exact fun _ => Or.inl rfl | exact fun _ => Or.inr (Or.inl rfl) | exact fun _ => Or.inr (Or.inr rfl)) re_int (fun _ _ => rfl)) re_int)
    (rss_cons (rs_set (tc := []) F 2 (re_ix F (re_add F (re_slice F (re_ixo F 0 rfl rfl (by first | exact fun _ => Or.inl rfl | exact fun _ => Or.inr (Or.inl rfl) | exact fun _ => Or.inr (Or.inr rfl)) re_int (fun _ _ => rfl)) (ro_some (re_ixo F 0 rfl rfl (by first | exact fun _ => Or.inl rfl | exact fun _ => Or.inr (Or.inl rfl) | exact fun _ => Or.inr (Or.inr rfl)) re_int (fun _ _ => rfl))) ro_none) (RF.re (rf_lst (ra_cons re_int ra_nil (fun _ => rfl))))) re_int (fun _ _ => rfl)) rfl (by first | exact fun _ => Or.inl rfl | exact fun _ => Or.inr rfl) rfl (by first | exact fun _ => Or.inr rfl | exact fun _ => Or.inl rfl) (fun _ => rfl))
    (rss_cons (rs_augi (tc := []) F 0 (fun _ => iop_addD) os_iadd re_int rfl rfl (by first | exact fun _ => Or.inl rfl | exact fun _ => Or.inr (Or.inl rfl) | exact fun _ => Or.inr (Or.inr rfl)) (fun _ _ _ _ => rfl))
    (rss_cons (rs_if (tc := []) (ow2 := [0]) (rt_ge  (re_var F 2 rfl (by first | exact fun _ => Or.inl rfl | exact fun _ => Or.inr (Or.inl rfl) | exact fun _ => Or.inr (Or.inr rfl)) rfl) (re_pow re_int re_int))
    (rss_cons (rs_seti (tc := []) F 0 re_int (re_var F 2 rfl (by first | exact fun _ => Or.inl rfl | exact fun _ => Or.inr (Or.inl rfl) | exact fun _ => Or.inr (Or.inr rfl)) rfl) rfl rfl (by first | exact fun _ => Or.inl rfl | exact fun _ => Or.inr (Or.inl rfl) | exact fun _ => Or.inr (Or.inr rfl)) (fun _ => fun a b c => ps_asg c (pg_sub a b set_list)))
    (rss_nil rfl))
    (rss_nil rfl))
    (rss_cons (rs_set (tc := []) F 3 (re_add F (re_add F (re_mul (re_ixo F 0 rfl rfl (by first | exact fun _ => Or.inl rfl | exact fun _ => Or.inr (Or.inl rfl) | exact fun _ => Or.inr (Or.inr rfl)) re_int (fun _ _ => rfl)) re_int) (re_mod (re_intc F B (re_var F 2 rfl (by first | exact fun _ => Or.inl rfl | exact fun _ => Or.inr (Or.inl rfl) | exact fun _ => Or.inr (Or.inr rfl)) rfl) (fun _ => rfl) (fun _ => rfl) (fun _ => rfl)) re_int)) (re_mul re_int (re_ixo F 0 rfl rfl (by first | exact fun _ => Or.inl rfl | exact fun _ => Or.inr (Or.inl rfl) | exact fun _ => Or.inr (Or.inr rfl)) re_int (fun _ _ => rfl)))) rfl (by first | exact fun _ => Or.inl rfl | exact fun _ => Or.inr rfl) rfl (by first | exact fun _ => Or.inr rfl | exact fun _ => Or.inl rfl) (fun _ => rfl))
    (rss_cons (rs_seti (tc := []) F 0 re_int (re_mod (re_intc F B (re_var F 3 rfl (by first | exact fun _ => Or.inl rfl | exact fun _ => Or.inr (Or.inl rfl) | exact fun _ => Or.inr (Or.inr rfl)) rfl) (fun _ => rfl) (fun _ => rfl) (fun _ => rfl)) re_int) rfl rfl (by first | exact fun _ => Or.inl rfl | exact fun _ => Or.inr (Or.inl rfl) | exact fun _ => Or.inr (Or.inr rfl)) (fun _ => fun a b c => ps_asg c (pg_sub a b set_list)))
    (rss_kill [2, 3] rfl rfl))))))
    (rss_nil rfl))
    (rss_cons (rs_if (tc := []) (ow2 := [0]) (rt_gt  (re_ixo F 0 rfl rfl (by first | exact fun _ => Or.inl rfl | exact fun _ => Or.inr (Or.inl rfl) | exact fun _ => Or.inr (Or.inr rfl)) re_int (fun _ _ => rfl)) re_int)
    (rss_cons (rs_set (tc := []) F 4 (re_mod (re_intc F B (re_ixo F 0 rfl rfl (by first | exact fun _ => Or.inl rfl | exact fun _ => Or.inr (Or.inl rfl) | exact fun _ => Or.inr (Or.inr rfl)) re_int (fun _ _ => rfl)) (fun _ => rfl) (fun _ => rfl) (fun _ => rfl)) (re_var F 1 rfl (by first | exact fun _ => Or.inl rfl | exact fun _ => Or.inr (Or.inl rfl) | exact fun _ => Or.inr (Or.inr rfl)) rfl)) rfl (by first | exact fun _ => Or.inl rfl | exact fun _ => Or.inr rfl) rfl (by first | exact fun _ => Or.inr rfl | exact fun _ => Or.inl rfl) (fun _ => rfl))
    (rss_cons (rs_seti (tc := []) F 0 re_int (re_fdiv (re_intc F B (re_ixo F 0 rfl rfl (by first | exact fun _ => Or.inl rfl | exact fun _ => Or.inr (Or.inl rfl) | exact fun _ => Or.inr (Or.inr rfl)) re_int (fun _ _ => rfl)) (fun _ => rfl) (fun _ => rfl) (fun _ => rfl)) (re_var F 1 rfl (by first | exact fun _ => Or.inl rfl | exact fun _ => Or.inr (Or.inl rfl) | exact fun _ => Or.inr (Or.inr rfl)) rfl)) rfl rfl (by first | exact fun _ => Or.inl rfl | exact fun _ => Or.inr (Or.inl rfl) | exact fun _ => Or.inr (Or.inr rfl)) (fun _ => fun a b c => ps_asg c (pg_sub a b set_list)))
    (rss_cons (ow1 := [0]) (rs_ret (tc := []) (re_var F 4 rfl (by first | exact fun _ => Or.inl rfl | exact fun _ => Or.inr (Or.inl rfl) | exact fun _ => Or.inr (Or.inr rfl)) rfl) rfl) (rss_nil rfl))))
    (rss_nil rfl))
    (rss_cons (rs_set (tc := []) F 5 (re_mod (re_intc F B (re_mul (re_add F (re_ixo F 0 rfl rfl (by first | exact fun _ => Or.inl rfl | exact fun _ => Or.inr (Or.inl rfl) | exact fun _ => Or.inr (Or.inr rfl)) re_int (fun _ _ => rfl)) re_int) re_int) (fun _ => rfl) (fun _ => rfl) (fun _ => rfl)) re_int) rfl (by first | exact fun _ => Or.inl rfl | exact fun _ => Or.inr rfl) rfl (by first | exact fun _ => Or.inr rfl | exact fun _ => Or.inl rfl) (fun _ => rfl))
    (rss_cons (rs_set (tc := []) F 6 (re_mod (re_intc F B (re_mul (re_mod (re_intc F B (re_mul (re_var F 5 rfl (by first | exact fun _ => Or.inl rfl | exact fun _ => Or.inr (Or.inl rfl) | exact fun _ => Or.inr (Or.inr rfl)) rfl) (re_var F 5 rfl (by first | exact fun _ => Or.inl rfl | exact fun _ => Or.inr (Or.inl rfl) | exact fun _ => Or.inr (Or.inr rfl)) rfl)) (fun _ => rfl) (fun _ => rfl) (fun _ => rfl)) re_int) re_int) (fun _ => rfl) (fun _ => rfl) (fun _ => rfl)) re_int) rfl (by first | exact fun _ => Or.inl rfl | exact fun _ => Or.inr rfl) rfl (by first | exact fun _ => Or.inr rfl | exact fun _ => Or.inl rfl) (fun _ => rfl))
    (rss_cons (ow1 := [0]) (rs_ret (tc := []) (re_mod (re_intc F B (re_fdiv (re_var F 6 rfl (by first | exact fun _ => Or.inl rfl | exact fun _ => Or.inr (Or.inl rfl) | exact fun _ => Or.inr (Or.inr rfl)) rfl) re_int) (fun _ => rfl) (fun _ => rfl) (fun _ => rfl)) (re_var F 1 rfl (by first | exact fun _ => Or.inl rfl | exact fun _ => Or.inr (Or.inl rfl) | exact fun _ => Or.inr (Or.inr rfl)) rfl)) rfl) (rss_nil rfl))))))
abbrev s__law_some : Stmt := topS 13
abbrev n__law_some : List Str := ["_law_bag_here", "_law_things"]
theorem N__law_some : n__law_some.Nodup := by decide +kernel
theorem sc__law_some : FnScope n__law_some ["_law_bag_here", "_law_things"] (defScope s__law_some) := ⟨rfl, rfl, rfl, N__law_some, rfl, by decide +kernel, by decide +kernel⟩
noncomputable def S__law_some : XS :=
    seqS (retS (opE ixD (varE 1) (callB F__law_take 0 (consA (clE (g1 lenD) (consA (varE 1) nilA)) (nilA))))) (nopS)
noncomputable def F__law_some : D → List D → Option (D × D) := runB 0 S__law_some
theorem w__law_some {C : Ct} (B : Blt C.mg) (h__law_take : Fn C "_law_take" 1 ["_law_bag_here", "_law_many"] (spB C.K 2 F__law_take)) (hf : FnHere C "_law_some" (defArgs s__law_some) (defBody s__law_some) (defScope s__law_some)) : Fn C "_law_some" 2 ["_law_bag_here", "_law_things"] (spB C.K 2 F__law_some) :=
  fnB (k := 1) hf sc__law_some 0 rfl (fun _ _ _ _ _ _ us hl => match us, hl with | [_, _], _ => rfl) fun _ _ _ _ _ _ _ F =>
    (rss_cons (ow1 := [0]) (rs_ret (tc := [0]) (re_ix F (re_var F 1 rfl (by first | exact fun _ => Or.inl rfl | exact fun _ => Or.inr (Or.inl rfl) | exact fun _ => Or.inr (Or.inr rfl)) rfl) (re_callB_ F h__law_take (by omega) 0 rfl rfl rfl (by first | exact fun _ => Or.inl rfl | exact fun _ => Or.inr (Or.inl rfl) | exact fun _ => Or.inr (Or.inr rfl)) rfl (fun _ => rfl) (ra_cons (re_len F B (re_var F 1 rfl (by first | exact fun _ => Or.inl rfl | exact fun _ => Or.inr (Or.inl rfl) | exact fun _ => Or.inr (Or.inr rfl)) rfl) (fun _ => rfl) (fun _ => rfl) (fun _ => rfl)) ra_nil (fun _ => rfl)) (fun _ => rfl) (fun _ => rfl)) (fun _ _ => rfl)) rfl) (rss_nil rfl))
abbrev s__law_alike : Stmt := topS 14
abbrev n__law_alike : List Str := ["_law_found", "_law_due"]
theorem N__law_alike : n__law_alike.Nodup := by decide +kernel
theorem sc__law_alike : FnScope n__law_alike ["_law_found", "_law_due"] (defScope s__law_alike) := ⟨rfl, rfl, rfl, N__law_alike, rfl, by decide +kernel, by decide +kernel⟩
noncomputable def S__law_alike : XS :=
    seqS (retS (ifE (tE (opE eqD (varE 0) (varE 1))) (opE eqD (clE (g1 reprD) (consA (varE 0) nilA)) (clE (g1 reprD) (consA (varE 1) nilA))) (cE (.bool false)))) (nopS)
noncomputable def F__law_alike : List D → Option D := runP 0 S__law_alike
theorem w__law_alike {C : Ct} (B : Blt C.mg) (hf : FnHere C "_law_alike" (defArgs s__law_alike) (defBody s__law_alike) (defScope s__law_alike)) : Fn C "_law_alike" 1 ["_law_found", "_law_due"] (spP C.K 2 F__law_alike) :=
  fnP (k := 0) (ow2 := []) hf sc__law_alike 0 rfl (fun _ _ _ _ _ _ us hl => match us, hl with | [_, _], _ => rfl) fun _ _ _ _ _ _ _ F =>
    (rss_cons (ow1 := []) (rs_ret (tc := []) (re_and (re_eq F (re_var F 0 rfl (by first | exact fun _ => Or.inl rfl | exact fun _ => Or.inr (Or.inl rfl) | exact fun _ => Or.inr (Or.inr rfl)) rfl) (re_var F 1 rfl (by first | exact fun _ => Or.inl rfl | exact fun _ => Or.inr (Or.inl rfl) | exact fun _ => Or.inr (Or.inr rfl)) rfl)) (re_one (re_eq F (re_repr F B (re_var F 0 rfl (by first | exact fun _ => Or.inl rfl | exact fun _ => Or.inr (Or.inl rfl) | exact fun _ => Or.inr (Or.inr rfl)) rfl) (fun _ => rfl) (fun _ => rfl) (fun _ => rfl)) (re_repr F B (re_var F 1 rfl (by first | exact fun _ => Or.inl rfl | exact fun _ => Or.inr (Or.inl rfl) | exact fun _ => Or.inr (Or.inr rfl)) rfl) (fun _ => rfl) (fun _ => rfl) (fun _ => rfl))))) rfl) (rss_nil rfl))
abbrev s__law_is_int : Stmt := topS 15
abbrev n__law_is_int : List Str := ["_law_thing"]
theorem N__law_is_int : n__law_is_int.Nodup := by decide +kernel
theorem sc__law_is_int : FnScope n__law_is_int ["_law_thing"] (defScope s__law_is_int) := ⟨rfl, rfl, rfl, N__law_is_int, rfl, by decide +kernel, by decide +kernel⟩
noncomputable def S__law_is_int : XS :=
    seqS (retS (ifE (tE (isiE "int" (varE 0))) (notE (isiE "bool" (varE 0))) (cE (.bool false)))) (nopS)
noncomputable def F__law_is_int : List D → Option D := runP 0 S__law_is_int
theorem w__law_is_int {C : Ct} (B : Blt C.mg) (hf : FnHere C "_law_is_int" (defArgs s__law_is_int) (defBody s__law_is_int) (defScope s__law_is_int)) : Fn C "_law_is_int" 1 ["_law_thing"] (spP C.K 1 F__law_is_int) :=
  fnP (k := 0) (ow2 := []) hf sc__law_is_int 0 rfl (fun _ _ _ _ _ _ us hl => match us, hl with | [_], _ => rfl) fun _ _ _ _ _ _ _ F =>
    (rss_cons (ow1 := []) (rs_ret (tc := []) (re_and (re_isi F B.isinstance B.int boot_int (fun _ => rfl) (fun _ => rfl) (re_var F 0 rfl (by first | exact fun _ => Or.inl rfl | exact fun _ => Or.inr (Or.inl rfl) | exact fun _ => Or.inr (Or.inr rfl)) rfl) (fun _ => rfl) (fun _ => rfl) (fun _ => rfl)) (re_one (re_not (re_isi F B.isinstance B.bool boot_bool (fun _ => rfl) (fun _ => rfl) (re_var F 0 rfl (by first | exact fun _ => Or.inl rfl | exact fun _ => Or.inr (Or.inl rfl) | exact fun _ => Or.inr (Or.inr rfl)) rfl) (fun _ => rfl) (fun _ => rfl) (fun _ => rfl))))) rfl) (rss_nil rfl))
abbrev s__law_common : Stmt := topS 16
abbrev n__law_common : List Str := ["_law_one", "_law_other"]
theorem N__law_common : n__law_common.Nodup := by decide +kernel
theorem sc__law_common : FnScope n__law_common ["_law_one", "_law_other"] (defScope s__law_common) := ⟨rfl, rfl, rfl, N__law_common, rfl, by decide +kernel, by decide +kernel⟩
noncomputable def S__law_common : XS :=
    seqS (parS 0 1 (consA (clE (g1 absD) (consA (varE 0) nilA)) (consA (clE (g1 absD) (consA (varE 1) nilA)) (nilA))))
    (seqS (whileS (fuN 1) (tE (opE gtI (varE 1) (cE (.int 0))))
    (seqS (parS 0 1 (consA (varE 1) (consA (opE modD (clE (g1 intD) (consA (varE 0) nilA)) (varE 1)) (nilA))))
    (nopS)))
    (seqS (retS (varE 0)) (nopS)))
noncomputable def F__law_common : List D → Option D := runP 0 S__law_common
theorem w__law_common {C : Ct} (B : Blt C.mg) (hf : FnHere C "_law_common" (defArgs s__law_common) (defBody s__law_common) (defScope s__law_common)) : Fn C "_law_common" 1 ["_law_one", "_law_other"] (spP C.K 2 F__law_common) :=
  fnP (k := 0) (ow2 := []) hf sc__law_common 0 rfl (fun _ _ _ _ _ _ us hl => match us, hl with | [_, _], _ => rfl) fun _ _ _ _ _ _ _ F =>
    (rss_cons (rs_par (tc := []) F 0 1 (ra_cons (re_abs F B (re_var F 0 rfl (by first | exact fun _ => Or.inl rfl | exact fun _ => Or.inr (Or.inl rfl) | exact fun _ => Or.inr (Or.inr rfl)) rfl) (fun _ => rfl) (fun _ => rfl) (fun _ => rfl)) (ra_cons (re_abs F B (re_var F 1 rfl (by first | exact fun _ => Or.inl rfl | exact fun _ => Or.inr (Or.inl rfl) | exact fun _ => Or.inr (Or.inr rfl)) rfl) (fun _ => rfl) (fun _ => rfl) (fun _ => rfl)) ra_nil (fun _ => rfl)) (fun _ => rfl)) rfl rfl (by decide) rfl rfl (fun _ => rfl) (fun _ => rfl) (fun _ => rfl) (fun _ => rfl))
    (rss_cons (rs_while (tc := []) (fuN 1) (rt_gt  (re_var F 1 rfl (by first | exact fun _ => Or.inl rfl | exact fun _ => Or.inr (Or.inl rfl) | exact fun _ => Or.inr (Or.inr rfl)) rfl) re_int)
    (rss_cons (rs_par (tc := []) F 0 1 (ra_cons (re_var F 1 rfl (by first | exact fun _ => Or.inl rfl | exact fun _ => Or.inr (Or.inl rfl) | exact fun _ => Or.inr (Or.inr rfl)) rfl) (ra_cons (re_mod (re_intc F B (re_var F 0 rfl (by first | exact fun _ => Or.inl rfl | exact fun _ => Or.inr (Or.inl rfl) | exact fun _ => Or.inr (Or.inr rfl)) rfl) (fun _ => rfl) (fun _ => rfl) (fun _ => rfl)) (re_var F 1 rfl (by first | exact fun _ => Or.inl rfl | exact fun _ => Or.inr (Or.inl rfl) | exact fun _ => Or.inr (Or.inr rfl)) rfl)) ra_nil (fun _ => rfl)) (fun _ => rfl)) rfl rfl (by decide) rfl rfl (fun _ => rfl) (fun _ => rfl) (fun _ => rfl) (fun _ => rfl))
    (rss_nil rfl))
    (fun _ => PassesOwn.never))
    (rss_cons (ow1 := []) (rs_ret (tc := []) (re_var F 0 rfl (by first | exact fun _ => Or.inl rfl | exact fun _ => Or.inr (Or.inl rfl) | exact fun _ => Or.inr (Or.inr rfl)) rfl) rfl) (rss_nil rfl))))
abbrev s__law_reduced : Stmt := topS 17
abbrev n__law_reduced : List Str := ["_law_n", "_law_d", "_law_shared"]
theorem N__law_reduced : n__law_reduced.Nodup := by decide +kernel
theorem sc__law_reduced : FnScope n__law_reduced ["_law_n", "_law_d"] (defScope s__law_reduced) := ⟨rfl, rfl, rfl, N__law_reduced, rfl, by decide +kernel, by decide +kernel⟩
noncomputable def S__law_reduced : XS :=
    seqS (setS 2 (clE max2G (consA (cE (.int 1)) (consA (clE F__law_common (consA (varE 0) (consA (varE 1) (nilA)))) nilA))))
    (seqS (ifS (tE (opE ltD (varE 1) (cE (.int 0))))
    (seqS (retS (tupE (consA (opE fdivD (unE negD (varE 0)) (varE 2)) (consA (opE fdivD (unE negD (varE 1)) (varE 2)) (nilA))))) (nopS))
    (nopS))
    (seqS (retS (tupE (consA (opE fdivD (varE 0) (varE 2)) (consA (opE fdivD (varE 1) (varE 2)) (nilA))))) (nopS)))
noncomputable def F__law_reduced : List D → Option D := runP 1 S__law_reduced
theorem w__law_reduced {C : Ct} (B : Blt C.mg) (h__law_common : Fn C "_law_common" 1 ["_law_one", "_law_other"] (spP C.K 2 F__law_common)) (hf : FnHere C "_law_reduced" (defArgs s__law_reduced) (defBody s__law_reduced) (defScope s__law_reduced)) : Fn C "_law_reduced" 2 ["_law_n", "_law_d"] (spP C.K 2 F__law_reduced) :=
  fnP (k := 1) (ow2 := []) hf sc__law_reduced 1 rfl (fun _ _ _ _ _ _ us hl => match us, hl with | [_, _], _ => rfl) fun _ _ _ _ _ _ _ F =>
    (rss_cons (rs_set (tc := []) F 2 (re_max2 F B re_int (re_callP F h__law_common (by omega) rfl (fun _ => rfl) (ra_cons (re_var F 0 rfl (by first | exact fun _ => Or.inl rfl | exact fun _ => Or.inr (Or.inl rfl) | exact fun _ => Or.inr (Or.inr rfl)) rfl) (ra_cons (re_var F 1 rfl (by first | exact fun _ => Or.inl rfl | exact fun _ => Or.inr (Or.inl rfl) | exact fun _ => Or.inr (Or.inr rfl)) rfl) ra_nil (fun _ => rfl)) (fun _ => rfl)) (fun _ => rfl) (fun _ => rfl)) (fun _ => rfl) (fun _ => rfl) (fun _ => rfl) (fun _ => rfl)) rfl (by first | exact fun _ => Or.inl rfl | exact fun _ => Or.inr rfl) rfl (by first | exact fun _ => Or.inr rfl | exact fun _ => Or.inl rfl) (fun _ => rfl))
    (rss_cons (rs_if (tc := []) (ow2 := []) (rt_lt  (re_var F 1 rfl (by first | exact fun _ => Or.inl rfl | exact fun _ => Or.inr (Or.inl rfl) | exact fun _ => Or.inr (Or.inr rfl)) rfl) re_int)
    (rss_cons (ow1 := []) (rs_ret (tc := []) (re_tup (ra_cons (re_fdiv (re_neg (re_var F 0 rfl (by first | exact fun _ => Or.inl rfl | exact fun _ => Or.inr (Or.inl rfl) | exact fun _ => Or.inr (Or.inr rfl)) rfl)) (re_var F 2 rfl (by first | exact fun _ => Or.inl rfl | exact fun _ => Or.inr (Or.inl rfl) | exact fun _ => Or.inr (Or.inr rfl)) rfl)) (ra_cons (re_fdiv (re_neg (re_var F 1 rfl (by first | exact fun _ => Or.inl rfl | exact fun _ => Or.inr (Or.inl rfl) | exact fun _ => Or.inr (Or.inr rfl)) rfl)) (re_var F 2 rfl (by first | exact fun _ => Or.inl rfl | exact fun _ => Or.inr (Or.inl rfl) | exact fun _ => Or.inr (Or.inr rfl)) rfl)) ra_nil (fun _ => rfl)) (fun _ => rfl))) rfl) (rss_nil rfl))
    (rss_nil rfl))
    (rss_cons (ow1 := []) (rs_ret (tc := []) (re_tup (ra_cons (re_fdiv (re_var F 0 rfl (by first | exact fun _ => Or.inl rfl | exact fun _ => Or.inr (Or.inl rfl) | exact fun _ => Or.inr (Or.inr rfl)) rfl) (re_var F 2 rfl (by first | exact fun _ => Or.inl rfl | exact fun _ => Or.inr (Or.inl rfl) | exact fun _ => Or.inr (Or.inr rfl)) rfl)) (ra_cons (re_fdiv (re_var F 1 rfl (by first | exact fun _ => Or.inl rfl | exact fun _ => Or.inr (Or.inl rfl) | exact fun _ => Or.inr (Or.inr rfl)) rfl) (re_var F 2 rfl (by first | exact fun _ => Or.inl rfl | exact fun _ => Or.inr (Or.inl rfl) | exact fun _ => Or.inr (Or.inr rfl)) rfl)) ra_nil (fun _ => rfl)) (fun _ => rfl))) rfl) (rss_nil rfl))))
abbrev s__law_added : Stmt := topS 18
abbrev n__law_added : List Str := ["_law_one", "_law_other"]
theorem N__law_added : n__law_added.Nodup := by decide +kernel
theorem sc__law_added : FnScope n__law_added ["_law_one", "_law_other"] (defScope s__law_added) := ⟨rfl, rfl, rfl, N__law_added, rfl, by decide +kernel, by decide +kernel⟩
noncomputable def S__law_added : XS :=
    seqS (retS (clE F__law_reduced (consA (opE addD (opE mulD (opE ixD (varE 0) (cE (.int 0))) (opE ixD (varE 1) (cE (.int 1)))) (opE mulD (opE ixD (varE 1) (cE (.int 0))) (opE ixD (varE 0) (cE (.int 1))))) (consA (opE mulD (opE ixD (varE 0) (cE (.int 1))) (opE ixD (varE 1) (cE (.int 1)))) (nilA))))) (nopS)
noncomputable def F__law_added : List D → Option D := runP 0 S__law_added
theorem w__law_added {C : Ct} (B : Blt C.mg) (h__law_reduced : Fn C "_law_reduced" 2 ["_law_n", "_law_d"] (spP C.K 2 F__law_reduced)) (hf : FnHere C "_law_added" (defArgs s__law_added) (defBody s__law_added) (defScope s__law_added)) : Fn C "_law_added" 3 ["_law_one", "_law_other"] (spP C.K 2 F__law_added) :=
  fnP (k := 2) (ow2 := []) hf sc__law_added 0 rfl (fun _ _ _ _ _ _ us hl => match us, hl with | [_, _], _ => rfl) fun _ _ _ _ _ _ _ F =>
    (rss_cons (ow1 := []) (rs_ret (tc := []) (re_callP F h__law_reduced (by omega) rfl (fun _ => rfl) (ra_cons (re_add F (re_mul (re_ix F (re_var F 0 rfl (by first | exact fun _ => Or.inl rfl | exact fun _ => Or.inr (Or.inl rfl) | exact fun _ => Or.inr (Or.inr rfl)) rfl) re_int (fun _ _ => rfl)) (re_ix F (re_var F 1 rfl (by first | exact fun _ => Or.inl rfl | exact fun _ => Or.inr (Or.inl rfl) | exact fun _ => Or.inr (Or.inr rfl)) rfl) re_int (fun _ _ => rfl))) (re_mul (re_ix F (re_var F 1 rfl (by first | exact fun _ => Or.inl rfl | exact fun _ => Or.inr (Or.inl rfl) | exact fun _ => Or.inr (Or.inr rfl)) rfl) re_int (fun _ _ => rfl)) (re_ix F (re_var F 0 rfl (by first | exact fun _ => Or.inl rfl | exact fun _ => Or.inr (Or.inl rfl) | exact fun _ => Or.inr (Or.inr rfl)) rfl) re_int (fun _ _ => rfl)))) (ra_cons (re_mul (re_ix F (re_var F 0 rfl (by first | exact fun _ => Or.inl rfl | exact fun _ => Or.inr (Or.inl rfl) | exact fun _ => Or.inr (Or.inr rfl)) rfl) re_int (fun _ _ => rfl)) (re_ix F (re_var F 1 rfl (by first | exact fun _ => Or.inl rfl | exact fun _ => Or.inr (Or.inl rfl) | exact fun _ => Or.inr (Or.inr rfl)) rfl) re_int (fun _ _ => rfl))) ra_nil (fun _ => rfl)) (fun _ => rfl)) (fun _ => rfl) (fun _ => rfl)) rfl) (rss_nil rfl))
abbrev s__law_multiplied : Stmt := topS 19
abbrev n__law_multiplied : List Str := ["_law_one", "_law_other"]
theorem N__law_multiplied : n__law_multiplied.Nodup := by decide +kernel
theorem sc__law_multiplied : FnScope n__law_multiplied ["_law_one", "_law_other"] (defScope s__law_multiplied) := ⟨rfl, rfl, rfl, N__law_multiplied, rfl, by decide +kernel, by decide +kernel⟩
noncomputable def S__law_multiplied : XS :=
    seqS (retS (clE F__law_reduced (consA (opE mulD (opE ixD (varE 0) (cE (.int 0))) (opE ixD (varE 1) (cE (.int 0)))) (consA (opE mulD (opE ixD (varE 0) (cE (.int 1))) (opE ixD (varE 1) (cE (.int 1)))) (nilA))))) (nopS)
noncomputable def F__law_multiplied : List D → Option D := runP 0 S__law_multiplied
theorem w__law_multiplied {C : Ct} (B : Blt C.mg) (h__law_reduced : Fn C "_law_reduced" 2 ["_law_n", "_law_d"] (spP C.K 2 F__law_reduced)) (hf : FnHere C "_law_multiplied" (defArgs s__law_multiplied) (defBody s__law_multiplied) (defScope s__law_multiplied)) : Fn C "_law_multiplied" 3 ["_law_one", "_law_other"] (spP C.K 2 F__law_multiplied) :=
  fnP (k := 2) (ow2 := []) hf sc__law_multiplied 0 rfl (fun _ _ _ _ _ _ us hl => match us, hl with | [_, _], _ => rfl) fun _ _ _ _ _ _ _ F =>
    (rss_cons (ow1 := []) (rs_ret (tc := []) (re_callP F h__law_reduced (by omega) rfl (fun _ => rfl) (ra_cons (re_mul (re_ix F (re_var F 0 rfl (by first | exact fun _ => Or.inl rfl | exact fun _ => Or.inr (Or.inl rfl) | exact fun _ => Or.inr (Or.inr rfl)) rfl) re_int (fun _ _ => rfl)) (re_ix F (re_var F 1 rfl (by first | exact fun _ => Or.inl rfl | exact fun _ => Or.inr (Or.inl rfl) | exact fun _ => Or.inr (Or.inr rfl)) rfl) re_int (fun _ _ => rfl))) (ra_cons (re_mul (re_ix F (re_var F 0 rfl (by first | exact fun _ => Or.inl rfl | exact fun _ => Or.inr (Or.inl rfl) | exact fun _ => Or.inr (Or.inr rfl)) rfl) re_int (fun _ _ => rfl)) (re_ix F (re_var F 1 rfl (by first | exact fun _ => Or.inl rfl | exact fun _ => Or.inr (Or.inl rfl) | exact fun _ => Or.inr (Or.inr rfl)) rfl) re_int (fun _ _ => rfl))) ra_nil (fun _ => rfl)) (fun _ => rfl)) (fun _ => rfl) (fun _ => rfl)) rfl) (rss_nil rfl))
abbrev s__law_total : Stmt := topS 20
abbrev n__law_total : List Str := ["_law_fractions", "_law_found", "_law_one"]
theorem N__law_total : n__law_total.Nodup := by decide +kernel
theorem sc__law_total : FnScope n__law_total ["_law_fractions"] (defScope s__law_total) := ⟨rfl, rfl, rfl, N__law_total, rfl, by decide +kernel, by decide +kernel⟩
noncomputable def S__law_total : XS :=
    seqS (setS 1 (tupE (consA (cE (.int 0)) (consA (cE (.int 1)) (nilA)))))
    (seqS (forS (itE (varE 0)) (nameG 2)
    (seqS (setS 1 (clE F__law_added (consA (varE 1) (consA (varE 2) (nilA)))))
    (killS [2])))
    (seqS (retS (varE 1)) (nopS)))
noncomputable def F__law_total : List D → Option D := runP 2 S__law_total
theorem w__law_total {C : Ct} (B : Blt C.mg) (h__law_added : Fn C "_law_added" 3 ["_law_one", "_law_other"] (spP C.K 2 F__law_added)) (hf : FnHere C "_law_total" (defArgs s__law_total) (defBody s__law_total) (defScope s__law_total)) : Fn C "_law_total" 4 ["_law_fractions"] (spP C.K 1 F__law_total) :=
  fnP (k := 3) (ow2 := []) hf sc__law_total 2 rfl (fun _ _ _ _ _ _ us hl => match us, hl with | [_], _ => rfl) fun _ _ _ _ _ _ _ F =>
    (rss_cons (rs_set (tc := []) F 1 (re_tup (ra_cons re_int (ra_cons re_int ra_nil (fun _ => rfl)) (fun _ => rfl))) rfl (by first | exact fun _ => Or.inl rfl | exact fun _ => Or.inr rfl) rfl (by first | exact fun _ => Or.inr rfl | exact fun _ => Or.inl rfl) (fun _ => rfl))
    (rss_cons (rs_for (tc := []) F (ri_val F (re_var F 0 rfl (by first | exact fun _ => Or.inl rfl | exact fun _ => Or.inr (Or.inl rfl) | exact fun _ => Or.inr (Or.inr rfl)) rfl)) (rg_name F 2 rfl (by first | exact fun _ => Or.inl rfl | exact fun _ => Or.inr rfl) rfl (by first | exact fun _ => Or.inr rfl | exact fun _ => Or.inl rfl))
    (rss_cons (rs_set (tc := []) F 1 (re_callP F h__law_added (by omega) rfl (fun _ => rfl) (ra_cons (re_var F 1 rfl (by first | exact fun _ => Or.inl rfl | exact fun _ => Or.inr (Or.inl rfl) | exact fun _ => Or.inr (Or.inr rfl)) rfl) (ra_cons (re_var F 2 rfl (by first | exact fun _ => Or.inl rfl | exact fun _ => Or.inr (Or.inl rfl) | exact fun _ => Or.inr (Or.inr rfl)) rfl) ra_nil (fun _ => rfl)) (fun _ => rfl)) (fun _ => rfl) (fun _ => rfl)) rfl (by first | exact fun _ => Or.inl rfl | exact fun _ => Or.inr rfl) rfl (by first | exact fun _ => Or.inr rfl | exact fun _ => Or.inl rfl) (fun _ => rfl))
    (rss_kill [2] rfl rfl))
    (fun _ => PassesOwn.never) (fun _ _ => rfl))
    (rss_cons (ow1 := []) (rs_ret (tc := []) (re_var F 1 rfl (by first | exact fun _ => Or.inl rfl | exact fun _ => Or.inr (Or.inl rfl) | exact fun _ => Or.inr (Or.inr rfl)) rfl) rfl) (rss_nil rfl))))
abbrev s__law_number : Stmt := topS 21
abbrev n__law_number : List Str := ["_law_bag_here", "_law_most", "_law_way"]
theorem N__law_number : n__law_number.Nodup := by decide +kernel
theorem sc__law_number : FnScope n__law_number ["_law_bag_here", "_law_most"] (defScope s__law_number) := ⟨rfl, rfl, rfl, N__law_number, rfl, by decide +kernel, by decide +kernel⟩
noncomputable def S__law_number : XS :=
    seqS (setS 2 (callB F__law_take 0 (consA (cE (.int 12)) (nilA))))
    (seqS (ifS (tE (opE eqD (varE 2) (cE (.int 0))))
    (seqS (retS (clE F__law_reduced (consA (opE addD (cE (.int 1)) (callB F__law_take 0 (consA (opE mulD (cE (.int 3)) (varE 1)) (nilA)))) (consA (callB F__law_some 0 (consA (lstE (consA (cE (.int 2)) (consA (cE (.int 3)) (consA (cE (.int 7)) (nilA))))) (nilA))) (nilA))))) (nopS))
    (nopS))
    (seqS (ifS (tE (opE eqD (varE 2) (cE (.int 1))))
    (seqS (retS (callB F__law_some 0 (consA (lstE (consA (tupE (consA (cE (.int 1000)) (consA (cE (.int 1)) (nilA)))) (consA (tupE (consA (cE (.int 1)) (consA (cE (.int 1000)) (nilA)))) (consA (tupE (consA (cE (.int 999999999999)) (consA (cE (.int 1)) (nilA)))) (consA (tupE (consA (cE (.int 1)) (consA (cE (.int 12)) (nilA)))) (consA (tupE (consA (cE (.int 12345)) (consA (cE (.int 67)) (nilA)))) (nilA))))))) (nilA)))) (nopS))
    (nopS))
    (seqS (retS (tupE (consA (opE addD (cE (.int 1)) (callB F__law_take 0 (consA (varE 1) (nilA)))) (consA (cE (.int 1)) (nilA))))) (nopS))))
noncomputable def F__law_number : D → List D → Option (D × D) := runB 1 S__law_number
theorem w__law_number {C : Ct} (B : Blt C.mg) (h__law_take : Fn C "_law_take" 1 ["_law_bag_here", "_law_many"] (spB C.K 2 F__law_take)) (h__law_reduced : Fn C "_law_reduced" 2 ["_law_n", "_law_d"] (spP C.K 2 F__law_reduced)) (h__law_some : Fn C "_law_some" 2 ["_law_bag_here", "_law_things"] (spB C.K 2 F__law_some)) (hf : FnHere C "_law_number" (defArgs s__law_number) (defBody s__law_number) (defScope s__law_number)) : Fn C "_law_number" 3 ["_law_bag_here", "_law_most"] (spB C.K 2 F__law_number) :=
  fnB (k := 2) hf sc__law_number 1 rfl (fun _ _ _ _ _ _ us hl => match us, hl with | [_, _], _ => rfl) fun _ _ _ _ _ _ _ F =>
    (rss_cons (rs_set (tc := [0]) F 2 (re_callB_ F h__law_take (by omega) 0 rfl rfl rfl (by first | exact fun _ => Or.inl rfl | exact fun _ => Or.inr (Or.inl rfl) | exact fun _ => Or.inr (Or.inr rfl)) rfl (fun _ => rfl) (ra_cons re_int ra_nil (fun _ => rfl)) (fun _ => rfl) (fun _ => rfl)) rfl (by first | exact fun _ => Or.inl rfl | exact fun _ => Or.inr rfl) rfl (by first | exact fun _ => Or.inr rfl | exact fun _ => Or.inl rfl) (fun _ => rfl))
    (rss_cons (rs_if (tc := []) (ow2 := [0]) (rt_eq F (re_var F 2 rfl (by first | exact fun _ => Or.inl rfl | exact fun _ => Or.inr (Or.inl rfl) | exact fun _ => Or.inr (Or.inr rfl)) rfl) re_int)
    (rss_cons (ow1 := [0]) (rs_ret (tc := [0]) (re_callP F h__law_reduced (by omega) rfl (fun _ => rfl) (ra_cons (re_add F re_int (re_callB_ F h__law_take (by omega) 0 rfl rfl rfl (by first | exact fun _ => Or.inl rfl | exact fun _ => Or.inr (Or.inl rfl) | exact fun _ => Or.inr (Or.inr rfl)) rfl (fun _ => rfl) (ra_cons (re_mul re_int (re_var F 1 rfl (by first | exact fun _ => Or.inl rfl | exact fun _ => Or.inr (Or.inl rfl) | exact fun _ => Or.inr (Or.inr rfl)) rfl)) ra_nil (fun _ => rfl)) (fun _ => rfl) (fun _ => rfl))) (ra_cons (re_callB_ F h__law_some (by omega) 0 rfl rfl rfl (by first | exact fun _ => Or.inl rfl | exact fun _ => Or.inr (Or.inl rfl) | exact fun _ => Or.inr (Or.inr rfl)) rfl (fun _ => rfl) (ra_cons (RF.re (rf_lst (ra_cons re_int (ra_cons re_int (ra_cons re_int ra_nil (fun _ => rfl)) (fun _ => rfl)) (fun _ => rfl)))) ra_nil (fun _ => rfl)) (fun _ => rfl) (fun _ => rfl)) ra_nil (fun _ => rfl)) (fun _ => rfl)) (fun _ => rfl) (fun _ => rfl)) rfl) (rss_nil rfl))
    (rss_nil rfl))
    (rss_cons (rs_if (tc := []) (ow2 := [0]) (rt_eq F (re_var F 2 rfl (by first | exact fun _ => Or.inl rfl | exact fun _ => Or.inr (Or.inl rfl) | exact fun _ => Or.inr (Or.inr rfl)) rfl) re_int)
    (rss_cons (ow1 := [0]) (rs_ret (tc := [0]) (re_callB_ F h__law_some (by omega) 0 rfl rfl rfl (by first | exact fun _ => Or.inl rfl | exact fun _ => Or.inr (Or.inl rfl) | exact fun _ => Or.inr (Or.inr rfl)) rfl (fun _ => rfl) (ra_cons (RF.re (rf_lst (ra_cons (re_tup (ra_cons re_int (ra_cons re_int ra_nil (fun _ => rfl)) (fun _ => rfl))) (ra_cons (re_tup (ra_cons re_int (ra_cons re_int ra_nil (fun _ => rfl)) (fun _ => rfl))) (ra_cons (re_tup (ra_cons re_int (ra_cons re_int ra_nil (fun _ => rfl)) (fun _ => rfl))) (ra_cons (re_tup (ra_cons re_int (ra_cons re_int ra_nil (fun _ => rfl)) (fun _ => rfl))) (ra_cons (re_tup (ra_cons re_int (ra_cons re_int ra_nil (fun _ => rfl)) (fun _ => rfl))) ra_nil (fun _ => rfl)) (fun _ => rfl)) (fun _ => rfl)) (fun _ => rfl)) (fun _ => rfl)))) ra_nil (fun _ => rfl)) (fun _ => rfl) (fun _ => rfl)) rfl) (rss_nil rfl))
    (rss_nil rfl))
    (rss_cons (ow1 := [0]) (rs_ret (tc := [0]) (re_tup (ra_cons (re_add F re_int (re_callB_ F h__law_take (by omega) 0 rfl rfl rfl (by first | exact fun _ => Or.inl rfl | exact fun _ => Or.inr (Or.inl rfl) | exact fun _ => Or.inr (Or.inr rfl)) rfl (fun _ => rfl) (ra_cons (re_var F 1 rfl (by first | exact fun _ => Or.inl rfl | exact fun _ => Or.inr (Or.inl rfl) | exact fun _ => Or.inr (Or.inr rfl)) rfl) ra_nil (fun _ => rfl)) (fun _ => rfl) (fun _ => rfl))) (ra_cons re_int ra_nil (fun _ => rfl)) (fun _ => rfl))) rfl) (rss_nil rfl)))))
abbrev s__law_is_fraction : Stmt := topS 22
abbrev n__law_is_fraction : List Str := ["_law_thing"]
theorem N__law_is_fraction : n__law_is_fraction.Nodup := by decide +kernel
theorem sc__law_is_fraction : FnScope n__law_is_fraction ["_law_thing"] (defScope s__law_is_fraction) := ⟨rfl, rfl, rfl, N__law_is_fraction, rfl, by decide +kernel, by decide +kernel⟩
noncomputable def S__law_is_fraction : XS :=
    seqS (ifS (orT (notT (tE (isiE "tuple" (varE 0)))) (orT (tE (opE neD (clE (g1 lenD) (consA (varE 0) nilA)) (cE (.int 2)))) (orT (notT (tE (clE F__law_is_int (consA (opE ixD (varE 0) (cE (.int 0))) (nilA))))) (notT (tE (clE F__law_is_int (consA (opE ixD (varE 0) (cE (.int 1))) (nilA))))))))
    (seqS (retS (cE (.bool false))) (nopS))
    (nopS))
    (seqS (retS (ifE (tE (opE gtI (opE ixD (varE 0) (cE (.int 1))) (cE (.int 0)))) (opE eqD (clE F__law_common (consA (opE ixD (varE 0) (cE (.int 0))) (consA (opE ixD (varE 0) (cE (.int 1))) (nilA)))) (cE (.int 1))) (cE (.bool false)))) (nopS))
noncomputable def F__law_is_fraction : List D → Option D := runP 0 S__law_is_fraction
theorem w__law_is_fraction {C : Ct} (B : Blt C.mg) (h__law_is_int : Fn C "_law_is_int" 1 ["_law_thing"] (spP C.K 1 F__law_is_int)) (h__law_common : Fn C "_law_common" 1 ["_law_one", "_law_other"] (spP C.K 2 F__law_common)) (hf : FnHere C "_law_is_fraction" (defArgs s__law_is_fraction) (defBody s__law_is_fraction) (defScope s__law_is_fraction)) : Fn C "_law_is_fraction" 2 ["_law_thing"] (spP C.K 1 F__law_is_fraction) :=
  fnP (k := 1) (ow2 := []) hf sc__law_is_fraction 0 rfl (fun _ _ _ _ _ _ us hl => match us, hl with | [_], _ => rfl) fun _ _ _ _ _ _ _ F =>
    (rss_cons (rs_if (tc := []) (ow2 := []) (rt_w (rw_or (rt_not (rt_val (re_isi F B.isinstance B.tuple boot_tuple (fun _ => rfl) (fun _ => rfl) (re_var F 0 rfl (by first | exact fun _ => Or.inl rfl | exact fun _ => Or.inr (Or.inl rfl) | exact fun _ => Or.inr (Or.inr rfl)) rfl) (fun _ => rfl) (fun _ => rfl) (fun _ => rfl)) (fun _ _ => rfl))) (rw_or (rt_ne F (re_len F B (re_var F 0 rfl (by first | exact fun _ => Or.inl rfl | exact fun _ => Or.inr (Or.inl rfl) | exact fun _ => Or.inr (Or.inr rfl)) rfl) (fun _ => rfl) (fun _ => rfl) (fun _ => rfl)) re_int) (rw_or (rt_not (rt_val (re_callP F h__law_is_int (by omega) rfl (fun _ => rfl) (ra_cons (re_ix F (re_var F 0 rfl (by first | exact fun _ => Or.inl rfl | exact fun _ => Or.inr (Or.inl rfl) | exact fun _ => Or.inr (Or.inr rfl)) rfl) re_int (fun _ _ => rfl)) ra_nil (fun _ => rfl)) (fun _ => rfl) (fun _ => rfl)) (fun _ _ => rfl))) (rw_or1 (rt_not (rt_val (re_callP F h__law_is_int (by omega) rfl (fun _ => rfl) (ra_cons (re_ix F (re_var F 0 rfl (by first | exact fun _ => Or.inl rfl | exact fun _ => Or.inr (Or.inl rfl) | exact fun _ => Or.inr (Or.inr rfl)) rfl) re_int (fun _ _ => rfl)) ra_nil (fun _ => rfl)) (fun _ => rfl) (fun _ => rfl)) (fun _ _ => rfl))))))))
    (rss_cons (ow1 := []) (rs_ret (tc := []) re_bl rfl) (rss_nil rfl))
    (rss_nil rfl))
    (rss_cons (ow1 := []) (rs_ret (tc := []) (re_and (re_gt  (re_ix F (re_var F 0 rfl (by first | exact fun _ => Or.inl rfl | exact fun _ => Or.inr (Or.inl rfl) | exact fun _ => Or.inr (Or.inr rfl)) rfl) re_int (fun _ _ => rfl)) re_int) (re_one (re_eq F (re_callP F h__law_common (by omega) rfl (fun _ => rfl) (ra_cons (re_ix F (re_var F 0 rfl (by first | exact fun _ => Or.inl rfl | exact fun _ => Or.inr (Or.inl rfl) | exact fun _ => Or.inr (Or.inr rfl)) rfl) re_int (fun _ _ => rfl)) (ra_cons (re_ix F (re_var F 0 rfl (by first | exact fun _ => Or.inl rfl | exact fun _ => Or.inr (Or.inl rfl) | exact fun _ => Or.inr (Or.inr rfl)) rfl) re_int (fun _ _ => rfl)) ra_nil (fun _ => rfl)) (fun _ => rfl)) (fun _ => rfl) (fun _ => rfl)) re_int))) rfl) (rss_nil rfl)))
abbrev s__law_whole : Stmt := topS 23
abbrev n__law_whole : List Str := ["_law_rows", "_law_found", "_law_sign", "_law_at", "_law_entry_here", "_law_rest", "_law_part", "_law_row"]
theorem N__law_whole : n__law_whole.Nodup := by decide +kernel
theorem sc__law_whole : FnScope n__law_whole ["_law_rows"] (defScope s__law_whole) := ⟨rfl, rfl, rfl, N__law_whole, rfl, by decide +kernel, by decide +kernel⟩
noncomputable def S__law_whole (R__law_whole : List D → Option D) : XS :=
    seqS (ifS (tE (opE eqD (varE 0) (lstE (nilA))))
    (seqS (retS (tupE (consA (cE (.int 1)) (consA (cE (.int 1)) (nilA))))) (nopS))
    (nopS))
    (seqS (setG (tupG (consG (nameG 1) (consG (nameG 2) (nilG)))) (tupE (consA (tupE (consA (cE (.int 0)) (consA (cE (.int 1)) (nilA)))) (consA (cE (.int 1)) (nilA)))))
    (seqS (forS (enumT (consA (opE ixD (varE 0) (cE (.int 0))) (nilA))) (tupG (consG (nameG 3) (consG (nameG 4) (nilG))))
    (seqS (setS 5 (compE (itE (slE (varE 0) (someO (cE (.int 1))) (noO))) [7] (nameG 7) (yesT) (opE addD (slE (varE 7) (noO) (someO (varE 3))) (slE (varE 7) (someO (opE addD (varE 3) (cE (.int 1)))) (noO)))))
    (seqS (setS 6 (clE F__law_multiplied (consA (varE 4) (consA (clE R__law_whole (consA (varE 5) (nilA))) (nilA)))))
    (seqS (setS 1 (clE F__law_added (consA (varE 1) (consA (tupE (consA (opE mulD (varE 2) (opE ixD (varE 6) (cE (.int 0)))) (consA (opE ixD (varE 6) (cE (.int 1))) (nilA)))) (nilA)))))
    (seqS (setS 2 (unE negD (varE 2)))
    (killS [3, 4, 5, 6]))))))
    (seqS (retS (varE 1)) (nopS))))
noncomputable def F__law_whole : Nat → List D → Option D
  | 0 => fun _ => none
  | n + 1 => runP 7 (S__law_whole (F__law_whole n))
theorem w__law_whole {C : Ct} (B : Blt C.mg) (h__law_multiplied : Fn C "_law_multiplied" 3 ["_law_one", "_law_other"] (spP C.K 2 F__law_multiplied)) (h__law_added : Fn C "_law_added" 3 ["_law_one", "_law_other"] (spP C.K 2 F__law_added)) (hf : FnHere C "_law_whole" (defArgs s__law_whole) (defBody s__law_whole) (defScope s__law_whole)) : ∀ n : Nat, Fn C "_law_whole" (3 + n) ["_law_rows"] (spP C.K 1 (F__law_whole n))
  | 0 => fnP0 _ hf (fun _ _ _ _ _ _ us hl => match us, hl with | [_], _ => rfl)
  | n + 1 => by
    have h__law_whole := w__law_whole B h__law_multiplied h__law_added hf n
    exact fnP (k := 3 + n) (ow2 := []) hf sc__law_whole 7 rfl (fun _ _ _ _ _ _ us hl => match us, hl with | [_], _ => rfl) fun _ _ _ _ _ _ _ F =>
    (rss_cons (rs_if (tc := []) (ow2 := []) (rt_eq F (re_var F 0 rfl (by first | exact fun _ => Or.inl rfl | exact fun _ => Or.inr (Or.inl rfl) | exact fun _ => Or.inr (Or.inr rfl)) rfl) (RF.re (rf_lst ra_nil)))
    (rss_cons (ow1 := []) (rs_ret (tc := []) (re_tup (ra_cons re_int (ra_cons re_int ra_nil (fun _ => rfl)) (fun _ => rfl))) rfl) (rss_nil rfl))
    (rss_nil rfl))
    (rss_cons (rs_asg (tc := []) (re_tup (ra_cons (re_tup (ra_cons re_int (ra_cons re_int ra_nil (fun _ => rfl)) (fun _ => rfl))) (ra_cons re_int ra_nil (fun _ => rfl)) (fun _ => rfl))) (rg_tup F (rgs_cons (rg_name F 1 rfl (by first | exact fun _ => Or.inl rfl | exact fun _ => Or.inr rfl) rfl (by first | exact fun _ => Or.inr rfl | exact fun _ => Or.inl rfl)) (rgs_cons (rg_name F 2 rfl (by first | exact fun _ => Or.inl rfl | exact fun _ => Or.inr rfl) rfl (by first | exact fun _ => Or.inr rfl | exact fun _ => Or.inl rfl)) rgs_nil (fun _ => rfl)) (fun _ => rfl)) (fun _ => rfl) (fun _ => rfl)) (fun _ => rfl) (fun _ => rfl) (fun _ => rfl))
    (rss_cons (rs_for (tc := []) F (ri_enumT F B.enumerate (fun _ => rfl) (ra_cons (re_ix F (re_var F 0 rfl (by first | exact fun _ => Or.inl rfl | exact fun _ => Or.inr (Or.inl rfl) | exact fun _ => Or.inr (Or.inr rfl)) rfl) re_int (fun _ _ => rfl)) ra_nil (fun _ => rfl)) (fun _ => rfl)) (rg_tup F (rgs_cons (rg_name F 3 rfl (by first | exact fun _ => Or.inl rfl | exact fun _ => Or.inr rfl) rfl (by first | exact fun _ => Or.inr rfl | exact fun _ => Or.inl rfl)) (rgs_cons (rg_name F 4 rfl (by first | exact fun _ => Or.inl rfl | exact fun _ => Or.inr rfl) rfl (by first | exact fun _ => Or.inr rfl | exact fun _ => Or.inl rfl)) rgs_nil (fun _ => rfl)) (fun _ => rfl)) (fun _ => rfl) (fun _ => rfl))
    (rss_cons (rs_setLc (tc := []) F 5 rfl (fun _ => rfl) rfl (fun _ => sw_true rfl rfl rfl (by decide +kernel)) (ri_val F (re_slice F (re_var F 0 rfl (by first | exact fun _ => Or.inl rfl | exact fun _ => Or.inr (Or.inl rfl) | exact fun _ => Or.inr (Or.inr rfl)) rfl) (ro_some re_int) ro_none)) (fun _ => blkOk_by (by first | decide +kernel | kernel_rfl)) (rg_name (Fam.blk F _) 7 rfl (by first | exact fun _ => Or.inl rfl | exact fun _ => Or.inr rfl) rfl (by first | exact fun _ => Or.inr rfl | exact fun _ => Or.inl rfl)) rq_nil (re_add (Fam.blk F _) (re_slice (Fam.blk F _) (re_var (Fam.blk F _) 7 rfl (by first | exact fun _ => Or.inl rfl | exact fun _ => Or.inr (Or.inl rfl) | exact fun _ => Or.inr (Or.inr rfl)) rfl) ro_none (ro_some (re_var (Fam.blk F _) 3 rfl (by first | exact fun _ => Or.inl rfl | exact fun _ => Or.inr (Or.inl rfl) | exact fun _ => Or.inr (Or.inr rfl)) rfl))) (re_slice (Fam.blk F _) (re_var (Fam.blk F _) 7 rfl (by first | exact fun _ => Or.inl rfl | exact fun _ => Or.inr (Or.inl rfl) | exact fun _ => Or.inr (Or.inr rfl)) rfl) (ro_some (re_add (Fam.blk F _) (re_var (Fam.blk F _) 3 rfl (by first | exact fun _ => Or.inl rfl | exact fun _ => Or.inr (Or.inl rfl) | exact fun _ => Or.inr (Or.inr rfl)) rfl) re_int)) ro_none)) (fun _ _ => rfl) rfl rfl (ownL := [("_law_row", 7)]))
    (rss_cons (rs_set (tc := []) F 6 (re_callP F h__law_multiplied (by omega) rfl (fun _ => rfl) (ra_cons (re_var F 4 rfl (by first | exact fun _ => Or.inl rfl | exact fun _ => Or.inr (Or.inl rfl) | exact fun _ => Or.inr (Or.inr rfl)) rfl) (ra_cons (re_callP F h__law_whole (by omega) rfl (fun _ => rfl) (ra_cons (re_var F 5 rfl (by first | exact fun _ => Or.inl rfl | exact fun _ => Or.inr (Or.inl rfl) | exact fun _ => Or.inr (Or.inr rfl)) rfl) ra_nil (fun _ => rfl)) (fun _ => rfl) (fun _ => rfl)) ra_nil (fun _ => rfl)) (fun _ => rfl)) (fun _ => rfl) (fun _ => rfl)) rfl (by first | exact fun _ => Or.inl rfl | exact fun _ => Or.inr rfl) rfl (by first | exact fun _ => Or.inr rfl | exact fun _ => Or.inl rfl) (fun _ => rfl))
    (rss_cons (rs_set (tc := []) F 1 (re_callP F h__law_added (by omega) rfl (fun _ => rfl) (ra_cons (re_var F 1 rfl (by first | exact fun _ => Or.inl rfl | exact fun _ => Or.inr (Or.inl rfl) | exact fun _ => Or.inr (Or.inr rfl)) rfl) (ra_cons (re_tup (ra_cons (re_mul (re_var F 2 rfl (by first | exact fun _ => Or.inl rfl | exact fun _ => Or.inr (Or.inl rfl) | exact fun _ => Or.inr (Or.inr rfl)) rfl) (re_ix F (re_var F 6 rfl (by first | exact fun _ => Or.inl rfl | exact fun _ => Or.inr (Or.inl rfl) | exact fun _ => Or.inr (Or.inr rfl)) rfl) re_int (fun _ _ => rfl))) (ra_cons (re_ix F (re_var F 6 rfl (by first | exact fun _ => Or.inl rfl | exact fun _ => Or.inr (Or.inl rfl) | exact fun _ => Or.inr (Or.inr rfl)) rfl) re_int (fun _ _ => rfl)) ra_nil (fun _ => rfl)) (fun _ => rfl))) ra_nil (fun _ => rfl)) (fun _ => rfl)) (fun _ => rfl) (fun _ => rfl)) rfl (by first | exact fun _ => Or.inl rfl | exact fun _ => Or.inr rfl) rfl (by first | exact fun _ => Or.inr rfl | exact fun _ => Or.inl rfl) (fun _ => rfl))
    (rss_cons (rs_set (tc := []) F 2 (re_neg (re_var F 2 rfl (by first | exact fun _ => Or.inl rfl | exact fun _ => Or.inr (Or.inl rfl) | exact fun _ => Or.inr (Or.inr rfl)) rfl)) rfl (by first | exact fun _ => Or.inl rfl | exact fun _ => Or.inr rfl) rfl (by first | exact fun _ => Or.inr rfl | exact fun _ => Or.inl rfl) (fun _ => rfl))
    (rss_kill [3, 4, 5, 6] rfl rfl)))))
    (fun _ => PassesOwn.never) (fun _ _ => rfl))
    (rss_cons (ow1 := []) (rs_ret (tc := []) (re_var F 1 rfl (by first | exact fun _ => Or.inl rfl | exact fun _ => Or.inr (Or.inl rfl) | exact fun _ => Or.inr (Or.inr rfl)) rfl) rfl) (rss_nil rfl)))))
abbrev s__law_entry : Stmt := topS 24
abbrev n__law_entry : List Str := ["_law_bag_here", "_law_number_here"]
theorem N__law_entry : n__law_entry.Nodup := by decide +kernel
theorem sc__law_entry : FnScope n__law_entry ["_law_bag_here"] (defScope s__law_entry) := ⟨rfl, rfl, rfl, N__law_entry, rfl, by decide +kernel, by decide +kernel⟩
noncomputable def S__law_entry : XS :=
    seqS (setS 1 (callB F__law_some 0 (consA (lstE (consA (tupE (consA (cE (.int 0)) (consA (cE (.int 1)) (nilA)))) (consA (tupE (consA (cE (.int 1)) (consA (cE (.int 1)) (nilA)))) (consA (callB F__law_number 0 (consA (cE (.int 6)) (nilA))) (consA (callB F__law_number 0 (consA (cE (.int 3)) (nilA))) (consA (tupE (consA (cE (.int 1)) (consA (cE (.int 2)) (nilA)))) (nilA))))))) (nilA))))
    (seqS (retS (ifE (tE (opE eqD (callB F__law_take 0 (consA (cE (.int 3)) (nilA))) (cE (.int 0)))) (tupE (consA (unE negD (opE ixD (varE 1) (cE (.int 0)))) (consA (opE ixD (varE 1) (cE (.int 1))) (nilA)))) (varE 1))) (nopS))
noncomputable def F__law_entry : D → List D → Option (D × D) := runB 1 S__law_entry
theorem w__law_entry {C : Ct} (B : Blt C.mg) (h__law_some : Fn C "_law_some" 2 ["_law_bag_here", "_law_things"] (spB C.K 2 F__law_some)) (h__law_number : Fn C "_law_number" 3 ["_law_bag_here", "_law_most"] (spB C.K 2 F__law_number)) (h__law_take : Fn C "_law_take" 1 ["_law_bag_here", "_law_many"] (spB C.K 2 F__law_take)) (hf : FnHere C "_law_entry" (defArgs s__law_entry) (defBody s__law_entry) (defScope s__law_entry)) : Fn C "_law_entry" 4 ["_law_bag_here"] (spB C.K 1 F__law_entry) :=
  fnB (k := 3) hf sc__law_entry 1 rfl (fun _ _ _ _ _ _ us hl => match us, hl with | [_], _ => rfl) fun _ _ _ _ _ _ _ F =>
    (rss_cons (rs_set (tc := [0]) F 1 (re_callB_ F h__law_some (by omega) 0 rfl rfl rfl (by first | exact fun _ => Or.inl rfl | exact fun _ => Or.inr (Or.inl rfl) | exact fun _ => Or.inr (Or.inr rfl)) rfl (fun _ => rfl) (ra_cons (RF.re (rf_lst (ra_cons (re_tup (ra_cons re_int (ra_cons re_int ra_nil (fun _ => rfl)) (fun _ => rfl))) (ra_cons (re_tup (ra_cons re_int (ra_cons re_int ra_nil (fun _ => rfl)) (fun _ => rfl))) (ra_cons (re_callB_ F h__law_number (by omega) 0 rfl rfl rfl (by first | exact fun _ => Or.inl rfl | exact fun _ => Or.inr (Or.inl rfl) | exact fun _ => Or.inr (Or.inr rfl)) rfl (fun _ => rfl) (ra_cons re_int ra_nil (fun _ => rfl)) (fun _ => rfl) (fun _ => rfl)) (ra_cons (re_callB_ F h__law_number (by omega) 0 rfl rfl rfl (by first | exact fun _ => Or.inl rfl | exact fun _ => Or.inr (Or.inl rfl) | exact fun _ => Or.inr (Or.inr rfl)) rfl (fun _ => rfl) (ra_cons re_int ra_nil (fun _ => rfl)) (fun _ => rfl) (fun _ => rfl)) (ra_cons (re_tup (ra_cons re_int (ra_cons re_int ra_nil (fun _ => rfl)) (fun _ => rfl))) ra_nil (fun _ => rfl)) (fun _ => rfl)) (fun _ => rfl)) (fun _ => rfl)) (fun _ => rfl)))) ra_nil (fun _ => rfl)) (fun _ => rfl) (fun _ => rfl)) rfl (by first | exact fun _ => Or.inl rfl | exact fun _ => Or.inr rfl) rfl (by first | exact fun _ => Or.inr rfl | exact fun _ => Or.inl rfl) (fun _ => rfl))
    (rss_cons (ow1 := [0]) (rs_ret (tc := [0]) (re_if (rt_eq F (re_callB_ F h__law_take (by omega) 0 rfl rfl rfl (by first | exact fun _ => Or.inl rfl | exact fun _ => Or.inr (Or.inl rfl) | exact fun _ => Or.inr (Or.inr rfl)) rfl (fun _ => rfl) (ra_cons re_int ra_nil (fun _ => rfl)) (fun _ => rfl) (fun _ => rfl)) re_int) (re_tup (ra_cons (re_neg (re_ix F (re_var F 1 rfl (by first | exact fun _ => Or.inl rfl | exact fun _ => Or.inr (Or.inl rfl) | exact fun _ => Or.inr (Or.inr rfl)) rfl) re_int (fun _ _ => rfl))) (ra_cons (re_ix F (re_var F 1 rfl (by first | exact fun _ => Or.inl rfl | exact fun _ => Or.inr (Or.inl rfl) | exact fun _ => Or.inr (Or.inr rfl)) rfl) re_int (fun _ _ => rfl)) ra_nil (fun _ => rfl)) (fun _ => rfl))) (re_var F 1 rfl (by first | exact fun _ => Or.inl rfl | exact fun _ => Or.inr (Or.inl rfl) | exact fun _ => Or.inr (Or.inr rfl)) rfl)) rfl) (rss_nil rfl)))
abbrev s_law : Stmt := topS 25
abbrev n_law : List Str := ["_law_script", "_law_bag_here", "_law_turn", "_law_many", "_law_rows", "_law_factor", "_law_right", "_law_kept", "_law_whole_here", "_law_told", "_law_row", "_law_end", "_law_k", "_law_one", "_law_x"]
theorem N_law : n_law.Nodup := by decide +kernel
theorem sc_law : FnScope n_law ["_law_script"] (defScope s_law) := ⟨rfl, rfl, rfl, N_law, rfl, by decide +kernel, by decide +kernel⟩
noncomputable def S_law : XS :=
    seqS (ownS 1 (clE F__law_bag (consA (varE 0) (nilA))))
    (seqS (forS (rngE (consA (cE (.int 6)) (nilA))) (nameG 2)
    (seqS (setS 3 (callB F__law_some 1 (consA (lstE (consA (cE (.int 2)) (consA (cE (.int 3)) (consA (cE (.int 1)) (consA (cE (.int 4)) (consA (cE (.int 0)) (nilA))))))) (nilA))))
    (seqS (ownS 4 (compE (rngE (consA (varE 3) (nilA))) [12] (nameG 12) (yesT) (clE (g1 tupleD) (consA (compE (rngE (consA (varE 3) (nilA))) [12] (nameG 12) (yesT) (callB F__law_entry 1 (nilA))) nilA))))
    (seqS (ifS (andT (tE (opE gtI (varE 3) (cE (.int 1)))) (tE (opE eqD (callB F__law_take 1 (consA (cE (.int 3)) (nilA))) (cE (.int 0)))))
    (seqS (setS 5 (callB F__law_entry 1 (nilA)))
    (seqS (setiS 4 (unE negD (cE (.int 1))) (clE (g1 tupleD) (consA (compE (itE (ixoE 4 (cE (.int 0)))) [13] (nameG 13) (yesT) (clE F__law_multiplied (consA (varE 5) (consA (varE 13) (nilA))))) nilA)))
    (killS [5])))
    (nopS))
    (seqS (setS 6 (compE (rngE (consA (varE 3) (nilA))) [12] (nameG 12) (yesT) (callB F__law_entry 1 (nilA))))
    (seqS (parS 7 8 (consA (clE (g1 reprD) (consA (lstE (consA (varE 4) (consA (varE 6) (nilA)))) nilA)) (consA (clE (F__law_whole 6) (consA (varE 4) (nilA))) (nilA))))
    (seqS (setS 9 (clE F_solved (consA (varE 4) (consA (varE 6) (nilA)))))
    (seqS (ifS (orT (notT (tE (clE F__law_alike (consA (clE F_solved (consA (clE (g1 tupleD) (consA (varE 4) nilA)) (consA (clE (g1 tupleD) (consA (varE 6) nilA)) (nilA)))) (consA (varE 9) (nilA)))))) (tE (opE neD (clE (g1 reprD) (consA (lstE (consA (varE 4) (consA (varE 6) (nilA)))) nilA)) (varE 7))))
    (seqS (retS (cE (.bool false))) (nopS))
    (nopS))
    (seqS (ifS (tE (opE neD (opE isND (varE 9) (cE .none)) (opE eqD (opE ixD (varE 8) (cE (.int 0))) (cE (.int 0)))))
    (seqS (retS (cE (.bool false))) (nopS))
    (nopS))
    (seqS (ifS (tE (opE notND (varE 9) (cE .none)))
    (seqS (ifS (orT (notT (tE (isiE "tuple" (varE 9)))) (tE (opE neD (compE (itE (varE 9)) [13] (nameG 13) (notT (tE (clE F__law_is_fraction (consA (varE 13) (nilA))))) (varE 13)) (lstE (nilA)))))
    (seqS (retS (cE (.bool false))) (nopS))
    (nopS))
    (seqS (ifS (tE (opE neD (clE (g1 lenD) (consA (varE 9) nilA)) (varE 3)))
    (seqS (retS (cE (.bool false))) (nopS))
    (nopS))
    (seqS (forS (zipE (consA (varE 4) (consA (varE 6) (nilA)))) (tupG (consG (nameG 10) (consG (nameG 11) (nilG))))
    (seqS (ifS (tE (opE neD (clE F__law_total (consA (compE (zipE (consA (varE 10) (consA (varE 9) (nilA)))) [13, 14] (tupG (consG (nameG 13) (consG (nameG 14) (nilG)))) (yesT) (clE F__law_multiplied (consA (varE 13) (consA (varE 14) (nilA))))) (nilA))) (varE 11)))
    (seqS (retS (cE (.bool false))) (nopS))
    (nopS))
    (killS [10, 11])))
    (killS [10, 11]))))
    (nopS))
    (killS [2, 3, 4, 5, 6, 7, 8, 9, 10, 11])))))))))))
    (seqS (retS (cE (.bool true))) (nopS)))
noncomputable def F_law : List D → Option D := runP 14 S_law
theorem w_law {C : Ct} (B : Blt C.mg) (h__law_bag : Fn C "_law_bag" 1 ["_law_script"] (spPF C.K 1 F__law_bag)) (h__law_some : Fn C "_law_some" 2 ["_law_bag_here", "_law_things"] (spB C.K 2 F__law_some)) (h__law_entry : Fn C "_law_entry" 4 ["_law_bag_here"] (spB C.K 1 F__law_entry)) (h__law_take : Fn C "_law_take" 1 ["_law_bag_here", "_law_many"] (spB C.K 2 F__law_take)) (h__law_multiplied : Fn C "_law_multiplied" 3 ["_law_one", "_law_other"] (spP C.K 2 F__law_multiplied)) (h__law_whole : Fn C "_law_whole" 9 ["_law_rows"] (spP C.K 1 (F__law_whole 6))) (h_solved : Fn C "solved" 5 ["rows", "right"] (spP C.K 2 F_solved)) (h__law_alike : Fn C "_law_alike" 1 ["_law_found", "_law_due"] (spP C.K 2 F__law_alike)) (h__law_is_fraction : Fn C "_law_is_fraction" 2 ["_law_thing"] (spP C.K 1 F__law_is_fraction)) (h__law_total : Fn C "_law_total" 4 ["_law_fractions"] (spP C.K 1 F__law_total)) (hf : FnHere C "law" (defArgs s_law) (defBody s_law) (defScope s_law)) : Fn C "law" 10 ["_law_script"] (spP C.K 1 F_law) :=
  fnP (k := 9) (ow2 := []) hf sc_law 14 rfl (fun _ _ _ _ _ _ us hl => match us, hl with | [_], _ => rfl) fun _ _ _ _ _ _ _ F =>
    (rss_cons (rs_own (tc := []) F 1 (rf_callP F h__law_bag (by omega) rfl (fun _ => rfl) (ra_cons (re_var F 0 rfl (by first | exact fun _ => Or.inl rfl | exact fun _ => Or.inr (Or.inl rfl) | exact fun _ => Or.inr (Or.inr rfl)) rfl) ra_nil (fun _ => rfl)) (fun _ => rfl) (fun _ => rfl)) rfl (by first | exact fun _ => Or.inl rfl | exact fun _ => Or.inr rfl) rfl (fun _ => fun h => ps_set (i := 1) N_law rfl (by first | exact Or.inl rfl | exact Or.inr rfl) h) rfl)
    (rss_cons (rs_for (tc := []) F (ri_rng1 F B.range (fun _ => rfl) (ra_cons re_int ra_nil (fun _ => rfl)) (fun _ => rfl)) (rg_name F 2 rfl (by first | exact fun _ => Or.inl rfl | exact fun _ => Or.inr rfl) rfl (by first | exact fun _ => Or.inr rfl | exact fun _ => Or.inl rfl))
    (rss_cons (rs_set (tc := [1]) F 3 (re_callB_ F h__law_some (by omega) 1 rfl rfl rfl (by first | exact fun _ => Or.inl rfl | exact fun _ => Or.inr (Or.inl rfl) | exact fun _ => Or.inr (Or.inr rfl)) rfl (fun _ => rfl) (ra_cons (RF.re (rf_lst (ra_cons re_int (ra_cons re_int (ra_cons re_int (ra_cons re_int (ra_cons re_int ra_nil (fun _ => rfl)) (fun _ => rfl)) (fun _ => rfl)) (fun _ => rfl)) (fun _ => rfl)))) ra_nil (fun _ => rfl)) (fun _ => rfl) (fun _ => rfl)) rfl (by first | exact fun _ => Or.inl rfl | exact fun _ => Or.inr rfl) rfl (by first | exact fun _ => Or.inr rfl | exact fun _ => Or.inl rfl) (fun _ => rfl))
    (rss_cons (rs_ownLc (tc := [1]) F 4 rfl (fun _ => rfl) rfl rfl (fun _ => sw_true rfl rfl rfl (by decide +kernel)) (ri_rng1 F B.range (fun _ => rfl) (ra_cons (re_var F 3 rfl (by first | exact fun _ => Or.inl rfl | exact fun _ => Or.inr (Or.inl rfl) | exact fun _ => Or.inr (Or.inr rfl)) rfl) ra_nil (fun _ => rfl)) (fun _ => rfl)) (fun _ => blkOk_by (by first | decide +kernel | kernel_rfl)) (rg_name (Fam.blk F _) 12 rfl (by first | exact fun _ => Or.inl rfl | exact fun _ => Or.inr rfl) rfl (by first | exact fun _ => Or.inr rfl | exact fun _ => Or.inl rfl)) rq_nil (re_tuple (Fam.blk F _) B (RF.re (rf_lc (Fam.blk F _) (ri_rng1 (Fam.blk F _) B.range (fun _ => rfl) (ra_cons (re_var (Fam.blk F _) 3 rfl (by first | exact fun _ => Or.inl rfl | exact fun _ => Or.inr (Or.inl rfl) | exact fun _ => Or.inr (Or.inr rfl)) rfl) ra_nil (fun _ => rfl)) (fun _ => rfl)) (fun _ => blkOk_by (by first | decide +kernel | kernel_rfl)) (rg_name (Fam.blk (Fam.blk F _) _) 12 rfl (by first | exact fun _ => Or.inl rfl | exact fun _ => Or.inr rfl) rfl (by first | exact fun _ => Or.inr rfl | exact fun _ => Or.inl rfl)) rq_nil (re_callB_ (Fam.blk (Fam.blk F _) _) h__law_entry (by omega) 1 rfl rfl rfl (by first | exact fun _ => Or.inl rfl | exact fun _ => Or.inr (Or.inl rfl) | exact fun _ => Or.inr (Or.inr rfl)) rfl (fun _ => rfl) ra_nil (fun _ => rfl) (fun _ => rfl)) (fun _ _ => rfl) rfl rfl (ownL := [("_law_k", 12)]))) (fun _ => rfl) (fun _ => rfl) (fun _ => rfl)) (fun _ _ => rfl) rfl rfl (ownL := [("_law_k", 12)]))
    (rss_cons (rs_if (tc := [1]) (ow2 := [1, 4]) (rt_w (rw_and (rt_gt  (re_var F 3 rfl (by first | exact fun _ => Or.inl rfl | exact fun _ => Or.inr (Or.inl rfl) | exact fun _ => Or.inr (Or.inr rfl)) rfl) re_int) (rw_and1 (rt_eq F (re_callB_ F h__law_take (by omega) 1 rfl rfl rfl (by first | exact fun _ => Or.inl rfl | exact fun _ => Or.inr (Or.inl rfl) | exact fun _ => Or.inr (Or.inr rfl)) rfl (fun _ => rfl) (ra_cons re_int ra_nil (fun _ => rfl)) (fun _ => rfl) (fun _ => rfl)) re_int))))
    (rss_cons (rs_set (tc := [1]) F 5 (re_callB_ F h__law_entry (by omega) 1 rfl rfl rfl (by first | exact fun _ => Or.inl rfl | exact fun _ => Or.inr (Or.inl rfl) | exact fun _ => Or.inr (Or.inr rfl)) rfl (fun _ => rfl) ra_nil (fun _ => rfl) (fun _ => rfl)) rfl (by first | exact fun _ => Or.inl rfl | exact fun _ => Or.inr rfl) rfl (by first | exact fun _ => Or.inr rfl | exact fun _ => Or.inl rfl) (fun _ => rfl))
    (rss_cons (rs_seti (tc := []) F 4 (re_neg re_int) (re_tuple F B (RF.re (rf_lc F (ri_val F (re_ixo F 4 rfl rfl (by first | exact fun _ => Or.inl rfl | exact fun _ => Or.inr (Or.inl rfl) | exact fun _ => Or.inr (Or.inr rfl)) re_int (fun _ _ => rfl))) (fun _ => blkOk_by (by first | decide +kernel | kernel_rfl)) (rg_name (Fam.blk F _) 13 rfl (by first | exact fun _ => Or.inl rfl | exact fun _ => Or.inr rfl) rfl (by first | exact fun _ => Or.inr rfl | exact fun _ => Or.inl rfl)) rq_nil (re_callP (Fam.blk F _) h__law_multiplied (by omega) rfl (fun _ => rfl) (ra_cons (re_var (Fam.blk F _) 5 rfl (by first | exact fun _ => Or.inl rfl | exact fun _ => Or.inr (Or.inl rfl) | exact fun _ => Or.inr (Or.inr rfl)) rfl) (ra_cons (re_var (Fam.blk F _) 13 rfl (by first | exact fun _ => Or.inl rfl | exact fun _ => Or.inr (Or.inl rfl) | exact fun _ => Or.inr (Or.inr rfl)) rfl) ra_nil (fun _ => rfl)) (fun _ => rfl)) (fun _ => rfl) (fun _ => rfl)) (fun _ _ => rfl) rfl rfl (ownL := [("_law_one", 13)]))) (fun _ => rfl) (fun _ => rfl) (fun _ => rfl)) rfl rfl (by first | exact fun _ => Or.inl rfl | exact fun _ => Or.inr (Or.inl rfl) | exact fun _ => Or.inr (Or.inr rfl)) (fun _ => fun a b c => ps_asg c (pg_sub a b set_list)))
    (rss_kill [5] rfl rfl)))
    (rss_nil rfl))
    (rss_cons (rs_setLc (tc := [1]) F 6 rfl (fun _ => rfl) rfl (fun _ => sw_true rfl rfl rfl (by decide +kernel)) (ri_rng1 F B.range (fun _ => rfl) (ra_cons (re_var F 3 rfl (by first | exact fun _ => Or.inl rfl | exact fun _ => Or.inr (Or.inl rfl) | exact fun _ => Or.inr (Or.inr rfl)) rfl) ra_nil (fun _ => rfl)) (fun _ => rfl)) (fun _ => blkOk_by (by first | decide +kernel | kernel_rfl)) (rg_name (Fam.blk F _) 12 rfl (by first | exact fun _ => Or.inl rfl | exact fun _ => Or.inr rfl) rfl (by first | exact fun _ => Or.inr rfl | exact fun _ => Or.inl rfl)) rq_nil (re_callB_ (Fam.blk F _) h__law_entry (by omega) 1 rfl rfl rfl (by first | exact fun _ => Or.inl rfl | exact fun _ => Or.inr (Or.inl rfl) | exact fun _ => Or.inr (Or.inr rfl)) rfl (fun _ => rfl) ra_nil (fun _ => rfl) (fun _ => rfl)) (fun _ _ => rfl) rfl rfl (ownL := [("_law_k", 12)]))
    (rss_weak (ow1 := [1]) (rss_cons (rs_par (tc := []) F 7 8 (ra_cons (re_repr F B (RF.re (rf_lst (ra_cons (re_var F 4 rfl (by first | exact fun _ => Or.inl rfl | exact fun _ => Or.inr (Or.inl rfl) | exact fun _ => Or.inr (Or.inr rfl)) rfl) (ra_cons (re_var F 6 rfl (by first | exact fun _ => Or.inl rfl | exact fun _ => Or.inr (Or.inl rfl) | exact fun _ => Or.inr (Or.inr rfl)) rfl) ra_nil (fun _ => rfl)) (fun _ => rfl)))) (fun _ => rfl) (fun _ => rfl) (fun _ => rfl)) (ra_cons (re_callP F h__law_whole (by omega) rfl (fun _ => rfl) (ra_cons (re_var F 4 rfl (by first | exact fun _ => Or.inl rfl | exact fun _ => Or.inr (Or.inl rfl) | exact fun _ => Or.inr (Or.inr rfl)) rfl) ra_nil (fun _ => rfl)) (fun _ => rfl) (fun _ => rfl)) ra_nil (fun _ => rfl)) (fun _ => rfl)) rfl rfl (by decide) rfl rfl (fun _ => rfl) (fun _ => rfl) (fun _ => rfl) (fun _ => rfl))
    (rss_cons (rs_set (tc := []) F 9 (re_callP F h_solved (by omega) rfl (fun _ => rfl) (ra_cons (re_var F 4 rfl (by first | exact fun _ => Or.inl rfl | exact fun _ => Or.inr (Or.inl rfl) | exact fun _ => Or.inr (Or.inr rfl)) rfl) (ra_cons (re_var F 6 rfl (by first | exact fun _ => Or.inl rfl | exact fun _ => Or.inr (Or.inl rfl) | exact fun _ => Or.inr (Or.inr rfl)) rfl) ra_nil (fun _ => rfl)) (fun _ => rfl)) (fun _ => rfl) (fun _ => rfl)) rfl (by first | exact fun _ => Or.inl rfl | exact fun _ => Or.inr rfl) rfl (by first | exact fun _ => Or.inr rfl | exact fun _ => Or.inl rfl) (fun _ => rfl))
    (rss_cons (rs_if (tc := []) (ow2 := [1]) (rt_w (rw_or (rt_not (rt_val (re_callP F h__law_alike (by omega) rfl (fun _ => rfl) (ra_cons (re_callP F h_solved (by omega) rfl (fun _ => rfl) (ra_cons (re_tuple F B (re_var F 4 rfl (by first | exact fun _ => Or.inl rfl | exact fun _ => Or.inr (Or.inl rfl) | exact fun _ => Or.inr (Or.inr rfl)) rfl) (fun _ => rfl) (fun _ => rfl) (fun _ => rfl)) (ra_cons (re_tuple F B (re_var F 6 rfl (by first | exact fun _ => Or.inl rfl | exact fun _ => Or.inr (Or.inl rfl) | exact fun _ => Or.inr (Or.inr rfl)) rfl) (fun _ => rfl) (fun _ => rfl) (fun _ => rfl)) ra_nil (fun _ => rfl)) (fun _ => rfl)) (fun _ => rfl) (fun _ => rfl)) (ra_cons (re_var F 9 rfl (by first | exact fun _ => Or.inl rfl | exact fun _ => Or.inr (Or.inl rfl) | exact fun _ => Or.inr (Or.inr rfl)) rfl) ra_nil (fun _ => rfl)) (fun _ => rfl)) (fun _ => rfl) (fun _ => rfl)) (fun _ _ => rfl))) (rw_or1 (rt_ne F (re_repr F B (RF.re (rf_lst (ra_cons (re_var F 4 rfl (by first | exact fun _ => Or.inl rfl | exact fun _ => Or.inr (Or.inl rfl) | exact fun _ => Or.inr (Or.inr rfl)) rfl) (ra_cons (re_var F 6 rfl (by first | exact fun _ => Or.inl rfl | exact fun _ => Or.inr (Or.inl rfl) | exact fun _ => Or.inr (Or.inr rfl)) rfl) ra_nil (fun _ => rfl)) (fun _ => rfl)))) (fun _ => rfl) (fun _ => rfl) (fun _ => rfl)) (re_var F 7 rfl (by first | exact fun _ => Or.inl rfl | exact fun _ => Or.inr (Or.inl rfl) | exact fun _ => Or.inr (Or.inr rfl)) rfl)))))
    (rss_cons (ow1 := [1]) (rs_ret (tc := []) re_bl rfl) (rss_nil rfl))
    (rss_nil rfl))
    (rss_cons (rs_if (tc := []) (ow2 := [1]) (rt_ne F (re_isN  (re_var F 9 rfl (by first | exact fun _ => Or.inl rfl | exact fun _ => Or.inr (Or.inl rfl) | exact fun _ => Or.inr (Or.inr rfl)) rfl) re_non) (re_eq F (re_ix F (re_var F 8 rfl (by first | exact fun _ => Or.inl rfl | exact fun _ => Or.inr (Or.inl rfl) | exact fun _ => Or.inr (Or.inr rfl)) rfl) re_int (fun _ _ => rfl)) re_int))
    (rss_cons (ow1 := [1]) (rs_ret (tc := []) re_bl rfl) (rss_nil rfl))
    (rss_nil rfl))
    (rss_cons (rs_if (tc := []) (ow2 := [1]) (rt_notN  (re_var F 9 rfl (by first | exact fun _ => Or.inl rfl | exact fun _ => Or.inr (Or.inl rfl) | exact fun _ => Or.inr (Or.inr rfl)) rfl) re_non)
    (rss_cons (rs_if (tc := []) (ow2 := [1]) (rt_w (rw_or (rt_not (rt_val (re_isi F B.isinstance B.tuple boot_tuple (fun _ => rfl) (fun _ => rfl) (re_var F 9 rfl (by first | exact fun _ => Or.inl rfl | exact fun _ => Or.inr (Or.inl rfl) | exact fun _ => Or.inr (Or.inr rfl)) rfl) (fun _ => rfl) (fun _ => rfl) (fun _ => rfl)) (fun _ _ => rfl))) (rw_or1 (rt_ne F (RF.re (rf_lc F (ri_val F (re_var F 9 rfl (by first | exact fun _ => Or.inl rfl | exact fun _ => Or.inr (Or.inl rfl) | exact fun _ => Or.inr (Or.inr rfl)) rfl)) (fun _ => blkOk_by (by first | decide +kernel | kernel_rfl)) (rg_name (Fam.blk F _) 13 rfl (by first | exact fun _ => Or.inl rfl | exact fun _ => Or.inr rfl) rfl (by first | exact fun _ => Or.inr rfl | exact fun _ => Or.inl rfl)) (rq_one (rt_not (rt_val (re_callP (Fam.blk F _) h__law_is_fraction (by omega) rfl (fun _ => rfl) (ra_cons (re_var (Fam.blk F _) 13 rfl (by first | exact fun _ => Or.inl rfl | exact fun _ => Or.inr (Or.inl rfl) | exact fun _ => Or.inr (Or.inr rfl)) rfl) ra_nil (fun _ => rfl)) (fun _ => rfl) (fun _ => rfl)) (fun _ _ => rfl)))) (re_var (Fam.blk F _) 13 rfl (by first | exact fun _ => Or.inl rfl | exact fun _ => Or.inr (Or.inl rfl) | exact fun _ => Or.inr (Or.inr rfl)) rfl) (fun _ _ => rfl) rfl rfl (ownL := [("_law_one", 13)]))) (RF.re (rf_lst ra_nil))))))
    (rss_cons (ow1 := [1]) (rs_ret (tc := []) re_bl rfl) (rss_nil rfl))
    (rss_nil rfl))
    (rss_cons (rs_if (tc := []) (ow2 := [1]) (rt_ne F (re_len F B (re_var F 9 rfl (by first | exact fun _ => Or.inl rfl | exact fun _ => Or.inr (Or.inl rfl) | exact fun _ => Or.inr (Or.inr rfl)) rfl) (fun _ => rfl) (fun _ => rfl) (fun _ => rfl)) (re_var F 3 rfl (by first | exact fun _ => Or.inl rfl | exact fun _ => Or.inr (Or.inl rfl) | exact fun _ => Or.inr (Or.inr rfl)) rfl))
    (rss_cons (ow1 := [1]) (rs_ret (tc := []) re_bl rfl) (rss_nil rfl))
    (rss_nil rfl))
    (rss_cons (rs_for (tc := []) F (ri_zip F B.zip (fun _ => rfl) (ra_cons (re_var F 4 rfl (by first | exact fun _ => Or.inl rfl | exact fun _ => Or.inr (Or.inl rfl) | exact fun _ => Or.inr (Or.inr rfl)) rfl) (ra_cons (re_var F 6 rfl (by first | exact fun _ => Or.inl rfl | exact fun _ => Or.inr (Or.inl rfl) | exact fun _ => Or.inr (Or.inr rfl)) rfl) ra_nil (fun _ => rfl)) (fun _ => rfl)) (fun _ => rfl) (fun _ => rfl)) (rg_tup F (rgs_cons (rg_name F 10 rfl (by first | exact fun _ => Or.inl rfl | exact fun _ => Or.inr rfl) rfl (by first | exact fun _ => Or.inr rfl | exact fun _ => Or.inl rfl)) (rgs_cons (rg_name F 11 rfl (by first | exact fun _ => Or.inl rfl | exact fun _ => Or.inr rfl) rfl (by first | exact fun _ => Or.inr rfl | exact fun _ => Or.inl rfl)) rgs_nil (fun _ => rfl)) (fun _ => rfl)) (fun _ => rfl) (fun _ => rfl))
    (rss_cons (rs_if (tc := []) (ow2 := [1]) (rt_ne F (re_callP F h__law_total (by omega) rfl (fun _ => rfl) (ra_cons (RF.re (rf_lc F (ri_zip F B.zip (fun _ => rfl) (ra_cons (re_var F 10 rfl (by first | exact fun _ => Or.inl rfl | exact fun _ => Or.inr (Or.inl rfl) | exact fun _ => Or.inr (Or.inr rfl)) rfl) (ra_cons (re_var F 9 rfl (by first | exact fun _ => Or.inl rfl | exact fun _ => Or.inr (Or.inl rfl) | exact fun _ => Or.inr (Or.inr rfl)) rfl) ra_nil (fun _ => rfl)) (fun _ => rfl)) (fun _ => rfl) (fun _ => rfl)) (fun _ => blkOk_by (by first | decide +kernel | kernel_rfl)) (rg_tup (Fam.blk F _) (rgs_cons (rg_name (Fam.blk F _) 13 rfl (by first | exact fun _ => Or.inl rfl | exact fun _ => Or.inr rfl) rfl (by first | exact fun _ => Or.inr rfl | exact fun _ => Or.inl rfl)) (rgs_cons (rg_name (Fam.blk F _) 14 rfl (by first | exact fun _ => Or.inl rfl | exact fun _ => Or.inr rfl) rfl (by first | exact fun _ => Or.inr rfl | exact fun _ => Or.inl rfl)) rgs_nil (fun _ => rfl)) (fun _ => rfl)) (fun _ => rfl) (fun _ => rfl)) rq_nil (re_callP (Fam.blk F _) h__law_multiplied (by omega) rfl (fun _ => rfl) (ra_cons (re_var (Fam.blk F _) 13 rfl (by first | exact fun _ => Or.inl rfl | exact fun _ => Or.inr (Or.inl rfl) | exact fun _ => Or.inr (Or.inr rfl)) rfl) (ra_cons (re_var (Fam.blk F _) 14 rfl (by first | exact fun _ => Or.inl rfl | exact fun _ => Or.inr (Or.inl rfl) | exact fun _ => Or.inr (Or.inr rfl)) rfl) ra_nil (fun _ => rfl)) (fun _ => rfl)) (fun _ => rfl) (fun _ => rfl)) (fun _ _ => rfl) rfl rfl (ownL := [("_law_one", 13), ("_law_x", 14)]))) ra_nil (fun _ => rfl)) (fun _ => rfl) (fun _ => rfl)) (re_var F 11 rfl (by first | exact fun _ => Or.inl rfl | exact fun _ => Or.inr (Or.inl rfl) | exact fun _ => Or.inr (Or.inr rfl)) rfl))
    (rss_cons (ow1 := [1]) (rs_ret (tc := []) re_bl rfl) (rss_nil rfl))
    (rss_nil rfl))
    (rss_kill [10, 11] rfl rfl))
    (fun _ => PassesOwn.never) (fun _ _ => rfl))
    (rss_kill [10, 11] rfl rfl))))
    (rss_nil rfl))
    (rss_kill [2, 3, 4, 5, 6, 7, 8, 9, 10, 11] rfl rfl)))))) rfl)))))
    (fun _ => PassesOwn.never) (fun _ _ => rfl))
    (rss_cons (ow1 := [1]) (rs_ret (tc := []) re_bl rfl) (rss_nil rfl))))
end Lay

namespace Lay

/-! ## plain: sums, determinants, rows of equations -/
def sm : Nat → (Nat → Rat) → Rat
  | 0, _ => 0
  | n + 1, f => sm n f + f n
theorem sm_congr {n : Nat} {f g : Nat → Rat} (h : ∀ j, j < n → f j = g j) : sm n f = sm n g := by
  induction n with
  | zero => rfl
  | succ n ih => simp only [sm]; rw [ih fun j hj => h j (by omega), h n (by omega)]
theorem sm_add {n : Nat} {f g : Nat → Rat} : sm n (fun j => f j + g j) = sm n f + sm n g := by
  induction n with
  | zero => exact (Rat.add_zero 0).symm
  | succ n ih => simp only [sm]; rw [ih]; grind
theorem sm_mul {n : Nat} {c : Rat} {f : Nat → Rat} : sm n (fun j => c * f j) = c * sm n f := by
  induction n with
  | zero => simp [sm]
  | succ n ih => simp only [sm]; rw [ih]; grind
theorem sm_zero {n : Nat} {f : Nat → Rat} (h : ∀ j, j < n → f j = 0) : sm n f = 0 := by
  induction n with
  | zero => rfl
  | succ n ih => simp only [sm]; rw [ih fun j hj => h j (by omega), h n (by omega)]; grind
theorem sm_one {n k : Nat} {f : Nat → Rat} (hk : k < n) (h : ∀ j, j < n → j ≠ k → f j = 0) : sm n f = f k := by
  induction n with
  | zero => omega
  | succ n ih =>
    simp only [sm]
    by_cases e : k = n
    · subst e
      rw [sm_zero fun j hj => h j (by omega) (by omega)]
      grind
    · rw [ih (by omega) fun j hj => h j (by omega), h n (by omega) (by omega)]
      grind
/-- a row's sum -/
def lin (n : Nat) (t : Nat → Nat → Rat) (z : Nat → Rat) (i : Nat) : Rat := sm (n + 1) fun j => t i j * z j
def dt : Nat → (Nat → Nat → Rat) → Rat
  | 0, _ => 1
  | n + 1, t => sm (n + 1) fun c => (if c % 2 = 0 then 1 else -1) * (t 0 c * dt n fun i j => t (i + 1) (if j < c then j else j + 1))
/-- the same answers, the same vanishing -/
structure Sam (n : Nat) (t t' : Nat → Nat → Rat) : Prop where
  l : ∀ z, (∀ i, i < n → lin n t z i = 0) ↔ ∀ i, i < n → lin n t' z i = 0
  d : dt n t = 0 ↔ dt n t' = 0
theorem Sam.refl {n : Nat} {t : Nat → Nat → Rat} : Sam n t t := ⟨fun _ => Iff.rfl, Iff.rfl⟩
theorem Sam.trans {n : Nat} {t u v : Nat → Nat → Rat} (a : Sam n t u) (b : Sam n u v) : Sam n t v := ⟨fun z => (a.l z).trans (b.l z), a.d.trans b.d⟩
def tSwap (a g : Nat) (t : Nat → Nat → Rat) : Nat → Nat → Rat := fun i j => if i = a then t g j else if i = g then t a j else t i j
def tScale (a : Nat) (p : Rat) (t : Nat → Nat → Rat) : Nat → Nat → Rat := fun i j => if i = a then t i j / p else t i j
def tSub (a b : Nat) (c : Rat) (t : Nat → Nat → Rat) : Nat → Nat → Rat := fun i j => if i = a then t i j - c * t b j else t i j
theorem dt_scale (p : Rat) : ∀ (n a : Nat) (t : Nat → Nat → Rat), a < n → dt n (tScale a p t) = dt n t / p
  | 0, a, t, h => by omega
  | n + 1, 0, t, h => by
    simp only [dt]
    rw [Rat.div_def, Rat.mul_comm, ← sm_mul]
    refine sm_congr fun j hj => ?_
    simp only [tScale, if_true]
    rw [show (fun i j_1 => if i + 1 = 0 then t (i + 1) (if j_1 < j then j_1 else j_1 + 1) / p else t (i + 1) (if j_1 < j then j_1 else j_1 + 1)) = (fun i j_1 => t (i + 1) (if j_1 < j then j_1 else j_1 + 1)) from by
      funext i k; rw [if_neg (by omega)]]
    rw [Rat.div_def]
    grind
  | n + 1, a + 1, t, h => by
    simp only [dt]
    rw [Rat.div_def, Rat.mul_comm, ← sm_mul]
    refine sm_congr fun j hj => ?_
    have e : (fun i k => tScale (a + 1) p t (i + 1) (if k < j then k else k + 1)) = tScale a p (fun i k => t (i + 1) (if k < j then k else k + 1)) := by
      funext i k
      simp only [tScale, Nat.add_right_cancel_iff]
    rw [e, dt_scale p n a _ (by omega)]
    have e2 : tScale (a + 1) p t 0 j = t 0 j := by simp [tScale]
    rw [e2, Rat.div_def]
    grind
theorem lt4 {a : Nat} (h : a < 4) : a = 0 ∨ a = 1 ∨ a = 2 ∨ a = 3 := by omega
theorem lt3 {a : Nat} (h : a < 3) : a = 0 ∨ a = 1 ∨ a = 2 := by omega
theorem lt2 {a : Nat} (h : a < 2) : a = 0 ∨ a = 1 := by omega
theorem dt_sub (c : Rat) (n a b : Nat) (t : Nat → Nat → Rat) (hn : n ≤ 4) (ha : a < n) (hb : b < n) (h : a ≠ b) : dt n (tSub a b c t) = dt n t := by
  have hn : n = 0 ∨ n = 1 ∨ n = 2 ∨ n = 3 ∨ n = 4 := by omega
  rcases hn with rfl | rfl | rfl | rfl | rfl
  · omega
  · omega
  · rcases lt2 ha with rfl | rfl <;> rcases lt2 hb with rfl | rfl <;> first | exact absurd rfl h | (simp [dt, sm, tSub]; grind)
  · rcases lt3 ha with rfl | rfl | rfl <;> rcases lt3 hb with rfl | rfl | rfl <;> first | exact absurd rfl h | (simp [dt, sm, tSub]; grind)
  · rcases lt4 ha with rfl | rfl | rfl | rfl <;> rcases lt4 hb with rfl | rfl | rfl | rfl <;> first | exact absurd rfl h | (simp [dt, sm, tSub]; grind)
theorem dt_swap (n a b : Nat) (t : Nat → Nat → Rat) (hn : n ≤ 4) (ha : a < n) (hb : b < n) (h : a ≠ b) : dt n (tSwap a b t) = - dt n t := by
  have hn : n = 0 ∨ n = 1 ∨ n = 2 ∨ n = 3 ∨ n = 4 := by omega
  rcases hn with rfl | rfl | rfl | rfl | rfl
  · omega
  · omega
  · rcases lt2 ha with rfl | rfl <;> rcases lt2 hb with rfl | rfl <;> first | exact absurd rfl h | (simp [dt, sm, tSwap]; grind)
  · rcases lt3 ha with rfl | rfl | rfl <;> rcases lt3 hb with rfl | rfl | rfl <;> first | exact absurd rfl h | (simp [dt, sm, tSwap]; grind)
  · rcases lt4 ha with rfl | rfl | rfl | rfl <;> rcases lt4 hb with rfl | rfl | rfl | rfl <;> first | exact absurd rfl h | (simp [dt, sm, tSwap]; grind)
theorem dt_ker (n k : Nat) (t : Nat → Nat → Rat) (x : Nat → Rat) (hn : n ≤ 4) (hk : k < n) (h1 : x k = 1) (h : ∀ i, i < n → sm n (fun j => t i j * x j) = 0) : dt n t = 0 := by
  have hn : n = 0 ∨ n = 1 ∨ n = 2 ∨ n = 3 ∨ n = 4 := by omega
  rcases hn with rfl | rfl | rfl | rfl | rfl
  · omega
  · have e0 := h 0 (by omega)
    simp [dt, sm] at e0 ⊢
    rcases (by omega : k = 0) with rfl
    grind
  · have e0 := h 0 (by omega)
    have e1 := h 1 (by omega)
    simp [dt, sm] at e0 e1 ⊢
    rcases lt2 hk with rfl | rfl
    · have c0 : t 0 0 = -(t 0 1 * x 1) := by rw [h1] at e0; grind
      have c1 : t 1 0 = -(t 1 1 * x 1) := by rw [h1] at e1; grind
      rw [c0, c1]; grind
    · have c0 : t 0 1 = -(t 0 0 * x 0) := by rw [h1] at e0; grind
      have c1 : t 1 1 = -(t 1 0 * x 0) := by rw [h1] at e1; grind
      rw [c0, c1]; grind
  · have e0 := h 0 (by omega)
    have e1 := h 1 (by omega)
    have e2 := h 2 (by omega)
    simp [dt, sm] at e0 e1 e2 ⊢
    rcases lt3 hk with rfl | rfl | rfl
    · have c0 : t 0 0 = -(t 0 1 * x 1 + t 0 2 * x 2) := by rw [h1] at e0; grind
      have c1 : t 1 0 = -(t 1 1 * x 1 + t 1 2 * x 2) := by rw [h1] at e1; grind
      have c2 : t 2 0 = -(t 2 1 * x 1 + t 2 2 * x 2) := by rw [h1] at e2; grind
      rw [c0, c1, c2]; grind
    · have c0 : t 0 1 = -(t 0 0 * x 0 + t 0 2 * x 2) := by rw [h1] at e0; grind
      have c1 : t 1 1 = -(t 1 0 * x 0 + t 1 2 * x 2) := by rw [h1] at e1; grind
      have c2 : t 2 1 = -(t 2 0 * x 0 + t 2 2 * x 2) := by rw [h1] at e2; grind
      rw [c0, c1, c2]; grind
    · have c0 : t 0 2 = -(t 0 0 * x 0 + t 0 1 * x 1) := by rw [h1] at e0; grind
      have c1 : t 1 2 = -(t 1 0 * x 0 + t 1 1 * x 1) := by rw [h1] at e1; grind
      have c2 : t 2 2 = -(t 2 0 * x 0 + t 2 1 * x 1) := by rw [h1] at e2; grind
      rw [c0, c1, c2]; grind
  · have e0 := h 0 (by omega)
    have e1 := h 1 (by omega)
    have e2 := h 2 (by omega)
    have e3 := h 3 (by omega)
    simp [dt, sm] at e0 e1 e2 e3 ⊢
    rcases lt4 hk with rfl | rfl | rfl | rfl
    · have c0 : t 0 0 = -(t 0 1 * x 1 + t 0 2 * x 2 + t 0 3 * x 3) := by rw [h1] at e0; grind
      have c1 : t 1 0 = -(t 1 1 * x 1 + t 1 2 * x 2 + t 1 3 * x 3) := by rw [h1] at e1; grind
      have c2 : t 2 0 = -(t 2 1 * x 1 + t 2 2 * x 2 + t 2 3 * x 3) := by rw [h1] at e2; grind
      have c3 : t 3 0 = -(t 3 1 * x 1 + t 3 2 * x 2 + t 3 3 * x 3) := by rw [h1] at e3; grind
      rw [c0, c1, c2, c3]; grind
    · have c0 : t 0 1 = -(t 0 0 * x 0 + t 0 2 * x 2 + t 0 3 * x 3) := by rw [h1] at e0; grind
      have c1 : t 1 1 = -(t 1 0 * x 0 + t 1 2 * x 2 + t 1 3 * x 3) := by rw [h1] at e1; grind
      have c2 : t 2 1 = -(t 2 0 * x 0 + t 2 2 * x 2 + t 2 3 * x 3) := by rw [h1] at e2; grind
      have c3 : t 3 1 = -(t 3 0 * x 0 + t 3 2 * x 2 + t 3 3 * x 3) := by rw [h1] at e3; grind
      rw [c0, c1, c2, c3]; grind
    · have c0 : t 0 2 = -(t 0 0 * x 0 + t 0 1 * x 1 + t 0 3 * x 3) := by rw [h1] at e0; grind
      have c1 : t 1 2 = -(t 1 0 * x 0 + t 1 1 * x 1 + t 1 3 * x 3) := by rw [h1] at e1; grind
      have c2 : t 2 2 = -(t 2 0 * x 0 + t 2 1 * x 1 + t 2 3 * x 3) := by rw [h1] at e2; grind
      have c3 : t 3 2 = -(t 3 0 * x 0 + t 3 1 * x 1 + t 3 3 * x 3) := by rw [h1] at e3; grind
      rw [c0, c1, c2, c3]; grind
    · have c0 : t 0 3 = -(t 0 0 * x 0 + t 0 1 * x 1 + t 0 2 * x 2) := by rw [h1] at e0; grind
      have c1 : t 1 3 = -(t 1 0 * x 0 + t 1 1 * x 1 + t 1 2 * x 2) := by rw [h1] at e1; grind
      have c2 : t 2 3 = -(t 2 0 * x 0 + t 2 1 * x 1 + t 2 2 * x 2) := by rw [h1] at e2; grind
      have c3 : t 3 3 = -(t 3 0 * x 0 + t 3 1 * x 1 + t 3 2 * x 2) := by rw [h1] at e3; grind
      rw [c0, c1, c2, c3]; grind
theorem dt_unit (n : Nat) (t : Nat → Nat → Rat) (hn : n ≤ 4) (h : ∀ i j, i < n → j < n → t i j = if i = j then 1 else 0) : dt n t = 1 := by
  have hn : n = 0 ∨ n = 1 ∨ n = 2 ∨ n = 3 ∨ n = 4 := by omega
  rcases hn with rfl | rfl | rfl | rfl | rfl
  · rfl
  · simp [dt, sm, h] <;> grind
  · simp [dt, sm, h] <;> grind
  · simp [dt, sm, h] <;> grind
  · simp [dt, sm, h] <;> grind
theorem lin_swap {n a g : Nat} {t : Nat → Nat → Rat} {z : Nat → Rat} (i : Nat) : lin n (tSwap a g t) z i = if i = a then lin n t z g else if i = g then lin n t z a else lin n t z i := by
  unfold lin tSwap
  split
  · rfl
  · split <;> rfl
theorem sam_swap {n a g : Nat} (t : Nat → Nat → Rat) (hn : n ≤ 4) (ha : a < n) (hg : g < n) : Sam n t (tSwap a g t) := by
  refine ⟨fun z => ⟨fun h i hi => ?_, fun h i hi => ?_⟩, ?_⟩
  · rw [lin_swap]
    split
    · exact h g hg
    · split
      · exact h a ha
      · exact h i hi
  · by_cases e : i = a
    · subst e
      have := h g hg
      rw [lin_swap] at this
      by_cases e2 : g = i
      · subst e2
        rw [if_pos rfl] at this
        exact this
      · rw [if_neg e2, if_pos rfl] at this
        exact this
    · by_cases e2 : i = g
      · subst e2
        have := h a ha
        rw [lin_swap, if_pos rfl] at this
        exact this
      · have := h i hi
        rw [lin_swap, if_neg e, if_neg e2] at this
        exact this
  · by_cases e : a = g
    · subst e
      have : tSwap a a t = t := by
        funext i j
        unfold tSwap
        split
        · rename_i q
          rw [q]
        · rfl
      rw [this]
    · rw [dt_swap n a g t hn ha hg e]
      constructor
      · intro q
        rw [q]
        rfl
      · intro q
        have := congrArg (fun r => -r) q
        simp only [Rat.neg_neg] at this
        rw [this]
        rfl
theorem lin_scale {n a : Nat} {p : Rat} {t : Nat → Nat → Rat} {z : Nat → Rat} (i : Nat) : lin n (tScale a p t) z i = if i = a then p⁻¹ * lin n t z i else lin n t z i := by
  unfold lin tScale
  split
  · rw [← sm_mul]
    refine sm_congr fun j _ => ?_
    rw [Rat.div_def]
    grind
  · rfl
theorem sam_scale {n a : Nat} {p : Rat} (t : Nat → Nat → Rat) (ha : a < n) (hp : p ≠ 0) : Sam n t (tScale a p t) := by
  have pz : p⁻¹ ≠ 0 := by grind
  refine ⟨fun z => ⟨fun h i hi => ?_, fun h i hi => ?_⟩, ?_⟩
  · rw [lin_scale]
    split
    · rw [h i hi]; grind
    · exact h i hi
  · have := h i hi
    rw [lin_scale] at this
    split at this
    · grind
    · exact this
  · rw [dt_scale p n a t ha, Rat.div_def]
    constructor
    · intro q; rw [q]; grind
    · intro q; grind
theorem lin_sub {n a b : Nat} {c : Rat} {t : Nat → Nat → Rat} {z : Nat → Rat} (i : Nat) : lin n (tSub a b c t) z i = if i = a then lin n t z i + -c * lin n t z b else lin n t z i := by
  unfold lin tSub
  split
  · rw [← sm_mul, ← sm_add]
    refine sm_congr fun j _ => ?_
    grind
  · rfl
theorem sam_sub {n a b : Nat} (c : Rat) (t : Nat → Nat → Rat) (hn : n ≤ 4) (ha : a < n) (hb : b < n) (h : a ≠ b) : Sam n t (tSub a b c t) := by
  refine ⟨fun z => ⟨fun q i hi => ?_, fun q i hi => ?_⟩, ?_⟩
  · rw [lin_sub]
    split
    · rw [q i hi, q b hb]; grind
    · exact q i hi
  · have e1 := q i hi
    have e2 := q b hb
    rw [lin_sub] at e1 e2
    rw [if_neg (Ne.symm h)] at e2
    split at e1
    · rw [e2] at e1; grind
    · exact e1
  · rw [dt_sub c n a b t hn ha hb h]
/-- the first k columns are those of the unit -/
def Uni (n k : Nat) (t : Nat → Nat → Rat) : Prop := ∀ i j, i < n → j < k → t i j = if i = j then 1 else 0
theorem uni_end {n : Nat} {t u : Nat → Nat → Rat} (hn : n ≤ 4) (S : Sam n t u) (U : Uni n n u) : dt n t ≠ 0 ∧ ∀ i, i < n → sm n (fun j => t i j * u j n) = t i n := by
  constructor
  · intro z
    have := S.d.mp z
    rw [dt_unit n u hn U] at this
    grind
  · have h := (S.l fun j => if j < n then u j n else -1).mpr fun i hi => by
      unfold lin
      simp only [sm]
      rw [sm_one hi (f := fun j => u i j * if j < n then u j n else -1) fun j hj ne => by
        rw [U i j hi hj, if_neg (Ne.symm ne)]; grind]
      rw [U i i hi hi, if_pos rfl, if_pos hi, if_neg (Nat.lt_irrefl n)]
      grind
    intro i hi
    have := h i hi
    unfold lin at this
    simp only [sm] at this
    rw [sm_congr (g := fun j => t i j * u j n) fun j hj => by rw [if_pos hj], if_neg (Nat.lt_irrefl n)] at this
    grind
theorem uni_none {n k : Nat} {t u : Nat → Nat → Rat} (hn : n ≤ 4) (hk : k < n) (S : Sam n t u) (U : Uni n k u) (h : ∀ i, k ≤ i → i < n → u i k = 0) : dt n t = 0 := by
  have h' := (S.l fun j => if j < k then -u j k else if j = k then 1 else 0).mpr fun i hi => by
    unfold lin
    rw [show (fun j => u i j * if j < k then -u j k else if j = k then 1 else 0) = fun j => (if j < k then u i j * -u j k else 0) + (if j = k then u i k else 0) from by
      funext j
      by_cases a : j < k
      · rw [if_pos a, if_pos a, if_neg (by omega)]; grind
      · rw [if_neg a, if_neg a]
        by_cases b : j = k
        · rw [if_pos b, if_pos b, b]; grind
        · rw [if_neg b, if_neg b]; grind]
    rw [sm_add, sm_one (k := k) (f := fun j => if j = k then u i k else 0) (by omega) fun j _ ne => if_neg ne, if_pos rfl]
    by_cases a : i < k
    · rw [sm_one (k := i) (f := fun j => if j < k then u i j * -u j k else 0) (by omega) fun j hj ne => by
        split
        · rename_i q
          rw [U i j hi q, if_neg (Ne.symm ne)]; grind
        · rfl]
      rw [if_pos a, U i i hi a, if_pos rfl]
      grind
    · rw [h i (by omega) hi, sm_zero fun j hj => by
        split
        · rename_i q
          rw [U i j hi q, if_neg (by omega)]; grind
        · rfl]
      grind
  refine dt_ker n k t (fun j => if j < k then -u j k else if j = k then 1 else 0) hn hk (by rw [if_neg (Nat.lt_irrefl k), if_pos rfl]) fun i hi => ?_
  have := h' i hi
  unfold lin at this
  simp only [sm] at this
  rw [if_neg (show ¬ n < k by omega), if_neg (show ¬ n = k by omega)] at this
  grind
end Lay

namespace Lay
open PySem PySem.Spec PyProof.Rows L2

/-! ## the pure side: fractions -/
def fq (q : Rat) : D := .tuple [.int q.num, .int q.den]

abbrev gT : XT := tE (opE neD (varE 1) (cE (.int 0)))
abbrev gB : XS := seqS (parS 0 1 (consA (varE 1) (consA (opE modD (clE (g1 intD) (consA (varE 0) nilA)) (varE 1)) (nilA)))) (nopS)
theorem gcd_loop : ∀ (k : Nat) (a b : Int), 0 ≤ a → 0 ≤ b → b.natAbs < k → whileN gT gB k [some (.int a), some (.int b)] = .nx [some (.int (Int.gcd a b)), some (.int 0)]
  | 0, a, b, _, _, h => by omega
  | k + 1, a, b, ha, hb, h => by
    by_cases hz : b = 0
    · subst hz
      rw [whileN_end (ρ1 := [some (.int a), some (.int 0)]) (by simp [seqS, setS, ifS, retS, nopS, parS, setG, tE, eT, opE, unE, varE, cE, consA, nilA, clE, g1, tupE, lstE, ifE, notE, notT, andT, orT, asB, eqD, neD, eqB_int, subD, ii0, mulD, fdivD, modD, iiD, negD, absD, intD, gtI, geI, leI, powD, addD, ltD, sizeLine, isND, notND, isNonB, Option.bind_some, Option.map_some])]
      rw [Int.gcd_zero_right, Int.natAbs_of_nonneg ha]
    · have h1 : Int.fmod a b = a % b := Int.fmod_eq_emod_of_nonneg _ hb
      have hp : 0 < b := by omega
      have h2 := Int.emod_nonneg a hz
      have h3 := Int.emod_lt_of_pos a hp
      rw [whileN_nx (ρ1 := [some (.int a), some (.int b)]) (ρ2 := [some (.int b), some (.int (a % b))]) (by simp [seqS, setS, ifS, retS, nopS, parS, setG, tE, eT, opE, unE, varE, cE, consA, nilA, clE, g1, tupE, lstE, ifE, notE, notT, andT, orT, asB, eqD, neD, eqB_int, subD, ii0, mulD, fdivD, modD, iiD, negD, absD, intD, gtI, geI, leI, powD, addD, ltD, sizeLine, isND, notND, isNonB, Option.bind_some, Option.map_some, hz]) (by simp [seqS, setS, ifS, retS, nopS, parS, setG, tE, eT, opE, unE, varE, cE, consA, nilA, clE, g1, tupE, lstE, ifE, notE, notT, andT, orT, asB, eqD, neD, eqB_int, subD, ii0, mulD, fdivD, modD, iiD, negD, absD, intD, gtI, geI, leI, powD, addD, ltD, sizeLine, isND, notND, isNonB, Option.bind_some, Option.map_some, hz, h1]), gcd_loop k b (a % b) hb h2 (by omega)]
      have e : Int.gcd b (a % b) = Int.gcd a b := by
        obtain ⟨x, rfl⟩ := Int.eq_ofNat_of_zero_le ha
        obtain ⟨y, rfl⟩ := Int.eq_ofNat_of_zero_le hb
        show Nat.gcd y _ = Nat.gcd x y
        rw [← Int.natCast_emod, Int.natAbs_natCast, Nat.gcd_comm y, ← Nat.gcd_rec, Nat.gcd_comm]
      rw [e]
theorem cd_eq (a b : Int) (ha : 0 ≤ a) (hb : 0 ≤ b) : F_common_divisor [.int a, .int b] = some (.int (Int.gcd a b)) := by
  have h := gcd_loop (b.natAbs + 1) a b ha hb (by omega)
  simp [F_common_divisor, runP, S_common_divisor, seqS, whileS, fuN, h, retS, varE, nopS]
theorem abs_if (a : Int) : (if a < 0 then -a else a) = a.natAbs := by omega
theorem red_eq (n d : Int) (hd : d ≠ 0) (hb : d.natAbs.log2 < 9000) : F_reduced [.int n, .int d] = some (fq (Rat.divInt n d)) := by
  have hg := cd_eq n.natAbs d.natAbs (by omega) (by omega)
  have hg' : Int.gcd (n.natAbs : Int) (d.natAbs : Int) = Int.gcd d n := by rw [Int.gcd_comm]; rfl
  rw [hg'] at hg
  have g0 : Int.gcd d n ≠ 0 := fun z => hd (Int.gcd_eq_zero_iff.mp z).1
  have gd : Int.gcd d n ∣ d.natAbs := Int.gcd_dvd_natAbs_left d n
  have gl : (Int.gcd d n).log2 < 9000 := by
    have h1 : Int.gcd d n ≤ d.natAbs := Nat.le_of_dvd (by omega) gd
    exact Nat.lt_of_le_of_lt ((Nat.le_log2 (by omega)).mpr (Nat.le_trans (Nat.log2_self_le g0) h1)) hb
  have s1 : Int.gcd d n = ((Int.gcd d n : Int)).natAbs := rfl
  obtain ⟨x, hx⟩ : ((Int.gcd d n : Nat) : Int) ∣ n := Int.gcd_dvd_right ..
  obtain ⟨y, hy⟩ : ((Int.gcd d n : Nat) : Int) ∣ d := Int.gcd_dvd_left ..
  generalize hG : Int.gcd d n = g at *
  have gz : (g : Int) ≠ 0 := by omega
  have hn : (Rat.divInt n d).num = d.sign * x := by
    rw [Rat.num_divInt, hG]
    conv => lhs; rw [hx, ← Int.mul_assoc, Int.mul_comm d.sign, Int.mul_assoc, Int.mul_ediv_cancel_left _ gz]
  have hdn : ((Rat.divInt n d).den : Int) = d.sign * y := by
    rw [Rat.den_divInt, hG, if_neg hd, Int.natCast_ediv]
    have e : (d.natAbs : Int) = g * (d.sign * y) := by
      have e0 : (d.natAbs : Int) = d.sign * d := by
        rcases Int.lt_or_gt_of_ne hd with h | h
        · rw [Int.sign_eq_neg_one_of_neg h]; omega
        · rw [Int.sign_eq_one_of_pos h]; omega
      rw [e0]
      generalize d.sign = s
      rw [hy]
      grind
    rw [e, Int.mul_ediv_cancel_left _ gz]
  have q1 : ∀ z : Int, ((g : Int) * z).fdiv g = z := fun z => Int.mul_fdiv_cancel_left z gz
  have q2 : ∀ z : Int, ((g : Int) * z).fdiv (-g) = -z := fun z => by
    have e : (g : Int) * z = -g * -z := by grind
    rw [e]
    exact Int.mul_fdiv_cancel_left (-z) (by omega)
  have p0 : decide (-(g : Int) ≠ 0) = true := by simp [g0]
  rcases Int.lt_or_gt_of_ne hd with hl | hl
  · have c1 : ¬ (0 < d) := by omega
    have sg : d.sign = -1 := Int.sign_eq_neg_one_of_neg hl
    rw [sg] at hn hdn
    have e1 : n.fdiv (-g) = (Rat.divInt n d).num := by rw [hn, hx, q2]; omega
    have e2 : d.fdiv (-g) = (Rat.divInt n d).den := by rw [hdn, hy, q2]; omega
    simp [F_reduced, runP, S_reduced, seqS, setS, ifS, retS, nopS, parS, setG, tE, eT, opE, unE, varE, cE, consA, nilA, clE, g1, tupE, lstE, ifE, notE, notT, andT, orT, asB, eqD, neD, eqB_int, subD, ii0, mulD, fdivD, modD, iiD, negD, absD, intD, gtI, geI, leI, powD, addD, ltD, sizeLine, isND, notND, isNonB, Option.bind_some, Option.map_some, abs_if, hg, c1, g0, gl, e1, e2, fq, Int.natAbs_neg]
  · have sg : d.sign = 1 := Int.sign_eq_one_of_pos hl
    rw [sg] at hn hdn
    have e1 : n.fdiv g = (Rat.divInt n d).num := by rw [hn, hx, q1]; omega
    have e2 : d.fdiv g = (Rat.divInt n d).den := by rw [hdn, hy, q1]; omega
    simp [F_reduced, runP, S_reduced, seqS, setS, ifS, retS, nopS, parS, setG, tE, eT, opE, unE, varE, cE, consA, nilA, clE, g1, tupE, lstE, ifE, notE, notT, andT, orT, asB, eqD, neD, eqB_int, subD, ii0, mulD, fdivD, modD, iiD, negD, absD, intD, gtI, geI, leI, powD, addD, ltD, sizeLine, isND, notND, isNonB, Option.bind_some, Option.map_some, abs_if, hg, hl, g0, gl, e1, e2, fq]

theorem ix0 (a b : D) : ixD (.tuple [a, b]) (.int 0) = some a := rfl
theorem ix1 (a b : D) : ixD (.tuple [a, b]) (.int 1) = some b := rfl
/-- numbers below 2 ^ s -/
def Sz (s : Nat) (q : Rat) : Prop := q.num.natAbs < 2 ^ s ∧ q.den < 2 ^ s
theorem log2_of {x n : Nat} (h : x < 2 ^ n) : x.log2 ≤ n := by
  by_cases z : x = 0
  · subst z; exact Nat.zero_le _
  · exact Nat.le_of_lt ((Nat.log2_lt z).mpr h)
theorem log2_mul {x y a b : Nat} (h : x < 2 ^ a) (h' : y < 2 ^ b) : (x * y).log2 ≤ a + b := by
  by_cases z : x * y = 0
  · rw [z]; exact Nat.zero_le _
  · refine log2_of ?_
    rw [Nat.pow_add]
    exact Nat.mul_lt_mul'' h h'
theorem den_ne (q : Rat) : (q.den : Int) ≠ 0 := by have := q.den_nz; omega
theorem natAbs_mul_dd (a b : Rat) : ((a.den : Int) * b.den).natAbs = a.den * b.den := by rw [Int.natAbs_mul]; rfl
section
variable {a b : Rat} {s t : Nat}
theorem times_eq (ha : Sz s a) (hb : Sz t b) (h : s + t < 9000) : F_times [fq a, fq b] = some (fq (a * b)) := by
  have l1 := log2_of ha.1
  have l2 := log2_of ha.2
  have l3 := log2_of hb.1
  have l4 := log2_of hb.2
  have e : a * b = Rat.divInt (a.num * b.num) (a.den * b.den) := by rw [Rat.mul_def', ← Rat.divInt_ofNat, Int.natCast_mul]
  have r := red_eq (a.num * b.num) (a.den * b.den) (Int.mul_ne_zero (den_ne a) (den_ne b)) (by rw [natAbs_mul_dd]; have := log2_mul ha.2 hb.2; omega)
  have m1 : a.num.natAbs.log2 + b.num.natAbs.log2 < 1000000 := by omega
  have m2 : a.den.log2 + b.den.log2 < 1000000 := by omega
  simp [F_times, runP, S_times, seqS, setS, ifS, retS, nopS, parS, setG, tE, eT, opE, unE, varE, cE, consA, nilA, clE, g1, tupE, lstE, ifE, notE, notT, andT, orT, asB, eqD, neD, eqB_int, subD, ii0, mulD, fdivD, modD, iiD, negD, absD, intD, gtI, geI, leI, powD, addD, ltD, sizeLine, isND, notND, isNonB, Option.bind_some, Option.map_some, fq, ix0, ix1, m1, m2, r, e]
theorem lessened_eq (ha : Sz s a) (hb : Sz t b) (h : s + t < 9000) : F_lessened [fq a, fq b] = some (fq (a - b)) := by
  have l1 := log2_of ha.1
  have l2 := log2_of ha.2
  have l3 := log2_of hb.1
  have l4 := log2_of hb.2
  have e : a - b = Rat.divInt (a.num * b.den - b.num * a.den) (a.den * b.den) := by
    conv => lhs; rw [← Rat.num_divInt_den a, ← Rat.num_divInt_den b]
    rw [Rat.divInt_sub_divInt _ _ (den_ne a) (den_ne b)]
  have r := red_eq (a.num * b.den - b.num * a.den) (a.den * b.den) (Int.mul_ne_zero (den_ne a) (den_ne b)) (by rw [natAbs_mul_dd]; have := log2_mul ha.2 hb.2; omega)
  have m1 : a.num.natAbs.log2 + b.den.log2 < 1000000 := by omega
  have m2 : a.den.log2 + b.den.log2 < 1000000 := by omega
  have m3 : b.num.natAbs.log2 + a.den.log2 < 1000000 := by omega
  simp [F_lessened, runP, S_lessened, seqS, setS, ifS, retS, nopS, parS, setG, tE, eT, opE, unE, varE, cE, consA, nilA, clE, g1, tupE, lstE, ifE, notE, notT, andT, orT, asB, eqD, neD, eqB_int, subD, ii0, mulD, fdivD, modD, iiD, negD, absD, intD, gtI, geI, leI, powD, addD, ltD, sizeLine, isND, notND, isNonB, Option.bind_some, Option.map_some, fq, ix0, ix1, m1, m2, m3, r, e]
theorem over_eq (ha : Sz s a) (hb : Sz t b) (h : s + t < 9000) (nz : b ≠ 0) : F_over [fq a, fq b] = some (fq (a / b)) := by
  have l1 := log2_of ha.1
  have l2 := log2_of ha.2
  have l3 := log2_of hb.1
  have l4 := log2_of hb.2
  have bn : b.num ≠ 0 := fun z => nz (Rat.num_eq_zero.mp z)
  have e : a / b = Rat.divInt (a.num * b.den) (a.den * b.num) := by
    rw [Rat.div_def, Rat.inv_def]
    conv => lhs; rw [← Rat.num_divInt_den a]
    rw [Rat.divInt_mul_divInt]
  have r := red_eq (a.num * b.den) (a.den * b.num) (Int.mul_ne_zero (den_ne a) bn) (by rw [Int.natAbs_mul]; have := log2_mul ha.2 hb.1; simp at this ⊢; omega)
  have m1 : a.num.natAbs.log2 + b.den.log2 < 1000000 := by omega
  have m2 : a.den.log2 + b.num.natAbs.log2 < 1000000 := by omega
  simp [F_over, runP, S_over, seqS, setS, ifS, retS, nopS, parS, setG, tE, eT, opE, unE, varE, cE, consA, nilA, clE, g1, tupE, lstE, ifE, notE, notT, andT, orT, asB, eqD, neD, eqB_int, subD, ii0, mulD, fdivD, modD, iiD, negD, absD, intD, gtI, geI, leI, powD, addD, ltD, sizeLine, isND, notND, isNonB, Option.bind_some, Option.map_some, fq, ix0, ix1, m1, m2, r, e]
end
/-! the law's own fractions -/
abbrev lT : XT := tE (opE gtI (varE 1) (cE (.int 0)))
theorem lgcd_loop : ∀ (k : Nat) (a b : Int), 0 ≤ a → 0 ≤ b → b.natAbs < k → whileN lT gB k [some (.int a), some (.int b)] = .nx [some (.int (Int.gcd a b)), some (.int 0)]
  | 0, a, b, _, _, h => by omega
  | k + 1, a, b, ha, hb, h => by
    by_cases hz : b = 0
    · subst hz
      rw [whileN_end (ρ1 := [some (.int a), some (.int 0)]) (by simp [seqS, setS, ifS, retS, nopS, parS, setG, tE, eT, opE, unE, varE, cE, consA, nilA, clE, g1, tupE, lstE, ifE, notE, notT, andT, orT, asB, eqD, neD, eqB_int, subD, ii0, mulD, fdivD, modD, iiD, negD, absD, intD, gtI, geI, leI, powD, addD, ltD, sizeLine, isND, notND, isNonB, Option.bind_some, Option.map_some])]
      rw [Int.gcd_zero_right, Int.natAbs_of_nonneg ha]
    · have h1 : Int.fmod a b = a % b := Int.fmod_eq_emod_of_nonneg _ hb
      have hp : 0 < b := by omega
      have h2 := Int.emod_nonneg a hz
      have h3 := Int.emod_lt_of_pos a hp
      rw [whileN_nx (ρ1 := [some (.int a), some (.int b)]) (ρ2 := [some (.int b), some (.int (a % b))]) (by simp [seqS, setS, ifS, retS, nopS, parS, setG, tE, eT, opE, unE, varE, cE, consA, nilA, clE, g1, tupE, lstE, ifE, notE, notT, andT, orT, asB, eqD, neD, eqB_int, subD, ii0, mulD, fdivD, modD, iiD, negD, absD, intD, gtI, geI, leI, powD, addD, ltD, sizeLine, isND, notND, isNonB, Option.bind_some, Option.map_some, hp]) (by simp [seqS, setS, ifS, retS, nopS, parS, setG, tE, eT, opE, unE, varE, cE, consA, nilA, clE, g1, tupE, lstE, ifE, notE, notT, andT, orT, asB, eqD, neD, eqB_int, subD, ii0, mulD, fdivD, modD, iiD, negD, absD, intD, gtI, geI, leI, powD, addD, ltD, sizeLine, isND, notND, isNonB, Option.bind_some, Option.map_some, hz, h1]), lgcd_loop k b (a % b) hb h2 (by omega)]
      have e : Int.gcd b (a % b) = Int.gcd a b := by
        obtain ⟨x, rfl⟩ := Int.eq_ofNat_of_zero_le ha
        obtain ⟨y, rfl⟩ := Int.eq_ofNat_of_zero_le hb
        show Nat.gcd y _ = Nat.gcd x y
        rw [← Int.natCast_emod, Int.natAbs_natCast, Nat.gcd_comm y, ← Nat.gcd_rec, Nat.gcd_comm]
      rw [e]
theorem lcd_eq (a b : Int) : F__law_common [.int a, .int b] = some (.int (Int.gcd a b)) := by
  have h := lgcd_loop (b.natAbs + 1) a.natAbs b.natAbs (by omega) (by omega) (by omega)
  have hg : Int.gcd (a.natAbs : Int) (b.natAbs : Int) = Int.gcd a b := rfl
  rw [hg] at h
  have e : S__law_common [some (.int a), some (.int b)] = .rt (.int (Int.gcd a b)) [some (.int (Int.gcd a b)), some (.int 0)] := by
    unfold S__law_common
    rw [seqS_nx (ρ1 := [some (.int a.natAbs), some (.int b.natAbs)]) (by simp [seqS, setS, ifS, retS, nopS, parS, setG, tE, eT, opE, unE, varE, cE, consA, nilA, clE, g1, tupE, lstE, ifE, notE, notT, andT, orT, asB, eqD, neD, eqB_int, subD, ii0, mulD, fdivD, modD, iiD, negD, absD, intD, gtI, geI, leI, powD, addD, ltD, sizeLine, isND, notND, isNonB, Option.bind_some, Option.map_some, abs_if])]
    rw [seqS_nx (ρ1 := [some (.int (Int.gcd a b)), some (.int 0)]) (by simp only [whileS, fuN]; exact h)]
    simp [seqS, setS, ifS, retS, nopS, parS, setG, tE, eT, opE, unE, varE, cE, consA, nilA, clE, g1, tupE, lstE, ifE, notE, notT, andT, orT, asB, eqD, neD, eqB_int, subD, ii0, mulD, fdivD, modD, iiD, negD, absD, intD, gtI, geI, leI, powD, addD, ltD, sizeLine, isND, notND, isNonB, Option.bind_some, Option.map_some]
  simp [F__law_common, runP, e]
theorem max2_int (a b : Int) : max2G [.int a, .int b] = some (.int (if a < b then b else a)) := rfl
theorem lred_eq (n d : Int) (hd : d ≠ 0) (hb : d.natAbs.log2 < 9000) : F__law_reduced [.int n, .int d] = some (fq (Rat.divInt n d)) := by
  have hg := lcd_eq n d
  rw [Int.gcd_comm] at hg
  have g0 : Int.gcd d n ≠ 0 := fun z => hd (Int.gcd_eq_zero_iff.mp z).1
  have gd : Int.gcd d n ∣ d.natAbs := Int.gcd_dvd_natAbs_left d n
  have gl : (Int.gcd d n).log2 < 9000 := by
    have h1 : Int.gcd d n ≤ d.natAbs := Nat.le_of_dvd (by omega) gd
    exact Nat.lt_of_le_of_lt ((Nat.le_log2 (by omega)).mpr (Nat.le_trans (Nat.log2_self_le g0) h1)) hb
  obtain ⟨x, hx⟩ : ((Int.gcd d n : Nat) : Int) ∣ n := Int.gcd_dvd_right ..
  obtain ⟨y, hy⟩ : ((Int.gcd d n : Nat) : Int) ∣ d := Int.gcd_dvd_left ..
  generalize hG : Int.gcd d n = g at *
  have gz : (g : Int) ≠ 0 := by omega
  have hn : (Rat.divInt n d).num = d.sign * x := by
    rw [Rat.num_divInt, hG]
    conv => lhs; rw [hx, ← Int.mul_assoc, Int.mul_comm d.sign, Int.mul_assoc, Int.mul_ediv_cancel_left _ gz]
  have hdn : ((Rat.divInt n d).den : Int) = d.sign * y := by
    rw [Rat.den_divInt, hG, if_neg hd, Int.natCast_ediv]
    have e : (d.natAbs : Int) = g * (d.sign * y) := by
      have e0 : (d.natAbs : Int) = d.sign * d := by
        rcases Int.lt_or_gt_of_ne hd with h | h
        · rw [Int.sign_eq_neg_one_of_neg h]; omega
        · rw [Int.sign_eq_one_of_pos h]; omega
      rw [e0]
      generalize d.sign = s
      rw [hy]
      grind
    rw [e, Int.mul_ediv_cancel_left _ gz]
  have q1 : ∀ z : Int, ((g : Int) * z).fdiv g = z := fun z => Int.mul_fdiv_cancel_left z gz
  have q2 : ∀ z : Int, (-((g : Int) * z)).fdiv g = -z := fun z => by
    have e : -((g : Int) * z) = g * -z := by grind
    rw [e]
    exact Int.mul_fdiv_cancel_left (-z) gz
  have mx : (if (1 : Int) < g then (g : Int) else 1) = g := by split <;> omega
  rcases Int.lt_or_gt_of_ne hd with hl | hl
  · have sg : d.sign = -1 := Int.sign_eq_neg_one_of_neg hl
    rw [sg] at hn hdn
    have e1 : (-n).fdiv g = (Rat.divInt n d).num := by rw [hn, hx, q2]; omega
    have e2 : (-d).fdiv g = (Rat.divInt n d).den := by rw [hdn, hy, q2]; omega
    simp [F__law_reduced, runP, S__law_reduced, seqS, setS, ifS, retS, nopS, parS, setG, tE, eT, opE, unE, varE, cE, consA, nilA, clE, g1, tupE, lstE, ifE, notE, notT, andT, orT, asB, eqD, neD, eqB_int, subD, ii0, mulD, fdivD, modD, iiD, negD, absD, intD, gtI, geI, leI, powD, addD, ltD, sizeLine, isND, notND, isNonB, Option.bind_some, Option.map_some, max2_int, hg, hl, g0, gl, e1, e2, fq, mx]
  · have sg : d.sign = 1 := Int.sign_eq_one_of_pos hl
    have c1 : ¬ (d < 0) := by omega
    rw [sg] at hn hdn
    have e1 : n.fdiv g = (Rat.divInt n d).num := by rw [hn, hx, q1]; omega
    have e2 : d.fdiv g = (Rat.divInt n d).den := by rw [hdn, hy, q1]; omega
    simp [F__law_reduced, runP, S__law_reduced, seqS, setS, ifS, retS, nopS, parS, setG, tE, eT, opE, unE, varE, cE, consA, nilA, clE, g1, tupE, lstE, ifE, notE, notT, andT, orT, asB, eqD, neD, eqB_int, subD, ii0, mulD, fdivD, modD, iiD, negD, absD, intD, gtI, geI, leI, powD, addD, ltD, sizeLine, isND, notND, isNonB, Option.bind_some, Option.map_some, max2_int, hg, c1, g0, gl, e1, e2, fq, mx]
section
variable {a b : Rat} {s t : Nat}
theorem ltimes_eq (ha : Sz s a) (hb : Sz t b) (h : s + t < 9000) : F__law_multiplied [fq a, fq b] = some (fq (a * b)) := by
  have l1 := log2_of ha.1
  have l2 := log2_of ha.2
  have l3 := log2_of hb.1
  have l4 := log2_of hb.2
  have e : a * b = Rat.divInt (a.num * b.num) (a.den * b.den) := by rw [Rat.mul_def', ← Rat.divInt_ofNat, Int.natCast_mul]
  have r := lred_eq (a.num * b.num) (a.den * b.den) (Int.mul_ne_zero (den_ne a) (den_ne b)) (by rw [natAbs_mul_dd]; have := log2_mul ha.2 hb.2; omega)
  have m1 : a.num.natAbs.log2 + b.num.natAbs.log2 < 1000000 := by omega
  have m2 : a.den.log2 + b.den.log2 < 1000000 := by omega
  simp [F__law_multiplied, runP, S__law_multiplied, seqS, setS, ifS, retS, nopS, parS, setG, tE, eT, opE, unE, varE, cE, consA, nilA, clE, g1, tupE, lstE, ifE, notE, notT, andT, orT, asB, eqD, neD, eqB_int, subD, ii0, mulD, fdivD, modD, iiD, negD, absD, intD, gtI, geI, leI, powD, addD, ltD, sizeLine, isND, notND, isNonB, Option.bind_some, Option.map_some, fq, ix0, ix1, m1, m2, r, e]
theorem ladded_eq (ha : Sz s a) (hb : Sz t b) (h : s + t < 9000) : F__law_added [fq a, fq b] = some (fq (a + b)) := by
  have l1 := log2_of ha.1
  have l2 := log2_of ha.2
  have l3 := log2_of hb.1
  have l4 := log2_of hb.2
  have e : a + b = Rat.divInt (a.num * b.den + b.num * a.den) (a.den * b.den) := by
    conv => lhs; rw [← Rat.num_divInt_den a, ← Rat.num_divInt_den b]
    rw [Rat.divInt_add_divInt _ _ (den_ne a) (den_ne b)]
  have r := lred_eq (a.num * b.den + b.num * a.den) (a.den * b.den) (Int.mul_ne_zero (den_ne a) (den_ne b)) (by rw [natAbs_mul_dd]; have := log2_mul ha.2 hb.2; omega)
  have m1 : a.num.natAbs.log2 + b.den.log2 < 1000000 := by omega
  have m2 : a.den.log2 + b.den.log2 < 1000000 := by omega
  have m3 : b.num.natAbs.log2 + a.den.log2 < 1000000 := by omega
  simp [F__law_added, runP, S__law_added, seqS, setS, ifS, retS, nopS, parS, setG, tE, eT, opE, unE, varE, cE, consA, nilA, clE, g1, tupE, lstE, ifE, notE, notT, andT, orT, asB, eqD, neD, eqB_int, subD, ii0, mulD, fdivD, modD, iiD, negD, absD, intD, gtI, geI, leI, powD, addD, ltD, sizeLine, isND, notND, isNonB, Option.bind_some, Option.map_some, fq, ix0, ix1, m1, m2, m3, r, e]
end
end Lay

namespace Lay
open PySem PySem.Spec PyProof.Rows L2

/-! ## sizes -/
def Bq (s : Nat) (x : Rat) : Prop := ∃ (d : Nat) (p : Int), 0 < d ∧ d < 2 ^ s ∧ p.natAbs < 2 ^ s ∧ x = Rat.divInt p d
theorem Bq.sz {s : Nat} {x : Rat} (h : Bq s x) : Sz s x := by
  obtain ⟨d, p, h1, h2, h3, rfl⟩ := h
  have g0 : 0 < Int.gcd (d : Int) p := Int.gcd_pos_of_ne_zero_left _ (by omega)
  constructor
  · rw [Rat.num_divInt]
    have e : ((d : Int).sign * p / (Int.gcd (d : Int) p : Nat)).natAbs ≤ p.natAbs := by
      rw [Int.sign_eq_one_of_pos (by omega), Int.one_mul]
      exact Int.natAbs_ediv_le_natAbs p _
    exact Nat.lt_of_le_of_lt e h3
  · rw [Rat.den_divInt, if_neg (by omega)]
    exact Nat.lt_of_le_of_lt (Nat.div_le_self _ _) h2
theorem Sz.mono {s t : Nat} {x : Rat} (h : Sz s x) (l : s ≤ t) : Sz t x := by
  have := Nat.pow_le_pow_right (n := 2) (by omega) l
  exact ⟨Nat.lt_of_lt_of_le h.1 this, Nat.lt_of_lt_of_le h.2 this⟩
theorem Bq.mono {s t : Nat} {x : Rat} (h : Bq s x) (l : s ≤ t) : Bq t x := by
  have := Nat.pow_le_pow_right (n := 2) (by omega) l
  obtain ⟨d, p, h1, h2, h3, e⟩ := h
  exact ⟨d, p, h1, Nat.lt_of_lt_of_le h2 this, Nat.lt_of_lt_of_le h3 this, e⟩
theorem Bq.of {s : Nat} {x : Rat} (h : Sz s x) : Bq s x := ⟨x.den, x.num, by have := x.den_nz; omega, h.2, h.1, (Rat.num_divInt_den x).symm⟩
theorem Bq.mul {s t : Nat} {x y : Rat} (h : Bq s x) (h' : Bq t y) : Bq (s + t) (x * y) := by
  obtain ⟨d, p, h1, h2, h3, rfl⟩ := h
  obtain ⟨e, q, k1, k2, k3, rfl⟩ := h'
  refine ⟨d * e, p * q, Nat.mul_pos h1 k1, ?_, ?_, ?_⟩
  · rw [Nat.pow_add]; exact Nat.mul_lt_mul'' h2 k2
  · rw [Nat.pow_add, Int.natAbs_mul]; exact Nat.mul_lt_mul'' h3 k3
  · rw [Rat.divInt_mul_divInt, Int.natCast_mul]
theorem Bq.add {s t : Nat} {x y : Rat} (h : Bq s x) (h' : Bq t y) : Bq (s + t + 1) (x + y) := by
  obtain ⟨d, p, h1, h2, h3, rfl⟩ := h
  obtain ⟨e, q, k1, k2, k3, rfl⟩ := h'
  refine ⟨d * e, p * e + q * d, Nat.mul_pos h1 k1, ?_, ?_, ?_⟩
  · rw [Nat.pow_succ, Nat.pow_add]
    have := Nat.mul_lt_mul'' h2 k2
    omega
  · rw [Nat.pow_succ, Nat.pow_add]
    have a1 := Nat.mul_lt_mul'' h3 k2
    have a2 := Nat.mul_lt_mul'' k3 h2
    have a3 : (p * (e : Int)).natAbs = p.natAbs * e := by rw [Int.natAbs_mul]; rfl
    have a4 : (q * (d : Int)).natAbs = q.natAbs * d := by rw [Int.natAbs_mul]; rfl
    have a5 := Int.natAbs_add_le (p * (e : Int)) (q * d)
    have a6 : 2 ^ t * 2 ^ s = 2 ^ s * 2 ^ t := Nat.mul_comm _ _
    omega
  · rw [Rat.divInt_add_divInt _ _ (by omega) (by omega), Int.natCast_mul]
/-- a row with one denominator -/
def Br (s m : Nat) (f : Nat → Rat) : Prop := ∃ (d : Nat) (p : Nat → Int), 0 < d ∧ d < 2 ^ s ∧ ∀ j, j < m → (p j).natAbs < 2 ^ s ∧ f j = Rat.divInt (p j) d
theorem Br.at {s m : Nat} {f : Nat → Rat} (h : Br s m f) {j : Nat} (hj : j < m) : Bq s (f j) := by
  obtain ⟨d, p, h1, h2, h3⟩ := h
  exact ⟨d, p j, h1, h2, (h3 j hj).1, (h3 j hj).2⟩
theorem Br.mono {s t m : Nat} {f : Nat → Rat} (h : Br s m f) (l : s ≤ t) : Br t m f := by
  have := Nat.pow_le_pow_right (n := 2) (by omega) l
  obtain ⟨d, p, h1, h2, h3⟩ := h
  exact ⟨d, p, h1, Nat.lt_of_lt_of_le h2 this, fun j hj => ⟨Nat.lt_of_lt_of_le (h3 j hj).1 this, (h3 j hj).2⟩⟩
theorem Br.scale {s m k : Nat} {f : Nat → Rat} (h : Br s m f) (hk : k < m) (nz : f k ≠ 0) : Br s m fun j => f j / f k := by
  obtain ⟨d, p, h1, h2, h3⟩ := h
  have hd : (d : Int) ≠ 0 := by omega
  have pk : p k ≠ 0 := fun z => nz (by rw [(h3 k hk).2, z]; exact Rat.zero_divInt _)
  have key : ∀ j, j < m → f j / f k = Rat.divInt (p j) (p k) := fun j hj => by
    rw [(h3 j hj).2, (h3 k hk).2, Rat.divInt_eq_div, Rat.divInt_eq_div, Rat.divInt_eq_div]
    have a1 : ((d : Int) : Rat) ≠ 0 := by
      intro z
      exact hd (by exact_mod_cast z)
    have a2 : ((p k : Int) : Rat) ≠ 0 := by
      intro z
      exact pk (by exact_mod_cast z)
    grind
  rcases Int.lt_or_gt_of_ne pk with l | l
  · refine ⟨(p k).natAbs, fun j => -p j, by omega, (h3 k hk).1, fun j hj => ⟨by rw [Int.natAbs_neg]; exact (h3 j hj).1, ?_⟩⟩
    show f j / f k = _
    rw [key j hj, show ((p k).natAbs : Int) = -p k by omega, Rat.neg_divInt_neg]
  · refine ⟨(p k).natAbs, p, by omega, (h3 k hk).1, fun j hj => ⟨(h3 j hj).1, ?_⟩⟩
    show f j / f k = _
    rw [key j hj, show ((p k).natAbs : Int) = p k by omega]
theorem Br.sub {s m k : Nat} {f g : Nat → Rat} (h : Br s m f) (h' : Br s m g) (hk : k < m) : Br (2 * s + 1) m fun j => f j - f k * g j := by
  obtain ⟨d, p, h1, h2, h3⟩ := h
  obtain ⟨e, q, k1, k2, k3⟩ := h'
  have ps : 2 ^ (2 * s + 1) = 2 * (2 ^ s * 2 ^ s) := by
    rw [Nat.pow_succ, show 2 * s = s + s by omega, Nat.pow_add]; omega
  refine ⟨d * e, fun j => p j * e - p k * q j, Nat.mul_pos h1 k1, ?_, fun j hj => ⟨?_, ?_⟩⟩
  · rw [ps]
    have := Nat.mul_lt_mul'' h2 k2
    omega
  · rw [ps]
    have a1 := Nat.mul_lt_mul'' (h3 j hj).1 k2
    have a2 := Nat.mul_lt_mul'' (h3 k hk).1 (k3 j hj).1
    have a3 : (p j * (e : Int)).natAbs = (p j).natAbs * e := by rw [Int.natAbs_mul]; rfl
    have a4 : (p k * q j).natAbs = (p k).natAbs * (q j).natAbs := Int.natAbs_mul _ _
    have a5 := Int.natAbs_sub_le (p j * (e : Int)) (p k * q j)
    show (p j * (e : Int) - p k * q j).natAbs < _
    omega
  · show f j - f k * g j = _
    rw [(h3 j hj).2, (h3 k hk).2, (k3 j hj).2, Rat.divInt_mul_divInt, Rat.divInt_sub_divInt _ _ (by omega) (by
      have : (d : Int) * e ≠ 0 := Int.mul_ne_zero (by omega) (by omega)
      exact this)]
    rw [Int.natCast_mul]
    have : (d : Int) ≠ 0 := by omega
    rw [show p j * ((d : Int) * e) - p k * q j * d = d * (p j * e - p k * q j) by grind, show (d : Int) * (d * e) = d * (d * e) from rfl, Rat.divInt_mul_left this]
end Lay

namespace Lay
open PySem PySem.Spec PyProof.Rows L2

/-! ## tables -/
theorem nilA_eq (ρ : En) : nilA ρ = some ([], ρ) := rfl
def ro (m : Nat) (f : Nat → Rat) : D := .list ((List.range m).map fun j => fq (f j))
def tb (n m : Nat) (t : Nat → Nat → Rat) : D := .list ((List.range n).map fun i => ro m (t i))
theorem ro_ix {m j : Nat} {f : Nat → Rat} (h : j < m) : ixD (ro m f) (.int (j : Int)) = some (fq (f j)) := by
  show L2.atI ((List.range m).map fun j => fq (f j)) (j : Int) = _
  rw [atI_nat (by simpa using h)]
  simp [h]
theorem zip_ro (m : Nat) (f g : Nat → Rat) : zipD ((List.range m).map fun j => fq (f j)) ((List.range m).map fun j => fq (g j)) = (List.range m).map fun j => .tuple [fq (f j), fq (g j)] := by
  unfold zipD
  rw [List.zip_map', List.map_map]
  rfl
theorem led_eq {m : Nat} {f g : Nat → Rat} {c : Rat} {a b e : Nat} (hf : ∀ j, j < m → Bq a (f j)) (hg : ∀ j, j < m → Bq b (g j)) (hc : Bq e c) (h1 : e + b < 9000) (h2 : a + (e + b) < 9000) :
    F_led [ro m f, ro m g, fq c] = some (ro m fun j => f j - c * g j) := by
  have k : compE (zipE (consA (varE 0) (consA (varE 1) (nilA)))) [3, 4] (tupG (consG (nameG 3) (consG (nameG 4) (nilG)))) (yesT) (clE F_lessened (consA (varE 3) (consA (clE F_times (consA (varE 2) (consA (varE 4) (nilA)))) (nilA)))) [some (ro m f), some (ro m g), some (fq c), none, none] = some (ro m (fun j => f j - c * g j), [some (ro m f), some (ro m g), some (fq c), none, none]) := by
    refine compE_onA (ds := List.range m) (fun j => .tuple [fq (f j), fq (g j)]) (fun j => fq (f j - c * g j)) (ls := zipD ((List.range m).map fun j => fq (f j)) ((List.range m).map fun j => fq (g j))) ?_ (zip_ro m f g) fun j hj => ?_
    · simp [zipE, consA, varE, nilA, ro]
    · have hj : j < m := by simpa using hj
      refine ⟨[some (ro m f), some (ro m g), some (fq c), some (fq (f j)), some (fq (g j))], by simp [tupG, consG, nameG, nilG, kil], by simp [kil], ?_⟩
      have t1 := times_eq hc.sz (hg j hj).sz h1
      have t2 := lessened_eq (hf j hj).sz (hc.mul (hg j hj)).sz h2
      simp [clE, consA, varE, nilA, t1, t2]
  simp [F_led, runPF, S_led, seqS, retS, k]
/-! the steps of the solving -/
theorem fq_nz (x : Rat) : eqB (fq x) c_NOUGHT = some (decide (x = 0)) := by
  have s1 : Sh 1 (fq x) := sh_tup fun d hd => by
    simp only [List.mem_cons, List.not_mem_nil, or_false] at hd
    rcases hd with rfl | rfl <;> exact sh_int _
  have s2 : Sh 1 c_NOUGHT := sh_tup fun d hd => by
    simp only [List.mem_cons, List.not_mem_nil, or_false] at hd
    rcases hd with rfl | rfl <;> exact sh_int _
  rw [eqB_sh s1 s2 (by decide) (by decide) (fun a z => by cases z)]
  simp only [fq, c_NOUGHT, PyData.eqv, PyData.eqvAll, Option.some.injEq]
  by_cases h : x = 0
  · subst h; decide
  · have : x.num ≠ 0 := fun z => h (Rat.num_eq_zero.mp z)
    simp [h, this]
theorem ints_nil {α : Type} (l : List α) (e : α → Int) : eqB (.list (l.map fun a => .int (e a))) (.list []) = some l.isEmpty := by
  have s1 : Sh 1 (.list (l.map fun a => .int (e a))) := sh_list fun d hd => by
    obtain ⟨a, _, rfl⟩ := List.mem_map.mp hd
    exact sh_int _
  have s2 : Sh 1 (.list []) := sh_list fun d hd => nomatch hd
  rw [eqB_sh s1 s2 (by decide) (by decide) (fun a z => by cases z)]
  cases l <;> simp [PyData.eqv, PyData.eqvAll]
section
variable {n m : Nat} {t : Nat → Nat → Rat} {ρ : En}
theorem tb_item {i v : Nat} (h2 : ρ[2]? = some (some (tb n m t))) (hv : ρ[v]? = some (some (.int (i : Int)))) (hi : i < n) : ixoE 2 (varE v) ρ = some (ro m (t i), ρ) := by
  have e : L2.atI ((List.range n).map fun i => ro m (t i)) (i : Int) = some (ro m (t i)) := by
    rw [atI_nat (by simpa using hi)]
    simp [hi]
  simp [ixoE, varE, hv, getL, h2, tb, e]
theorem tb_entry {i j v w : Nat} (h2 : ρ[2]? = some (some (tb n m t))) (hv : ρ[v]? = some (some (.int (i : Int)))) (hw : ρ[w]? = some (some (.int (j : Int)))) (hi : i < n) (hj : j < m) : opE ixD (ixoE 2 (varE v)) (varE w) ρ = some (fq (t i j), ρ) :=
  opE_eq (tb_item h2 hv hi) (varE_eq hw) (ro_ix hj)
theorem tb_len (h2 : ρ[2]? = some (some (tb n m t))) : borE (clE (g1 lenD) (consA (varE 2) nilA)) ρ = some (.int n, ρ) := by
  refine borE_eq ?_ rfl
  simp [clE, consA, varE, h2, nilA, g1, tb, lenD]
theorem rng1_eq {f : XE} {ρ : En} (h : f ρ = some (.int n, ρ)) (hn : n ≤ 1000) : rngE (consA f nilA) ρ = some ((List.range n).map fun i => .int (i : Nat), ρ) := by
  have h1 : (n : Int) ≤ sizeLine := by simp only [sizeLine]; omega
  have h2 : -(2 ^ 62 : Int) ≤ n := by omega
  unfold rngE
  simp only [consA, h, nilA, Option.bind_some, Option.map_some]
  rw [if_pos ⟨h1, h2⟩]
  simp only [Int.zero_add, Int.toNat_natCast]
theorem rng2_gen {i j : Int} {ρ : En} (c : (-(2 ^ 62) ≤ i ∧ i < 2 ^ 62 ∧ -(2 ^ 62) ≤ j ∧ j < 2 ^ 62) ∧ j - i ≤ sizeLine) {f g : XE} (h0 : f ρ = some (.int i, ρ)) (h : g ρ = some (.int j, ρ)) : rngE (consA f (consA g nilA)) ρ = some ((List.range (j - i).toNat).map fun m => .int (i + (m : Nat)), ρ) := by
  unfold rngE
  simp only [consA, h0, h, nilA, Option.bind_some, Option.map_some]
  rw [if_pos c]
theorem rng2_eq {f g : XE} {ρ : En} {a : Nat} (h0 : f ρ = some (.int a, ρ)) (h : g ρ = some (.int n, ρ)) (ha : a ≤ n) (hn : n ≤ 1000) : rngE (consA f (consA g nilA)) ρ = some ((List.range (n - a)).map fun i => .int (a + (i : Nat)), ρ) := by
  have h1 : (n : Int) - a ≤ sizeLine := by simp only [sizeLine]; omega
  have c1 : (-(2 ^ 62 : Int) ≤ a ∧ (a : Int) < 2 ^ 62 ∧ -(2 ^ 62 : Int) ≤ n ∧ (n : Int) < 2 ^ 62) := ⟨by omega, by omega, by omega, by omega⟩
  rw [rng2_gen ⟨c1, h1⟩ h0 h, show ((n : Int) - a).toNat = n - a from Int.toNat_sub n a]
theorem tb_set {i : Nat} {f : Nat → Rat} : PyData.list (((List.range n).map fun i => ro m (t i)).set i (ro m f)) = tb n m (fun a j => if a = i then f j else t a j) := by
  unfold tb
  congr 1
  refine List.ext_getElem? fun a => ?_
  rw [List.getElem?_set, List.getElem?_map, List.getElem?_map]
  by_cases h : i = a
  · subst h
    by_cases l : i < n
    · simp [l]
    · simp [l]
  · by_cases l : a < n
    · simp [l, h, Ne.symm h]
    · simp [l, h]
end
/-! one round -/
abbrev sE (rows right tab : D) (a g x : Option D) : En := [some rows, some right, some tab, a, g, x, none, none, none]
section
variable {n k : Nat} {t : Nat → Nat → Rat} {rows right : D}
noncomputable abbrev lenT : XE := borE (clE (g1 lenD) (consA (varE 2) nilA))
def goods (n k : Nat) (t : Nat → Nat → Rat) : List Nat := (List.range (n - k)).filter fun m => !decide (t (k + m) k = 0)
theorem good_eq (hk : k < n) (hn : n ≤ 4) : compE (rngE (consA (varE 3) (consA lenT nilA))) [5] (nameG 5) (tE (opE neD (opE ixD (ixoE 2 (varE 5)) (varE 3)) (cE c_NOUGHT))) (varE 5) (sE rows right (tb n (n + 1) t) (some (.int k)) none none) =
    some (.list ((goods n k t).map fun m => .int (k + (m : Nat))), sE rows right (tb n (n + 1) t) (some (.int k)) none none) := by
  refine compE_on (ds := List.range (n - k)) (fun m => !decide (t (k + m) k = 0)) (fun m => .int (k + (m : Nat))) (fun m => .int (k + (m : Nat))) (rng2_eq (n := n) (varE_eq rfl) (tb_len rfl) (by omega) (by omega)) rfl fun m hm => ?_
  have hm : m < n - k := by simpa using hm
  refine ⟨sE rows right (tb n (n + 1) t) (some (.int k)) none (some (.int (k + (m : Nat)))), rfl, rfl, ?_, fun _ => varE_eq rfl⟩
  have e1 := tb_entry (n := n) (m := n + 1) (t := t) (ρ := sE rows right (tb n (n + 1) t) (some (.int k)) none (some (.int (k + (m : Nat))))) (i := k + m) (j := k) (v := 5) (w := 3) rfl rfl rfl (by omega) (by omega)
  refine tE_eq (opE_eq e1 rfl ?_)
  simp only [neD, fq_nz, Option.map_some]
theorem swap_eq {g : Nat} {gv : D} (hx : ixD gv (.int 0) = some (.int (g : Int))) (hk : k < n) (hg : g < n) : swapS 2 (tupE (consA (ixoE 2 (opE ixD (varE 4) (cE (.int 0)))) (consA (ixoE 2 (varE 3)) (nilA)))) (varE 3) (opE ixD (varE 4) (cE (.int 0))) (sE rows right (tb n (n + 1) t) (some (.int k)) (some gv) none) =
    .nx (sE rows right (tb n (n + 1) (tSwap k g t)) (some (.int k)) (some gv) none) := by
  have ix : ∀ (tab : D), opE ixD (varE 4) (cE (.int 0)) (sE rows right tab (some (.int k)) (some gv) none) = some (.int (g : Int), sE rows right tab (some (.int k)) (some gv) none) := fun tab => opE_eq (varE_eq rfl) rfl hx
  have it : ∀ (i : Nat), i < n → L2.atI ((List.range n).map fun i => ro (n + 1) (t i)) (i : Int) = some (ro (n + 1) (t i)) := fun i hi => by
    rw [atI_nat (by simpa using hi)]
    simp [hi]
  have v1 : ixoE 2 (opE ixD (varE 4) (cE (.int 0))) (sE rows right (tb n (n + 1) t) (some (.int k)) (some gv) none) = some (ro (n + 1) (t g), sE rows right (tb n (n + 1) t) (some (.int k)) (some gv) none) := by
    unfold ixoE
    rw [ix]
    simp only [getL, sE, List.getElem?_cons_succ, List.getElem?_cons_zero, tb, it _ hg, Option.map_some]
  have v2 : ixoE 2 (varE 3) (sE rows right (tb n (n + 1) t) (some (.int k)) (some gv) none) = some (ro (n + 1) (t k), sE rows right (tb n (n + 1) t) (some (.int k)) (some gv) none) := tb_item rfl rfl hk
  have s1 : setit 2 (varE 3) (ro (n + 1) (t g)) (sE rows right (tb n (n + 1) t) (some (.int k)) (some gv) none) =
      some (sE rows right (tb n (n + 1) (fun a j => if a = k then t g j else t a j)) (some (.int k)) (some gv) none) := by
    unfold setit
    rw [varE_eq (d := .int k) rfl]
    simp only [getL, sE, List.getElem?_cons_succ, List.getElem?_cons_zero, tb, List.length_map, List.length_range, ixN_nat hk]
    rw [tb_set]
    rfl
  have s2 : setit 2 (opE ixD (varE 4) (cE (.int 0))) (ro (n + 1) (t k)) (sE rows right (tb n (n + 1) (fun a j => if a = k then t g j else t a j)) (some (.int k)) (some gv) none) =
      some (sE rows right (tb n (n + 1) (tSwap k g t)) (some (.int k)) (some gv) none) := by
    unfold setit
    rw [ix]
    simp only [getL, sE, List.getElem?_cons_succ, List.getElem?_cons_zero, tb, List.length_map, List.length_range, ixN_nat hg]
    rw [tb_set]
    have e : (fun a j => if a = g then t k j else if a = k then t g j else t a j) = tSwap k g t := by
      funext a j
      unfold tSwap
      by_cases h1 : a = k
      · by_cases h2 : a = g
        · rw [if_pos h2, if_pos h1, ← h2, h1]
        · rw [if_neg h2, if_pos h1, if_pos h1]
      · by_cases h2 : a = g
        · rw [if_pos h2, if_neg h1, if_pos h2]
        · rw [if_neg h2, if_neg h1, if_neg h1, if_neg h2]
    rw [e]
    rfl
  have tp : tupE (consA (ixoE 2 (opE ixD (varE 4) (cE (.int 0)))) (consA (ixoE 2 (varE 3)) (nilA))) (sE rows right (tb n (n + 1) t) (some (.int k)) (some gv) none) = some (.tuple [ro (n + 1) (t g), ro (n + 1) (t k)], sE rows right (tb n (n + 1) t) (some (.int k)) (some gv) none) := by
    unfold tupE
    rw [consA_eq v1 (consA_eq v2 rfl)]
    rfl
  unfold swapS
  rw [tp]
  simp only [s1, s2]
theorem scale_eq {s : Nat} {gv : D} (hk : k < n) (hs : s + s < 9000) (hb : ∀ j, j < n + 1 → Bq s (t k j)) (nz : t k k ≠ 0) : setiS 2 (varE 3) (compE (itE (ixoE 2 (varE 3))) [8] (nameG 8) (yesT) (clE F_over (consA (varE 8) (consA (opE ixD (ixoE 2 (varE 3)) (varE 3)) (nilA))))) (sE rows right (tb n (n + 1) t) (some (.int k)) (some gv) none) =
    .nx (sE rows right (tb n (n + 1) (tScale k (t k k) t)) (some (.int k)) (some gv) none) := by
  have c : compE (itE (ixoE 2 (varE 3))) [8] (nameG 8) (yesT) (clE F_over (consA (varE 8) (consA (opE ixD (ixoE 2 (varE 3)) (varE 3)) (nilA)))) (sE rows right (tb n (n + 1) t) (some (.int k)) (some gv) none) = some (ro (n + 1) (fun j => t k j / t k k), sE rows right (tb n (n + 1) t) (some (.int k)) (some gv) none) := by
    refine compE_onA (ds := List.range (n + 1)) (fun j => fq (t k j)) (fun j => fq (t k j / t k k)) (ls := (List.range (n + 1)).map fun j => fq (t k j)) ?_ rfl fun j hj => ?_
    · unfold itE
      rw [tb_item (t := t) (m := n + 1) (i := k) rfl rfl hk]
      rfl
    · have hj : j < n + 1 := by simpa using hj
      refine ⟨[some rows, some right, some (tb n (n + 1) t), some (.int k), some gv, none, none, none, some (fq (t k j))], rfl, rfl, ?_⟩
      exact clE_eq (consA_eq (varE_eq rfl) (consA_eq (tb_entry (t := t) (m := n + 1) (i := k) (j := k) rfl rfl rfl hk (by omega)) rfl)) (over_eq (hb j hj).sz (hb k (by omega)).sz hs nz)
  unfold setiS
  rw [c]
  simp only []
  rw [varE_eq (d := .int k) rfl]
  simp only [getL, sE, List.getElem?_cons_succ, List.getElem?_cons_zero, tb, List.length_map, List.length_range, ixN_nat hk]
  rw [tb_set]
  have e : (fun a j => if a = k then t k j / t k k else t a j) = tScale k (t k k) t := by
    funext a j
    unfold tScale
    by_cases h : a = k
    · rw [if_pos h, if_pos h, h]
    · rw [if_neg h, if_neg h]
  rw [e]
  rfl
def tP (k idx : Nat) (u : Nat → Nat → Rat) : Nat → Nat → Rat := fun i j => if i < idx ∧ i ≠ k then u i j - u i k * u k j else u i j
noncomputable abbrev elimB : XS := seqS (ifS (andT (tE (opE neD (varE 5) (varE 3))) (tE (opE neD (opE ixD (ixoE 2 (varE 5)) (varE 3)) (cE c_NOUGHT))))
    (seqS (setiS 2 (varE 5) (clE F_led (consA (ixoE 2 (varE 5)) (consA (ixoE 2 (varE 3)) (consA (opE ixD (ixoE 2 (varE 5)) (varE 3)) (nilA))))))
    (nopS))
    (nopS))
    (killS [5])
theorem elim_eq {s : Nat} {gv : D} (hk : k < n) (hn : n ≤ 4) (hs : 3 * s < 9000) (hb : ∀ i, i < n → ∀ j, j < n + 1 → Bq s (t i j)) :
    forS (rngE (consA lenT nilA)) (nameG 5) elimB (sE rows right (tb n (n + 1) t) (some (.int k)) (some gv) none) = .nx (sE rows right (tb n (n + 1) (tP k n t)) (some (.int k)) (some gv) none) := by
  rw [forS_eq (rng1_eq (n := n) (tb_len rfl) (by omega))]
  have z0 : tP k 0 t = t := by
    funext i j
    unfold tP
    rw [if_neg (by omega)]
  have step : ∀ (i : Nat) (d : D) (ρ : En), ((List.range n).map fun i => PyData.int (i : Nat))[i]? = some d → ρ = sE rows right (tb n (n + 1) (tP k (0 + i) t)) (some (.int k)) (some gv) none → ∃ ρ1 ρ2, nameG 5 d ρ = some ρ1 ∧ elimB ρ1 = .nx ρ2 ∧ ρ2 = sE rows right (tb n (n + 1) (tP k (0 + i + 1) t)) (some (.int k)) (some gv) none := by
    intro i d ρ hd hp
    have hi : i < n := by
      rcases Nat.lt_or_ge i n with h | h
      · exact h
      · rw [List.getElem?_eq_none (by simpa using h)] at hd; cases hd
    have hd : d = .int (i : Nat) := by simpa [hi] using hd.symm
    subst hd
    rw [Nat.zero_add] at hp ⊢
    subst hp
    refine ⟨sE rows right (tb n (n + 1) (tP k i t)) (some (.int k)) (some gv) (some (.int (i : Nat))), _, rfl, ?_, rfl⟩
    unfold elimB
    have kl : ∀ tab : D, killS [5] (sE rows right tab (some (.int k)) (some gv) (some (.int (i : Nat)))) = .nx (sE rows right tab (some (.int k)) (some gv) none) := fun _ => rfl
    have t1 : tE (opE neD (varE 5) (varE 3)) (sE rows right (tb n (n + 1) (tP k i t)) (some (.int k)) (some gv) (some (.int (i : Nat)))) = some (!decide (i = k), sE rows right (tb n (n + 1) (tP k i t)) (some (.int k)) (some gv) (some (.int (i : Nat)))) := by
      refine tE_eq (opE_eq (varE_eq rfl) (varE_eq rfl) ?_)
      simp only [neD, eqB_int, Option.map_some, Int.ofNat_inj]
    by_cases hik : i = k
    · have same : tP k (i + 1) t = tP k i t := by
        funext a j
        unfold tP
        by_cases h : a = k
        · rw [if_neg (fun q => q.2 h), if_neg (fun q => q.2 h)]
        · have : (a < i + 1 ∧ a ≠ k) ↔ (a < i ∧ a ≠ k) := by omega
          simp only [this]
      have cond : andT (tE (opE neD (varE 5) (varE 3))) (tE (opE neD (opE ixD (ixoE 2 (varE 5)) (varE 3)) (cE c_NOUGHT))) (sE rows right (tb n (n + 1) (tP k i t)) (some (.int k)) (some gv) (some (.int (i : Nat)))) = some (false, sE rows right (tb n (n + 1) (tP k i t)) (some (.int k)) (some gv) (some (.int (i : Nat)))) := by
        unfold andT
        rw [t1]
        simp [hik]
      refine (seqS_nx (ρ1 := sE rows right (tb n (n + 1) (tP k i t)) (some (.int k)) (some gv) (some (.int (i : Nat)))) (ifS_f cond)).trans ?_
      rw [kl, same]
    · have row : tP k i t i = t i := by
        funext j
        unfold tP
        rw [if_neg (by omega)]
      have rowk : tP k i t k = t k := by
        funext j
        unfold tP
        rw [if_neg (by omega)]
      have en := tb_entry (n := n) (m := n + 1) (t := tP k i t) (ρ := sE rows right (tb n (n + 1) (tP k i t)) (some (.int k)) (some gv) (some (.int (i : Nat)))) (i := i) (j := k) (v := 5) (w := 3) rfl rfl rfl hi (by omega)
      rw [row] at en
      have cond : andT (tE (opE neD (varE 5) (varE 3))) (tE (opE neD (opE ixD (ixoE 2 (varE 5)) (varE 3)) (cE c_NOUGHT))) (sE rows right (tb n (n + 1) (tP k i t)) (some (.int k)) (some gv) (some (.int (i : Nat)))) = some (!decide (t i k = 0), sE rows right (tb n (n + 1) (tP k i t)) (some (.int k)) (some gv) (some (.int (i : Nat)))) := by
        unfold andT
        rw [t1]
        simp only [hik, decide_false, Bool.not_false, Option.bind_some, if_true]
        exact tE_eq (opE_eq en rfl (by simp only [neD, fq_nz, Option.map_some]))
      by_cases hz : t i k = 0
      · have same : tP k (i + 1) t = tP k i t := by
          funext a j
          unfold tP
          by_cases h : a = i
          · rw [if_pos (by omega), if_neg (by omega), h, hz]; grind
          · have : (a < i + 1 ∧ a ≠ k) ↔ (a < i ∧ a ≠ k) := by omega
            simp only [this]
        have cond' := cond
        rw [show (!decide (t i k = 0)) = false by simp [hz]] at cond'
        refine (seqS_nx (ρ1 := sE rows right (tb n (n + 1) (tP k i t)) (some (.int k)) (some gv) (some (.int (i : Nat)))) (ifS_f cond')).trans ?_
        rw [kl, same]
      · have i1 := tb_item (n := n) (m := n + 1) (t := tP k i t) (ρ := sE rows right (tb n (n + 1) (tP k i t)) (some (.int k)) (some gv) (some (.int (i : Nat)))) (i := i) (v := 5) rfl rfl hi
        have i2 := tb_item (n := n) (m := n + 1) (t := tP k i t) (ρ := sE rows right (tb n (n + 1) (tP k i t)) (some (.int k)) (some gv) (some (.int (i : Nat)))) (i := k) (v := 3) rfl rfl hk
        rw [row] at i1
        rw [rowk] at i2
        have lv := clE_eq (consA_eq i1 (consA_eq i2 (consA_eq en (nilA_eq _)))) (led_eq (m := n + 1) (f := t i) (g := t k) (c := t i k) (hb i hi) (hb k hk) (hb i hi k (by omega)) (by omega) (by omega))
        have st : setiS 2 (varE 5) (clE F_led (consA (ixoE 2 (varE 5)) (consA (ixoE 2 (varE 3)) (consA (opE ixD (ixoE 2 (varE 5)) (varE 3)) (nilA))))) (sE rows right (tb n (n + 1) (tP k i t)) (some (.int k)) (some gv) (some (.int (i : Nat)))) = .nx (sE rows right (tb n (n + 1) (tP k (i + 1) t)) (some (.int k)) (some gv) (some (.int (i : Nat)))) := by
          unfold setiS
          rw [lv]
          simp only []
          rw [varE_eq (d := .int (i : Nat)) rfl]
          simp only [getL, sE, List.getElem?_cons_succ, List.getElem?_cons_zero, tb, List.length_map, List.length_range, ixN_nat hi]
          rw [tb_set]
          have e : (fun a j => if a = i then t i j - t i k * t k j else tP k i t a j) = tP k (i + 1) t := by
            funext a j
            unfold tP
            by_cases h : a = i
            · rw [if_pos h, if_pos (by omega), h]
            · rw [if_neg h]
              have : (a < i + 1 ∧ a ≠ k) ↔ (a < i ∧ a ≠ k) := by omega
              simp only [this]
          rw [e]
          rfl
        have cond' := cond
        rw [show (!decide (t i k = 0)) = true by simp [hz]] at cond'
        refine (seqS_nx (ρ1 := sE rows right (tb n (n + 1) (tP k (i + 1) t)) (some (.int k)) (some gv) (some (.int (i : Nat)))) ?_).trans (kl _)
        exact (ifS_t cond').trans ((seqS_nx st).trans rfl)
  obtain ⟨ρ', e, q⟩ := loopS_all (fg := nameG 5) (F := elimB) (fun idx ρ => ρ = sE rows right (tb n (n + 1) (tP k idx t)) (some (.int k)) (some gv) none) (ds := (List.range n).map fun i => .int (i : Nat)) (ρ := sE rows right (tb n (n + 1) t) (some (.int k)) (some gv) none) 0 (by rw [z0]) step
  rw [e, q]
  simp
end
end Lay

namespace Lay
open PySem PySem.Spec PyProof.Rows L2

/-! ## the solving -/
def szz : Nat → Nat
  | 0 => 101
  | k + 1 => 2 * szz k + 1
theorem szz_le {k : Nat} (h : k ≤ 4) : szz k ≤ 1631 := by
  have : k = 0 ∨ k = 1 ∨ k = 2 ∨ k = 3 ∨ k = 4 := by omega
  rcases this with rfl | rfl | rfl | rfl | rfl <;> decide
section
variable {n k : Nat} {t u : Nat → Nat → Rat}
theorem sam_part (hn : n ≤ 4) (hk : k < n) : ∀ idx, idx ≤ n → Sam n u (tP k idx u)
  | 0, _ => by
    have : tP k 0 u = u := by
      funext i j
      unfold tP
      rw [if_neg (by omega)]
    rw [this]
    exact Sam.refl
  | idx + 1, h => by
    have ih := sam_part hn hk idx (by omega)
    by_cases e : idx = k
    · have same : tP k (idx + 1) u = tP k idx u := by
        funext a j
        unfold tP
        by_cases h : a = k
        · rw [if_neg (fun q => q.2 h), if_neg (fun q => q.2 h)]
        · have : (a < idx + 1 ∧ a ≠ k) ↔ (a < idx ∧ a ≠ k) := by omega
          simp only [this]
      rw [same]
      exact ih
    · have step : tP k (idx + 1) u = tSub idx k (u idx k) (tP k idx u) := by
        funext a j
        unfold tSub tP
        by_cases h : a = idx
        · subst h
          rw [if_pos (by omega), if_pos rfl, if_neg (by omega), if_neg (by omega)]
        · rw [if_neg h]
          have : (a < idx + 1 ∧ a ≠ k) ↔ (a < idx ∧ a ≠ k) := by omega
          simp only [this]
      rw [step]
      exact ih.trans (sam_sub _ _ hn (by omega) hk e)
theorem uni_round {g : Nat} (hk : k < n) (hg : g < n) (kg : k ≤ g) (U : Uni n k t) (nz : t g k ≠ 0) : Uni n (k + 1) (tP k n (tScale k (tSwap k g t k k) (tSwap k g t))) := by
  have U1 : Uni n k (tSwap k g t) := fun i j hi hj => by
    unfold tSwap
    by_cases e : i = k
    · rw [if_pos e, U g j hg hj, if_neg (by omega), if_neg (by omega)]
    · by_cases e2 : i = g
      · rw [if_neg e, if_pos e2, U k j hk hj, if_neg (by omega), if_neg (by omega)]
      · rw [if_neg e, if_neg e2, U i j hi hj]
  have pk : tSwap k g t k k = t g k := by unfold tSwap; rw [if_pos rfl]
  have U2 : Uni n k (tScale k (tSwap k g t k k) (tSwap k g t)) := fun i j hi hj => by
    unfold tScale
    split
    · rw [U1 i j hi hj, if_neg (by omega), Rat.div_def, Rat.zero_mul]
    · exact U1 i j hi hj
  have k1 : tScale k (tSwap k g t k k) (tSwap k g t) k k = 1 := by
    unfold tScale
    rw [if_pos rfl, pk]
    grind
  intro i j hi hj
  unfold tP
  by_cases e : i = k
  · rw [if_neg (fun q => q.2 e)]
    by_cases ej : j = k
    · rw [e, ej, k1, if_pos rfl]
    · exact U2 i j hi (by omega)
  · rw [if_pos ⟨hi, e⟩]
    by_cases ej : j = k
    · rw [ej, k1, if_neg e]; grind
    · rw [U2 i j hi (by omega), U2 k j hk (by omega), if_neg (show ¬ k = j by omega)]; grind
theorem br_round {g s : Nat} (hk : k < n) (hg : g < n) (nz : t g k ≠ 0) (B : ∀ i, i < n → Br s (n + 1) (t i)) : (∀ i, i < n → Br s (n + 1) (tSwap k g t i)) ∧ (∀ i, i < n → Br s (n + 1) (tScale k (tSwap k g t k k) (tSwap k g t) i)) ∧ ∀ i, i < n → Br (2 * s + 1) (n + 1) (tP k n (tScale k (tSwap k g t k k) (tSwap k g t)) i) := by
  have pk : tSwap k g t k k = t g k := by unfold tSwap; rw [if_pos rfl]
  have B1 : ∀ i, i < n → Br s (n + 1) (tSwap k g t i) := fun i hi => by
    unfold tSwap
    by_cases e : i = k
    · simp only [e, if_true]; exact B g hg
    · by_cases e2 : i = g
      · have : ¬ g = k := fun z => e (e2.trans z)
        simp only [e2, this, if_false, if_true]; exact B k hk
      · simp only [e, e2, if_false]; exact B i hi
  have B2 : ∀ i, i < n → Br s (n + 1) (tScale k (tSwap k g t k k) (tSwap k g t) i) := fun i hi => by
    by_cases e : i = k
    · subst e
      have := (B1 i hi).scale (k := i) (by omega) (by rw [pk]; exact nz)
      have q : tScale i (tSwap i g t i i) (tSwap i g t) i = fun j => tSwap i g t i j / tSwap i g t i i := by
        funext j
        unfold tScale
        rw [if_pos rfl]
      rw [q]
      exact this
    · have q : tScale k (tSwap k g t k k) (tSwap k g t) i = tSwap k g t i := by
        funext j
        unfold tScale
        rw [if_neg e]
      rw [q]
      exact B1 i hi
  refine ⟨B1, B2, fun i hi => ?_⟩
  by_cases e : i = k
  · have q : tP k n (tScale k (tSwap k g t k k) (tSwap k g t)) i = tScale k (tSwap k g t k k) (tSwap k g t) i := by
      funext j
      unfold tP
      rw [if_neg (fun q => q.2 e)]
    rw [q]
    exact (B2 i hi).mono (by omega)
  · have q : tP k n (tScale k (tSwap k g t k k) (tSwap k g t)) i = fun j => tScale k (tSwap k g t k k) (tSwap k g t) i j - tScale k (tSwap k g t k k) (tSwap k g t) i k * tScale k (tSwap k g t k k) (tSwap k g t) k j := by
      funext j
      unfold tP
      rw [if_pos ⟨hi, e⟩]
    rw [q]
    exact (B2 i hi).sub (B2 k hk) (by omega)
end
noncomputable abbrev roundB : XS := seqS (setS 4 (compE (rngE (consA (varE 3) (consA (borE (clE (g1 lenD) (consA (varE 2) nilA))) (nilA)))) [5] (nameG 5) (tE (opE neD (opE ixD (ixoE 2 (varE 5)) (varE 3)) (cE c_NOUGHT))) (varE 5)))
    (seqS (ifS (tE (opE eqD (varE 4) (lstE (nilA))))
    (seqS (retS (cE .none)) (nopS))
    (nopS))
    (seqS (swapS 2 (tupE (consA (ixoE 2 (opE ixD (varE 4) (cE (.int 0)))) (consA (ixoE 2 (varE 3)) (nilA)))) (varE 3) (opE ixD (varE 4) (cE (.int 0))))
    (seqS (setiS 2 (varE 3) (compE (itE (ixoE 2 (varE 3))) [8] (nameG 8) (yesT) (clE F_over (consA (varE 8) (consA (opE ixD (ixoE 2 (varE 3)) (varE 3)) (nilA))))))
    (seqS (forS (rngE (consA (borE (clE (g1 lenD) (consA (varE 2) nilA))) (nilA))) (nameG 5) elimB)
    (killS [3, 4, 5])))))
section
variable {n : Nat} {t0 : Nat → Nat → Rat} {rows right : D}
/-- what stands ahead of round k -/
def InvR (n : Nat) (t0 : Nat → Nat → Rat) (rows right : D) (k : Nat) (ρ : En) : Prop := ∃ t, ρ = sE rows right (tb n (n + 1) t) none none none ∧ Sam n t0 t ∧ Uni n k t ∧ ∀ i, i < n → Br (szz k) (n + 1) (t i)
theorem round_eq {k : Nat} {ρ : En} (hn : n ≤ 4) (hk : k < n) (I : InvR n t0 rows right k ρ) : ∃ ρ1, nameG 3 (.int (k : Nat)) ρ = some ρ1 ∧ ((∃ ρ2, roundB ρ1 = .nx ρ2 ∧ InvR n t0 rows right (k + 1) ρ2) ∨ ∃ e ρ2, roundB ρ1 = .rt e ρ2 ∧ (e = .none ∧ dt n t0 = 0)) := by
  obtain ⟨t, rfl, S, U, B⟩ := I
  refine ⟨sE rows right (tb n (n + 1) t) (some (.int k)) none none, rfl, ?_⟩
  unfold roundB
  have g1 := setS_eq (i := 4) (good_eq (rows := rows) (right := right) (t := t) hk hn)
  have g1 : setS 4 (compE (rngE (consA (varE 3) (consA (borE (clE (Lay.g1 lenD) (consA (varE 2) nilA))) (nilA)))) [5] (nameG 5) (tE (opE neD (opE ixD (ixoE 2 (varE 5)) (varE 3)) (cE c_NOUGHT))) (varE 5)) (sE rows right (tb n (n + 1) t) (some (.int k)) none none) = .nx (sE rows right (tb n (n + 1) t) (some (.int k)) (some (.list ((goods n k t).map fun m => .int (k + (m : Nat))))) none) := g1
  rw [seqS_nx g1]
  have t1 : tE (opE eqD (varE 4) (lstE (nilA))) (sE rows right (tb n (n + 1) t) (some (.int k)) (some (.list ((goods n k t).map fun m => .int (k + (m : Nat))))) none) = some ((goods n k t).isEmpty, sE rows right (tb n (n + 1) t) (some (.int k)) (some (.list ((goods n k t).map fun m => .int (k + (m : Nat))))) none) := by
    refine tE_eq (opE_eq (varE_eq rfl) (show lstE nilA _ = some (.list [], _) from rfl) ?_)
    have := ints_nil (goods n k t) fun m => (k : Int) + (m : Nat)
    simp only [eqD, this, Option.map_some]
  cases hgs : goods n k t with
  | nil =>
    rw [hgs] at t1
    refine .inr ⟨.none, _, (seqS_rt (ρ1 := sE rows right (tb n (n + 1) t) (some (.int k)) (some (.list (([] : List Nat).map fun m => .int (k + (m : Nat))))) none) (d := .none) ?_), rfl, uni_none hn hk S U fun i h1 h2 => ?_⟩
    · exact (ifS_t t1).trans rfl
    · unfold goods at hgs
      have := List.filter_eq_nil_iff.mp hgs (i - k) (by simp; omega)
      rw [show k + (i - k) = i by omega] at this
      simpa using this
  | cons g0 gs =>
    rw [hgs] at t1
    have hmem : g0 ∈ goods n k t := by rw [hgs]; exact List.mem_cons_self
    unfold goods at hmem
    obtain ⟨m1, m2⟩ := List.mem_filter.mp hmem
    have m1 : g0 < n - k := by simpa using m1
    have nz : t (k + g0) k ≠ 0 := by simpa using m2
    have hx : ixD (.list ((g0 :: gs).map fun m => .int (k + (m : Nat)))) (.int 0) = some (.int ((k + g0 : Nat) : Int)) := by
      show L2.atI ((g0 :: gs).map fun m => PyData.int (k + (m : Nat))) ((0 : Nat) : Int) = _
      rw [atI_nat (by simp)]
      rfl
    obtain ⟨B1, B2, B3⟩ := br_round (k := k) (g := k + g0) hk (by omega) nz B
    have sz := szz_le (k := k) (by omega)
    have pk : tSwap k (k + g0) t k k = t (k + g0) k := by unfold tSwap; rw [if_pos rfl]
    have e2 : ifS (tE (opE eqD (varE 4) (lstE (nilA)))) (seqS (retS (cE .none)) (nopS)) (nopS) (sE rows right (tb n (n + 1) t) (some (.int k)) (some (.list ((g0 :: gs).map fun m => .int (k + (m : Nat))))) none) = .nx (sE rows right (tb n (n + 1) t) (some (.int k)) (some (.list ((g0 :: gs).map fun m => .int (k + (m : Nat))))) none) := ifS_f t1
    have e3 := swap_eq (rows := rows) (right := right) (t := t) hx hk (show k + g0 < n by omega)
    have e4 := scale_eq (rows := rows) (right := right) (t := tSwap k (k + g0) t) (gv := .list ((g0 :: gs).map fun m => .int (k + (m : Nat)))) (s := szz k) hk (by omega) (fun j hj => (B1 k hk).at hj) (by rw [pk]; exact nz)
    have e5 := elim_eq (rows := rows) (right := right) (t := tScale k (tSwap k (k + g0) t k k) (tSwap k (k + g0) t)) (gv := .list ((g0 :: gs).map fun m => .int (k + (m : Nat)))) (s := szz k) hk hn (by omega) (fun i hi j hj => (B2 i hi).at hj)
    refine .inl ⟨_, ?_, tP k n (tScale k (tSwap k (k + g0) t k k) (tSwap k (k + g0) t)), rfl, ?_, uni_round hk (by omega) (by omega) U nz, B3⟩
    · rw [seqS_nx e2, seqS_nx e3, seqS_nx e4, seqS_nx e5]
      rfl
    · exact S.trans ((sam_swap t hn hk (by omega)).trans ((sam_scale _ hk (by rw [pk]; exact nz)).trans (sam_part hn hk n (Nat.le_refl n))))
theorem last_ix {m : Nat} {f : Nat → Rat} : ixD (ro (m + 1) f) (.int (-1)) = some (fq (f m)) := by
  show L2.atI ((List.range (m + 1)).map fun j => fq (f j)) (-1) = _
  unfold L2.atI L2.ixN
  rw [if_neg (by omega), if_pos (by simp; omega)]
  have : ((-1 : Int) + ((List.range (m + 1)).map fun j => fq (f j)).length).toNat = m := by simp; omega
  rw [Option.bind_some, this]
  simp
/-- a row as it is handed in -/
def rt (m : Nat) (f : Nat → Rat) : D := .tuple ((List.range m).map fun j => fq (f j))
theorem solved_eq (hn : n ≤ 4) (B : ∀ i, i < n → Br 101 (n + 1) (t0 i)) (hz : zipE (consA (varE 0) (consA (varE 1) (nilA))) [some rows, some right, none, none, none, none, none, none, none] = some ((List.range n).map fun i => .tuple [rt n (t0 i), fq (t0 i n)], [some rows, some right, none, none, none, none, none, none, none])) :
    (dt n t0 = 0 ∧ F_solved [rows, right] = some .none) ∨ (dt n t0 ≠ 0 ∧ ∃ x : Nat → Rat, F_solved [rows, right] = some (rt n x) ∧ (∀ i, i < n → Bq 1631 (x i)) ∧ ∀ i, i < n → sm n (fun j => t0 i j * x j) = t0 i n) := by
  have c1 : compE (zipE (consA (varE 0) (consA (varE 1) (nilA)))) [6, 7] (tupG (consG (nameG 6) (consG (nameG 7) (nilG)))) (yesT) (opE addD (clE (g1 listD) (consA (varE 6) nilA)) (lstE (consA (varE 7) (nilA)))) [some rows, some right, none, none, none, none, none, none, none] = some (tb n (n + 1) t0, [some rows, some right, none, none, none, none, none, none, none]) := by
    refine compE_onA (ds := List.range n) (fun i => .tuple [rt n (t0 i), fq (t0 i n)]) (fun i => ro (n + 1) (t0 i)) hz rfl fun i hi => ?_
    refine ⟨[some rows, some right, none, none, none, none, some (rt n (t0 i)), some (fq (t0 i n)), none], rfl, rfl, ?_⟩
    refine opE_eq (a := .list ((List.range n).map fun j => fq (t0 i j))) (b := .list [fq (t0 i n)]) (clE_eq (consA_eq (varE_eq rfl) (nilA_eq _)) rfl) rfl ?_
    simp only [addD]
    rw [if_pos (by simp only [List.length_map, List.length_range, List.length_singleton, sizeLine]; omega)]
    unfold ro
    rw [List.range_succ, List.map_append]
    rfl
  have s1 : ownS 2 (compE (zipE (consA (varE 0) (consA (varE 1) (nilA)))) [6, 7] (tupG (consG (nameG 6) (consG (nameG 7) (nilG)))) (yesT) (opE addD (clE (g1 listD) (consA (varE 6) nilA)) (lstE (consA (varE 7) (nilA))))) [some rows, some right, none, none, none, none, none, none, none] = .nx (sE rows right (tb n (n + 1) t0) none none none) := ownS_eq (by simp) c1
  have step : ∀ (i : Nat) (d : D) (ρ : En), ((List.range n).map fun i => PyData.int (i : Nat))[i]? = some d → InvR n t0 rows right (0 + i) ρ → ∃ ρ1, nameG 3 d ρ = some ρ1 ∧ ((∃ ρ2, roundB ρ1 = .nx ρ2 ∧ InvR n t0 rows right (0 + i + 1) ρ2) ∨ ∃ e ρ2, roundB ρ1 = .rt e ρ2 ∧ (e = .none ∧ dt n t0 = 0)) := by
    intro i d ρ hd hp
    have hi : i < n := by
      rcases Nat.lt_or_ge i n with h | h
      · exact h
      · rw [List.getElem?_eq_none (by simpa using h)] at hd; cases hd
    have hd : d = .int (i : Nat) := by simpa [hi] using hd.symm
    subst hd
    rw [Nat.zero_add] at hp ⊢
    exact round_eq hn hi hp
  have i0 : InvR n t0 rows right 0 (sE rows right (tb n (n + 1) t0) none none none) := ⟨t0, rfl, Sam.refl, fun _ _ _ h => absurd h (Nat.not_lt_zero _), B⟩
  have fs := forS_eq (fg := nameG 3) (F := roundB) (rng1_eq (n := n) (f := lenT) (ρ := sE rows right (tb n (n + 1) t0) none none none) (tb_len rfl) (by omega))
  have whole : S_solved [some rows, some right, none, none, none, none, none, none, none] = (match forS (rngE (consA lenT nilA)) (nameG 3) roundB (sE rows right (tb n (n + 1) t0) none none none) with
      | .nx ρ' => seqS (retS (clE (g1 tupleD) (consA (compE (itE (varE 2)) [6] (nameG 6) (yesT) (opE ixD (varE 6) (unE negD (cE (.int 1))))) nilA))) (nopS) ρ'
      | o => o) := by
    unfold S_solved
    rw [seqS_nx s1]
    rfl
  have run : F_solved [rows, right] = (match S_solved [some rows, some right, none, none, none, none, none, none, none] with
      | .rt d _ => some d
      | .nx _ => some .none
      | _ => none) := rfl
  rcases loopS_or (fg := nameG 3) (F := roundB) (InvR n t0 rows right) (fun e _ => e = .none ∧ dt n t0 = 0) (ds := (List.range n).map fun i => .int (i : Nat)) 0 i0 step with ⟨ρ', e, q⟩ | ⟨x, ρ', e, q, z⟩
  · rw [List.length_map, List.length_range, Nat.zero_add] at q
    obtain ⟨t, rfl, S, U, B'⟩ := q
    obtain ⟨d1, d2⟩ := uni_end hn S U
    refine .inr ⟨d1, fun i => t i n, ?_, fun i hi => ((B' i hi).at (j := n) (by omega)).mono (szz_le hn), d2⟩
    have c2 : compE (itE (varE 2)) [6] (nameG 6) (yesT) (opE ixD (varE 6) (unE negD (cE (.int 1)))) (sE rows right (tb n (n + 1) t) none none none) = some (.list ((List.range n).map fun i => fq (t i n)), sE rows right (tb n (n + 1) t) none none none) := by
      refine compE_onA (ds := List.range n) (fun i => ro (n + 1) (t i)) (fun i => fq (t i n)) (ls := (List.range n).map fun i => ro (n + 1) (t i)) rfl rfl fun i hi => ?_
      exact ⟨[some rows, some right, some (tb n (n + 1) t), none, none, none, some (ro (n + 1) (t i)), none, none], rfl, rfl, opE_eq (varE_eq rfl) rfl last_ix⟩
    rw [run, whole, fs, e]
    simp only []
    rw [seqS_rt (retS_eq (clE_eq (consA_eq c2 (nilA_eq _)) rfl))]
    rfl
  · subst q
    refine .inl ⟨z, ?_⟩
    rw [run, whole, fs, e]
end
end Lay

namespace Lay
open PySem PySem.Spec PyProof.Rows L2

/-! ## the bag -/
theorem int_eq {f : XE} {ρ ρ1 : En} {x : Int} (h : f ρ = some (.int x, ρ1)) : clE (g1 intD) (consA f nilA) ρ = some (.int x, ρ1) := clE_eq (as := [.int x]) (consA_eq h (nilA_eq _)) rfl
def bg (a s i : Int) (cs : List D) : D := .list [.int a, .int s, .int i, .list cs]
def Cel (cs : List D) : Prop := cs.length ≤ 100 ∧ ∀ d ∈ cs, ∃ c : Int, d = .int c ∧ 0 ≤ c
def Bag (m : Nat) (b : D) : Prop := ∃ (a s i : Int) (cs : List D), b = bg a s i cs ∧ 0 ≤ a ∧ 0 ≤ s ∧ s < 2147483647 ∧ 0 ≤ i ∧ i ≤ m ∧ Cel cs
theorem Bag.mono {m n : Nat} {b : D} (h : Bag m b) (l : m ≤ n) : Bag n b := by
  obtain ⟨a, s, i, cs, e, h1, h2, h3, h4, h5, h6⟩ := h
  exact ⟨a, s, i, cs, e, h1, h2, h3, h4, by omega, h6⟩
theorem cell_eq {cs : List D} (h : Cel cs) (i : Int) : ∃ c : Int, 0 ≤ c ∧ L2.atI (cutL cs (some i) none ++ [.int 0]) 0 = some (.int c) ∧ (cutL cs (some i) none).length + 1 ≤ sizeLine := by
  have mem : ∀ d ∈ cutL cs (some i) none ++ [.int 0], ∃ c : Int, d = .int c ∧ 0 ≤ c := fun d hd => by
    rcases List.mem_append.mp hd with hd | hd
    · exact h.2 d (List.mem_of_mem_drop (List.mem_of_mem_take hd))
    · exact ⟨0, List.mem_singleton.mp hd, by omega⟩
  have hl : 0 < (cutL cs (some i) none ++ [PyData.int 0]).length := by simp
  obtain ⟨c, e, hc⟩ := mem _ (List.getElem_mem hl)
  refine ⟨c, hc, ?_, ?_⟩
  · have := atI_nat hl
    rw [show ((0 : Nat) : Int) = 0 from rfl] at this
    rw [this, List.getElem?_eq_getElem hl, e]
  · have := cutL_len cs (some i) none
    have := h.1
    simp only [sizeLine]
    omega
section
variable {a s i many : Int} {cs : List D} {m : Nat}
abbrev tE7 (b : D) (many : Int) (x y z u v : Option D) : En := [some b, some (.int many), x, y, z, u, v]
theorem bgi0 {b : D} {x y z u v : Option D} {d : D} {n : Int} {many : Int} {ds : List D} (hb : b = .list ds) (h : L2.atI ds n = some d) : ixoE 0 (cE (.int n)) (tE7 b many x y z u v) = some (d, tE7 b many x y z u v) := by
  subst hb
  simp [ixoE, cE, getL, h]
theorem mod_lt (x : Int) {n : Int} (h : 0 < n) : 0 ≤ x.fmod n ∧ x.fmod n < n := by
  rw [Int.fmod_eq_emod_of_nonneg _ (by omega)]
  exact ⟨Int.emod_nonneg _ (by omega), Int.emod_lt_of_pos _ h⟩
theorem mul_ok {x y : Int} (hx : x.natAbs < 2 ^ 400000) (hy : y.natAbs < 2 ^ 400000) : decide (x.natAbs.log2 + y.natAbs.log2 < 1000000) = true := by
  have := log2_of hx
  have := log2_of hy
  exact decide_eq_true (by omega)
theorem small_pow {x : Nat} (h : x < 2 ^ 64) : x < 2 ^ 400000 := Nat.lt_of_lt_of_le h (Nat.pow_le_pow_right (by omega) (by omega))
noncomputable abbrev fillS : XS := seqS (setS 2 (opE ixD (opE addD (slE (ixoE 0 (cE (.int 3))) (someO (ixoE 0 (cE (.int 2)))) (noO)) (lstE (consA (cE (.int 0)) (nilA)))) (cE (.int 0))))
    (seqS (augiS iaddD 0 2 (cE (.int 1)))
    (seqS (ifS (tE (opE geI (varE 2) (opE powD (cE (.int 10)) (cE (.int 18)))))
    (seqS (setiS 0 (cE (.int 0)) (varE 2))
    (nopS))
    (nopS))
    (seqS (setS 3 (opE addD (opE addD (opE mulD (ixoE 0 (cE (.int 1))) (cE (.int 48271))) (opE modD (clE (g1 intD) (consA (varE 2) nilA)) (cE (.int 2147483647)))) (opE mulD (cE (.int 7919)) (ixoE 0 (cE (.int 2))))))
    (seqS (setiS 0 (cE (.int 1)) (opE modD (clE (g1 intD) (consA (varE 3) nilA)) (cE (.int 2147483647))))
    (killS [2, 3])))))
theorem fill_eq (ha : 0 ≤ a) (h2 : 0 ≤ s) (h3 : s < 2147483647) (h4 : 0 ≤ i) (h5 : i < 1000000) (hc : Cel cs) : ∃ a' s' : Int, 0 ≤ a' ∧ 0 ≤ s' ∧ s' < 2147483647 ∧ fillS (tE7 (bg a s i cs) many none none none none none) = .nx (tE7 (bg a' s' (i + 1) cs) many none none none none none) := by
  obtain ⟨c, c0, c1, c2⟩ := cell_eq hc i
  have e1 : setS 2 (opE ixD (opE addD (slE (ixoE 0 (cE (.int 3))) (someO (ixoE 0 (cE (.int 2)))) (noO)) (lstE (consA (cE (.int 0)) (nilA)))) (cE (.int 0))) (tE7 (bg a s i cs) many none none none none none) = .nx (tE7 (bg a s i cs) many (some (.int c)) none none none none) := by
    refine setS_eq (d := .int c) (ρ1 := tE7 (bg a s i cs) many none none none none none) (opE_eq (a := .list (cutL cs (some i) none ++ [PyData.int 0])) (b := .int 0) (opE_eq (a := .list (cutL cs (some i) none)) (b := .list [PyData.int 0]) ?_ rfl ?_) rfl (show ixD (.list (cutL cs (some i) none ++ [PyData.int 0])) (.int 0) = some (.int c) from c1))
    · have i3 := bgi0 (b := bg a s i cs) (x := none) (y := none) (z := none) (u := none) (v := none) (many := many) (n := 3) (d := .list cs) rfl rfl
      have i2 := bgi0 (b := bg a s i cs) (x := none) (y := none) (z := none) (u := none) (v := none) (many := many) (n := 2) (d := .int i) rfl rfl
      simp only [slE, i3, someO, i2, Option.bind_some, noO, slD, Option.map_some]
    · simp only [addD]
      rw [if_pos (by simpa using c2)]
  have e2 : augiS iaddD 0 2 (cE (.int 1)) (tE7 (bg a s i cs) many (some (.int c)) none none none none) = .nx (tE7 (bg a s (i + 1) cs) many (some (.int c)) none none none none) := rfl
  obtain ⟨a', a0, e3⟩ : ∃ a' : Int, 0 ≤ a' ∧ ifS (tE (opE geI (varE 2) (opE powD (cE (.int 10)) (cE (.int 18))))) (seqS (setiS 0 (cE (.int 0)) (varE 2)) (nopS)) (nopS) (tE7 (bg a s (i + 1) cs) many (some (.int c)) none none none none) = .nx (tE7 (bg a' s (i + 1) cs) many (some (.int c)) none none none none) := by
    have t : tE (opE geI (varE 2) (opE powD (cE (.int 10)) (cE (.int 18)))) (tE7 (bg a s (i + 1) cs) many (some (.int c)) none none none none) = some (decide ((1000000000000000000 : Int) ≤ c), tE7 (bg a s (i + 1) cs) many (some (.int c)) none none none none) := by
      refine tE_eq (opE_eq (a := .int c) (b := .int 1000000000000000000) rfl (opE_eq (a := .int 10) (b := .int 18) rfl rfl ?_) rfl)
      rfl
    by_cases q : (1000000000000000000 : Int) ≤ c
    · rw [decide_eq_true q] at t
      exact ⟨c, c0, (ifS_t t).trans rfl⟩
    · rw [decide_eq_false q] at t
      exact ⟨a, ha, (ifS_f t).trans rfl⟩
  obtain ⟨x0, x1⟩ := mod_lt c (n := 2147483647) (by omega)
  have b1 := bgi0 (b := bg a' s (i + 1) cs) (x := some (.int c)) (y := none) (z := none) (u := none) (v := none) (many := many) (n := 1) (d := .int s) rfl rfl
  have b2 := bgi0 (b := bg a' s (i + 1) cs) (x := some (.int c)) (y := none) (z := none) (u := none) (v := none) (many := many) (n := 2) (d := .int (i + 1)) rfl rfl
  have e4 : setS 3 (opE addD (opE addD (opE mulD (ixoE 0 (cE (.int 1))) (cE (.int 48271))) (opE modD (clE (g1 intD) (consA (varE 2) nilA)) (cE (.int 2147483647)))) (opE mulD (cE (.int 7919)) (ixoE 0 (cE (.int 2))))) (tE7 (bg a' s (i + 1) cs) many (some (.int c)) none none none none) = .nx (tE7 (bg a' s (i + 1) cs) many (some (.int c)) (some (.int (s * 48271 + c.fmod 2147483647 + 7919 * (i + 1)))) none none none) := by
    refine setS_eq (d := .int _) (ρ1 := tE7 (bg a' s (i + 1) cs) many (some (.int c)) none none none none) (opE_eq (a := .int (s * 48271 + c.fmod 2147483647)) (b := .int (7919 * (i + 1))) (opE_eq (a := .int (s * 48271)) (b := .int (c.fmod 2147483647)) (opE_eq b1 rfl ?_) (opE_eq (a := .int c) rfl rfl ?_) rfl) (opE_eq (a := .int 7919) rfl b2 ?_) rfl)
    · simp only [mulD, iiD]
      rw [if_pos (mul_ok (small_pow (by omega)) (small_pow (by decide)))]
    · simp [modD, iiD]
    · simp only [mulD, iiD]
      rw [if_pos (mul_ok (small_pow (by decide)) (small_pow (by omega)))]
  obtain ⟨y0, y1⟩ := mod_lt (s * 48271 + c.fmod 2147483647 + 7919 * (i + 1)) (n := 2147483647) (by omega)
  generalize hw : (s * 48271 + c.fmod 2147483647 + 7919 * (i + 1)) = w at *
  have e5 : setiS 0 (cE (.int 1)) (opE modD (clE (g1 intD) (consA (varE 3) nilA)) (cE (.int 2147483647))) (tE7 (bg a' s (i + 1) cs) many (some (.int c)) (some (.int w)) none none none) = .nx (tE7 (bg a' (w.fmod 2147483647) (i + 1) cs) many (some (.int c)) (some (.int w)) none none none) := by
    have v : opE modD (clE (g1 intD) (consA (varE 3) nilA)) (cE (.int 2147483647)) (tE7 (bg a' s (i + 1) cs) many (some (.int c)) (some (.int w)) none none none) = some (.int (w.fmod 2147483647), tE7 (bg a' s (i + 1) cs) many (some (.int c)) (some (.int w)) none none none) := opE_eq (a := .int w) rfl rfl (by simp [modD, iiD])
    unfold setiS
    rw [v]
    rfl
  refine ⟨a', w.fmod 2147483647, a0, y0, y1, ?_⟩
  unfold fillS
  rw [seqS_nx e1, seqS_nx e2, seqS_nx e3, seqS_nx e4, seqS_nx e5]
  rfl
theorem take_ok {b : D} (hb : Bag m b) (hm : m < 1000000) (h0 : 0 < many) (h1 : many < 2 ^ 64) : ∃ (v : Int) (b' : D), F__law_take b [.int many] = some (.int v, b') ∧ 0 ≤ v ∧ v < many ∧ Bag (m + 1) b' := by
  obtain ⟨a, s, i, cs, rfl, k1, k2, k3, k4, k5, k6⟩ := hb
  have ml : many.natAbs.log2 < 9000 := by
    have : many.natAbs.log2 ≤ 64 := log2_of (by omega)
    omega
  obtain ⟨a', s', i', p1, p2, p3, p4, p5, f⟩ : ∃ a' s' i' : Int, 0 ≤ a' ∧ 0 ≤ s' ∧ s' < 2147483647 ∧ 0 ≤ i' ∧ i' ≤ i + 1 ∧ ifS (tE (opE eqD (ixoE 0 (cE (.int 0))) (cE (.int 0)))) fillS nopS (tE7 (bg a s i cs) many none none none none none) = .nx (tE7 (bg a' s' i' cs) many none none none none none) := by
    have t : tE (opE eqD (ixoE 0 (cE (.int 0))) (cE (.int 0))) (tE7 (bg a s i cs) many none none none none none) = some (decide (a = 0), tE7 (bg a s i cs) many none none none none none) :=
      tE_eq (opE_eq (bgi0 (d := .int a) rfl rfl) rfl (by simp only [eqD, eqB_int, Option.map_some]))
    by_cases q : a = 0
    · rw [decide_eq_true q] at t
      obtain ⟨a', s', p1, p2, p3, e⟩ := fill_eq (many := many) k1 k2 k3 k4 (show i < 1000000 by omega) k6
      exact ⟨a', s', i + 1, p1, p2, p3, by omega, by omega, (ifS_t t).trans e⟩
    · rw [decide_eq_false q] at t
      exact ⟨a, s, i, k1, k2, k3, k4, by omega, (ifS_f t).trans rfl⟩
  have bag : ∀ x : Int, 0 ≤ x → Bag (m + 1) (bg x s' i' cs) := fun x hx => ⟨x, s', i', cs, rfl, hx, p2, p3, p4, by omega, k6⟩
  have i0 := bgi0 (b := bg a' s' i' cs) (x := none) (y := none) (z := none) (u := none) (v := none) (many := many) (n := 0) (d := .int a') rfl rfl
  have i1 := bgi0 (b := bg a' s' i' cs) (x := none) (y := none) (z := none) (u := none) (v := none) (many := many) (n := 1) (d := .int s') rfl rfl
  have t : tE (opE gtI (ixoE 0 (cE (.int 0))) (cE (.int 0))) (tE7 (bg a' s' i' cs) many none none none none none) = some (decide (0 < a'), tE7 (bg a' s' i' cs) many none none none none none) := tE_eq (opE_eq i0 rfl rfl)
  have run : F__law_take (bg a s i cs) [.int many] = (match S__law_take (tE7 (bg a s i cs) many none none none none none) with
      | .rt d ρ => b0 d ρ
      | .nx ρ => b0 .none ρ
      | _ => none) := rfl
  have nz : many ≠ 0 := by omega
  rw [run]
  unfold S__law_take
  rw [seqS_nx f]
  by_cases q : 0 < a'
  · rw [decide_eq_true q] at t
    obtain ⟨x0, x1⟩ := mod_lt a' h0
    have v1 : setS 4 (opE modD (clE (g1 intD) (consA (ixoE 0 (cE (.int 0))) nilA)) (varE 1)) (tE7 (bg a' s' i' cs) many none none none none none) = .nx (tE7 (bg a' s' i' cs) many none none (some (.int (a'.fmod many))) none none) := by
      refine setS_eq (d := .int (a'.fmod many)) (ρ1 := tE7 (bg a' s' i' cs) many none none none none none) (opE_eq (a := .int a') (b := .int many) (clE_eq (consA_eq i0 (nilA_eq _)) rfl) rfl (by simp [modD, iiD, nz]))
    have j0 := bgi0 (b := bg a' s' i' cs) (x := none) (y := none) (z := some (.int (a'.fmod many))) (u := none) (v := none) (many := many) (n := 0) (d := .int a') rfl rfl
    have v2 : setiS 0 (cE (.int 0)) (opE fdivD (clE (g1 intD) (consA (ixoE 0 (cE (.int 0))) nilA)) (varE 1)) (tE7 (bg a' s' i' cs) many none none (some (.int (a'.fmod many))) none none) = .nx (tE7 (bg (a'.fdiv many) s' i' cs) many none none (some (.int (a'.fmod many))) none none) := by
      have v : opE fdivD (clE (g1 intD) (consA (ixoE 0 (cE (.int 0))) nilA)) (varE 1) (tE7 (bg a' s' i' cs) many none none (some (.int (a'.fmod many))) none none) = some (.int (a'.fdiv many), tE7 (bg a' s' i' cs) many none none (some (.int (a'.fmod many))) none none) :=
        opE_eq (a := .int a') (b := .int many) (clE_eq (consA_eq j0 (nilA_eq _)) rfl) rfl (by simp [fdivD, iiD, nz, ml])
      unfold setiS
      rw [v]
      rfl
    refine ⟨a'.fmod many, bg (a'.fdiv many) s' i' cs, ?_, x0, x1, bag _ (by rw [Int.fdiv_eq_ediv_of_nonneg _ (by omega)]; exact Int.ediv_nonneg p1 (by omega))⟩
    rw [seqS_rt ((ifS_t t).trans ((seqS_nx v1).trans ((seqS_nx v2).trans (seqS_rt (retS_eq (varE_eq (d := .int (a'.fmod many)) rfl))))))]
    rfl
  · rw [decide_eq_false q] at t
    obtain ⟨y0, y1⟩ := mod_lt ((s' + 1) * 39373) (n := 1000000007) (by omega)
    generalize hy : ((s' + 1) * 39373).fmod 1000000007 = y at *
    obtain ⟨z0, z1⟩ := mod_lt (y * y) (n := 998244353) (by omega)
    generalize hz : (y * y).fmod 998244353 = z at *
    obtain ⟨w0, w1⟩ := mod_lt (z * 30011) (n := 998244353) (by omega)
    generalize hw : (z * 30011).fmod 998244353 = w at *
    obtain ⟨u0, u1⟩ := mod_lt (w.fdiv 7) h0
    refine ⟨(w.fdiv 7).fmod many, bg a' s' i' cs, ?_, u0, u1, bag _ p1⟩
    have v1 : setS 5 (opE modD (clE (g1 intD) (consA (opE mulD (opE addD (ixoE 0 (cE (.int 1))) (cE (.int 1))) (cE (.int 39373))) nilA)) (cE (.int 1000000007))) (tE7 (bg a' s' i' cs) many none none none none none) = .nx (tE7 (bg a' s' i' cs) many none none none (some (.int y)) none) := by
      refine setS_eq (d := .int y) (ρ1 := tE7 (bg a' s' i' cs) many none none none none none) (opE_eq (a := .int ((s' + 1) * 39373)) (b := .int 1000000007) (int_eq (opE_eq (a := .int (s' + 1)) (b := .int 39373) (opE_eq i1 rfl rfl) rfl ?_)) rfl (by simp [modD, iiD, hy]))
      simp only [mulD, iiD]
      rw [if_pos (mul_ok (small_pow (by omega)) (small_pow (by decide)))]
    have v2 : setS 6 (opE modD (clE (g1 intD) (consA (opE mulD (opE modD (clE (g1 intD) (consA (opE mulD (varE 5) (varE 5)) nilA)) (cE (.int 998244353))) (cE (.int 30011))) nilA)) (cE (.int 998244353))) (tE7 (bg a' s' i' cs) many none none none (some (.int y)) none) = .nx (tE7 (bg a' s' i' cs) many none none none (some (.int y)) (some (.int w))) := by
      refine setS_eq (d := .int w) (ρ1 := tE7 (bg a' s' i' cs) many none none none (some (.int y)) none) (opE_eq (a := .int (z * 30011)) (b := .int 998244353) (int_eq (opE_eq (a := .int z) (b := .int 30011) (opE_eq (a := .int (y * y)) (b := .int 998244353) (int_eq (opE_eq (a := .int y) (b := .int y) rfl rfl ?_)) rfl (by simp [modD, iiD, hz])) rfl ?_)) rfl (by simp [modD, iiD, hw]))
      · simp only [mulD, iiD]
        rw [if_pos (mul_ok (small_pow (by omega)) (small_pow (by omega)))]
      · simp only [mulD, iiD]
        rw [if_pos (mul_ok (small_pow (by omega)) (small_pow (by decide)))]
    have v3 : retS (opE modD (clE (g1 intD) (consA (opE fdivD (varE 6) (cE (.int 7))) nilA)) (varE 1)) (tE7 (bg a' s' i' cs) many none none none (some (.int y)) (some (.int w))) = .rt (.int ((w.fdiv 7).fmod many)) (tE7 (bg a' s' i' cs) many none none none (some (.int y)) (some (.int w))) := by
      refine retS_eq (opE_eq (a := .int (w.fdiv 7)) (b := .int many) (int_eq (opE_eq (a := .int w) (b := .int 7) rfl rfl ?_)) rfl (by simp [modD, iiD, nz]))
      have l7 : (7 : Int).natAbs.log2 < 9000 := by decide
      simp [fdivD, iiD]
      decide
    have tn : ifS (tE (opE gtI (ixoE 0 (cE (.int 0))) (cE (.int 0)))) (seqS (setS 4 (opE modD (clE (g1 intD) (consA (ixoE 0 (cE (.int 0))) nilA)) (varE 1)))
    (seqS (setiS 0 (cE (.int 0)) (opE fdivD (clE (g1 intD) (consA (ixoE 0 (cE (.int 0))) nilA)) (varE 1)))
    (seqS (retS (varE 4)) (nopS)))) nopS (tE7 (bg a' s' i' cs) many none none none none none) = .nx (tE7 (bg a' s' i' cs) many none none none none none) := (ifS_f t).trans rfl
    rw [seqS_nx tn, seqS_nx v1, seqS_nx v2, seqS_rt v3]
    rfl
end
end Lay

namespace Lay
open PySem PySem.Spec PyProof.Rows L2

theorem callB_eq {F : D → List D → Option (D × D)} {i : Nat} {fr : XA} {ρ ρ1 : En} {as : List D} {b d b' : D} (h : fr ρ = some (as, ρ1)) (hb : ρ1[i]? = some (some b)) (hF : F b as = some (d, b')) : callB F i fr ρ = some (d, ρ1.set i (some b')) := by
  simp [callB, h, hb, hF]
theorem some_ok {m : Nat} {b : D} {ds : List D} (hb : Bag m b) (hm : m < 1000000) (h0 : ds ≠ []) (h1 : ds.length < 1000) : ∃ (d b' : D), F__law_some b [.list ds] = some (d, b') ∧ d ∈ ds ∧ Bag (m + 1) b' := by
  have l0 : 0 < ds.length := List.length_pos_iff.mpr h0
  obtain ⟨v, b', e, v0, v1, q⟩ := take_ok (many := (ds.length : Int)) hb hm (by omega) (by omega)
  obtain ⟨k, rfl⟩ := Int.eq_ofNat_of_zero_le v0
  have kl : k < ds.length := by omega
  refine ⟨ds[k], b', ?_, List.getElem_mem kl, q⟩
  have c := callB_eq (F := F__law_take) (i := 0) (fr := consA (clE (g1 lenD) (consA (varE 1) nilA)) (nilA)) (ρ := [some b, some (.list ds)]) (ρ1 := [some b, some (.list ds)]) (as := [.int (ds.length : Int)]) (consA_eq (clE_eq (as := [.list ds]) rfl rfl) rfl) rfl e
  have r : opE ixD (varE 1) (callB F__law_take 0 (consA (clE (g1 lenD) (consA (varE 1) nilA)) (nilA))) [some b, some (.list ds)] = some (ds[k], [some b', some (.list ds)]) := by
    refine opE_eq (varE_eq rfl) c ?_
    show L2.atI ds (k : Int) = _
    rw [atI_nat kl, List.getElem?_eq_getElem kl]
  have run : F__law_some b [.list ds] = (match S__law_some [some b, some (.list ds)] with
      | .rt d ρ => b0 d ρ
      | .nx ρ => b0 .none ρ
      | _ => none) := rfl
  rw [run]
  unfold S__law_some
  rw [seqS_rt (retS_eq r)]
  rfl
/-- an entry as the law draws it -/
def Ent (x : Rat) : Prop := x.num.natAbs < 2 ^ 40 ∧ x.den ∣ 1407000 ∧ x.den ≤ 1000
theorem ent_mk {p : Int} {d : Nat} (h0 : 0 < d) (h1 : p.natAbs < 2 ^ 40) (h2 : d ∣ 1407000) (h3 : d ≤ 1000) : Ent (Rat.divInt p d) := by
  have dd : (Rat.divInt p d).den ∣ d := by
    rw [Rat.den_divInt, if_neg (by omega)]
    exact Nat.div_dvd_of_dvd (Int.gcd_dvd_natAbs_left (d : Int) p)
  refine ⟨?_, Nat.dvd_trans dd h2, Nat.le_trans (Nat.le_of_dvd h0 dd) h3⟩
  rw [Rat.num_divInt, Int.sign_eq_one_of_pos (by omega), Int.one_mul]
  exact Nat.lt_of_le_of_lt (Int.natAbs_ediv_le_natAbs p _) h1
theorem ent_neg {x : Rat} (h : Ent x) : Ent (-x) := by
  unfold Ent
  rw [Rat.neg_num, Rat.neg_den, Int.natAbs_neg]
  exact h
theorem fq_neg (x : Rat) : fq (-x) = .tuple [.int (-x.num), .int x.den] := by
  unfold fq
  rw [Rat.neg_num, Rat.neg_den]
def w1 : List D := [.tuple [.int 1000, .int 1], .tuple [.int 1, .int 1000], .tuple [.int 999999999999, .int 1], .tuple [.int 1, .int 12], .tuple [.int 12345, .int 67]]
theorem fq_cst {p : Int} {d : Nat} (h0 : d ≠ 0) (hc : Nat.gcd p.natAbs d = 1) (h1 : p.natAbs < 2 ^ 40) (h2 : d ∣ 1407000) (h3 : d ≤ 1000) : ∃ x, .tuple [.int p, .int d] = fq x ∧ Ent x := ⟨⟨p, d, h0, hc⟩, rfl, h1, h2, h3⟩
theorem w1_ent {d : D} (h : d ∈ w1) : ∃ x, d = fq x ∧ Ent x := by
  simp only [w1, List.mem_cons, List.not_mem_nil, or_false] at h
  rcases h with rfl | rfl | rfl | rfl | rfl
  · exact fq_cst (p := 1000) (d := 1) (by decide) (by decide) (by decide) (by decide) (by decide)
  · exact fq_cst (p := 1) (d := 1000) (by decide) (by decide) (by decide) (by decide) (by decide)
  · exact fq_cst (p := 999999999999) (d := 1) (by decide) (by decide) (by decide) (by decide) (by decide)
  · exact fq_cst (p := 1) (d := 12) (by decide) (by decide) (by decide) (by decide) (by decide)
  · exact fq_cst (p := 12345) (d := 67) (by decide) (by decide) (by decide) (by decide) (by decide)
theorem number_ok {m : Nat} {b : D} {most : Int} (hb : Bag m b) (hm : m < 999000) (h0 : 0 < most) (h1 : most < 2 ^ 30) : ∃ (x : Rat) (b' : D), F__law_number b [.int most] = some (fq x, b') ∧ Ent x ∧ Bag (m + 3) b' := by
  have run : F__law_number b [.int most] = (match S__law_number [some b, some (.int most), none] with
      | .rt d ρ => b0 d ρ
      | .nx ρ => b0 .none ρ
      | _ => none) := rfl
  obtain ⟨w, b1, e1, w0, w2, B1⟩ := take_ok (many := 12) hb (by omega) (by omega) (by omega)
  have s1 : setS 2 (callB F__law_take 0 (consA (cE (.int 12)) (nilA))) [some b, some (.int most), none] = .nx [some b1, some (.int most), some (.int w)] := setS_eq (callB_eq (ρ1 := [some b, some (.int most), none]) (as := [.int 12]) rfl rfl e1)
  rw [run]
  unfold S__law_number
  rw [seqS_nx s1]
  have t0 : tE (opE eqD (varE 2) (cE (.int 0))) [some b1, some (.int most), some (.int w)] = some (decide (w = 0), [some b1, some (.int most), some (.int w)]) := tE_eq (opE_eq (varE_eq rfl) rfl (by simp only [eqD, eqB_int, Option.map_some]))
  have t1 : tE (opE eqD (varE 2) (cE (.int 1))) [some b1, some (.int most), some (.int w)] = some (decide (w = 1), [some b1, some (.int most), some (.int w)]) := tE_eq (opE_eq (varE_eq rfl) rfl (by simp only [eqD, eqB_int, Option.map_some]))
  by_cases q0 : w = 0
  · rw [decide_eq_true q0] at t0
    obtain ⟨v, b2, e2, v0, v1, B2⟩ := take_ok (many := 3 * most) B1 (by omega) (by omega) (by omega)
    obtain ⟨d, b3, e3, hd, B3⟩ := some_ok (ds := [.int 2, .int 3, .int 7]) B2 (by omega) (by simp) (by simp)
    obtain ⟨c, hc, c0, c1, c2⟩ : ∃ c : Nat, d = .int (c : Int) ∧ 0 < c ∧ c ∣ 1407000 ∧ c ≤ 1000 := by
      simp only [List.mem_cons, List.not_mem_nil, or_false] at hd
      rcases hd with rfl | rfl | rfl
      · exact ⟨2, rfl, by decide, by decide, by decide⟩
      · exact ⟨3, rfl, by decide, by decide, by decide⟩
      · exact ⟨7, rfl, by decide, by decide, by decide⟩
    subst hc
    refine ⟨Rat.divInt (1 + v) c, b3, ?_, ent_mk c0 (by omega) c1 c2, B3⟩
    have a1 : opE addD (cE (.int 1)) (callB F__law_take 0 (consA (opE mulD (cE (.int 3)) (varE 1)) (nilA))) [some b1, some (.int most), some (.int w)] = some (.int (1 + v), [some b2, some (.int most), some (.int w)]) := by
      refine opE_eq (a := .int 1) (b := .int v) rfl (callB_eq (ρ1 := [some b1, some (.int most), some (.int w)]) (as := [.int (3 * most)]) (consA_eq (opE_eq (a := .int 3) (b := .int most) rfl (varE_eq rfl) ?_) rfl) rfl e2) rfl
      simp only [mulD, iiD]
      rw [if_pos (mul_ok (small_pow (by decide)) (small_pow (by omega)))]
    have a2 : callB F__law_some 0 (consA (lstE (consA (cE (.int 2)) (consA (cE (.int 3)) (consA (cE (.int 7)) (nilA))))) (nilA)) [some b2, some (.int most), some (.int w)] = some (.int (c : Int), [some b3, some (.int most), some (.int w)]) := callB_eq (ρ1 := [some b2, some (.int most), some (.int w)]) (as := [.list [.int 2, .int 3, .int 7]]) rfl rfl e3
    have r := lred_eq (1 + v) c (by omega) (by
      have : (c : Int).natAbs.log2 ≤ 10 := log2_of (by omega)
      omega)
    rw [seqS_rt ((ifS_t t0).trans (seqS_rt (retS_eq (clE_eq (consA_eq a1 (consA_eq a2 (nilA_eq _))) r))))]
    rfl
  · rw [decide_eq_false q0] at t0
    have n0 : ifS (tE (opE eqD (varE 2) (cE (.int 0)))) (seqS (retS (clE F__law_reduced (consA (opE addD (cE (.int 1)) (callB F__law_take 0 (consA (opE mulD (cE (.int 3)) (varE 1)) (nilA)))) (consA (callB F__law_some 0 (consA (lstE (consA (cE (.int 2)) (consA (cE (.int 3)) (consA (cE (.int 7)) (nilA))))) (nilA))) (nilA))))) (nopS)) nopS [some b1, some (.int most), some (.int w)] = .nx [some b1, some (.int most), some (.int w)] := (ifS_f t0).trans rfl
    rw [seqS_nx n0]
    by_cases q1 : w = 1
    · rw [decide_eq_true q1] at t1
      obtain ⟨d, b2, e2, hd, B2⟩ := some_ok (ds := w1) B1 (by omega) (by simp [w1]) (by simp [w1])
      obtain ⟨x, rfl, hx⟩ := w1_ent hd
      refine ⟨x, b2, ?_, hx, B2.mono (by omega)⟩
      rw [seqS_rt ((ifS_t t1).trans (seqS_rt (retS_eq (callB_eq (ρ1 := [some b1, some (.int most), some (.int w)]) (as := [.list w1]) rfl rfl e2))))]
      rfl
    · rw [decide_eq_false q1] at t1
      obtain ⟨v, b2, e2, v0, v1, B2⟩ := take_ok (many := most) B1 (by omega) (by omega) (by omega)
      obtain ⟨x, hx, ex⟩ := fq_cst (p := 1 + v) (d := 1) (by decide) (Nat.gcd_one_right _) (by omega) (by decide) (by decide)
      refine ⟨x, b2, ?_, ex, B2.mono (by omega)⟩
      rw [← hx]
      have n1 : ifS (tE (opE eqD (varE 2) (cE (.int 1)))) (seqS (retS (callB F__law_some 0 (consA (lstE (consA (tupE (consA (cE (.int 1000)) (consA (cE (.int 1)) (nilA)))) (consA (tupE (consA (cE (.int 1)) (consA (cE (.int 1000)) (nilA)))) (consA (tupE (consA (cE (.int 999999999999)) (consA (cE (.int 1)) (nilA)))) (consA (tupE (consA (cE (.int 1)) (consA (cE (.int 12)) (nilA)))) (consA (tupE (consA (cE (.int 12345)) (consA (cE (.int 67)) (nilA)))) (nilA))))))) (nilA)))) (nopS)) nopS [some b1, some (.int most), some (.int w)] = .nx [some b1, some (.int most), some (.int w)] := (ifS_f t1).trans rfl
      have a1 : opE addD (cE (.int 1)) (callB F__law_take 0 (consA (varE 1) (nilA))) [some b1, some (.int most), some (.int w)] = some (.int (1 + v), [some b2, some (.int most), some (.int w)]) := opE_eq (a := .int 1) (b := .int v) rfl (callB_eq (ρ1 := [some b1, some (.int most), some (.int w)]) (as := [.int most]) rfl rfl e2) rfl
      have a2 : tupE (consA (opE addD (cE (.int 1)) (callB F__law_take 0 (consA (varE 1) (nilA)))) (consA (cE (.int 1)) (nilA))) [some b1, some (.int most), some (.int w)] = some (.tuple [.int (1 + v), .int 1], [some b2, some (.int most), some (.int w)]) := by
        unfold tupE
        rw [consA_eq a1 rfl]
        rfl
      rw [seqS_nx n1, seqS_rt (retS_eq a2)]
      rfl
theorem entry_ok {m : Nat} {b : D} (hb : Bag m b) (hm : m < 998000) : ∃ (x : Rat) (b' : D), F__law_entry b [] = some (fq x, b') ∧ Ent x ∧ Bag (m + 8) b' := by
  have run : F__law_entry b [] = (match S__law_entry [some b, none] with
      | .rt d ρ => b0 d ρ
      | .nx ρ => b0 .none ρ
      | _ => none) := rfl
  obtain ⟨x1, b1, e1, E1, B1⟩ := number_ok (most := 6) hb (by omega) (by omega) (by omega)
  obtain ⟨x2, b2, e2, E2, B2⟩ := number_ok (most := 3) B1 (by omega) (by omega) (by omega)
  obtain ⟨d, b3, e3, hd, B3⟩ := some_ok (ds := [.tuple [.int 0, .int 1], .tuple [.int 1, .int 1], fq x1, fq x2, .tuple [.int 1, .int 2]]) B2 (by omega) (by simp) (by simp)
  obtain ⟨x, hx, Ex⟩ : ∃ x, d = fq x ∧ Ent x := by
    simp only [List.mem_cons, List.not_mem_nil, or_false] at hd
    rcases hd with rfl | rfl | rfl | rfl | rfl
    · exact fq_cst (p := 0) (d := 1) (by decide) (by decide) (by decide) (by decide) (by decide)
    · exact fq_cst (p := 1) (d := 1) (by decide) (by decide) (by decide) (by decide) (by decide)
    · exact ⟨x1, rfl, E1⟩
    · exact ⟨x2, rfl, E2⟩
    · exact fq_cst (p := 1) (d := 2) (by decide) (by decide) (by decide) (by decide) (by decide)
  subst hx
  obtain ⟨v, b4, e4, v0, v1, B4⟩ := take_ok (many := 3) B3 (by omega) (by omega) (by omega)
  have n1 : callB F__law_number 0 (consA (cE (.int 6)) (nilA)) [some b, none] = some (fq x1, [some b1, none]) := callB_eq (ρ1 := [some b, none]) (as := [.int 6]) rfl rfl e1
  have n2 : callB F__law_number 0 (consA (cE (.int 3)) (nilA)) [some b1, none] = some (fq x2, [some b2, none]) := callB_eq (ρ1 := [some b1, none]) (as := [.int 3]) rfl rfl e2
  have l1 : lstE (consA (tupE (consA (cE (.int 0)) (consA (cE (.int 1)) (nilA)))) (consA (tupE (consA (cE (.int 1)) (consA (cE (.int 1)) (nilA)))) (consA (callB F__law_number 0 (consA (cE (.int 6)) (nilA))) (consA (callB F__law_number 0 (consA (cE (.int 3)) (nilA))) (consA (tupE (consA (cE (.int 1)) (consA (cE (.int 2)) (nilA)))) (nilA)))))) [some b, none] = some (.list [.tuple [.int 0, .int 1], .tuple [.int 1, .int 1], fq x1, fq x2, .tuple [.int 1, .int 2]], [some b2, none]) := by
    unfold lstE
    rw [consA_eq (a := .tuple [.int 0, .int 1]) (ρ1 := [some b, none]) rfl (consA_eq (a := .tuple [.int 1, .int 1]) (ρ1 := [some b, none]) rfl (consA_eq n1 (consA_eq n2 (consA_eq (a := .tuple [.int 1, .int 2]) (ρ1 := [some b2, none]) rfl (nilA_eq _)))))]
    rfl
  have s1 := setS_eq (i := 1) (callB_eq (F := F__law_some) (i := 0) (consA_eq l1 (nilA_eq _)) rfl e3)
  have s1 : setS 1 (callB F__law_some 0 (consA (lstE (consA (tupE (consA (cE (.int 0)) (consA (cE (.int 1)) (nilA)))) (consA (tupE (consA (cE (.int 1)) (consA (cE (.int 1)) (nilA)))) (consA (callB F__law_number 0 (consA (cE (.int 6)) (nilA))) (consA (callB F__law_number 0 (consA (cE (.int 3)) (nilA))) (consA (tupE (consA (cE (.int 1)) (consA (cE (.int 2)) (nilA)))) (nilA))))))) (nilA))) [some b, none] = .nx [some b3, some (fq x)] := s1
  have c1 : callB F__law_take 0 (consA (cE (.int 3)) (nilA)) [some b3, some (fq x)] = some (.int v, [some b4, some (fq x)]) := callB_eq (ρ1 := [some b3, some (fq x)]) (as := [.int 3]) rfl rfl e4
  have t : tE (opE eqD (callB F__law_take 0 (consA (cE (.int 3)) (nilA))) (cE (.int 0))) [some b3, some (fq x)] = some (decide (v = 0), [some b4, some (fq x)]) := tE_eq (opE_eq c1 rfl (by simp only [eqD, eqB_int, Option.map_some]))
  rw [run]
  unfold S__law_entry
  rw [seqS_nx s1]
  by_cases q : v = 0
  · refine ⟨-x, b4, ?_, ent_neg Ex, B4⟩
    have r : ifE (tE (opE eqD (callB F__law_take 0 (consA (cE (.int 3)) (nilA))) (cE (.int 0)))) (tupE (consA (unE negD (opE ixD (varE 1) (cE (.int 0)))) (consA (opE ixD (varE 1) (cE (.int 1))) (nilA)))) (varE 1) [some b3, some (fq x)] = some (.tuple [.int (-x.num), .int x.den], [some b4, some (fq x)]) := by
      unfold ifE
      rw [t, decide_eq_true q]
      rfl
    rw [seqS_rt (retS_eq r), fq_neg]
    rfl
  · refine ⟨x, b4, ?_, Ex, B4⟩
    have r : ifE (tE (opE eqD (callB F__law_take 0 (consA (cE (.int 3)) (nilA))) (cE (.int 0)))) (tupE (consA (unE negD (opE ixD (varE 1) (cE (.int 0)))) (consA (opE ixD (varE 1) (cE (.int 1))) (nilA)))) (varE 1) [some b3, some (fq x)] = some (fq x, [some b4, some (fq x)]) := by
      unfold ifE
      rw [t, decide_eq_false q]
      rfl
    rw [seqS_rt (retS_eq r)]
    rfl
end Lay

namespace Lay
open PySem PySem.Spec PyProof.Rows L2

/-! ## the law's determinant -/
def rl (n m : Nat) (t : Nat → Nat → Rat) : D := .list ((List.range n).map fun i => rt m (t i))
theorem sh_fq (x : Rat) : Sh 1 (fq x) := sh_tup fun d hd => by
  simp only [List.mem_cons, List.not_mem_nil, or_false] at hd
  rcases hd with rfl | rfl <;> exact sh_int _
theorem sh_rt (m : Nat) (f : Nat → Rat) : Sh 2 (rt m f) := sh_tup fun d hd => by
  obtain ⟨j, _, rfl⟩ := List.mem_map.mp hd
  exact sh_fq _
theorem sh_rl (n m : Nat) (t : Nat → Nat → Rat) : Sh 3 (rl n m t) := sh_list fun d hd => by
  obtain ⟨j, _, rfl⟩ := List.mem_map.mp hd
  exact sh_rt _ _
theorem rl_nil (n m : Nat) (t : Nat → Nat → Rat) : eqB (rl n m t) (.list []) = some (decide (n = 0)) := by
  have s2 : Sh 1 (.list []) := sh_list fun d hd => nomatch hd
  rw [eqB_sh (sh_rl n m t) s2 (by decide) (by decide) (fun a z => by cases z)]
  unfold rl
  cases n with
  | zero => rfl
  | succ n =>
    rw [List.range_succ_eq_map]
    simp [PyData.eqv, PyData.eqvAll]
def dz : Nat → Nat
  | 0 => 1
  | n + 1 => 1 + (n + 1) * (102 + dz n)
theorem bq_zero : Bq 1 0 := ⟨1, 0, by omega, by decide, by decide, rfl⟩
theorem bq_neg {s : Nat} {x : Rat} (h : Bq s x) : Bq s (-x) := by
  obtain ⟨d, p, h1, h2, h3, rfl⟩ := h
  exact ⟨d, -p, h1, h2, by rw [Int.natAbs_neg]; exact h3, by rw [Rat.neg_divInt]⟩
theorem bq_sign {s c : Nat} {x : Rat} (h : Bq s x) : Bq s ((if c % 2 = 0 then 1 else -1) * x) := by
  split
  · rw [Rat.one_mul]; exact h
  · have : (-1 : Rat) * x = -x := by grind
    rw [this]; exact bq_neg h
def minor (c : Nat) (t : Nat → Nat → Rat) : Nat → Nat → Rat := fun i j => t (i + 1) (if j < c then j else j + 1)
theorem dt_succ (n : Nat) (t : Nat → Nat → Rat) : dt (n + 1) t = sm (n + 1) fun c => (if c % 2 = 0 then 1 else -1) * (t 0 c * dt n (minor c t)) := rfl
theorem dt_bq : ∀ (n : Nat) (t : Nat → Nat → Rat), (∀ i j, i < n → j < n → Bq 101 (t i j)) → Bq (dz n) (dt n t) ∧ (∀ at_ , at_ ≤ n → ∀ m, n = m + 1 → Bq (1 + at_ * (102 + dz m)) (sm at_ fun c => (if c % 2 = 0 then 1 else -1) * (t 0 c * dt m (minor c t))))
  | 0, t, _ => ⟨⟨1, 1, by omega, by decide, by decide, rfl⟩, fun _ _ m h => by omega⟩
  | n + 1, t, h => by
    have part : ∀ c, c < n + 1 → Bq (101 + dz n) (t 0 c * dt n (minor c t)) := fun c hc => (h 0 c (by omega) hc).mul (dt_bq n (minor c t) fun i j hi hj => h (i + 1) _ (by omega) (by split <;> omega)).1
    have sums : ∀ at_, at_ ≤ n + 1 → Bq (1 + at_ * (102 + dz n)) (sm at_ fun c => (if c % 2 = 0 then 1 else -1) * (t 0 c * dt n (minor c t))) := by
      intro at_
      induction at_ with
      | zero => intro _; rw [Nat.zero_mul]; exact bq_zero
      | succ k ih =>
        intro hk
        have a := ih (by omega)
        have b := bq_sign (c := k) (part k (by omega))
        have := a.add b
        simp only [sm]
        refine this.mono ?_
        rw [Nat.add_mul]
        omega
    exact ⟨by rw [dt_succ]; exact sums (n + 1) (Nat.le_refl _), fun at_ hl m hm => by
      cases hm
      exact sums at_ hl⟩
/-- a row without one item -/
theorem cut_row (n c : Nat) (hc : c < n + 1) (f : Nat → D) : cutL ((List.range (n + 1)).map f) none (some (c : Int)) ++ cutL ((List.range (n + 1)).map f) (some ((c : Int) + 1)) none = (List.range n).map fun j => f (if j < c then j else j + 1) := by
  unfold cutL
  have e1 : HT.sIx (n + 1) (n + 1) (some (c : Int)) = c := by rw [HT.sIx_nat]; omega
  have e2 : HT.sIx (n + 1) 0 (some ((c : Int) + 1)) = c + 1 := by
    rw [show (c : Int) + 1 = ((c + 1 : Nat) : Int) by omega, HT.sIx_nat]; omega
  simp only [List.length_map, List.length_range, HT.sIx_none, e1, e2, List.drop_zero, Nat.sub_zero]
  refine List.ext_getElem? fun j => ?_
  rw [List.getElem?_append]
  simp only [List.length_take, List.length_map, List.length_range, List.getElem?_map]
  by_cases h : j < min c (n + 1)
  · rw [if_pos h, List.getElem?_take, if_pos (by omega), List.getElem?_map, List.getElem?_range (by omega), List.getElem?_range (by omega)]
    simp [show j < c by omega]
  · rw [if_neg h, List.getElem?_take, List.getElem?_drop]
    by_cases l : j < n
    · rw [if_pos (by omega), List.getElem?_map, List.getElem?_range (by omega), List.getElem?_range l]
      simp only [Option.map_some, Option.some.injEq]
      rw [if_neg (by omega)]
      congr 1
      omega
    · rw [List.getElem?_eq_none (l := List.range n) (by simp; omega)]
      split
      · rw [List.getElem?_eq_none (by simp; omega)]; rfl
      · rfl
theorem cut_tail (n m : Nat) (t : Nat → Nat → Rat) : cutL ((List.range (n + 1)).map fun i => rt m (t i)) (some 1) none = (List.range n).map fun i => rt m (t (i + 1)) := by
  unfold cutL
  have e2 : HT.sIx (n + 1) 0 (some (1 : Int)) = 1 := by
    rw [show (1 : Int) = ((1 : Nat) : Int) from rfl, HT.sIx_nat]; omega
  simp only [List.length_map, List.length_range, HT.sIx_none, e2]
  refine List.ext_getElem? fun j => ?_
  rw [List.getElem?_take, List.getElem?_drop, List.getElem?_map, List.getElem?_map]
  by_cases l : j < n
  · rw [if_pos (by omega), List.getElem?_range (by omega), List.getElem?_range l]
    simp only [Option.map_some]
    rw [Nat.add_comm]
  · rw [List.getElem?_eq_none (l := List.range n) (by simp; omega)]
    split
    · rw [List.getElem?_eq_none (by simp; omega)]; rfl
    · rfl
theorem slE_eq {f : XE} {fl fh : XO} {ρ ρ1 ρ2 ρ3 : En} {d z : D} {lo hi : Option Int} (h1 : f ρ = some (d, ρ1)) (h2 : fl ρ1 = some (lo, ρ2)) (h3 : fh ρ2 = some (hi, ρ3)) (h4 : slD lo hi d = some z) : slE f fl fh ρ = some (z, ρ3) := by
  simp only [slE, h1, h2, h3, h4, Option.bind_some, Option.map_some]
theorem someO_eq {f : XE} {ρ ρ1 : En} {i : Int} (h : f ρ = some (.int i, ρ1)) : someO f ρ = some (some i, ρ1) := by
  simp only [someO, h, Option.bind_some]
theorem tupE_eq {fa : XA} {ρ ρ1 : En} {ds : List D} (h : fa ρ = some (ds, ρ1)) (l : ds.length ≤ 1000) : tupE fa ρ = some (.tuple ds, ρ1) := by
  unfold tupE
  rw [h]
  simp only [Option.bind_some]
  rw [if_pos (by simp only [sizeLine]; omega)]
theorem lstE_eq {fa : XA} {ρ ρ1 : En} {ds : List D} (h : fa ρ = some (ds, ρ1)) (l : ds.length ≤ 1000) : lstE fa ρ = some (.list ds, ρ1) := by
  unfold lstE
  rw [h]
  simp only [Option.bind_some]
  rw [if_pos (by simp only [sizeLine]; omega)]
noncomputable abbrev detB (R : List D → Option D) : XS := seqS (setS 5 (compE (itE (slE (varE 0) (someO (cE (.int 1))) (noO))) [7] (nameG 7) (yesT) (opE addD (slE (varE 7) (noO) (someO (varE 3))) (slE (varE 7) (someO (opE addD (varE 3) (cE (.int 1)))) (noO)))))
    (seqS (setS 6 (clE F__law_multiplied (consA (varE 4) (consA (clE R (consA (varE 5) (nilA))) (nilA)))))
    (seqS (setS 1 (clE F__law_added (consA (varE 1) (consA (tupE (consA (opE mulD (varE 2) (opE ixD (varE 6) (cE (.int 0)))) (consA (opE ixD (varE 6) (cE (.int 1))) (nilA)))) (nilA)))))
    (seqS (setS 2 (unE negD (varE 2)))
    (killS [3, 4, 5, 6]))))
theorem zip_enum {m : Nat} {f : Nat → D} : (((List.range m).map f).zipIdx.map fun p => PyData.tuple [.int (p.2 : Nat), p.1]) = (List.range m).map fun j => .tuple [.int (j : Nat), f j] := by
  refine List.ext_getElem? fun j => ?_
  rw [List.getElem?_map, List.getElem?_zipIdx, List.getElem?_map, List.getElem?_map]
  by_cases l : j < m
  · rw [List.getElem?_range l]
    simp
  · rw [List.getElem?_eq_none (by simp; omega)]
    rfl
def sgn (c : Nat) : Int := if c % 2 = 0 then 1 else -1
abbrev dE (t : Nat → Nat → Rat) (n : Nat) (x : Rat) (c : Nat) : En := [some (rl n n t), some (fq x), some (.int (sgn c)), none, none, none, none, none]
theorem fq_sgn (c : Nat) (x : Rat) : fq ((if c % 2 = 0 then 1 else -1) * x) = .tuple [.int (sgn c * x.num), .int x.den] := by
  unfold sgn
  by_cases h : c % 2 = 0
  · rw [if_pos h, if_pos h, Rat.one_mul, Int.one_mul]; rfl
  · rw [if_neg h, if_neg h, show (-1 : Rat) * x = -x by grind, fq_neg, Int.neg_one_mul]
theorem whole_eq : ∀ (n : Nat) (k : Nat) (t : Nat → Nat → Rat), n ≤ 4 → n < k → (∀ i j, i < n → j < n → Bq 101 (t i j)) → F__law_whole k [rl n n t] = some (fq (dt n t))
  | _, 0, _, _, h, _ => by omega
  | 0, k + 1, t, _, _, _ => by
    have run : F__law_whole (k + 1) [rl 0 0 t] = (match S__law_whole (F__law_whole k) [some (rl 0 0 t), none, none, none, none, none, none, none] with
      | .rt d _ => some d
      | .nx _ => some .none
      | _ => none) := rfl
    have c : tE (opE eqD (varE 0) (lstE (nilA))) [some (rl 0 0 t), none, none, none, none, none, none, none] = some (true, [some (rl 0 0 t), none, none, none, none, none, none, none]) := tE_eq (opE_eq (varE_eq rfl) (lstE_eq (nilA_eq _) (by simp)) (by simp only [eqD, rl_nil, Option.map_some]; rfl))
    rw [run]
    unfold S__law_whole
    rw [seqS_rt ((ifS_t c).trans (seqS_rt (retS_eq (d := .tuple [.int 1, .int 1]) (ρ1 := [some (rl 0 0 t), none, none, none, none, none, none, none]) rfl)))]
    rfl
  | n + 1, k + 1, t, hn, hk, hb => by
    have run : F__law_whole (k + 1) [rl (n + 1) (n + 1) t] = (match S__law_whole (F__law_whole k) [some (rl (n + 1) (n + 1) t), none, none, none, none, none, none, none] with
      | .rt d _ => some d
      | .nx _ => some .none
      | _ => none) := rfl
    have c : tE (opE eqD (varE 0) (lstE (nilA))) [some (rl (n + 1) (n + 1) t), none, none, none, none, none, none, none] = some (false, [some (rl (n + 1) (n + 1) t), none, none, none, none, none, none, none]) := tE_eq (opE_eq (varE_eq rfl) (lstE_eq (nilA_eq _) (by simp)) (by simp only [eqD, rl_nil, Option.map_some]; rfl))
    have c' : ifS (tE (opE eqD (varE 0) (lstE (nilA)))) (seqS (retS (tupE (consA (cE (.int 1)) (consA (cE (.int 1)) (nilA))))) (nopS)) nopS [some (rl (n + 1) (n + 1) t), none, none, none, none, none, none, none] = .nx [some (rl (n + 1) (n + 1) t), none, none, none, none, none, none, none] := (ifS_f c).trans rfl
    have g : setG (tupG (consG (nameG 1) (consG (nameG 2) (nilG)))) (tupE (consA (tupE (consA (cE (.int 0)) (consA (cE (.int 1)) (nilA)))) (consA (cE (.int 1)) (nilA)))) [some (rl (n + 1) (n + 1) t), none, none, none, none, none, none, none] = .nx (dE t (n + 1) 0 0) := rfl
    have it : enumT (consA (opE ixD (varE 0) (cE (.int 0))) (nilA)) (dE t (n + 1) 0 0) = some ((List.range (n + 1)).map fun j => .tuple [.int (j : Nat), fq (t 0 j)], dE t (n + 1) 0 0) := by
      have e : opE ixD (varE 0) (cE (.int 0)) (dE t (n + 1) 0 0) = some (rt (n + 1) (t 0), dE t (n + 1) 0 0) := by
        refine opE_eq (varE_eq rfl) rfl ?_
        show L2.atI ((List.range (n + 1)).map fun i => rt (n + 1) (t i)) ((0 : Nat) : Int) = _
        rw [atI_nat (by simp)]
        simp
      unfold enumT
      rw [consA_eq e (nilA_eq _)]
      simp only [Option.bind_some, rt]
      rw [zip_enum]
    have step : ∀ (i : Nat) (d : D) (ρ : En), ((List.range (n + 1)).map fun j => PyData.tuple [.int (j : Nat), fq (t 0 j)])[i]? = some d → ρ = dE t (n + 1) (sm (0 + i) fun c => (if c % 2 = 0 then 1 else -1) * (t 0 c * dt n (minor c t))) (0 + i) →
        ∃ ρ1 ρ2, tupG (consG (nameG 3) (consG (nameG 4) (nilG))) d ρ = some ρ1 ∧ detB (F__law_whole k) ρ1 = .nx ρ2 ∧ ρ2 = dE t (n + 1) (sm (0 + i + 1) fun c => (if c % 2 = 0 then 1 else -1) * (t 0 c * dt n (minor c t))) (0 + i + 1) := by
      intro i d ρ hd hp
      have hi : i < n + 1 := by
        rcases Nat.lt_or_ge i (n + 1) with h | h
        · exact h
        · rw [List.getElem?_eq_none (by simpa using h)] at hd; cases hd
      have hd : d = .tuple [.int (i : Nat), fq (t 0 i)] := by
        rw [List.getElem?_map, List.getElem?_range hi] at hd
        exact (Option.some.inj hd).symm
      subst hd
      rw [Nat.zero_add] at hp ⊢
      subst hp
      have szs := (dt_bq (n + 1) t hb).2 i (by omega) n rfl
      generalize hx : (sm i fun c => (if c % 2 = 0 then 1 else -1) * (t 0 c * dt n (minor c t))) = x at *
      have mb : ∀ a b, a < n → b < n → Bq 101 (minor i t a b) := fun a b ha hb' => hb (a + 1) _ (by omega) (by split <;> omega)
      have md := (dt_bq n (minor i t) mb).1
      have ih := whole_eq n k (minor i t) (by omega) (by omega) mb
      have dzn : dz n ≤ 1546 ∧ (1 + i * (102 + dz n)) + (101 + dz n) < 9000 := by
        have : n = 0 ∨ n = 1 ∨ n = 2 ∨ n = 3 := by omega
        rcases this with rfl | rfl | rfl | rfl
        · simp only [dz]; omega
        · simp only [dz]; omega
        · simp only [dz]; omega
        · simp only [dz]; omega
      have e0 : hb 0 i (by omega) hi = hb 0 i (by omega) hi := rfl
      have eb := hb 0 i (by omega) hi
      let ρ1 : En := [some (rl (n + 1) (n + 1) t), some (fq x), some (.int (sgn i)), some (.int (i : Nat)), some (fq (t 0 i)), none, none, none]
      have s1 : setS 5 (compE (itE (slE (varE 0) (someO (cE (.int 1))) (noO))) [7] (nameG 7) (yesT) (opE addD (slE (varE 7) (noO) (someO (varE 3))) (slE (varE 7) (someO (opE addD (varE 3) (cE (.int 1)))) (noO)))) ρ1 = .nx [some (rl (n + 1) (n + 1) t), some (fq x), some (.int (sgn i)), some (.int (i : Nat)), some (fq (t 0 i)), some (rl n n (minor i t)), none, none] := by
        refine setS_eq (d := rl n n (minor i t)) (ρ1 := ρ1) ?_
        refine compE_onA (ds := List.range n) (fun a => rt (n + 1) (t (a + 1))) (fun a => rt n (minor i t a)) (ls := (List.range n).map fun a => rt (n + 1) (t (a + 1))) ?_ rfl fun a ha => ?_
        · unfold itE
          rw [slE_eq (d := rl (n + 1) (n + 1) t) (ρ1 := ρ1) (lo := some 1) (ρ2 := ρ1) (hi := none) (ρ3 := ρ1) (z := .list ((List.range n).map fun a => rt (n + 1) (t (a + 1)))) rfl rfl rfl (by
            show some (PyData.list (cutL _ _ _)) = _
            rw [cut_tail])]
          rfl
        · let ρ2 : En := [some (rl (n + 1) (n + 1) t), some (fq x), some (.int (sgn i)), some (.int (i : Nat)), some (fq (t 0 i)), none, none, some (rt (n + 1) (t (a + 1)))]
          refine ⟨ρ2, rfl, rfl, ?_⟩
          refine opE_eq (a := .tuple (cutL ((List.range (n + 1)).map fun j => fq (t (a + 1) j)) none (some (i : Int)))) (ρ1 := ρ2) (b := .tuple (cutL ((List.range (n + 1)).map fun j => fq (t (a + 1) j)) (some ((i : Int) + 1)) none)) rfl rfl ?_
          simp only [addD]
          have cl := cut_row n i hi fun j => fq (t (a + 1) j)
          have ll := congrArg List.length cl
          simp only [List.length_append, List.length_map, List.length_range] at ll
          rw [if_pos (by rw [ll]; simp only [sizeLine]; omega), cl]
          rfl
      have r6 := ltimes_eq eb.sz md.sz (show 101 + dz n < 9000 by omega)
      have s2 : setS 6 (clE F__law_multiplied (consA (varE 4) (consA (clE (F__law_whole k) (consA (varE 5) (nilA))) (nilA)))) [some (rl (n + 1) (n + 1) t), some (fq x), some (.int (sgn i)), some (.int (i : Nat)), some (fq (t 0 i)), some (rl n n (minor i t)), none, none] = .nx [some (rl (n + 1) (n + 1) t), some (fq x), some (.int (sgn i)), some (.int (i : Nat)), some (fq (t 0 i)), some (rl n n (minor i t)), some (fq (t 0 i * dt n (minor i t))), none] := by
        refine setS_eq (d := fq (t 0 i * dt n (minor i t))) (ρ1 := [some (rl (n + 1) (n + 1) t), some (fq x), some (.int (sgn i)), some (.int (i : Nat)), some (fq (t 0 i)), some (rl n n (minor i t)), none, none]) (clE_eq (consA_eq (varE_eq rfl) (consA_eq (clE_eq (consA_eq (varE_eq rfl) (nilA_eq _)) ih) (nilA_eq _))) r6)
      have pb := eb.mul md
      have sb := bq_sign (c := i) pb
      have r7 := ladded_eq szs.sz sb.sz dzn.2
      rw [fq_sgn] at r7
      have sg1 : (sgn i).natAbs = 1 := by unfold sgn; split <;> rfl
      have s3 : setS 1 (clE F__law_added (consA (varE 1) (consA (tupE (consA (opE mulD (varE 2) (opE ixD (varE 6) (cE (.int 0)))) (consA (opE ixD (varE 6) (cE (.int 1))) (nilA)))) (nilA)))) [some (rl (n + 1) (n + 1) t), some (fq x), some (.int (sgn i)), some (.int (i : Nat)), some (fq (t 0 i)), some (rl n n (minor i t)), some (fq (t 0 i * dt n (minor i t))), none] = .nx [some (rl (n + 1) (n + 1) t), some (fq (x + (if i % 2 = 0 then 1 else -1) * (t 0 i * dt n (minor i t)))), some (.int (sgn i)), some (.int (i : Nat)), some (fq (t 0 i)), some (rl n n (minor i t)), some (fq (t 0 i * dt n (minor i t))), none] := by
        refine setS_eq (ρ1 := [some (rl (n + 1) (n + 1) t), some (fq x), some (.int (sgn i)), some (.int (i : Nat)), some (fq (t 0 i)), some (rl n n (minor i t)), some (fq (t 0 i * dt n (minor i t))), none]) (clE_eq (consA_eq (varE_eq rfl) (consA_eq (tupE_eq (consA_eq (opE_eq (a := .int (sgn i)) (b := .int (t 0 i * dt n (minor i t)).num) (varE_eq rfl) (opE_eq (varE_eq rfl) rfl (ix0 _ _)) ?_) (consA_eq (opE_eq (varE_eq rfl) rfl (ix1 _ _)) (nilA_eq _))) (by simp)) (nilA_eq _))) r7)
        simp only [mulD, iiD]
        have l1 := log2_of pb.sz.1
        rw [if_pos (decide_eq_true (by rw [sg1]; have : Nat.log2 1 = 0 := rfl; omega))]
      have s4 : setS 2 (unE negD (varE 2)) [some (rl (n + 1) (n + 1) t), some (fq (x + (if i % 2 = 0 then 1 else -1) * (t 0 i * dt n (minor i t)))), some (.int (sgn i)), some (.int (i : Nat)), some (fq (t 0 i)), some (rl n n (minor i t)), some (fq (t 0 i * dt n (minor i t))), none] = .nx [some (rl (n + 1) (n + 1) t), some (fq (x + (if i % 2 = 0 then 1 else -1) * (t 0 i * dt n (minor i t)))), some (.int (sgn (i + 1))), some (.int (i : Nat)), some (fq (t 0 i)), some (rl n n (minor i t)), some (fq (t 0 i * dt n (minor i t))), none] := by
        have e : sgn (i + 1) = - sgn i := by
          unfold sgn
          by_cases h : i % 2 = 0
          · rw [if_pos h, if_neg (by omega)]
          · rw [if_neg h, if_pos (by omega)]; rfl
        rw [e]
        rfl
      refine ⟨ρ1, _, rfl, ?_, rfl⟩
      unfold detB
      rw [seqS_nx s1, seqS_nx s2, seqS_nx s3, seqS_nx s4]
      simp only [sm, hx]
      rfl
    obtain ⟨ρ', e, q⟩ := loopS_all (fg := tupG (consG (nameG 3) (consG (nameG 4) (nilG)))) (F := detB (F__law_whole k)) (fun i ρ => ρ = dE t (n + 1) (sm i fun c => (if c % 2 = 0 then 1 else -1) * (t 0 c * dt n (minor c t))) i) (ds := (List.range (n + 1)).map fun j => .tuple [.int (j : Nat), fq (t 0 j)]) (ρ := dE t (n + 1) 0 0) 0 rfl step
    rw [List.length_map, List.length_range, Nat.zero_add] at q
    have fs : forS (enumT (consA (opE ixD (varE 0) (cE (.int 0))) (nilA))) (tupG (consG (nameG 3) (consG (nameG 4) (nilG)))) (detB (F__law_whole k)) (dE t (n + 1) 0 0) = .nx (dE t (n + 1) (dt (n + 1) t) (n + 1)) := by
      rw [forS_eq it, e, q]
      rfl
    rw [run]
    unfold S__law_whole
    rw [seqS_nx c', seqS_nx g, seqS_nx fs]
    rw [seqS_rt (retS_eq (varE_eq (d := fq (dt (n + 1) t)) rfl))]
end Lay

namespace Lay
open PySem PySem.Spec PyProof.Rows L2

/-! ## what the law looks at -/
theorem isi_ii (i : Int) (ρ : En) (h : ρ[0]? = some (some (.int i))) : isiE "int" (varE 0) ρ = some (.bool true, ρ) := by
  have k : isiB "int" (.int i) = some true := by
    show kitB "int" "int" = some true
    decide +kernel
  simp [isiE, varE, h, k]
theorem isi_ib (i : Int) (ρ : En) (h : ρ[0]? = some (some (.int i))) : isiE "bool" (varE 0) ρ = some (.bool false, ρ) := by
  have k : isiB "bool" (.int i) = some false := by
    show kitB "int" "bool" = some false
    decide +kernel
  simp [isiE, varE, h, k]
theorem isi_tt (ds : List D) (n : Nat) (ρ : En) (h : ρ[n]? = some (some (.tuple ds))) : isiE "tuple" (varE n) ρ = some (.bool true, ρ) := by
  have k : isiB "tuple" (.tuple ds) = some true := by
    show kitB "tuple" "tuple" = some true
    decide +kernel
  simp [isiE, varE, h, k]
theorem isint_eq (i : Int) : F__law_is_int [.int i] = some (.bool true) := by
  have a := isi_ii i [some (.int i)] rfl
  have b := isi_ib i [some (.int i)] rfl
  have r : ifE (tE (isiE "int" (varE 0))) (notE (isiE "bool" (varE 0))) (cE (.bool false)) [some (.int i)] = some (.bool true, [some (.int i)]) := by
    unfold ifE notE
    rw [tE_eq a, Option.bind_some, if_pos rfl, tE_eq b]
    rfl
  have run : F__law_is_int [.int i] = (match S__law_is_int [some (.int i)] with
      | .rt d _ => some d
      | .nx _ => some .none
      | _ => none) := rfl
  rw [run]
  unfold S__law_is_int
  rw [seqS_rt (retS_eq r)]
theorem isfrac_eq (x : Rat) : F__law_is_fraction [fq x] = some (.bool true) := by
  have g := lcd_eq x.num x.den
  have g1' : Int.gcd x.num x.den = 1 := x.reduced
  rw [g1'] at g
  have run : F__law_is_fraction [fq x] = (match S__law_is_fraction [some (fq x)] with
      | .rt d _ => some d
      | .nx _ => some .none
      | _ => none) := rfl
  have i0 : opE ixD (varE 0) (cE (.int 0)) [some (fq x)] = some (.int x.num, [some (fq x)]) := opE_eq (varE_eq rfl) rfl (ix0 _ _)
  have i1 : opE ixD (varE 0) (cE (.int 1)) [some (fq x)] = some (.int x.den, [some (fq x)]) := opE_eq (varE_eq rfl) rfl (ix1 _ _)
  have n0 : clE F__law_is_int (consA (opE ixD (varE 0) (cE (.int 0))) (nilA)) [some (fq x)] = some (.bool true, [some (fq x)]) := clE_eq (consA_eq i0 (nilA_eq _)) (isint_eq _)
  have n1 : clE F__law_is_int (consA (opE ixD (varE 0) (cE (.int 1))) (nilA)) [some (fq x)] = some (.bool true, [some (fq x)]) := clE_eq (consA_eq i1 (nilA_eq _)) (isint_eq _)
  have t1 : notT (tE (isiE "tuple" (varE 0))) [some (fq x)] = some (false, [some (fq x)]) := by
    unfold notT
    rw [tE_eq (isi_tt _ 0 [some (fq x)] rfl)]
    rfl
  have l2 : tE (opE neD (clE (g1 lenD) (consA (varE 0) nilA)) (cE (.int 2))) [some (fq x)] = some (false, [some (fq x)]) := by
    refine tE_eq (opE_eq (a := .int 2) (b := .int 2) rfl rfl ?_)
    simp only [neD, eqB_int, Option.map_some]
    rfl
  have c : orT (notT (tE (isiE "tuple" (varE 0)))) (orT (tE (opE neD (clE (g1 lenD) (consA (varE 0) nilA)) (cE (.int 2)))) (orT (notT (tE (clE F__law_is_int (consA (opE ixD (varE 0) (cE (.int 0))) (nilA))))) (notT (tE (clE F__law_is_int (consA (opE ixD (varE 0) (cE (.int 1))) (nilA))))))) [some (fq x)] = some (false, [some (fq x)]) := by
    have m0 : notT (tE (clE F__law_is_int (consA (opE ixD (varE 0) (cE (.int 0))) (nilA)))) [some (fq x)] = some (false, [some (fq x)]) := by
      unfold notT
      rw [tE_eq n0]
      rfl
    have m1 : notT (tE (clE F__law_is_int (consA (opE ixD (varE 0) (cE (.int 1))) (nilA)))) [some (fq x)] = some (false, [some (fq x)]) := by
      unfold notT
      rw [tE_eq n1]
      rfl
    simp only [orT, t1, l2, m0, m1, Option.bind_some, Bool.false_eq_true, if_false]
  have p : (0 : Int) < x.den := by have := x.den_nz; omega
  have pos : tE (opE gtI (opE ixD (varE 0) (cE (.int 1))) (cE (.int 0))) [some (fq x)] = some (true, [some (fq x)]) := by
    refine tE_eq (opE_eq (b := .int 0) i1 rfl ?_)
    simp only [gtI, ii0, decide_eq_true p]
  have cm : opE eqD (clE F__law_common (consA (opE ixD (varE 0) (cE (.int 0))) (consA (opE ixD (varE 0) (cE (.int 1))) (nilA)))) (cE (.int 1)) [some (fq x)] = some (.bool true, [some (fq x)]) := by
    refine opE_eq (a := .int ((1 : Nat) : Int)) (b := .int 1) (clE_eq (consA_eq i0 (consA_eq i1 (nilA_eq _))) g) rfl ?_
    simp only [eqD, eqB_int, Option.map_some]
    rfl
  have r : ifE (tE (opE gtI (opE ixD (varE 0) (cE (.int 1))) (cE (.int 0)))) (opE eqD (clE F__law_common (consA (opE ixD (varE 0) (cE (.int 0))) (consA (opE ixD (varE 0) (cE (.int 1))) (nilA)))) (cE (.int 1))) (cE (.bool false)) [some (fq x)] = some (.bool true, [some (fq x)]) := by
    unfold ifE
    rw [pos]
    exact cm
  rw [run]
  unfold S__law_is_fraction
  have f0 : ifS (orT (notT (tE (isiE "tuple" (varE 0)))) (orT (tE (opE neD (clE (g1 lenD) (consA (varE 0) nilA)) (cE (.int 2)))) (orT (notT (tE (clE F__law_is_int (consA (opE ixD (varE 0) (cE (.int 0))) (nilA))))) (notT (tE (clE F__law_is_int (consA (opE ixD (varE 0) (cE (.int 1))) (nilA)))))))) (seqS (retS (cE (.bool false))) (nopS)) nopS [some (fq x)] = .nx [some (fq x)] := (ifS_f c).trans rfl
  rw [seqS_nx f0, seqS_rt (retS_eq r)]
theorem alike_eq {d : D} {k B : Nat} (h : Sh k d) (t : Tx B d) (l : k ≤ 64) (m : B ≤ sizeLine) (ns : ∀ a, d ≠ .str a) : F__law_alike [d, d] = some (.bool true) := by
  have e : eqB d d = some true := by rw [eqB_sh h h l l ns, eqv_refl d h.1]
  have r := repr_eq h t l m
  have rr : opE eqD (clE (g1 reprD) (consA (varE 0) nilA)) (clE (g1 reprD) (consA (varE 1) nilA)) [some d, some d] = some (.bool true, [some d, some d]) := by
    refine opE_eq (a := .str d.shown) (b := .str d.shown) (clE_eq (as := [d]) rfl r) (clE_eq (as := [d]) rfl r) ?_
    simp only [eqD, eqB_str, beq_self_eq_true, Option.map_some]
  have run : F__law_alike [d, d] = (match S__law_alike [some d, some d] with
      | .rt d _ => some d
      | .nx _ => some .none
      | _ => none) := rfl
  have q : tE (opE eqD (varE 0) (varE 1)) [some d, some d] = some (true, [some d, some d]) := tE_eq (opE_eq (varE_eq rfl) (varE_eq rfl) (by simp only [eqD, e, Option.map_some]))
  have z : ifE (tE (opE eqD (varE 0) (varE 1))) (opE eqD (clE (g1 reprD) (consA (varE 0) nilA)) (clE (g1 reprD) (consA (varE 1) nilA))) (cE (.bool false)) [some d, some d] = some (.bool true, [some d, some d]) := by
    unfold ifE
    rw [q]
    exact rr
  rw [run]
  unfold S__law_alike
  rw [seqS_rt (retS_eq z)]
theorem tx_fq {x : Rat} (h : Sz 1900 x) : Tx 3850 (fq x) := by
  have l1 := log2_of h.1
  have l2 := log2_of h.2
  exact (tx_tup (B := 1921) (n := 2) (fun d hd => by
    simp only [List.mem_cons, List.not_mem_nil, or_false] at hd
    rcases hd with rfl | rfl
    · exact tx_int (by omega)
    · exact tx_int (by show Nat.log2 _ < _; simp; omega)) (by simp)).mono (by omega)
theorem tx_rt {m : Nat} {f : Nat → Rat} (hm : m ≤ 4) (h : ∀ j, j < m → Sz 1900 (f j)) : Tx 15412 (rt m f) := (tx_tup (B := 3850) (n := 4) (fun d hd => by
    obtain ⟨j, hj, rfl⟩ := List.mem_map.mp hd
    exact tx_fq (h j (by simpa using hj))) (by simpa using hm)).mono (by omega)
theorem tx_ro {m : Nat} {f : Nat → Rat} (hm : m ≤ 4) (h : ∀ j, j < m → Sz 1900 (f j)) : Tx 15412 (ro m f) := (tx_list (B := 3850) (n := 4) (fun d hd => by
    obtain ⟨j, hj, rfl⟩ := List.mem_map.mp hd
    exact tx_fq (h j (by simpa using hj))) (by simpa using hm)).mono (by omega)
theorem tx_rl {n m : Nat} {t : Nat → Nat → Rat} (hn : n ≤ 4) (hm : m ≤ 4) (h : ∀ i j, i < n → j < m → Sz 1900 (t i j)) : Tx 61660 (rl n m t) := (tx_list (B := 15412) (n := 4) (fun d hd => by
    obtain ⟨i, hi, rfl⟩ := List.mem_map.mp hd
    exact tx_rt hm fun j hj => h i j (by simpa using hi) hj) (by simpa using hn)).mono (by omega)
theorem sh_ro (m : Nat) (f : Nat → Rat) : Sh 2 (ro m f) := sh_list fun d hd => by
  obtain ⟨j, _, rfl⟩ := List.mem_map.mp hd
  exact sh_fq _
/-- a sum as the law makes it -/
theorem total_eq {n s : Nat} {f : Nat → Rat} (hn : n ≤ 4) (hs : s ≤ 1800) (hb : ∀ j, j < n → Bq s (f j)) : F__law_total [ro n f] = some (fq (sm n f)) := by
  have run : F__law_total [ro n f] = (match S__law_total [some (ro n f), none, none] with
      | .rt d _ => some d
      | .nx _ => some .none
      | _ => none) := rfl
  have sums : ∀ k, k ≤ n → Bq (1 + k * (s + 1)) (sm k f) := by
    intro k
    induction k with
    | zero => intro _; rw [Nat.zero_mul]; exact bq_zero
    | succ k ih =>
      intro hk
      have := (ih (by omega)).add (hb k (by omega))
      simp only [sm]
      refine this.mono ?_
      rw [Nat.add_mul]
      omega
  have step : ∀ (i : Nat) (d : D) (ρ : En), ((List.range n).map fun j => fq (f j))[i]? = some d → ρ = [some (ro n f), some (fq (sm (0 + i) f)), none] →
      ∃ ρ1 ρ2, nameG 2 d ρ = some ρ1 ∧ seqS (setS 1 (clE F__law_added (consA (varE 1) (consA (varE 2) (nilA))))) (killS [2]) ρ1 = .nx ρ2 ∧ ρ2 = [some (ro n f), some (fq (sm (0 + i + 1) f)), none] := by
    intro i d ρ hd hp
    have hi : i < n := by
      rcases Nat.lt_or_ge i n with h | h
      · exact h
      · rw [List.getElem?_eq_none (by simpa using h)] at hd; cases hd
    have hd : d = fq (f i) := by
      rw [List.getElem?_map, List.getElem?_range hi] at hd
      exact (Option.some.inj hd).symm
    subst hd
    rw [Nat.zero_add] at hp ⊢
    subst hp
    have bound : 1 + i * (s + 1) + s < 9000 := by
      have : i ≤ 3 := by omega
      have := Nat.mul_le_mul_right (s + 1) this
      omega
    have r := ladded_eq (sums i (by omega)).sz (hb i hi).sz bound
    refine ⟨[some (ro n f), some (fq (sm i f)), some (fq (f i))], _, rfl, ?_, rfl⟩
    rw [seqS_nx (setS_eq (clE_eq (as := [fq (sm i f), fq (f i)]) (ρ1 := [some (ro n f), some (fq (sm i f)), some (fq (f i))]) rfl r))]
    rfl
  obtain ⟨ρ', e, q⟩ := loopS_all (fg := nameG 2) (F := seqS (setS 1 (clE F__law_added (consA (varE 1) (consA (varE 2) (nilA))))) (killS [2])) (fun i ρ => ρ = [some (ro n f), some (fq (sm i f)), none]) (ds := (List.range n).map fun j => fq (f j)) (ρ := [some (ro n f), some (fq (sm 0 f)), none]) 0 rfl step
  rw [List.length_map, List.length_range, Nat.zero_add] at q
  have s1 : setS 1 (tupE (consA (cE (.int 0)) (consA (cE (.int 1)) (nilA)))) [some (ro n f), none, none] = .nx [some (ro n f), some (fq (sm 0 f)), none] := rfl
  have fs : forS (itE (varE 0)) (nameG 2) (seqS (setS 1 (clE F__law_added (consA (varE 1) (consA (varE 2) (nilA))))) (killS [2])) [some (ro n f), some (fq (sm 0 f)), none] = .nx [some (ro n f), some (fq (sm n f)), none] := by
    rw [forS_eq (ds := (List.range n).map fun j => fq (f j)) (ρ1 := [some (ro n f), some (fq (sm 0 f)), none]) rfl, e, q]
  rw [run]
  unfold S__law_total
  rw [seqS_nx s1, seqS_nx fs, seqS_rt (retS_eq (varE_eq (d := fq (sm n f)) rfl))]
theorem bag_ok (ns : List Int) : ∃ cs, F__law_bag [.list (ns.map .int)] = some (bg 0 1234567891 0 cs) ∧ Cel cs := by
  let cs0 : List Int := cutL ns none (some 63)
  have c0 : cutL (ns.map PyData.int) none (some 63) = cs0.map .int := by
    show List.take _ (List.drop _ _) = List.map _ (List.take _ (List.drop _ _))
    rw [List.length_map, List.map_take, List.map_drop]
  have hl : cs0.length ≤ 63 := by
    show (List.take _ _).length ≤ 63
    rw [List.length_take]
    have : HT.sIx ns.length ns.length (some (63 : Int)) = min 63 ns.length := HT.sIx_nat _ _ 63
    rw [this]
    omega
  refine ⟨cs0.map fun c => .int (if c < 0 then -c else c), ?_, by simpa using Nat.le_trans hl (by decide), fun d hd => ?_⟩
  · have c : compE (itE (slE (varE 0) (noO) (someO (cE (.int 63))))) [1] (nameG 1) (yesT) (clE (g1 absD) (consA (varE 1) nilA)) [some (.list (ns.map .int)), none] = some (.list (cs0.map fun c => .int (if c < 0 then -c else c)), [some (.list (ns.map .int)), none]) := by
      refine compE_onA (ds := cs0) (fun c => .int c) (fun c => .int (if c < 0 then -c else c)) (ls := cs0.map .int) ?_ rfl fun c hc => ⟨[some (.list (ns.map .int)), some (.int c)], rfl, rfl, rfl⟩
      unfold itE
      rw [slE_eq (d := .list (ns.map .int)) (ρ1 := [some (.list (ns.map .int)), none]) (lo := none) (ρ2 := [some (.list (ns.map .int)), none]) (hi := some 63) (ρ3 := [some (.list (ns.map .int)), none]) (z := .list (cs0.map .int)) rfl rfl rfl (by
        show some (PyData.list (cutL _ _ _)) = _
        rw [c0])]
      rfl
    have r : lstE (consA (cE (.int 0)) (consA (cE (.int 1234567891)) (consA (cE (.int 0)) (consA (compE (itE (slE (varE 0) (noO) (someO (cE (.int 63))))) [1] (nameG 1) (yesT) (clE (g1 absD) (consA (varE 1) nilA))) (nilA))))) [some (.list (ns.map .int)), none] = some (bg 0 1234567891 0 (cs0.map fun c => .int (if c < 0 then -c else c)), [some (.list (ns.map .int)), none]) := lstE_eq (consA_eq rfl (consA_eq rfl (consA_eq rfl (consA_eq c (nilA_eq _))))) (by simp)
    have run : F__law_bag [.list (ns.map .int)] = (match S__law_bag [some (.list (ns.map .int)), none] with
      | .rt d _ => some d
      | _ => none) := rfl
    rw [run]
    unfold S__law_bag
    rw [seqS_rt (retS_eq r)]
  · obtain ⟨c, _, rfl⟩ := List.mem_map.mp hd
    exact ⟨_, rfl, by split <;> omega⟩
end Lay

namespace Lay
open PySem PySem.Spec PyProof.Rows L2

/-! ## what the law draws -/
theorem fun_of {α : Type} [Inhabited α] {P : α → Prop} {mk : α → D} : ∀ ys : List D, (∀ y ∈ ys, ∃ a, y = mk a ∧ P a) → ∃ f : Nat → α, ys = (List.range ys.length).map (fun i => mk (f i)) ∧ ∀ i, i < ys.length → P (f i)
  | [], _ => ⟨fun _ => default, rfl, fun i h => absurd h (Nat.not_lt_zero _)⟩
  | y :: ys, h => by
    obtain ⟨a, e, p⟩ := h y List.mem_cons_self
    obtain ⟨f, e2, p2⟩ := fun_of ys fun z hz => h z (List.mem_cons_of_mem _ hz)
    refine ⟨fun i => match i with
      | 0 => a
      | i + 1 => f i, ?_, fun i hi => ?_⟩
    · rw [List.length_cons, List.range_succ_eq_map, List.map_cons, List.map_map]
      rw [e]
      congr 1
    · cases i with
      | zero => exact p
      | succ i => exact p2 i (by simpa using hi)
abbrev LE (s b tn mn rw_ fc rg kp wh tl r e k o x : Option D) : En := [s, b, tn, mn, rw_, fc, rg, kp, wh, tl, r, e, k, o, x]
section
variable {s tn mn rw_ fc rg kp wh tl r e o x : Option D}
theorem entsL : ∀ (ds : List D) (M : Nat) (b : D) (k : Option D), Bag M b → M + 8 * ds.length < 998000 → ∃ ys b' k', compL [12] (nameG 12) yesT (callB F__law_entry 1 (nilA)) ds (LE s (some b) tn mn rw_ fc rg kp wh tl r e k o x) = some (ys, LE s (some b') tn mn rw_ fc rg kp wh tl r e k' o x) ∧
    ys.length = ds.length ∧ (∀ y ∈ ys, ∃ q, y = fq q ∧ Ent q) ∧ Bag (M + 8 * ds.length) b'
  | [], M, b, k, hb, _ => ⟨[], b, k, rfl, rfl, fun _ h => (nomatch h), hb⟩
  | d :: ds, M, b, k, hb, hm => by
    rw [List.length_cons] at hm
    obtain ⟨q, b1, e1, E1, B1⟩ := entry_ok hb (by omega)
    obtain ⟨ys, b2, k2, e2, l2, E2, B2⟩ := entsL ds (M + 8) b1 (some d) B1 (by omega)
    refine ⟨fq q :: ys, b2, k2, ?_, by rw [List.length_cons, List.length_cons, l2], fun y hy => ?_, B2.mono (by rw [List.length_cons]; omega)⟩
    · have c := callB_eq (F := F__law_entry) (i := 1) (fr := nilA) (ρ := LE s (some b) tn mn rw_ fc rg kp wh tl r e (some d) o x) (nilA_eq _) rfl e1
      show (some (LE s (some b) tn mn rw_ fc rg kp wh tl r e (some d) o x)).bind _ = _
      simp only [Option.bind_some, yesT, if_true, c]
      show Option.map _ (compL [12] (nameG 12) yesT (callB F__law_entry 1 nilA) ds (LE s (some b1) tn mn rw_ fc rg kp wh tl r e (some d) o x)) = _
      rw [e2]
      rfl
    · rcases List.mem_cons.mp hy with rfl | hy
      · exact ⟨q, rfl, E1⟩
      · exact E2 y hy
theorem ents_ok {m M : Nat} {b : D} {k : Option D} (hm : m ≤ 4) (hb : Bag M b) (hM : M + 8 * m < 998000) : ∃ (f : Nat → Rat) (b' : D), compE (rngE (consA (varE 3) (nilA))) [12] (nameG 12) (yesT) (callB F__law_entry 1 (nilA)) (LE s (some b) tn (some (.int (m : Nat))) rw_ fc rg kp wh tl r e k o x) = some (ro m f, LE s (some b') tn (some (.int (m : Nat))) rw_ fc rg kp wh tl r e k o x) ∧
    (∀ j, j < m → Ent (f j)) ∧ Bag (M + 8 * m) b' := by
  obtain ⟨ys, b', k', e1, l1, E1, B1⟩ := entsL (s := s) (tn := tn) (mn := some (.int (m : Nat))) (rw_ := rw_) (fc := fc) (rg := rg) (kp := kp) (wh := wh) (tl := tl) (r := r) (e := e) (o := o) (x := x) ((List.range m).map fun i => .int (i : Nat)) M b k hb (by simpa using hM)
  simp only [List.length_map, List.length_range] at l1 B1
  obtain ⟨f, hf, hE⟩ := fun_of (mk := fq) (P := Ent) ys E1
  rw [l1] at hf hE
  refine ⟨f, b', ?_, hE, B1⟩
  have it := rng1_eq (n := m) (f := varE 3) (ρ := LE s (some b) tn (some (.int (m : Nat))) rw_ fc rg kp wh tl r e k o x) rfl (by omega)
  unfold compE
  rw [it, Option.bind_some, e1, Option.map_some, hf]
  cases k <;> rfl
theorem rowsL {m : Nat} (hm : m ≤ 4) : ∀ (ds : List D) (M : Nat) (b : D) (k : Option D), Bag M b → M + 32 * ds.length < 998000 → ∃ ys b' k', compL [12] (nameG 12) yesT (clE (g1 tupleD) (consA (compE (rngE (consA (varE 3) (nilA))) [12] (nameG 12) (yesT) (callB F__law_entry 1 (nilA))) nilA)) ds (LE s (some b) tn (some (.int (m : Nat))) rw_ fc rg kp wh tl r e k o x) = some (ys, LE s (some b') tn (some (.int (m : Nat))) rw_ fc rg kp wh tl r e k' o x) ∧
    ys.length = ds.length ∧ (∀ y ∈ ys, ∃ f : Nat → Rat, y = rt m f ∧ ∀ j, j < m → Ent (f j)) ∧ Bag (M + 32 * ds.length) b'
  | [], M, b, k, hb, _ => ⟨[], b, k, rfl, rfl, fun _ h => (nomatch h), hb⟩
  | d :: ds, M, b, k, hb, hM => by
    rw [List.length_cons] at hM
    obtain ⟨f, b1, e1, E1, B1⟩ := ents_ok (s := s) (tn := tn) (rw_ := rw_) (fc := fc) (rg := rg) (kp := kp) (wh := wh) (tl := tl) (r := r) (e := e) (o := o) (x := x) (k := some d) hm hb (by omega)
    obtain ⟨ys, b2, k2, e2, l2, E2, B2⟩ := rowsL hm ds (M + 32) b1 (some d) (B1.mono (by omega)) (by omega)
    refine ⟨rt m f :: ys, b2, k2, ?_, by rw [List.length_cons, List.length_cons, l2], fun y hy => ?_, B2.mono (by rw [List.length_cons]; omega)⟩
    · have c : clE (g1 tupleD) (consA (compE (rngE (consA (varE 3) (nilA))) [12] (nameG 12) (yesT) (callB F__law_entry 1 (nilA))) nilA) (LE s (some b) tn (some (.int (m : Nat))) rw_ fc rg kp wh tl r e (some d) o x) = some (rt m f, LE s (some b1) tn (some (.int (m : Nat))) rw_ fc rg kp wh tl r e (some d) o x) := clE_eq (consA_eq e1 (nilA_eq _)) rfl
      show (some (LE s (some b) tn (some (.int (m : Nat))) rw_ fc rg kp wh tl r e (some d) o x)).bind _ = _
      simp only [Option.bind_some, yesT, if_true, c]
      rw [e2]
      rfl
    · rcases List.mem_cons.mp hy with rfl | hy
      · exact ⟨f, rfl, E1⟩
      · exact E2 y hy
theorem rows_ok {m M : Nat} {b : D} {k : Option D} (hm : m ≤ 4) (hb : Bag M b) (hM : M + 32 * m < 998000) : ∃ (t : Nat → Nat → Rat) (b' : D), compE (rngE (consA (varE 3) (nilA))) [12] (nameG 12) (yesT) (clE (g1 tupleD) (consA (compE (rngE (consA (varE 3) (nilA))) [12] (nameG 12) (yesT) (callB F__law_entry 1 (nilA))) nilA)) (LE s (some b) tn (some (.int (m : Nat))) rw_ fc rg kp wh tl r e k o x) = some (rl m m t, LE s (some b') tn (some (.int (m : Nat))) rw_ fc rg kp wh tl r e k o x) ∧
    (∀ i j, i < m → j < m → Ent (t i j)) ∧ Bag (M + 32 * m) b' := by
  obtain ⟨ys, b', k', e1, l1, E1, B1⟩ := rowsL (s := s) (tn := tn) (rw_ := rw_) (fc := fc) (rg := rg) (kp := kp) (wh := wh) (tl := tl) (r := r) (e := e) (o := o) (x := x) hm ((List.range m).map fun i => .int (i : Nat)) M b k hb (by simpa using hM)
  simp only [List.length_map, List.length_range] at l1 B1
  obtain ⟨t, hf, hE⟩ := fun_of (mk := rt m) (P := fun f => ∀ j, j < m → Ent (f j)) ys E1
  rw [l1] at hf hE
  refine ⟨t, b', ?_, fun i j hi hj => hE i hi j hj, B1⟩
  have it := rng1_eq (n := m) (f := varE 3) (ρ := LE s (some b) tn (some (.int (m : Nat))) rw_ fc rg kp wh tl r e k o x) rfl (by omega)
  unfold compE
  rw [it, Option.bind_some]
  unfold compE at e1
  rw [e1, Option.map_some, hf]
  cases k <;> rfl
end
/-! rows with one denominator -/
theorem ent_div {x : Rat} (h : Ent x) : ∃ p : Int, p.natAbs < 2 ^ 61 ∧ x = Rat.divInt p 1407000 := by
  obtain ⟨h1, ⟨q, hq⟩, h3⟩ := h
  have dp : 0 < x.den := by have := x.den_nz; omega
  have q0 : q ≠ 0 := fun z => by rw [z, Nat.mul_zero] at hq; omega
  have ql : q ≤ 1407000 := by
    rw [hq]
    exact Nat.le_mul_of_pos_left q dp
  refine ⟨q * x.num, ?_, ?_⟩
  · rw [Int.natAbs_mul]
    show q * _ < _
    have := Nat.mul_lt_mul_of_le_of_lt ql h1 (by omega : 0 < 1407000)
    exact Nat.lt_trans this (by decide)
  · rw [show (1407000 : Int) = q * x.den by
      have : ((1407000 : Nat) : Int) = ((x.den * q : Nat) : Int) := by rw [← hq]
      rw [Int.natCast_mul, Int.mul_comm] at this
      exact this, Rat.divInt_mul_left (by omega), Rat.num_divInt_den]
theorem br_ent {n : Nat} {f : Nat → Rat} (h : ∀ j, j < n + 1 → Ent (f j)) : Br 101 (n + 1) f := by
  have h2 : ∀ j, ∃ p : Int, j < n + 1 → p.natAbs < 2 ^ 61 ∧ f j = Rat.divInt p 1407000 := fun j => by
    by_cases hj : j < n + 1
    · obtain ⟨p, a, b⟩ := ent_div (h j hj)
      exact ⟨p, fun _ => ⟨a, b⟩⟩
    · exact ⟨0, fun z => absurd z hj⟩
  refine ⟨1407000, fun j => Classical.choose (h2 j), by decide, by decide, fun j hj => ?_⟩
  obtain ⟨a, b⟩ := Classical.choose_spec (h2 j) hj
  exact ⟨Nat.lt_trans a (by decide), b⟩
theorem br_fac {n : Nat} {f : Nat → Rat} {c y : Rat} (hc : Ent c) (hy : Ent y) (h : ∀ j, j < n → Ent (f j)) : Br 101 (n + 1) fun j => if j < n then c * f j else y := by
  have h2 : ∀ j, ∃ p : Int, j < n → p.natAbs < 2 ^ 61 ∧ f j = Rat.divInt p 1407000 := fun j => by
    by_cases hj : j < n
    · obtain ⟨p, a, b⟩ := ent_div (h j hj)
      exact ⟨p, fun _ => ⟨a, b⟩⟩
    · exact ⟨0, fun z => absurd z hj⟩
  obtain ⟨yp, y1, y2⟩ := ent_div hy
  have dp : 0 < c.den := by have := c.den_nz; omega
  refine ⟨c.den * 1407000, fun j => if j < n then c.num * Classical.choose (h2 j) else c.den * yp, by omega, ?_, fun j hj => ?_⟩
  · have := Nat.mul_le_mul_right 1407000 hc.2.2
    exact Nat.lt_of_le_of_lt this (by decide)
  · by_cases l : j < n
    · obtain ⟨a, b⟩ := Classical.choose_spec (h2 j) l
      simp only [if_pos l]
      constructor
      · rw [Int.natAbs_mul]
        have := Nat.mul_lt_mul'' hc.1 a
        exact Nat.lt_of_lt_of_le this (by rw [← Nat.pow_add]; exact Nat.le_refl _)
      · conv => lhs; rw [b, ← Rat.num_divInt_den c]
        rw [Rat.divInt_mul_divInt, Int.natCast_mul]
        rfl
    · simp only [if_neg l]
      constructor
      · rw [Int.natAbs_mul]
        show c.den * _ < _
        have := Nat.mul_lt_mul_of_le_of_lt hc.2.2 y1 (by omega : 0 < 1000)
        exact Nat.lt_trans this (by decide)
      · rw [y2, Int.natCast_mul, show ((1407000 : Nat) : Int) = 1407000 from rfl, Rat.divInt_mul_left (by omega)]
theorem ent_sz {x : Rat} (h : Ent x) : Sz 41 x := ⟨Nat.lt_trans h.1 (by decide), Nat.lt_of_le_of_lt h.2.2 (by decide)⟩
end Lay

namespace Lay
open PySem PySem.Spec PyProof.Rows L2

/-! ## one turn of the law -/
noncomputable abbrev q1 : XS := setS 3 (callB F__law_some 1 (consA (lstE (consA (cE (.int 2)) (consA (cE (.int 3)) (consA (cE (.int 1)) (consA (cE (.int 4)) (consA (cE (.int 0)) (nilA))))))) (nilA)))
noncomputable abbrev q2 : XS := ownS 4 (compE (rngE (consA (varE 3) (nilA))) [12] (nameG 12) (yesT) (clE (g1 tupleD) (consA (compE (rngE (consA (varE 3) (nilA))) [12] (nameG 12) (yesT) (callB F__law_entry 1 (nilA))) nilA)))
noncomputable abbrev q3 : XS := ifS (andT (tE (opE gtI (varE 3) (cE (.int 1)))) (tE (opE eqD (callB F__law_take 1 (consA (cE (.int 3)) (nilA))) (cE (.int 0))))) (seqS (setS 5 (callB F__law_entry 1 (nilA))) (seqS (setiS 4 (unE negD (cE (.int 1))) (clE (g1 tupleD) (consA (compE (itE (ixoE 4 (cE (.int 0)))) [13] (nameG 13) (yesT) (clE F__law_multiplied (consA (varE 5) (consA (varE 13) (nilA))))) nilA))) (killS [5]))) (nopS)
noncomputable abbrev q4 : XS := setS 6 (compE (rngE (consA (varE 3) (nilA))) [12] (nameG 12) (yesT) (callB F__law_entry 1 (nilA)))
noncomputable abbrev q5 : XS := parS 7 8 (consA (clE (g1 reprD) (consA (lstE (consA (varE 4) (consA (varE 6) (nilA)))) nilA)) (consA (clE (F__law_whole 6) (consA (varE 4) (nilA))) (nilA)))
noncomputable abbrev q6 : XS := setS 9 (clE F_solved (consA (varE 4) (consA (varE 6) (nilA))))
noncomputable abbrev q7 : XS := ifS (orT (notT (tE (clE F__law_alike (consA (clE F_solved (consA (clE (g1 tupleD) (consA (varE 4) nilA)) (consA (clE (g1 tupleD) (consA (varE 6) nilA)) (nilA)))) (consA (varE 9) (nilA)))))) (tE (opE neD (clE (g1 reprD) (consA (lstE (consA (varE 4) (consA (varE 6) (nilA)))) nilA)) (varE 7)))) (seqS (retS (cE (.bool false))) (nopS)) (nopS)
noncomputable abbrev q8 : XS := ifS (tE (opE neD (opE isND (varE 9) (cE .none)) (opE eqD (opE ixD (varE 8) (cE (.int 0))) (cE (.int 0))))) (seqS (retS (cE (.bool false))) (nopS)) (nopS)
noncomputable abbrev q9 : XS := ifS (tE (opE notND (varE 9) (cE .none))) (seqS (ifS (orT (notT (tE (isiE "tuple" (varE 9)))) (tE (opE neD (compE (itE (varE 9)) [13] (nameG 13) (notT (tE (clE F__law_is_fraction (consA (varE 13) (nilA))))) (varE 13)) (lstE (nilA))))) (seqS (retS (cE (.bool false))) (nopS)) (nopS)) (seqS (ifS (tE (opE neD (clE (g1 lenD) (consA (varE 9) nilA)) (varE 3))) (seqS (retS (cE (.bool false))) (nopS)) (nopS)) (seqS (forS (zipE (consA (varE 4) (consA (varE 6) (nilA)))) (tupG (consG (nameG 10) (consG (nameG 11) (nilG)))) (seqS (ifS (tE (opE neD (clE F__law_total (consA (compE (zipE (consA (varE 10) (consA (varE 9) (nilA)))) [13, 14] (tupG (consG (nameG 13) (consG (nameG 14) (nilG)))) (yesT) (clE F__law_multiplied (consA (varE 13) (consA (varE 14) (nilA))))) (nilA))) (varE 11))) (seqS (retS (cE (.bool false))) (nopS)) (nopS)) (killS [10, 11]))) (killS [10, 11])))) (nopS)
noncomputable abbrev q10 : XS := killS [2, 3, 4, 5, 6, 7, 8, 9, 10, 11]
noncomputable abbrev i1 : XS := ifS (orT (notT (tE (isiE "tuple" (varE 9)))) (tE (opE neD (compE (itE (varE 9)) [13] (nameG 13) (notT (tE (clE F__law_is_fraction (consA (varE 13) (nilA))))) (varE 13)) (lstE (nilA))))) (seqS (retS (cE (.bool false))) (nopS)) (nopS)
noncomputable abbrev i2 : XS := ifS (tE (opE neD (clE (g1 lenD) (consA (varE 9) nilA)) (varE 3))) (seqS (retS (cE (.bool false))) (nopS)) (nopS)
noncomputable abbrev i3 : XS := forS (zipE (consA (varE 4) (consA (varE 6) (nilA)))) (tupG (consG (nameG 10) (consG (nameG 11) (nilG)))) (seqS (ifS (tE (opE neD (clE F__law_total (consA (compE (zipE (consA (varE 10) (consA (varE 9) (nilA)))) [13, 14] (tupG (consG (nameG 13) (consG (nameG 14) (nilG)))) (yesT) (clE F__law_multiplied (consA (varE 13) (consA (varE 14) (nilA))))) (nilA))) (varE 11))) (seqS (retS (cE (.bool false))) (nopS)) (nopS)) (killS [10, 11]))
noncomputable abbrev i4 : XS := killS [10, 11]
noncomputable abbrev j1 : XS := ifS (tE (opE neD (clE F__law_total (consA (compE (zipE (consA (varE 10) (consA (varE 9) (nilA)))) [13, 14] (tupG (consG (nameG 13) (consG (nameG 14) (nilG)))) (yesT) (clE F__law_multiplied (consA (varE 13) (consA (varE 14) (nilA))))) (nilA))) (varE 11))) (seqS (retS (cE (.bool false))) (nopS)) (nopS)
noncomputable abbrev j2 : XS := killS [10, 11]
noncomputable abbrev turnB : XS := (seqS q1 (seqS q2 (seqS q3 (seqS q4 (seqS q5 (seqS q6 (seqS q7 (seqS q8 (seqS q9 q10)))))))))
noncomputable abbrev someB : XS := (seqS i1 (seqS i2 (seqS i3 i4)))
noncomputable abbrev rowB : XS := (seqS j1 j2)
noncomputable abbrev c3 : XT := (andT (tE (opE gtI (varE 3) (cE (.int 1)))) (tE (opE eqD (callB F__law_take 1 (consA (cE (.int 3)) (nilA))) (cE (.int 0)))))
noncomputable abbrev c7 : XT := (orT (notT (tE (clE F__law_alike (consA (clE F_solved (consA (clE (g1 tupleD) (consA (varE 4) nilA)) (consA (clE (g1 tupleD) (consA (varE 6) nilA)) (nilA)))) (consA (varE 9) (nilA)))))) (tE (opE neD (clE (g1 reprD) (consA (lstE (consA (varE 4) (consA (varE 6) (nilA)))) nilA)) (varE 7))))
noncomputable abbrev c8 : XT := (tE (opE neD (opE isND (varE 9) (cE .none)) (opE eqD (opE ixD (varE 8) (cE (.int 0))) (cE (.int 0)))))
noncomputable abbrev c9 : XT := (tE (opE notND (varE 9) (cE .none)))
noncomputable abbrev ci1 : XT := (orT (notT (tE (isiE "tuple" (varE 9)))) (tE (opE neD (compE (itE (varE 9)) [13] (nameG 13) (notT (tE (clE F__law_is_fraction (consA (varE 13) (nilA))))) (varE 13)) (lstE (nilA)))))
noncomputable abbrev ci2 : XT := (tE (opE neD (clE (g1 lenD) (consA (varE 9) nilA)) (varE 3)))
noncomputable abbrev cj1 : XT := (tE (opE neD (clE F__law_total (consA (compE (zipE (consA (varE 10) (consA (varE 9) (nilA)))) [13, 14] (tupG (consG (nameG 13) (consG (nameG 14) (nilG)))) (yesT) (clE F__law_multiplied (consA (varE 13) (consA (varE 14) (nilA))))) (nilA))) (varE 11)))

/-- what a drawn table keeps -/
def RowOk (n : Nat) (t : Nat → Nat → Rat) : Prop := (∀ i j, i < n → j < n → Sz 101 (t i j)) ∧ ∀ i, i < n → ∀ y, Ent y → Br 101 (n + 1) fun j => if j < n then t i j else y
theorem rowOk_plain {n : Nat} {t : Nat → Nat → Rat} (h : ∀ i j, i < n → j < n → Ent (t i j)) : RowOk n t := ⟨fun i j hi hj => (ent_sz (h i j hi hj)).mono (by omega), fun i hi y hy => br_ent fun j _ => by
  by_cases l : j < n
  · rw [if_pos l]; exact h i j hi l
  · rw [if_neg l]; exact hy⟩
theorem rowOk_fac {n : Nat} {t : Nat → Nat → Rat} {c : Rat} (h : ∀ i j, i < n → j < n → Ent (t i j)) (hc : Ent c) : RowOk n fun i j => if i = n - 1 then c * t 0 j else t i j := ⟨fun i j hi hj => by
  by_cases e : i = n - 1
  · simp only [if_pos e]
    exact ((Bq.of (ent_sz hc)).mul (Bq.of (ent_sz (h 0 j (by omega) hj)))).sz.mono (by omega)
  · simp only [if_neg e]
    exact (ent_sz (h i j hi hj)).mono (by omega), fun i hi y hy => by
  by_cases e : i = n - 1
  · simp only [if_pos e]
    exact br_fac hc hy fun j hj => h 0 j (by omega) hj
  · simp only [if_neg e]
    exact br_ent fun j _ => by
      by_cases l : j < n
      · rw [if_pos l]; exact h i j hi l
      · rw [if_neg l]; exact hy⟩
section
variable {s tn : Option D}
theorem q1_ok {M : Nat} {b : D} (hb : Bag M b) (hM : M < 900000) : ∃ (n : Nat) (b' : D), n ≤ 4 ∧ q1 (LE s (some b) tn none none none none none none none none none none none none) = .nx (LE s (some b') tn (some (.int (n : Nat))) none none none none none none none none none none none) ∧ Bag (M + 1) b' := by
  obtain ⟨d, b', e, hd, B⟩ := some_ok (ds := [.int 2, .int 3, .int 1, .int 4, .int 0]) hb (by omega) (by simp) (by simp)
  obtain ⟨n, hn, hd⟩ : ∃ n : Nat, n ≤ 4 ∧ d = .int (n : Nat) := by
    simp only [List.mem_cons, List.not_mem_nil, or_false] at hd
    rcases hd with rfl | rfl | rfl | rfl | rfl
    · exact ⟨2, by omega, rfl⟩
    · exact ⟨3, by omega, rfl⟩
    · exact ⟨1, by omega, rfl⟩
    · exact ⟨4, by omega, rfl⟩
    · exact ⟨0, by omega, rfl⟩
  subst hd
  refine ⟨n, b', hn, ?_, B⟩
  have := setS_eq (i := 3) (callB_eq (F := F__law_some) (i := 1) (fr := consA (lstE (consA (cE (.int 2)) (consA (cE (.int 3)) (consA (cE (.int 1)) (consA (cE (.int 4)) (consA (cE (.int 0)) (nilA))))))) (nilA)) (ρ := LE s (some b) tn none none none none none none none none none none none none) (as := [.list [.int 2, .int 3, .int 1, .int 4, .int 0]]) rfl rfl e)
  exact this
theorem q2_ok {n M : Nat} {b : D} (hn : n ≤ 4) (hb : Bag M b) (hM : M < 900000) : ∃ (t : Nat → Nat → Rat) (b' : D), q2 (LE s (some b) tn (some (.int (n : Nat))) none none none none none none none none none none none) = .nx (LE s (some b') tn (some (.int (n : Nat))) (some (rl n n t)) none none none none none none none none none none) ∧ (∀ i j, i < n → j < n → Ent (t i j)) ∧ Bag (M + 128) b' := by
  obtain ⟨t, b', e, E, B⟩ := rows_ok (s := s) (tn := tn) (rw_ := none) (fc := none) (rg := none) (kp := none) (wh := none) (tl := none) (r := none) (e := none) (o := none) (x := none) (k := none) hn hb (by omega)
  exact ⟨t, b', ownS_eq (by simp) e, E, B.mono (by omega)⟩
theorem q3_ok {n M : Nat} {b : D} {t : Nat → Nat → Rat} (hn : n ≤ 4) (hb : Bag M b) (hM : M < 900000) (E : ∀ i j, i < n → j < n → Ent (t i j)) : ∃ (t' : Nat → Nat → Rat) (b' : D), q3 (LE s (some b) tn (some (.int (n : Nat))) (some (rl n n t)) none none none none none none none none none none) = .nx (LE s (some b') tn (some (.int (n : Nat))) (some (rl n n t')) none none none none none none none none none none) ∧ RowOk n t' ∧ Bag (M + 9) b' := by
  have a1 : tE (opE gtI (varE 3) (cE (.int 1))) (LE s (some b) tn (some (.int (n : Nat))) (some (rl n n t)) none none none none none none none none none none) = some (decide ((1 : Int) < n), LE s (some b) tn (some (.int (n : Nat))) (some (rl n n t)) none none none none none none none none none none) := tE_eq (opE_eq (varE_eq rfl) rfl rfl)
  by_cases h : (1 : Int) < n
  · rw [decide_eq_true h] at a1
    obtain ⟨v, b1, e1, v0, v1, B1⟩ := take_ok (many := 3) hb (by omega) (by omega) (by omega)
    have c1 := callB_eq (F := F__law_take) (i := 1) (fr := consA (cE (.int 3)) (nilA)) (ρ := LE s (some b) tn (some (.int (n : Nat))) (some (rl n n t)) none none none none none none none none none none) (as := [.int 3]) rfl rfl e1
    have a2 : tE (opE eqD (callB F__law_take 1 (consA (cE (.int 3)) (nilA))) (cE (.int 0))) (LE s (some b) tn (some (.int (n : Nat))) (some (rl n n t)) none none none none none none none none none none) = some (decide (v = 0), LE s (some b1) tn (some (.int (n : Nat))) (some (rl n n t)) none none none none none none none none none none) := tE_eq (opE_eq c1 rfl (by simp only [eqD, eqB_int, Option.map_some]))
    have cc : c3 (LE s (some b) tn (some (.int (n : Nat))) (some (rl n n t)) none none none none none none none none none none) = some (decide (v = 0), LE s (some b1) tn (some (.int (n : Nat))) (some (rl n n t)) none none none none none none none none none none) := by
      unfold c3 andT
      rw [a1, Option.bind_some, if_pos rfl, a2]
    by_cases q : v = 0
    · rw [decide_eq_true q] at cc
      obtain ⟨c, b2, e2, Ec, B2⟩ := entry_ok B1 (by omega)
      have s1 : setS 5 (callB F__law_entry 1 (nilA)) (LE s (some b1) tn (some (.int (n : Nat))) (some (rl n n t)) none none none none none none none none none none) = .nx (LE s (some b2) tn (some (.int (n : Nat))) (some (rl n n t)) (some (fq c)) none none none none none none none none none) := setS_eq (callB_eq (F := F__law_entry) (i := 1) (fr := nilA) (nilA_eq _) rfl e2)
      let ρ : En := LE s (some b2) tn (some (.int (n : Nat))) (some (rl n n t)) (some (fq c)) none none none none none none none none none
      have i0 : ixoE 4 (cE (.int 0)) ρ = some (rt n (t 0), ρ) := by
        have : L2.atI ((List.range n).map fun i => rt n (t i)) ((0 : Nat) : Int) = some (rt n (t 0)) := by
          rw [atI_nat (by simp; omega)]
          simp [show 0 < n by omega]
        unfold ixoE
        simp only [cE, ρ, getL, List.getElem?_cons_succ, List.getElem?_cons_zero, rl]
        rw [show (0 : Int) = ((0 : Nat) : Int) from rfl, this]
        rfl
      have cp : compE (itE (ixoE 4 (cE (.int 0)))) [13] (nameG 13) (yesT) (clE F__law_multiplied (consA (varE 5) (consA (varE 13) (nilA)))) ρ = some (ro n fun j => c * t 0 j, ρ) := by
        refine compE_onA (ds := List.range n) (fun j => fq (t 0 j)) (fun j => fq (c * t 0 j)) (ls := (List.range n).map fun j => fq (t 0 j)) ?_ rfl fun j hj => ?_
        · unfold itE
          rw [i0]
          rfl
        · have hj : j < n := by simpa using hj
          refine ⟨LE s (some b2) tn (some (.int (n : Nat))) (some (rl n n t)) (some (fq c)) none none none none none none none (some (fq (t 0 j))) none, rfl, rfl, ?_⟩
          exact clE_eq (as := [fq c, fq (t 0 j)]) rfl (ltimes_eq (ent_sz Ec) (ent_sz (E 0 j (by omega) hj)) (by omega))
      have tp : clE (g1 tupleD) (consA (compE (itE (ixoE 4 (cE (.int 0)))) [13] (nameG 13) (yesT) (clE F__law_multiplied (consA (varE 5) (consA (varE 13) (nilA))))) nilA) ρ = some (rt n fun j => c * t 0 j, ρ) := clE_eq (consA_eq cp (nilA_eq _)) rfl
      have s2 : setiS 4 (unE negD (cE (.int 1))) (clE (g1 tupleD) (consA (compE (itE (ixoE 4 (cE (.int 0)))) [13] (nameG 13) (yesT) (clE F__law_multiplied (consA (varE 5) (consA (varE 13) (nilA))))) nilA)) ρ = .nx (LE s (some b2) tn (some (.int (n : Nat))) (some (rl n n fun i j => if i = n - 1 then c * t 0 j else t i j)) (some (fq c)) none none none none none none none none none) := by
        have ng : unE negD (cE (.int 1)) ρ = some (.int (-1), ρ) := rfl
        have ix : L2.ixN n (-1) = some (n - 1) := by
          unfold L2.ixN
          rw [if_neg (by omega), if_pos (by omega)]
          congr 1
          omega
        have st : PyData.list (((List.range n).map fun i => rt n (t i)).set (n - 1) (rt n fun j => c * t 0 j)) = rl n n fun i j => if i = n - 1 then c * t 0 j else t i j := by
          unfold rl
          congr 1
          refine List.ext_getElem? fun a => ?_
          rw [List.getElem?_set, List.getElem?_map, List.getElem?_map]
          by_cases h : n - 1 = a
          · subst h
            simp [show n - 1 < n by omega]
          · by_cases l : a < n
            · simp [l, h, Ne.symm h]
            · simp [l, h]
        unfold setiS
        rw [tp]
        simp only []
        rw [ng]
        simp only [ρ, getL, List.getElem?_cons_succ, List.getElem?_cons_zero, rl, List.length_map, List.length_range, ix]
        rw [st]
        rfl
      refine ⟨fun i j => if i = n - 1 then c * t 0 j else t i j, b2, ?_, rowOk_fac E Ec, B2.mono (by omega)⟩
      refine (ifS_t cc).trans ?_
      rw [seqS_nx s1, seqS_nx s2]
      rfl
    · rw [decide_eq_false q] at cc
      exact ⟨t, b1, (ifS_f cc).trans rfl, rowOk_plain E, B1.mono (by omega)⟩
  · rw [decide_eq_false h] at a1
    have cc : c3 (LE s (some b) tn (some (.int (n : Nat))) (some (rl n n t)) none none none none none none none none none none) = some (false, LE s (some b) tn (some (.int (n : Nat))) (some (rl n n t)) none none none none none none none none none none) := by
      unfold c3 andT
      rw [a1]
      rfl
    exact ⟨t, b, (ifS_f cc).trans rfl, rowOk_plain E, hb.mono (by omega)⟩
theorem q4_ok {n M : Nat} {b : D} {t : Nat → Nat → Rat} (hn : n ≤ 4) (hb : Bag M b) (hM : M < 900000) (R : RowOk n t) : ∃ (t0 : Nat → Nat → Rat) (b' : D), q4 (LE s (some b) tn (some (.int (n : Nat))) (some (rl n n t)) none none none none none none none none none none) = .nx (LE s (some b') tn (some (.int (n : Nat))) (some (rl n n t0)) none (some (ro n fun i => t0 i n)) none none none none none none none none) ∧ (∀ i, i < n → Br 101 (n + 1) (t0 i)) ∧ Bag (M + 32) b' := by
  obtain ⟨f, b', e, E, B⟩ := ents_ok (s := s) (tn := tn) (rw_ := some (rl n n t)) (fc := none) (rg := none) (kp := none) (wh := none) (tl := none) (r := none) (e := none) (o := none) (x := none) (k := none) hn hb (by omega)
  refine ⟨fun i j => if j < n then t i j else f i, b', ?_, fun i hi => R.2 i hi (f i) (E i hi), B.mono (by omega)⟩
  have r1 : rl n n (fun i j => if j < n then t i j else f i) = rl n n t := by
    unfold rl rt
    congr 1
    refine List.map_congr_left fun i _ => ?_
    congr 1
    refine List.map_congr_left fun j hj => ?_
    have hj : j < n := by simpa using hj
    simp only [if_pos hj]
  have r2 : ro n (fun i => if n < n then t i n else f i) = ro n f := by
    unfold ro
    congr 1
    refine List.map_congr_left fun i _ => ?_
    simp only [if_neg (Nat.lt_irrefl n)]
  rw [r1, r2]
  exact setS_eq e
end
end Lay

namespace Lay
open PySem PySem.Spec PyProof.Rows L2

/-! ## what a turn checks -/
theorem eqB_bool (a b : Bool) : eqB (.bool a) (.bool b) = some (a == b) := rfl
theorem sol_uniq {n : Nat} {t : Nat → Nat → Rat} {x y : Nat → Rat} (hn : n ≤ 4) (nz : dt n t ≠ 0) (hx : ∀ i, i < n → sm n (fun j => t i j * x j) = t i n) (hy : ∀ i, i < n → sm n (fun j => t i j * y j) = t i n) : ∀ k, k < n → x k = y k := by
  intro k hk
  refine Classical.byContradiction fun ne => nz (dt_ker n k t (fun j => (x k - y k)⁻¹ * (x j - y j)) hn hk ?_ fun i hi => ?_)
  · have : x k - y k ≠ 0 := fun z => ne (by grind)
    grind
  · have e : (fun j => t i j * ((x k - y k)⁻¹ * (x j - y j))) = fun j => (x k - y k)⁻¹ * (t i j * x j + -1 * (t i j * y j)) := by
      funext j
      grind
    rw [e, sm_mul, sm_add, sm_mul, hx i hi, hy i hi]
    grind
theorem rt_congr {n : Nat} {x y : Nat → Rat} (h : ∀ k, k < n → x k = y k) : rt n x = rt n y := by
  unfold rt
  congr 1
  refine List.map_congr_left fun j hj => ?_
  rw [h j (by simpa using hj)]
theorem zip_rows {n : Nat} {t0 : Nat → Nat → Rat} : zipD ((List.range n).map fun i => rt n (t0 i)) ((List.range n).map fun i => fq (t0 i n)) = (List.range n).map fun i => .tuple [rt n (t0 i), fq (t0 i n)] := by
  unfold zipD
  rw [List.zip_map', List.map_map]
  rfl
section
variable {n : Nat} {t0 : Nat → Nat → Rat}
/-- both ways of handing the rows in have the same answer -/
theorem solved_both (hn : n ≤ 4) (B : ∀ i, i < n → Br 101 (n + 1) (t0 i)) : ∃ T : D, F_solved [rl n n t0, ro n fun i => t0 i n] = some T ∧ F_solved [.tuple ((List.range n).map fun i => rt n (t0 i)), .tuple ((List.range n).map fun i => fq (t0 i n))] = some T ∧
    ((dt n t0 = 0 ∧ T = .none) ∨ (dt n t0 ≠ 0 ∧ ∃ x : Nat → Rat, T = rt n x ∧ (∀ i, i < n → Bq 1631 (x i)) ∧ ∀ i, i < n → sm n (fun j => t0 i j * x j) = t0 i n)) := by
  have z1 : zipE (consA (varE 0) (consA (varE 1) (nilA))) [some (rl n n t0), some (ro n fun i => t0 i n), none, none, none, none, none, none, none] = some ((List.range n).map fun i => .tuple [rt n (t0 i), fq (t0 i n)], [some (rl n n t0), some (ro n fun i => t0 i n), none, none, none, none, none, none, none]) := by
    have : zipE (consA (varE 0) (consA (varE 1) (nilA))) [some (rl n n t0), some (ro n fun i => t0 i n), none, none, none, none, none, none, none] = some (zipD ((List.range n).map fun i => rt n (t0 i)) ((List.range n).map fun i => fq (t0 i n)), [some (rl n n t0), some (ro n fun i => t0 i n), none, none, none, none, none, none, none]) := rfl
    rw [this, zip_rows]
  have z2 : zipE (consA (varE 0) (consA (varE 1) (nilA))) [some (.tuple ((List.range n).map fun i => rt n (t0 i))), some (.tuple ((List.range n).map fun i => fq (t0 i n))), none, none, none, none, none, none, none] = some ((List.range n).map fun i => .tuple [rt n (t0 i), fq (t0 i n)], [some (.tuple ((List.range n).map fun i => rt n (t0 i))), some (.tuple ((List.range n).map fun i => fq (t0 i n))), none, none, none, none, none, none, none]) := by
    have : zipE (consA (varE 0) (consA (varE 1) (nilA))) [some (.tuple ((List.range n).map fun i => rt n (t0 i))), some (.tuple ((List.range n).map fun i => fq (t0 i n))), none, none, none, none, none, none, none] = some (zipD ((List.range n).map fun i => rt n (t0 i)) ((List.range n).map fun i => fq (t0 i n)), [some (.tuple ((List.range n).map fun i => rt n (t0 i))), some (.tuple ((List.range n).map fun i => fq (t0 i n))), none, none, none, none, none, none, none]) := rfl
    rw [this, zip_rows]
  rcases solved_eq hn B z1 with ⟨d1, e1⟩ | ⟨d1, x, e1, b1, s1⟩
  · rcases solved_eq hn B z2 with ⟨d2, e2⟩ | ⟨d2, y, e2, b2, s2⟩
    · exact ⟨.none, e1, e2, .inl ⟨d1, rfl⟩⟩
    · exact absurd d1 d2
  · rcases solved_eq hn B z2 with ⟨d2, e2⟩ | ⟨d2, y, e2, b2, s2⟩
    · exact absurd d2 d1
    · exact ⟨rt n x, e1, by rw [e2, rt_congr (sol_uniq hn d1 s1 s2)], .inr ⟨d1, x, rfl, b1, s1⟩⟩
variable {s tn : Option D} {b : D}
abbrev E6 (s : Option D) (b : D) (tn : Option D) (n : Nat) (t0 : Nat → Nat → Rat) (kp wh tl r e : Option D) : En := LE s (some b) tn (some (.int (n : Nat))) (some (rl n n t0)) none (some (ro n fun i => t0 i n)) kp wh tl r e none none none
theorem shown_ok (hn : n ≤ 4) (B : ∀ i, i < n → Br 101 (n + 1) (t0 i)) : reprD (.list [rl n n t0, ro n fun i => t0 i n]) = some (.str (PyData.list [rl n n t0, ro n fun i => t0 i n]).shown) := by
  have bq : ∀ i j, i < n → j < n + 1 → Sz 1900 (t0 i j) := fun i j hi hj => ((B i hi).at hj).sz.mono (by omega)
  refine repr_eq (k := 4) (B := 2 * (61660 + 2) + 4) (sh_list fun d hd => ?_) (tx_list (B := 61660) (n := 2) (fun d hd => ?_) (by simp)) (by decide) (by decide)
  · simp only [List.mem_cons, List.not_mem_nil, or_false] at hd
    rcases hd with rfl | rfl
    · exact sh_rl _ _ _
    · exact (sh_ro _ _).mono (by omega)
  · simp only [List.mem_cons, List.not_mem_nil, or_false] at hd
    rcases hd with rfl | rfl
    · exact tx_rl hn hn fun i j hi hj => bq i j hi (by omega)
    · exact (tx_ro hn fun j hj => bq j n hj (by omega)).mono (by omega)
theorem lst2 (kp wh tl r e : Option D) : lstE (consA (varE 4) (consA (varE 6) (nilA))) (E6 s b tn n t0 kp wh tl r e) = some (.list [rl n n t0, ro n fun i => t0 i n], E6 s b tn n t0 kp wh tl r e) := lstE_eq (consA_eq (varE_eq rfl) (consA_eq (varE_eq rfl) (nilA_eq _))) (by simp)
theorem checks (hn : n ≤ 4) (B : ∀ i, i < n → Br 101 (n + 1) (t0 i)) : (seqS q5 (seqS q6 (seqS q7 (seqS q8 (seqS q9 q10))))) (E6 s b tn n t0 none none none none none) = .nx (LE s (some b) none none none none none none none none none none none none none) := by
  obtain ⟨T, e1, e2, cs⟩ := solved_both hn B
  have sh := shown_ok hn B
  generalize hS : (PyData.list [rl n n t0, ro n fun i => t0 i n]).shown = S at sh
  have wq := whole_eq n 6 t0 hn (by omega) fun i j hi hj => (B i hi).at (by omega)
  have a5 : q5 (E6 s b tn n t0 none none none none none) = .nx (E6 s b tn n t0 (some (.str S)) (some (fq (dt n t0))) none none none) := by
    have : consA (clE (g1 reprD) (consA (lstE (consA (varE 4) (consA (varE 6) (nilA)))) nilA)) (consA (clE (F__law_whole 6) (consA (varE 4) (nilA))) (nilA)) (E6 s b tn n t0 none none none none none) = some ([.str S, fq (dt n t0)], E6 s b tn n t0 none none none none none) := consA_eq (clE_eq (consA_eq (lst2 _ _ _ _ _) (nilA_eq _)) sh) (consA_eq (clE_eq (consA_eq (varE_eq rfl) (nilA_eq _)) wq) (nilA_eq _))
    unfold q5 parS
    rw [this]
    rfl
  have a6 : q6 (E6 s b tn n t0 (some (.str S)) (some (fq (dt n t0))) none none none) = .nx (E6 s b tn n t0 (some (.str S)) (some (fq (dt n t0))) (some T) none none) := setS_eq (clE_eq (consA_eq (varE_eq rfl) (consA_eq (varE_eq rfl) (nilA_eq _))) e1)
  let ρ : En := E6 s b tn n t0 (some (.str S)) (some (fq (dt n t0))) (some T) none none
  have al : F__law_alike [T, T] = some (.bool true) := by
    rcases cs with ⟨_, rfl⟩ | ⟨_, x, rfl, bx, _⟩
    · exact alike_eq sh_none tx_none (by decide) (by decide) fun a z => by cases z
    · exact alike_eq (sh_rt n x) (tx_rt hn fun j hj => (bx j hj).sz.mono (by omega)) (by decide) (by decide) fun a z => by cases z
  have c7e : c7 ρ = some (false, ρ) := by
    have t1 : clE F__law_alike (consA (clE F_solved (consA (clE (g1 tupleD) (consA (varE 4) nilA)) (consA (clE (g1 tupleD) (consA (varE 6) nilA)) (nilA)))) (consA (varE 9) (nilA))) ρ = some (.bool true, ρ) := clE_eq (consA_eq (clE_eq (as := [.tuple ((List.range n).map fun i => rt n (t0 i)), .tuple ((List.range n).map fun i => fq (t0 i n))]) rfl e2) (consA_eq (varE_eq rfl) (nilA_eq _))) al
    have t2 : tE (opE neD (clE (g1 reprD) (consA (lstE (consA (varE 4) (consA (varE 6) (nilA)))) nilA)) (varE 7)) ρ = some (false, ρ) := by
      refine tE_eq (opE_eq (a := .str S) (b := .str S) (clE_eq (consA_eq (lst2 _ _ _ _ _) (nilA_eq _)) sh) (varE_eq rfl) ?_)
      simp only [neD, eqB_str, beq_self_eq_true, Option.map_some, Bool.not_true]
    unfold c7 orT notT
    rw [tE_eq t1]
    simp only [Option.map_some, Option.bind_some, Bool.not_true, Bool.false_eq_true, if_false, t2]
  have a7 : q7 ρ = .nx ρ := (ifS_f c7e).trans rfl
  have wz : opE eqD (opE ixD (varE 8) (cE (.int 0))) (cE (.int 0)) ρ = some (.bool (decide (dt n t0 = 0)), ρ) := by
    refine opE_eq (a := .int (dt n t0).num) (b := .int 0) (opE_eq (varE_eq rfl) rfl (ix0 _ _)) rfl ?_
    simp only [eqD, eqB_int, Option.map_some]
    congr 2
    by_cases z : dt n t0 = 0
    · rw [z]; rfl
    · have : (dt n t0).num ≠ 0 := fun q => z (Rat.num_eq_zero.mp q)
      simp [z, this]
  rcases cs with ⟨d0, rfl⟩ | ⟨d0, x, rfl, bx, sx⟩
  · have a8 : q8 ρ = .nx ρ := by
      have : c8 ρ = some (false, ρ) := by
        refine tE_eq (opE_eq (a := .bool true) (b := .bool (decide (dt n t0 = 0))) rfl wz ?_)
        rw [decide_eq_true d0]
        rfl
      exact (ifS_f this).trans rfl
    have a9 : q9 ρ = .nx ρ := (ifS_f (show c9 ρ = some (false, ρ) from rfl)).trans rfl
    rw [seqS_nx a5, seqS_nx a6, seqS_nx a7, seqS_nx a8, seqS_nx a9]
    rfl
  · have a8 : q8 ρ = .nx ρ := by
      have : c8 ρ = some (false, ρ) := by
        refine tE_eq (opE_eq (a := .bool false) (b := .bool (decide (dt n t0 = 0))) rfl wz ?_)
        rw [decide_eq_false d0]
        rfl
      exact (ifS_f this).trans rfl
    have b1 : i1 ρ = .nx ρ := by
      have cp : compE (itE (varE 9)) [13] (nameG 13) (notT (tE (clE F__law_is_fraction (consA (varE 13) (nilA))))) (varE 13) ρ = some (.list [], ρ) := by
        have := compE_on (ρ := ρ) (fi := itE (varE 9)) (vs := [13]) (fg := nameG 13) (ft := notT (tE (clE F__law_is_fraction (consA (varE 13) (nilA))))) (fe := varE 13) (ds := List.range n) (fun _ => false) (fun j => fq (x j)) (fun j => fq (x j)) (ls := (List.range n).map fun j => fq (x j)) rfl rfl fun j hj => by
          refine ⟨LE s (some b) tn (some (.int (n : Nat))) (some (rl n n t0)) none (some (ro n fun i => t0 i n)) (some (.str S)) (some (fq (dt n t0))) (some (rt n x)) none none none (some (fq (x j))) none, rfl, rfl, ?_, fun h => nomatch h⟩
          have := tE_eq (clE_eq (fa := consA (varE 13) (nilA)) (as := [fq (x j)]) (ρ := (LE s (some b) tn (some (.int (n : Nat))) (some (rl n n t0)) none (some (ro n fun i => t0 i n)) (some (.str S)) (some (fq (dt n t0))) (some (rt n x)) none none none (some (fq (x j))) none)) (ρ1 := (LE s (some b) tn (some (.int (n : Nat))) (some (rl n n t0)) none (some (ro n fun i => t0 i n)) (some (.str S)) (some (fq (dt n t0))) (some (rt n x)) none none none (some (fq (x j))) none)) (consA_eq (varE_eq rfl) (nilA_eq _)) (isfrac_eq (x j)))
          unfold notT
          rw [this]
          rfl
        rw [this]
        congr 3
        rw [List.filter_eq_nil_iff.mpr fun _ _ => by simp]
        rfl
      have : ci1 ρ = some (false, ρ) := by
        have t1 : notT (tE (isiE "tuple" (varE 9))) ρ = some (false, ρ) := by
          unfold notT
          rw [tE_eq (isi_tt _ 9 ρ rfl)]
          rfl
        have t2 : tE (opE neD (compE (itE (varE 9)) [13] (nameG 13) (notT (tE (clE F__law_is_fraction (consA (varE 13) (nilA))))) (varE 13)) (lstE (nilA))) ρ = some (false, ρ) := tE_eq (opE_eq (b := .list []) cp (lstE_eq (nilA_eq _) (by simp)) rfl)
        unfold ci1 orT
        rw [t1]
        simp only [Option.bind_some, Bool.false_eq_true, if_false, t2]
      exact (ifS_f this).trans rfl
    have b2 : i2 ρ = .nx ρ := by
      have : ci2 ρ = some (false, ρ) := by
        refine tE_eq (opE_eq (a := .int n) (b := .int n) (clE_eq (as := [rt n x]) rfl ?_) (varE_eq rfl) ?_)
        · simp only [g1, rt, lenD, List.length_map, List.length_range]
        · simp [neD, eqB_int]
      exact (ifS_f this).trans rfl
    have b3 : i3 ρ = .nx ρ := by
      have zi : zipE (consA (varE 4) (consA (varE 6) (nilA))) ρ = some ((List.range n).map fun i => .tuple [rt n (t0 i), fq (t0 i n)], ρ) := by
        have : zipE (consA (varE 4) (consA (varE 6) (nilA))) ρ = some (zipD ((List.range n).map fun i => rt n (t0 i)) ((List.range n).map fun i => fq (t0 i n)), ρ) := rfl
        rw [this, zip_rows]
      have step : ∀ (i : Nat) (d : D) (ρ' : En), ((List.range n).map fun i => PyData.tuple [rt n (t0 i), fq (t0 i n)])[i]? = some d → ρ' = ρ → ∃ ρ1 ρ2, tupG (consG (nameG 10) (consG (nameG 11) (nilG))) d ρ' = some ρ1 ∧ rowB ρ1 = .nx ρ2 ∧ ρ2 = ρ := by
        intro i d ρ' hd hp
        have hi : i < n := by
          rcases Nat.lt_or_ge i n with h | h
          · exact h
          · rw [List.getElem?_eq_none (by simpa using h)] at hd; cases hd
        have hd : d = .tuple [rt n (t0 i), fq (t0 i n)] := by
          rw [List.getElem?_map, List.getElem?_range hi] at hd
          exact (Option.some.inj hd).symm
        subst hd hp
        let ρ1 : En := E6 s b tn n t0 (some (.str S)) (some (fq (dt n t0))) (some (rt n x)) (some (rt n (t0 i))) (some (fq (t0 i n)))
        refine ⟨ρ1, _, rfl, ?_, rfl⟩
        have zz : zipD ((List.range n).map fun j => fq (t0 i j)) ((List.range n).map fun j => fq (x j)) = (List.range n).map fun j => .tuple [fq (t0 i j), fq (x j)] := zip_ro n (t0 i) x
        have cp : compE (zipE (consA (varE 10) (consA (varE 9) (nilA)))) [13, 14] (tupG (consG (nameG 13) (consG (nameG 14) (nilG)))) (yesT) (clE F__law_multiplied (consA (varE 13) (consA (varE 14) (nilA)))) ρ1 = some (ro n fun j => t0 i j * x j, ρ1) := by
          refine compE_onA (ds := List.range n) (fun j => .tuple [fq (t0 i j), fq (x j)]) (fun j => fq (t0 i j * x j)) (ls := zipD ((List.range n).map fun j => fq (t0 i j)) ((List.range n).map fun j => fq (x j))) rfl zz fun j hj => ?_
          have hj : j < n := by simpa using hj
          refine ⟨LE s (some b) tn (some (.int (n : Nat))) (some (rl n n t0)) none (some (ro n fun i => t0 i n)) (some (.str S)) (some (fq (dt n t0))) (some (rt n x)) (some (rt n (t0 i))) (some (fq (t0 i n))) none (some (fq (t0 i j))) (some (fq (x j))), rfl, rfl, ?_⟩
          exact clE_eq (as := [fq (t0 i j), fq (x j)]) rfl (ltimes_eq ((B i hi).at (j := j) (by omega)).sz (bx j hj).sz (by omega))
        have tt := total_eq (n := n) (s := 1732) (f := fun j => t0 i j * x j) hn (by omega) fun j hj => ((B i hi).at (j := j) (by omega)).mul (bx j hj)
        rw [sx i hi] at tt
        have c : cj1 ρ1 = some (false, ρ1) := by
          refine tE_eq (opE_eq (a := fq (t0 i n)) (b := fq (t0 i n)) (clE_eq (consA_eq cp (nilA_eq _)) tt) (varE_eq rfl) ?_)
          simp only [neD]
          rw [eqB_sh (sh_fq _) (sh_fq _) (by decide) (by decide) (fun a z => by cases z), eqv_refl _ (sh_fq _).1]
          rfl
        have j1e : j1 ρ1 = .nx ρ1 := (ifS_f c).trans rfl
        exact (seqS_nx j1e).trans rfl
      obtain ⟨ρ', e, q⟩ := loopS_all (fg := tupG (consG (nameG 10) (consG (nameG 11) (nilG)))) (F := rowB) (fun _ ρ' => ρ' = ρ) (ds := (List.range n).map fun i => .tuple [rt n (t0 i), fq (t0 i n)]) (ρ := ρ) 0 rfl fun i d ρ' hd hp => step i d ρ' hd hp
      have : i3 ρ = loopS (tupG (consG (nameG 10) (consG (nameG 11) (nilG)))) rowB ((List.range n).map fun i => .tuple [rt n (t0 i), fq (t0 i n)]) ρ := forS_eq zi
      rw [this, e, q]
    have a9 : q9 ρ = .nx ρ := by
      have c : c9 ρ = some (true, ρ) := rfl
      refine (ifS_t c).trans ?_
      exact (seqS_nx b1).trans ((seqS_nx b2).trans ((seqS_nx b3).trans rfl))
    rw [seqS_nx a5, seqS_nx a6, seqS_nx a7, seqS_nx a8, seqS_nx a9]
    rfl
/-- one turn -/
theorem turn_ok {M : Nat} (hb : Bag M b) (hM : M < 800000) : ∃ b', turnB (LE s (some b) tn none none none none none none none none none none none none) = .nx (LE s (some b') none none none none none none none none none none none none none) ∧ Bag (M + 200) b' := by
  obtain ⟨n, b1, hn, e1, B1⟩ := q1_ok (s := s) (tn := tn) hb (by omega)
  obtain ⟨t, b2, e2, E2, B2⟩ := q2_ok (s := s) (tn := tn) hn B1 (by omega)
  obtain ⟨t', b3, e3, R3, B3⟩ := q3_ok (s := s) (tn := tn) hn B2 (by omega) E2
  obtain ⟨t0, b4, e4, B4', B4⟩ := q4_ok (s := s) (tn := tn) hn B3 (by omega) R3
  refine ⟨b4, ?_, B4.mono (by omega)⟩
  unfold turnB
  rw [seqS_nx e1, seqS_nx e2, seqS_nx e3, seqS_nx e4]
  exact checks hn B4'
end
theorem law_true (ns : List Int) : F_law [.list (ns.map .int)] = some (.bool true) := by
  obtain ⟨cs, e, C⟩ := bag_ok ns
  have c0 : clE F__law_bag (consA (varE 0) (nilA)) (LE (some (.list (ns.map .int))) none none none none none none none none none none none none none none) = some (bg 0 1234567891 0 cs, (LE (some (.list (ns.map .int))) none none none none none none none none none none none none none none)) := clE_eq (as := [.list (ns.map .int)]) rfl e
  have l0 : 1 < (LE (some (.list (ns.map .int))) none none none none none none none none none none none none none none).length := Nat.lt_of_sub_eq_succ rfl
  have s1 : ownS 1 (clE F__law_bag (consA (varE 0) (nilA))) (LE (some (.list (ns.map .int))) none none none none none none none none none none none none none none) = .nx (LE (some (.list (ns.map .int))) (some (bg 0 1234567891 0 cs)) none none none none none none none none none none none none none) := ownS_eq l0 c0
  have B0 : Bag 0 (bg 0 1234567891 0 cs) := ⟨0, 1234567891, 0, cs, rfl, by omega, by omega, by omega, by omega, by omega, C⟩
  have it := rng1_eq (n := 6) (f := cE (.int 6)) (ρ := LE (some (.list (ns.map .int))) (some (bg 0 1234567891 0 cs)) none none none none none none none none none none none none none) rfl (by omega)
  obtain ⟨ρ', e2, b', q, Bq⟩ := loopS_all (fg := nameG 2) (F := turnB) (fun i ρ => ∃ b, ρ = LE (some (.list (ns.map .int))) (some b) none none none none none none none none none none none none none ∧ Bag (200 * i) b) (ds := (List.range 6).map fun i => .int (i : Nat)) (ρ := LE (some (.list (ns.map .int))) (some (bg 0 1234567891 0 cs)) none none none none none none none none none none none none none) 0 ⟨_, rfl, B0⟩ fun i d ρ hd hp => by
    obtain ⟨b, rfl, hb⟩ := hp
    have hi : i < 6 := by
      rcases Nat.lt_or_ge i 6 with h | h
      · exact h
      · rw [List.getElem?_eq_none (by simpa using h)] at hd; cases hd
    obtain ⟨b', e, B'⟩ := turn_ok (s := some (.list (ns.map .int))) (tn := some d) hb (by omega)
    exact ⟨LE (some (.list (ns.map .int))) (some b) (some d) none none none none none none none none none none none none, _, rfl, e, b', rfl, B'.mono (by omega)⟩
  have run : F_law [.list (ns.map .int)] = (match S_law (LE (some (.list (ns.map .int))) none none none none none none none none none none none none none none) with
      | .rt d _ => some d
      | .nx _ => some .none
      | _ => none) := rfl
  have fs : forS (rngE (consA (cE (.int 6)) (nilA))) (nameG 2) turnB (LE (some (.list (ns.map .int))) (some (bg 0 1234567891 0 cs)) none none none none none none none none none none none none none) = .nx ρ' := by
    rw [forS_eq it, e2]
  rw [run]
  unfold S_law
  rw [seqS_nx s1]
  have : ∀ G : XS, seqS (forS (rngE (consA (cE (.int 6)) (nilA))) (nameG 2) turnB) G (LE (some (.list (ns.map .int))) (some (bg 0 1234567891 0 cs)) none none none none none none none none none none none none none) = G ρ' := fun G => seqS_nx fs
  refine (congrArg (fun o : Out => (match o with
      | .rt d _ => some d
      | .nx _ => some .none
      | _ => none)) (this _)).trans ?_
  rfl
end Lay

namespace Lay
open PySem PySem.Spec PyProof.Rows L2
def fnL : List He.DefD := [dD "common_divisor" s_common_divisor, dD "reduced" s_reduced, dD "lessened" s_lessened, dD "times" s_times, dD "over" s_over, dD "led" s_led, dD "solved" s_solved, dD "_law_bag" s__law_bag, dD "_law_take" s__law_take, dD "_law_some" s__law_some, dD "_law_alike" s__law_alike, dD "_law_is_int" s__law_is_int, dD "_law_common" s__law_common, dD "_law_reduced" s__law_reduced, dD "_law_added" s__law_added, dD "_law_multiplied" s__law_multiplied, dD "_law_total" s__law_total, dD "_law_number" s__law_number, dD "_law_is_fraction" s__law_is_fraction, dD "_law_whole" s__law_whole, dD "_law_entry" s__law_entry, dD "law" s_law]
def faL : List He.Fa := [.glo "common_divisor", .glo "reduced", .glo "lessened", .glo "times", .glo "over", .glo "led", .glo "solved", .glo "_law_bag", .glo "_law_take", .glo "_law_some", .glo "_law_alike", .glo "_law_is_int", .glo "_law_common", .glo "_law_reduced", .glo "_law_added", .glo "_law_multiplied", .glo "_law_total", .glo "_law_number", .glo "_law_is_fraction", .glo "_law_whole", .glo "_law_entry", .glo "law", .glo "NOUGHT", .free "len", .free "abs", .free "int", .free "str", .free "bool", .free "tuple", .free "list", .free "dict", .free "all", .free "any", .free "sum", .free "max", .free "min", .free "repr", .free "isinstance", .free "range", .free "enumerate", .free "zip", .free "sorted", .free "set"]
def csL : List (Str × D) := [("NOUGHT", c_NOUGHT)]
theorem bltL {C : Ct} (T : Top faL fnL csL C) : Blt C.mg := ⟨T.fi 23 rfl, T.fi 24 rfl, T.fi 25 rfl, T.fi 26 rfl, T.fi 27 rfl, T.fi 28 rfl, T.fi 29 rfl, T.fi 30 rfl, T.fi 31 rfl, T.fi 32 rfl, T.fi 33 rfl, T.fi 34 rfl, T.fi 35 rfl, T.fi 36 rfl, T.fi 37 rfl, T.fi 38 rfl, T.fi 39 rfl, T.fi 40 rfl, T.fi 41 rfl, T.fi 42 rfl⟩
theorem lawL {C : Ct} (T : Top faL fnL csL C) : Fn C "law" 10 ["_law_script"] (spP C.K 1 F_law) := by
  have B := bltL T
  have h_NOUGHT : Cst C "NOUGHT" c_NOUGHT := T.cstI 0 22 rfl rfl
  have h_common_divisor := w_common_divisor B (T.fnI 0 0 rfl rfl)
  have h_reduced := w_reduced B h_common_divisor (T.fnI 1 1 rfl rfl)
  have h_lessened := w_lessened B h_reduced (T.fnI 2 2 rfl rfl)
  have h_times := w_times B h_reduced (T.fnI 3 3 rfl rfl)
  have h_over := w_over B h_reduced (T.fnI 4 4 rfl rfl)
  have h_led := w_led B h_lessened h_times (T.fnI 5 5 rfl rfl)
  have h_solved := w_solved B h_NOUGHT h_over h_led (T.fnI 6 6 rfl rfl)
  have h__law_bag := w__law_bag B (T.fnI 7 7 rfl rfl)
  have h__law_take := w__law_take B (T.fnI 8 8 rfl rfl)
  have h__law_some := w__law_some B h__law_take (T.fnI 9 9 rfl rfl)
  have h__law_alike := w__law_alike B (T.fnI 10 10 rfl rfl)
  have h__law_is_int := w__law_is_int B (T.fnI 11 11 rfl rfl)
  have h__law_common := w__law_common B (T.fnI 12 12 rfl rfl)
  have h__law_reduced := w__law_reduced B h__law_common (T.fnI 13 13 rfl rfl)
  have h__law_added := w__law_added B h__law_reduced (T.fnI 14 14 rfl rfl)
  have h__law_multiplied := w__law_multiplied B h__law_reduced (T.fnI 15 15 rfl rfl)
  have h__law_total := w__law_total B h__law_added (T.fnI 16 16 rfl rfl)
  have h__law_number := w__law_number B h__law_take h__law_reduced h__law_some (T.fnI 17 17 rfl rfl)
  have h__law_is_fraction := w__law_is_fraction B h__law_is_int h__law_common (T.fnI 18 18 rfl rfl)
  have h__law_whole := w__law_whole B h__law_multiplied h__law_added (T.fnI 19 19 rfl rfl) 6
  have h__law_entry := w__law_entry B h__law_some h__law_number h__law_take (T.fnI 20 20 rfl rfl)
  have h_law := w_law B h__law_bag h__law_some h__law_entry h__law_take h__law_multiplied h__law_whole h_solved h__law_alike h__law_is_fraction h__law_total (T.fnI 21 21 rfl rfl)
  exact h_law
abbrev RL : PySem.W.OpenRow := PySem.W.OpenLaw.row PySem.Challenge.rw_soldwhole_k35_linear_rows
abbrev hkL : PySem.W.Hook := hookL 4 faL fnL csL
def obL (s : PySem.W.SharedT) : AlL := obsLG 4 faL fnL csL (HandSHeadRun.getT s)
theorem obL_eq (s : PySem.W.SharedT) : obL s = hkL.obs s.abs := obsLG_eq (HandSHeadRun.getT_eq s)
def loose0 : List Str := ["common_divisor", "reduced", "lessened", "times", "over", "NOUGHT", "led", "solved", "_law_bag", "_law_take", "_law_some", "_law_alike", "_law_is_int", "_law_common", "_law_reduced", "_law_added", "_law_multiplied", "_law_total", "_law_number", "_law_is_fraction", "_law_whole", "_law_entry"]
abbrev looseL : List Str := loose0
theorem runL (w : World) : HandSHeadRun.RunEq RL (PySem.W.view RL.prog [25]) hkL obL 4000 looseL w := by
  intro os
  kernel_rfl
end Lay
open PySem PySem.W PySem.Calls PyProof.Rows
theorem Lay.endL (pure : ∀ ns : List Int, ns.length ≤ 63 → Lay.F_law [.list (ns.map .int)] = some (.bool true)) : PySem.Challenge.rw_soldwhole_k35_linear_rows.Holds := by
  w_on; o_law
  refine HandSHeadRun.head_any (r := OpenLaw.row PySem.Challenge.rw_soldwhole_k35_linear_rows) (q := view (OpenLaw.row PySem.Challenge.rw_soldwhole_k35_linear_rows).prog [25]) (H := Lay.hkL) (ob := Lay.obL) (M := 4000) (loose := Lay.looseL) (d := HandSHeadRun.topDef (OpenLaw.row PySem.Challenge.rw_soldwhole_k35_linear_rows).prog 25) (kwd := []) Lay.obL_eq
    (by kernel_rfl) (fun s => by kernel_rfl) Lay.runL (by kernel_rfl) (by kernel_rfl) (by kernel_rfl) (by rfl) (by first | assumption | decide +kernel) (by decide +kernel) ⟨rfl, rfl, rfl, rfl, rfl, by decide +kernel⟩ ?hw ?hc
  case hw => w_witness2
  case hc =>
    refine Lay.walkG (l := PySem.Challenge.rw_soldwhole_k35_linear_rows) (n := 63) (k := 10) (x := "_law_script") rfl (by decide) (by kernel_rfl) ⟨rfl, by decide, by decide⟩ ?F
    intro w mg fa h Y G hmg0
    obtain ⟨K, KX, c⟩ := Y
    have en : (HandSHeadRun.topDef (OpenLaw.row PySem.Challenge.rw_soldwhole_k35_linear_rows).prog 25).name = ("law" : PySem.Str) := by kernel_rfl
    refine ⟨K, Lay.spP K 1 Lay.F_law, KX, fun H a ns hl S => ?_, fun base kin nsb => ?_⟩
    · refine ⟨[], [.list (ns.map .int)], .bool true, rfl, fun _ q => (List.not_mem_nil q).elim, ?_, pure ns hl, fun v H' _ d => by cases d; rfl⟩
      exact .cons (Lay.Dat.scr S (by rw [List.length_map]; exact Nat.le_trans hl (by decide))) .nil
    · rw [en]
      exact Lay.lawL (Lay.Top.of (C := ⟨_, w, K, mg, base⟩) c kin nsb)

theorem PySem.Challenge.cw_soldwhole_k35_linear_rows_holds : PySem.Challenge.rw_soldwhole_k35_linear_rows.Holds := by
  exact Lay.endL fun ns _ => Lay.law_true ns
