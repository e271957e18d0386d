import PyProof.Rows.All
import Wide.All
import OpenK.AllK
import Wide.FinOn
import HandS.ForMost
import HandS.Wide
import HandS.Flow
import HandS.IsInst
import HandS.Defaults
import HandS.TupAny
import HandS.Deep
import HandS.Zip
import HandS.RaiseMore
import HandS.Conv
import HandS.Head0
import HandS.Head1
import HandS.Head2
import HandS.HeadEnd
import HandS.HeadHook1
import HandS.HeadHook2
import HandS.HeadHook4
import PyProof.ReprReads
import KE.GoesEnum
import HandS.Style
import KE.GoesMore
import HandS.ReplaceLit
import PyProof.Rows.TmTac
import HandS.Codes
import KE.IntTextLaws
import HandS.ReplaceList
import PySem.Challenge.RW_soldwhole_k01_whole_fractions
set_option Elab.async false
set_option linter.all false
set_option maxRecDepth 100000
set_option autoImplicit false
namespace Lay
open PySem PySem.Spec PyProof.Rows L2

/-! ## data: trees, how they lie in the abstract heap -/
abbrev D := PyData
abbrev En := List (Option D)

def KeyD : D → Key → Prop
  | .int i, .inl j => i = j
  | .str x, .inr y => x = y
  | _, _ => False
def KeysD : List D → List Key → Prop
  | [], [] => True
  | d :: ds, k :: ks => KeyD d k ∧ KeysD ds ks
  | _, _ => False
def KeyT : D → List Key → Prop
  | .tuple ds, ks => KeysD ds ks
  | _, _ => False

/-- a tuple of the written part -/
def KT (K : PySem.W.Frag) (a : Addr) (xs : List V) : Prop := ∃ (o : Obj) (its : Array Value) (n : Nat), K.lookup a = some o ∧ o.cls = .type "tuple" ∧ o.data = .seq its n ∧ its.size ≤ sizeLine ∧ Vals xs its.toList
def TupAt (K : PySem.W.Frag) (H : Hp) (a : Addr) (xs : List V) : Prop := H a = some (.tup xs) ∨ KT K a xs
theorem TupAt.sq {K : PySem.W.Frag} {H : Hp} {a : Addr} {xs : List V} : TupAt K H a xs → SqT K H a xs
  | .inl h => .inl (.inl h)
  | .inr h => .inr h
mutual
inductive Dat (K : PySem.W.Frag) (H : Hp) : D → V → Prop
  | non : Dat K H .none .non
  | bl (b : Bool) : Dat K H (.bool b) (.bl b)
  | int (i : Int) : Dat K H (.int i) (.int i)
  | str (x : Str) : Dat K H (.str x) (.str x)
  | lst {a : Addr} {xs : List V} {ds : List D} : SqL K H a xs → xs.length ≤ sizeLine → Dats K H ds xs → Dat K H (.list ds) (.ref a)
  | tup {a : Addr} {xs : List V} {ds : List D} : TupAt K H a xs → xs.length ≤ sizeLine → Dats K H ds xs → Dat K H (.tuple ds) (.ref a)
  | dk {a : Addr} {es : List (Key × V)} {kvs : List (D × D)} : H a = some (.dK es) → DatK K H kvs es → Dat K H (.dict kvs) (.ref a)
  | dt {a : Addr} {es : List (List Key × V)} {kvs : List (D × D)} : H a = some (.dT es) → DatT K H kvs es → Dat K H (.dict kvs) (.ref a)
inductive Dats (K : PySem.W.Frag) (H : Hp) : List D → List V → Prop
  | nil : Dats K H [] []
  | cons {d : D} {v : V} {ds : List D} {vs : List V} : Dat K H d v → Dats K H ds vs → Dats K H (d :: ds) (v :: vs)
inductive DatK (K : PySem.W.Frag) (H : Hp) : List (D × D) → List (Key × V) → Prop
  | nil : DatK K H [] []
  | cons {k d : D} {kk : Key} {v : V} {r : List (D × D)} {s : List (Key × V)} : KeyD k kk → Dat K H d v → DatK K H r s → DatK K H ((k, d) :: r) ((kk, v) :: s)
inductive DatT (K : PySem.W.Frag) (H : Hp) : List (D × D) → List (List Key × V) → Prop
  | nil : DatT K H [] []
  | cons {k d : D} {kk : List Key} {v : V} {r : List (D × D)} {s : List (List Key × V)} : KeyT k kk → Dat K H d v → DatT K H r s → DatT K H ((k, d) :: r) ((kk, v) :: s)
end

/-- what carries data from one heap to another -/
structure Tr (K : PySem.W.Frag) (H H' : Hp) : Prop where
  l : ∀ a xs, SqL K H a xs → SqL K H' a xs
  t : ∀ a xs, TupAt K H a xs → TupAt K H' a xs
  k : ∀ a es, H a = some (.dK es) → H' a = some (.dK es)
  d : ∀ a es, H a = some (.dT es) → H' a = some (.dT es)
def Ext (H H' : Hp) : Prop := ∀ a o, H a = some o → H' a = some o
theorem Ext.refl (H : Hp) : Ext H H := fun _ _ h => h
theorem Ext.trans {H H1 H2 : Hp} (x : Ext H H1) (y : Ext H1 H2) : Ext H H2 := fun a o h => y a o (x a o h)
theorem Ext.new {H : Hp} {p : Addr} {o : HO} (h : H p = none) : Ext H (upd H p o) := fun a u e => by
  rw [upd_ne (ne_of_none e h)]; exact e
theorem SqL.ext {K : PySem.W.Frag} {H H' : Hp} {a : Addr} {xs : List V} (e : Ext H H') (h : SqL K H a xs) : SqL K H' a xs := by
  rcases h with (h | ⟨o, h⟩) | h
  · exact .inl (.inl (e _ _ h))
  · exact .inl (.inr ⟨o, e _ _ h⟩)
  · exact .inr h
theorem Ext.tr {K : PySem.W.Frag} {H H' : Hp} (e : Ext H H') : Tr K H H' where
  l := fun _ _ h => SqL.ext e h
  t := fun _ _ h => h.elim (fun h => .inl (e _ _ h)) .inr
  k := fun _ _ h => e _ _ h
  d := fun _ _ h => e _ _ h

section
variable {K : PySem.W.Frag} {H H' : Hp}
mutual
theorem Dat.tr (t : Tr K H H') : ∀ (d : D) (v : V), Dat K H d v → Dat K H' d v
  | .none, _, h => by cases h; exact .non
  | .bool b, _, h => by cases h; exact .bl b
  | .int i, _, h => by cases h; exact .int i
  | .str x, _, h => by cases h; exact .str x
  | .list ds, _, h => by
    cases h with
    | lst h z r => exact .lst (t.l _ _ h) z (Dats.tr t ds _ r)
  | .tuple ds, _, h => by
    cases h with
    | tup h z r => exact .tup (t.t _ _ h) z (Dats.tr t ds _ r)
  | .dict kvs, _, h => by
    cases h with
    | dk h r => exact .dk (t.k _ _ h) (DatK.tr t kvs _ r)
    | dt h r => exact .dt (t.d _ _ h) (DatT.tr t kvs _ r)
theorem Dats.tr (t : Tr K H H') : ∀ (ds : List D) (vs : List V), Dats K H ds vs → Dats K H' ds vs
  | [], _, h => by cases h; exact .nil
  | d :: ds, _, h => by
    cases h with
    | cons h r => exact .cons (Dat.tr t d _ h) (Dats.tr t ds _ r)
theorem DatK.tr (t : Tr K H H') : ∀ (ds : List (D × D)) (vs : List (Key × V)), DatK K H ds vs → DatK K H' ds vs
  | [], _, h => by cases h; exact .nil
  | (k, d) :: ds, _, h => by
    cases h with
    | cons q h r => exact .cons q (Dat.tr t d _ h) (DatK.tr t ds _ r)
theorem DatT.tr (t : Tr K H H') : ∀ (ds : List (D × D)) (vs : List (List Key × V)), DatT K H ds vs → DatT K H' ds vs
  | [], _, h => by cases h; exact .nil
  | (k, d) :: ds, _, h => by
    cases h with
    | cons q h r => exact .cons q (Dat.tr t d _ h) (DatT.tr t ds _ r)
end
theorem Dat.ext (e : Ext H H') {d : D} {v : V} (h : Dat K H d v) : Dat K H' d v := Dat.tr e.tr d v h
theorem Dats.ext (e : Ext H H') {d : List D} {v : List V} (h : Dats K H d v) : Dats K H' d v := Dats.tr e.tr d v h
theorem Dats.len : ∀ {ds : List D} {vs : List V}, Dats K H ds vs → ds.length = vs.length
  | _, _, .nil => rfl
  | _, _, .cons _ r => congrArg (· + 1) (Dats.len r)
theorem Dats.get : ∀ {ds : List D} {vs : List V} {i : Nat} {d : D}, Dats K H ds vs → ds[i]? = some d → ∃ v, vs[i]? = some v ∧ Dat K H d v
  | _, _, _, _, .nil, e => by simp at e
  | _, _, 0, _, .cons h _, e => by simp at e; subst e; exact ⟨_, rfl, h⟩
  | _, _, i + 1, _, .cons _ r, e => by
    obtain ⟨v, h1, h2⟩ := Dats.get (i := i) r (by simpa using e)
    exact ⟨v, by simpa using h1, h2⟩
theorem Dats.getV : ∀ {ds : List D} {vs : List V} {i : Nat} {v : V}, Dats K H ds vs → vs[i]? = some v → ∃ d, ds[i]? = some d ∧ Dat K H d v
  | _, _, _, _, .nil, e => by simp at e
  | _, _, 0, _, .cons h _, e => by simp at e; subst e; exact ⟨_, rfl, h⟩
  | _, _, i + 1, _, .cons _ r, e => by
    obtain ⟨v, h1, h2⟩ := Dats.getV (i := i) r (by simpa using e)
    exact ⟨v, by simpa using h1, h2⟩
theorem Dats.app : ∀ {ds es : List D} {vs ws : List V}, Dats K H ds vs → Dats K H es ws → Dats K H (ds ++ es) (vs ++ ws)
  | _, _, _, _, .nil, s => s
  | _, _, _, _, .cons h r, s => .cons h (Dats.app r s)
theorem Dats.take : ∀ {ds : List D} {vs : List V} (n : Nat), Dats K H ds vs → Dats K H (ds.take n) (vs.take n)
  | _, _, 0, _ => .nil
  | _, _, _ + 1, .nil => .nil
  | _, _, n + 1, .cons h r => .cons h (Dats.take n r)
theorem Dats.drop : ∀ {ds : List D} {vs : List V} (n : Nat), Dats K H ds vs → Dats K H (ds.drop n) (vs.drop n)
  | _, _, 0, r => r
  | _, _, _ + 1, .nil => .nil
  | _, _, n + 1, .cons _ r => Dats.drop n r
theorem Dats.set {d : D} {v : V} (q : Dat K H d v) : ∀ {ds : List D} {vs : List V} (i : Nat), Dats K H ds vs → Dats K H (ds.set i d) (vs.set i v)
  | _, _, _, .nil => .nil
  | _, _, 0, .cons _ r => .cons q r
  | _, _, i + 1, .cons h r => .cons h (Dats.set q i r)
theorem Dats.erase : ∀ {ds : List D} {vs : List V} (i : Nat), Dats K H ds vs → Dats K H (ds.eraseIdx i) (vs.eraseIdx i)
  | _, _, _, .nil => .nil
  | _, _, 0, .cons _ r => r
  | _, _, i + 1, .cons h r => .cons h (Dats.erase i r)
end

/-! ## hidden addresses, owned slots -/
theorem TupAt.mono {K : PySem.W.Frag} {H H' : Hp} {a : Addr} {xs : List V} (e : Ext H H') : TupAt K H a xs → TupAt K H' a xs
  | .inl h => .inl (e _ _ h)
  | .inr h => .inr h
def hid (Z : List Addr) (H : Hp) : Hp := fun a => if a ∈ Z then none else H a
theorem hid_some {Z : List Addr} {H : Hp} {a : Addr} {o : HO} : hid Z H a = some o ↔ a ∉ Z ∧ H a = some o := by
  unfold hid
  split
  · constructor
    · intro h; cases h
    · intro h; exact absurd ‹a ∈ Z› h.1
  · constructor
    · intro h; exact ⟨‹_›, h⟩
    · intro h; exact h.2
abbrev Ow := List (Nat × Addr)
abbrev adr (own : Ow) : List Addr := own.map (·.2)
/-- everything but what is owned stands -/
def Gro (own : Ow) (H H' : Hp) : Prop := ∀ a o, H a = some o → a ∉ adr own → H' a = some o
theorem nadr {own : Ow} {tc : List Nat} {a : Addr} (h : a ∉ adr own) : ∀ j, (j, a) ∈ own → j ∉ tc := fun j q => absurd (List.mem_map.mpr ⟨_, q, rfl⟩) h
/-- everything stands but what the slots tc own -/
def Grt (tc : List Nat) (own : Ow) (H H' : Hp) : Prop := ∀ a o, H a = some o → (∀ j, (j, a) ∈ own → j ∉ tc) → H' a = some o
theorem Grt.refl {tc : List Nat} {own : Ow} {H : Hp} : Grt tc own H H := fun _ _ h _ => h
theorem Grt.trans {tc : List Nat} {own : Ow} {H H1 H2 : Hp} (x : Grt tc own H H1) (y : Grt tc own H1 H2) : Grt tc own H H2 := fun a o h n => y a o (x a o h n) n
theorem Grt.of {tc : List Nat} {own : Ow} {H H' : Hp} (x : Ext H H') : Grt tc own H H' := fun a o h _ => x a o h
theorem Grt.all {tc : List Nat} {own : Ow} {H H' : Hp} (x : Grt tc own H H') : Gro own H H' := fun a o h n => x a o h (nadr n)
theorem Grt.ext {own : Ow} {H H' : Hp} (x : Grt [] own H H') : Ext H H' := fun a o h => x a o h fun _ _ => List.not_mem_nil
theorem Gro.refl {own : Ow} {H : Hp} : Gro own H H := fun _ _ h _ => h
theorem Gro.trans {own : Ow} {H H1 H2 : Hp} (x : Gro own H H1) (y : Gro own H1 H2) : Gro own H H2 := fun a o h n => y a o (x a o h n) n
theorem Gro.of {own : Ow} {H H' : Hp} (x : Ext H H') : Gro own H H' := fun a o h _ => x a o h
theorem Gro.hid {own : Ow} {H H' : Hp} {Z : List Addr} (x : Gro own H H') : Ext (hid (adr own ++ Z) H) (hid (adr own ++ Z) H') := fun a o h => by
  have := hid_some.mp h
  exact hid_some.mpr ⟨this.1, x a o this.2 fun q => this.1 (List.mem_append_left _ q)⟩
theorem Grt.hid {tc : List Nat} {own : Ow} {H H' : Hp} {Z : List Addr} (x : Grt tc own H H') : Ext (hid (adr own ++ Z) H) (hid (adr own ++ Z) H') := x.all.hid
theorem hid_sub {Z Z' : List Addr} {H : Hp} (h : ∀ a ∈ Z', a ∈ Z) : Ext (hid Z H) (hid Z' H) := fun a o e => by
  have := hid_some.mp e
  exact hid_some.mpr ⟨fun q => this.1 (h a q), this.2⟩
theorem hid_new {Z : List Addr} {p : Addr} {H : Hp} (h : H p = none) : Ext (hid Z H) (hid (p :: Z) H) := fun a o e => by
  have := hid_some.mp e
  refine hid_some.mpr ⟨fun q => ?_, this.2⟩
  rcases List.mem_cons.mp q with q | q
  · subst q; rw [h] at this; cases this.2
  · exact this.1 q

/-- what an owned object holds -/
inductive Ob (K : PySem.W.Frag) (H : Hp) : D → HO → Prop
  | lst {ds : List D} {xs : List V} : xs.length ≤ sizeLine → Dats K H ds xs → Ob K H (.list ds) (.lst xs)
  | dk {kvs : List (D × D)} {es : List (Key × V)} : DatK K H kvs es → Ob K H (.dict kvs) (.dK es)
  | dt {kvs : List (D × D)} {es : List (List Key × V)} : DatT K H kvs es → Ob K H (.dict kvs) (.dT es)
theorem Ob.tr {K : PySem.W.Frag} {H H' : Hp} (t : Tr K H H') {d : D} {o : HO} (h : Ob K H d o) : Ob K H' d o := by
  cases h with
  | lst z r => exact .lst z (Dats.tr t _ _ r)
  | dk r => exact .dk (DatK.tr t _ _ r)
  | dt r => exact .dt (DatT.tr t _ _ r)
theorem Ob.ext {K : PySem.W.Frag} {H H' : Hp} (e : Ext H H') {d : D} {o : HO} (h : Ob K H d o) : Ob K H' d o := h.tr e.tr
theorem Ob.dat {K : PySem.W.Frag} {H : Hp} {d : D} {o : HO} {a : Addr} (h : Ob K H d o) (e : H a = some o) : Dat K H d (.ref a) := by
  cases h with
  | lst z r => exact .lst (SqL.of e) z r
  | dk r => exact .dk e r
  | dt r => exact .dt e r

structure Rep (K : PySem.W.Frag) (own : Ow) (Z : List Addr) (ρ : En) (σ : L2.St) (H : Hp) : Prop where
  len : ρ.length = σ.length
  dat : ∀ (i : Nat) (d : D), ρ[i]? = some (some d) → i ∉ own.map (·.1) → ∃ v, σ[i]? = some (some v) ∧ Dat K (hid (adr own ++ Z) H) d v
  obj : ∀ (i : Nat) (a : Addr), (i, a) ∈ own → σ[i]? = some (some (.ref a)) ∧ ∃ d o, ρ[i]? = some (some d) ∧ H a = some o ∧ Ob K (hid (adr own ++ Z) H) d o
  nd1 : (own.map (·.1)).Nodup
  nd2 : (adr own).Nodup
  dis : ∀ a ∈ adr own, a ∉ Z
  zin : ∀ z ∈ Z, ∃ o, H z = some o

section
variable {K : PySem.W.Frag} {own : Ow} {Z : List Addr} {ρ : En} {σ : L2.St} {H H' : Hp}
theorem Rep.ain (R : Rep K own Z ρ σ H) {a : Addr} (h : a ∈ adr own) : ∃ o, H a = some o := by
  obtain ⟨⟨i, b⟩, hm, rfl⟩ := List.mem_map.mp h
  obtain ⟨_, d, o, _, e, _⟩ := R.obj i b hm
  exact ⟨o, e⟩
theorem Rep.new_nin (R : Rep K own Z ρ σ H) {p : Addr} (h : H p = none) : p ∉ adr own ++ Z := fun q => by
  rcases List.mem_append.mp q with q | q
  · obtain ⟨o, e⟩ := R.ain q; rw [h] at e; cases e
  · obtain ⟨o, e⟩ := R.zin p q; rw [h] at e; cases e
/-- the whole heap stands -/
theorem Rep.ext (R : Rep K own Z ρ σ H) (e : Ext H H') : Rep K own Z ρ σ H' where
  len := R.len
  dat := fun i d h n => let ⟨v, h1, h2⟩ := R.dat i d h n; ⟨v, h1, h2.ext (Gro.of e).hid⟩
  obj := fun i a h => let ⟨h1, d, o, h2, h3, h4⟩ := R.obj i a h; ⟨h1, d, o, h2, e _ _ h3, h4.ext (Gro.of e).hid⟩
  nd1 := R.nd1
  nd2 := R.nd2
  dis := R.dis
  zin := fun z h => let ⟨o, q⟩ := R.zin z h; ⟨o, e _ _ q⟩
/-- a slot takes data -/
theorem Rep.set (R : Rep K own Z ρ σ H) {i : Nat} {d : D} {v : V} (hi : i ∉ own.map (·.1)) (h : Dat K (hid (adr own ++ Z) H) d v) : Rep K own Z (ρ.set i (some d)) (σ.set i (some v)) H where
  len := by rw [List.length_set, List.length_set]; exact R.len
  dat := fun j e q n => by
    rw [List.getElem?_set] at q
    by_cases hij : i = j
    · subst hij
      simp only [if_true] at q
      split at q
      · rename_i hl
        simp only [Option.some.injEq] at q
        subst q
        exact ⟨v, by rw [List.getElem?_set]; simp [R.len ▸ hl], h⟩
      · cases q
    · rw [if_neg hij] at q
      obtain ⟨w, h1, h2⟩ := R.dat j e q n
      exact ⟨w, by rw [List.getElem?_set, if_neg hij]; exact h1, h2⟩
  obj := fun j a q => by
    obtain ⟨h1, e, o, h2, h3, h4⟩ := R.obj j a q
    have hij : i ≠ j := fun z => hi (by subst z; exact List.mem_map.mpr ⟨_, q, rfl⟩)
    exact ⟨by rw [List.getElem?_set, if_neg hij]; exact h1, e, o, by rw [List.getElem?_set, if_neg hij]; exact h2, h3, h4⟩
  nd1 := R.nd1
  nd2 := R.nd2
  dis := R.dis
  zin := R.zin
/-- a slot is forgotten -/
theorem Rep.kill (R : Rep K own Z ρ σ H) {i : Nat} (hi : i ∉ own.map (·.1)) : Rep K own Z (ρ.set i none) σ H where
  len := by rw [List.length_set]; exact R.len
  dat := fun j e q n => by
    rw [List.getElem?_set] at q
    by_cases hij : i = j
    · subst hij
      simp only [if_true] at q
      split at q <;> cases q
    · rw [if_neg hij] at q
      exact R.dat j e q n
  obj := fun j a q => by
    obtain ⟨h1, e, o, h2, h3, h4⟩ := R.obj j a q
    have hij : i ≠ j := fun z => hi (by subst z; exact List.mem_map.mpr ⟨_, q, rfl⟩)
    exact ⟨h1, e, o, by rw [List.getElem?_set, if_neg hij]; exact h2, h3, h4⟩
  nd1 := R.nd1
  nd2 := R.nd2
  dis := R.dis
  zin := R.zin
/-- a new object is hidden -/
theorem Rep.hide (R : Rep K own Z ρ σ H) {p : Addr} {o : HO} (hn : H p = none) (e : Gro own H H') (ea : ∀ a ∈ adr own, H' a = H a) (hp : H' p = some o) : Rep K own (p :: Z) ρ σ H' := by
  have x : Ext (hid (adr own ++ Z) H) (hid (adr own ++ p :: Z) H') := fun a u q => by
    have := hid_some.mp q
    refine hid_some.mpr ⟨fun z => ?_, e a u this.2 fun z => this.1 (List.mem_append_left _ z)⟩
    rcases List.mem_append.mp z with z | z
    · exact this.1 (List.mem_append_left _ z)
    · rcases List.mem_cons.mp z with z | z
      · subst z; rw [hn] at this; cases this.2
      · exact this.1 (List.mem_append_right _ z)
  refine ⟨R.len, fun i d h n => ?_, fun i a h => ?_, R.nd1, R.nd2, fun a h z => ?_, fun y h => ?_⟩
  · obtain ⟨v, h1, h2⟩ := R.dat i d h n
    exact ⟨v, h1, h2.ext x⟩
  · obtain ⟨h1, d, u, h2, h3, h4⟩ := R.obj i a h
    exact ⟨h1, d, u, h2, by rw [ea a (List.mem_map.mpr ⟨_, h, rfl⟩)]; exact h3, h4.ext x⟩
  · rcases List.mem_cons.mp z with z | z
    · subst z; exact R.new_nin hn (List.mem_append_left _ h)
    · exact R.dis a h z
  · rcases List.mem_cons.mp h with z | z
    · subst z; exact ⟨o, hp⟩
    · obtain ⟨u, q⟩ := R.zin y z
      by_cases hz : y ∈ adr own
      · exact ⟨u, by rw [ea y hz]; exact q⟩
      · exact ⟨u, e y u q hz⟩
/-- what was hidden is shown -/
theorem Rep.unhide {p : Addr} (R : Rep K own (p :: Z) ρ σ H) : Rep K own Z ρ σ H := by
  have x : Ext (hid (adr own ++ p :: Z) H) (hid (adr own ++ Z) H) := hid_sub fun a h => by
    rcases List.mem_append.mp h with h | h
    · exact List.mem_append_left _ h
    · exact List.mem_append_right _ (List.mem_cons_of_mem _ h)
  refine ⟨R.len, fun i d h n => ?_, fun i a h => ?_, R.nd1, R.nd2, fun a h z => R.dis a h (List.mem_cons_of_mem _ z), fun z h => R.zin z (List.mem_cons_of_mem _ h)⟩
  · obtain ⟨v, h1, h2⟩ := R.dat i d h n
    exact ⟨v, h1, h2.ext x⟩
  · obtain ⟨h1, d, u, h2, h3, h4⟩ := R.obj i a h
    exact ⟨h1, d, u, h2, h3, h4.ext x⟩
end
end Lay

namespace Lay
open PySem PySem.Spec PyProof.Rows L2

/-! ## what a reading realises -/
abbrev XE := En → Option (D × En)
abbrev XT := En → Option (Bool × En)
abbrev XA := En → Option (List D × En)

section
variable (K : PySem.W.Frag) (tc ow : List Nat)
def Sem (te : TE) (f : XE) : Prop := ∀ (own : Ow) (Z : List Addr) (ρ : En) (σ : L2.St) (H : Hp) (d : D) (ρ' : En) (Q : VK), own.map (·.1) = ow → Rep K own Z ρ σ H → f ρ = some (d, ρ') →
  (∀ v H', Rep K own Z ρ' σ H' → Grt tc own H H' → Dat K (hid (adr own ++ Z) H') d v → Q v H') → te σ H Q
def SemT (tt : TT) (f : XT) : Prop := ∀ (own : Ow) (Z : List Addr) (ρ : En) (σ : L2.St) (H : Hp) (b : Bool) (ρ' : En) (Q : Bool → Hp → Prop), own.map (·.1) = ow → Rep K own Z ρ σ H → f ρ = some (b, ρ') →
  (∀ H', Rep K own Z ρ' σ H' → Grt tc own H H' → Q b H') → tt σ H Q
def SemA (ta : TA) (f : XA) : Prop := ∀ (own : Ow) (Z : List Addr) (ρ : En) (σ : L2.St) (H : Hp) (ds : List D) (ρ' : En) (Q : List V → Hp → Prop), own.map (·.1) = ow → Rep K own Z ρ σ H → f ρ = some (ds, ρ') →
  (∀ vs H', Rep K own Z ρ' σ H' → Grt tc own H H' → Dats K (hid (adr own ++ Z) H') ds vs → Q vs H') → ta σ H Q
/-- a new list, a new dict -/
def SemF (te : TE) (f : XE) : Prop := ∀ (own : Ow) (Z : List Addr) (ρ : En) (σ : L2.St) (H : Hp) (d : D) (ρ' : En) (Q : VK), own.map (·.1) = ow → Rep K own Z ρ σ H → f ρ = some (d, ρ') →
  (∀ p o H', Rep K own (p :: Z) ρ' σ H' → Grt tc own H H' → H p = none → H' p = some o → Ob K (hid (adr own ++ p :: Z) H') d o → Q (.ref p) H') → te σ H Q
end

structure Ct where
  P : Program
  w : World
  K : PySem.W.Frag
  mg : Str → Option Value
  base : Heap
/-- the contexts a piece of syntax runs in: a body's one, a comprehension's blocks -/
structure Fam {ι : Type} (X : ι → Cx) (C : Ct) (N : List Str) (k : Nat) : Prop where
  P : ∀ i, (X i).prog = C.P
  w : ∀ i, (X i).w = C.w
  K : ∀ i, (X i).K = C.K
  mg : ∀ i, (X i).mg = C.mg
  base : ∀ i, (X i).base = C.base
  nm : ∀ i, (X i).N = N
  nd : N.Nodup
  calm : ∀ i, (X i).calm = true
  room : ∀ i, Room k (X i).A
  gd : ∀ i, (X i).A.guards = some []

section
variable {ι : Type} (X : ι → Cx) (C : Ct) (tc ow : List Nat)
structure RE (e : Expr) (f : XE) : Prop where
  ex : ∃ te, (∀ i, PE (X i) e te) ∧ Sem C.K tc ow te f
structure RF (e : Expr) (f : XE) : Prop where
  ex : ∃ te, (∀ i, PE (X i) e te) ∧ SemF C.K tc ow te f
structure RT (e : Expr) (f : XT) : Prop where
  ex : ∃ tt, (∀ i, PT (X i) e tt) ∧ SemT C.K tc ow tt f
structure RW (e : Expr) (f : XT) : Prop where
  ex : ∃ tt, (∀ i, PW (X i) e tt) ∧ SemT C.K tc ow tt f
structure RA (es : List Expr) (f : XA) : Prop where
  ex : ∃ ta, (∀ i, PA (X i) es ta) ∧ SemA C.K tc ow ta f
  len : ∀ ρ ds ρ', f ρ = some (ds, ρ') → ds.length = es.length
end

/-! ## combinators -/
def varE (i : Nat) : XE := fun ρ => match ρ[i]? with
  | some (some d) => some (d, ρ)
  | _ => none
def cE (d : D) : XE := fun ρ => some (d, ρ)
def opE (g : D → D → Option D) (fa fb : XE) : XE := fun ρ => (fa ρ).bind fun p => (fb p.2).bind fun q => (g p.1 q.1).map fun z => (z, q.2)
def unE (g : D → Option D) (fa : XE) : XE := fun ρ => (fa ρ).bind fun p => (g p.1).map fun z => (z, p.2)
def nilA : XA := fun ρ => some ([], ρ)
def consA (fa : XE) (fr : XA) : XA := fun ρ => (fa ρ).bind fun p => (fr p.2).map fun q => (p.1 :: q.1, q.2)
def clE (g : List D → Option D) (fa : XA) : XE := fun ρ => (fa ρ).bind fun p => (g p.1).map fun z => (z, p.2)
def tupE (fa : XA) : XE := fun ρ => (fa ρ).bind fun p => if p.1.length ≤ sizeLine then some (.tuple p.1, p.2) else none
def lstE (fa : XA) : XE := fun ρ => (fa ρ).bind fun p => if p.1.length ≤ sizeLine then some (.list p.1, p.2) else none
def asB : D → Option Bool
  | .bool b => some b
  | _ => none
def tE (f : XE) : XT := fun ρ => (f ρ).bind fun p => (asB p.1).map fun b => (b, p.2)
def eT (f : XT) : XE := fun ρ => (f ρ).map fun p => (.bool p.1, p.2)
def andT (f g : XT) : XT := fun ρ => (f ρ).bind fun p => if p.1 = true then g p.2 else some (false, p.2)
def orT (f g : XT) : XT := fun ρ => (f ρ).bind fun p => if p.1 = true then some (true, p.2) else g p.2
def notT (f : XT) : XT := fun ρ => (f ρ).map fun p => (!p.1, p.2)
def ifE (t : XT) (f g : XE) : XE := fun ρ => (t ρ).bind fun p => if p.1 = true then f p.2 else g p.2
def chE (r r' : D → D → Option D) (fa fb fc : XE) : XE := fun ρ => (fa ρ).bind fun p => (fb p.2).bind fun q => (r p.1 q.1).bind fun z => (asB z).bind fun k =>
  if k = true then (fc q.2).bind fun u => (r' q.1 u.1).map fun y => (y, u.2) else some (.bool false, q.2)

/-! ## rules -/
section
variable {ι : Type} {X : ι → Cx} {C : Ct} {tc ow : List Nat} {N : List Str} {k : Nat}

theorem RF.re {e : Expr} {f : XE} (h : RF X C tc ow e f) : RE X C tc ow e f := by
  obtain ⟨te, h1, h2⟩ := h.ex
  refine ⟨te, h1, fun own Z ρ σ H d ρ' Q ho R hf hq => h2 own Z ρ σ H d ρ' Q ho R hf fun p o H' R' g hn hp ob => ?_⟩
  have hp2 : hid (adr own ++ Z) H' p = some o := hid_some.mpr ⟨R.new_nin hn, hp⟩
  have x : Ext (hid (adr own ++ p :: Z) H') (hid (adr own ++ Z) H') := hid_sub fun a h => by
    rcases List.mem_append.mp h with h | h
    · exact List.mem_append_left _ h
    · exact List.mem_append_right _ (List.mem_cons_of_mem _ h)
  exact hq _ _ R'.unhide g ((ob.ext x).dat hp2)

theorem re_var (F : Fam X C N k) (i : Nat) {x : Str} {pos : Pos} (hN : N[i]? = some x) (hv : ∀ j, Vis (X j).env.scope x) (hi : ow.contains i = false) (hd : (x == ("__debug__" : Str)) = false := by decide) (hcd : (x == ("__classdict__" : Str)) = false := by decide) :
    RE X C tc ow (.Name x pos) (varE i) := by
  refine ⟨tVar i, fun j => pe_var (by rw [F.nm j]; exact hN) (hv j) hd hcd, fun own Z ρ σ H d ρ' Q ho R hf hq => ?_⟩
  unfold varE at hf
  split at hf
  · rename_i e h1
    simp only [Option.some.injEq, Prod.mk.injEq] at hf
    obtain ⟨rfl, rfl⟩ := hf
    have hi' : i ∉ own.map (·.1) := fun z => by
      rw [ho] at z
      rw [List.contains_iff_mem.mpr z] at hi
      cases hi
    obtain ⟨v, h2, h3⟩ := R.dat i _ h1 hi'
    exact ⟨v, h2, hq v H R Grt.refl h3⟩
  · cases hf
theorem re_cst {e : Expr} {d : D} {v : V} (h : ∀ j, PE (X j) e (tC v)) (hd : ∀ H, Dat C.K H d v) : RE X C tc ow e (cE d) :=
  ⟨tC v, h, fun own Z ρ σ H d' ρ' Q ho R hf hq => by
    simp only [cE, Option.some.injEq, Prod.mk.injEq] at hf
    obtain ⟨rfl, rfl⟩ := hf
    exact hq v H R Grt.refl (hd _)⟩
theorem re_int {i : Int} {j : Nat} {pos : Pos} : RE X C tc ow (.Constant (.int i) j pos) (cE (.int i)) := re_cst (fun _ => pe_int) fun _ => .int i
theorem re_str {x : Str} {j : Nat} {pos : Pos} : RE X C tc ow (.Constant (.str x) j pos) (cE (.str x)) := re_cst (fun _ => pe_str) fun _ => .str x
theorem re_bl {b : Bool} {j : Nat} {pos : Pos} : RE X C tc ow (.Constant (.bool b) j pos) (cE (.bool b)) := re_cst (fun _ => pe_bl) fun _ => .bl b
theorem re_non {j : Nat} {pos : Pos} : RE X C tc ow (.Constant .none j pos) (cE .none) := re_cst (fun _ => pe_non) fun _ => .non
/-- a module's constant -/
theorem re_glob (F : Fam X C N k) {x : Str} {a : Addr} {d : D} {pos : Pos} (hm : C.mg x = some (.ref a)) (hd : ∀ H, Dat C.K H d (.ref a)) (hg : ∀ j, Gl (X j) x) (hdb : (x == ("__debug__" : Str)) = false := by decide) :
    RE X C tc ow (.Name x pos) (cE d) := re_cst (v := .ref a) (fun j => pe_glob (hg j) (by rw [F.mg j]; exact hm) rfl hdb) hd

/-- an operator by values -/
def Zok (Z : List Addr) (H : Hp) : Prop := ∀ z ∈ Z, ∃ o, H z = some o
def OpS (K : PySem.W.Frag) (r : R2) (g : D → D → Option D) : Prop := ∀ (Z : List Addr) (H : Hp) (x y : V) (dx dy z : D) (Q : VK), Zok Z H → Dat K (hid Z H) dx x → Dat K (hid Z H) dy y → g dx dy = some z →
  (∀ v H', Ext H H' → Dat K (hid Z H') z v → Q v H') → r x y H Q
def UnS (K : PySem.W.Frag) (r : V → Hp → VK → Prop) (g : D → Option D) : Prop := ∀ (Z : List Addr) (H : Hp) (x : V) (dx z : D) (Q : VK), Zok Z H → Dat K (hid Z H) dx x → g dx = some z →
  (∀ v H', Ext H H' → Dat K (hid Z H') z v → Q v H') → r x H Q
def ClS (K : PySem.W.Frag) (r : List V → Hp → VK → Prop) (g : List D → Option D) : Prop := ∀ (Z : List Addr) (H : Hp) (xs : List V) (ds : List D) (z : D) (Q : VK), Zok Z H → Dats K (hid Z H) ds xs → g ds = some z →
  (∀ v H', Ext H H' → Dat K (hid Z H') z v → Q v H') → r xs H Q
/-- a call that makes a new list or dict -/
def ClF (K : PySem.W.Frag) (r : List V → Hp → VK → Prop) (g : List D → Option D) : Prop := ∀ (Z : List Addr) (H : Hp) (xs : List V) (ds : List D) (z : D) (Q : VK), Zok Z H → Dats K (hid Z H) ds xs → g ds = some z →
  (∀ p o H', Ext H H' → H p = none → H' p = some o → Ob K (hid (p :: Z) H') z o → Q (.ref p) H') → r xs H Q
theorem Rep.zok {K : PySem.W.Frag} {own : Ow} {Z : List Addr} {ρ : En} {σ : L2.St} {H : Hp} (R : Rep K own Z ρ σ H) : Zok (adr own ++ Z) H := fun z h => by
  rcases List.mem_append.mp h with h | h
  · exact R.ain h
  · exact R.zin z h

theorem opE_some {g : D → D → Option D} {fa fb : XE} {ρ ρ' : En} {d : D} (h : opE g fa fb ρ = some (d, ρ')) : ∃ x ρ1 y, fa ρ = some (x, ρ1) ∧ fb ρ1 = some (y, ρ') ∧ g x y = some d := by
  unfold opE at h
  cases ha : fa ρ with
  | none => rw [ha] at h; cases h
  | some p =>
    obtain ⟨x, ρ1⟩ := p
    rw [ha] at h
    simp only [Option.bind_some] at h
    cases hb : fb ρ1 with
    | none => rw [hb] at h; cases h
    | some q =>
      obtain ⟨y, ρ2⟩ := q
      rw [hb] at h
      simp only [Option.bind_some] at h
      cases hg : g x y with
      | none => rw [hg] at h; cases h
      | some z =>
        rw [hg] at h
        simp only [Option.map_some, Option.some.injEq, Prod.mk.injEq] at h
        obtain ⟨rfl, rfl⟩ := h
        exact ⟨x, ρ1, y, rfl, hb, hg⟩
theorem sem_op {K : PySem.W.Frag} {r : R2} {g : D → D → Option D} {ta tb : TE} {fa fb : XE} (hs : OpS K r g) (ha : Sem K tc ow ta fa) (hb : Sem K tc ow tb fb) : Sem K tc ow (tOp r ta tb) (opE g fa fb) :=
  fun own Z ρ σ H d ρ' Q ho R hf hq => by
    obtain ⟨x, ρ1, y, h1, h2, h3⟩ := opE_some hf
    refine ha own Z ρ σ H x ρ1 _ ho R h1 fun v H1 R1 g1 d1 => ?_
    refine hb own Z ρ1 σ H1 y ρ' _ ho R1 h2 fun u H2 R2 g2 d2 => ?_
    exact hs _ H2 v u x y d Q R2.zok (d1.ext g2.hid) d2 h3 fun z H3 e d3 => hq z H3 (R2.ext e) ((g1.trans g2).trans (Grt.of e)) d3
theorem re_op {op : Operator} {r : R2} {g : D → D → Option D} {a b : Expr} {fa fb : XE} {pos : Pos} (ho : ∀ i, OpR (X i) (binaryOp op) r) (hs : OpS C.K r g) (ha : RE X C tc ow a fa) (hb : RE X C tc ow b fb) :
    RE X C tc ow (.BinOp a op b pos) (opE g fa fb) := by
  obtain ⟨ta, a1, a2⟩ := ha.ex
  obtain ⟨tb, b1, b2⟩ := hb.ex
  exact ⟨_, fun i => pe_op (ho i) (a1 i) (b1 i), sem_op hs a2 b2⟩
theorem re_cmp {op : CmpOp} {r : R2} {g : D → D → Option D} {a b : Expr} {fa fb : XE} {pos : Pos} (ho : ∀ i, OpR (X i) (compareOp op) r) (hs : OpS C.K r g) (hm : behindInMarks op b = false) (ha : RE X C tc ow a fa) (hb : RE X C tc ow b fb) :
    RE X C tc ow (.Compare a [op] [b] pos) (opE g fa fb) := by
  obtain ⟨ta, a1, a2⟩ := ha.ex
  obtain ⟨tb, b1, b2⟩ := hb.ex
  exact ⟨_, fun i => pe_cmpR (ho i) (a1 i) (b1 i) hm, sem_op hs a2 b2⟩
theorem sem_test {K : PySem.W.Frag} {t : TE} {f : XE} (h : Sem K tc ow t f) : SemT K tc ow (tTest t) (tE f) := fun own Z ρ σ H b ρ' Q ho R hf hq => by
  unfold tE at hf
  cases e : f ρ with
  | none => rw [e] at hf; cases hf
  | some p =>
    obtain ⟨d, ρ1⟩ := p
    rw [e] at hf
    simp only [Option.bind_some] at hf
    cases d with
    | bool c =>
      simp only [asB, Option.map_some, Option.some.injEq, Prod.mk.injEq] at hf
      obtain ⟨rfl, rfl⟩ := hf
      refine h own Z ρ σ H _ _ _ ho R e fun v H' R' g d => ?_
      cases d
      exact ⟨c, rfl, hq H' R' g⟩
    | _ => simp only [asB] at hf; cases hf
theorem rt_cmp {op : CmpOp} {r : R2} {g : D → D → Option D} {a b : Expr} {fa fb : XE} {pos : Pos} (ho : ∀ i, OpR (X i) (compareOp op) r) (hs : OpS C.K r g) (hm : behindInMarks op b = false) (ha : RE X C tc ow a fa) (hb : RE X C tc ow b fb) :
    RT X C tc ow (.Compare a [op] [b] pos) (tE (opE g fa fb)) := by
  obtain ⟨ta, a1, a2⟩ := ha.ex
  obtain ⟨tb, b1, b2⟩ := hb.ex
  exact ⟨_, fun i => pt_cmpR (ho i) (a1 i) (b1 i) hm, sem_test (sem_op hs a2 b2)⟩
theorem rt_val {e : Expr} {f : XE} (h : RE X C tc ow e f) (he : ∀ i whole, isTrue e (X i).env whole = (do let v ← whole; standAt e.pos; holding [v] (truthy v))) : RT X C tc ow e (tE f) := by
  obtain ⟨t, a1, a2⟩ := h.ex
  exact ⟨_, fun i => pt_val (a1 i) (he i), sem_test a2⟩
/-! ### and, or, not -/
theorem sem_and {K : PySem.W.Frag} {t u : TT} {f g : XT} (h : SemT K tc ow t f) (h' : SemT K tc ow u g) : SemT K tc ow (tAnd t u) (andT f g) := fun own Z ρ σ H b ρ' Q ho R hf hq => by
  unfold andT at hf
  cases e : f ρ with
  | none => rw [e] at hf; cases hf
  | some p =>
    obtain ⟨c, ρ1⟩ := p
    rw [e] at hf
    simp only [Option.bind_some] at hf
    refine h own Z ρ σ H c ρ1 _ ho R e fun H1 R1 g1 => ?_
    cases c with
    | true =>
      rw [if_pos rfl] at hf ⊢
      exact h' own Z ρ1 σ H1 b ρ' _ ho R1 hf fun H2 R2 g2 => hq H2 R2 (g1.trans g2)
    | false =>
      rw [if_neg Bool.false_ne_true] at hf ⊢
      simp only [Option.some.injEq, Prod.mk.injEq] at hf
      obtain ⟨rfl, rfl⟩ := hf
      exact hq H1 R1 g1
theorem sem_or {K : PySem.W.Frag} {t u : TT} {f g : XT} (h : SemT K tc ow t f) (h' : SemT K tc ow u g) : SemT K tc ow (tOr t u) (orT f g) := fun own Z ρ σ H b ρ' Q ho R hf hq => by
  unfold orT at hf
  cases e : f ρ with
  | none => rw [e] at hf; cases hf
  | some p =>
    obtain ⟨c, ρ1⟩ := p
    rw [e] at hf
    simp only [Option.bind_some] at hf
    refine h own Z ρ σ H c ρ1 _ ho R e fun H1 R1 g1 => ?_
    cases c with
    | true =>
      rw [if_pos rfl] at hf ⊢
      simp only [Option.some.injEq, Prod.mk.injEq] at hf
      obtain ⟨rfl, rfl⟩ := hf
      exact hq H1 R1 g1
    | false =>
      rw [if_neg Bool.false_ne_true] at hf ⊢
      exact h' own Z ρ1 σ H1 b ρ' _ ho R1 hf fun H2 R2 g2 => hq H2 R2 (g1.trans g2)
theorem sem_not {K : PySem.W.Frag} {t : TT} {f : XT} (h : SemT K tc ow t f) : SemT K tc ow (tNot t) (notT f) := fun own Z ρ σ H b ρ' Q ho R hf hq => by
  unfold notT at hf
  cases e : f ρ with
  | none => rw [e] at hf; cases hf
  | some p =>
    obtain ⟨c, ρ1⟩ := p
    rw [e] at hf
    simp only [Option.map_some, Option.some.injEq, Prod.mk.injEq] at hf
    obtain ⟨rfl, rfl⟩ := hf
    exact h own Z ρ σ H c ρ1 _ ho R e fun H1 R1 g1 => hq H1 R1 g1
section
variable {a b : Expr} {rest : List Expr} {f g : XT} {pos : Pos}
theorem rw_and1 (h : RT X C tc ow a f) : RW X C tc ow (.BoolOp .And [a] pos) f := by
  obtain ⟨t, a1, a2⟩ := h.ex
  exact ⟨_, fun i => pw_and1 (a1 i), a2⟩
theorem rw_or1 (h : RT X C tc ow a f) : RW X C tc ow (.BoolOp .Or [a] pos) f := by
  obtain ⟨t, a1, a2⟩ := h.ex
  exact ⟨_, fun i => pw_or1 (a1 i), a2⟩
theorem rw_and (h : RT X C tc ow a f) (h' : RW X C tc ow (.BoolOp .And (b :: rest) pos) g) : RW X C tc ow (.BoolOp .And (a :: b :: rest) pos) (andT f g) := by
  obtain ⟨t, a1, a2⟩ := h.ex
  obtain ⟨u, b1, b2⟩ := h'.ex
  exact ⟨_, fun i => pw_and (a1 i) (b1 i), sem_and a2 b2⟩
theorem rw_or (h : RT X C tc ow a f) (h' : RW X C tc ow (.BoolOp .Or (b :: rest) pos) g) : RW X C tc ow (.BoolOp .Or (a :: b :: rest) pos) (orT f g) := by
  obtain ⟨t, a1, a2⟩ := h.ex
  obtain ⟨u, b1, b2⟩ := h'.ex
  exact ⟨_, fun i => pw_or (a1 i) (b1 i), sem_or a2 b2⟩
theorem rt_w {e : Expr} (h : RW X C tc ow e f) : RT X C tc ow e f := by
  obtain ⟨t, a1, a2⟩ := h.ex
  exact ⟨_, fun i => (a1 i).pt, a2⟩
theorem rt_not (h : RT X C tc ow a f) : RT X C tc ow (.UnaryOp .Not a pos) (notT f) := by
  obtain ⟨t, a1, a2⟩ := h.ex
  exact ⟨_, fun i => pt_not (a1 i), sem_not a2⟩
end
/-! ### and, or, not as values of truths -/
section
variable {a b c : Expr} {rest : List Expr} {fa fb fc : XE} {f g : XT} {pos : Pos}
theorem sem_andV {K : PySem.W.Frag} {ta tb : TE} (h : Sem K tc ow ta fa) (h' : Sem K tc ow tb fb) : Sem K tc ow (tAndV ta tb) (ifE (tE fa) fb (cE (.bool false))) := fun own Z ρ σ H d ρ' Q ho R hf hq => by
  unfold ifE at hf
  cases e : tE fa ρ with
  | none => rw [e] at hf; cases hf
  | some p =>
    obtain ⟨c, ρ1⟩ := p
    rw [e] at hf
    simp only [Option.bind_some] at hf
    have h2 := sem_test h own Z ρ σ H c ρ1 (fun k H1 => Rep K own Z ρ1 σ H1 ∧ Grt tc own H H1 ∧ k = c) ho R e fun H1 R1 g1 => ⟨R1, g1, rfl⟩
    refine h own Z ρ σ H (.bool c) ρ1 _ ho R ?_ fun v H1 R1 g1 d1 => ?_
    · unfold tE at e
      cases q : fa ρ with
      | none => rw [q] at e; cases e
      | some r =>
        obtain ⟨x, ρ2⟩ := r
        rw [q] at e
        simp only [Option.bind_some] at e
        cases x with
        | bool y =>
          simp only [asB, Option.map_some, Option.some.injEq, Prod.mk.injEq] at e
          obtain ⟨rfl, rfl⟩ := e
          rfl
        | _ => simp only [asB] at e; cases e
    · cases d1
      refine ⟨c, rfl, ?_⟩
      cases c with
      | true =>
        rw [if_pos rfl] at hf ⊢
        exact h' own Z ρ1 σ H1 d ρ' _ ho R1 hf fun v H2 R2 g2 d2 => hq v H2 R2 (g1.trans g2) d2
      | false =>
        rw [if_neg Bool.false_ne_true] at hf ⊢
        simp only [cE, Option.some.injEq, Prod.mk.injEq] at hf
        obtain ⟨rfl, rfl⟩ := hf
        exact hq _ H1 R1 g1 (.bl false)
theorem tE_some {ρ ρ1 : En} {c : Bool} (e : tE fa ρ = some (c, ρ1)) : fa ρ = some (.bool c, ρ1) := by
  unfold tE at e
  cases q : fa ρ with
  | none => rw [q] at e; cases e
  | some r =>
    obtain ⟨x, ρ2⟩ := r
    rw [q] at e
    simp only [Option.bind_some] at e
    cases x with
    | bool y =>
      simp only [asB, Option.map_some, Option.some.injEq, Prod.mk.injEq] at e
      obtain ⟨rfl, rfl⟩ := e
      rfl
    | _ => simp only [asB] at e; cases e
theorem sem_orV {K : PySem.W.Frag} {ta tb : TE} (h : Sem K tc ow ta fa) (h' : Sem K tc ow tb fb) : Sem K tc ow (tOrV ta tb) (ifE (tE fa) (cE (.bool true)) fb) := fun own Z ρ σ H d ρ' Q ho R hf hq => by
  unfold ifE at hf
  cases e : tE fa ρ with
  | none => rw [e] at hf; cases hf
  | some p =>
    obtain ⟨c, ρ1⟩ := p
    rw [e] at hf
    simp only [Option.bind_some] at hf
    refine h own Z ρ σ H (.bool c) ρ1 _ ho R (tE_some e) fun v H1 R1 g1 d1 => ?_
    cases d1
    refine ⟨c, rfl, ?_⟩
    cases c with
    | true =>
      rw [if_pos rfl] at hf ⊢
      simp only [cE, Option.some.injEq, Prod.mk.injEq] at hf
      obtain ⟨rfl, rfl⟩ := hf
      exact hq _ H1 R1 g1 (.bl true)
    | false =>
      rw [if_neg Bool.false_ne_true] at hf ⊢
      exact h' own Z ρ1 σ H1 d ρ' _ ho R1 hf fun v H2 R2 g2 d2 => hq v H2 R2 (g1.trans g2) d2
def notE (fa : XE) : XE := fun ρ => (tE fa ρ).map fun p => (.bool (!p.1), p.2)
theorem sem_notV {K : PySem.W.Frag} {ta : TE} (h : Sem K tc ow ta fa) : Sem K tc ow (tNotV ta) (notE fa) := fun own Z ρ σ H d ρ' Q ho R hf hq => by
  unfold notE at hf
  cases e : tE fa ρ with
  | none => rw [e] at hf; cases hf
  | some p =>
    obtain ⟨c, ρ1⟩ := p
    rw [e] at hf
    simp only [Option.map_some, Option.some.injEq, Prod.mk.injEq] at hf
    obtain ⟨rfl, rfl⟩ := hf
    refine h own Z ρ σ H (.bool c) _ _ ho R (tE_some e) fun v H1 R1 g1 d1 => ?_
    cases d1
    exact ⟨c, rfl, hq _ H1 R1 g1 (.bl _)⟩
theorem re_one {op : BoolOp} (h : RE X C tc ow a fa) : RE X C tc ow (.BoolOp op [a] pos) fa := by
  obtain ⟨t, a1, a2⟩ := h.ex
  exact ⟨_, fun i => pe_one (a1 i), a2⟩
theorem re_and (h : RE X C tc ow a fa) (h' : RE X C tc ow (.BoolOp .And (b :: rest) pos) fb) : RE X C tc ow (.BoolOp .And (a :: b :: rest) pos) (ifE (tE fa) fb (cE (.bool false))) := by
  obtain ⟨t, a1, a2⟩ := h.ex
  obtain ⟨u, b1, b2⟩ := h'.ex
  exact ⟨_, fun i => pe_and (a1 i) (b1 i), sem_andV a2 b2⟩
theorem re_or (h : RE X C tc ow a fa) (h' : RE X C tc ow (.BoolOp .Or (b :: rest) pos) fb) : RE X C tc ow (.BoolOp .Or (a :: b :: rest) pos) (ifE (tE fa) (cE (.bool true)) fb) := by
  obtain ⟨t, a1, a2⟩ := h.ex
  obtain ⟨u, b1, b2⟩ := h'.ex
  exact ⟨_, fun i => pe_or (a1 i) (b1 i), sem_orV a2 b2⟩
theorem re_not (h : RE X C tc ow a fa) : RE X C tc ow (.UnaryOp .Not a pos) (notE fa) := by
  obtain ⟨t, a1, a2⟩ := h.ex
  exact ⟨_, fun i => pe_not (a1 i), sem_notV a2⟩
theorem re_if (hc : RT X C tc ow c f) (ha : RE X C tc ow a fa) (hb : RE X C tc ow b fb) : RE X C tc ow (.IfExp c a b pos) (ifE f fa fb) := by
  obtain ⟨tc, c1, c2⟩ := hc.ex
  obtain ⟨ta, a1, a2⟩ := ha.ex
  obtain ⟨tb, b1, b2⟩ := hb.ex
  refine ⟨_, fun i => pe_ifExp (c1 i) (a1 i) (b1 i), fun own Z ρ σ H d ρ' Q ho R hf hq => ?_⟩
  unfold ifE at hf
  cases e : f ρ with
  | none => rw [e] at hf; cases hf
  | some p =>
    obtain ⟨c, ρ1⟩ := p
    rw [e] at hf
    simp only [Option.bind_some] at hf
    refine c2 own Z ρ σ H c ρ1 _ ho R e fun H1 R1 g1 => ?_
    cases c with
    | true =>
      rw [if_pos rfl] at hf ⊢
      exact a2 own Z ρ1 σ H1 d ρ' _ ho R1 hf fun v H2 R2 g2 d2 => hq v H2 R2 (g1.trans g2) d2
    | false =>
      rw [if_neg Bool.false_ne_true] at hf ⊢
      exact b2 own Z ρ1 σ H1 d ρ' _ ho R1 hf fun v H2 R2 g2 d2 => hq v H2 R2 (g1.trans g2) d2
/-- a < b < c -/
theorem sem_chain {K : PySem.W.Frag} {r r' : R2} {g g' : D → D → Option D} {ta tb t3 : TE} (hs : OpS K r g) (hs' : OpS K r' g') (a2 : Sem K tc ow ta fa) (b2 : Sem K tc ow tb fb) (c2 : Sem K tc ow t3 fc) : Sem K tc ow (tChain r r' ta tb t3) (chE g g' fa fb fc) := fun own Z ρ σ H d ρ' Q ho R hf hq => by
  unfold chE at hf
  cases e1 : fa ρ with
  | none => rw [e1] at hf; cases hf
  | some p =>
    obtain ⟨x, ρ1⟩ := p
    rw [e1] at hf
    simp only [Option.bind_some] at hf
    cases e2 : fb ρ1 with
    | none => rw [e2] at hf; cases hf
    | some q =>
      obtain ⟨y, ρ2⟩ := q
      rw [e2] at hf
      simp only [Option.bind_some] at hf
      cases e3 : g x y with
      | none => rw [e3] at hf; cases hf
      | some z =>
        rw [e3] at hf
        simp only [Option.bind_some] at hf
        cases z with
        | bool k =>
          simp only [asB, Option.bind_some] at hf
          refine a2 own Z ρ σ H x ρ1 _ ho R e1 fun v H1 R1 g1 d1 => ?_
          refine b2 own Z ρ1 σ H1 y ρ2 _ ho R1 e2 fun u H2 R2 g2 d2 => ?_
          refine hs _ H2 v u x y (.bool k) _ R2.zok (d1.ext g2.hid) d2 e3 fun z H3 e d3 => ?_
          cases d3
          refine ⟨k, rfl, ?_⟩
          cases k with
          | true =>
            rw [if_pos rfl] at hf ⊢
            cases e4 : fc ρ2 with
            | none => rw [e4] at hf; cases hf
            | some s =>
              obtain ⟨w, ρ3⟩ := s
              rw [e4] at hf
              simp only [Option.bind_some] at hf
              cases e5 : g' y w with
              | none => rw [e5] at hf; cases hf
              | some t =>
                rw [e5] at hf
                simp only [Option.map_some, Option.some.injEq, Prod.mk.injEq] at hf
                obtain ⟨rfl, rfl⟩ := hf
                refine c2 own Z ρ2 σ H3 w _ _ ho (R2.ext e) e4 fun u2 H4 R4 g4 d4 => ?_
                exact hs' _ H4 u u2 y w _ Q R4.zok ((d2.ext (Gro.of e).hid).ext g4.hid) d4 e5 fun z H5 e' d5 =>
                  hq z H5 (R4.ext e') ((((g1.trans g2).trans (Grt.of e)).trans g4).trans (Grt.of e')) d5
          | false =>
            rw [if_neg Bool.false_ne_true] at hf ⊢
            simp only [Option.some.injEq, Prod.mk.injEq] at hf
            obtain ⟨rfl, rfl⟩ := hf
            exact hq _ H3 (R2.ext e) ((g1.trans g2).trans (Grt.of e)) (.bl false)
        | _ => simp only [asB] at hf; cases hf
theorem re_chain {op op' : CmpOp} {r r' : R2} {g g' : D → D → Option D} (hs : OpS C.K r g) (hs' : OpS C.K r' g') (ha : RE X C tc ow a fa) (hb : RE X C tc ow b fb) (hc : RE X C tc ow c fc)
    (pc : ∀ (i : ι) {ta tb t3 : TE}, PE (X i) a ta → PE (X i) b tb → PE (X i) c t3 → PE (X i) (.Compare a [op, op'] [b, c] pos) (tChain r r' ta tb t3)) :
    RE X C tc ow (.Compare a [op, op'] [b, c] pos) (chE g g' fa fb fc) := by
  obtain ⟨ta, a1, a2⟩ := ha.ex
  obtain ⟨tb, b1, b2⟩ := hb.ex
  obtain ⟨t3, c1, c2⟩ := hc.ex
  exact ⟨_, fun i => pc i (a1 i) (b1 i) (c1 i), sem_chain hs hs' a2 b2 c2⟩
theorem rt_chain {op op' : CmpOp} {r r' : R2} {g g' : D → D → Option D} (hs : OpS C.K r g) (hs' : OpS C.K r' g') (ha : RE X C tc ow a fa) (hb : RE X C tc ow b fb) (hc : RE X C tc ow c fc)
    (pc : ∀ (i : ι) {ta tb t3 : TE}, PE (X i) a ta → PE (X i) b tb → PE (X i) c t3 → PT (X i) (.Compare a [op, op'] [b, c] pos) (tTest (tChain r r' ta tb t3))) :
    RT X C tc ow (.Compare a [op, op'] [b, c] pos) (tE (chE g g' fa fb fc)) := by
  obtain ⟨ta, a1, a2⟩ := ha.ex
  obtain ⟨tb, b1, b2⟩ := hb.ex
  obtain ⟨t3, c1, c2⟩ := hc.ex
  exact ⟨_, fun i => pc i (a1 i) (b1 i) (c1 i), sem_test (sem_chain hs hs' a2 b2 c2)⟩
end
/-! ### arguments, displays, calls -/
section
variable {e : Expr} {es : List Expr} {f : XE} {fr : XA} {pos : Pos}
theorem ra_nil : RA X C tc ow [] nilA := ⟨⟨tNil, fun _ => pa_nil, fun own Z ρ σ H ds ρ' Q ho R hf hq => by
  simp only [nilA, Option.some.injEq, Prod.mk.injEq] at hf
  obtain ⟨rfl, rfl⟩ := hf
  exact hq [] H R Grt.refl .nil⟩, fun ρ ds ρ' h => by
  simp only [nilA, Option.some.injEq, Prod.mk.injEq] at h
  rw [← h.1]; rfl⟩
theorem ra_cons (h : RE X C tc ow e f) (hr : RA X C tc ow es fr) (hs : ∀ i, starEach (e :: es) (X i).env = (false, eval e (X i).env) :: starEach es (X i).env) : RA X C tc ow (e :: es) (consA f fr) := by
  obtain ⟨t, a1, a2⟩ := h.ex
  obtain ⟨u, b1, b2⟩ := hr.ex
  refine ⟨⟨_, fun i => pa_cons (a1 i) (b1 i) (hs i), fun own Z ρ σ H ds ρ' Q ho R hf hq => ?_⟩, fun ρ ds ρ' hf => by
    unfold consA at hf
    cases e1 : f ρ with
    | none => rw [e1] at hf; cases hf
    | some p =>
      rw [e1] at hf
      simp only [Option.bind_some] at hf
      cases e2 : fr p.2 with
      | none => rw [e2] at hf; cases hf
      | some q =>
        rw [e2] at hf
        simp only [Option.map_some, Option.some.injEq, Prod.mk.injEq] at hf
        rw [← hf.1, List.length_cons, List.length_cons, hr.len _ _ _ e2]⟩
  unfold consA at hf
  cases e1 : f ρ with
  | none => rw [e1] at hf; cases hf
  | some p =>
    obtain ⟨x, ρ1⟩ := p
    rw [e1] at hf
    simp only [Option.bind_some] at hf
    cases e2 : fr ρ1 with
    | none => rw [e2] at hf; cases hf
    | some q =>
      obtain ⟨y, ρ2⟩ := q
      rw [e2] at hf
      simp only [Option.map_some, Option.some.injEq, Prod.mk.injEq] at hf
      obtain ⟨rfl, rfl⟩ := hf
      refine a2 own Z ρ σ H x ρ1 _ ho R e1 fun v H1 R1 g1 d1 => ?_
      refine b2 own Z ρ1 σ H1 y _ _ ho R1 e2 fun u H2 R2 g2 d2 => ?_
      exact hq (v :: u) H2 R2 (g1.trans g2) (.cons (d1.ext g2.hid) d2)
theorem hid_upd {Z : List Addr} {H : Hp} {p : Addr} {o : HO} (h : p ∉ Z) : hid Z (upd H p o) p = some o := hid_some.mpr ⟨h, upd_same⟩
theorem re_tup {x1} (h : RA X C tc ow es fr) : RE X C tc ow (.Tuple es x1 pos) (tupE fr) := by
  obtain ⟨t, a1, a2⟩ := h.ex
  refine ⟨_, fun i => pe_tup (a1 i), fun own Z ρ σ H d ρ' Q ho R hf hq => ?_⟩
  unfold tupE at hf
  cases e1 : fr ρ with
  | none => rw [e1] at hf; cases hf
  | some p =>
    obtain ⟨x, ρ1⟩ := p
    rw [e1] at hf
    simp only [Option.bind_some] at hf
    split at hf
    · rename_i hl
      simp only [Option.some.injEq, Prod.mk.injEq] at hf
      obtain ⟨rfl, rfl⟩ := hf
      refine a2 own Z ρ σ H x _ _ ho R e1 fun vs H1 R1 g1 d1 => ⟨by rw [← d1.len]; exact hl, fun p hp => ?_⟩
      exact hq _ _ (R1.ext (Ext.new hp)) (g1.trans (Grt.of (Ext.new hp))) (.tup (.inl (hid_upd (R1.new_nin hp))) (by rw [← d1.len]; exact hl) (d1.ext (Gro.of (Ext.new hp)).hid))
    · cases hf
theorem rf_lst (h : RA X C tc ow es fr) : RF X C tc ow (.List es pos) (lstE fr) := by
  obtain ⟨t, a1, a2⟩ := h.ex
  refine ⟨_, fun i => pe_lst (a1 i), fun own Z ρ σ H d ρ' Q ho R hf hq => ?_⟩
  unfold lstE at hf
  cases e1 : fr ρ with
  | none => rw [e1] at hf; cases hf
  | some p =>
    obtain ⟨x, ρ1⟩ := p
    rw [e1] at hf
    simp only [Option.bind_some] at hf
    split at hf
    · rename_i hl
      simp only [Option.some.injEq, Prod.mk.injEq] at hf
      obtain ⟨rfl, rfl⟩ := hf
      refine a2 own Z ρ σ H x _ _ ho R e1 fun vs H1 R1 g1 d1 => ⟨by rw [← d1.len]; exact hl, fun p hp => ?_⟩
      have hp0 : H p = none := by
        cases q : H p with
        | none => rfl
        | some u =>
          by_cases hm : p ∈ adr own
          · obtain ⟨o, q2⟩ := R1.ain hm
            rw [hp] at q2; cases q2
          · rw [g1 p u q (nadr hm)] at hp; cases hp
      refine hq p _ _ (R1.hide hp (Gro.of (Ext.new hp)) (fun a ha => upd_ne fun z => ?_) upd_same) (g1.trans (Grt.of (Ext.new hp))) hp0 upd_same (.lst (by rw [← d1.len]; exact hl) (d1.ext fun a u q => ?_))
      · subst z
        obtain ⟨o, q2⟩ := R1.ain ha
        rw [hp] at q2; cases q2
      · have h3 := hid_some.mp q
        have hap : a ≠ p := fun z => by subst z; rw [hp] at h3; cases h3.2
        refine hid_some.mpr ⟨fun z => ?_, by rw [upd_ne hap]; exact h3.2⟩
        rcases List.mem_append.mp z with z | z
        · exact h3.1 (List.mem_append_left _ z)
        · rcases List.mem_cons.mp z with z | z
          · exact hap z
          · exact h3.1 (List.mem_append_right _ z)
    · cases hf
/-- a built-in's call -/
theorem re_callB {id : String} {x : Str} {r : List V → Hp → VK → Prop} {g : List D → Option D} {p : Pos} (F : Fam X C N k) (hc : ∀ i, CallR (X i) (.builtin id) r) (hs : ClS C.K r g) (hm : C.mg x = none) (hv : bootBuiltins x = some (.builtin id)) (hg : ∀ i, Gl (X i) x)
    (ha : RA X C tc ow (e :: es) fr) (he : ∀ i, ∀ {t : TA}, PA (X i) (e :: es) t → CallR (X i) (.builtin id) r → Gl (X i) x → (X i).mg x = none → PE (X i) (.Call (.Name x p) (e :: es) [] pos) (tCB r t)) :
    RE X C tc ow (.Call (.Name x p) (e :: es) [] pos) (clE g fr) := by
  obtain ⟨t, a1, a2⟩ := ha.ex
  refine ⟨_, fun i => he i (a1 i) (hc i) (hg i) (by rw [F.mg i]; exact hm), fun own Z ρ σ H d ρ' Q ho R hf hq => ?_⟩
  unfold clE at hf
  cases e1 : fr ρ with
  | none => rw [e1] at hf; cases hf
  | some p =>
    obtain ⟨ds, ρ1⟩ := p
    rw [e1] at hf
    simp only [Option.bind_some] at hf
    cases e2 : g ds with
    | none => rw [e2] at hf; cases hf
    | some z =>
      rw [e2] at hf
      simp only [Option.map_some, Option.some.injEq, Prod.mk.injEq] at hf
      obtain ⟨rfl, rfl⟩ := hf
      refine a2 own Z ρ σ H ds _ _ ho R e1 fun vs H1 R1 g1 d1 => ?_
      exact hs _ H1 vs ds _ Q R1.zok d1 e2 fun v H2 e d2 => hq v H2 (R1.ext e) (g1.trans (Grt.of e)) d2
end
end
end Lay

namespace Lay
open PySem PySem.Spec PyProof.Rows L2

/-! ## statements -/
inductive Out where
  | nx (ρ : En)
  | rt (d : D) (ρ : En)
  | bk (ρ : En)
  | ct (ρ : En)
  | bad
abbrev XS := En → Out

structure Step (mu : List Nat) (own : Ow) (H : Hp) (own' : Ow) (H' : Hp) : Prop where
  gro : Gro own H H'
  new : ∀ p ∈ own', p.2 ∈ adr own ∨ H p.2 = none
  mu : ∀ i ∈ mu, ∀ a, (i, a) ∈ own' → (i, a) ∈ own
theorem Step.refl {mu : List Nat} {own : Ow} {H : Hp} : Step mu own H own H := ⟨Gro.refl, fun p h => .inl (List.mem_map.mpr ⟨p, h, rfl⟩), fun _ _ _ h => h⟩
theorem Step.of {mu : List Nat} {own : Ow} {H H' : Hp} (g : Gro own H H') : Step mu own H own H' := ⟨g, fun p h => .inl (List.mem_map.mpr ⟨p, h, rfl⟩), fun _ _ _ h => h⟩
theorem Step.back {mu : List Nat} {own own1 : Ow} {H H1 : Hp} (x : Step mu own H own1 H1) {a : Addr} (h : a ∈ adr own1 ∨ H1 a = none) : a ∈ adr own ∨ H a = none := by
  rcases h with h | h
  · obtain ⟨p, hp, rfl⟩ := List.mem_map.mp h
    exact x.new p hp
  · by_cases ha : a ∈ adr own
    · exact .inl ha
    · cases q : H a with
      | none => exact .inr rfl
      | some o => rw [x.gro a o q ha] at h; cases h
theorem Step.trans {mu : List Nat} {own own1 own2 : Ow} {H H1 H2 : Hp} (x : Step mu own H own1 H1) (y : Step mu own1 H1 own2 H2) : Step mu own H own2 H2 where
  gro := fun a o h n => y.gro a o (x.gro a o h n) fun q => by
    obtain ⟨p, hp, rfl⟩ := List.mem_map.mp q
    rcases x.new p hp with r | r
    · exact n r
    · rw [h] at r; cases r
  new := fun p h => x.back (y.new p h)
  mu := fun i hi a h => x.mu i hi a (y.mu i hi a h)
theorem Step.hid {mu : List Nat} {own own1 : Ow} {H H1 : Hp} {Z : List Addr} (x : Step mu own H own1 H1) : Ext (hid (adr own ++ Z) H) (hid (adr own1 ++ Z) H1) := fun a o e => by
  have h := hid_some.mp e
  have n : a ∉ adr own := fun q => h.1 (List.mem_append_left _ q)
  refine hid_some.mpr ⟨fun q => ?_, x.gro a o h.2 n⟩
  rcases List.mem_append.mp q with q | q
  · obtain ⟨p, hp, rfl⟩ := List.mem_map.mp q
    rcases x.new p hp with r | r
    · exact n r
    · rw [h.2] at r; cases r
  · exact h.1 (List.mem_append_right _ q)

section
variable (K : PySem.W.Frag) (mu : List Nat) (fr : Bool) (owl : List Nat)
/-- what is wanted behind a statement: fr: what is returned is a new object; owl: what is owned at the loop's head -/
def After (ow' : List Nat) (own : Ow) (Z : List Addr) (H : Hp) (E : Ends) : Out → Prop
  | .nx ρ' => ∀ (own' : Ow) (σ' : L2.St) (H' : Hp), own'.map (·.1) = ow' → Step mu own H own' H' → Rep K own' Z ρ' σ' H' → E.nx σ' H'
  | .bk ρ' => ∀ (own' : Ow) (σ' : L2.St) (H' : Hp), own'.map (·.1) = owl → Step mu own H own' H' → Rep K own' Z ρ' σ' H' → E.bk σ' H'
  | .ct ρ' => ∀ (own' : Ow) (σ' : L2.St) (H' : Hp), own'.map (·.1) = owl → Step mu own H own' H' → Rep K own' Z ρ' σ' H' → E.ct σ' H'
  | .rt d ρ' => match fr with
    | true => ∀ (own' : Ow) (σ' : L2.St) (H' : Hp) (p : Addr) (o : HO), own'.map (·.1) = mu → Step mu own H own' H' → Rep K own' (p :: Z) ρ' σ' H' → (p ∈ adr own ∨ H p = none) → H' p = some o → Ob K (hid (adr own' ++ p :: Z) H') d o → E.rt (.ref p) H'
    | false => ∀ (v : V) (own' : Ow) (σ' : L2.St) (H' : Hp), own'.map (·.1) = mu → Step mu own H own' H' → Rep K own' Z ρ' σ' H' → Dat K (hid (adr own' ++ Z) H') d v → E.rt v H'
  | .bad => False
def SemS (ow ow' : List Nat) (ts : TS) (F : XS) : Prop := ∀ (own : Ow) (Z : List Addr) (ρ : En) (σ : L2.St) (H : Hp) (E : Ends), own.map (·.1) = ow → Rep K own Z ρ σ H → After K mu fr owl ow' own Z H E (F ρ) → ts E σ H
end
section
variable {K : PySem.W.Frag} {mu : List Nat} {fr : Bool} {owl : List Nat}
theorem After.step {ow' : List Nat} {own own1 : Ow} {Z : List Addr} {H H1 : Hp} {E : Ends} (s : Step mu own H own1 H1) : ∀ {o : Out}, After K mu fr owl ow' own Z H E o → After K mu fr owl ow' own1 Z H1 E o
  | .nx _, h => fun own' σ' H' e s' R => h own' σ' H' e (s.trans s') R
  | .bk _, h => fun own' σ' H' e s' R => h own' σ' H' e (s.trans s') R
  | .ct _, h => fun own' σ' H' e s' R => h own' σ' H' e (s.trans s') R
  | .rt d ρ, h => by
    cases fr with
    | true => exact fun own' σ' H' p o e s' R hp h1 h2 => h own' σ' H' p o e (s.trans s') R (s.back hp) h1 h2
    | false => exact fun v own' σ' H' e s' R hd => h v own' σ' H' e (s.trans s') R hd
  | .bad, h => h
/-- only the next end is changed -/
theorem After.nxt {ow1 ow2 : List Nat} {own : Ow} {Z : List Addr} {H : Hp} {E E' : Ends} {o : Out} (h : After K mu fr owl ow2 own Z H E o) (h1 : ∀ ρ, o = .nx ρ → After K mu fr owl ow1 own Z H E' (.nx ρ))
    (hb : ∀ σ H, E.bk σ H → E'.bk σ H) (hc : ∀ σ H, E.ct σ H → E'.ct σ H) (hr : ∀ v H, E.rt v H → E'.rt v H) : After K mu fr owl ow1 own Z H E' o := by
  cases o with
  | nx ρ => exact h1 ρ rfl
  | bk ρ => exact fun own' σ' H' e s' R => hb _ _ (h own' σ' H' e s' R)
  | ct ρ => exact fun own' σ' H' e s' R => hc _ _ (h own' σ' H' e s' R)
  | rt d ρ =>
    cases fr with
    | true => exact fun own' σ' H' p o e s' R hp h1 h2 => hr _ _ (h own' σ' H' p o e s' R hp h1 h2)
    | false => exact fun v own' σ' H' e s' R hd => hr _ _ (h v own' σ' H' e s' R hd)
  | bad => exact h
end

section
variable {ι : Type} (X : ι → Cx) (C : Ct) (mu : List Nat) (fr : Bool) (owl : List Nat) (ow ow' : List Nat)
structure RS (st : Stmt) (F : XS) : Prop where
  ex : ∃ ts, (∀ i, PS (X i) st ts) ∧ SemS C.K mu fr owl ow ow' ts F
structure RSs (st : List Stmt) (F : XS) : Prop where
  ex : ∃ ts, (∀ i, PSs (X i) st ts) ∧ SemS C.K mu fr owl ow ow' ts F
end

def nopS : XS := fun ρ => .nx ρ
def seqS (F G : XS) : XS := fun ρ => match F ρ with
  | .nx ρ' => G ρ'
  | o => o
def setS (i : Nat) (f : XE) : XS := fun ρ => match f ρ with
  | some (d, ρ') => .nx (ρ'.set i (some d))
  | none => .bad
def ownS (i : Nat) (f : XE) : XS := fun ρ => if i < ρ.length then setS i f ρ else .bad
def retOS (i : Nat) : XS := fun ρ => match varE i ρ with
  | some (d, ρ') => .rt d (ρ'.set i none)
  | none => .bad
def dropS (f : XE) : XS := fun ρ => match f ρ with
  | some (_, ρ') => .nx ρ'
  | none => .bad
def retS (f : XE) : XS := fun ρ => match f ρ with
  | some (d, ρ') => .rt d ρ'
  | none => .bad
def ifS (t : XT) (F G : XS) : XS := fun ρ => match t ρ with
  | some (b, ρ') => if b = true then F ρ' else G ρ'
  | none => .bad
def kil (ρ : En) : List Nat → En
  | [] => ρ
  | v :: vs => (kil ρ vs).set v none
def killS (vs : List Nat) : XS := fun ρ => .nx (kil ρ vs)

section
variable {ι : Type} {X : ι → Cx} {C : Ct} {mu : List Nat} {fr : Bool} {tc owl ow ow1 ow2 : List Nat} {N : List Str} {k : Nat}

theorem ow_inj : ∀ {l : Ow}, (l.map (·.2)).Nodup → ∀ {p q : Nat × Addr}, p ∈ l → q ∈ l → p.2 = q.2 → p = q
  | [], _, _, _, hp, _, _ => by cases hp
  | x :: l, nd, p, q, hp, hq, e => by
    rw [List.map_cons, List.nodup_cons] at nd
    rcases List.mem_cons.mp hp with e1 | hp
    · rcases List.mem_cons.mp hq with e2 | hq
      · rw [e1, e2]
      · exact absurd (List.mem_map.mpr ⟨q, hq, by rw [← e, e1]⟩) nd.1
    · rcases List.mem_cons.mp hq with e2 | hq
      · exact absurd (List.mem_map.mpr ⟨p, hp, by rw [e, e2]⟩) nd.1
      · exact ow_inj nd.2 hp hq e
theorem Rep.sub {K : PySem.W.Frag} {own own' : Ow} {Z : List Addr} {ρ : En} {σ : L2.St} {H : Hp} (R : Rep K own Z ρ σ H) (s : own'.Sublist own) : Rep K own' Z ρ σ H := by
  have sub : ∀ p ∈ own', p ∈ own := fun p h => s.subset h
  have x : Ext (hid (adr own ++ Z) H) (hid (adr own' ++ Z) H) := hid_sub fun a h => by
    rcases List.mem_append.mp h with h | h
    · obtain ⟨p, hp, rfl⟩ := List.mem_map.mp h
      exact List.mem_append_left _ (List.mem_map.mpr ⟨p, sub p hp, rfl⟩)
    · exact List.mem_append_right _ h
  refine ⟨R.len, fun i d h n => ?_, fun i a h => ?_, R.nd1.sublist (s.map _), R.nd2.sublist (s.map _), fun a h => R.dis a ?h5, R.zin⟩
  · by_cases hi : i ∈ own.map (·.1)
    · obtain ⟨⟨j, a⟩, hp, rfl⟩ := List.mem_map.mp hi
      obtain ⟨h1, e, o, h2, h3, h4⟩ := R.obj j a hp
      rw [h2] at h
      simp only [Option.some.injEq] at h
      subst h
      refine ⟨.ref a, h1, (h4.ext x).dat (hid_some.mpr ⟨fun q => ?_, h3⟩)⟩
      rcases List.mem_append.mp q with q | q
      · obtain ⟨⟨m, b⟩, hm, e2⟩ := List.mem_map.mp q
        have e2 : b = a := e2
        subst e2
        have : (m, b) = (j, b) := by
          exact ow_inj R.nd2 (sub _ hm) hp rfl
        cases this
        exact n (List.mem_map.mpr ⟨_, hm, rfl⟩)
      · exact R.dis a (List.mem_map.mpr ⟨_, hp, rfl⟩) q
    · obtain ⟨v, h1, h2⟩ := R.dat i d h hi
      exact ⟨v, h1, h2.ext x⟩
  · obtain ⟨h1, d, o, h2, h3, h4⟩ := R.obj i a (sub _ h)
    exact ⟨h1, d, o, h2, h3, h4.ext x⟩
  case h5 =>
    obtain ⟨p, hp, rfl⟩ := List.mem_map.mp h
    exact List.mem_map.mpr ⟨p, sub p hp, rfl⟩
/-- some of what is owned is given up -/
def keepO (ks : List Nat) (own : Ow) : Ow := own.filter fun p => ks.contains p.1
theorem keepO_map (ks : List Nat) (own : Ow) : (keepO ks own).map (·.1) = (own.map (·.1)).filter fun i => ks.contains i := by
  unfold keepO
  induction own with
  | nil => rfl
  | cons p r ih =>
    rw [List.filter_cons, List.map_cons, List.filter_cons]
    split <;> rename_i h
    · rw [List.map_cons, ih]
    · exact ih
theorem Step.keep {K : PySem.W.Frag} {own : Ow} {H : Hp} (ks : List Nat) : Step mu own H (keepO ks own) H :=
  ⟨Gro.refl, fun p h => .inl (List.mem_map.mpr ⟨p, (List.mem_filter.mp h).1, rfl⟩), fun _ _ _ h => (List.mem_filter.mp h).1⟩
theorem sem_weak {K : PySem.W.Frag} {ts : TS} {F : XS} (h : ow1 = ow.filter fun i => ow1.contains i) (hs : SemS K mu fr owl ow1 ow2 ts F) : SemS K mu fr owl ow ow2 ts F := fun own Z ρ σ H E ho R hf => by
  refine hs (keepO ow1 own) Z ρ σ H E (by rw [keepO_map, ho, ← h]) (R.sub List.filter_sublist) ?_
  exact hf.step (Step.keep (K := K) ow1)
/-- ahead of a block: what is owned there may be more -/
theorem rss_weak {sts : List Stmt} {F : XS} (hs : RSs X C mu fr owl ow1 ow2 sts F) (h : ow1 = ow.filter fun i => ow1.contains i) : RSs X C mu fr owl ow ow2 sts F := by
  obtain ⟨t, a1, a2⟩ := hs.ex
  exact ⟨t, a1, sem_weak h a2⟩
theorem rss_nil (h : ow2 = ow.filter fun i => ow2.contains i) : RSs X C mu fr owl ow ow2 [] nopS := ⟨tNext, fun _ => pss_nil, fun own Z ρ σ H E ho R hf => by
  refine hf (keepO ow2 own) σ H ?_ (Step.keep (K := C.K) ow2) (R.sub List.filter_sublist)
  rw [keepO_map, ho, ← h]⟩
/-- .. and some slots are forgotten at the end -/
theorem Rep.kils {K : PySem.W.Frag} {own : Ow} {Z : List Addr} {ρ : En} {σ : L2.St} {H : Hp} (R : Rep K own Z ρ σ H) : ∀ {vs : List Nat}, (∀ v ∈ vs, v ∉ own.map (·.1)) → Rep K own Z (kil ρ vs) σ H
  | [], _ => R
  | v :: vs, h => (Rep.kils R fun x hx => h x (List.mem_cons_of_mem _ hx)).kill (h v (List.mem_cons_self ..))
theorem rss_kill (vs : List Nat) (h : ow2 = ow.filter fun i => ow2.contains i) (hv : vs.all (fun v => !ow2.contains v) = true) : RSs X C mu fr owl ow ow2 [] (killS vs) := ⟨tNext, fun _ => pss_nil, fun own Z ρ σ H E ho R hf => by
  have e : (keepO ow2 own).map (·.1) = ow2 := by rw [keepO_map, ho, ← h]
  refine hf (keepO ow2 own) σ H e (Step.keep (K := C.K) ow2) ((R.sub List.filter_sublist).kils fun v hm => ?_)
  show v ∉ (keepO ow2 own).map (·.1)
  rw [e]
  intro q
  have := List.all_eq_true.mp hv v hm
  rw [List.contains_iff_mem.mpr q] at this
  cases this⟩
theorem sem_seq {K : PySem.W.Frag} {t u : TS} {F G : XS} (h : SemS K mu fr owl ow ow1 t F) (h' : SemS K mu fr owl ow1 ow2 u G) : SemS K mu fr owl ow ow2 (tSeq t u) (seqS F G) := fun own Z ρ σ H E ho R hf => by
  refine h own Z ρ σ H _ ho R ?_
  unfold seqS at hf
  cases e : F ρ with
  | nx ρ1 =>
    rw [e] at hf
    exact fun own1 σ1 H1 e1 s1 R1 => h' own1 Z ρ1 σ1 H1 E e1 R1 (hf.step s1)
  | bk ρ1 => rw [e] at hf; exact hf
  | ct ρ1 => rw [e] at hf; exact hf
  | rt d ρ1 => rw [e] at hf; exact hf
  | bad => rw [e] at hf; exact hf
theorem rss_cons {st : Stmt} {rest : List Stmt} {F G : XS} (h : RS X C mu fr owl ow ow1 st F) (h' : RSs X C mu fr owl ow1 ow2 rest G) : RSs X C mu fr owl ow ow2 (st :: rest) (seqS F G) := by
  obtain ⟨t, a1, a2⟩ := h.ex
  obtain ⟨u, b1, b2⟩ := h'.ex
  exact ⟨_, fun i => pss_cons (a1 i) (b1 i), sem_seq a2 b2⟩
/-- nothing comes behind a return -/
theorem rss_last {st : Stmt} {F : XS} (h : RS X C mu fr owl ow ow1 st F) (hw : ow2 = ow1.filter fun i => ow2.contains i) : RSs X C mu fr owl ow ow2 [st] (seqS F nopS) := rss_cons h (rss_nil hw)

theorem xe_cases {f : XE} {ρ : En} {P : Out → Prop} {g : D → En → Out} (h : P (match f ρ with | some (d, ρ') => g d ρ' | none => .bad)) (hb : ¬ P .bad) : ∃ d ρ', f ρ = some (d, ρ') ∧ P (g d ρ') := by
  cases e : f ρ with
  | none => rw [e] at h; exact absurd h hb
  | some p => obtain ⟨d, ρ'⟩ := p; rw [e] at h; exact ⟨d, ρ', rfl, h⟩
theorem notin_of {own : Ow} {i : Nat} (ho : own.map (·.1) = ow) (hi : ow.contains i = false) : i ∉ own.map (·.1) := fun z => by
  rw [ho] at z
  rw [List.contains_iff_mem.mpr z] at hi
  cases hi

theorem rs_set {x : Str} {e : Expr} {f : XE} {pos pos' : Pos} (F : Fam X C N k) (i : Nat) (he : RE X C tc ow e f) (hi : N[i]? = some x) (hx : ∀ j, Loc (X j).env.scope x) (hw : ow.contains i = false)
    (hf : ∀ j, (X j).fn x = true ∨ (X j).env.scope.names.lookup x = some .local) (hs : ∀ j, swapsWith e (some (.Name x pos')) pos.line (X j).env = pure false) :
    RS X C mu fr owl ow ow (.Assign [.Name x pos'] e pos) (setS i f) := by
  obtain ⟨t, a1, a2⟩ := he.ex
  refine ⟨_, fun j => ps_set (i := i) (by rw [F.nm j]; exact F.nd) (by rw [F.nm j]; exact hi) (hx j) (a1 j) (hs j) (hf j), fun own Z ρ σ H E ho R h => ?_⟩
  obtain ⟨d, ρ1, e1, h⟩ := xe_cases (P := After C.K mu fr owl ow own Z H E) h (fun q => q)
  exact a2 own Z ρ σ H d ρ1 _ ho R e1 fun v H1 R1 g1 d1 => h own _ H1 ho (Step.of g1.all) (R1.set (notin_of ho hw) d1)

/-- a new object takes a slot -/
theorem Rep.push {K : PySem.W.Frag} {own : Ow} {Z : List Addr} {ρ : En} {σ : L2.St} {H : Hp} {p : Addr} {o : HO} {d : D} {i : Nat} (R : Rep K own (p :: Z) ρ σ H) (hi : i ∉ own.map (·.1)) (hl : i < σ.length) (hp : p ∉ adr own) (hz : p ∉ Z)
    (e : H p = some o) (ob : Ob K (hid (adr own ++ p :: Z) H) d o) : Rep K (own ++ [(i, p)]) Z (ρ.set i (some d)) (σ.set i (some (.ref p))) H := by
  have m1 : (own ++ [(i, p)]).map (·.1) = own.map (·.1) ++ [i] := by rw [List.map_append]; rfl
  have m2 : adr (own ++ [(i, p)]) = adr own ++ [p] := by show List.map _ _ = _; rw [List.map_append]; rfl
  have x : Ext (hid (adr own ++ p :: Z) H) (hid (adr (own ++ [(i, p)]) ++ Z) H) := hid_sub fun a h => by
    rw [m2] at h
    simp only [List.mem_append, List.mem_cons, List.not_mem_nil, or_false] at h ⊢
    rcases h with (h | h) | h
    · exact .inl h
    · exact .inr (.inl h)
    · exact .inr (.inr h)
  refine ⟨by rw [List.length_set, List.length_set]; exact R.len, fun j c q n => ?_, fun j a q => ?_, ?_, ?_, fun a h z => ?_, fun z h => R.zin z (List.mem_cons_of_mem _ h)⟩
  · rw [m1] at n
    have hij : i ≠ j := fun z => n (by subst z; exact List.mem_append_right _ (List.mem_singleton.mpr rfl))
    rw [List.getElem?_set, if_neg hij] at q
    obtain ⟨v, h1, h2⟩ := R.dat j c q fun z => n (List.mem_append_left _ z)
    exact ⟨v, by rw [List.getElem?_set, if_neg hij]; exact h1, h2.ext x⟩
  · rcases List.mem_append.mp q with q | q
    · obtain ⟨h1, c, u, h2, h3, h4⟩ := R.obj j a q
      have hij : i ≠ j := fun z => hi (by subst z; exact List.mem_map.mpr ⟨_, q, rfl⟩)
      exact ⟨by rw [List.getElem?_set, if_neg hij]; exact h1, c, u, by rw [List.getElem?_set, if_neg hij]; exact h2, h3, h4.ext x⟩
    · have q := List.mem_singleton.mp q
      cases q
      exact ⟨by rw [List.getElem?_set]; simp [hl], d, o, by rw [List.getElem?_set]; simp [R.len, hl], e, ob.ext x⟩
  · rw [m1]
    exact List.nodup_append.mpr ⟨R.nd1, List.nodup_cons.mpr ⟨List.not_mem_nil, List.nodup_nil⟩, fun a ha b hb => by rw [List.mem_singleton.mp hb]; exact fun z => hi (z ▸ ha)⟩
  · rw [m2]
    exact List.nodup_append.mpr ⟨R.nd2, List.nodup_cons.mpr ⟨List.not_mem_nil, List.nodup_nil⟩, fun a ha b hb => by rw [List.mem_singleton.mp hb]; exact fun z => hp (z ▸ ha)⟩
  · rw [m2] at h
    rcases List.mem_append.mp h with h | h
    · exact R.dis a h (List.mem_cons_of_mem _ z)
    · rw [List.mem_singleton.mp h] at z
      exact hz z
/-- x = a new list: owned from here on -/
theorem rs_own {x : Str} {e : Expr} {f : XE} {pos pos' : Pos} (F : Fam X C N k) (i : Nat) (he : RF X C tc ow e f) (hi : N[i]? = some x) (hx : ∀ j, Loc (X j).env.scope x) (hw : ow.contains i = false)
    (hps : ∀ (j : ι) {te : TE}, PE (X j) e te → PS (X j) (.Assign [.Name x pos'] e pos) (tAsg te (gName i))) (hmu : mu.contains i = false) :
    RS X C mu fr owl ow (ow ++ [i]) (.Assign [.Name x pos'] e pos) (ownS i f) := by
  obtain ⟨t, a1, a2⟩ := he.ex
  refine ⟨_, fun j => hps j (a1 j), fun own Z ρ σ H E ho R h => ?_⟩
  unfold ownS at h
  split at h
  · rename_i hl
    obtain ⟨d, ρ1, e1, h⟩ := xe_cases (P := After C.K mu fr owl (ow ++ [i]) own Z H E) h (fun q => q)
    refine a2 own Z ρ σ H d ρ1 _ ho R e1 fun p o H1 R1 g1 hn hp ob => ?_
    have hpn := R.new_nin hn
    refine h (own ++ [(i, p)]) _ H1 (by rw [List.map_append, ho]; rfl) ⟨g1.all, fun q hq => ?_, fun m hm a hq => ?_⟩ (R1.push (notin_of ho hw) (by rw [← R.len]; exact hl) (fun z => hpn (List.mem_append_left _ z)) (fun z => hpn (List.mem_append_right _ z)) hp ob)
    · rcases List.mem_append.mp hq with hq | hq
      · exact .inl (List.mem_map.mpr ⟨q, hq, rfl⟩)
      · rw [List.mem_singleton.mp hq]
        exact .inr hn
    · rcases List.mem_append.mp hq with hq | hq
      · exact hq
      · have := List.mem_singleton.mp hq
        cases this
        rw [List.contains_iff_mem.mpr hm] at hmu
        cases hmu
  · exact absurd h (fun q => q)
theorem rs_drop {e : Expr} {f : XE} {pos : Pos} (he : RE X C tc ow e f) (hs : ∀ j, swapsWith e none pos.line (X j).env = pure false) : RS X C mu fr owl ow ow (.Expr e pos) (dropS f) := by
  obtain ⟨t, a1, a2⟩ := he.ex
  refine ⟨_, fun j => ps_expr (a1 j) (hs j), fun own Z ρ σ H E ho R h => ?_⟩
  obtain ⟨d, ρ1, e1, h⟩ := xe_cases (P := After C.K mu fr owl ow own Z H E) (g := fun _ ρ' => Out.nx ρ') h (fun q => q)
  exact a2 own Z ρ σ H d ρ1 _ ho R e1 fun v H1 R1 g1 d1 => h own _ H1 ho (Step.of g1.all) R1
theorem rs_pass {pos : Pos} : RS X C mu fr owl ow ow (.Pass pos) nopS := ⟨_, fun _ => ps_pass, fun own Z ρ σ H E ho R h => h own σ H ho Step.refl R⟩
theorem rs_ret {e : Expr} {f : XE} {pos : Pos} (he : RE X C tc ow e f) (hm : mu = ow.filter fun i => mu.contains i) : RS X C mu false owl ow ow2 (.Return (some e) pos) (retS f) := by
  obtain ⟨t, a1, a2⟩ := he.ex
  refine ⟨_, fun j => ps_ret (a1 j), fun own Z ρ σ H E ho R h => ?_⟩
  obtain ⟨d, ρ1, e1, h⟩ := xe_cases (P := After C.K mu false owl ow2 own Z H E) (g := fun d ρ' => Out.rt d ρ') h (fun q => q)
  refine a2 own Z ρ σ H d ρ1 _ ho R e1 fun v H1 R1 g1 d1 => ?_
  refine h v (keepO mu own) σ H1 (by rw [keepO_map, ho, ← hm]) ((Step.of g1.all).trans (Step.keep (K := C.K) mu)) (R1.sub List.filter_sublist) (d1.ext (hid_sub fun a h => ?_))
  rcases List.mem_append.mp h with h | h
  · obtain ⟨p, hp, rfl⟩ := List.mem_map.mp h
    exact List.mem_append_left _ (List.mem_map.mpr ⟨p, (List.mem_filter.mp hp).1, rfl⟩)
  · exact List.mem_append_right _ h
theorem rs_retF {e : Expr} {f : XE} {pos : Pos} (he : RF X C tc ow e f) (hm : mu = ow.filter fun i => mu.contains i) : RS X C mu true owl ow ow2 (.Return (some e) pos) (retS f) := by
  obtain ⟨t, a1, a2⟩ := he.ex
  refine ⟨_, fun j => ps_ret (a1 j), fun own Z ρ σ H E ho R h => ?_⟩
  obtain ⟨d, ρ1, e1, h⟩ := xe_cases (P := After C.K mu true owl ow2 own Z H E) (g := fun d ρ' => Out.rt d ρ') h (fun q => q)
  refine a2 own Z ρ σ H d ρ1 _ ho R e1 fun p o H1 R1 g1 hn hp ob => ?_
  refine h (keepO mu own) σ H1 p o (by rw [keepO_map, ho, ← hm]) ((Step.of g1.all).trans (Step.keep (K := C.K) mu)) (R1.sub List.filter_sublist) (.inr hn) hp (ob.ext (hid_sub fun a h => ?_))
  rcases List.mem_append.mp h with h | h
  · obtain ⟨p, hp, rfl⟩ := List.mem_map.mp h
    exact List.mem_append_left _ (List.mem_map.mpr ⟨p, (List.mem_filter.mp hp).1, rfl⟩)
  · exact List.mem_append_right _ h
/-- return x, x owned -/
theorem rs_retO {x : Str} {pos pos' : Pos} (F : Fam X C N k) (i : Nat) (hN : N[i]? = some x) (hv : ∀ j, Vis (X j).env.scope x) (hw : ow.contains i = true) (hmi : mu.contains i = false) (hm : mu = ow.filter fun i => mu.contains i) (hd : (x == ("__debug__" : Str)) = false := by decide) (hcd : (x == ("__classdict__" : Str)) = false := by decide) :
    RS X C mu true owl ow ow2 (.Return (some (.Name x pos')) pos) (retOS i) := by
  refine ⟨_, fun j => ps_ret (pe_var (i := i) (by rw [F.nm j]; exact hN) (hv j) hd hcd), fun own Z ρ σ H E ho R h => ?_⟩
  obtain ⟨d, ρ1, e1, h⟩ := xe_cases (P := After C.K mu true owl ow2 own Z H E) (g := fun d ρ' => Out.rt d (ρ'.set i none)) h (fun q => q)
  have hio : i ∈ own.map (·.1) := by rw [ho]; exact List.contains_iff_mem.mp hw
  obtain ⟨⟨j, a⟩, hja, rfl⟩ := List.mem_map.mp hio
  obtain ⟨h1, d', o, h2, h3, h4⟩ := R.obj j a hja
  unfold varE at e1
  rw [h2] at e1
  simp only [Option.some.injEq, Prod.mk.injEq] at e1
  obtain ⟨rfl, rfl⟩ := e1
  refine ⟨.ref a, h1, ?_⟩
  have nin : a ∉ adr (keepO mu own) := fun q => by
    obtain ⟨p, hp, e⟩ := List.mem_map.mp q
    have hp := List.mem_filter.mp hp
    have := ow_inj R.nd2 hp.1 hja e
    subst this
    rw [hmi] at hp
    cases hp.2
  have sub : ∀ b, b ∈ adr (keepO mu own) ++ a :: Z → b ∈ adr own ++ Z := fun b hb => by
    rcases List.mem_append.mp hb with hb | hb
    · obtain ⟨p, hp, rfl⟩ := List.mem_map.mp hb
      exact List.mem_append_left _ (List.mem_map.mpr ⟨p, (List.mem_filter.mp hp).1, rfl⟩)
    · rcases List.mem_cons.mp hb with rfl | hb
      · exact List.mem_append_left _ (List.mem_map.mpr ⟨_, hja, rfl⟩)
      · exact List.mem_append_right _ hb
  have ail : a ∈ adr own := List.mem_map.mpr ⟨_, hja, rfl⟩
  have R2 := R.sub (own' := keepO mu own) List.filter_sublist
  have R3 : Rep C.K (keepO mu own) (a :: Z) (ρ.set j none) σ H := by
    refine ⟨by rw [List.length_set]; exact R.len, fun m c q n => ?_, fun m b q => ?_, R2.nd1, R2.nd2, fun b hb z => ?_, fun z hz => ?_⟩
    · rw [List.getElem?_set] at q
      by_cases hjm : j = m
      · subst hjm
        simp only [if_true] at q
        split at q <;> cases q
      · rw [if_neg hjm] at q
        by_cases hmo : m ∈ own.map (·.1)
        · obtain ⟨⟨m', b⟩, hmb, rfl⟩ := List.mem_map.mp hmo
          obtain ⟨k1, c', o', k2, k3, k4⟩ := R.obj m' b hmb
          rw [k2] at q
          simp only [Option.some.injEq] at q
          subst q
          have hba : b ≠ a := fun z => by
            have := ow_inj R.nd2 hmb hja z
            cases this
            exact hjm rfl
          refine ⟨.ref b, k1, (k4.ext (hid_sub sub)).dat (hid_some.mpr ⟨fun z => ?_, k3⟩)⟩
          rcases List.mem_append.mp z with z | z
          · obtain ⟨p, hp, e⟩ := List.mem_map.mp z
            have := ow_inj R.nd2 (List.mem_filter.mp hp).1 hmb e
            subst this
            exact n (List.mem_map.mpr ⟨_, hp, rfl⟩)
          · rcases List.mem_cons.mp z with z | z
            · exact hba z
            · exact R.dis b (List.mem_map.mpr ⟨_, hmb, rfl⟩) z
        · obtain ⟨v, k1, k2⟩ := R.dat m c q hmo
          exact ⟨v, k1, k2.ext (hid_sub sub)⟩
    · obtain ⟨k1, c', o', k2, k3, k4⟩ := R.obj m b (List.mem_filter.mp q).1
      have hjm : j ≠ m := fun z => by
        subst z
        have hq := (List.mem_filter.mp q).2
        rw [hmi] at hq
        cases hq
      exact ⟨k1, c', o', by rw [List.getElem?_set, if_neg hjm]; exact k2, k3, k4.ext (hid_sub sub)⟩
    · rcases List.mem_cons.mp z with z | z
      · subst z; exact nin hb
      · exact R2.dis b hb z
    · rcases List.mem_cons.mp hz with rfl | hz
      · exact ⟨o, h3⟩
      · exact R.zin z hz
  exact h (keepO mu own) σ H a o (by rw [keepO_map, ho, ← hm]) (Step.keep (K := C.K) mu) R3 (.inl ail) h3 (h4.ext (hid_sub sub))
theorem rs_if {c : Expr} {a b : List Stmt} {t : XT} {F G : XS} {pos : Pos} (hc : RT X C tc ow c t) (ha : RSs X C mu fr owl ow ow2 a F) (hb : RSs X C mu fr owl ow ow2 b G) : RS X C mu fr owl ow ow2 (.If c a b pos) (ifS t F G) := by
  obtain ⟨tc, c1, c2⟩ := hc.ex
  obtain ⟨ta, a1, a2⟩ := ha.ex
  obtain ⟨tb, b1, b2⟩ := hb.ex
  refine ⟨_, fun j => ps_if (c1 j) (a1 j) (b1 j), fun own Z ρ σ H E ho R h => ?_⟩
  unfold ifS at h
  cases e : t ρ with
  | none => rw [e] at h; exact absurd h (fun q => q)
  | some p =>
    obtain ⟨v, ρ1⟩ := p
    rw [e] at h
    refine c2 own Z ρ σ H v ρ1 _ ho R e fun H1 R1 g1 => ?_
    cases v with
    | true =>
      rw [if_pos rfl]
      exact a2 own Z ρ1 σ H1 E ho R1 (After.step (Step.of g1.all) (by simpa only [if_true] using h))
    | false =>
      rw [if_neg Bool.false_ne_true]
      exact b2 own Z ρ1 σ H1 E ho R1 (After.step (Step.of g1.all) (by simpa only [Bool.false_eq_true, if_false] using h))
end
end Lay

namespace Lay
open PySem PySem.Spec PyProof.Rows L2

/-! ## functions -/
structure FnG (C : Ct) (k : Nat) (f : Addr) (fd : FuncData) (ps : List Str) (sp : Sp) : Prop where
  len : ∀ vs H Q E, sp vs H Q E → vs.length = ps.length
  run : ∀ (A : Around) (outer : List Env) (s : Shared) (H : Hp) (args : Args) (us : List Value) (vs : List V) (Q : VK) (E : XK), A.guards = some [] → Room k A → Env0 C.P C.w C.K C.mg C.base A outer s H → BindsTo s fd args (ps.zip us) → Vals vs us → sp vs H Q E →
    codeAny (model C.P C.w) A (.call (.ref f) args) (CR L2.CX0 outer C.P C.w H s Q E) s
structure Fn (C : Ct) (x : Str) (k : Nat) (ps : List Str) (sp : Sp) : Prop where
  ex : ∃ f fd, C.mg x = some (.ref f) ∧ PySem.W.keepIn C.K (.ref f) = true ∧ Binds C.K fd ps [] ∧ FnG C k f fd ps sp
theorem FnG.mono {C : Ct} {j k : Nat} {f : Addr} {fd : FuncData} {ps : List Str} {sp : Sp} (F : FnG C j f fd ps sp) (h : j ≤ k) : FnG C k f fd ps sp := ⟨F.len, fun A outer s H args us vs Q E hg hr => F.run A outer s H args us vs Q E hg (hr.mono h)⟩

theorem fnG_of {C : Ct} {k : Nat} {f : Addr} {name qual : Str} {params : Arguments} {body : List Stmt} {scope : Scope} {dV kV doc pm cdv ct oc : Value} {an od : Option Addr}
    {osl : Array (Option Value)} {N ps : List Str} {sp : Sp} (lk : C.K.lookup f = some ⟨oc, od, .func (PySem.W.fnOf name qual params body scope dV kV doc pm an cdv ct), osl⟩) (hcd : PySem.W.codeIn C.K cdv qual = true) (S : FnScope N ps scope)
    (len : ∀ vs H Q E, sp vs H Q E → vs.length = ps.length)
    (hbody : ∀ (A : Around) (outer : List Env) (s : Shared) (H : Hp) (vs : List V) (Q : VK) (E : XK), (A.deeper (envOfC qual scope s.heap.objs.size f cdv)).guards = some [] → Room k (A.deeper (envOfC qual scope s.heap.objs.size f cdv)) → sp vs H Q E →
      ∃ t, PSs (cxOf L2.CX0 C.P C.w C.K C.mg C.base N qual scope f cdv A outer s H E).nox body t ∧ t { nx := fun _ H' => Q .non H', rt := Q } (L2.start N vs) H) :
    FnG C (k + 1) f (PySem.W.fnOf name qual params body scope dV kV doc pm an cdv ct) ps sp := by
  refine ⟨len, fun A outer s H args us vs Q E hgd hr e0 hb r hsp => ?_⟩
  have inK : C.K.In s.heap := e0.mod.kin.keeps (fun b o e => (e0.bs b o e).1)
  have nolim : s.heap.NoLimit := e0.mod.nolimit.keeps (fun b o e => (e0.bs b o e).1)
  have kinds : ∀ y ∈ ps.zip us, scope.names.lookup y.1 = some .local ∨ (scope.names.lookup y.1 = some .cell ∧ ((cellsFrom (s.heap.objs.size + 1) scope.names []).lookup y.1).isSome = true) := by
    rintro ⟨n, v⟩ hy
    exact (S.par n (List.of_mem_zip hy).1).elim (fun q => .inl q) (fun q => .inr ⟨q, PySem.W.cellsFrom_some _ _ _ (.inl q)⟩)
  obtain ⟨t, ht, hq⟩ := hbody A outer s H vs Q E hgd (hr.deeper _) hsp
  have vl := len _ _ _ _ hsp
  refine codeAny_call_function hr.depth (inK _ _ lk) rfl S.co S.gen rfl (PySem.W.codeRec_of inK hcd) (hb _ _ _ _ (wpAny_newFunctionEnv_cells S.kind kinds fun env he s1 x => ?_))
  subst he
  refine ⟨nolim.keeps x.toInCall.keep, codeAny_func ?_⟩
  have I0 := inv_start (CX := L2.CX0) (N := N) (E := E) S hr.hd e0 vl r x
  have hrun := ht.nox.run [] s1 (L2.start N vs) H _ I0 hq
  refine wpAny_mono hrun (fun fl s' hs => ?_) (fun e s' hs => hs)
  cases fl with
  | next => obtain ⟨σ', H', J, q⟩ := hs; exact ⟨V.non, H', J.os, J.bare, J.base, J.hok, rfl, q⟩
  | ret u => obtain ⟨v, σ', H', J, rv, q⟩ := hs; exact ⟨v, H', J.os, J.bare, J.base, J.hok, rv, q⟩
  | brk => exact hs.elim fun _ h => h.elim fun _ h => h.2.elim
  | cont => exact hs.elim fun _ h => h.elim fun _ h => h.2.elim

/-- what a body's context is -/
theorem fam_of {C : Ct} {k : Nat} {N : List Str} {qual : Str} {scope : Scope} {f : Addr} {cdv : Value} {A : Around} {outer : List Env} {s : Shared} {H : Hp} {E : XK} (nd : N.Nodup)
    (hg : (A.deeper (envOfC qual scope s.heap.objs.size f cdv)).guards = some []) (hr : Room k (A.deeper (envOfC qual scope s.heap.objs.size f cdv))) :
    Fam (fun _ : Unit => (cxOf L2.CX0 C.P C.w C.K C.mg C.base N qual scope f cdv A outer s H E).nox) C N k :=
  ⟨fun _ => rfl, fun _ => rfl, fun _ => rfl, fun _ => rfl, fun _ => rfl, fun _ => rfl, nd, fun _ => rfl, fun _ => hr, fun _ => hg⟩

/-! ### promises -/
/-- no argument is changed -/
def spP (K : PySem.W.Frag) (n : Nat) (F : List D → Option D) : Sp := fun vs H Q _ => ∃ (Z : List Addr) (ds : List D) (d : D), vs.length = n ∧ Zok Z H ∧ Dats K (hid Z H) ds vs ∧ F ds = some d ∧ ∀ v H', Ext H H' → Dat K (hid Z H') d v → Q v H'
/-- .. and what comes back is a new object -/
def spPF (K : PySem.W.Frag) (n : Nat) (F : List D → Option D) : Sp := fun vs H Q _ => ∃ (Z : List Addr) (ds : List D) (d : D), vs.length = n ∧ Zok Z H ∧ Dats K (hid Z H) ds vs ∧ F ds = some d ∧
  ∀ p o H', Ext H H' → H p = none → H' p = some o → Ob K (hid (p :: Z) H') d o → Q (.ref p) H'
/-- the first argument is changed -/
def spB (K : PySem.W.Frag) (n : Nat) (F : D → List D → Option (D × D)) : Sp := fun vs H Q _ => ∃ (Z : List Addr) (a : Addr) (o : HO) (b : D) (vs' : List V) (ds : List D) (d b' : D), vs = .ref a :: vs' ∧ vs.length = n ∧ H a = some o ∧ a ∉ Z ∧ Zok Z H ∧ Ob K (hid (a :: Z) H) b o ∧ Dats K (hid (a :: Z) H) ds vs' ∧
  F b ds = some (d, b') ∧ ∀ v o' H', (∀ c u, H c = some u → c ≠ a → H' c = some u) → H' a = some o' → Ob K (hid (a :: Z) H') b' o' → Dat K (hid (a :: Z) H') d v → Q v H'
def spBF (K : PySem.W.Frag) (n : Nat) (F : D → List D → Option (D × D)) : Sp := fun vs H Q _ => ∃ (Z : List Addr) (a : Addr) (o : HO) (b : D) (vs' : List V) (ds : List D) (d b' : D), vs = .ref a :: vs' ∧ vs.length = n ∧ H a = some o ∧ a ∉ Z ∧ Zok Z H ∧ Ob K (hid (a :: Z) H) b o ∧ Dats K (hid (a :: Z) H) ds vs' ∧
  F b ds = some (d, b') ∧ ∀ p u o' H', (∀ c u, H c = some u → c ≠ a → H' c = some u) → H' a = some o' → Ob K (hid (a :: p :: Z) H') b' o' → H p = none → H' p = some u → Ob K (hid (a :: p :: Z) H') d u → Q (.ref p) H'

/-- a body's value -/
def runP (m : Nat) (F : XS) (ds : List D) : Option D := match F (ds.map some ++ List.replicate m none) with
  | .rt d _ => some d
  | .nx _ => some .none
  | _ => none
def runPF (m : Nat) (F : XS) (ds : List D) : Option D := match F (ds.map some ++ List.replicate m none) with
  | .rt d _ => some d
  | _ => none
def b0 (d : D) (ρ : En) : Option (D × D) := match ρ[0]? with
  | some (some b) => some (d, b)
  | _ => none
def runB (m : Nat) (F : XS) (b : D) (ds : List D) : Option (D × D) := match F (some b :: (ds.map some ++ List.replicate m none)) with
  | .rt d ρ => b0 d ρ
  | .nx ρ => b0 .none ρ
  | _ => none
def runBF (m : Nat) (F : XS) (b : D) (ds : List D) : Option (D × D) := match F (some b :: (ds.map some ++ List.replicate m none)) with
  | .rt d ρ => b0 d ρ
  | _ => none

theorem getElem?_map_some {α : Type} {xs : List α} {m : Nat} {i : Nat} {y : α} (h : (xs.map some ++ List.replicate m none)[i]? = some (some y)) : xs[i]? = some y := by
  by_cases hi : i < xs.length
  · rw [List.getElem?_append_left (by simpa using hi), List.getElem?_map] at h
    cases e : xs[i]? with
    | none => rw [e] at h; cases h
    | some x => rw [e] at h; simp only [Option.map_some, Option.some.injEq] at h; rw [h]
  · rw [List.getElem?_append_right (by simpa using hi), List.getElem?_replicate] at h
    split at h <;> cases h
theorem rep_start {K : PySem.W.Frag} {Z : List Addr} {H : Hp} {ds : List D} {vs : List V} {m : Nat} (zo : Zok Z H) (h : Dats K (hid Z H) ds vs) : Rep K [] Z (ds.map some ++ List.replicate m none) (vs.map some ++ List.replicate m none) H where
  len := by simp [h.len]
  dat := fun i d q _ => by
    obtain ⟨v, h1, h2⟩ := h.get (getElem?_map_some q)
    refine ⟨v, ?_, h2⟩
    have hi : i < vs.length := by
      by_cases hi : i < vs.length
      · exact hi
      · rw [List.getElem?_eq_none (by omega)] at h1; cases h1
    rw [List.getElem?_append_left (by simpa using hi), List.getElem?_map, h1]
    rfl
  obj := fun i a h => by cases h
  nd1 := List.nodup_nil
  nd2 := List.nodup_nil
  dis := fun a h => by cases h
  zin := zo
theorem rep_startB {K : PySem.W.Frag} {Z : List Addr} {H : Hp} {ds : List D} {vs : List V} {m : Nat} {a : Addr} {o : HO} {b : D} (zo : Zok Z H) (ha : H a = some o) (hz : a ∉ Z) (ob : Ob K (hid (a :: Z) H) b o) (h : Dats K (hid (a :: Z) H) ds vs) :
    Rep K [(0, a)] Z (some b :: (ds.map some ++ List.replicate m none)) (some (.ref a) :: (vs.map some ++ List.replicate m none)) H where
  len := by simp [h.len]
  dat := fun i d q n => by
    cases i with
    | zero => exact absurd (List.mem_singleton.mpr rfl) n
    | succ i =>
      obtain ⟨v, h1, h2⟩ := h.get (getElem?_map_some (show (ds.map some ++ List.replicate m none)[i]? = some (some d) from by simpa using q))
      refine ⟨v, ?_, h2⟩
      have hi : i < vs.length := by
        by_cases hi : i < vs.length
        · exact hi
        · rw [List.getElem?_eq_none (by omega)] at h1; cases h1
      rw [List.getElem?_cons_succ, List.getElem?_append_left (by simpa using hi), List.getElem?_map, h1]
      rfl
  obj := fun i c q => by
    have q := List.mem_singleton.mp q
    cases q
    exact ⟨rfl, b, o, rfl, ha, ob⟩
  nd1 := List.nodup_cons.mpr ⟨List.not_mem_nil, List.nodup_nil⟩
  nd2 := List.nodup_cons.mpr ⟨List.not_mem_nil, List.nodup_nil⟩
  dis := fun c q => by rw [List.mem_singleton.mp q]; exact hz
  zin := zo

section
variable {C : Ct} {k : Nat} {f : Addr} {fd : FuncData} {x : Str} {params : Arguments} {body : List Stmt} {scope : Scope} {kws : List (Str × V)} {N ps : List Str} {F : XS} {ow2 : List Nat}
abbrev FnHere (C : Ct) (x : Str) (params : Arguments) (body : List Stmt) (scope : Scope) : Prop := ∃ f fd, C.mg x = some (.ref f) ∧ FunD C.K x x params body scope [] [] f fd
theorem start_eq (N : List Str) (vs : List V) {m : Nat} (h : N.length = vs.length + m) : L2.start N vs = vs.map some ++ List.replicate m none := by
  unfold L2.start
  rw [show N.length - vs.length = m by omega]
theorem fnP (hf : FnHere C x params body scope) (S : FnScope N ps scope) (m : Nat) (hm : N.length = ps.length + m)
    (hb : ∀ (kV doc pm : Value) (an : Option Addr) (cdv ct : Value) (us : List Value), us.length = ps.length → bindArgs (PySem.W.fnOf x x params body scope .none kV doc pm an cdv ct) ⟨us, []⟩ = pure (ps.zip us))
    (h : ∀ (f : Addr) (cdv : Value) (A : Around) (outer : List Env) (s : Shared) (H : Hp) (E : XK), Fam (fun _ : Unit => (cxOf L2.CX0 C.P C.w C.K C.mg C.base N x scope f cdv A outer s H E).nox) C N k →
      RSs (fun _ : Unit => (cxOf L2.CX0 C.P C.w C.K C.mg C.base N x scope f cdv A outer s H E).nox) C [] false [] [] ow2 body F) :
    Fn C x (k + 1) ps (spP C.K ps.length (runP m F)) := by
  obtain ⟨f, fd, hg, FD⟩ := hf
  refine ⟨f, fd, hg, FD.kp, FD.bindsN hb, ?_⟩
  obtain ⟨oc, od, dV, kV, doc, pm, an, cdv, ct, osl, rfl, lk, hcd, _, _⟩ := FD.ex
  refine fnG_of lk hcd S (fun vs H Q E h => by obtain ⟨Z, ds, d, h, _⟩ := h; exact h) fun A outer s H vs Q E hgd hr hsp => ?_
  obtain ⟨t, h1, h2⟩ := (h f cdv A outer s H E (fam_of S.nd hgd hr)).ex
  obtain ⟨Z, ds, d, hl, zo, hd, hF, hq⟩ := hsp
  refine ⟨t, h1 (), ?_⟩
  rw [start_eq N vs (m := m) (by omega)]
  refine h2 [] Z _ _ H _ rfl (rep_start zo hd) ?_
  unfold runP at hF
  split at hF
  · rename_i d' ρ' e
    rw [e]
    simp only [Option.some.injEq] at hF
    subst hF
    intro v own' σ' H' e' st R' dd
    have : own' = [] := List.map_eq_nil_iff.mp e'
    subst this
    exact hq v H' (fun a o q => st.gro a o q (by simp)) dd
  · rename_i ρ' e
    rw [e]
    simp only [Option.some.injEq] at hF
    subst hF
    intro own' σ' H' e' st R'
    exact hq _ H' (fun a o q => st.gro a o q (by simp)) .non
  · cases hF
theorem fnPF (hf : FnHere C x params body scope) (S : FnScope N ps scope) (m : Nat) (hm : N.length = ps.length + m)
    (hb : ∀ (kV doc pm : Value) (an : Option Addr) (cdv ct : Value) (us : List Value), us.length = ps.length → bindArgs (PySem.W.fnOf x x params body scope .none kV doc pm an cdv ct) ⟨us, []⟩ = pure (ps.zip us))
    (h : ∀ (f : Addr) (cdv : Value) (A : Around) (outer : List Env) (s : Shared) (H : Hp) (E : XK), Fam (fun _ : Unit => (cxOf L2.CX0 C.P C.w C.K C.mg C.base N x scope f cdv A outer s H E).nox) C N k →
      RSs (fun _ : Unit => (cxOf L2.CX0 C.P C.w C.K C.mg C.base N x scope f cdv A outer s H E).nox) C [] true [] [] ow2 body F) :
    Fn C x (k + 1) ps (spPF C.K ps.length (runPF m F)) := by
  obtain ⟨f, fd, hg, FD⟩ := hf
  refine ⟨f, fd, hg, FD.kp, FD.bindsN hb, ?_⟩
  obtain ⟨oc, od, dV, kV, doc, pm, an, cdv, ct, osl, rfl, lk, hcd, _, _⟩ := FD.ex
  refine fnG_of lk hcd S (fun vs H Q E h => by obtain ⟨Z, ds, d, h, _⟩ := h; exact h) fun A outer s H vs Q E hgd hr hsp => ?_
  obtain ⟨t, h1, h2⟩ := (h f cdv A outer s H E (fam_of S.nd hgd hr)).ex
  obtain ⟨Z, ds, d, hl, zo, hd, hF, hq⟩ := hsp
  refine ⟨t, h1 (), ?_⟩
  rw [start_eq N vs (m := m) (by omega)]
  refine h2 [] Z _ _ H _ rfl (rep_start zo hd) ?_
  unfold runPF at hF
  split at hF
  · rename_i d' ρ' e
    rw [e]
    simp only [Option.some.injEq] at hF
    subst hF
    intro own' σ' H' p o e' st R' hp h3 h4
    have : own' = [] := List.map_eq_nil_iff.mp e'
    subst this
    exact hq p o H' (fun a o q => st.gro a o q (by simp)) (hp.elim (fun z => absurd z (by simp)) id) h3 h4
  · cases hF
theorem fnB (hf : FnHere C x params body scope) (S : FnScope N ps scope) (m : Nat) (hm : N.length = ps.length + m)
    (hb : ∀ (kV doc pm : Value) (an : Option Addr) (cdv ct : Value) (us : List Value), us.length = ps.length → bindArgs (PySem.W.fnOf x x params body scope .none kV doc pm an cdv ct) ⟨us, []⟩ = pure (ps.zip us))
    (h : ∀ (f : Addr) (cdv : Value) (A : Around) (outer : List Env) (s : Shared) (H : Hp) (E : XK), Fam (fun _ : Unit => (cxOf L2.CX0 C.P C.w C.K C.mg C.base N x scope f cdv A outer s H E).nox) C N k →
      RSs (fun _ : Unit => (cxOf L2.CX0 C.P C.w C.K C.mg C.base N x scope f cdv A outer s H E).nox) C [0] false [] [0] [0] body F) :
    Fn C x (k + 1) ps (spB C.K ps.length (runB m F)) := by
  obtain ⟨f, fd, hg, FD⟩ := hf
  refine ⟨f, fd, hg, FD.kp, FD.bindsN hb, ?_⟩
  obtain ⟨oc, od, dV, kV, doc, pm, an, cdv, ct, osl, rfl, lk, hcd, _, _⟩ := FD.ex
  refine fnG_of lk hcd S (fun vs H Q E h => by obtain ⟨Z, a, o, b, vs', ds, d, b', _, h, _⟩ := h; exact h) fun A outer s H vs Q E hgd hr hsp => ?_
  obtain ⟨t, h1, h2⟩ := (h f cdv A outer s H E (fam_of S.nd hgd hr)).ex
  obtain ⟨Z, a, o, b, vs', ds, d, b', rfl, hl, ha, hz, zo, ob, hd, hF, hq⟩ := hsp
  refine ⟨t, h1 (), ?_⟩
  rw [start_eq N (.ref a :: vs') (m := m) (by omega)]
  refine h2 [(0, a)] Z _ _ H _ rfl (rep_startB zo ha hz ob hd) ?_
  have fin : ∀ {own' : Ow} {σ' : L2.St} {H' : Hp} {ρ' : En} {d' : D}, own'.map (·.1) = [0] → Step [0] [(0, a)] H own' H' → Rep C.K own' Z ρ' σ' H' → b0 d' ρ' = some (d, b') →
      own' = [(0, a)] ∧ d' = d ∧ ∃ o', H' a = some o' ∧ Ob C.K (hid (a :: Z) H') b' o' := fun {own' σ' H' ρ' d'} e' st R' hb0 => by
    obtain ⟨⟨i, c⟩, rfl, hi⟩ : ∃ p, own' = [p] ∧ p.1 = 0 := by
      cases own' with
      | nil => cases e'
      | cons p r =>
        cases r with
        | nil => simp only [List.map_cons, List.map_nil, List.cons.injEq, and_true] at e'; exact ⟨p, rfl, e'⟩
        | cons q r => simp at e'
    have hi : i = 0 := hi
    subst hi
    have := List.mem_singleton.mp (st.mu 0 (List.mem_singleton.mpr rfl) c (List.mem_singleton.mpr rfl))
    cases this
    obtain ⟨_, d2, o', k1, k2, k3⟩ := R'.obj 0 a (List.mem_singleton.mpr rfl)
    unfold b0 at hb0
    rw [k1] at hb0
    simp only [Option.some.injEq, Prod.mk.injEq] at hb0
    obtain ⟨rfl, rfl⟩ := hb0
    exact ⟨rfl, rfl, o', k2, k3⟩
  unfold runB at hF
  split at hF
  · rename_i d' ρ' e
    rw [e]
    intro v own' σ' H' e' st R' dd
    obtain ⟨rfl, rfl, o', k2, k3⟩ := fin e' st R' hF
    exact hq v o' H' (fun c u q n => st.gro c u q (by simpa using n)) k2 k3 dd
  · rename_i ρ' e
    rw [e]
    intro own' σ' H' e' st R'
    obtain ⟨rfl, rfl, o', k2, k3⟩ := fin e' st R' hF
    exact hq _ o' H' (fun c u q n => st.gro c u q (by simpa using n)) k2 k3 .non
  · cases hF
theorem fnBF (hf : FnHere C x params body scope) (S : FnScope N ps scope) (m : Nat) (hm : N.length = ps.length + m)
    (hb : ∀ (kV doc pm : Value) (an : Option Addr) (cdv ct : Value) (us : List Value), us.length = ps.length → bindArgs (PySem.W.fnOf x x params body scope .none kV doc pm an cdv ct) ⟨us, []⟩ = pure (ps.zip us))
    (h : ∀ (f : Addr) (cdv : Value) (A : Around) (outer : List Env) (s : Shared) (H : Hp) (E : XK), Fam (fun _ : Unit => (cxOf L2.CX0 C.P C.w C.K C.mg C.base N x scope f cdv A outer s H E).nox) C N k →
      RSs (fun _ : Unit => (cxOf L2.CX0 C.P C.w C.K C.mg C.base N x scope f cdv A outer s H E).nox) C [0] true [] [0] [0] body F) :
    Fn C x (k + 1) ps (spBF C.K ps.length (runBF m F)) := by
  obtain ⟨f, fd, hg, FD⟩ := hf
  refine ⟨f, fd, hg, FD.kp, FD.bindsN hb, ?_⟩
  obtain ⟨oc, od, dV, kV, doc, pm, an, cdv, ct, osl, rfl, lk, hcd, _, _⟩ := FD.ex
  refine fnG_of lk hcd S (fun vs H Q E h => by obtain ⟨Z, a, o, b, vs', ds, d, b', _, h, _⟩ := h; exact h) fun A outer s H vs Q E hgd hr hsp => ?_
  obtain ⟨t, h1, h2⟩ := (h f cdv A outer s H E (fam_of S.nd hgd hr)).ex
  obtain ⟨Z, a, o, b, vs', ds, d, b', rfl, hl, ha, hz, zo, ob, hd, hF, hq⟩ := hsp
  refine ⟨t, h1 (), ?_⟩
  rw [start_eq N (.ref a :: vs') (m := m) (by omega)]
  refine h2 [(0, a)] Z _ _ H _ rfl (rep_startB zo ha hz ob hd) ?_
  unfold runBF at hF
  split at hF
  · rename_i d' ρ' e
    rw [e]
    intro own' σ' H' p u e' st R' hp h3 h4
    obtain ⟨⟨i, c⟩, rfl, hi⟩ : ∃ p, own' = [p] ∧ p.1 = 0 := by
      cases own' with
      | nil => cases e'
      | cons p r =>
        cases r with
        | nil => simp only [List.map_cons, List.map_nil, List.cons.injEq, and_true] at e'; exact ⟨p, rfl, e'⟩
        | cons q r => simp at e'
    have hi : i = 0 := hi
    subst hi
    have := List.mem_singleton.mp (st.mu 0 (List.mem_singleton.mpr rfl) c (List.mem_singleton.mpr rfl))
    cases this
    obtain ⟨_, d2, o', k1, k2, k3⟩ := R'.obj 0 a (List.mem_singleton.mpr rfl)
    unfold b0 at hF
    rw [k1] at hF
    simp only [Option.some.injEq, Prod.mk.injEq] at hF
    obtain ⟨rfl, rfl⟩ := hF
    have hpa : p ∉ adr [(0, a)] := fun z => R'.dis p z (List.mem_cons_self ..)
    exact hq p u o' H' (fun c u q n => st.gro c u q (by simpa using n)) k2 k3 (hp.elim (fun z => absurd z hpa) id) h3 h4
  · cases hF
end
end Lay

namespace Lay
open PySem PySem.Spec PyProof.Rows L2

/-! ## calls of defs -/
theorem pe_callG {Y : Cx} {C : Ct} {k j : Nat} {x : Str} {f : Addr} {fd : FuncData} {ps : List Str} {sp : Sp} {e : Expr} {es : List Expr} {t : TA} {p pos : Pos} (hP : Y.prog = C.P) (hw : Y.w = C.w) (hK : Y.K = C.K) (hmg : Y.mg = C.mg) (hbase : Y.base = C.base)
    (hr : Room k Y.A) (hgd : Y.A.guards = some []) (hj : j ≤ k) (G : FnG C j f fd ps sp) (hg : Gl Y x) (hm : C.mg x = some (.ref f)) (hk : PySem.W.keepIn C.K (.ref f) = true) (hb : Binds C.K fd ps []) (ha : PA Y (e :: es) t) (hdb : (x == ("__debug__" : Str)) = false)
    (he : starEach (e :: es) Y.env = (false, eval e Y.env) :: starEach es Y.env) (hpl : (backTo pos (starEach es Y.env)).any (·.1) = false) :
    PE Y (.Call (.Name x p) (e :: es) [] pos) (tCall sp [] E0 t) := by
  obtain ⟨P, w, K, mg, base⟩ := C
  have hP : Y.prog = P := hP
  have hw : Y.w = w := hw
  have hK : Y.K = K := hK
  have hmg : Y.mg = mg := hmg
  have hbase : Y.base = base := hbase
  subst hP hw hK hmg hbase
  refine ⟨fun pins s σ H Q I h => wpAny_Call_Name_kw (ld_glob I hg hm ?_ hdb)⟩
  refine PySem.W.callWith_K (h₀ := Y.base) I.ok.mod.kin hk (thn (ha.run pos pins s σ H _ I h) fun us s1 ⟨vs, H1, I1, r, q⟩ => ⟨I1.kIn, ?_⟩) he hpl
  have q' : sp vs H1 Q E0 := by have q : sp (vs ++ []) H1 Q E0 := q; rw [List.append_nil] at q; exact q
  have hl : us.length = ps.length := by rw [← r.length]; exact G.len _ _ _ _ q'
  have hb' := hb s1 us I1.kIn (by rw [List.append_nil]; exact hl)
  rw [List.append_nil] at hb'
  refine wpAny_call (codeAny_mono ((G.mono hj).run Y.A Y.stack s1 H1 ⟨us, []⟩ us vs Q E0 hgd hr I1.env0 hb' r q') fun r s' hq => ?_)
  cases r with
  | error e => exact hq.elim
  | ok fl =>
    cases fl with
    | ret u => exact I1.after hq
    | next => exact hq.elim
    | brk => exact hq.elim
    | cont => exact hq.elim

theorem hid_congr {Z Z' : List Addr} {H : Hp} (h : ∀ a, a ∈ Z ↔ a ∈ Z') : hid Z H = hid Z' H := by
  funext a
  unfold hid
  by_cases ha : a ∈ Z
  · rw [if_pos ha, if_pos ((h a).mp ha)]
  · rw [if_neg ha, if_neg fun q => ha ((h a).mpr q)]
/-- an owned object is changed -/
theorem Rep.chg {K : PySem.W.Frag} {own : Ow} {Z Z2 : List Addr} {ρ : En} {σ : L2.St} {H H' : Hp} {i : Nat} {a : Addr} {o' : HO} {b' : D} (R : Rep K own Z ρ σ H) (ho : (i, a) ∈ own) (keep : ∀ c u, H c = some u → c ≠ a → H' c = some u) (ha : H' a = some o')
    (hz : ∀ z ∈ Z2, z ∈ Z ∨ H z = none) (zin : ∀ z ∈ Z2, ∃ o, H' z = some o) (ob : Ob K (hid (adr own ++ Z2) H') b' o') : Rep K own Z2 (ρ.set i (some b')) σ H' := by
  have aa : a ∈ adr own := List.mem_map.mpr ⟨_, ho, rfl⟩
  have x : Ext (hid (adr own ++ Z) H) (hid (adr own ++ Z2) H') := fun c u q => by
    have h := hid_some.mp q
    have hca : c ≠ a := fun z => h.1 (by rw [z]; exact List.mem_append_left _ aa)
    refine hid_some.mpr ⟨fun z => ?_, keep c u h.2 hca⟩
    rcases List.mem_append.mp z with z | z
    · exact h.1 (List.mem_append_left _ z)
    · rcases hz c z with z | z
      · exact h.1 (List.mem_append_right _ z)
      · rw [h.2] at z; cases z
  have hil : i < ρ.length := by
    obtain ⟨_, d, o, h2, _⟩ := R.obj i a ho
    by_cases hl : i < ρ.length
    · exact hl
    · rw [List.getElem?_eq_none (by omega)] at h2; cases h2
  refine ⟨by rw [List.length_set]; exact R.len, fun j d q n => ?_, fun j c q => ?_, R.nd1, R.nd2, fun c hc z => ?_, zin⟩
  · have hij : i ≠ j := fun z => n (by subst z; exact List.mem_map.mpr ⟨_, ho, rfl⟩)
    rw [List.getElem?_set, if_neg hij] at q
    obtain ⟨v, h1, h2⟩ := R.dat j d q n
    exact ⟨v, h1, h2.ext x⟩
  · by_cases hij : i = j
    · subst hij
      have hca : c = a := by
        have inj1 : ∀ {l : Ow}, (l.map (·.1)).Nodup → ∀ {p q : Nat × Addr}, p ∈ l → q ∈ l → p.1 = q.1 → p = q := by
          intro l
          induction l with
          | nil => intro _ p q hp; cases hp
          | cons x l ih =>
            intro nd p q hp hq e
            rw [List.map_cons, List.nodup_cons] at nd
            rcases List.mem_cons.mp hp with e1 | hp
            · rcases List.mem_cons.mp hq with e2 | hq
              · rw [e1, e2]
              · exact absurd (List.mem_map.mpr ⟨q, hq, by rw [← e, e1]⟩) nd.1
            · rcases List.mem_cons.mp hq with e2 | hq
              · exact absurd (List.mem_map.mpr ⟨p, hp, by rw [e, e2]⟩) nd.1
              · exact ih nd.2 hp hq e
        have := inj1 R.nd1 q ho rfl
        cases this
        rfl
      subst hca
      obtain ⟨h1, d, o, h2, h3, h4⟩ := R.obj i c q
      exact ⟨h1, b', o', by rw [List.getElem?_set]; simp [hil], ha, ob⟩
    · obtain ⟨h1, d, o, h2, h3, h4⟩ := R.obj j c q
      have hca : c ≠ a := fun z => by
        subst z
        have := ow_inj R.nd2 q ho rfl
        cases this
        exact hij rfl
      exact ⟨h1, d, o, by rw [List.getElem?_set, if_neg hij]; exact h2, keep c o h3 hca, h4.ext x⟩
  · rcases hz c z with z | z
    · exact R.dis c hc z
    · obtain ⟨o, h⟩ := R.ain hc
      rw [h] at z; cases z

theorem mem_mid {a p : Addr} {l m : List Addr} : a ∈ l ++ p :: m ↔ a ∈ p :: (l ++ m) := by
  simp only [List.mem_append, List.mem_cons]
  constructor
  · rintro (h | h | h)
    · exact .inr (.inl h)
    · exact .inl h
    · exact .inr (.inr h)
  · rintro (h | h | h)
    · exact .inr (.inl h)
    · exact .inl h
    · exact .inr (.inr h)
def callB (g : D → List D → Option (D × D)) (i : Nat) (fr : XA) : XE := fun ρ => (fr ρ).bind fun p => match p.2[i]? with
  | some (some b) => (g b p.1).map fun r => (r.1, p.2.set i (some r.2))
  | _ => none

section
variable {ι : Type} {X : ι → Cx} {C : Ct} {mu : List Nat} {fr : Bool} {tc owl ow ow1 ow2 : List Nat} {N : List Str} {k : Nat}
theorem Gl_args {e : Expr} {es : List Expr} (h : (starEach (e :: es) = fun env => (false, eval e env) :: starEach es env)) : True := trivial

theorem re_callP {x : Str} {j n : Nat} {ps : List Str} {g : List D → Option D} {e : Expr} {es : List Expr} {fa : XA} {p pos : Pos} (F : Fam X C N k) (G : Fn C x j ps (spP C.K n g)) (hj : j ≤ k) (hn : (e :: es).length = n) (hg : ∀ i, Gl (X i) x) (ha : RA X C tc ow (e :: es) fa)
    (he : ∀ i, starEach (e :: es) (X i).env = (false, eval e (X i).env) :: starEach es (X i).env) (hpl : ∀ i, (backTo pos (starEach es (X i).env)).any (·.1) = false) (hdb : (x == ("__debug__" : Str)) = false := by decide) :
    RE X C tc ow (.Call (.Name x p) (e :: es) [] pos) (clE g fa) := by
  obtain ⟨f, fd, hm, hk, hb, G⟩ := G.ex
  obtain ⟨t, a1, a2⟩ := ha.ex
  refine ⟨_, fun i => pe_callG (F.P i) (F.w i) (F.K i) (F.mg i) (F.base i) (F.room i) (F.gd i) hj G (hg i) hm hk hb (a1 i) hdb (he i) (hpl i), fun own Z ρ σ H d ρ' Q ho R hf hq => ?_⟩
  unfold clE at hf
  cases e1 : fa ρ with
  | none => rw [e1] at hf; cases hf
  | some q =>
    obtain ⟨ds, ρ1⟩ := q
    rw [e1] at hf
    simp only [Option.bind_some] at hf
    cases e2 : g ds with
    | none => rw [e2] at hf; cases hf
    | some z =>
      rw [e2] at hf
      simp only [Option.map_some, Option.some.injEq, Prod.mk.injEq] at hf
      obtain ⟨rfl, rfl⟩ := hf
      refine a2 own Z ρ σ H ds _ _ ho R e1 fun vs H1 R1 g1 d1 => ?_
      refine ⟨adr own ++ Z, ds, _, ?_, R1.zok, by rw [List.append_nil]; exact d1, e2, fun v H2 e d2 => hq v H2 (R1.ext e) (g1.trans (Grt.of e)) d2⟩
      rw [List.append_nil, ← d1.len, ha.len _ _ _ e1, hn]
theorem rf_callP {x : Str} {j n : Nat} {ps : List Str} {g : List D → Option D} {e : Expr} {es : List Expr} {fa : XA} {p pos : Pos} (F : Fam X C N k) (G : Fn C x j ps (spPF C.K n g)) (hj : j ≤ k) (hn : (e :: es).length = n) (hg : ∀ i, Gl (X i) x) (ha : RA X C tc ow (e :: es) fa)
    (he : ∀ i, starEach (e :: es) (X i).env = (false, eval e (X i).env) :: starEach es (X i).env) (hpl : ∀ i, (backTo pos (starEach es (X i).env)).any (·.1) = false) (hdb : (x == ("__debug__" : Str)) = false := by decide) :
    RF X C tc ow (.Call (.Name x p) (e :: es) [] pos) (clE g fa) := by
  obtain ⟨f, fd, hm, hk, hb, G⟩ := G.ex
  obtain ⟨t, a1, a2⟩ := ha.ex
  refine ⟨_, fun i => pe_callG (F.P i) (F.w i) (F.K i) (F.mg i) (F.base i) (F.room i) (F.gd i) hj G (hg i) hm hk hb (a1 i) hdb (he i) (hpl i), fun own Z ρ σ H d ρ' Q ho R hf hq => ?_⟩
  unfold clE at hf
  cases e1 : fa ρ with
  | none => rw [e1] at hf; cases hf
  | some q =>
    obtain ⟨ds, ρ1⟩ := q
    rw [e1] at hf
    simp only [Option.bind_some] at hf
    cases e2 : g ds with
    | none => rw [e2] at hf; cases hf
    | some z =>
      rw [e2] at hf
      simp only [Option.map_some, Option.some.injEq, Prod.mk.injEq] at hf
      obtain ⟨rfl, rfl⟩ := hf
      refine a2 own Z ρ σ H ds _ _ ho R e1 fun vs H1 R1 g1 d1 => ?_
      refine ⟨adr own ++ Z, ds, _, ?_, R1.zok, by rw [List.append_nil]; exact d1, e2, fun p o H2 e hn hp ob => ?_⟩
      · rw [List.append_nil, ← d1.len, ha.len _ _ _ e1, hn]
      · have hp0 : H p = none := by
          cases q : H p with
          | none => rfl
          | some u =>
            by_cases hm : p ∈ adr own
            · obtain ⟨o2, q2⟩ := R1.ain hm
              rw [hn] at q2; cases q2
            · rw [g1 p u q (nadr hm)] at hn; cases hn
        refine hq p o H2 (R1.hide hn (Gro.of e) (fun a ha => ?_) hp) (g1.trans (Grt.of e)) hp0 hp (by rw [hid_congr (Z' := p :: (adr own ++ Z)) fun a => mem_mid]; exact ob)
        · obtain ⟨u, q⟩ := R1.ain ha
          rw [q, e a u q]
/-- the slot and the object that is changed in it -/
theorem Rep.slot {K : PySem.W.Frag} {own : Ow} {Z : List Addr} {ρ : En} {σ : L2.St} {H : Hp} (R : Rep K own Z ρ σ H) (ho : own.map (·.1) = ow) {i : Nat} (hi : ow.contains i = true) : ∃ a, (i, a) ∈ own ∧ σ[i]? = some (some (.ref a)) ∧ ∀ b, ρ[i]? = some (some b) → ∃ o, H a = some o ∧ Ob K (hid (adr own ++ Z) H) b o := by
  have hio : i ∈ own.map (·.1) := by rw [ho]; exact List.contains_iff_mem.mp hi
  obtain ⟨⟨j, a⟩, hja, rfl⟩ := List.mem_map.mp hio
  obtain ⟨h1, d', o, h2, h3, h4⟩ := R.obj j a hja
  refine ⟨a, hja, h1, fun b hb => ?_⟩
  rw [h2] at hb
  simp only [Option.some.injEq] at hb
  subst hb
  exact ⟨o, h3, h4⟩
/-- what is hidden to a callee that changes a -/
def butA (own : Ow) (Z : List Addr) (a : Addr) : List Addr := (adr own).filter (fun c => decide (c ≠ a)) ++ Z
theorem butA_mem {own : Ow} {Z : List Addr} {a : Addr} (h : a ∈ adr own) (c : Addr) : c ∈ a :: butA own Z a ↔ c ∈ adr own ++ Z := by
  unfold butA
  simp only [List.mem_cons, List.mem_append, List.mem_filter, decide_eq_true_eq]
  constructor
  · rintro (h1 | ⟨h1, _⟩ | h1)
    · exact .inl (h1 ▸ h)
    · exact .inl h1
    · exact .inr h1
  · rintro (h1 | h1)
    · by_cases hc : c = a
      · exact .inl hc
      · exact .inr (.inl ⟨h1, hc⟩)
    · exact .inr (.inr h1)
theorem butA_nin {K : PySem.W.Frag} {own : Ow} {Z : List Addr} {ρ : En} {σ : L2.St} {H : Hp} (R : Rep K own Z ρ σ H) {a : Addr} (h : a ∈ adr own) : a ∉ butA own Z a := fun q => by
  unfold butA at q
  rcases List.mem_append.mp q with q | q
  · simp at q
  · exact R.dis a h q
theorem re_callB_ {x y : Str} {j n : Nat} {ps : List Str} {g : D → List D → Option (D × D)} {es : List Expr} {fa : XA} {p pos p1 : Pos} (F : Fam X C N k) (G : Fn C x j ps (spB C.K n g)) (hj : j ≤ k) (i : Nat) (hi : ow.contains i = true) (htc : tc.contains i = true) (hN : N[i]? = some y) (hv : ∀ j, Vis (X j).env.scope y)
    (hn : es.length + 1 = n) (hg : ∀ i, Gl (X i) x) (ha : RA X C tc ow es fa)
    (he : ∀ i, starEach (.Name y p1 :: es) (X i).env = (false, eval (.Name y p1) (X i).env) :: starEach es (X i).env) (hpl : ∀ i, (backTo pos (starEach es (X i).env)).any (·.1) = false) (hdb : (x == ("__debug__" : Str)) = false := by decide)
    (hd : (y == ("__debug__" : Str)) = false := by decide) (hcd : (y == ("__classdict__" : Str)) = false := by decide) :
    RE X C tc ow (.Call (.Name x p) (.Name y p1 :: es) [] pos) (callB g i fa) := by
  obtain ⟨f, fd, hm, hk, hb, G⟩ := G.ex
  obtain ⟨t, a1, a2⟩ := ha.ex
  refine ⟨_, fun m => pe_callG (F.P m) (F.w m) (F.K m) (F.mg m) (F.base m) (F.room m) (F.gd m) hj G (hg m) hm hk hb (pa_cons (pe_var (i := i) (by rw [F.nm m]; exact hN) (hv m) hd hcd) (a1 m) (he m)) hdb (he m) (hpl m), fun own Z ρ σ H d ρ' Q ho R hf hq => ?_⟩
  unfold callB at hf
  cases e1 : fa ρ with
  | none => rw [e1] at hf; cases hf
  | some q =>
    obtain ⟨ds, ρ1⟩ := q
    rw [e1] at hf
    simp only [Option.bind_some] at hf
    obtain ⟨a, hia, hs, _⟩ := R.slot ho hi
    refine ⟨.ref a, hs, a2 own Z ρ σ H ds ρ1 _ ho R e1 fun vs H1 R1 g1 d1 => ?_⟩
    split at hf
    · rename_i b hb1
      cases e2 : g b ds with
      | none => rw [e2] at hf; cases hf
      | some z =>
        obtain ⟨r, b'⟩ := z
        rw [e2] at hf
        simp only [Option.map_some, Option.some.injEq, Prod.mk.injEq] at hf
        obtain ⟨rfl, rfl⟩ := hf
        obtain ⟨_, _, o, k2, k3, k4⟩ := R1.obj i a hia
        rw [hb1] at k2
        simp only [Option.some.injEq] at k2
        subst k2
        have aa : a ∈ adr own := List.mem_map.mpr ⟨_, hia, rfl⟩
        have hc := hid_congr (H := H1) (butA_mem (Z := Z) aa)
        refine ⟨butA own Z a, a, o, b, vs, ds, _, b', by rw [List.append_nil], ?_, k3, butA_nin R1 aa, fun z hz => R1.zok z ((butA_mem aa z).mp (List.mem_cons_of_mem _ hz)), by rw [hc]; exact k4, by rw [hc]; exact d1, e2, fun v o' H2 keep ha2 ob2 dd => ?_⟩
        · rw [List.append_nil, List.length_cons, ← d1.len, ha.len _ _ _ e1, hn]
        · have hc2 := hid_congr (H := H2) (butA_mem (Z := Z) aa)
          rw [hc2] at ob2 dd
          refine hq v H2 (R1.chg hia keep ha2 (fun z h => .inl h) (fun z h => ?_) ob2) (g1.trans fun c u q n => keep c u q fun z => n i (z ▸ hia) (List.contains_iff_mem.mp htc)) dd
          obtain ⟨u, q⟩ := R1.zin z h
          exact ⟨u, keep z u q fun e => R1.dis a aa (e ▸ h)⟩
    · cases hf
theorem rf_callB_ {x y : Str} {j n : Nat} {ps : List Str} {g : D → List D → Option (D × D)} {es : List Expr} {fa : XA} {p pos p1 : Pos} (F : Fam X C N k) (G : Fn C x j ps (spBF C.K n g)) (hj : j ≤ k) (i : Nat) (hi : ow.contains i = true) (htc : tc.contains i = true) (hN : N[i]? = some y) (hv : ∀ j, Vis (X j).env.scope y)
    (hn : es.length + 1 = n) (hg : ∀ i, Gl (X i) x) (ha : RA X C tc ow es fa)
    (he : ∀ i, starEach (.Name y p1 :: es) (X i).env = (false, eval (.Name y p1) (X i).env) :: starEach es (X i).env) (hpl : ∀ i, (backTo pos (starEach es (X i).env)).any (·.1) = false) (hdb : (x == ("__debug__" : Str)) = false := by decide)
    (hd : (y == ("__debug__" : Str)) = false := by decide) (hcd : (y == ("__classdict__" : Str)) = false := by decide) :
    RF X C tc ow (.Call (.Name x p) (.Name y p1 :: es) [] pos) (callB g i fa) := by
  obtain ⟨f, fd, hm, hk, hb, G⟩ := G.ex
  obtain ⟨t, a1, a2⟩ := ha.ex
  refine ⟨_, fun m => pe_callG (F.P m) (F.w m) (F.K m) (F.mg m) (F.base m) (F.room m) (F.gd m) hj G (hg m) hm hk hb (pa_cons (pe_var (i := i) (by rw [F.nm m]; exact hN) (hv m) hd hcd) (a1 m) (he m)) hdb (he m) (hpl m), fun own Z ρ σ H d ρ' Q ho R hf hq => ?_⟩
  unfold callB at hf
  cases e1 : fa ρ with
  | none => rw [e1] at hf; cases hf
  | some q =>
    obtain ⟨ds, ρ1⟩ := q
    rw [e1] at hf
    simp only [Option.bind_some] at hf
    obtain ⟨a, hia, hs, _⟩ := R.slot ho hi
    refine ⟨.ref a, hs, a2 own Z ρ σ H ds ρ1 _ ho R e1 fun vs H1 R1 g1 d1 => ?_⟩
    split at hf
    · rename_i b hb1
      cases e2 : g b ds with
      | none => rw [e2] at hf; cases hf
      | some z =>
        obtain ⟨r, b'⟩ := z
        rw [e2] at hf
        simp only [Option.map_some, Option.some.injEq, Prod.mk.injEq] at hf
        obtain ⟨rfl, rfl⟩ := hf
        obtain ⟨_, _, o, k2, k3, k4⟩ := R1.obj i a hia
        rw [hb1] at k2
        simp only [Option.some.injEq] at k2
        subst k2
        have aa : a ∈ adr own := List.mem_map.mpr ⟨_, hia, rfl⟩
        have hc := hid_congr (H := H1) (butA_mem (Z := Z) aa)
        refine ⟨butA own Z a, a, o, b, vs, ds, _, b', by rw [List.append_nil], ?_, k3, butA_nin R1 aa, fun z hz => R1.zok z ((butA_mem aa z).mp (List.mem_cons_of_mem _ hz)), by rw [hc]; exact k4, by rw [hc]; exact d1, e2, fun p u o' H2 keep ha2 ob2 hpn hp ob3 => ?_⟩
        · rw [List.append_nil, List.length_cons, ← d1.len, ha.len _ _ _ e1, hn]
        · have hc2 : hid (a :: p :: butA own Z a) H2 = hid (adr own ++ p :: Z) H2 := hid_congr fun c => by
            have := butA_mem (Z := Z) aa c
            simp only [List.mem_cons, List.mem_append] at this ⊢
            constructor
            · rintro (h | h | h)
              · rcases this.mp (.inl h) with h | h
                · exact .inl h
                · exact .inr (.inr h)
              · exact .inr (.inl h)
              · rcases this.mp (.inr h) with h | h
                · exact .inl h
                · exact .inr (.inr h)
            · rintro (h | h | h)
              · rcases this.mpr (.inl h) with h | h
                · exact .inl h
                · exact .inr (.inr h)
              · exact .inr (.inl h)
              · rcases this.mpr (.inr h) with h | h
                · exact .inl h
                · exact .inr (.inr h)
          rw [hc2] at ob2 ob3
          have hp0 : H p = none := by
            cases q : H p with
            | none => rfl
            | some u =>
              by_cases hm : p ∈ adr own
              · obtain ⟨o2, q2⟩ := R1.ain hm
                rw [hpn] at q2; cases q2
              · rw [g1 p u q (nadr hm)] at hpn; cases hpn
          refine hq p u H2 (R1.chg hia keep ha2 (fun z h => ?_) (fun z h => ?_) ob2) (g1.trans fun c u q n => keep c u q fun z => n i (z ▸ hia) (List.contains_iff_mem.mp htc)) hp0 hp ob3
          · rcases List.mem_cons.mp h with rfl | h
            · exact .inr hpn
            · exact .inl h
          · rcases List.mem_cons.mp h with rfl | h
            · exact ⟨u, hp⟩
            · obtain ⟨u, q⟩ := R1.zin z h
              exact ⟨u, keep z u q fun e => R1.dis a aa (e ▸ h)⟩
    · cases hf
end
end Lay

namespace Lay
open PySem PySem.Spec PyProof.Rows L2

/-! ## what is walked -/
/-- the iterator J yields ds, in every later heap -/
def Wk (K : PySem.W.Frag) (Zs : List Addr) (H0 : Hp) (J : It) (ds : List D) : Prop := ∀ (Zs' : List Addr) (H : Hp), Ext (hid Zs H0) (hid Zs' H) → Zok Zs' H →
  (∀ i, i < ds.length → J.go i H) ∧ (∀ i x H', i < ds.length → J.yld i H x H' → Ext H H' ∧ ∃ d, ds[i]? = some d ∧ Dat K (hid Zs' H') d x) ∧ J.stop ds.length H
abbrev XI := En → Option (List D × En)
def SemI (K : PySem.W.Frag) (tc ow : List Nat) (wi : TI) (f : XI) : Prop := ∀ (own : Ow) (Z : List Addr) (ρ : En) (σ : L2.St) (H : Hp) (ds : List D) (ρ' : En) (R : It → Hp → Prop), own.map (·.1) = ow → Rep K own Z ρ σ H → f ρ = some (ds, ρ') →
  (∀ J H', Rep K own Z ρ' σ H' → Grt tc own H H' → ds.length ≤ sizeLine → Wk K (adr own ++ Z) H' J ds → R J H') → wi σ H R
abbrev XG := D → En → Option En
/-- a target; ts: the slots it stores -/
def SemG (K : PySem.W.Frag) (ow : List Nat) (ts : List Nat) (g : TG) (f : XG) : Prop := ∀ (own : Ow) (Z : List Addr) (ρ : En) (σ : L2.St) (H : Hp) (d : D) (v : V) (ρ' : En) (Q : L2.St → Hp → Prop), own.map (·.1) = ow → Rep K own Z ρ σ H → Dat K (hid (adr own ++ Z) H) d v → f d ρ = some ρ' →
  (∀ σ', Rep K own Z ρ' σ' H → (∀ vs : List Nat, (∀ t ∈ ts, t ∈ vs) → wipe σ' vs = wipe σ vs) → Q σ' H) → g v σ H Q
section
variable {ι : Type} (X : ι → Cx) (C : Ct) (tc ow : List Nat)
structure RI (tg e : Expr) (f : XI) : Prop where
  ex : ∃ wi, (∀ i, PI (X i) tg e wi) ∧ SemI C.K tc ow wi f
end
section
variable {ι : Type} (X : ι → Cx) (C : Ct) (ow : List Nat)
structure RG (ts : List Nat) (tg : Expr) (f : XG) : Prop where
  ex : ∃ g, (∀ i, PG (X i) tg g) ∧ SemG C.K ow ts g f
end
section
variable {ι : Type} (X : ι → Cx) (C : Ct) (tc ow : List Nat)
structure RQ (ifs : List Expr) (f : XT) : Prop where
  ex : ∃ tt, (∀ i, PTs (X i) ifs tt) ∧ SemT C.K tc ow tt f
end

/-! ### targets -/
theorem wipe_set {σ : L2.St} {i : Nat} {x : Option V} : ∀ {vs : List Nat}, i ∈ vs → wipe (σ.set i x) vs = wipe σ vs
  | [], h => by cases h
  | v :: vs, h => by
    unfold wipe
    by_cases hi : i ∈ vs
    · rw [wipe_set hi]
    · have hv : i = v := by
        rcases List.mem_cons.mp h with h | h
        · exact h
        · exact absurd h hi
      subst hv
      have key : ∀ (us : List Nat) (τ : L2.St), i ∉ us → wipe (τ.set i x) us = (wipe τ us).set i x := by
        intro us
        induction us with
        | nil => intro τ _; rfl
        | cons u us ih =>
          intro τ hn
          unfold wipe
          rw [ih τ fun q => hn (List.mem_cons_of_mem _ q), List.set_comm]
          exact fun e => hn (e ▸ List.mem_cons_self ..)
      rw [key vs σ hi, List.set_set]
theorem wipe_wipe {σ : L2.St} : ∀ {us vs : List Nat}, (∀ u ∈ us, u ∈ vs) → wipe (wipe σ us) vs = wipe σ vs
  | [], _, _ => rfl
  | u :: us, vs, h => by
    show wipe ((wipe σ us).set u none) vs = _
    rw [wipe_set (h u (List.mem_cons_self ..)), wipe_wipe fun x hx => h x (List.mem_cons_of_mem _ hx)]
def nameG (i : Nat) : XG := fun d ρ => some (ρ.set i (some d))
def nilG : List D → En → Option En := fun ds ρ => match ds with
  | [] => some ρ
  | _ => none
def consG (f : XG) (g : List D → En → Option En) : List D → En → Option En := fun ds ρ => match ds with
  | d :: r => (f d ρ).bind fun ρ' => g r ρ'
  | [] => none
def tupG (g : List D → En → Option En) : XG := fun d ρ => match d with
  | .tuple ds => g ds ρ
  | _ => none
def SemGs (K : PySem.W.Frag) (ow : List Nat) (ts : List Nat) (g : TGs) (f : List D → En → Option En) : Prop := ∀ (own : Ow) (Z : List Addr) (ρ : En) (σ : L2.St) (H : Hp) (ds : List D) (vs : List V) (ρ' : En) (Q : L2.St → Hp → Prop), own.map (·.1) = ow → Rep K own Z ρ σ H → Dats K (hid (adr own ++ Z) H) ds vs → f ds ρ = some ρ' →
  (∀ σ', Rep K own Z ρ' σ' H → (∀ vs : List Nat, (∀ t ∈ ts, t ∈ vs) → wipe σ' vs = wipe σ vs) → Q σ' H) → g vs σ H Q
section
variable {ι : Type} (X : ι → Cx) (C : Ct) (ow : List Nat)
structure RGs (ts : List Nat) (n : Nat) (tg : List Expr) (f : List D → En → Option En) : Prop where
  ex : ∃ g, (∀ i, PGs (X i) tg g) ∧ SemGs C.K ow ts g f
  len : ∀ ds ρ ρ', f ds ρ = some ρ' → ds.length = n
end
section
variable {ι : Type} {X : ι → Cx} {C : Ct} {mu : List Nat} {fr : Bool} {tc owl ow ow1 ow2 : List Nat} {N : List Str} {k : Nat}
theorem rg_name (F : Fam X C N k) (i : Nat) {x : Str} {pos : Pos} (hi : N[i]? = some x) (hx : ∀ j, Loc (X j).env.scope x) (hw : ow.contains i = false) (hf : ∀ j, (X j).fn x = true ∨ (X j).env.scope.names.lookup x = some .local) : RG X C ow [i] (.Name x pos) (nameG i) :=
  ⟨gName i, fun j => pg_name (by rw [F.nm j]; exact F.nd) (by rw [F.nm j]; exact hi) (hx j) (hf j), fun own Z ρ σ H d v ρ' Q ho R hd hf hq => by
    simp only [nameG, Option.some.injEq] at hf
    subst hf
    exact hq _ (R.set (notin_of ho hw) hd) fun vs hvs => wipe_set (hvs i (List.mem_singleton.mpr rfl))⟩
theorem rgs_nil : RGs X C ow [] 0 [] nilG := ⟨⟨gNil, fun _ => pgs_nil, fun own Z ρ σ H ds vs ρ' Q ho R hd hf hq => by
    unfold nilG at hf
    split at hf
    · cases hd
      simp only [Option.some.injEq] at hf
      subst hf
      exact ⟨rfl, hq σ R fun _ _ => rfl⟩
    · cases hf⟩, fun ds ρ ρ' hf => by
    unfold nilG at hf
    split at hf
    · rfl
    · cases hf⟩
theorem rgs_cons {ts us : List Nat} {n : Nat} {e : Expr} {es : List Expr} {f : XG} {g : List D → En → Option En} (h : RG X C ow ts e f) (h' : RGs X C ow us n es g) (hs : ∀ i, (assignEach (e :: es) (X i).env).map (·.2) = assign e (X i).env :: (assignEach es (X i).env).map (·.2)) :
    RGs X C ow (ts ++ us) (n + 1) (e :: es) (consG f g) := by
  obtain ⟨t, a1, a2⟩ := h.ex
  obtain ⟨u, b1, b2⟩ := h'.ex
  refine ⟨⟨_, fun i => pgs_cons (a1 i) (b1 i) (hs i), fun own Z ρ σ H ds vs ρ' Q ho R hd hf hq => ?_⟩, fun ds ρ ρ' hf => ?_⟩
  · unfold consG at hf
    cases hd with
    | nil => cases hf
    | cons d r =>
      rename_i d0 v0 ds0 vs0
      simp only at hf
      cases e1 : f d0 ρ with
      | none => rw [e1] at hf; cases hf
      | some ρ1 =>
        rw [e1] at hf
        simp only [Option.bind_some] at hf
        refine ⟨_, _, rfl, a2 own Z ρ σ H _ _ ρ1 _ ho R d e1 fun σ1 R1 w1 => ?_⟩
        exact b2 own Z ρ1 σ1 H _ _ ρ' Q ho R1 r hf fun σ2 R2 w2 => hq σ2 R2 fun vs hvs => (w2 vs fun t ht => hvs t (List.mem_append_right _ ht)).trans (w1 vs fun t ht => hvs t (List.mem_append_left _ ht))
  · unfold consG at hf
    split at hf
    · rename_i d r
      cases e1 : f d ρ with
      | none => rw [e1] at hf; cases hf
      | some ρ1 =>
        rw [e1] at hf
        simp only [Option.bind_some] at hf
        rw [List.length_cons, h'.len _ _ _ hf]
    · cases hf
theorem rg_tup {ts : List Nat} {n kk : Nat} {es : List Expr} {pos : Pos} {g : List D → En → Option En} (F : Fam X C N k) (h : RGs X C ow ts n es g) (hn : ∀ i, (assignEach es (X i).env).length = n) (hst : ∀ i, (assignEach es (X i).env).findIdx? (·.1) = none) :
    RG X C ow ts (.Tuple es kk pos) (tupG g) := by
  obtain ⟨t, a1, a2⟩ := h.ex
  refine ⟨gTup C.K n t, fun i => ?_, fun own Z ρ σ H d v ρ' Q ho R hd hf hq => ?_⟩
  · have := pg_tup (pos := pos) (k := kk) (F.calm i) (a1 i) (hn i) (hst i)
    rw [F.K i] at this
    exact this
  · unfold tupG at hf
    split at hf
    · rename_i ds
      cases hd with
      | tup s z r =>
        rename_i a xs
        refine ⟨a, xs, rfl, ?_, ?_, a2 own Z ρ σ H ds xs ρ' Q ho R r hf hq⟩
        · exact (s.mono (fun a o q => (hid_some.mp q).2)).sq
        · rw [← r.len, h.len _ _ _ hf]
    · cases hf

/-! ### for -/
def loopS (fg : XG) (F : XS) : List D → XS
  | [], ρ => .nx ρ
  | d :: ds, ρ => match fg d ρ with
    | none => .bad
    | some ρ1 => match F ρ1 with
      | .nx ρ2 => loopS fg F ds ρ2
      | .ct ρ2 => loopS fg F ds ρ2
      | .bk ρ2 => .nx ρ2
      | o => o
def forS (fi : XI) (fg : XG) (F : XS) : XS := fun ρ => match fi ρ with
  | some (ds, ρ1) => loopS fg F ds ρ1
  | none => .bad
theorem After.ends {K : PySem.W.Frag} {ow' owl' : List Nat} {own : Ow} {Z : List Addr} {H : Hp} {E E' : Ends} (hr : E.rt = E'.rt) {d : D} {ρ : En} (h : After K mu fr owl ow' own Z H E (.rt d ρ)) : After K mu fr owl' ow2 own Z H E' (.rt d ρ) := by
  cases fr with
  | true => exact fun own' σ' H' p o e s' R hp h1 h2 => by have := h own' σ' H' p o e s' R hp h1 h2; rw [hr] at this; exact this
  | false => exact fun v own' σ' H' e s' R hd => by have := h v own' σ' H' e s' R hd; rw [hr] at this; exact this
theorem rs_for {ts : List Nat} {tg iter : Expr} {body : List Stmt} {fi : XI} {fg : XG} {F : XS} {pos : Pos} (Fm : Fam X C N k) (hi : RI X C tc ow tg iter fi) (hg : RG X C ow ts tg fg) (hb : RSs X C mu fr ow ow ow body F)
    (hp : ∀ i, PassesOwn (model (X i).prog (X i).w) (X i).A (X i).env (X i).xe) (hs : ∀ i x, foldedSetIterable iter (X i).env x = pure x) : RS X C mu fr owl ow ow (.For tg iter body [] pos) (forS fi fg F) := by
  obtain ⟨wi, i1, i2⟩ := hi.ex
  obtain ⟨g, g1, g2⟩ := hg.ex
  obtain ⟨tb, b1, b2⟩ := hb.ex
  refine ⟨_, fun i => ps_for (hp i) (Fm.calm i) (i1 i) (g1 i) (b1 i) (hs i), fun own0 Z ρ σ H E ho R h => ?_⟩
  unfold forS at h
  cases e : fi ρ with
  | none => rw [e] at h; exact absurd h (fun q => q)
  | some p =>
    obtain ⟨ds, ρ1⟩ := p
    rw [e] at h
    have h : After C.K mu fr owl ow own0 Z H E (loopS fg F ds ρ1) := h
    refine i2 own0 Z ρ σ H ds ρ1 _ ho R e fun J H1 R1 gr zl wk => ?_
    have h1 := h.step (Step.of gr.all)
    refine ⟨fun i m σ' H' => i + m = ds.length ∧ ∃ own ρ', own.map (·.1) = ow ∧ Step mu own0 H1 own H' ∧ Rep C.K own Z ρ' σ' H' ∧ After C.K mu fr owl ow own0 Z H1 E (loopS fg F (ds.drop i) ρ'),
      ⟨ds.length, by omega, own0, ρ1, ho, Step.refl, R1, by rw [List.drop_zero]; exact h1⟩, fun i m σ' H' => ?_⟩
    rintro ⟨him, own, ρ', ho', st, R', ha⟩
    obtain ⟨w1, w2, w3⟩ := wk (adr own ++ Z) H' st.hid R'.zok
    by_cases hlt : i < ds.length
    · refine .inr ⟨w1 i hlt, fun σ2 H2 => (i + 1) + (m - 1) = ds.length ∧ ∃ own ρ', own.map (·.1) = ow ∧ Step mu own0 H1 own H2 ∧ Rep C.K own Z ρ' σ2 H2 ∧ After C.K mu fr owl ow own0 Z H1 E (loopS fg F (ds.drop (i + 1)) ρ'),
        fun σ2 H2 hn => ⟨m - 1, by omega, hn⟩, fun x H2 hy => ?_⟩
      obtain ⟨ex, d, hd, dd⟩ := w2 i x H2 hlt hy
      have hdr : ds.drop i = d :: ds.drop (i + 1) := by
        rw [List.drop_eq_getElem_cons hlt]
        rw [List.getElem?_eq_getElem hlt] at hd
        simp only [Option.some.injEq] at hd
        rw [hd]
      rw [hdr] at ha
      unfold loopS at ha
      cases e1 : fg d ρ' with
      | none => rw [e1] at ha; exact absurd ha (fun q => q)
      | some ρ2 =>
        rw [e1] at ha
        simp only at ha
        have R2 := R'.ext ex
        have st2 : Step mu own0 H1 own H2 := st.trans (Step.of (Gro.of ex))
        refine g2 own Z ρ' σ' H2 d x ρ2 _ ho' R2 dd e1 fun σ3 R3 _ => ?_
        refine b2 own Z ρ2 σ3 H2 _ ho' R3 ?_
        cases e2 : F ρ2 with
        | nx ρ3 =>
          rw [e2] at ha
          exact fun own' σ4 H4 e4 s4 R4 => ⟨by omega, own', ρ3, e4, st2.trans s4, R4, ha⟩
        | ct ρ3 =>
          rw [e2] at ha
          exact fun own' σ4 H4 e4 s4 R4 => ⟨by omega, own', ρ3, e4, st2.trans s4, R4, ha⟩
        | bk ρ3 =>
          rw [e2] at ha
          have ha : After C.K mu fr owl ow own0 Z H1 E (.nx ρ3) := ha
          exact fun own' σ4 H4 e4 s4 R4 => ha own' σ4 H4 e4 (st2.trans s4) R4
        | rt d' ρ3 =>
          rw [e2] at ha
          have ha : After C.K mu fr owl ow own0 Z H1 E (.rt d' ρ3) := ha
          exact After.ends (E := E) (E' := { E with nx := _, ct := _, bk := E.nx }) rfl (ha.step st2)
        | bad => rw [e2] at ha; exact absurd ha (fun q => q)
    · have hie : i = ds.length := by omega
      subst hie
      rw [List.drop_length] at ha
      exact .inl ⟨w3, ha own σ' H' ho' st R'⟩

/-! ### while -/
def whileN (t : XT) (F : XS) : Nat → XS
  | 0 => fun _ => .bad
  | n + 1 => fun ρ => match t ρ with
    | none => .bad
    | some (b, ρ1) => if b = true then (match F ρ1 with
      | .nx ρ2 => whileN t F n ρ2
      | .ct ρ2 => whileN t F n ρ2
      | .bk ρ2 => .nx ρ2
      | o => o) else .nx ρ1
def whileS (fu : En → Nat) (t : XT) (F : XS) : XS := fun ρ => whileN t F (fu ρ) ρ
theorem rs_while {c : Expr} {body : List Stmt} {t : XT} {F : XS} {pos : Pos} (fu : En → Nat) (hc : RT X C tc ow c t) (hb : RSs X C mu fr ow ow ow body F) (hp : ∀ i, PassesOwn (model (X i).prog (X i).w) (X i).A (X i).env (X i).xe) :
    RS X C mu fr owl ow ow (.While c body [] pos) (whileS fu t F) := by
  obtain ⟨tc, c1, c2⟩ := hc.ex
  obtain ⟨tb, b1, b2⟩ := hb.ex
  refine ⟨_, fun i => ps_while (hp i) (c1 i) (b1 i), fun own0 Z ρ σ H E ho R h => ?_⟩
  refine ⟨fun m σ' H' => ∃ own ρ', own.map (·.1) = ow ∧ Step mu own0 H own H' ∧ Rep C.K own Z ρ' σ' H' ∧ After C.K mu fr owl ow own0 Z H E (whileN t F m ρ'), ⟨fu ρ, own0, ρ, ho, Step.refl, R, h⟩, fun m σ' H' => ?_⟩
  rintro ⟨own, ρ', ho', st, R', ha⟩
  cases m with
  | zero => exact absurd ha (fun q => q)
  | succ m =>
    unfold whileN at ha
    cases e : t ρ' with
    | none => rw [e] at ha; exact absurd ha (fun q => q)
    | some p =>
      obtain ⟨b, ρ1⟩ := p
      rw [e] at ha
      refine c2 own Z ρ' σ' H' b ρ1 _ ho' R' e fun H1 R1 gr => ?_
      have st1 : Step mu own0 H own H1 := st.trans (Step.of gr.all)
      cases b with
      | true =>
        simp only [if_true] at ha ⊢
        refine ⟨fun σ2 H2 => ∃ own ρ', own.map (·.1) = ow ∧ Step mu own0 H own H2 ∧ Rep C.K own Z ρ' σ2 H2 ∧ After C.K mu fr owl ow own0 Z H E (whileN t F m ρ'), fun σ2 H2 hn => ⟨m, Nat.lt_succ_self m, hn⟩, ?_⟩
        refine b2 own Z ρ1 σ' H1 _ ho' R1 ?_
        cases e2 : F ρ1 with
        | nx ρ3 =>
          rw [e2] at ha
          exact fun own' σ4 H4 e4 s4 R4 => ⟨own', ρ3, e4, st1.trans s4, R4, ha⟩
        | ct ρ3 =>
          rw [e2] at ha
          exact fun own' σ4 H4 e4 s4 R4 => ⟨own', ρ3, e4, st1.trans s4, R4, ha⟩
        | bk ρ3 =>
          rw [e2] at ha
          have ha : After C.K mu fr owl ow own0 Z H E (.nx ρ3) := ha
          exact fun own' σ4 H4 e4 s4 R4 => ha own' σ4 H4 e4 (st1.trans s4) R4
        | rt d' ρ3 =>
          rw [e2] at ha
          have ha : After C.K mu fr owl ow own0 Z H E (.rt d' ρ3) := ha
          exact After.ends (E := E) (E' := { E with nx := _, ct := _, bk := E.nx }) rfl (ha.step st1)
        | bad => rw [e2] at ha; exact absurd ha (fun q => q)
      | false =>
        simp only [Bool.false_eq_true, if_false] at ha ⊢
        exact ha own σ' H1 ho' st1 R1
theorem rs_break {pos : Pos} (h : owl = ow.filter fun i => owl.contains i) : RS X C mu fr owl ow ow2 (.Break pos) .bk := ⟨_, fun _ => ps_break, fun own Z ρ σ H E ho R hf => hf (keepO owl own) σ H (by rw [keepO_map, ho, ← h]) (Step.keep (K := C.K) owl) (R.sub List.filter_sublist)⟩
theorem rs_cont {pos : Pos} (h : owl = ow.filter fun i => owl.contains i) : RS X C mu fr owl ow ow2 (.Continue pos) .ct := ⟨_, fun _ => ps_continue, fun own Z ρ σ H E ho R hf => hf (keepO owl own) σ H (by rw [keepO_map, ho, ← h]) (Step.keep (K := C.K) owl) (R.sub List.filter_sublist)⟩

/-! ### comprehensions -/
def compL (vs : List Nat) (fg : XG) (ft : XT) (fe : XE) : List D → En → Option (List D × En)
  | [], ρ => some ([], ρ)
  | d :: ds, ρ => (fg d (kil ρ vs)).bind fun ρ1 => (ft ρ1).bind fun p => if p.1 = true then (fe p.2).bind fun q => (compL vs fg ft fe ds q.2).map fun r => (q.1 :: r.1, r.2) else compL vs fg ft fe ds p.2
def backE : List Nat → En → En → En
  | [], _, ρ => ρ
  | v :: vs, ρ1, ρ => (backE vs ρ1 ρ).set v (ρ1[v]?.getD none)
def compE (fi : XI) (vs : List Nat) (fg : XG) (ft : XT) (fe : XE) : XE := fun ρ => (fi ρ).bind fun p => (compL vs fg ft fe p.1 p.2).map fun r => (.list r.1, backE vs p.2 r.2)
def yesT : XT := fun ρ => some (true, ρ)
theorem rq_nil : RQ X C tc ow [] yesT := ⟨tYes, fun _ => pts_nil, fun own Z ρ σ H b ρ' Q ho R hf hq => by
  simp only [yesT, Option.some.injEq, Prod.mk.injEq] at hf
  obtain ⟨rfl, rfl⟩ := hf
  exact hq H R Grt.refl⟩
theorem rq_one {c : Expr} {f : XT} (h : RT X C tc ow c f) : RQ X C tc ow [c] f := by
  obtain ⟨t, a1, a2⟩ := h.ex
  exact ⟨t, fun i => pts_one (a1 i), a2⟩
/-- the blocks of a comprehension -/
abbrev Blk (ι : Type) := ι × Shared × Hp × Addr × List (Str × Addr) × List Addr
def blkF (X : ι → Cx) (scope : Scope) : Blk ι → Cx := fun q => (X q.1).blk q.2.1 q.2.2.1 scope (compEnvC scope q.2.2.2.2.1 q.2.2.2.1 (X q.1).env) q.2.2.2.2.2
theorem Fam.blk (F : Fam X C N k) (scope : Scope) : Fam (blkF X scope) C N k :=
  ⟨fun q => F.P q.1, fun q => F.w q.1, fun q => F.K q.1, fun q => F.mg q.1, fun q => F.base q.1, fun q => F.nm q.1, F.nd, fun q => F.calm q.1, fun q => F.room q.1, fun q => F.gd q.1⟩

theorem mem_of_eq {i v : Nat} {vs : List Nat} (e : v = i) : i ∈ v :: vs := by subst e; exact List.mem_cons_self ..
theorem kil_len (ρ : En) : ∀ vs : List Nat, (kil ρ vs).length = ρ.length
  | [] => rfl
  | v :: vs => by unfold kil; rw [List.length_set, kil_len ρ vs]
theorem backE_len (ρ1 ρ : En) : ∀ vs : List Nat, (backE vs ρ1 ρ).length = ρ.length
  | [] => rfl
  | v :: vs => by unfold backE; rw [List.length_set, backE_len ρ1 ρ vs]
theorem kil_nin {ρ : En} {i : Nat} : ∀ {vs : List Nat}, i ∉ vs → (kil ρ vs)[i]? = ρ[i]?
  | [], _ => rfl
  | v :: vs, h => by
    unfold kil
    rw [List.getElem?_set, if_neg fun e => h (mem_of_eq e), kil_nin fun q => h (List.mem_cons_of_mem _ q)]
theorem kil_in {ρ : En} {i : Nat} {d : D} : ∀ {vs : List Nat}, i ∈ vs → (kil ρ vs)[i]? ≠ some (some d)
  | [], h => by cases h
  | v :: vs, h => fun e => by
    unfold kil at e
    rw [List.getElem?_set] at e
    by_cases hv : v = i
    · rw [if_pos hv] at e
      split at e <;> cases e
    · rw [if_neg hv] at e
      rcases List.mem_cons.mp h with h | h
      · exact hv h.symm
      · exact kil_in h e
theorem wipe_nin {σ : L2.St} {i : Nat} : ∀ {vs : List Nat}, i ∉ vs → (wipe σ vs)[i]? = σ[i]?
  | [], _ => rfl
  | v :: vs, h => by
    unfold wipe
    rw [List.getElem?_set, if_neg fun e => h (mem_of_eq e), wipe_nin fun q => h (List.mem_cons_of_mem _ q)]
theorem backE_nin {ρ1 ρ : En} {i : Nat} : ∀ {vs : List Nat}, i ∉ vs → (backE vs ρ1 ρ)[i]? = ρ[i]?
  | [], _ => rfl
  | v :: vs, h => by
    unfold backE
    rw [List.getElem?_set, if_neg fun e => h (mem_of_eq e), backE_nin fun q => h (List.mem_cons_of_mem _ q)]
theorem backE_in {ρ1 ρ : En} {i : Nat} {d : D} : ∀ {vs : List Nat}, i ∈ vs → (backE vs ρ1 ρ)[i]? = some (some d) → ρ1[i]? = some (some d)
  | [], h, _ => by cases h
  | v :: vs, h, e => by
    unfold backE at e
    rw [List.getElem?_set] at e
    by_cases hv : v = i
    · subst hv
      rw [if_pos rfl] at e
      split at e
      · simp only [Option.some.injEq] at e
        cases q : ρ1[v]? with
        | none => rw [q] at e; cases e
        | some o => rw [q] at e; simp only [Option.getD_some] at e; rw [e]
      · cases e
    · rw [if_neg hv] at e
      rcases List.mem_cons.mp h with h | h
      · exact absurd h.symm hv
      · exact backE_in h e
theorem Rep.wipe {K : PySem.W.Frag} {own : Ow} {Z : List Addr} {ρ : En} {σ : L2.St} {H : Hp} {vs : List Nat} (R : Rep K own Z ρ σ H) (hv : ∀ v ∈ vs, v ∉ own.map (·.1)) : Rep K own Z (kil ρ vs) (wipe σ vs) H where
  len := by rw [kil_len, wipe_length]; exact R.len
  dat := fun i d q n => by
    by_cases hi : i ∈ vs
    · exact absurd q (kil_in hi)
    · rw [kil_nin hi] at q
      obtain ⟨v, h1, h2⟩ := R.dat i d q n
      exact ⟨v, by rw [wipe_nin hi]; exact h1, h2⟩
  obj := fun i a q => by
    have hi : i ∉ vs := fun z => hv i z (List.mem_map.mpr ⟨_, q, rfl⟩)
    obtain ⟨h1, d, o, h2, h3⟩ := R.obj i a q
    exact ⟨by rw [wipe_nin hi]; exact h1, d, o, by rw [kil_nin hi]; exact h2, h3⟩
  nd1 := R.nd1
  nd2 := R.nd2
  dis := R.dis
  zin := R.zin
theorem Rep.back {K : PySem.W.Frag} {own : Ow} {Z : List Addr} {ρ1 ρ : En} {σ : L2.St} {H1 H : Hp} {vs : List Nat} (R1 : Rep K own Z ρ1 σ H1) (g : Gro own H1 H) (R : Rep K own Z (kil ρ vs) (L2.wipe σ vs) H) (hv : ∀ v ∈ vs, v ∉ own.map (·.1)) : Rep K own Z (backE vs ρ1 ρ) σ H where
  len := by
    rw [backE_len]
    have := R.len
    rw [kil_len, wipe_length] at this
    exact this
  dat := fun i d q n => by
    by_cases hi : i ∈ vs
    · obtain ⟨v, h1, h2⟩ := R1.dat i d (backE_in hi q) n
      exact ⟨v, h1, h2.ext g.hid⟩
    · rw [backE_nin hi] at q
      obtain ⟨v, h1, h2⟩ := R.dat i d (by rw [kil_nin hi]; exact q) n
      exact ⟨v, by rw [wipe_nin hi] at h1; exact h1, h2⟩
  obj := fun i a q => by
    have hi : i ∉ vs := fun z => hv i z (List.mem_map.mpr ⟨_, q, rfl⟩)
    obtain ⟨h1, d, o, h2, h3⟩ := R.obj i a q
    exact ⟨by rw [wipe_nin hi] at h1; exact h1, d, o, by rw [backE_nin hi]; rw [kil_nin hi] at h2; exact h2, h3⟩
  nd1 := R.nd1
  nd2 := R.nd2
  dis := R.dis
  zin := R.zin
theorem hid_updIn {Z : List Addr} {H : Hp} {p : Addr} {o : HO} (h : p ∈ Z) : hid Z (upd H p o) = hid Z H := by
  funext a
  unfold hid
  by_cases ha : a ∈ Z
  · rw [if_pos ha, if_pos ha]
  · rw [if_neg ha, if_neg ha, upd_ne fun e => ha (by rw [e]; exact h)]
theorem Rep.updZ {K : PySem.W.Frag} {own : Ow} {Z : List Addr} {ρ : En} {σ : L2.St} {H : Hp} {p : Addr} {o : HO} (R : Rep K own Z ρ σ H) (h : p ∈ Z) : Rep K own Z ρ σ (upd H p o) := by
  have e : hid (adr own ++ Z) (upd H p o) = hid (adr own ++ Z) H := hid_updIn (List.mem_append_right _ h)
  refine ⟨R.len, fun i d q n => by rw [e]; exact R.dat i d q n, fun i a q => ?_, R.nd1, R.nd2, R.dis, fun z hz => ?_⟩
  · obtain ⟨h1, d, u, h2, h3, h4⟩ := R.obj i a q
    have : a ≠ p := fun z => R.dis a (List.mem_map.mpr ⟨_, q, rfl⟩) (z ▸ h)
    exact ⟨h1, d, u, h2, by rw [upd_ne this]; exact h3, by rw [e]; exact h4⟩
  · by_cases hzp : z = p
    · exact ⟨o, by rw [hzp]; exact upd_same⟩
    · obtain ⟨u, q⟩ := R.zin z hz
      exact ⟨u, by rw [upd_ne hzp]; exact q⟩

theorem sem_lc {K : PySem.W.Frag} {wi : TI} {g : TG} {tt : TT} {te : TE} {ts vs : List Nat} {fi : XI} {fg : XG} {ft : XT} {fe : XE} (hi : SemI K tc ow wi fi) (hg : SemG K ow ts g fg) (ht : SemT K tc ow tt ft) (he : Sem K tc ow te fe) (hts : ∀ t ∈ ts, t ∈ vs) (hv : vs.all (fun v => !ow.contains v) = true) :
    SemF K tc ow (tLc wi g tt te vs) (compE fi vs fg ft fe) := fun own Z ρ σ H d ρ' Q ho R hf hq => by
  have hvo : ∀ v ∈ vs, v ∉ own.map (·.1) := fun v hm q => by
    rw [ho] at q
    have := List.all_eq_true.mp hv v hm
    rw [List.contains_iff_mem.mpr q] at this
    cases this
  unfold compE at hf
  cases e0 : fi ρ with
  | none => rw [e0] at hf; cases hf
  | some p0 =>
    obtain ⟨ds, ρ1⟩ := p0
    rw [e0] at hf
    simp only [Option.bind_some] at hf
    refine hi own Z ρ σ H ds ρ1 _ ho R e0 fun J H1 R1 gr zl wk => ?_
    intro p hp
    have hpn := R1.new_nin hp
    have hp0 : H p = none := by
      cases q : H p with
      | none => rfl
      | some u =>
        by_cases hm : p ∈ adr own
        · obtain ⟨o2, q2⟩ := R1.ain hm
          rw [hp] at q2; cases q2
        · rw [gr p u q (nadr hm)] at hp; cases hp
    -- the invariant at turn i: what is made so far, what is left
    refine ⟨fun i m H' => i + m = ds.length ∧ ∃ (ρ2 : En) (acc : List V) (ad : List D) (rest : List D), Rep K own (p :: Z) (kil ρ2 vs) (wipe σ vs) H' ∧ (∀ a o, H1 a = some o → (∀ j, (j, a) ∈ own → j ∉ tc) → H' a = some o) ∧ H' p = some (.lst acc) ∧ Dats K (hid (adr own ++ p :: Z) H') ad acc ∧ acc.length ≤ i ∧
      ∃ r, compL vs fg ft fe (ds.drop i) ρ2 = some (rest, r) ∧ (.list (ad ++ rest), backE vs ρ1 r) = (d, ρ'), ⟨ds.length, by omega, ?_⟩, fun i m H' => ?_⟩
    · cases e1 : compL vs fg ft fe ds ρ1 with
      | none => rw [e1] at hf; cases hf
      | some q =>
        rw [e1] at hf
        simp only [Option.map_some, Option.some.injEq] at hf
        refine ⟨ρ1, [], [], q.1, ((R1.hide hp (Gro.of (Ext.new hp)) (fun a ha => upd_ne fun z => ?_) upd_same).wipe hvo), fun a o q n => by rw [upd_ne fun z => by subst z; rw [hp] at q; cases q]; exact q, upd_same, .nil, Nat.le_refl _, q.2, by rw [List.drop_zero]; exact e1, hf⟩
        subst z
        obtain ⟨o, q2⟩ := R1.ain ha
        rw [hp] at q2; cases q2
    · rintro ⟨him, ρ2, acc, ad, rest, R2, kp, hacc, dacc, hal, r, hc, hfin⟩
      have gr2 : Grt tc own H1 H' := kp
      have x : Ext (hid (adr own ++ Z) H1) (hid (adr own ++ p :: Z) H') := fun a o q => by
        have h := hid_some.mp q
        refine hid_some.mpr ⟨fun z => ?_, kp a o h.2 (nadr fun z => h.1 (List.mem_append_left _ z))⟩
        rcases List.mem_append.mp z with z | z
        · exact h.1 (List.mem_append_left _ z)
        · rcases List.mem_cons.mp z with z | z
          · subst z; rw [hp] at h; cases h.2
          · exact h.1 (List.mem_append_right _ z)
      obtain ⟨w1, w2, w3⟩ := wk _ H' x R2.zok
      by_cases hlt : i < ds.length
      · refine .inr ⟨w1 i hlt, fun H2 => (i + 1) + (m - 1) = ds.length ∧ ∃ (ρ2 : En) (acc : List V) (ad : List D) (rest : List D), Rep K own (p :: Z) (kil ρ2 vs) (wipe σ vs) H2 ∧ (∀ a o, H1 a = some o → (∀ j, (j, a) ∈ own → j ∉ tc) → H2 a = some o) ∧ H2 p = some (.lst acc) ∧ Dats K (hid (adr own ++ p :: Z) H2) ad acc ∧ acc.length ≤ i + 1 ∧
          ∃ r, compL vs fg ft fe (ds.drop (i + 1)) ρ2 = some (rest, r) ∧ (.list (ad ++ rest), backE vs ρ1 r) = (d, ρ'), fun H2 hn => ⟨m - 1, by omega, hn⟩, fun y H2 hy => ?_⟩
        obtain ⟨ex, d1, hd, dd⟩ := w2 i y H2 hlt hy
        have hdr : ds.drop i = d1 :: ds.drop (i + 1) := by
          rw [List.drop_eq_getElem_cons hlt]
          rw [List.getElem?_eq_getElem hlt] at hd
          simp only [Option.some.injEq] at hd
          rw [hd]
        rw [hdr] at hc
        unfold compL at hc
        cases e1 : fg d1 (kil ρ2 vs) with
        | none => rw [e1] at hc; cases hc
        | some ρ3 =>
          rw [e1] at hc
          simp only [Option.bind_some] at hc
          refine hg own (p :: Z) _ _ H2 d1 y ρ3 _ ho (R2.ext ex) dd e1 fun σ3 R3 w3' => ?_
          have hw : wipe σ3 vs = wipe σ vs := (w3' vs hts).trans (wipe_wipe fun u h => h)
          refine ⟨hw, ?_⟩
          cases e2 : ft ρ3 with
          | none => rw [e2] at hc; cases hc
          | some q2 =>
            obtain ⟨b, ρ4⟩ := q2
            rw [e2] at hc
            simp only [Option.bind_some] at hc
            refine ht own (p :: Z) ρ3 σ3 H2 b ρ4 _ ho R3 e2 fun H3 R4 g4 => ?_
            have hpo : p ∉ adr own := fun z => R4.dis p z (List.mem_cons_self ..)
            cases b with
            | true =>
              simp only [if_true] at hc ⊢
              cases e3 : fe ρ4 with
              | none => rw [e3] at hc; cases hc
              | some q3 =>
                obtain ⟨y2, ρ5⟩ := q3
                rw [e3] at hc
                simp only [Option.bind_some] at hc
                cases e4 : compL vs fg ft fe (ds.drop (i + 1)) ρ5 with
                | none => rw [e4] at hc; cases hc
                | some q4 =>
                  obtain ⟨rest2, r2⟩ := q4
                  rw [e4] at hc
                  simp only [Option.map_some, Option.some.injEq, Prod.mk.injEq] at hc
                  obtain ⟨rfl, rfl⟩ := hc
                  refine he own (p :: Z) ρ4 σ3 H3 y2 ρ5 _ ho R4 e3 fun v H4 R5 g5 d5 => ?_
                  have hacc4 : H4 p = some (.lst acc) := g5 p _ (g4 p _ (ex p _ hacc) (nadr hpo)) (nadr hpo)
                  refine ⟨acc, hacc4, by omega, by omega, ρ5, acc ++ [v], ad ++ [y2], rest2, ?_, fun a o q n => ?_, upd_same, ?_, ?_, r2, e4, ?_⟩
                  · have := (R5.wipe hvo).updZ (p := p) (o := .lst (acc ++ [v])) (List.mem_cons_self ..)
                    rw [hw] at this
                    exact this
                  · rw [upd_ne fun z => by subst z; rw [hp] at q; cases q]
                    exact g5 a o (g4 a o (ex a o (kp a o q n)) n) n
                  · rw [hid_updIn (List.mem_append_right _ (List.mem_cons_self ..))]
                    exact ((dacc.ext (Grt.of (tc := tc) (own := own) ex).hid).ext (g4.trans g5).hid).app (.cons d5 .nil)
                  · rw [List.length_append, List.length_singleton]; omega
                  · rw [List.append_assoc]; exact hfin
            | false =>
              simp only [Bool.false_eq_true, if_false] at hc ⊢
              refine ⟨by omega, ρ4, acc, ad, rest, ?_, fun a o q n => g4 a o (ex a o (kp a o q n)) n, g4 p _ (ex p _ hacc) (nadr hpo), (dacc.ext (Grt.of (tc := tc) (own := own) ex).hid).ext g4.hid, by omega, r, hc, hfin⟩
              have := R4.wipe hvo
              rw [hw] at this
              exact this
      · have hie : i = ds.length := by omega
        subst hie
        rw [List.drop_length] at hc
        unfold compL at hc
        simp only [Option.some.injEq, Prod.mk.injEq] at hc
        obtain ⟨rfl, rfl⟩ := hc
        rw [List.append_nil] at hfin
        cases hfin
        refine .inl ⟨w3, ?_⟩
        have R1' : Rep K own (p :: Z) ρ1 σ (upd H1 p (.lst acc)) := R1.hide hp (Gro.of (Ext.new hp)) (fun a ha => upd_ne fun z => by subst z; obtain ⟨o, q2⟩ := R1.ain ha; rw [hp] at q2; cases q2) upd_same
        have hpo : p ∉ adr own := fun z => R2.dis p z (List.mem_cons_self ..)
        have g' : Grt tc own (upd H1 p (.lst acc)) H' := fun a o q n => by
          by_cases hap : a = p
          · subst hap; rw [upd_same] at q; rw [← q]; exact hacc
          · rw [upd_ne hap] at q; exact kp a o q n
        exact hq p (.lst acc) H' (R1'.back g'.all R2 hvo) (gr.trans gr2) hp0 hacc (.lst (by omega) dacc)
theorem rf_lc {elt tg iter : Expr} {ifs : List Expr} {scope : Scope} {ownL : List (Str × Nat)} {pos : Pos} {ts : List Nat} {fi : XI} {fg : XG} {ft : XT} {fe : XE} (F : Fam X C N k) (hi : RI X C tc ow tg iter fi) (ok : ∀ i, BlkOk N (X i).env.scope scope ownL)
    (hg : RG (blkF X scope) C ow ts tg fg) (ht : RQ (blkF X scope) C tc ow ifs ft) (he : RE (blkF X scope) C tc ow elt fe) (hs : ∀ i x, foldedSetIterable iter (X i).env x = pure x) (hts : ts.all (fun t => (ownL.map (·.2)).contains t) = true) (hv : (ownL.map (·.2)).all (fun v => !ow.contains v) = true) :
    RF X C tc ow (.ListComp elt [⟨tg, iter, ifs, 0⟩] scope pos) (compE fi (ownL.map (·.2)) fg ft fe) := by
  obtain ⟨wi, i1, i2⟩ := hi.ex
  obtain ⟨g, g1, g2⟩ := hg.ex
  obtain ⟨tt, t1, t2⟩ := ht.ex
  obtain ⟨te, e1, e2⟩ := he.ex
  refine ⟨_, fun i => pe_lc (own := ownL) (F.calm i) (by rw [F.nm i]; exact F.nd) (i1 i) (by rw [F.nm i]; exact ok i) (fun s H C' cl fp => g1 (i, s, H, C', cl, fp)) (fun s H C' cl fp => t1 (i, s, H, C', cl, fp)) (fun s H C' cl fp => e1 (i, s, H, C', cl, fp)) (hs i), ?_⟩
  exact sem_lc i2 g2 t2 e2 (fun t h => List.contains_iff_mem.mp (List.all_eq_true.mp hts t h)) hv
theorem sem_own {K : PySem.W.Frag} {te : TE} {f : XE} {i : Nat} (h : SemF K tc ow te f) (hw : ow.contains i = false) (hmu : mu.contains i = false) : SemS K mu fr owl ow (ow ++ [i]) (tAsg te (gName i)) (ownS i f) := fun own Z ρ σ H E ho R h' => by
  unfold ownS at h'
  split at h'
  · rename_i hl
    obtain ⟨d, ρ1, e1, h'⟩ := xe_cases (P := After K mu fr owl (ow ++ [i]) own Z H E) h' (fun q => q)
    refine h own Z ρ σ H d ρ1 _ ho R e1 fun p o H1 R1 g1 hn hp ob => ?_
    have hpn := R.new_nin hn
    refine h' (own ++ [(i, p)]) _ H1 (by rw [List.map_append, ho]; rfl) ⟨g1.all, fun q hq => ?_, fun m hm a hq => ?_⟩ (R1.push (notin_of ho hw) (by rw [← R.len]; exact hl) (fun z => hpn (List.mem_append_left _ z)) (fun z => hpn (List.mem_append_right _ z)) hp ob)
    · rcases List.mem_append.mp hq with hq | hq
      · exact .inl (List.mem_map.mpr ⟨q, hq, rfl⟩)
      · rw [List.mem_singleton.mp hq]
        exact .inr hn
    · rcases List.mem_append.mp hq with hq | hq
      · exact hq
      · have := List.mem_singleton.mp hq
        cases this
        rw [List.contains_iff_mem.mpr hm] at hmu
        cases hmu
  · exact absurd h' (fun q => q)
theorem sem_set {K : PySem.W.Frag} {te : TE} {f : XE} {i : Nat} (h : Sem K tc ow te f) (hw : ow.contains i = false) : SemS K mu fr owl ow ow (tAsg te (gName i)) (setS i f) := fun own Z ρ σ H E ho R h' => by
  obtain ⟨d, ρ1, e1, h'⟩ := xe_cases (P := After K mu fr owl ow own Z H E) h' (fun q => q)
  exact h own Z ρ σ H d ρ1 _ ho R e1 fun v H1 R1 g1 d1 => h' own _ H1 ho (Step.of g1.all) (R1.set (notin_of ho hw) d1)
theorem SemF.sem {K : PySem.W.Frag} {te : TE} {f : XE} (h2 : SemF K tc ow te f) : Sem K tc ow te f := fun own Z ρ σ H d ρ' Q ho R hf hq => h2 own Z ρ σ H d ρ' Q ho R hf fun p o H' R' g hn hp ob => by
  have hp2 : hid (adr own ++ Z) H' p = some o := hid_some.mpr ⟨R.new_nin hn, hp⟩
  have x : Ext (hid (adr own ++ p :: Z) H') (hid (adr own ++ Z) H') := hid_sub fun a h => mem_mid.mpr (List.mem_cons_of_mem _ h)
  exact hq _ _ R'.unhide g ((ob.ext x).dat hp2)
/-- y = [.. for ..] -/
theorem rs_setLc {y : Str} {py : Pos} {elt tg iter : Expr} {ifs : List Expr} {scope : Scope} {ownL : List (Str × Nat)} {pos spos : Pos} {ts : List Nat} {fi : XI} {fg : XG} {ft : XT} {fe : XE} (F : Fam X C N k) (j : Nat) (hy : N[j]? = some y) (hyl : ∀ i, (X i).env.scope.names.lookup y = some .local) (hw : ow.contains j = false)
    (hsw : ∀ i, swapsWith (.ListComp elt [⟨tg, iter, ifs, 0⟩] scope pos) (some (.Name y py)) spos.line (X i).env = pure true) (hi : RI X C tc ow tg iter fi) (ok : ∀ i, BlkOk N (X i).env.scope scope ownL)
    (hg : RG (blkF X scope) C ow ts tg fg) (ht : RQ (blkF X scope) C tc ow ifs ft) (he : RE (blkF X scope) C tc ow elt fe) (hs : ∀ i x, foldedSetIterable iter (X i).env x = pure x) (hts : ts.all (fun t => (ownL.map (·.2)).contains t) = true) (hv : (ownL.map (·.2)).all (fun v => !ow.contains v) = true) :
    RS X C mu fr owl ow ow (.Assign [.Name y py] (.ListComp elt [⟨tg, iter, ifs, 0⟩] scope pos) spos) (setS j (compE fi (ownL.map (·.2)) fg ft fe)) := by
  obtain ⟨wi, i1, i2⟩ := hi.ex
  obtain ⟨g, g1, g2⟩ := hg.ex
  obtain ⟨tt, t1, t2⟩ := ht.ex
  obtain ⟨te, e1, e2⟩ := he.ex
  refine ⟨_, fun i => ps_setLc (own := ownL) (F.calm i) (by rw [F.nm i]; exact F.nd) (by rw [F.nm i]; exact hy) (hyl i) (hsw i) (i1 i) (by rw [F.nm i]; exact ok i) (fun s H C' cl fp => g1 (i, s, H, C', cl, fp)) (fun s H C' cl fp => t1 (i, s, H, C', cl, fp)) (fun s H C' cl fp => e1 (i, s, H, C', cl, fp)) (hs i), ?_⟩
  exact sem_set (sem_lc i2 g2 t2 e2 (fun t h => List.contains_iff_mem.mp (List.all_eq_true.mp hts t h)) hv).sem hw
theorem rs_ownLc {y : Str} {py : Pos} {elt tg iter : Expr} {ifs : List Expr} {scope : Scope} {ownL : List (Str × Nat)} {pos spos : Pos} {ts : List Nat} {fi : XI} {fg : XG} {ft : XT} {fe : XE} (F : Fam X C N k) (j : Nat) (hy : N[j]? = some y) (hyl : ∀ i, (X i).env.scope.names.lookup y = some .local) (hw : ow.contains j = false) (hmu : mu.contains j = false)
    (hsw : ∀ i, swapsWith (.ListComp elt [⟨tg, iter, ifs, 0⟩] scope pos) (some (.Name y py)) spos.line (X i).env = pure true) (hi : RI X C tc ow tg iter fi) (ok : ∀ i, BlkOk N (X i).env.scope scope ownL)
    (hg : RG (blkF X scope) C ow ts tg fg) (ht : RQ (blkF X scope) C tc ow ifs ft) (he : RE (blkF X scope) C tc ow elt fe) (hs : ∀ i x, foldedSetIterable iter (X i).env x = pure x) (hts : ts.all (fun t => (ownL.map (·.2)).contains t) = true) (hv : (ownL.map (·.2)).all (fun v => !ow.contains v) = true) :
    RS X C mu fr owl ow (ow ++ [j]) (.Assign [.Name y py] (.ListComp elt [⟨tg, iter, ifs, 0⟩] scope pos) spos) (ownS j (compE fi (ownL.map (·.2)) fg ft fe)) := by
  obtain ⟨wi, i1, i2⟩ := hi.ex
  obtain ⟨g, g1, g2⟩ := hg.ex
  obtain ⟨tt, t1, t2⟩ := ht.ex
  obtain ⟨te, e1, e2⟩ := he.ex
  refine ⟨_, fun i => ps_setLc (own := ownL) (F.calm i) (by rw [F.nm i]; exact F.nd) (by rw [F.nm i]; exact hy) (hyl i) (hsw i) (i1 i) (by rw [F.nm i]; exact ok i) (fun s H C' cl fp => g1 (i, s, H, C', cl, fp)) (fun s H C' cl fp => t1 (i, s, H, C', cl, fp)) (fun s H C' cl fp => e1 (i, s, H, C', cl, fp)) (hs i), ?_⟩
  exact sem_own (sem_lc i2 g2 t2 e2 (fun t h => List.contains_iff_mem.mp (List.all_eq_true.mp hts t h)) hv) hw hmu
end
end Lay

namespace Lay
open PySem PySem.Spec PyProof.Rows L2

/-! ## operators by data -/
section
variable {K : PySem.W.Frag} {Z : List Addr} {H H' : Hp}
theorem hidX (Z : List Addr) (H : Hp) : Ext (hid Z H) H := fun a o q => (hid_some.mp q).2
theorem Ext.hid' {Z : List Addr} (e : Ext H H') : Ext (hid Z H) (hid Z H') := fun a o q => hid_some.mpr ⟨(hid_some.mp q).1, e a o (hid_some.mp q).2⟩
theorem zok_nin (zo : Zok Z H) {p : Addr} (h : H p = none) : p ∉ Z := fun q => by
  obtain ⟨o, e⟩ := zo p q; rw [h] at e; cases e
mutual
/-- as the library's deep == reads data -/
theorem Dat.dp : ∀ (d : D) (v : V), SeqAt.shaped d = true ∨ d.canLay0 = true → Dat K (hid Z H) d v → Dp K H v d
  | .none, _, _, h => by cases h; exact .non
  | .bool b, _, _, h => by cases h; exact .bl b
  | .int i, _, _, h => by cases h; exact .int i
  | .str x, _, _, h => by cases h; exact .str x
  | .list ds, _, s, h => by
    cases h with
    | lst h z r => exact .lst (SqL.ext (hidX Z H) h) (Dats.dp ds _ (by rcases s with s | s; exact SeqAt.canLay_of_shaped s; exact s) r)
  | .tuple ds, _, s, h => by
    cases h with
    | tup h z r => exact .tup (h.mono (hidX Z H)).sq (Dats.dp ds _ (by rcases s with s | s; exact SeqAt.canLay_of_shaped s; exact s) r)
  | .dict kvs, _, s, _ => by rcases s with s | s; exact absurd (SeqAt.canLay_of_shaped s) Bool.false_ne_true; exact absurd s Bool.false_ne_true
theorem Dats.dp : ∀ (ds : List D) (vs : List V), PyData.canLayAll0 ds = true → Dats K (hid Z H) ds vs → DpAll K H vs ds
  | [], _, _, h => by cases h; exact .nil
  | d :: ds, _, s, h => by
    cases h with
    | cons h r =>
      have s' : (d.canLay0 && PyData.canLayAll0 ds) = true := s
      rw [Bool.and_eq_true] at s'
      exact .cons (Dat.dp d _ (.inr s'.1) h) (Dats.dp ds _ s'.2 r)
end
end
section
variable {K : PySem.W.Frag}
/-- two ints -/
def iiD (P : Int → Int → Bool) (g : Int → Int → D) : D → D → Option D
  | .int a, .int b => if P a b = true then some (g a b) else none
  | _, _ => none
theorem opS_I {C : Int → Int → Prop} {g : Int → Int → V} {P : Int → Int → Bool} {g' : Int → Int → D} (hC : ∀ i j, P i j = true → C i j) (hg : ∀ K H i j, Dat K H (g' i j) (g i j)) : OpS K (rI C g) (iiD P g') := fun Z H x y dx dy z Q zo hx hy hz hq => by
  unfold iiD at hz
  split at hz
  · cases hx
    cases hy
    split at hz
    · rename_i hp
      simp only [Option.some.injEq] at hz
      subst hz
      exact ⟨_, _, rfl, rfl, hC _ _ hp, hq _ H (Ext.refl H) (hg _ _ _ _)⟩
    · cases hz
  · cases hz
def ii0 (g : Int → Int → D) : D → D → Option D
  | .int a, .int b => some (g a b)
  | _, _ => none
theorem opS_I0 {g : Int → Int → V} {g' : Int → Int → D} (hg : ∀ K H i j, Dat K H (g' i j) (g i j)) : OpS K (rI0 g) (ii0 g') := fun Z H x y dx dy z Q zo hx hy hz hq => by
  unfold ii0 at hz
  split at hz
  · cases hx
    cases hy
    simp only [Option.some.injEq] at hz
    subst hz
    exact ⟨_, _, rfl, rfl, hq _ H (Ext.refl H) (hg _ _ _ _)⟩
  · cases hz
def subD : D → D → Option D := ii0 fun a b => .int (a - b)
theorem os_sub : OpS K (rI0 fun i j => .int (i - j)) subD := opS_I0 fun _ _ _ _ => .int _
def mulD : D → D → Option D := iiD (fun i j => decide (i.natAbs.log2 + j.natAbs.log2 < 1000000)) fun a b => .int (a * b)
theorem os_mul : OpS K (rI CMulW fun i j => .int (i * j)) mulD := opS_I (fun i j h => by have h := of_decide_eq_true h; exact h) fun _ _ _ _ => .int _
/-- // by any divisor below 2 ^ 9000 in size -/
def CDivD (_ j : Int) : Prop := j ≠ 0 ∧ j.natAbs.log2 < 9000
theorem op_fdivD {X : Cx} : OpR X (binaryOp .FloorDiv) (rI CDivD fun i j => .int (i.fdiv j)) := opI fun _ _ _ _ _ _ _ hc q => floordiv_int hc.1 q (.inl (PyProof.noPylong_of_log2 hc.2))
def fdivD : D → D → Option D := iiD (fun _ j => decide (j ≠ 0) && decide (j.natAbs.log2 < 9000)) fun a b => .int (a.fdiv b)
theorem os_fdiv : OpS K (rI CDivD fun i j => .int (i.fdiv j)) fdivD := opS_I (fun i j h => by simp only [Bool.and_eq_true, decide_eq_true_eq] at h; exact h) fun _ _ _ _ => .int _
def modD : D → D → Option D := iiD (fun _ j => decide (j ≠ 0)) fun a b => .int (a.fmod b)
theorem os_mod : OpS K (rI (fun _ j => j ≠ 0) fun i j => .int (i.fmod j)) modD := opS_I (fun i j h => of_decide_eq_true h) fun _ _ _ _ => .int _
def powD : D → D → Option D := iiD (fun i j => decide (0 ≤ j ∧ j ≤ 1000000 ∧ i.natAbs < 2 ^ 64)) fun a b => .int (a ^ b.toNat)
theorem os_pow : OpS K (rI CPow fun i j => .int (i ^ j.toNat)) powD := opS_I (fun i j h => by have h := of_decide_eq_true h; exact h) fun _ _ _ _ => .int _
/-! + of ints, texts, lists, tuples -/
/-- list + list, whatever holds them -/
def rCatS (K : PySem.W.Frag) : R2 := fun x y H Q => ∃ l b xs zs, x = .ref l ∧ y = .ref b ∧ SqL K H l xs ∧ SqL K H b zs ∧ xs.length + zs.length ≤ sizeLine ∧ ∀ p, H p = none → Q (.ref p) (upd H p (.lst (xs ++ zs)))
theorem op_catS {X : Cx} : OpR X (binaryOp .Add) (rCatS X.K) := by
  intro pins s σ H x y v u Q I rx ry h
  obtain ⟨l, b, xs, zs, rfl, rfl, hH, hB, hz, q⟩ := h
  cases rx
  cases ry
  obtain ⟨its, r, ⟨⟨cls, dd, data, sl⟩, n, ho, hc, hd0, hd⟩, z⟩ := I.list hH
  obtain ⟨its2, r2, ⟨⟨cls2, dd2, data2, sl2⟩, n2, ho2, hc2, hd02, hd2⟩, z2⟩ := I.list hB
  simp only at hc hd hc2 hd2
  subst hc hd hc2 hd2
  have e : its.toArray ++ its2.toArray = (its ++ its2).toArray := by simp
  have hsz : its.toArray.size + its2.toArray.size ≤ sizeLine := by
    have := r.length
    have := r2.length
    simp only [List.size_toArray]
    omega
  refine concat_meets ⟨_, ho, rfl⟩ ⟨_, ho2, rfl⟩ noFill_list_add seq_list_add PySem.F.slot_list_add PySem.F.entry_list_add (PySem.F.args_list_add_2 _ _) (list_addW l b its.toArray its2.toArray n n2 dd dd2 sl sl2 hsz) ⟨ho, ho2, ?_⟩
  rw [e]
  exact ⟨.ref _, _, I.lnew (t' := s.toks) (r.append r2) (by rw [List.length_append]; omega), rfl, q _ I.fresh⟩
def rAddD (K : PySem.W.Frag) : R2 := fun x y H Q => rI0 (fun i j => .int (i + j)) x y H Q ∨ (fun x y H Q => ∃ i j, x = .str i ∧ y = .str j ∧ i.length + j.length ≤ sizeLine ∧ Q (.str (i ++ j)) H) x y H Q ∨ rCatS K x y H Q ∨ rCatA K x y H Q
theorem op_addD {X : Cx} : OpR X (binaryOp .Add) (rAddD X.K) := op_add.or (op_add_str.or (op_catS.or op_catA))
def addD : D → D → Option D
  | .int a, .int b => some (.int (a + b))
  | .str a, .str b => if a.length + b.length ≤ sizeLine then some (.str (a ++ b)) else none
  | .list a, .list b => if a.length + b.length ≤ sizeLine then some (.list (a ++ b)) else none
  | .tuple a, .tuple b => if a.length + b.length ≤ sizeLine then some (.tuple (a ++ b)) else none
  | _, _ => none
theorem os_add : OpS K (rAddD K) addD := fun Z H x y dx dy z Q zo hx hy hz hq => by
  unfold addD at hz
  split at hz
  · cases hx
    cases hy
    simp only [Option.some.injEq] at hz
    subst hz
    exact .inl ⟨_, _, rfl, rfl, hq _ H (Ext.refl H) (.int _)⟩
  · cases hx
    cases hy
    split at hz
    · simp only [Option.some.injEq] at hz
      subst hz
      exact .inr (.inl ⟨_, _, rfl, rfl, ‹_›, hq _ H (Ext.refl H) (.str _)⟩)
    · cases hz
  · cases hx with
    | lst h1 z1 r1 =>
      cases hy with
      | lst h2 z2 r2 =>
        split at hz
        · rename_i hl
          simp only [Option.some.injEq] at hz
          subst hz
          rw [r1.len, r2.len] at hl
          refine .inr (.inr (.inl ⟨_, _, _, _, rfl, rfl, SqL.ext (hidX Z H) h1, SqL.ext (hidX Z H) h2, hl, fun p hp => ?_⟩))
          exact hq _ _ (Ext.new hp) (.lst (SqL.of (hid_upd (zok_nin zo hp))) (by rw [List.length_append]; exact hl) ((r1.ext (Ext.new hp).hid').app (r2.ext (Ext.new hp).hid')))
        · cases hz
  · cases hx with
    | tup h1 z1 r1 =>
      cases hy with
      | tup h2 z2 r2 =>
        split at hz
        · rename_i hl
          simp only [Option.some.injEq] at hz
          subst hz
          rw [r1.len, r2.len] at hl
          refine .inr (.inr (.inr ⟨_, _, _, _, rfl, rfl, (h1.mono (hidX Z H)).sq, (h2.mono (hidX Z H)).sq, hl, fun e => ?_, fun _ e => ?_, fun _ _ p hp => ?_⟩))
          · subst e
            cases r1
            exact hq _ H (Ext.refl H) (.tup h2 z2 r2)
          · subst e
            cases r2
            rw [List.append_nil] at hq
            exact hq _ H (Ext.refl H) (.tup h1 z1 r1)
          · exact hq _ _ (Ext.new hp) (.tup (.inl (hid_upd (zok_nin zo hp))) (by rw [List.length_append]; exact hl) ((r1.ext (Ext.new hp).hid').app (r2.ext (Ext.new hp).hid')))
        · cases hz
  · cases hz
/-! < and its like: ints, texts -/
def rLtD : R2 := fun x y H Q => rI0 (fun i j => .bl (decide (i < j))) x y H Q ∨ (fun x y H Q => ∃ i j, x = .str i ∧ y = .str j ∧ Q (.bl (decide (i.cps.toList < j.cps.toList))) H) x y H Q
theorem op_ltD {X : Cx} : OpR X (compareOp .Lt) rLtD := op_lt.or op_lt_str
def ltD : D → D → Option D
  | .int a, .int b => some (.bool (decide (a < b)))
  | .str a, .str b => some (.bool (decide (a.cps.toList < b.cps.toList)))
  | _, _ => none
theorem os_lt : OpS K rLtD ltD := fun Z H x y dx dy z Q zo hx hy hz hq => by
  unfold ltD at hz
  split at hz
  · cases hx; cases hy
    simp only [Option.some.injEq] at hz
    subst hz
    exact .inl ⟨_, _, rfl, rfl, hq _ H (Ext.refl H) (.bl _)⟩
  · cases hx; cases hy
    simp only [Option.some.injEq] at hz
    subst hz
    exact .inr ⟨_, _, rfl, rfl, hq _ H (Ext.refl H) (.bl _)⟩
  · cases hz
def leI : D → D → Option D := ii0 fun a b => .bool (decide (a ≤ b))
def gtI : D → D → Option D := ii0 fun a b => .bool (decide (b < a))
def geI : D → D → Option D := ii0 fun a b => .bool (decide (b ≤ a))
theorem os_le : OpS K (rI0 fun i j => .bl (decide (i ≤ j))) leI := opS_I0 fun _ _ _ _ => .bl _
theorem os_gt : OpS K (rI0 fun i j => .bl (decide (j < i))) gtI := opS_I0 fun _ _ _ _ => .bl _
theorem os_ge : OpS K (rI0 fun i j => .bl (decide (j ≤ i))) geI := opS_I0 fun _ _ _ _ => .bl _
/-! ==, != of data -/
def isSc : D → Bool
  | .none | .bool _ | .int _ | .str _ => true
  | _ => false
def rEqA (K : PySem.W.Frag) : R2 := fun x y H Q => rEq x y H Q ∨ rEqD K x y H Q
def rNeA (K : PySem.W.Frag) : R2 := fun x y H Q => rNe x y H Q ∨ rNeD K x y H Q
theorem op_eqA {X : Cx} (hu : X.A.units + 64 < cLine) : OpR X (compareOp .Eq) (rEqA X.K) := op_eq.or (op_eqD hu)
theorem op_neA {X : Cx} (hu : X.A.units + 64 < cLine) : OpR X (compareOp .NotEq) (rNeA X.K) := op_ne.or (op_neD hu)
/-- equality as Python has it, of texts and data of bounded depth -/
def eqB : D → D → Option Bool
  | .str a, .str b => some (a == b)
  | x, y => if SeqAt.shaped x = true ∧ SeqAt.shaped y = true then some (PyData.eqv x y) else none
def eqD : D → D → Option D := fun x y => (eqB x y).map .bool
def neD : D → D → Option D := fun x y => (eqB x y).map fun b => .bool (!b)
theorem os_eq : OpS K (rEqA K) eqD := fun Z H x y dx dy z Q zo hx hy hz hq => by
  unfold eqD eqB at hz
  split at hz
  · cases hx; cases hy
    simp only [Option.map_some, Option.some.injEq] at hz
    subst hz
    refine .inl ⟨rfl, ?_⟩
    rw [dec_str]
    exact hq _ H (Ext.refl H) (.bl _)
  · split at hz
    · rename_i hs
      simp only [Option.map_some, Option.some.injEq] at hz
      subst hz
      exact .inr ⟨_, _, Dat.dp _ _ (.inl hs.1) hx, Dat.dp _ _ (.inl hs.2) hy, hs.1, hs.2, hq _ H (Ext.refl H) (.bl _)⟩
    · cases hz
theorem os_ne : OpS K (rNeA K) neD := fun Z H x y dx dy z Q zo hx hy hz hq => by
  unfold neD eqB at hz
  split at hz
  · cases hx; cases hy
    simp only [Option.map_some, Option.some.injEq] at hz
    subst hz
    refine .inl ⟨rfl, ?_⟩
    rw [dec_str]
    exact hq _ H (Ext.refl H) (.bl _)
  · split at hz
    · rename_i hs
      simp only [Option.map_some, Option.some.injEq] at hz
      subst hz
      exact .inr ⟨_, _, Dat.dp _ _ (.inl hs.1) hx, Dat.dp _ _ (.inl hs.2) hy, hs.1, hs.2, hq _ H (Ext.refl H) (.bl _)⟩
    · cases hz
/-! is None -/
def isNonB : D → Bool
  | .none => true
  | _ => false
theorem non_dec {H : Hp} {d : D} {v : V} (h : Dat K H d v) : decide (v = .non) = isNonB d := by
  cases h <;> rfl
def isND : D → D → Option D
  | x, .none => some (.bool (isNonB x))
  | _, _ => none
def notND : D → D → Option D
  | x, .none => some (.bool (!isNonB x))
  | _, _ => none
theorem os_isN : OpS K (fun x y H Q => y = .non ∧ Q (.bl (decide (x = .non))) H) isND := fun Z H x y dx dy z Q zo hx hy hz hq => by
  unfold isND at hz
  split at hz
  · cases hy
    simp only [Option.some.injEq] at hz
    subst hz
    refine ⟨rfl, ?_⟩
    rw [non_dec hx]
    exact hq _ H (Ext.refl H) (.bl _)
  · cases hz
theorem os_notN : OpS K (fun x y H Q => y = .non ∧ Q (.bl (!decide (x = .non))) H) notND := fun Z H x y dx dy z Q zo hx hy hz hq => by
  unfold notND at hz
  split at hz
  · cases hy
    simp only [Option.some.injEq] at hz
    subst hz
    refine ⟨rfl, ?_⟩
    rw [non_dec hx]
    exact hq _ H (Ext.refl H) (.bl _)
  · cases hz
/-! in, not in: of lists, of texts -/
def rInA (K : PySem.W.Frag) : R2 := fun x y H Q => rInD K x y H Q ∨ (fun x y H Q => ∃ i j, x = .str i ∧ y = .str j ∧ Q (.bl (!(Builtin.Str.occurrences j i 0 j.length 1).isEmpty)) H) x y H Q
def rNotInA (K : PySem.W.Frag) : R2 := fun x y H Q => rNotInD K x y H Q ∨ (fun x y H Q => ∃ i j, x = .str i ∧ y = .str j ∧ Q (.bl (!(!(Builtin.Str.occurrences j i 0 j.length 1).isEmpty))) H) x y H Q
theorem op_inA {X : Cx} (hu : X.A.units + 65 < cLine) : OpR X (compareOp .In) (rInA X.K) := (op_inD hu).or op_in_str
theorem op_notInA {X : Cx} (hu : X.A.units + 65 < cLine) : OpR X (compareOp .NotIn) (rNotInA X.K) := (op_notInD hu).or op_notIn_str
def inB : D → D → Option Bool
  | x, .list ds => if SeqAt.shaped x = true ∧ SeqAt.shaped (.list ds) = true then some (ds.any fun z => PyData.eqv z x) else none
  | .str a, .str b => some (!(Builtin.Str.occurrences b a 0 b.length 1).isEmpty)
  | _, _ => none
def inD : D → D → Option D := fun x y => (inB x y).map .bool
def notInD : D → D → Option D := fun x y => (inB x y).map fun b => .bool (!b)
theorem os_in : OpS K (rInA K) inD := fun Z H x y dx dy z Q zo hx hy hz hq => by
  unfold inD inB at hz
  split at hz
  · split at hz
    · rename_i hs
      simp only [Option.map_some, Option.some.injEq] at hz
      subst hz
      exact .inl ⟨_, _, Dat.dp _ _ (.inl hs.1) hx, Dat.dp _ _ (.inl hs.2) hy, hs.1, hs.2, hq _ H (Ext.refl H) (.bl _)⟩
    · cases hz
  · cases hx; cases hy
    simp only [Option.map_some, Option.some.injEq] at hz
    subst hz
    exact .inr ⟨_, _, rfl, rfl, hq _ H (Ext.refl H) (.bl _)⟩
  · cases hz
theorem os_notIn : OpS K (rNotInA K) notInD := fun Z H x y dx dy z Q zo hx hy hz hq => by
  unfold notInD inB at hz
  split at hz
  · split at hz
    · rename_i hs
      simp only [Option.map_some, Option.some.injEq] at hz
      subst hz
      exact .inl ⟨_, _, Dat.dp _ _ (.inl hs.1) hx, Dat.dp _ _ (.inl hs.2) hy, hs.1, hs.2, hq _ H (Ext.refl H) (.bl _)⟩
    · cases hz
  · cases hx; cases hy
    simp only [Option.map_some, Option.some.injEq] at hz
    subst hz
    exact .inr ⟨_, _, rfl, rfl, hq _ H (Ext.refl H) (.bl _)⟩
  · cases hz
/-! an item -/
def ixD : D → D → Option D
  | .list ds, .int i => atI ds i
  | .tuple ds, .int i => atI ds i
  | .str z, .int i => if z.length ≤ sizeLine then (atI z.cps.toList i).map fun c => .str ⟨#[c]⟩ else none
  | _, _ => none
theorem Dats.atI {H : Hp} {ds : List D} {vs : List V} {i : Int} {d : D} (h : Dats K H ds vs) (e : L2.atI ds i = some d) : ∃ v, L2.atI vs i = some v ∧ Dat K H d v := by
  unfold L2.atI at e ⊢
  rw [← h.len]
  cases q : ixN ds.length i with
  | none => rw [q] at e; cases e
  | some j => rw [q] at e; exact h.get e
theorem os_ix : OpS K (rIx K) ixD := fun Z H x y dx dy z Q zo hx hy hz hq => by
  unfold ixD at hz
  split at hz
  · cases hx with
    | lst h1 z1 r1 =>
      cases hy
      obtain ⟨v, h2, h3⟩ := r1.atI hz
      exact .inl ⟨_, _, _, v, rfl, rfl, SqL.ext (hidX Z H) h1, h2, hq _ H (Ext.refl H) h3⟩
  · cases hx with
    | tup h1 z1 r1 =>
      cases hy
      obtain ⟨v, h2, h3⟩ := r1.atI hz
      exact .inr (.inl ⟨_, _, _, v, rfl, rfl, (h1.mono (hidX Z H)).sq, h2, hq _ H (Ext.refl H) h3⟩)
  · cases hx; cases hy
    split at hz
    · rename_i hl
      cases e : L2.atI _ _ with
      | none => rw [e] at hz; cases hz
      | some c =>
        rw [e] at hz
        simp only [Option.map_some, Option.some.injEq] at hz
        subst hz
        exact .inr (.inr ⟨_, _, c, rfl, rfl, hl, e, hq _ H (Ext.refl H) (.str _)⟩)
    · cases hz
  · cases hz
/-! one-place -/
def negD : D → Option D
  | .int i => some (.int (-i))
  | _ => none
theorem us_neg : UnS K (rU fun i => .int (-i)) negD := fun Z H x dx z Q zo hx hz hq => by
  unfold negD at hz
  split at hz
  · cases hx
    simp only [Option.some.injEq] at hz
    subst hz
    exact ⟨_, rfl, hq _ H (Ext.refl H) (.int _)⟩
  · cases hz
end
section
variable {ι : Type} {X : ι → Cx} {C : Ct} {tc ow : List Nat} {N : List Str} {k : Nat} {a b : Expr} {fa fb : XE} {pos : Pos}
theorem re_add (F : Fam X C N k) (ha : RE X C tc ow a fa) (hb : RE X C tc ow b fb) : RE X C tc ow (.BinOp a .Add b pos) (opE addD fa fb) := re_op (fun i => by rw [← F.K i]; exact op_addD) os_add ha hb
theorem re_sub (ha : RE X C tc ow a fa) (hb : RE X C tc ow b fb) : RE X C tc ow (.BinOp a .Sub b pos) (opE subD fa fb) := re_op (fun i => op_sub) os_sub ha hb
theorem re_mul (ha : RE X C tc ow a fa) (hb : RE X C tc ow b fb) : RE X C tc ow (.BinOp a .Mult b pos) (opE mulD fa fb) := re_op (fun i => op_mulW) os_mul ha hb
theorem re_fdiv (ha : RE X C tc ow a fa) (hb : RE X C tc ow b fb) : RE X C tc ow (.BinOp a .FloorDiv b pos) (opE fdivD fa fb) := re_op (fun i => op_fdivD) os_fdiv ha hb
theorem re_mod (ha : RE X C tc ow a fa) (hb : RE X C tc ow b fb) : RE X C tc ow (.BinOp a .Mod b pos) (opE modD fa fb) := re_op (fun i => op_modN) os_mod ha hb
theorem re_pow (ha : RE X C tc ow a fa) (hb : RE X C tc ow b fb) : RE X C tc ow (.BinOp a .Pow b pos) (opE powD fa fb) := re_op (fun i => op_pow) os_pow ha hb
theorem re_neg (ha : RE X C tc ow a fa) : RE X C tc ow (.UnaryOp .USub a pos) (unE negD fa) := by
  obtain ⟨t, a1, a2⟩ := ha.ex
  refine ⟨_, fun i => pe_un un_neg (a1 i), fun own Z ρ σ H d ρ' Q ho R hf hq => ?_⟩
  unfold unE at hf
  cases e1 : fa ρ with
  | none => rw [e1] at hf; cases hf
  | some p =>
    obtain ⟨x, ρ1⟩ := p
    rw [e1] at hf
    simp only [Option.bind_some] at hf
    cases e2 : negD x with
    | none => rw [e2] at hf; cases hf
    | some z =>
      rw [e2] at hf
      simp only [Option.map_some, Option.some.injEq, Prod.mk.injEq] at hf
      obtain ⟨rfl, rfl⟩ := hf
      exact a2 own Z ρ σ H x _ _ ho R e1 fun v H1 R1 g1 d1 => us_neg _ H1 v x _ Q R1.zok d1 e2 fun v H2 e d2 => hq v H2 (R1.ext e) (g1.trans (Grt.of e)) d2
theorem re_lt (ha : RE X C tc ow a fa) (hb : RE X C tc ow b fb) : RE X C tc ow (.Compare a [.Lt] [b] pos) (opE ltD fa fb) := re_cmp (fun i => op_ltD) os_lt (nomark _) ha hb
theorem re_le (ha : RE X C tc ow a fa) (hb : RE X C tc ow b fb) : RE X C tc ow (.Compare a [.LtE] [b] pos) (opE leI fa fb) := re_cmp (fun i => op_le) os_le (nomark _) ha hb
theorem re_gt (ha : RE X C tc ow a fa) (hb : RE X C tc ow b fb) : RE X C tc ow (.Compare a [.Gt] [b] pos) (opE gtI fa fb) := re_cmp (fun i => op_gt) os_gt (nomark _) ha hb
theorem re_ge (ha : RE X C tc ow a fa) (hb : RE X C tc ow b fb) : RE X C tc ow (.Compare a [.GtE] [b] pos) (opE geI fa fb) := re_cmp (fun i => op_ge) os_ge (nomark _) ha hb
theorem re_eq (F : Fam X C N k) (ha : RE X C tc ow a fa) (hb : RE X C tc ow b fb) : RE X C tc ow (.Compare a [.Eq] [b] pos) (opE eqD fa fb) := re_cmp (fun i => by rw [← F.K i]; exact op_eqA (F.room i).units) os_eq (nomark _) ha hb
theorem re_ne (F : Fam X C N k) (ha : RE X C tc ow a fa) (hb : RE X C tc ow b fb) : RE X C tc ow (.Compare a [.NotEq] [b] pos) (opE neD fa fb) := re_cmp (fun i => by rw [← F.K i]; exact op_neA (F.room i).units) os_ne (nomark _) ha hb
theorem re_isN (ha : RE X C tc ow a fa) (hb : RE X C tc ow b fb) : RE X C tc ow (.Compare a [.Is] [b] pos) (opE isND fa fb) := re_cmp (fun i => op_isN) os_isN (nomark _) ha hb
theorem re_notN (ha : RE X C tc ow a fa) (hb : RE X C tc ow b fb) : RE X C tc ow (.Compare a [.IsNot] [b] pos) (opE notND fa fb) := re_cmp (fun i => op_notN) os_notN (nomark _) ha hb
theorem re_in (F : Fam X C N k) (ha : RE X C tc ow a fa) (hb : RE X C tc ow b fb) (hm : behindInMarks .In b = false) : RE X C tc ow (.Compare a [.In] [b] pos) (opE inD fa fb) := re_cmp (fun i => by rw [← F.K i]; exact op_inA (by have := (F.room i).un; omega)) os_in hm ha hb
theorem re_notIn (F : Fam X C N k) (ha : RE X C tc ow a fa) (hb : RE X C tc ow b fb) (hm : behindInMarks .NotIn b = false) : RE X C tc ow (.Compare a [.NotIn] [b] pos) (opE notInD fa fb) := re_cmp (fun i => by rw [← F.K i]; exact op_notInA (by have := (F.room i).un; omega)) os_notIn hm ha hb
/-- a comparison as a test -/
theorem rt_of {op : CmpOp} {g : D → D → Option D} (h : ∀ {ι' : Type} {X' : ι' → Cx}, True) (ha : RE X C tc ow (.Compare a [op] [b] pos) (opE g fa fb)) (hp : ∀ i te, PE (X i) (.Compare a [op] [b] pos) te → PT (X i) (.Compare a [op] [b] pos) (tTest te)) : RT X C tc ow (.Compare a [op] [b] pos) (tE (opE g fa fb)) := by
  obtain ⟨t, a1, a2⟩ := ha.ex
  exact ⟨_, fun i => hp i t (a1 i), sem_test a2⟩
theorem rt_lt (ha : RE X C tc ow a fa) (hb : RE X C tc ow b fb) : RT X C tc ow (.Compare a [.Lt] [b] pos) (tE (opE ltD fa fb)) := rt_cmp (fun i => op_ltD) os_lt (nomark _) ha hb
theorem rt_le (ha : RE X C tc ow a fa) (hb : RE X C tc ow b fb) : RT X C tc ow (.Compare a [.LtE] [b] pos) (tE (opE leI fa fb)) := rt_cmp (fun i => op_le) os_le (nomark _) ha hb
theorem rt_gt (ha : RE X C tc ow a fa) (hb : RE X C tc ow b fb) : RT X C tc ow (.Compare a [.Gt] [b] pos) (tE (opE gtI fa fb)) := rt_cmp (fun i => op_gt) os_gt (nomark _) ha hb
theorem rt_ge (ha : RE X C tc ow a fa) (hb : RE X C tc ow b fb) : RT X C tc ow (.Compare a [.GtE] [b] pos) (tE (opE geI fa fb)) := rt_cmp (fun i => op_ge) os_ge (nomark _) ha hb
theorem rt_eq (F : Fam X C N k) (ha : RE X C tc ow a fa) (hb : RE X C tc ow b fb) : RT X C tc ow (.Compare a [.Eq] [b] pos) (tE (opE eqD fa fb)) := rt_cmp (fun i => by rw [← F.K i]; exact op_eqA (F.room i).units) os_eq (nomark _) ha hb
theorem rt_ne (F : Fam X C N k) (ha : RE X C tc ow a fa) (hb : RE X C tc ow b fb) : RT X C tc ow (.Compare a [.NotEq] [b] pos) (tE (opE neD fa fb)) := rt_cmp (fun i => by rw [← F.K i]; exact op_neA (F.room i).units) os_ne (nomark _) ha hb
theorem rt_isN (ha : RE X C tc ow a fa) (hb : RE X C tc ow b fb) : RT X C tc ow (.Compare a [.Is] [b] pos) (tE (opE isND fa fb)) := rt_cmp (fun i => op_isN) os_isN (nomark _) ha hb
theorem rt_notN (ha : RE X C tc ow a fa) (hb : RE X C tc ow b fb) : RT X C tc ow (.Compare a [.IsNot] [b] pos) (tE (opE notND fa fb)) := rt_cmp (fun i => op_notN) os_notN (nomark _) ha hb
theorem rt_in (F : Fam X C N k) (ha : RE X C tc ow a fa) (hb : RE X C tc ow b fb) (hm : behindInMarks .In b = false) : RT X C tc ow (.Compare a [.In] [b] pos) (tE (opE inD fa fb)) := rt_cmp (fun i => by rw [← F.K i]; exact op_inA (by have := (F.room i).un; omega)) os_in hm ha hb
theorem rt_notIn (F : Fam X C N k) (ha : RE X C tc ow a fa) (hb : RE X C tc ow b fb) (hm : behindInMarks .NotIn b = false) : RT X C tc ow (.Compare a [.NotIn] [b] pos) (tE (opE notInD fa fb)) := rt_cmp (fun i => by rw [← F.K i]; exact op_notInA (by have := (F.room i).un; omega)) os_notIn hm ha hb
theorem re_ix (F : Fam X C N k) (ha : RE X C tc ow a fa) (hb : RE X C tc ow b fb) (hs : PlainIx b) : RE X C tc ow (.Subscript a b pos) (opE ixD fa fb) := by
  obtain ⟨ta, a1, a2⟩ := ha.ex
  obtain ⟨tb, b1, b2⟩ := hb.ex
  exact ⟨_, fun i => pe_ix (by rw [← F.K i]; exact ix_seq) (a1 i) (b1 i) hs, sem_op os_ix a2 b2⟩
end
end Lay

namespace Lay
open PySem PySem.Spec PyProof.Rows L2

/-! ## reading what is owned: for a while it is data -/
mutual
/-- no list, no dict in it -/
def lfree : D → Bool
  | .none | .bool _ | .int _ | .str _ => true
  | .tuple ds => lfrees ds
  | .list _ => false
  | .dict _ => false
def lfrees : List D → Bool
  | [] => true
  | d :: ds => lfree d && lfrees ds
end
section
variable {K : PySem.W.Frag} {H H' : Hp}
mutual
theorem Dat.lf (t : ∀ a xs, TupAt K H a xs → TupAt K H' a xs) : ∀ (d : D) (v : V), lfree d = true → Dat K H d v → Dat K H' d v
  | .none, _, _, h => by cases h; exact .non
  | .bool b, _, _, h => by cases h; exact .bl b
  | .int i, _, _, h => by cases h; exact .int i
  | .str x, _, _, h => by cases h; exact .str x
  | .list ds, _, f, _ => by simp [lfree] at f
  | .dict ds, _, f, _ => by simp [lfree] at f
  | .tuple ds, _, f, h => by
    cases h with
    | tup h z r => exact .tup (t _ _ h) z (Dats.lf t ds _ (by simpa [lfree] using f) r)
theorem Dats.lf (t : ∀ a xs, TupAt K H a xs → TupAt K H' a xs) : ∀ (ds : List D) (vs : List V), lfrees ds = true → Dats K H ds vs → Dats K H' ds vs
  | [], _, _, h => by cases h; exact .nil
  | d :: ds, _, f, h => by
    cases h with
    | cons h r =>
      have f' : (lfree d && lfrees ds) = true := by simpa [lfrees] using f
      rw [Bool.and_eq_true] at f'
      exact .cons (Dat.lf t d _ f'.1 h) (Dats.lf t ds _ f'.2 r)
end
end
/-- data without lists stands whatever is hidden of lists and dicts -/
theorem Dat.unb {K : PySem.W.Frag} {H : Hp} {Z Z' : List Addr} (hz : ∀ a ∈ Z', a ∉ Z → ∀ xs, H a ≠ some (.tup xs)) {d : D} {v : V} (f : lfree d = true) (h : Dat K (hid Z H) d v) : Dat K (hid Z' H) d v :=
  Dat.lf (fun a xs t => t.elim (fun q => .inl (hid_some.mpr ⟨fun z => hz a z (hid_some.mp q).1 xs (hid_some.mp q).2, (hid_some.mp q).2⟩)) .inr) d v f h
theorem Dats.unb {K : PySem.W.Frag} {H : Hp} {Z Z' : List Addr} (hz : ∀ a ∈ Z', a ∉ Z → ∀ xs, H a ≠ some (.tup xs)) {d : List D} {v : List V} (f : lfrees d = true) (h : Dats K (hid Z H) d v) : Dats K (hid Z' H) d v :=
  Dats.lf (fun a xs t => t.elim (fun q => .inl (hid_some.mpr ⟨fun z => hz a z (hid_some.mp q).1 xs (hid_some.mp q).2, (hid_some.mp q).2⟩)) .inr) d v f h
open Classical in
noncomputable def borE (f : XE) : XE := fun ρ => match f ρ with
  | some (d, ρ') => if lfree d = true ∧ ρ' = ρ then some (d, ρ) else none
  | none => none
open Classical in
noncomputable def borT (f : XT) : XT := fun ρ => match f ρ with
  | some (b, ρ') => if ρ' = ρ then some (b, ρ) else none
  | none => none
open Classical in
noncomputable def borF (f : XE) : XE := fun ρ => match f ρ with
  | some (.list ds, ρ') => if lfrees ds = true ∧ ρ' = ρ then some (.list ds, ρ) else none
  | _ => none

section
variable {ι : Type} {X : ι → Cx} {C : Ct} {mu : List Nat} {fr : Bool} {tc owl ow ow1 ow2 : List Nat} {N : List Str} {k : Nat}
theorem Ob.notup {K : PySem.W.Frag} {H : Hp} {d : D} {o : HO} (h : Ob K H d o) : ∀ xs, o ≠ .tup xs := by cases h <;> (intro xs e; cases e)
theorem keep_notup {K : PySem.W.Frag} {own : Ow} {Z : List Addr} {ρ : En} {σ : L2.St} {H : Hp} (R : Rep K own Z ρ σ H) (ks : List Nat) : ∀ a ∈ adr own ++ Z, a ∉ adr (keepO ks own) ++ Z → ∀ xs, H a ≠ some (.tup xs) := fun a ha hn xs e => by
  rcases List.mem_append.mp ha with ha | ha
  · obtain ⟨⟨j, c⟩, hp, rfl⟩ := List.mem_map.mp ha
    obtain ⟨_, d, o, _, h3, h4⟩ := R.obj j c hp
    have h3 : H c = some o := h3
    have e : H c = some (.tup xs) := e
    rw [h3] at e
    cases e
    exact h4.notup xs rfl
  · exact hn (List.mem_append_right _ ha)
/-- e reads what is owned, as data; nothing is changed by it -/
theorem re_bor {e : Expr} {f : XE} (h : RE X C [] ow1 e f) (hw : ow1 = ow.filter fun i => ow1.contains i) : RE X C tc ow e (borE f) := by
  obtain ⟨t, a1, a2⟩ := h.ex
  refine ⟨t, a1, fun own Z ρ σ H d ρ' Q ho R hf hq => ?_⟩
  unfold borE at hf
  cases e1 : f ρ with
  | none => rw [e1] at hf; cases hf
  | some p =>
    obtain ⟨x, ρ1⟩ := p
    rw [e1] at hf
    simp only at hf
    split at hf
    · rename_i hl
      obtain ⟨hl, hr⟩ := hl
      subst hr
      simp only [Option.some.injEq, Prod.mk.injEq] at hf
      obtain ⟨rfl, rfl⟩ := hf
      refine a2 (keepO ow1 own) Z _ σ H _ _ _ (by rw [keepO_map, ho, ← hw]) (R.sub List.filter_sublist) e1 fun v H1 R1 g1 d1 => ?_
      have R2 := R.ext g1.ext
      exact hq v H1 R2 (Grt.of g1.ext) (d1.unb (keep_notup R2 ow1) hl)
    · cases hf
theorem rt_bor {e : Expr} {f : XT} (h : RT X C [] ow1 e f) (hw : ow1 = ow.filter fun i => ow1.contains i) : RT X C tc ow e (borT f) := by
  obtain ⟨t, a1, a2⟩ := h.ex
  refine ⟨t, a1, fun own Z ρ σ H d ρ' Q ho R hf hq => ?_⟩
  unfold borT at hf
  cases e1 : f ρ with
  | none => rw [e1] at hf; cases hf
  | some p =>
    obtain ⟨x, ρ1⟩ := p
    rw [e1] at hf
    simp only at hf
    split at hf
    · rename_i hr
      subst hr
      simp only [Option.some.injEq, Prod.mk.injEq] at hf
      obtain ⟨rfl, rfl⟩ := hf
      exact a2 (keepO ow1 own) Z _ σ H _ _ _ (by rw [keepO_map, ho, ← hw]) (R.sub List.filter_sublist) e1 fun H1 R1 g1 => hq H1 (R.ext g1.ext) (Grt.of g1.ext)
    · cases hf
theorem semF_bor {K : PySem.W.Frag} {t : TE} {f : XE} (a2 : SemF K [] ow1 t f) (hw : ow1 = ow.filter fun i => ow1.contains i) : SemF K tc ow t (borF f) := fun own Z ρ σ H d ρ' Q ho R hf hq => by
  unfold borF at hf
  split at hf
  · rename_i ds ρ1 e1
    split at hf
    · rename_i hl
      obtain ⟨hl, hr⟩ := hl
      subst hr
      simp only [Option.some.injEq, Prod.mk.injEq] at hf
      obtain ⟨rfl, rfl⟩ := hf
      refine a2 (keepO ow1 own) Z _ σ H _ _ _ (by rw [keepO_map, ho, ← hw]) (R.sub List.filter_sublist) e1 fun p o H1 R1 g1 hn hp ob => ?_
      have e := g1.ext
      have R2 := R.ext e
      refine hq p o H1 (R.hide hn (Gro.of e) (fun a ha => ?_) hp) (Grt.of e) hn hp ?_
      · obtain ⟨u, q⟩ := R.ain ha
        rw [q, e a u q]
      · cases ob with
        | lst z r =>
          refine .lst z (r.unb (fun a ha hnn xs q => ?_) hl)
          rcases List.mem_append.mp ha with ha | ha
          · exact keep_notup R2 ow1 a (List.mem_append_left _ ha) (fun z => hnn (by
              rcases List.mem_append.mp z with z | z
              · exact List.mem_append_left _ z
              · exact List.mem_append_right _ (List.mem_cons_of_mem _ z))) xs q
          · exact hnn (List.mem_append_right _ ha)
    · cases hf
  · cases hf
theorem rf_bor {e : Expr} {f : XE} (h : RF X C [] ow1 e f) (hw : ow1 = ow.filter fun i => ow1.contains i) : RF X C tc ow e (borF f) := by
  obtain ⟨t, a1, a2⟩ := h.ex
  exact ⟨t, a1, semF_bor a2 hw⟩

/-! ## changing what is owned -/
theorem Rep.upd {K : PySem.W.Frag} {own : Ow} {Z : List Addr} {ρ : En} {σ : L2.St} {H : Hp} {i : Nat} {a : Addr} {o' : HO} {b' : D} (R : Rep K own Z ρ σ H) (ho : (i, a) ∈ own) (ob : Ob K (hid (adr own ++ Z) H) b' o') : Rep K own Z (ρ.set i (some b')) σ (upd H a o') := by
  have aa : a ∈ adr own := List.mem_map.mpr ⟨_, ho, rfl⟩
  refine R.chg ho (fun c u h n => by rw [upd_ne n]; exact h) upd_same (fun z h => .inl h) (fun z h => ?_) (by rw [hid_updIn (List.mem_append_left _ aa)]; exact ob)
  obtain ⟨u, q⟩ := R.zin z h
  exact ⟨u, by rw [upd_ne fun e => R.dis a aa (by rw [← e]; exact h)]; exact q⟩
theorem Gro.upd {own : Ow} {H H' : Hp} {i : Nat} {a : Addr} {o : HO} (g : Gro own H H') (ho : (i, a) ∈ own) : Gro own H (L2.upd H' a o) := fun c u q n => by
  rw [upd_ne fun e => n (by rw [e]; exact List.mem_map.mpr ⟨_, ho, rfl⟩)]
  exact g c u q n
def getL (i : Nat) (ρ : En) : Option (List D) := match ρ[i]? with
  | some (some (.list ds)) => some ds
  | _ => none
theorem Rep.getL {K : PySem.W.Frag} {own : Ow} {Z : List Addr} {ρ : En} {σ : L2.St} {H : Hp} {i : Nat} {a : Addr} {ds : List D} (R : Rep K own Z ρ σ H) (ho : (i, a) ∈ own) (h : getL i ρ = some ds) : ∃ xs, H a = some (.lst xs) ∧ xs.length ≤ sizeLine ∧ Dats K (hid (adr own ++ Z) H) ds xs := by
  obtain ⟨_, d, o, h2, h3, h4⟩ := R.obj i a ho
  unfold Lay.getL at h
  rw [h2] at h
  cases h4 with
  | lst z r => simp only [Option.some.injEq] at h; subst h; exact ⟨_, h3, z, r⟩
  | dk r => cases h
  | dt r => cases h
/-- a method of one argument that changes the list: g of what it holds and the argument -/
def mutS (i : Nat) (g : List D → D → Option (List D)) (f : XE) : XS := fun ρ => match getL i ρ with
  | none => .bad
  | some _ => match f ρ with
    | some (d, ρ1) => (match getL i ρ1 with
      | some ds => (match g ds d with
        | some ds' => .nx (ρ1.set i (some (.list ds')))
        | none => .bad)
      | none => .bad)
    | none => .bad
def appG : List D → D → Option (List D) := fun ds d => if ds.length < sizeLine then some (ds ++ [d]) else none
def extG : List D → D → Option (List D) := fun ds d => match d with
  | .list es => if ds.length + es.length ≤ sizeLine then some (ds ++ es) else none
  | _ => none
def insG (k : D) : List D → D → Option (List D) := fun ds d => match k with
  | .int i => if ds.length < sizeLine ∧ 0 ≤ i ∧ i < 2 ^ 63 then some (ds.take i.toNat ++ [d] ++ ds.drop i.toNat) else none
  | _ => none
theorem mutS_after {K : PySem.W.Frag} {own : Ow} {Z : List Addr} {H : Hp} {E : Ends} {i : Nat} {g : List D → D → Option (List D)} {f : XE} {ρ : En} (h : After K mu fr owl ow own Z H E (mutS i g f ρ)) :
    ∃ d0 d ρ1 ds ds', getL i ρ = some d0 ∧ f ρ = some (d, ρ1) ∧ getL i ρ1 = some ds ∧ g ds d = some ds' ∧ After K mu fr owl ow own Z H E (.nx (ρ1.set i (some (.list ds')))) := by
  unfold mutS at h
  cases e0 : getL i ρ with
  | none => rw [e0] at h; exact absurd h fun q => q
  | some d0 =>
    rw [e0] at h
    simp only at h
    cases e1 : f ρ with
    | none => rw [e1] at h; exact absurd h fun q => q
    | some p =>
      obtain ⟨d, ρ1⟩ := p
      rw [e1] at h
      simp only at h
      cases e2 : getL i ρ1 with
      | none => rw [e2] at h; exact absurd h fun q => q
      | some ds =>
        rw [e2] at h
        simp only at h
        cases e3 : g ds d with
        | none => rw [e3] at h; exact absurd h fun q => q
        | some ds' => rw [e3] at h; exact ⟨d0, d, ρ1, ds, ds', rfl, rfl, e2, e3, h⟩
/-- x.m(e), x owned: r by values, g by data -/
theorem rs_mut1 {x : Str} {m : Str} {e : Expr} {f : XE} {p apos cpos pos : Pos} {r : V → List V → Hp → VK → Prop} {g : List D → D → Option (List D)} (F : Fam X C N k) (i : Nat) (he : RE X C tc ow e f) (hi : ow.contains i = true) (hN : N[i]? = some x) (hv : ∀ j, Vis (X j).env.scope x)
    (hr : ∀ (a : Addr) (xs : List V) (Zs : List Addr) (H : Hp) (ds : List D) (d : D) (v : V) (ds' : List D) (Q : VK), H a = some (.lst xs) → xs.length ≤ sizeLine → Dats C.K (hid Zs H) ds xs → Dat C.K (hid Zs H) d v → g ds d = some ds' →
      (∀ xs' : List V, xs'.length ≤ sizeLine → Dats C.K (hid Zs H) ds' xs' → Q .non (upd H a (.lst xs'))) → r (.ref a) [v] H Q)
    (hpe : ∀ (j : ι) {to te : TE}, PE (X j) (.Name x p) to → PE (X j) e te → PE (X j) (.Call (.Attribute (.Name x p) m apos) [e] [] cpos) (tBM (X j).K "list" r to (tCons te tNil)))
    (hs : ∀ j, swapsWith (.Call (.Attribute (.Name x p) m apos) [e] [] cpos) none pos.line (X j).env = pure false) (hd : (x == ("__debug__" : Str)) = false := by decide) (hcd : (x == ("__classdict__" : Str)) = false := by decide) :
    RS X C mu fr owl ow ow (.Expr (.Call (.Attribute (.Name x p) m apos) [e] [] cpos) pos) (mutS i g f) := by
  obtain ⟨t, a1, a2⟩ := he.ex
  refine ⟨_, fun j => ps_expr (by have := hpe j (pe_var (i := i) (by rw [F.nm j]; exact hN) (hv j) hd hcd) (a1 j); rw [F.K j] at this; exact this) (hs j), fun own Z ρ σ H E ho R h => ?_⟩
  obtain ⟨d0, d, ρ1, ds, ds', e0, e1, e2, e3, h⟩ := mutS_after h
  obtain ⟨a, hia, hs1, hob⟩ := R.slot ho hi
  obtain ⟨xs0, k1, _⟩ := R.getL hia e0
  refine ⟨.ref a, hs1, .inl ⟨rfl, _, SqL.of k1⟩, a2 own Z ρ σ H d ρ1 _ ho R e1 fun v H1 R1 g1 d1 => ?_⟩
  obtain ⟨xs, k2, k3, k4⟩ := R1.getL hia e2
  exact hr a xs _ H1 ds d v ds' _ k2 k3 k4 d1 e3 fun xs' hl hd' => h own σ _ ho (Step.of (g1.all.upd hia)) (R1.upd hia (.lst hl hd'))
theorem r_append {K : PySem.W.Frag} {a : Addr} {xs : List V} {Zs : List Addr} {H : Hp} {ds : List D} {d : D} {v : V} {ds' : List D} {Q : VK} (h1 : H a = some (.lst xs)) (h2 : xs.length ≤ sizeLine) (h3 : Dats K (hid Zs H) ds xs) (h4 : Dat K (hid Zs H) d v) (h5 : appG ds d = some ds')
    (hq : ∀ xs' : List V, xs'.length ≤ sizeLine → Dats K (hid Zs H) ds' xs' → Q .non (upd H a (.lst xs'))) : rAppend (.ref a) [v] H Q := by
  unfold appG at h5
  split at h5
  · rename_i hl
    simp only [Option.some.injEq] at h5
    subst h5
    rw [h3.len] at hl
    exact ⟨a, xs, v, rfl, rfl, h1, hl, hq _ (by rw [List.length_append, List.length_singleton]; omega) (h3.app (.cons h4 .nil))⟩
  · cases h5
/-- x.insert(k, e) -/
def insS (i : Nat) (fk f : XE) : XS := fun ρ => match getL i ρ with
  | none => .bad
  | some _ => match fk ρ with
    | none => .bad
    | some (kk, ρ0) => match f ρ0 with
      | none => .bad
      | some (d, ρ1) => match getL i ρ1 with
        | none => .bad
        | some ds => match insG kk ds d with
          | none => .bad
          | some ds' => .nx (ρ1.set i (some (.list ds')))
theorem rs_insert {x : Str} {e ek : Expr} {f fk : XE} {p apos cpos pos : Pos} (F : Fam X C N k) (i : Nat) (hk : RE X C tc ow ek fk) (he : RE X C tc ow e f) (hi : ow.contains i = true) (hN : N[i]? = some x) (hv : ∀ j, Vis (X j).env.scope x)
    (hpe : ∀ (j : ι) {to tk te : TE}, PE (X j) (.Name x p) to → PE (X j) ek tk → PE (X j) e te → PE (X j) (.Call (.Attribute (.Name x p) "insert" apos) [ek, e] [] cpos) (tBM (X j).K "list" (fun x vs H Q => ∃ (l : Addr) (xs : List V) (i : Int) (y : V), x = .ref l ∧ vs = [.int i, y] ∧ H l = some (.lst xs) ∧ xs.length < sizeLine ∧ 0 ≤ i ∧ i < 2 ^ 63 ∧
      Q .non (upd H l (.lst (xs.take i.toNat ++ [y] ++ xs.drop i.toNat)))) to (tCons tk (tCons te tNil))))
    (hs : ∀ j, swapsWith (.Call (.Attribute (.Name x p) "insert" apos) [ek, e] [] cpos) none pos.line (X j).env = pure false) (hd : (x == ("__debug__" : Str)) = false := by decide) (hcd : (x == ("__classdict__" : Str)) = false := by decide) :
    RS X C mu fr owl ow ow (.Expr (.Call (.Attribute (.Name x p) "insert" apos) [ek, e] [] cpos) pos) (insS i fk f) := by
  obtain ⟨t, a1, a2⟩ := he.ex
  obtain ⟨tk, b1, b2⟩ := hk.ex
  refine ⟨_, fun j => ps_expr (by have := hpe j (pe_var (i := i) (by rw [F.nm j]; exact hN) (hv j) hd hcd) (b1 j) (a1 j); rw [F.K j] at this; exact this) (hs j), fun own Z ρ σ H E ho R h => ?_⟩
  unfold insS at h
  split at h
  · exact absurd h fun q => q
  · rename_i d0 e0
    split at h
    · exact absurd h fun q => q
    · rename_i kk ρ0 ek0
      split at h
      · exact absurd h fun q => q
      · rename_i d ρ1 e1
        split at h
        · exact absurd h fun q => q
        · rename_i ds e2
          split at h
          · exact absurd h fun q => q
          · rename_i ds' e3
            obtain ⟨a, hia, hs1, hob⟩ := R.slot ho hi
            obtain ⟨xs0, k1, _⟩ := R.getL hia e0
            refine ⟨.ref a, hs1, .inl ⟨rfl, _, SqL.of k1⟩, b2 own Z ρ σ H kk ρ0 _ ho R ek0 fun vk H0 R0 g0 dk => ?_⟩
            refine a2 own Z ρ0 σ H0 d ρ1 _ ho R0 e1 fun v H1 R1 g1 d1 => ?_
            obtain ⟨xs, k2, k3, k4⟩ := R1.getL hia e2
            unfold insG at e3
            split at e3
            · rename_i n
              split at e3
              · rename_i hl
                simp only [Option.some.injEq] at e3
                subst e3
                cases dk
                have hl1 := hl.1
                rw [k4.len] at hl1
                exact ⟨a, xs, n, v, rfl, rfl, k2, hl1, hl.2.1, hl.2.2, h own σ _ ho (Step.of ((g0.trans g1).all.upd hia)) (R1.upd hia (.lst (by
                  rw [List.length_append, List.length_append, List.length_take, List.length_drop, List.length_singleton]; omega) (((k4.take n.toNat).app (.cons d1 .nil)).app (k4.drop n.toNat))))⟩
              · cases e3
            · cases e3
/-- x[k] = e -/
def setiS (i : Nat) (fk f : XE) : XS := fun ρ => match f ρ with
  | none => .bad
  | some (d, ρ1) => match fk ρ1 with
    | some (.int n, ρ2) => (match getL i ρ2 with
      | none => .bad
      | some ds => match ixN ds.length n with
        | none => .bad
        | some j => .nx (ρ2.set i (some (.list (ds.set j d)))))
    | _ => .bad
theorem rs_seti {x : Str} {e ek : Expr} {f fk : XE} {p spos pos : Pos} (F : Fam X C N k) (i : Nat) (hk : RE X C tc ow ek fk) (he : RE X C tc ow e f) (hi : ow.contains i = true) (hN : N[i]? = some x) (hv : ∀ j, Vis (X j).env.scope x)
    (hps : ∀ (j : ι) {to tk te : TE}, PE (X j) (.Name x p) to → PE (X j) ek tk → PE (X j) e te → PS (X j) (.Assign [.Subscript (.Name x p) ek spos] e pos) (tAsg te (gSub to tk rSetL)))
    (hd : (x == ("__debug__" : Str)) = false := by decide) (hcd : (x == ("__classdict__" : Str)) = false := by decide) :
    RS X C mu fr owl ow ow (.Assign [.Subscript (.Name x p) ek spos] e pos) (setiS i fk f) := by
  obtain ⟨t, a1, a2⟩ := he.ex
  obtain ⟨tk, b1, b2⟩ := hk.ex
  refine ⟨_, fun j => hps j (pe_var (i := i) (by rw [F.nm j]; exact hN) (hv j) hd hcd) (b1 j) (a1 j), fun own Z ρ σ H E ho R h => ?_⟩
  unfold setiS at h
  split at h
  · exact absurd h fun q => q
  · rename_i d ρ1 e1
    split at h
    · rename_i n ρ2 e2
      split at h
      · exact absurd h fun q => q
      · rename_i ds e3
        split at h
        · exact absurd h fun q => q
        · rename_i j e4
          obtain ⟨a, hia, hs1, hob⟩ := R.slot ho hi
          refine a2 own Z ρ σ H d ρ1 _ ho R e1 fun v H1 R1 g1 d1 => ⟨.ref a, hs1, ?_⟩
          refine b2 own Z ρ1 σ H1 _ ρ2 _ ho R1 e2 fun vk H2 R2 g2 dk => ?_
          obtain ⟨xs, k2, k3, k4⟩ := R2.getL hia e3
          cases dk
          rw [k4.len] at e4
          exact ⟨a, xs, n, j, rfl, rfl, k2, e4, h own σ _ ho (Step.of ((g1.trans g2).all.upd hia)) (R2.upd hia (.lst (by rw [List.length_set]; exact k3) (k4.set (d1.ext g2.hid) j)))⟩
    · exact absurd h fun q => q
end
end Lay

namespace Lay
open PySem PySem.Spec PyProof.Rows L2

/-! ## what for and comprehensions walk -/
def itD : D → Option (List D)
  | .list ds => some ds
  | .tuple ds => some ds
  | .str z => if z.cps.size ≤ sizeLine then some (z.cps.toList.map fun c => .str ⟨#[c]⟩) else none
  | _ => none
def itE (f : XE) : XI := fun ρ => (f ρ).bind fun p => (itD p.1).map fun ds => (ds, p.2)
def iSeqA (K : PySem.W.Frag) (tl : TE) : TI := fun σ H R => tl σ H fun x H1 => (∃ a, x = .ref a ∧ (∃ xs, SqL K H1 a xs) ∧ R (Itl K a) H1) ∨ (∃ a, x = .ref a ∧ (∃ xs, SqT K H1 a xs) ∧ R (Itt K a) H1) ∨ (∃ z, x = .str z ∧ R (Its z) H1)
theorem pi_seqA {X : Cx} {tg l : Expr} {tl : TE} (hl : PE X l tl) : PI X tg l (iSeqA X.K tl) := by
  refine ⟨fun pins s σ H R I h => thn (hl.run pins s σ H _ I h) fun v s1 hx => ?_⟩
  obtain ⟨x, H1, I1, r1, q1⟩ := hx
  have fp : ∀ (o : Obj), ∀ b ∈ [s1.heap.objs.size], FpOk X pins H1 b := fun o b hb => by
    rw [List.mem_singleton.mp hb]
    exact I1.fpOk (Nat.le_refl _) (I1.hok.fresh (Nat.le_refl _))
  rcases q1 with ⟨a, rfl, ⟨xs, hq⟩, q⟩ | ⟨a, rfl, ⟨xs, hq⟩, q⟩ | ⟨z, rfl, q⟩
  · cases r1
    obtain ⟨its, rv, p, hz⟩ := I1.list hq
    exact wpAny_pyIter_list p.isList ⟨s1.heap.objs.size, [s1.heap.objs.size], _, _, H1, rfl, I1.kept (t' := s1.toks) (fun b o e => Heap.get?_push_of_some _ e), turn_list a _, ⟨_, Heap.get?_push_size _ rfl, rfl, rfl⟩, fp default, q⟩
  · cases r1
    obtain ⟨its, rv, p, hz⟩ := I1.tuple hq
    exact wpAny_pyIter_tuple (show s1.heap.IsTuple a its.toArray from p) ⟨s1.heap.objs.size, [s1.heap.objs.size], _, _, H1, rfl, I1.kept (t' := s1.toks) (fun b o e => Heap.get?_push_of_some _ e), turn_tuple a _, ⟨_, Heap.get?_push_size _ rfl, rfl, rfl⟩, fp default, q⟩
  · obtain ⟨t, rfl⟩ := r1
    cases ha : z.cps.all (· < 128)
    · exact wpAny_pyIter_wide ha (pi_one (tk := s1.toks) I1 _ (turn_str _ z t "str_iterator" (.inr rfl)) ⟨_, Heap.get?_push_size _ rfl, rfl, rfl⟩ q)
    · exact wpAny_pyIter_ascii ha (pi_one (tk := s1.toks) I1 _ (turn_str _ z t "str_ascii_iterator" (.inl rfl)) ⟨_, Heap.get?_push_size _ rfl, rfl, rfl⟩ q)
section
variable {K : PySem.W.Frag} {Zs : List Addr} {H0 : Hp}
theorem wk_list {a : Addr} {xs : List V} {ds : List D} (h : SqL K (hid Zs H0) a xs) (r : Dats K (hid Zs H0) ds xs) : Wk K Zs H0 (Itl K a) ds := fun Zs' H e zo => by
  have hq : SqL K H a xs := SqL.ext (hidX Zs' H) (SqL.ext e h)
  have r' := r.ext e
  refine ⟨fun i hi => ?_, fun i x H' hi hy => ?_, ⟨xs, hq, by rw [r.len]; exact Nat.le_refl _⟩⟩
  · obtain ⟨v, h1, _⟩ := r'.get (List.getElem?_eq_getElem hi)
    exact ⟨xs, v, hq, h1⟩
  · obtain ⟨rfl, hx⟩ := hy
    obtain ⟨d, h1, h2⟩ := r'.getV (hx xs hq)
    exact ⟨Ext.refl _, d, h1, h2⟩
theorem wk_tup {a : Addr} {xs : List V} {ds : List D} (h : TupAt K (hid Zs H0) a xs) (r : Dats K (hid Zs H0) ds xs) : Wk K Zs H0 (Itt K a) ds := fun Zs' H e zo => by
  have hq : SqT K H a xs := ((h.mono e).mono (hidX Zs' H)).sq
  have r' := r.ext e
  refine ⟨fun i hi => ?_, fun i x H' hi hy => ?_, ⟨xs, hq, by rw [r.len]; exact Nat.le_refl _⟩⟩
  · obtain ⟨v, h1, _⟩ := r'.get (List.getElem?_eq_getElem hi)
    exact ⟨xs, v, hq, h1⟩
  · obtain ⟨rfl, hx⟩ := hy
    obtain ⟨d, h1, h2⟩ := r'.getV (hx xs hq)
    exact ⟨Ext.refl _, d, h1, h2⟩
theorem wk_str {z : Str} : Wk K Zs H0 (Its z) (z.cps.toList.map fun c => .str ⟨#[c]⟩) := fun Zs' H e zo => by
  refine ⟨fun i hi => ?_, fun i x H' hi hy => ?_, ?_⟩
  · show i < z.cps.size
    simpa using hi
  · obtain ⟨rfl, c, hc, rfl⟩ := hy
    exact ⟨Ext.refl _, .str ⟨#[c]⟩, by rw [List.getElem?_map]; simp [hc], .str _⟩
  · show z.cps.size ≤ _
    simp
theorem wk_rng {lo : Int} {n : Nat} : Wk K Zs H0 (Itr lo n) ((List.range n).map fun i => .int (lo + (i : Nat))) := fun Zs' H e zo => by
  refine ⟨fun i hi => ?_, fun i x H' hi hy => ?_, ?_⟩
  · show i < n
    simpa using hi
  · obtain ⟨rfl, rfl⟩ := hy
    have hi : i < n := by simpa using hi
    exact ⟨Ext.refl _, .int (lo + i), by rw [List.getElem?_map, List.getElem?_range hi]; rfl, .int _⟩
  · show n ≤ _
    simp
theorem dat2 {Zs' : List Addr} {H : Hp} {T : Addr} {x y : V} {dx dy : D} (zo : Zok Zs' H) (hn : H T = none) (hx : Dat K (hid Zs' H) dx x) (hy : Dat K (hid Zs' H) dy y) : Dat K (hid Zs' (upd H T (.tup [x, y]))) (.tuple [dx, dy]) (.ref T) :=
  .tup (.inl (hid_upd (zok_nin zo hn))) (by show 2 ≤ sizeLine; decide) (.cons (hx.ext (Ext.new hn).hid') (.cons (hy.ext (Ext.new hn).hid') .nil))
theorem wk_enum {a : Addr} {xs : List V} {ds : List D} (h : SqL K (hid Zs H0) a xs) (r : Dats K (hid Zs H0) ds xs) : Wk K Zs H0 (Ite K a) (ds.zipIdx.map fun p => .tuple [.int (p.2 : Nat), p.1]) := fun Zs' H e zo => by
  have hq : SqL K H a xs := SqL.ext (hidX Zs' H) (SqL.ext e h)
  have r' := r.ext e
  refine ⟨fun i hi => ?_, fun i x H' hi hy => ?_, ⟨xs, hq, by simp [r.len]⟩⟩
  · have hi : i < ds.length := by simpa using hi
    obtain ⟨v, h1, _⟩ := r'.get (List.getElem?_eq_getElem hi)
    exact ⟨xs, v, hq, h1⟩
  · obtain ⟨T, v, rfl, hn, rfl, hx⟩ := hy
    obtain ⟨d, h1, h2⟩ := r'.getV (hx xs hq)
    exact ⟨Ext.new hn, .tuple [.int i, d], by simp [List.getElem?_map, List.getElem?_zipIdx, h1], dat2 zo hn (.int _) h2⟩
def zipD (ds es : List D) : List D := (ds.zip es).map fun p => .tuple [p.1, p.2]
theorem zipD_len (ds es : List D) : (zipD ds es).length = min ds.length es.length := by unfold zipD; rw [List.length_map, List.length_zip]
theorem zipD_get {ds es : List D} {i : Nat} {d e : D} (h1 : ds[i]? = some d) (h2 : es[i]? = some e) : (zipD ds es)[i]? = some (.tuple [d, e]) := by
  unfold zipD
  rw [List.getElem?_map, (List.getElem?_zip_eq_some (z := (d, e))).mpr ⟨h1, h2⟩]
  rfl
theorem wk_zip {a b : Addr} {xs ys : List V} {ds es : List D} (h : SqL K (hid Zs H0) a xs) (r : Dats K (hid Zs H0) ds xs) (h' : SqL K (hid Zs H0) b ys) (r' : Dats K (hid Zs H0) es ys) : Wk K Zs H0 (Itz K a b) (zipD ds es) := fun Zs' H e zo => by
  have hq : SqL K H a xs := SqL.ext (hidX Zs' H) (SqL.ext e h)
  have hq' : SqL K H b ys := SqL.ext (hidX Zs' H) (SqL.ext e h')
  have r1 := r.ext e
  have r2 := r'.ext e
  refine ⟨fun i hi => ?_, fun i x H' hi hy => ?_, ⟨xs, ys, hq, hq', ?_⟩⟩
  · rw [zipD_len] at hi
    obtain ⟨v, h1, _⟩ := r1.get (List.getElem?_eq_getElem (show i < ds.length by omega))
    obtain ⟨u, h2, _⟩ := r2.get (List.getElem?_eq_getElem (show i < es.length by omega))
    exact ⟨xs, ys, v, u, hq, hq', h1, h2⟩
  · obtain ⟨T, v, u, rfl, hn, rfl, hx, hy⟩ := hy
    obtain ⟨d, h1, h2⟩ := r1.getV (hx xs hq)
    obtain ⟨d', h3, h4⟩ := r2.getV (hy ys hq')
    exact ⟨Ext.new hn, _, zipD_get h1 h3, dat2 zo hn h2 h4⟩
  · rw [zipD_len, ← r.len, ← r'.len]; omega
theorem wk_zipT {a b : Addr} {xs ys : List V} {ds es : List D} (h : TupAt K (hid Zs H0) a xs) (r : Dats K (hid Zs H0) ds xs) (h' : TupAt K (hid Zs H0) b ys) (r' : Dats K (hid Zs H0) es ys) : Wk K Zs H0 (RZ.ItzT K a b) (zipD ds es) := fun Zs' H e zo => by
  have hq : SqT K H a xs := ((h.mono e).mono (hidX Zs' H)).sq
  have hq' : SqT K H b ys := ((h'.mono e).mono (hidX Zs' H)).sq
  have r1 := r.ext e
  have r2 := r'.ext e
  refine ⟨fun i hi => ?_, fun i x H' hi hy => ?_, ⟨xs, ys, hq, hq', ?_⟩⟩
  · rw [zipD_len] at hi
    obtain ⟨v, h1, _⟩ := r1.get (List.getElem?_eq_getElem (show i < ds.length by omega))
    obtain ⟨u, h2, _⟩ := r2.get (List.getElem?_eq_getElem (show i < es.length by omega))
    exact ⟨xs, ys, v, u, hq, hq', h1, h2⟩
  · obtain ⟨T, v, u, rfl, hn, rfl, hx, hy⟩ := hy
    obtain ⟨d, h1, h2⟩ := r1.getV (hx xs hq)
    obtain ⟨d', h3, h4⟩ := r2.getV (hy ys hq')
    exact ⟨Ext.new hn, _, zipD_get h1 h3, dat2 zo hn h2 h4⟩
  · rw [zipD_len, ← r.len, ← r'.len]; omega
end
def rngE (fa : XA) : XI := fun ρ => (fa ρ).bind fun p => match p.1 with
  | [.int j] => if j ≤ sizeLine ∧ -(2 ^ 62) ≤ j then some ((List.range j.toNat).map fun i => .int (0 + (i : Nat)), p.2) else none
  | [.int i, .int j] => if (-(2 ^ 62) ≤ i ∧ i < 2 ^ 62 ∧ -(2 ^ 62) ≤ j ∧ j < 2 ^ 62) ∧ j - i ≤ sizeLine then some ((List.range (j - i).toNat).map fun m => .int (i + (m : Nat)), p.2) else none
  | _ => none
def enumE (fa : XA) : XI := fun ρ => (fa ρ).bind fun p => match p.1 with
  | [.list ds] => some (ds.zipIdx.map fun p => .tuple [.int (p.2 : Nat), p.1], p.2)
  | _ => none
def zipE (fa : XA) : XI := fun ρ => (fa ρ).bind fun p => match p.1 with
  | [.list ds, .list es] => some (zipD ds es, p.2)
  | [.tuple ds, .tuple es] => some (zipD ds es, p.2)
  | _ => none
section
variable {ι : Type} {X : ι → Cx} {C : Ct} {mu : List Nat} {fr : Bool} {tc owl ow ow1 ow2 : List Nat} {N : List Str} {k : Nat}
theorem ri_val {tg e : Expr} {f : XE} (F : Fam X C N k) (h : RE X C tc ow e f) : RI X C tc ow tg e (itE f) := by
  obtain ⟨t, a1, a2⟩ := h.ex
  refine ⟨iSeqA C.K t, fun i => by rw [← F.K i]; exact pi_seqA (a1 i), fun own Z ρ σ H ds ρ' R' ho R hf hq => ?_⟩
  unfold itE at hf
  cases e1 : f ρ with
  | none => rw [e1] at hf; cases hf
  | some p =>
    obtain ⟨d, ρ1⟩ := p
    rw [e1] at hf
    simp only [Option.bind_some] at hf
    refine a2 own Z ρ σ H d ρ1 _ ho R e1 fun v H1 R1 g1 d1 => ?_
    cases d1 with
    | lst h z r =>
      simp only [itD, Option.map_some, Option.some.injEq, Prod.mk.injEq] at hf
      obtain ⟨rfl, rfl⟩ := hf
      exact .inl ⟨_, rfl, ⟨_, SqL.ext (hidX _ H1) h⟩, hq _ H1 R1 g1 (by rw [r.len]; exact z) (wk_list h r)⟩
    | tup h z r =>
      simp only [itD, Option.map_some, Option.some.injEq, Prod.mk.injEq] at hf
      obtain ⟨rfl, rfl⟩ := hf
      exact .inr (.inl ⟨_, rfl, ⟨_, (h.mono (hidX _ H1)).sq⟩, hq _ H1 R1 g1 (by rw [r.len]; exact z) (wk_tup h r)⟩)
    | str x =>
      simp only [itD] at hf
      split at hf
      · rename_i hz
        simp only [Option.map_some, Option.some.injEq, Prod.mk.injEq] at hf
        obtain ⟨rfl, rfl⟩ := hf
        exact .inr (.inr ⟨_, rfl, hq _ H1 R1 g1 (by simpa using hz) wk_str⟩)
      · cases hf
    | _ => simp only [itD] at hf; cases hf
theorem ri_rng1 {tg a : Expr} {fa : XA} {p pos : Pos} (F : Fam X C N k) (hm : C.mg "range" = none) (hg : ∀ i, Gl (X i) "range") (ha : RA X C tc ow [a] fa) (hs : ∀ i, starEach [a] (X i).env = [(false, eval a (X i).env)]) :
    RI X C tc ow tg (.Call (.Name "range" p) [a] [] pos) (rngE fa) := by
  obtain ⟨t, a1, a2⟩ := ha.ex
  refine ⟨_, fun i => pi_range1 (hg i) (by rw [F.mg i]; exact hm) (a1 i) (hs i), fun own Z ρ σ H ds ρ' R' ho R hf hq => ?_⟩
  unfold rngE at hf
  cases e1 : fa ρ with
  | none => rw [e1] at hf; cases hf
  | some q =>
    obtain ⟨as, ρ1⟩ := q
    rw [e1] at hf
    simp only [Option.bind_some] at hf
    have hl := ha.len _ _ _ e1
    refine a2 own Z ρ σ H as ρ1 _ ho R e1 fun vs H1 R1 g1 d1 => ?_
    split at hf
    · rename_i j
      split at hf
      · rename_i hb
        simp only [Option.some.injEq, Prod.mk.injEq] at hf
        obtain ⟨rfl, rfl⟩ := hf
        cases d1 with
        | cons h r =>
          cases h
          cases r
          have hsl := sizeLine_eq
          refine ⟨j, rfl, hb.2, by omega, hq _ H1 R1 g1 (by simp; omega) wk_rng⟩
      · cases hf
    · cases hl
    · cases hf
theorem ri_rng2 {tg a b : Expr} {fa : XA} {p pos : Pos} (F : Fam X C N k) (hm : C.mg "range" = none) (hg : ∀ i, Gl (X i) "range") (ha : RA X C tc ow [a, b] fa) (hs : ∀ i, starEach [a, b] (X i).env = [(false, eval a (X i).env), (false, eval b (X i).env)]) (hs2 : ∀ i, starEach [b] (X i).env = [(false, eval b (X i).env)]) :
    RI X C tc ow tg (.Call (.Name "range" p) [a, b] [] pos) (rngE fa) := by
  obtain ⟨t, a1, a2⟩ := ha.ex
  refine ⟨_, fun i => pi_range2 (hg i) (by rw [F.mg i]; exact hm) (a1 i) (hs i) (hs2 i), fun own Z ρ σ H ds ρ' R' ho R hf hq => ?_⟩
  unfold rngE at hf
  cases e1 : fa ρ with
  | none => rw [e1] at hf; cases hf
  | some q =>
    obtain ⟨as, ρ1⟩ := q
    rw [e1] at hf
    simp only [Option.bind_some] at hf
    have hl := ha.len _ _ _ e1
    refine a2 own Z ρ σ H as ρ1 _ ho R e1 fun vs H1 R1 g1 d1 => ?_
    split at hf
    · cases hl
    · rename_i i j
      split at hf
      · rename_i hb
        simp only [Option.some.injEq, Prod.mk.injEq] at hf
        obtain ⟨rfl, rfl⟩ := hf
        cases d1 with
        | cons h r =>
          cases h
          cases r with
          | cons h r =>
            cases h
            cases r
            exact ⟨i, j, rfl, hb.1, hq _ H1 R1 g1 (by simp; omega) wk_rng⟩
      · cases hf
    · cases hf
theorem ri_enum {a : Expr} {fa : XA} {p pos tpos : Pos} {elts : List Expr} {kk : Nat} (F : Fam X C N k) (hm : C.mg "enumerate" = none) (hg : ∀ i, Gl (X i) "enumerate") (ha : RA X C tc ow [a] fa) (hs : ∀ i, starEach [a] (X i).env = [(false, eval a (X i).env)]) :
    RI X C tc ow (.Tuple elts kk tpos) (.Call (.Name "enumerate" p) [a] [] pos) (enumE fa) := by
  obtain ⟨t, a1, a2⟩ := ha.ex
  refine ⟨iEnum C.K t, fun i => by rw [← F.K i]; exact pi_enum (hg i) (by rw [F.mg i]; exact hm) (a1 i) (hs i), fun own Z ρ σ H ds ρ' R' ho R hf hq => ?_⟩
  unfold enumE at hf
  cases e1 : fa ρ with
  | none => rw [e1] at hf; cases hf
  | some q =>
    obtain ⟨as, ρ1⟩ := q
    rw [e1] at hf
    simp only [Option.bind_some] at hf
    refine a2 own Z ρ σ H as ρ1 _ ho R e1 fun vs H1 R1 g1 d1 => ?_
    split at hf
    · simp only [Option.some.injEq, Prod.mk.injEq] at hf
      obtain ⟨rfl, rfl⟩ := hf
      cases d1 with
      | cons h r =>
        cases r
        cases h with
        | lst h z r => exact ⟨_, _, rfl, SqL.ext (hidX _ H1) h, hq _ H1 R1 g1 (by simp [r.len]; exact z) (wk_enum h r)⟩
    · cases hf
theorem ri_zip {a b : Expr} {fa : XA} {p pos tpos : Pos} {elts : List Expr} {kk : Nat} (F : Fam X C N k) (hm : C.mg "zip" = none) (hg : ∀ i, Gl (X i) "zip") (ha : RA X C tc ow [a, b] fa) (hs : ∀ i, starEach [a, b] (X i).env = (false, eval a (X i).env) :: starEach [b] (X i).env) (hpl : ∀ i, (backTo pos (starEach [b] (X i).env)).any (·.1) = false) :
    RI X C tc ow (.Tuple elts kk tpos) (.Call (.Name "zip" p) [a, b] [] pos) (zipE fa) := by
  obtain ⟨t, a1, a2⟩ := ha.ex
  refine ⟨RZ.iZipA C.K t, fun i => by rw [← F.K i]; exact RZ.pi_zipA (hg i) (by rw [F.mg i]; exact hm) (a1 i) (hs i) (hpl i), fun own Z ρ σ H ds ρ' R' ho R hf hq => ?_⟩
  unfold zipE at hf
  cases e1 : fa ρ with
  | none => rw [e1] at hf; cases hf
  | some q =>
    obtain ⟨as, ρ1⟩ := q
    rw [e1] at hf
    simp only [Option.bind_some] at hf
    refine a2 own Z ρ σ H as ρ1 _ ho R e1 fun vs H1 R1 g1 d1 => ?_
    split at hf
    · simp only [Option.some.injEq, Prod.mk.injEq] at hf
      obtain ⟨rfl, rfl⟩ := hf
      cases d1 with
      | cons h r =>
        cases r with
        | cons h' r =>
          cases r
          cases h with
          | lst h z r =>
            cases h' with
            | lst h' z' r' =>
              exact ⟨_, _, _, _, rfl, .inl ⟨SqL.ext (hidX _ H1) h, SqL.ext (hidX _ H1) h', hq _ H1 R1 g1 (by rw [zipD_len, r.len]; omega) (wk_zip h r h' r')⟩⟩
    · simp only [Option.some.injEq, Prod.mk.injEq] at hf
      obtain ⟨rfl, rfl⟩ := hf
      cases d1 with
      | cons h r =>
        cases r with
        | cons h' r =>
          cases r
          cases h with
          | tup h z r =>
            cases h' with
            | tup h' z' r' =>
              exact ⟨_, _, _, _, rfl, .inr ⟨(h.mono (hidX _ H1)).sq, (h'.mono (hidX _ H1)).sq, hq _ H1 R1 g1 (by rw [zipD_len, r.len]; omega) (wk_zipT h r h' r')⟩⟩
    · cases hf
end
end Lay

namespace Lay
open PySem PySem.Spec PyProof.Rows L2

/-! ## built-ins by data -/
section
variable {K : PySem.W.Frag}
theorem ClS.or {r r' : List V → Hp → VK → Prop} {g g' g2 : List D → Option D} (h : ClS K r g) (h' : ClS K r' g') (hg : ∀ ds z, g2 ds = some z → g ds = some z ∨ g' ds = some z) : ClS K (fun xs H Q => r xs H Q ∨ r' xs H Q) g2 := fun Z H xs ds z Q zo hd hz hq => by
  rcases hg ds z hz with e | e
  · exact .inl (h Z H xs ds z Q zo hd e hq)
  · exact .inr (h' Z H xs ds z Q zo hd e hq)
/-- one argument -/
def g1 (g : D → Option D) : List D → Option D
  | [d] => g d
  | _ => none
theorem cs1 {r : List V → Hp → VK → Prop} {g : D → Option D} (h : ∀ (Z : List Addr) (H : Hp) (x : V) (d z : D) (Q : VK), Zok Z H → Dat K (hid Z H) d x → g d = some z → (∀ v H', Ext H H' → Dat K (hid Z H') z v → Q v H') → r [x] H Q) : ClS K r (g1 g) := fun Z H xs ds z Q zo hd hz hq => by
  unfold g1 at hz
  split at hz
  · cases hd with
    | cons a b => cases b; exact h Z H _ _ z Q zo a hz hq
  · cases hz
def rLenA (K : PySem.W.Frag) : List V → Hp → VK → Prop := fun xs H Q => (∃ p ys, xs = [.ref p] ∧ (SqL K H p ys ∨ SqT K H p ys) ∧ Q (.int ys.length) H) ∨ (∃ z, xs = [.str z] ∧ z.length ≤ sizeLine ∧ Q (.int z.length) H)
theorem call_lenA {X : Cx} : CallR X (.builtin "len") (rLenA X.K) := call_len_seq.or call_len_str
def lenD : D → Option D
  | .list ds => some (.int ds.length)
  | .tuple ds => some (.int ds.length)
  | .str z => if z.length ≤ sizeLine then some (.int z.length) else none
  | _ => none
theorem cs_len : ClS K (rLenA K) (g1 lenD) := cs1 fun Z H x d z Q zo hd hz hq => by
  unfold lenD at hz
  split at hz
  · cases hd with
    | lst h z r =>
      simp only [Option.some.injEq] at hz
      subst hz
      rw [r.len] at hq
      exact .inl ⟨_, _, rfl, .inl (SqL.ext (hidX Z H) h), hq _ H (Ext.refl H) (.int _)⟩
  · cases hd with
    | tup h z r =>
      simp only [Option.some.injEq] at hz
      subst hz
      rw [r.len] at hq
      exact .inl ⟨_, _, rfl, .inr (h.mono (hidX Z H)).sq, hq _ H (Ext.refl H) (.int _)⟩
  · split at hz
    · cases hd
      simp only [Option.some.injEq] at hz
      subst hz
      exact .inr ⟨_, rfl, ‹_›, hq _ H (Ext.refl H) (.int _)⟩
    · cases hz
  · cases hz
def absD : D → Option D
  | .int i => some (.int (if i < 0 then -i else i))
  | _ => none
theorem cs_abs : ClS K (fun xs H Q => ∃ i, xs = [.int i] ∧ Q (.int (if i < 0 then -i else i)) H) (g1 absD) := cs1 fun Z H x d z Q zo hd hz hq => by
  unfold absD at hz
  split at hz
  · cases hd
    simp only [Option.some.injEq] at hz
    subst hz
    exact ⟨_, rfl, hq _ H (Ext.refl H) (.int _)⟩
  · cases hz
def rIntA : List V → Hp → VK → Prop := fun xs H Q => ((∃ i, xs = [.int i] ∧ Q (.int i) H) ∨ ∃ k, xs = [.bl k] ∧ Q (.int (if k then 1 else 0)) H) ∨ (∃ a n, xs = [.str a] ∧ PySem.intText? a = some n ∧ a.length ≤ 640 ∧ Q (.int n) H)
theorem call_intA {X : Cx} : CallR X (.type "int") rIntA := call_int1.or call_int_str
def intD : D → Option D
  | .int i => some (.int i)
  | .bool b => some (.int (if b then 1 else 0))
  | .str a => if a.length ≤ 640 then (PySem.intText? a).map .int else none
  | _ => none
theorem cs_int : ClS K rIntA (g1 intD) := cs1 fun Z H x d z Q zo hd hz hq => by
  unfold intD at hz
  split at hz
  · cases hd
    simp only [Option.some.injEq] at hz
    subst hz
    exact .inl (.inl ⟨_, rfl, hq _ H (Ext.refl H) (.int _)⟩)
  · cases hd
    simp only [Option.some.injEq] at hz
    subst hz
    exact .inl (.inr ⟨_, rfl, hq _ H (Ext.refl H) (.int _)⟩)
  · cases hd
    split at hz
    · rename_i a hl
      cases e : PySem.intText? a with
      | none => rw [e] at hz; cases hz
      | some n =>
        rw [e] at hz
        simp only [Option.map_some, Option.some.injEq] at hz
        subst hz
        exact .inr ⟨_, n, rfl, e, hl, hq _ H (Ext.refl H) (.int _)⟩
    · cases hz
  · cases hz
def rStrA : List V → Hp → VK → Prop := fun xs H Q => (∃ i, xs = [.int i] ∧ i.natAbs.log2 < 1920 ∧ Q (.str (toString i)) H) ∨ (∃ a, xs = [.str a] ∧ Q (.str a) H)
theorem call_strA {X : Cx} : CallR X (.type "str") rStrA := call_str_int.or SkE.call_str_str
def strD : D → Option D
  | .int i => if i.natAbs.log2 < 1920 then some (.str (toString i)) else none
  | .str a => some (.str a)
  | _ => none
theorem cs_str : ClS K rStrA (g1 strD) := cs1 fun Z H x d z Q zo hd hz hq => by
  unfold strD at hz
  split at hz
  · split at hz
    · cases hd
      simp only [Option.some.injEq] at hz
      subst hz
      exact .inl ⟨_, rfl, ‹_›, hq _ H (Ext.refl H) (.str _)⟩
    · cases hz
  · cases hd
    simp only [Option.some.injEq] at hz
    subst hz
    exact .inr ⟨_, rfl, hq _ H (Ext.refl H) (.str _)⟩
  · cases hz
def rTupleA (K : PySem.W.Frag) : List V → Hp → VK → Prop := fun xs H Q => ∃ p ys, xs = [.ref p] ∧ ((SqL K H p ys ∧ ∀ l, H l = none → Q (.ref l) (upd H l (.tup ys))) ∨ (SqT K H p ys ∧ Q (.ref p) H))
def tupleD : D → Option D
  | .list ds => some (.tuple ds)
  | .tuple ds => some (.tuple ds)
  | _ => none
theorem cs_tuple : ClS K (rTupleA K) (g1 tupleD) := cs1 fun Z H x d z Q zo hd hz hq => by
  unfold tupleD at hz
  split at hz
  · cases hd with
    | lst h z r =>
      simp only [Option.some.injEq] at hz
      subst hz
      exact ⟨_, _, rfl, .inl ⟨SqL.ext (hidX Z H) h, fun l hl => hq _ _ (Ext.new hl) (.tup (.inl (hid_upd (zok_nin zo hl))) z (r.ext (Ext.new hl).hid'))⟩⟩
  · cases hd with
    | tup h z r =>
      simp only [Option.some.injEq] at hz
      subst hz
      exact ⟨_, _, rfl, .inr ⟨(h.mono (hidX Z H)).sq, hq _ H (Ext.refl H) (.tup h z r)⟩⟩
  · cases hz
def rListA (K : PySem.W.Frag) : List V → Hp → VK → Prop := fun xs H Q => ∃ p ys, xs = [.ref p] ∧ (SqL K H p ys ∨ SqT K H p ys) ∧ ∀ l, H l = none → Q (.ref l) (upd H l (.lst ys))
def listD : D → Option D
  | .list ds => some (.list ds)
  | .tuple ds => some (.list ds)
  | _ => none
theorem hid_consNew {Z : List Addr} {H : Hp} {p : Addr} {o : HO} (hp : H p = none) : Ext (hid Z H) (hid (p :: Z) (upd H p o)) := fun a u q => by
  have h := hid_some.mp q
  have hap : a ≠ p := fun z => by subst z; rw [hp] at h; cases h.2
  exact hid_some.mpr ⟨fun z => by rcases List.mem_cons.mp z with z | z; exact hap z; exact h.1 z, by rw [upd_ne hap]; exact h.2⟩
theorem cf_list : ClF K (rListA K) (g1 listD) := fun Z H xs ds z Q zo hd hz hq => by
  unfold g1 at hz
  split at hz
  · cases hd with
    | cons a b =>
      cases b
      unfold listD at hz
      split at hz
      · cases a with
        | lst h z r =>
          simp only [Option.some.injEq] at hz
          subst hz
          exact ⟨_, _, rfl, .inl (SqL.ext (hidX Z H) h), fun l hl => hq l _ _ (Ext.new hl) hl upd_same (.lst z (r.ext (hid_consNew hl)))⟩
      · cases a with
        | tup h z r =>
          simp only [Option.some.injEq] at hz
          subst hz
          exact ⟨_, _, rfl, .inr (h.mono (hidX Z H)).sq, fun l hl => hq l _ _ (Ext.new hl) hl upd_same (.lst z (r.ext (hid_consNew hl)))⟩
      · cases hz
  · cases hz
/-! all, any, sum, max, min -/
def boolsD : List D → Option (List Bool)
  | [] => some []
  | .bool b :: r => (boolsD r).map fun bs => b :: bs
  | _ :: _ => none
def intsD : List D → Option (List Int)
  | [] => some []
  | .int b :: r => (intsD r).map fun bs => b :: bs
  | _ :: _ => none
theorem Dats.bools {H : Hp} : ∀ {ds : List D} {vs : List V} {bs : List Bool}, Dats K H ds vs → boolsD ds = some bs → vs = bs.map V.bl
  | [], _, _, h, e => by cases h; simp only [boolsD, Option.some.injEq] at e; subst e; rfl
  | d :: r, _, bs, h, e => by
    cases h with
    | cons a b =>
      cases a with
      | bl c =>
        simp only [boolsD] at e
        cases q : boolsD r with
        | none => rw [q] at e; cases e
        | some cs =>
          rw [q] at e
          simp only [Option.map_some, Option.some.injEq] at e
          subst e
          rw [Dats.bools b q]
          rfl
      | _ => simp only [boolsD] at e; cases e
theorem Dats.ints {H : Hp} : ∀ {ds : List D} {vs : List V} {bs : List Int}, Dats K H ds vs → intsD ds = some bs → vs = bs.map V.int
  | [], _, _, h, e => by cases h; simp only [intsD, Option.some.injEq] at e; subst e; rfl
  | d :: r, _, bs, h, e => by
    cases h with
    | cons a b =>
      cases a with
      | int c =>
        simp only [intsD] at e
        cases q : intsD r with
        | none => rw [q] at e; cases e
        | some cs =>
          rw [q] at e
          simp only [Option.map_some, Option.some.injEq] at e
          subst e
          rw [Dats.ints b q]
          rfl
      | _ => simp only [intsD] at e; cases e
def allD : D → Option D
  | .list ds => (boolsD ds).map fun bs => .bool (bs.all id)
  | _ => none
def anyD : D → Option D
  | .list ds => (boolsD ds).map fun bs => .bool (bs.any id)
  | _ => none
def sumD : D → Option D
  | .list ds => (intsD ds).map fun ns => .int ns.sum
  | _ => none
theorem cs_all : ClS K (rAll K) (g1 allD) := cs1 fun Z H x d z Q zo hd hz hq => by
  unfold allD at hz
  split at hz
  · cases hd with
    | lst h z r =>
      rename_i ds a xs
      cases e : boolsD ds with
      | none => rw [e] at hz; cases hz
      | some bs =>
        rw [e] at hz
        simp only [Option.map_some, Option.some.injEq] at hz
        subst hz
        have ex := r.bools e
        subst ex
        exact ⟨_, bs, rfl, SqL.ext (hidX Z H) h, hq _ H (Ext.refl H) (.bl _)⟩
  · cases hz
theorem cs_any : ClS K (rAny K) (g1 anyD) := cs1 fun Z H x d z Q zo hd hz hq => by
  unfold anyD at hz
  split at hz
  · cases hd with
    | lst h z r =>
      rename_i ds a xs
      cases e : boolsD ds with
      | none => rw [e] at hz; cases hz
      | some bs =>
        rw [e] at hz
        simp only [Option.map_some, Option.some.injEq] at hz
        subst hz
        have ex := r.bools e
        subst ex
        exact ⟨_, bs, rfl, SqL.ext (hidX Z H) h, hq _ H (Ext.refl H) (.bl _)⟩
  · cases hz
theorem cs_sum : ClS K (rSum K) (g1 sumD) := cs1 fun Z H x d z Q zo hd hz hq => by
  unfold sumD at hz
  split at hz
  · cases hd with
    | lst h z r =>
      rename_i ds a xs
      cases e : intsD ds with
      | none => rw [e] at hz; cases hz
      | some bs =>
        rw [e] at hz
        simp only [Option.map_some, Option.some.injEq] at hz
        subst hz
        have ex := r.ints e
        subst ex
        exact ⟨_, bs, rfl, SqL.ext (hidX Z H) h, hq _ H (Ext.refl H) (.int _)⟩
  · cases hz
def max2G : List D → Option D
  | [.int i, .int j] => some (.int (if j > i then j else i))
  | _ => none
def min2G : List D → Option D
  | [.int i, .int j] => some (.int (if j < i then j else i))
  | _ => none
theorem cs_max2 : ClS K (fun xs H Q => ∃ i j, xs = [.int i, .int j] ∧ Q (.int (if j > i then j else i)) H) max2G := fun Z H xs ds z Q zo hd hz hq => by
  unfold max2G at hz
  split at hz
  · cases hd with
    | cons a b =>
      cases b with
      | cons b c =>
        cases a; cases b; cases c
        simp only [Option.some.injEq] at hz
        subst hz
        exact ⟨_, _, rfl, hq _ H (Ext.refl H) (.int _)⟩
  · cases hz
theorem cs_min2 : ClS K (fun xs H Q => ∃ i j, xs = [.int i, .int j] ∧ Q (.int (if j < i then j else i)) H) min2G := fun Z H xs ds z Q zo hd hz hq => by
  unfold min2G at hz
  split at hz
  · cases hd with
    | cons a b =>
      cases b with
      | cons b c =>
        cases a; cases b; cases c
        simp only [Option.some.injEq] at hz
        subst hz
        exact ⟨_, _, rfl, hq _ H (Ext.refl H) (.int _)⟩
  · cases hz
/-! repr of data -/
def rReprA (K : PySem.W.Frag) : List V → Hp → VK → Prop := fun xs H Q => ∃ (x : V) (d : PyData), xs = [x] ∧ Dp K H x d ∧ SeqAt.shaped d = true ∧ d.showable = true ∧ d.shown.length ≤ sizeLine ∧ Q (.str d.shown) H
theorem call_reprA {X : Cx} (hg : X.A.guards = some []) (hu : X.A.units + 200 < cLine) : CallR X (.builtin "repr") (rReprA X.K) := by
  intro pins s σ H xs us Q I r h
  obtain ⟨x, d, rfl, hd, hs, hsh, hl, q⟩ := h
  obtain ⟨u, rfl, ru⟩ := vals1 r
  obtain ⟨as, rd⟩ := Dp.reads I d x u hd ru
  have hdep := SeqAt.depth_of_shaped hs
  have hnd : d.hasDict = true → sysModules ∉ as := PyData.noDict_hsm (PyData.hasDict_of_canLay d (SeqAt.canLay_of_shaped hs))
  cases x with
  | non => cases ru; cases hd; exact PySem.P.repr_of_none ⟨.str _, H, I.tok _, ⟨_, rfl⟩, q⟩
  | bl b => cases ru; cases hd; exact PySem.P.repr_of_bool ⟨.str _, H, I.tok _, ⟨_, rfl⟩, q⟩
  | int i =>
    obtain ⟨t, rfl⟩ := ru
    cases hd
    exact PySem.P.repr_of_int (by simpa [PyData.showable] using hsh) ⟨.str _, H, I.tok _, ⟨_, rfl⟩, q⟩
  | str z =>
    obtain ⟨t, rfl⟩ := ru
    cases hd
    exact PySem.P.repr_of_str ⟨.str _, H, I.tok _, ⟨_, rfl⟩, q⟩ hl
  | ref a =>
    cases ru
    exact repr_of_reads' rd hsh hnd hg (by omega) (fun _ _ e => e) (fun h' u tk hk => ⟨.str _, H, I.kept (t' := tk) hk, ⟨_, rfl⟩, q⟩) hl
  | byt _ => cases hd
  | flt _ => cases hd
  | ty _ => cases hd
def reprD : D → Option D := fun d => if SeqAt.shaped d = true ∧ d.showable = true ∧ d.shown.length ≤ sizeLine then some (.str d.shown) else none
theorem cs_repr : ClS K (rReprA K) (g1 reprD) := cs1 fun Z H x d z Q zo hd hz hq => by
  unfold reprD at hz
  split at hz
  · rename_i h
    simp only [Option.some.injEq] at hz
    subst hz
    exact ⟨x, d, rfl, Dat.dp d x (.inl h.1) hd, h.1, h.2.1, h.2.2, hq _ H (Ext.refl H) (.str _)⟩
  · cases hz
/-! isinstance with a built-in class -/
def tyName : D → String
  | .none => "NoneType"
  | .bool _ => "bool"
  | .int _ => "int"
  | .str _ => "str"
  | .list _ => "list"
  | .tuple _ => "tuple"
  | .dict _ => "dict"
theorem Dat.tyX {H : Hp} {Z : List Addr} {d : D} {v : V} (h : Dat K (hid Z H) d v) : TyX K H v (.type (tyName d)) := by
  cases h with
  | non => exact .base .non
  | bl b => exact .base (.bl b)
  | int i => exact .base (.int i)
  | str x => exact .base (.str x)
  | lst h z r =>
    rcases h with (h | ⟨o, h⟩) | ⟨o, its, n, h1, h2, _⟩
    · exact .base (.lst (hidX Z H _ _ h))
    · exact .base (.frz (hidX Z H _ _ h))
    · exact .kList h1 h2
  | tup h z r =>
    rcases h with h | ⟨o, its, n, h1, h2, _⟩
    · exact .base (.tup (hidX Z H _ _ h))
    · exact .kTuple h1 h2
  | dk h r => exact .base (.dK (hidX Z H _ _ h))
  | dt h r => exact .base (.dT (hidX Z H _ _ h))
/-- isinstance(x, T) for x of a type by its name -/
def isiB (T : String) : D → Option Bool := fun d => kitB (tyName d) T
def isiE (T : String) (f : XE) : XE := fun ρ => (f ρ).bind fun p => (isiB T p.1).map fun b => (.bool b, p.2)
end
section
variable {ι : Type} {X : ι → Cx} {C : Ct} {mu : List Nat} {fr : Bool} {tc owl ow ow1 ow2 : List Nat} {N : List Str} {k : Nat}
section
variable {e : Expr} {es : List Expr} {fa : XA} {x : Str} {id : String} {r : List V → Hp → VK → Prop} {g : List D → Option D} {p pos : Pos}
theorem sem_cl {K : PySem.W.Frag} {t : TA} (hs : ClS K r g) (a2 : SemA K tc ow t fa) : Sem K tc ow (tCB r t) (clE g fa) := fun own Z ρ σ H d ρ' Q ho R hf hq => by
  unfold clE at hf
  cases e1 : fa ρ with
  | none => rw [e1] at hf; cases hf
  | some q =>
    obtain ⟨ds, ρ1⟩ := q
    rw [e1] at hf
    simp only [Option.bind_some] at hf
    cases e2 : g ds with
    | none => rw [e2] at hf; cases hf
    | some z =>
      rw [e2] at hf
      simp only [Option.map_some, Option.some.injEq, Prod.mk.injEq] at hf
      obtain ⟨rfl, rfl⟩ := hf
      exact a2 own Z ρ σ H ds _ _ ho R e1 fun vs H1 R1 g1 d1 => hs _ H1 vs ds _ Q R1.zok d1 e2 fun v H2 e d2 => hq v H2 (R1.ext e) (g1.trans (Grt.of e)) d2
theorem sem_clF {K : PySem.W.Frag} {t : TA} (hs : ClF K r g) (a2 : SemA K tc ow t fa) : SemF K tc ow (tCB r t) (clE g fa) := fun own Z ρ σ H d ρ' Q ho R hf hq => by
  unfold clE at hf
  cases e1 : fa ρ with
  | none => rw [e1] at hf; cases hf
  | some q =>
    obtain ⟨ds, ρ1⟩ := q
    rw [e1] at hf
    simp only [Option.bind_some] at hf
    cases e2 : g ds with
    | none => rw [e2] at hf; cases hf
    | some z =>
      rw [e2] at hf
      simp only [Option.map_some, Option.some.injEq, Prod.mk.injEq] at hf
      obtain ⟨rfl, rfl⟩ := hf
      refine a2 own Z ρ σ H ds _ _ ho R e1 fun vs H1 R1 g1 d1 => hs _ H1 vs ds _ Q R1.zok d1 e2 fun p o H2 e hn hp ob => ?_
      have hp0 : H p = none := by
        cases q : H p with
        | none => rfl
        | some u =>
          by_cases hm : p ∈ adr own
          · obtain ⟨o2, q2⟩ := R1.ain hm
            rw [hn] at q2; cases q2
          · rw [g1 p u q (nadr hm)] at hn; cases hn
      refine hq p o H2 (R1.hide hn (Gro.of e) (fun a ha => ?_) hp) (g1.trans (Grt.of e)) hp0 hp (by rw [hid_congr (Z' := p :: (adr own ++ Z)) fun a => mem_mid]; exact ob)
      obtain ⟨u, q⟩ := R1.ain ha
      rw [q, e a u q]
theorem re_bi (F : Fam X C N k) (hc : ∀ i, CallR (X i) (.builtin id) r) (hs : ClS C.K r g) (hm : C.mg x = none) (hv : bootBuiltins x = some (.builtin id)) (hg : ∀ i, Gl (X i) x) (ha : RA X C tc ow (e :: es) fa)
    (he : ∀ i, starEach (e :: es) (X i).env = (false, eval e (X i).env) :: starEach es (X i).env) (hpl : ∀ i, (backTo pos (starEach es (X i).env)).any (·.1) = false) (hn : x ≠ "__name__" := by decide) (hdb : (x == ("__debug__" : Str)) = false := by decide) :
    RE X C tc ow (.Call (.Name x p) (e :: es) [] pos) (clE g fa) := by
  obtain ⟨t, a1, a2⟩ := ha.ex
  exact ⟨_, fun i => pe_callB (hc i) (hg i) (by rw [F.mg i]; exact hm) hv (a1 i) hn hdb (he i) (hpl i), sem_cl hs a2⟩
theorem re_ty (F : Fam X C N k) (hc : ∀ i, CallR (X i) (.type id) r) (hs : ClS C.K r g) (hm : C.mg x = none) (hv : bootBuiltins x = some (.type id)) (hg : ∀ i, Gl (X i) x) (ha : RA X C tc ow (e :: es) fa)
    (he : ∀ i, starEach (e :: es) (X i).env = (false, eval e (X i).env) :: starEach es (X i).env) (hpl : ∀ i, (backTo pos (starEach es (X i).env)).any (·.1) = false) (hn : x ≠ "__name__" := by decide) (hdb : (x == ("__debug__" : Str)) = false := by decide) :
    RE X C tc ow (.Call (.Name x p) (e :: es) [] pos) (clE g fa) := by
  obtain ⟨t, a1, a2⟩ := ha.ex
  exact ⟨_, fun i => pe_callTy (hc i) (hg i) (by rw [F.mg i]; exact hm) hv (a1 i) hn hdb (he i) (hpl i), sem_cl hs a2⟩
theorem rf_ty (F : Fam X C N k) (hc : ∀ i, CallR (X i) (.type id) r) (hs : ClF C.K r g) (hm : C.mg x = none) (hv : bootBuiltins x = some (.type id)) (hg : ∀ i, Gl (X i) x) (ha : RA X C tc ow (e :: es) fa)
    (he : ∀ i, starEach (e :: es) (X i).env = (false, eval e (X i).env) :: starEach es (X i).env) (hpl : ∀ i, (backTo pos (starEach es (X i).env)).any (·.1) = false) (hn : x ≠ "__name__" := by decide) (hdb : (x == ("__debug__" : Str)) = false := by decide) :
    RF X C tc ow (.Call (.Name x p) (e :: es) [] pos) (clE g fa) := by
  obtain ⟨t, a1, a2⟩ := ha.ex
  exact ⟨_, fun i => pe_callTy (hc i) (hg i) (by rw [F.mg i]; exact hm) hv (a1 i) hn hdb (he i) (hpl i), sem_clF hs a2⟩
end
theorem re_isi {T : String} {TN : Str} {e : Expr} {f : XE} {p p2 pos : Pos} (F : Fam X C N k) (hm : C.mg "isinstance" = none) (hmT : C.mg TN = none) (hvT : bootBuiltins TN = some (.type T)) (hg : ∀ i, Gl (X i) "isinstance") (hgT : ∀ i, Gl (X i) TN) (h : RE X C tc ow e f)
    (h1 : ∀ i, starEach [e, .Name TN p2] (X i).env = (false, eval e (X i).env) :: starEach [.Name TN p2] (X i).env) (h2 : ∀ i, starEach [.Name TN p2] (X i).env = (false, eval (.Name TN p2) (X i).env) :: starEach [] (X i).env) (hpl : ∀ i, (backTo pos (starEach [.Name TN p2] (X i).env)).any (·.1) = false)
    (hnT : TN ≠ "__name__" := by decide) (hdT : (TN == ("__debug__" : Str)) = false := by decide) : RE X C tc ow (.Call (.Name "isinstance" p) [e, .Name TN p2] [] pos) (isiE T f) := by
  obtain ⟨t, a1, a2⟩ := h.ex
  refine ⟨tCB (rIsi C.K) (tCons t (tCons (tC (.ty T)) tNil)), fun i => pe_callB (by rw [← F.K i]; exact call_isi) (hg i) (by rw [F.mg i]; exact hm) boot_isinstance (pa_cons (a1 i) (pa_cons (pe_bltn (hgT i) (by rw [F.mg i]; exact hmT) hvT rfl hnT hdT) pa_nil (h2 i)) (h1 i)) (by decide) (by decide) (h1 i) (hpl i),
    fun own Z ρ σ H d ρ' Q ho R hf hq => ?_⟩
  unfold isiE at hf
  cases e1 : f ρ with
  | none => rw [e1] at hf; cases hf
  | some q =>
    obtain ⟨x, ρ1⟩ := q
    rw [e1] at hf
    simp only [Option.bind_some] at hf
    cases e2 : isiB T x with
    | none => rw [e2] at hf; cases hf
    | some b =>
      rw [e2] at hf
      simp only [Option.map_some, Option.some.injEq, Prod.mk.injEq] at hf
      obtain ⟨rfl, rfl⟩ := hf
      exact a2 own Z ρ σ H x _ _ ho R e1 fun v H1 R1 g1 d1 => ⟨v, .ty T, _, _, b, rfl, .ty T, d1.tyX, kit_ty e2, hq _ H1 R1 g1 (.bl b)⟩

/-! ## slices -/
abbrev XO := En → Option (Option Int × En)
def SemO (K : PySem.W.Frag) (tc ow : List Nat) (to : TO) (f : XO) : Prop := ∀ (own : Ow) (Z : List Addr) (ρ : En) (σ : L2.St) (H : Hp) (o : Option Int) (ρ' : En) (Q : Option Int → Hp → Prop), own.map (·.1) = ow → Rep K own Z ρ σ H → f ρ = some (o, ρ') →
  (∀ H', Rep K own Z ρ' σ H' → Grt tc own H H' → Q o H') → to σ H Q
structure RO {ι : Type} (X : ι → Cx) (C : Ct) (tc ow : List Nat) (e : Option Expr) (f : XO) : Prop where
  ex : ∃ to, (∀ i, PO (X i) e to) ∧ SemO C.K tc ow to f
def noO : XO := fun ρ => some (none, ρ)
def someO (f : XE) : XO := fun ρ => (f ρ).bind fun p => match p.1 with
  | .int i => some (some i, p.2)
  | _ => none
theorem ro_none : RO X C tc ow none noO := ⟨tNoPart, fun _ => po_none, fun own Z ρ σ H o ρ' Q ho R hf hq => by
  simp only [noO, Option.some.injEq, Prod.mk.injEq] at hf
  obtain ⟨rfl, rfl⟩ := hf
  exact hq H R Grt.refl⟩
theorem ro_some {e : Expr} {f : XE} (h : RE X C tc ow e f) : RO X C tc ow (some e) (someO f) := by
  obtain ⟨t, a1, a2⟩ := h.ex
  refine ⟨_, fun i => po_some (a1 i), fun own Z ρ σ H o ρ' Q ho R hf hq => ?_⟩
  unfold someO at hf
  cases e1 : f ρ with
  | none => rw [e1] at hf; cases hf
  | some q =>
    obtain ⟨x, ρ1⟩ := q
    rw [e1] at hf
    simp only [Option.bind_some] at hf
    refine a2 own Z ρ σ H x ρ1 _ ho R e1 fun v H1 R1 g1 d1 => ?_
    cases d1 with
    | int i =>
      simp only [Option.some.injEq, Prod.mk.injEq] at hf
      obtain ⟨rfl, rfl⟩ := hf
      exact ⟨i, rfl, hq H1 R1 g1⟩
    | _ => cases hf
def cutL {α : Type} (xs : List α) (lo hi : Option Int) : List α := (xs.drop (HT.sIx xs.length 0 lo)).take (HT.sIx xs.length xs.length hi - HT.sIx xs.length 0 lo)
theorem Dats.cut {K : PySem.W.Frag} {H : Hp} {ds : List D} {vs : List V} (h : Dats K H ds vs) (lo hi : Option Int) : Dats K H (cutL ds lo hi) (cutV vs lo hi) := by
  unfold cutL cutV
  rw [h.len]
  exact (h.drop _).take _
end
end Lay

namespace Lay
open PySem PySem.Spec PyProof.Rows L2

section
variable {ι : Type} {X : ι → Cx} {C : Ct} {mu : List Nat} {fr : Bool} {tc owl ow ow1 ow2 : List Nat} {N : List Str} {k : Nat}
/-! ## slices -/
def rSlX (K : PySem.W.Frag) : V → Option Int → Option Int → Hp → VK → Prop := fun x lo hi H Q => rSlL K x lo hi H Q ∨ rSlA K x lo hi H Q ∨ rSlS x lo hi H Q
theorem sl_X {Y : Cx} : SlR Y (rSlX Y.K) := sl_list.or (sl_tupA.or sl_str)
def slD (lo hi : Option Int) : D → Option D
  | .list ds => some (.list (cutL ds lo hi))
  | .tuple ds => some (.tuple (cutL ds lo hi))
  | .str z => if z.length ≤ sizeLine then some (.str (cutS z lo hi)) else none
  | _ => none
def slE (f : XE) (fl fh : XO) : XE := fun ρ => (f ρ).bind fun p => (fl p.2).bind fun q => (fh q.2).bind fun r => (slD q.1 r.1 p.1).map fun z => (z, r.2)
theorem sIx_all {n : Nat} {lo hi : Option Int} (h : HT.sIx n 0 lo = 0 ∧ HT.sIx n n hi = n) {α : Type} {xs : List α} (hx : xs.length = n) : cutL xs lo hi = xs := by
  unfold cutL
  rw [hx, h.1, h.2, List.drop_zero, Nat.sub_zero, ← hx, List.take_length]
theorem cutL_len {α : Type} (xs : List α) (lo hi : Option Int) : (cutL xs lo hi).length ≤ xs.length := by
  unfold cutL
  rw [List.length_take, List.length_drop]
  omega
theorem sl_sem {K : PySem.W.Frag} {Z : List Addr} {H : Hp} {x : V} {d z : D} {lo hi : Option Int} {Q : VK} (zo : Zok Z H) (hd : Dat K (hid Z H) d x) (hz : slD lo hi d = some z) (hq : ∀ v H', Ext H H' → Dat K (hid Z H') z v → Q v H') : rSlX K x lo hi H Q := by
  unfold slD at hz
  split at hz
  · cases hd with
    | lst h zl r =>
      simp only [Option.some.injEq] at hz
      subst hz
      exact .inl ⟨_, _, rfl, SqL.ext (hidX Z H) h, fun p hp => hq _ _ (Ext.new hp) (.lst (SqL.of (hid_upd (zok_nin zo hp))) (Nat.le_trans (cutV_length _ _ _) zl) ((r.cut lo hi).ext (Ext.new hp).hid'))⟩
  · cases hd with
    | tup h zl r =>
      simp only [Option.some.injEq] at hz
      subst hz
      refine .inr (.inl ⟨_, _, rfl, (h.mono (hidX Z H)).sq, fun hw => ?_, fun _ p hp => ?_⟩)
      · rw [sIx_all hw r.len] at hq
        exact hq _ H (Ext.refl H) (.tup h zl r)
      · exact hq _ _ (Ext.new hp) (.tup (.inl (hid_upd (zok_nin zo hp))) (Nat.le_trans (cutV_length _ _ _) zl) ((r.cut lo hi).ext (Ext.new hp).hid'))
  · split at hz
    · cases hd
      simp only [Option.some.injEq] at hz
      subst hz
      exact .inr (.inr ⟨_, rfl, ‹_›, hq _ H (Ext.refl H) (.str _)⟩)
    · cases hz
  · cases hz
theorem re_slice {e : Expr} {lo hi : Option Expr} {f : XE} {fl fh : XO} {p2 pos : Pos} (F : Fam X C N k) (h : RE X C tc ow e f) (hl : RO X C tc ow lo fl) (hh : RO X C tc ow hi fh) : RE X C tc ow (.Subscript e (.Slice lo hi none p2) pos) (slE f fl fh) := by
  obtain ⟨t, a1, a2⟩ := h.ex
  obtain ⟨tl, b1, b2⟩ := hl.ex
  obtain ⟨th, c1, c2⟩ := hh.ex
  refine ⟨tSl (rSlX C.K) t tl th, fun i => by rw [← F.K i]; exact pe_slice sl_X (a1 i) (b1 i) (c1 i), fun own Z ρ σ H d ρ' Q ho R hf hq => ?_⟩
  unfold slE at hf
  cases e1 : f ρ with
  | none => rw [e1] at hf; cases hf
  | some q =>
    obtain ⟨x, ρ1⟩ := q
    rw [e1] at hf
    simp only [Option.bind_some] at hf
    cases e2 : fl ρ1 with
    | none => rw [e2] at hf; cases hf
    | some q2 =>
      obtain ⟨lo', ρ2⟩ := q2
      rw [e2] at hf
      simp only [Option.bind_some] at hf
      cases e3 : fh ρ2 with
      | none => rw [e3] at hf; cases hf
      | some q3 =>
        obtain ⟨hi', ρ3⟩ := q3
        rw [e3] at hf
        simp only [Option.bind_some] at hf
        cases e4 : slD lo' hi' x with
        | none => rw [e4] at hf; cases hf
        | some z =>
          rw [e4] at hf
          simp only [Option.map_some, Option.some.injEq, Prod.mk.injEq] at hf
          obtain ⟨rfl, rfl⟩ := hf
          refine a2 own Z ρ σ H x ρ1 _ ho R e1 fun v H1 R1 g1 d1 => ?_
          refine b2 own Z ρ1 σ H1 lo' ρ2 _ ho R1 e2 fun H2 R2 g2 => ?_
          refine c2 own Z ρ2 σ H2 hi' _ _ ho R2 e3 fun H3 R3 g3 => ?_
          exact sl_sem R3.zok ((d1.ext g2.hid).ext g3.hid) e4 fun v H4 e d4 => hq v H4 (R3.ext e) (((g1.trans g2).trans g3).trans (Grt.of e)) d4

/-! ## x op= e, x[k] op= e -/
def augS (g : D → D → Option D) (i : Nat) (f : XE) : XS := fun ρ => match ρ[i]? with
  | some (some d) => (match f ρ with
    | some (e, ρ1) => (match g d e with
      | some z => .nx (ρ1.set i (some z))
      | none => .bad)
    | none => .bad)
  | _ => .bad
def rIAdd : R2 := fun x y H Q => rI0 (fun i j => .int (i + j)) x y H Q ∨ (fun x y H Q => ∃ i j, x = .str i ∧ y = .str j ∧ i.length + j.length ≤ sizeLine ∧ Q (.str (i ++ j)) H) x y H Q
theorem iop_addD {Y : Cx} : OpR Y (inplaceOp .Add) rIAdd := iop_add.or iop_add_str
def iaddD : D → D → Option D
  | .int a, .int b => some (.int (a + b))
  | .str a, .str b => if a.length + b.length ≤ sizeLine then some (.str (a ++ b)) else none
  | _, _ => none
theorem os_iadd {K : PySem.W.Frag} : OpS K rIAdd iaddD := fun Z H x y dx dy z Q zo hx hy hz hq => by
  unfold iaddD at hz
  split at hz
  · cases hx; cases hy
    simp only [Option.some.injEq] at hz
    subst hz
    exact .inl ⟨_, _, rfl, rfl, hq _ H (Ext.refl H) (.int _)⟩
  · cases hx; cases hy
    split at hz
    · simp only [Option.some.injEq] at hz
      subst hz
      exact .inr ⟨_, _, rfl, rfl, ‹_›, hq _ H (Ext.refl H) (.str _)⟩
    · cases hz
  · cases hz
theorem rs_aug {x : Str} {e : Expr} {f : XE} {op : Operator} {r : R2} {g : D → D → Option D} {pos pos' : Pos} (F : Fam X C N k) (i : Nat) (hop : ∀ j, OpR (X j) (inplaceOp op) r) (hos : OpS C.K r g) (he : RE X C tc ow e f) (hi : N[i]? = some x) (hx : ∀ j, Loc (X j).env.scope x) (hw : ow.contains i = false)
    (hf : ∀ j, (X j).fn x = true ∨ (X j).env.scope.names.lookup x = some .local) : RS X C mu fr owl ow ow (.AugAssign (.Name x pos') op e pos) (augS g i f) := by
  obtain ⟨t, a1, a2⟩ := he.ex
  refine ⟨_, fun j => ps_aug (i := i) (by rw [F.nm j]; exact F.nd) (by rw [F.nm j]; exact hi) (hx j) (a1 j) (hop j) (hf j), fun own Z ρ σ H E ho R h => ?_⟩
  unfold augS at h
  split at h
  · rename_i d ed
    split at h
    · rename_i e' ρ1 e1
      split at h
      · rename_i z e2
        obtain ⟨v, h1, h2⟩ := R.dat i d ed (notin_of ho hw)
        refine ⟨v, h1, a2 own Z ρ σ H e' ρ1 _ ho R e1 fun u H1 R1 g1 d1 => ?_⟩
        exact hos _ H1 v u d e' z _ R1.zok (h2.ext g1.hid) d1 e2 fun y H2 e d2 => h own _ H2 ho (Step.of (g1.all.trans (Gro.of e))) ((R1.ext e).set (notin_of ho hw) d2)
      · exact absurd h fun q => q
    · exact absurd h fun q => q
  · exact absurd h fun q => q
theorem pget_list {Y : Cx} : PGet Y (rIxL Y.K) := by
  intro pins s σ H o i ov iv Q I ro ri h
  obtain ⟨p, xs, n, z, rfl, rfl, hq, he, q⟩ := h
  cases ro
  obtain ⟨t, rfl⟩ := ri
  obtain ⟨its, r, pl, hz⟩ := I.list hq
  obtain ⟨j, h1, h2, h3, h4, h5⟩ := atI_get he
  obtain ⟨u, eu, ru⟩ := r.get h2
  have hl := r.length
  have hn := line63
  have fin : EP Y pins σ Q u s := ⟨z, H, I, ru, q⟩
  by_cases h0 : 0 ≤ n
  · have hj : n.toNat = j := by
      rw [seqIndex_of h0 h5] at h1
      exact Option.some.inj h1
    exact wpAny_getItem_list pl.isList h0 (by omega) (by rw [hj]; simpa using eu) fin
  · have hj : (n + (its.toArray.size : Int)).toNat = j := by
      rw [seqIndex_neg (by omega) h4] at h1
      rw [List.size_toArray, ← hl]
      exact Option.some.inj h1
    exact wpAny_getItem_list_neg pl.isList (by omega) (by rw [List.size_toArray]; omega) (by omega) (by rw [hj]; simpa using eu) fin
/-- x[n] op= e, n a written number -/
def augiS (g : D → D → Option D) (i : Nat) (n : Int) (f : XE) : XS := fun ρ => match getL i ρ with
  | none => .bad
  | some ds => match L2.atI ds n with
    | none => .bad
    | some d => match f ρ with
      | none => .bad
      | some (e, ρ1) => match getL i ρ1 with
        | none => .bad
        | some es => match g d e with
          | none => .bad
          | some z => match ixN es.length n with
            | none => .bad
            | some j => .nx (ρ1.set i (some (.list (es.set j z))))
theorem rs_augi {x : Str} {e : Expr} {f : XE} {op : Operator} {r : R2} {g : D → D → Option D} {n : Int} {jj : Nat} {p ip spos pos : Pos} (F : Fam X C N k) (i : Nat) (hop : ∀ j, OpR (X j) (inplaceOp op) r) (hos : OpS C.K r g) (he : RE X C tc ow e f) (hi : ow.contains i = true) (hN : N[i]? = some x) (hv : ∀ j, Vis (X j).env.scope x)
    (ha : ∀ (j : ι) ov iv new, augStore (.Constant (.int n) jj ip) ov iv new = (do holding [new, ov, iv] (setItem ov iv new); release [new, ov, iv] []; pure .next)) (hd : (x == ("__debug__" : Str)) = false := by decide) (hcd : (x == ("__classdict__" : Str)) = false := by decide) :
    RS X C mu fr owl ow ow (.AugAssign (.Subscript (.Name x p) (.Constant (.int n) jj ip) spos) op e pos) (augiS g i n f) := by
  obtain ⟨t, a1, a2⟩ := he.ex
  refine ⟨tAugS (tVar i) (tC (.int n)) t (rIxL C.K) r rSetL, fun j => by rw [← F.K j]; exact ps_augS (pe_var (i := i) (by rw [F.nm j]; exact hN) (hv j) hd hcd) pe_int pget_list (a1 j) (hop j) set_list (ha j), fun own Z ρ σ H E ho R h => ?_⟩
  unfold augiS at h
  split at h
  · exact absurd h fun q => q
  · rename_i ds e0
    split at h
    · exact absurd h fun q => q
    · rename_i d ed
      split at h
      · exact absurd h fun q => q
      · rename_i e' ρ1 e1
        split at h
        · exact absurd h fun q => q
        · rename_i es e2
          split at h
          · exact absurd h fun q => q
          · rename_i z e3
            split at h
            · exact absurd h fun q => q
            · rename_i m e4
              obtain ⟨a, hia, hs1, hob⟩ := R.slot ho hi
              obtain ⟨xs, k1, k2, k3⟩ := R.getL hia e0
              obtain ⟨v, h5, h6⟩ := k3.atI ed
              refine ⟨.ref a, hs1, a, xs, n, v, rfl, rfl, SqL.of k1, h5, a2 own Z ρ σ H e' ρ1 _ ho R e1 fun u H1 R1 g1 d1 => ?_⟩
              refine hos _ H1 v u d e' z _ R1.zok (h6.ext g1.hid) d1 e3 fun y H2 e d2 => ?_
              obtain ⟨xs', k4, k5, k6⟩ := (R1.ext e).getL hia e2
              rw [k6.len] at e4
              exact ⟨a, xs', n, m, rfl, rfl, k4, e4, h own σ _ ho (Step.of ((g1.all.trans (Gro.of e)).upd hia)) ((R1.ext e).upd hia (.lst (by rw [List.length_set]; exact k5) (k6.set d2 m)))⟩

/-! ## methods of texts -/
def splitD : D → D → Option D
  | .str a, .str b => if (b.length == 0) = false ∧ a.length + 2 ≤ sizeLine then some (.list ((PySem.Txt.split a b).map .str)) else none
  | _, _ => none
theorem dats_strs {K : PySem.W.Frag} {H : Hp} : ∀ ys : List Str, Dats K H (ys.map .str) (ys.map V.str)
  | [] => .nil
  | y :: ys => .cons (.str y) (dats_strs ys)
def m1E (g : D → D → Option D) (f h : XE) : XE := opE g f h
theorem rf_split {o e : Expr} {f h : XE} {apos pos : Pos} (hlen : ∀ a b : Str, (PySem.Txt.split a b).length ≤ a.length + 2) (ho : RE X C tc ow o f) (he : RE X C tc ow e h)
    (hpe : ∀ (j : ι) {to te : TE}, PE (X j) o to → PE (X j) e te → PE (X j) (.Call (.Attribute o "split" apos) [e] [] pos) (tM1 (fun x xs H Q => ∃ a b, x = .str a ∧ xs = [.str b] ∧ (b.length == 0) = false ∧ a.length + 2 ≤ sizeLine ∧ rNewStrs (PySem.Txt.split a b) H Q) to te)) :
    RF X C tc ow (.Call (.Attribute o "split" apos) [e] [] pos) (opE splitD f h) := by
  obtain ⟨t, a1, a2⟩ := ho.ex
  obtain ⟨u, b1, b2⟩ := he.ex
  refine ⟨_, fun j => hpe j (a1 j) (b1 j), fun own Z ρ σ H d ρ' Q hw R hf hq => ?_⟩
  obtain ⟨x, ρ1, y, h1, h2, h3⟩ := opE_some hf
  refine a2 own Z ρ σ H x ρ1 _ hw R h1 fun v H1 R1 g1 d1 => ?_
  unfold splitD at h3
  split at h3
  · rename_i a b
    split at h3
    · rename_i hc
      simp only [Option.some.injEq] at h3
      subst h3
      cases d1
      refine ⟨⟨a, rfl⟩, b2 own Z ρ1 σ H1 _ ρ' _ hw R1 h2 fun w H2 R2 g2 d2 => ?_⟩
      cases d2
      refine ⟨a, b, rfl, rfl, hc.1, hc.2, fun p hp => ?_⟩
      have hp0 : H p = none := by
        cases q : H p with
        | none => rfl
        | some u =>
          by_cases hm : p ∈ adr own
          · obtain ⟨o2, q2⟩ := R2.ain hm
            rw [hp] at q2; cases q2
          · rw [(g1.trans g2) p u q (nadr hm)] at hp; cases hp
      refine hq p _ _ (R2.hide hp (Gro.of (Ext.new hp)) (fun c hc => upd_ne fun z => ?_) upd_same) ((g1.trans g2).trans (Grt.of (Ext.new hp))) hp0 upd_same (.lst (by rw [List.length_map]; exact Nat.le_trans (hlen a b) hc.2) (dats_strs _))
      subst z
      obtain ⟨o2, q2⟩ := R2.ain hc
      rw [hp] at q2; cases q2
    · cases h3
  · cases h3
end
end Lay

namespace Lay
open PySem PySem.Spec PyProof.Rows L2

/-- the built-ins stand under their names -/
structure Blt (mg : Str → Option Value) : Prop where
  len : mg "len" = none
  abs : mg "abs" = none
  int : mg "int" = none
  str : mg "str" = none
  bool : mg "bool" = none
  tuple : mg "tuple" = none
  list : mg "list" = none
  dict : mg "dict" = none
  all : mg "all" = none
  any : mg "any" = none
  sum : mg "sum" = none
  max : mg "max" = none
  min : mg "min" = none
  repr : mg "repr" = none
  isinstance : mg "isinstance" = none
  range : mg "range" = none
  enumerate : mg "enumerate" = none
  zip : mg "zip" = none
  sorted : mg "sorted" = none
  set : mg "set" = none

/-- a module's constant -/
def Cst (C : Ct) (x : Str) (d : D) : Prop := ∃ a, C.mg x = some (.ref a) ∧ ∀ H, Dat C.K H d (.ref a)
def rLeD : R2 := fun x y H Q => rI0 (fun i j => .bl (decide (i ≤ j))) x y H Q ∨ (fun x y H Q => ∃ i j, x = .str i ∧ y = .str j ∧ Q (.bl (!decide (j.cps.toList < i.cps.toList))) H) x y H Q
theorem op_leD {X : Cx} : OpR X (compareOp .LtE) rLeD := op_le.or op_le_str
def leD : D → D → Option D
  | .int a, .int b => some (.bool (decide (a ≤ b)))
  | .str a, .str b => some (.bool (!decide (b.cps.toList < a.cps.toList)))
  | _, _ => none
theorem os_leD {K : PySem.W.Frag} : OpS K rLeD leD := fun Z H x y dx dy z Q zo hx hy hz hq => by
  unfold leD at hz
  split at hz
  · cases hx; cases hy
    simp only [Option.some.injEq] at hz
    subst hz
    exact .inl ⟨_, _, rfl, rfl, hq _ H (Ext.refl H) (.bl _)⟩
  · cases hx; cases hy
    simp only [Option.some.injEq] at hz
    subst hz
    exact .inr ⟨_, _, rfl, rfl, hq _ H (Ext.refl H) (.bl _)⟩
  · cases hz
section
variable {ι : Type} {X : ι → Cx} {C : Ct} {mu : List Nat} {fr : Bool} {tc owl ow ow1 ow2 : List Nat} {N : List Str} {k : Nat}
section
variable {a b c e : Expr} {es : List Expr} {fa fb fc f : XE} {fr' : XA} {p pos : Pos}
theorem re_cg (F : Fam X C N k) {x : Str} {d : D} (h : Cst C x d) (hg : ∀ j, Gl (X j) x) (hdb : (x == ("__debug__" : Str)) = false := by decide) : RE X C tc ow (.Name x pos) (cE d) := by
  obtain ⟨v, h1, h2⟩ := h
  exact re_glob F h1 h2 hg hdb
theorem re_leD (ha : RE X C tc ow a fa) (hb : RE X C tc ow b fb) : RE X C tc ow (.Compare a [.LtE] [b] pos) (opE leD fa fb) := re_cmp (fun i => op_leD) os_leD (nomark _) ha hb
theorem rt_leD (ha : RE X C tc ow a fa) (hb : RE X C tc ow b fb) : RT X C tc ow (.Compare a [.LtE] [b] pos) (tE (opE leD fa fb)) := rt_cmp (fun i => op_leD) os_leD (nomark _) ha hb
theorem re_leLt (ha : RE X C tc ow a fa) (hb : RE X C tc ow b fb) (hc : RE X C tc ow c fc) (hm : lastMarks [.LtE, .Lt] [b, c] = false) : RE X C tc ow (.Compare a [.LtE, .Lt] [b, c] pos) (chE leD ltD fa fb fc) :=
  re_chain os_leD os_lt ha hb hc fun i _ _ _ x y z => pe_chain op_leD op_ltD x y z hm
theorem re_leLe (ha : RE X C tc ow a fa) (hb : RE X C tc ow b fb) (hc : RE X C tc ow c fc) (hm : lastMarks [.LtE, .LtE] [b, c] = false) : RE X C tc ow (.Compare a [.LtE, .LtE] [b, c] pos) (chE leD leD fa fb fc) :=
  re_chain os_leD os_leD ha hb hc fun i _ _ _ x y z => pe_chain op_leD op_leD x y z hm
theorem rt_leLt (ha : RE X C tc ow a fa) (hb : RE X C tc ow b fb) (hc : RE X C tc ow c fc) (hm : lastMarks [.LtE, .Lt] [b, c] = false) : RT X C tc ow (.Compare a [.LtE, .Lt] [b, c] pos) (tE (chE leD ltD fa fb fc)) :=
  rt_chain os_leD os_lt ha hb hc fun i _ _ _ x y z => pt_chain op_leD op_ltD x y z hm
theorem rt_leLe (ha : RE X C tc ow a fa) (hb : RE X C tc ow b fb) (hc : RE X C tc ow c fc) (hm : lastMarks [.LtE, .LtE] [b, c] = false) : RT X C tc ow (.Compare a [.LtE, .LtE] [b, c] pos) (tE (chE leD leD fa fb fc)) :=
  rt_chain os_leD os_leD ha hb hc fun i _ _ _ x y z => pt_chain op_leD op_leD x y z hm
/-! built-ins by name -/
section
variable {B : Blt C.mg}
abbrev StarOk (X : ι → Cx) (e : Expr) (es : List Expr) : Prop := ∀ i, starEach (e :: es) (X i).env = (false, eval e (X i).env) :: starEach es (X i).env
abbrev PlainOk (X : ι → Cx) (es : List Expr) (pos : Pos) : Prop := ∀ i, (backTo pos (starEach es (X i).env)).any (·.1) = false
theorem re_len (F : Fam X C N k) (B : Blt C.mg) (ha : RE X C tc ow e f) (hg : ∀ i, Gl (X i) "len") (he : StarOk X e []) (hpl : PlainOk X [] pos) : RE X C tc ow (.Call (.Name "len" p) [e] [] pos) (clE (g1 lenD) (consA f nilA)) :=
  re_bi F (fun i => by rw [← F.K i]; exact call_lenA) cs_len B.len boot_len hg (ra_cons ha ra_nil he) he hpl
theorem re_abs (F : Fam X C N k) (B : Blt C.mg) (ha : RE X C tc ow e f) (hg : ∀ i, Gl (X i) "abs") (he : StarOk X e []) (hpl : PlainOk X [] pos) : RE X C tc ow (.Call (.Name "abs" p) [e] [] pos) (clE (g1 absD) (consA f nilA)) :=
  re_bi F (fun i => call_abs) cs_abs B.abs boot_abs hg (ra_cons ha ra_nil he) he hpl
theorem re_repr (F : Fam X C N k) (B : Blt C.mg) (ha : RE X C tc ow e f) (hg : ∀ i, Gl (X i) "repr") (he : StarOk X e []) (hpl : PlainOk X [] pos) : RE X C tc ow (.Call (.Name "repr" p) [e] [] pos) (clE (g1 reprD) (consA f nilA)) :=
  re_bi F (fun i => by rw [← F.K i]; exact call_reprA (F.gd i) (by have := (F.room i).un; omega)) cs_repr B.repr boot_repr hg (ra_cons ha ra_nil he) he hpl
theorem re_all (F : Fam X C N k) (B : Blt C.mg) (ha : RE X C tc ow e f) (hg : ∀ i, Gl (X i) "all") (he : StarOk X e []) (hpl : PlainOk X [] pos) : RE X C tc ow (.Call (.Name "all" p) [e] [] pos) (clE (g1 allD) (consA f nilA)) :=
  re_bi F (fun i => by rw [← F.K i]; exact cr_all (F.calm i)) cs_all B.all boot_all hg (ra_cons ha ra_nil he) he hpl
theorem re_any (F : Fam X C N k) (B : Blt C.mg) (ha : RE X C tc ow e f) (hg : ∀ i, Gl (X i) "any") (he : StarOk X e []) (hpl : PlainOk X [] pos) : RE X C tc ow (.Call (.Name "any" p) [e] [] pos) (clE (g1 anyD) (consA f nilA)) :=
  re_bi F (fun i => by rw [← F.K i]; exact cr_any (F.calm i)) cs_any B.any boot_any hg (ra_cons ha ra_nil he) he hpl
theorem re_sum (F : Fam X C N k) (B : Blt C.mg) (ha : RE X C tc ow e f) (hg : ∀ i, Gl (X i) "sum") (he : StarOk X e []) (hpl : PlainOk X [] pos) : RE X C tc ow (.Call (.Name "sum" p) [e] [] pos) (clE (g1 sumD) (consA f nilA)) :=
  re_bi F (fun i => by rw [← F.K i]; exact cr_sum (F.calm i)) cs_sum B.sum boot_sum hg (ra_cons ha ra_nil he) he hpl
theorem re_intc (F : Fam X C N k) (B : Blt C.mg) (ha : RE X C tc ow e f) (hg : ∀ i, Gl (X i) "int") (he : StarOk X e []) (hpl : PlainOk X [] pos) : RE X C tc ow (.Call (.Name "int" p) [e] [] pos) (clE (g1 intD) (consA f nilA)) :=
  re_ty F (fun i => call_intA) cs_int B.int boot_int hg (ra_cons ha ra_nil he) he hpl
theorem re_strc (F : Fam X C N k) (B : Blt C.mg) (ha : RE X C tc ow e f) (hg : ∀ i, Gl (X i) "str") (he : StarOk X e []) (hpl : PlainOk X [] pos) : RE X C tc ow (.Call (.Name "str" p) [e] [] pos) (clE (g1 strD) (consA f nilA)) :=
  re_ty F (fun i => call_strA) cs_str B.str boot_str hg (ra_cons ha ra_nil he) he hpl
theorem re_tuple (F : Fam X C N k) (B : Blt C.mg) (ha : RE X C tc ow e f) (hg : ∀ i, Gl (X i) "tuple") (he : StarOk X e []) (hpl : PlainOk X [] pos) : RE X C tc ow (.Call (.Name "tuple" p) [e] [] pos) (clE (g1 tupleD) (consA f nilA)) :=
  re_ty F (fun i => by rw [← F.K i]; exact call_tuple_of) cs_tuple B.tuple boot_tuple hg (ra_cons ha ra_nil he) he hpl
theorem rf_list (F : Fam X C N k) (B : Blt C.mg) (ha : RE X C tc ow e f) (hg : ∀ i, Gl (X i) "list") (he : StarOk X e []) (hpl : PlainOk X [] pos) : RF X C tc ow (.Call (.Name "list" p) [e] [] pos) (clE (g1 listD) (consA f nilA)) :=
  rf_ty F (fun i => by rw [← F.K i]; exact call_list_of) cf_list B.list boot_list hg (ra_cons ha ra_nil he) he hpl
theorem re_max2 (F : Fam X C N k) (B : Blt C.mg) (ha : RE X C tc ow e f) (hb : RE X C tc ow a fa) (hg : ∀ i, Gl (X i) "max") (he : StarOk X e [a]) (he2 : StarOk X a []) (hpl : PlainOk X [a] pos) : RE X C tc ow (.Call (.Name "max" p) [e, a] [] pos) (clE max2G (consA f (consA fa nilA))) :=
  re_bi F (fun i => call_max2 (F.calm i)) cs_max2 B.max boot_max hg (ra_cons ha (ra_cons hb ra_nil he2) he) he hpl
theorem re_min2 (F : Fam X C N k) (B : Blt C.mg) (ha : RE X C tc ow e f) (hb : RE X C tc ow a fa) (hg : ∀ i, Gl (X i) "min") (he : StarOk X e [a]) (he2 : StarOk X a []) (hpl : PlainOk X [a] pos) : RE X C tc ow (.Call (.Name "min" p) [e, a] [] pos) (clE min2G (consA f (consA fa nilA))) :=
  re_bi F (fun i => call_min2 (F.calm i)) cs_min2 B.min boot_min hg (ra_cons ha (ra_cons hb ra_nil he2) he) he hpl
end
end
/-! statements -/
theorem rs_retN {pos : Pos} (hm : mu = ow.filter fun i => mu.contains i) : RS X C mu false owl ow ow2 (.Return none pos) (fun ρ => .rt .none ρ) :=
  ⟨tRetN, fun _ => ps_retN, fun own Z ρ σ H E ho R h => h .non (keepO mu own) σ H (by rw [keepO_map, ho, ← hm]) (Step.keep (K := C.K) mu) (R.sub List.filter_sublist) .non⟩
/-- a, b = x, y: two plain local names -/
def parS (i j : Nat) (fa : XA) : XS := fun ρ => match fa ρ with
  | some ([d, e], ρ1) => .nx ((ρ1.set i (some d)).set j (some e))
  | _ => .bad
theorem rs_par {x y : Str} {a b : Expr} {fa : XA} {px py pt pos : Pos} {kt k2 : Nat} {pt2 : Pos} (F : Fam X C N k) (i j : Nat) (ha : RA X C tc ow [a, b] fa) (hi : N[i]? = some x) (hj : N[j]? = some y) (hij : i ≠ j) (wi : ow.contains i = false) (wj : ow.contains j = false)
    (hx : ∀ m, (X m).env.scope.names.lookup x = some .local) (hy : ∀ m, (X m).env.scope.names.lookup y = some .local)
    (hw : ∀ m, swappedStores [.Tuple [.Name x px, .Name y py] kt pt] (.Tuple [a, b] k2 pt2) (X m).env = pure (some [x, y])) (hs : ∀ m, swapsWithSole [.Tuple [.Name x px, .Name y py] kt pt] (.Tuple [a, b] k2 pt2) pos.line (X m).env = pure false) :
    RS X C mu fr owl ow ow (.Assign [.Tuple [.Name x px, .Name y py] kt pt] (.Tuple [a, b] k2 pt2) pos) (parS i j fa) := by
  obtain ⟨t, a1, a2⟩ := ha.ex
  refine ⟨_, fun m => ps_par (i := i) (j := j) (F.calm m) (by rw [F.nm m]; exact F.nd) (by rw [F.nm m]; exact hi) (by rw [F.nm m]; exact hj) hij (hx m) (hy m) (a1 m) (hw m) (hs m), fun own Z ρ σ H E ho R h => ?_⟩
  unfold parS at h
  split at h
  · rename_i d e ρ1 e1
    refine a2 own Z ρ σ H _ ρ1 _ ho R e1 fun vs H1 R1 g1 d1 => ?_
    cases d1 with
    | cons hd r =>
      cases r with
      | cons he r =>
        cases r
        exact ⟨_, _, rfl, h own _ H1 ho (Step.of g1.all) ((R1.set (notin_of ho wi) hd).set (notin_of ho wj) he)⟩
  · exact absurd h fun q => q
/-- a, b, .. = e -/
def setG (fg : XG) (f : XE) : XS := fun ρ => match f ρ with
  | some (d, ρ1) => (match fg d ρ1 with
    | some ρ2 => .nx ρ2
    | none => .bad)
  | none => .bad
theorem rs_asg {ts : List Nat} {tg e : Expr} {f : XE} {fg : XG} {pos : Pos} (he : RE X C tc ow e f) (hg : RG X C ow ts tg fg) (hs : ∀ m, swapsWithSole [tg] e pos.line (X m).env = pure false) (hw : ∀ m, swappedStores [tg] e (X m).env = pure none)
    (h1 : ∀ m, (assignEach [tg] (X m).env).map (·.2) = [assign tg (X m).env]) : RS X C mu fr owl ow ow (.Assign [tg] e pos) (setG fg f) := by
  obtain ⟨t, a1, a2⟩ := he.ex
  obtain ⟨g, b1, b2⟩ := hg.ex
  refine ⟨_, fun m => ps_asg (a1 m) (b1 m) (hs m) (hw m) (h1 m), fun own Z ρ σ H E ho R h => ?_⟩
  unfold setG at h
  split at h
  · rename_i d ρ1 e1
    split at h
    · rename_i ρ2 e2
      exact a2 own Z ρ σ H d ρ1 _ ho R e1 fun v H1 R1 g1 d1 => b2 own Z ρ1 σ H1 d v ρ2 _ ho R1 d1 e2 fun σ2 R2 _ => h own σ2 H1 ho (Step.of g1.all) R2
    · exact absurd h fun q => q
  · exact absurd h fun q => q
end
end Lay

namespace Lay
open PySem PySem.Spec PyProof.Rows L2

/-- enough turns for Euclid's loop -/
def fuN (i : Nat) (ρ : En) : Nat := match ρ[i]? with
  | some (some (.int n)) => n.natAbs + 1
  | _ => 0
section
variable {ι : Type} {X : ι → Cx} {C : Ct} {mu : List Nat} {fr : Bool} {tc owl ow ow1 ow2 : List Nat} {N : List Str} {k : Nat}
/-! y = [.. for ..] that reads what is owned -/
theorem rs_setLcB {y : Str} {py : Pos} {elt tg iter : Expr} {ifs : List Expr} {scope : Scope} {ownL : List (Str × Nat)} {pos spos : Pos} {ts : List Nat} {fi : XI} {fg : XG} {ft : XT} {fe : XE} (F : Fam X C N k) (j : Nat) (hy : N[j]? = some y) (hyl : ∀ i, (X i).env.scope.names.lookup y = some .local) (hw : ow.contains j = false)
    (hsw : ∀ i, swapsWith (.ListComp elt [⟨tg, iter, ifs, 0⟩] scope pos) (some (.Name y py)) spos.line (X i).env = pure true) (hb : ow1 = ow.filter fun i => ow1.contains i) (hi : RI X C [] ow1 tg iter fi) (ok : ∀ i, BlkOk N (X i).env.scope scope ownL)
    (hg : RG (blkF X scope) C ow1 ts tg fg) (ht : RQ (blkF X scope) C [] ow1 ifs ft) (he : RE (blkF X scope) C [] ow1 elt fe) (hs : ∀ i x, foldedSetIterable iter (X i).env x = pure x) (hts : ts.all (fun t => (ownL.map (·.2)).contains t) = true) (hv : (ownL.map (·.2)).all (fun v => !ow1.contains v) = true) :
    RS X C mu fr owl ow ow (.Assign [.Name y py] (.ListComp elt [⟨tg, iter, ifs, 0⟩] scope pos) spos) (setS j (borF (compE fi (ownL.map (·.2)) fg ft fe))) := by
  obtain ⟨wi, i1, i2⟩ := hi.ex
  obtain ⟨g, g1, g2⟩ := hg.ex
  obtain ⟨tt, t1, t2⟩ := ht.ex
  obtain ⟨te, e1, e2⟩ := he.ex
  refine ⟨_, fun i => ps_setLc (own := ownL) (F.calm i) (by rw [F.nm i]; exact F.nd) (by rw [F.nm i]; exact hy) (hyl i) (hsw i) (i1 i) (by rw [F.nm i]; exact ok i) (fun s H C' cl fp => g1 (i, s, H, C', cl, fp)) (fun s H C' cl fp => t1 (i, s, H, C', cl, fp)) (fun s H C' cl fp => e1 (i, s, H, C', cl, fp)) (hs i), ?_⟩
  exact sem_set (semF_bor (tc := []) (sem_lc i2 g2 t2 e2 (fun t h => List.contains_iff_mem.mp (List.all_eq_true.mp hts t h)) hv) hb).sem hw
/-! an item of what is owned -/
def ixoE (i : Nat) (fb : XE) : XE := fun ρ => match fb ρ with
  | some (.int n, ρ1) => (match getL i ρ1 with
    | some ds => (atI ds n).map fun d => (d, ρ1)
    | none => none)
  | _ => none
theorem re_ixo {x : Str} {b : Expr} {fb : XE} {p pos : Pos} (F : Fam X C N k) (i : Nat) (hi : ow.contains i = true) (hN : N[i]? = some x) (hv : ∀ j, Vis (X j).env.scope x) (hb : RE X C tc ow b fb) (hs : PlainIx b)
    (hd : (x == ("__debug__" : Str)) = false := by decide) (hcd : (x == ("__classdict__" : Str)) = false := by decide) : RE X C tc ow (.Subscript (.Name x p) b pos) (ixoE i fb) := by
  obtain ⟨tb, b1, b2⟩ := hb.ex
  refine ⟨_, fun j => pe_ix (r := rIx C.K) (by rw [← F.K j]; exact ix_seq) (pe_var (i := i) (by rw [F.nm j]; exact hN) (hv j) hd hcd) (b1 j) hs, fun own Z ρ σ H d ρ' Q ho R hf hq => ?_⟩
  unfold ixoE at hf
  split at hf
  · rename_i n ρ1 e1
    split at hf
    · rename_i ds e2
      cases e3 : atI ds n with
      | none => rw [e3] at hf; cases hf
      | some d' =>
        rw [e3] at hf
        simp only [Option.map_some, Option.some.injEq, Prod.mk.injEq] at hf
        obtain ⟨rfl, rfl⟩ := hf
        obtain ⟨a, hia, hs1, hob⟩ := R.slot ho hi
        refine ⟨.ref a, hs1, ?_⟩
        refine b2 own Z ρ σ H _ _ _ ho R e1 fun vk H1 R1 g1 dk => ?_
        obtain ⟨xs, k2, k3, k4⟩ := R1.getL hia e2
        cases dk
        obtain ⟨v, h2, h3⟩ := k4.atI e3
        exact .inl ⟨_, _, _, v, rfl, rfl, SqL.of k2, h2, hq v H1 R1 g1 h3⟩
    · cases hf
  · cases hf
/-! x[k], x[m] = e -/
def setit (i : Nat) (fk : XE) (d : D) : En → Option En := fun ρ => match fk ρ with
  | some (.int n, ρ2) => (match getL i ρ2 with
    | none => none
    | some ds => match ixN ds.length n with
      | none => none
      | some j => some (ρ2.set i (some (.list (ds.set j d)))))
  | _ => none
def swapS (i : Nat) (f f1 f2 : XE) : XS := fun ρ => match f ρ with
  | some (.tuple [d, e], ρ1) => (match setit i f1 d ρ1 with
    | some ρ2 => (match setit i f2 e ρ2 with
      | some ρ3 => .nx ρ3
      | none => .bad)
    | none => .bad)
  | _ => .bad
theorem sub_sem {K : PySem.W.Frag} {own : Ow} {Z : List Addr} {ρ ρ' : En} {σ : L2.St} {H : Hp} {i : Nat} {to tk : TE} {fk : XE} {d : D} {v : V} {Q : L2.St → Hp → Prop} (R : Rep K own Z ρ σ H) (ho : own.map (·.1) = ow) (hi : ow.contains i = true) (b2 : Sem K tc ow tk fk)
    (hto : ∀ v H (Q : VK), σ[i]? = some (some v) → Q v H → to σ H Q) (hd : Dat K (hid (adr own ++ Z) H) d v) (h : setit i fk d ρ = some ρ')
    (hq : ∀ H', Gro own H H' → (∀ d v, Dat K (hid (adr own ++ Z) H) d v → Dat K (hid (adr own ++ Z) H') d v) → Rep K own Z ρ' σ H' → Q σ H') : gSub to tk rSetL v σ H Q := by
  unfold setit at h
  split at h
  · rename_i n ρ2 e2
    split at h
    · cases h
    · rename_i ds e3
      split at h
      · cases h
      · rename_i j e4
        simp only [Option.some.injEq] at h
        subst h
        obtain ⟨a, hia, hs1, hob⟩ := R.slot ho hi
        refine hto _ H _ hs1 ?_
        refine b2 own Z ρ σ H _ ρ2 _ ho R e2 fun vk H2 R2 g2 dk => ?_
        obtain ⟨xs, k2, k3, k4⟩ := R2.getL hia e3
        cases dk
        rw [k4.len] at e4
        have aa : a ∈ adr own := List.mem_map.mpr ⟨_, hia, rfl⟩
        refine ⟨a, xs, n, j, rfl, rfl, k2, e4, hq _ (g2.all.upd hia) (fun d v q => ?_) (R2.upd hia (.lst (by rw [List.length_set]; exact k3) (k4.set (hd.ext g2.hid) j)))⟩
        rw [hid_updIn (List.mem_append_left _ aa)]
        exact q.ext g2.hid
  · cases h
theorem rs_swap {x : Str} {e k1 k2 : Expr} {f f1 f2 : XE} {p1 p2 s1 s2 tp pos : Pos} {kt : Nat} (F : Fam X C N k) (i : Nat) (he : RE X C tc ow e f) (h1 : RE X C tc ow k1 f1) (h2 : RE X C tc ow k2 f2) (hi : ow.contains i = true) (hN : N[i]? = some x) (hv : ∀ j, Vis (X j).env.scope x)
    (hg : ∀ (j : ι) {to t1 t2 te : TE}, PE (X j) (.Name x p1) to → PE (X j) (.Name x p2) to → PE (X j) k1 t1 → PE (X j) k2 t2 → PE (X j) e te → PS (X j) (.Assign [.Tuple [.Subscript (.Name x p1) k1 s1, .Subscript (.Name x p2) k2 s2] kt tp] e pos) (tAsg te (gTup (X j).K 2 (gCons (gSub to t1 rSetL) (gCons (gSub to t2 rSetL) gNil)))))
    (hd : (x == ("__debug__" : Str)) = false := by decide) (hcd : (x == ("__classdict__" : Str)) = false := by decide) :
    RS X C mu fr owl ow ow (.Assign [.Tuple [.Subscript (.Name x p1) k1 s1, .Subscript (.Name x p2) k2 s2] kt tp] e pos) (swapS i f f1 f2) := by
  obtain ⟨t, a1, a2⟩ := he.ex
  obtain ⟨t1, b1, b2⟩ := h1.ex
  obtain ⟨t2, c1, c2⟩ := h2.ex
  refine ⟨_, fun j => by
    have := hg j (pe_var (i := i) (by rw [F.nm j]; exact hN) (hv j) hd hcd) (pe_var (i := i) (by rw [F.nm j]; exact hN) (hv j) hd hcd) (b1 j) (c1 j) (a1 j)
    rw [F.K j] at this
    exact this, fun own Z ρ σ H E ho R h => ?_⟩
  unfold swapS at h
  split at h
  · rename_i d e ρ1 e1
    split at h
    · rename_i ρ2 e2
      split at h
      · rename_i ρ3 e3
        refine a2 own Z ρ σ H _ ρ1 _ ho R e1 fun v H1 R1 g1 d1 => ?_
        cases d1 with
        | tup s z r =>
          rename_i a xs
          cases r with
          | cons hd r =>
            cases r with
            | cons he r =>
              cases r
              refine ⟨_, _, rfl, (s.mono (fun a o q => (hid_some.mp q).2)).sq, rfl, _, _, rfl, ?_⟩
              refine sub_sem R1 ho hi b2 (fun v H Q q r => ⟨v, q, r⟩) hd e2 fun H2 g2 t2 R2 => ⟨_, _, rfl, ?_⟩
              refine sub_sem R2 ho hi c2 (fun v H Q q r => ⟨v, q, r⟩) (t2 _ _ he) e3 fun H3 g3 t3 R3 => ⟨rfl, ?_⟩
              exact h own σ H3 ho (Step.of ((g1.all.trans g2).trans g3)) R3
      · exact absurd h fun q => q
    · exact absurd h fun q => q
  · exact absurd h fun q => q
end
section
variable {C : Ct} {x : Str} {params : Arguments} {body : List Stmt} {scope : Scope} {ps : List Str}
/-- a function that may not be called any more: the end of a recursion's promise -/
theorem fnP0 (k : Nat) (hf : FnHere C x params body scope)
    (hb : ∀ (kV doc pm : Value) (an : Option Addr) (cdv ct : Value) (us : List Value), us.length = ps.length → bindArgs (PySem.W.fnOf x x params body scope .none kV doc pm an cdv ct) ⟨us, []⟩ = pure (ps.zip us)) :
    Fn C x k ps (spP C.K ps.length fun _ => none) := by
  obtain ⟨f, fd, hg, FD⟩ := hf
  refine ⟨f, fd, hg, FD.kp, FD.bindsN hb, ⟨fun vs H Q E h => ?_, fun A outer s H args us vs Q E hgd hr e0 hb r hsp => ?_⟩⟩
  · obtain ⟨Z, ds, d, hl, _⟩ := h
    exact hl
  · obtain ⟨Z, ds, d, hl, zo, hd, hF, hq⟩ := hsp
    cases hF
end
end Lay

namespace Lay
open PySem PySem.Spec PyProof.Rows L2

/-! ## the head: what stands behind the top -/
mutual
/-- a value of the module as data -/
def datB (K : PySem.W.Frag) : D → Value → Bool
  | .none, .none => true
  | .bool b, .bool c => b == c
  | .int i, .int j _ => decide (i = j)
  | .str x, .str y _ => decide (x = y)
  | .tuple ds, .ref a => (match K.lookup a with
    | some ⟨.type c, _, .seq its _, _⟩ => decide (c = "tuple") && (decide (its.size ≤ sizeLine) && datsB K ds its.toList)
    | _ => false)
  | _, _ => false
def datsB (K : PySem.W.Frag) : List D → List Value → Bool
  | [], [] => true
  | d :: ds, u :: us => datB K d u && datsB K ds us
  | _, _ => false
end
mutual
theorem datB_ok {K : PySem.W.Frag} : ∀ (d : D) (u : Value), datB K d u = true → ∃ v, RelV v u ∧ ∀ H, Dat K H d v
  | .none, u, h => by
    cases u with
    | none => exact ⟨.non, rfl, fun _ => .non⟩
    | _ => cases h
  | .bool b, u, h => by
    cases u with
    | bool c =>
      have e : b = c := eq_of_beq (show (b == c) = true from h)
      exact ⟨.bl b, by rw [e]; rfl, fun _ => .bl b⟩
    | _ => cases h
  | .int i, u, h => by
    cases u with
    | int j t =>
      have e : i = j := of_decide_eq_true h
      exact ⟨.int i, ⟨t, by rw [e]⟩, fun _ => .int i⟩
    | _ => cases h
  | .str x, u, h => by
    cases u with
    | str y t =>
      have e : x = y := of_decide_eq_true h
      exact ⟨.str x, ⟨t, by rw [e]⟩, fun _ => .str x⟩
    | _ => cases h
  | .tuple ds, u, h => by
    cases u with
    | ref a =>
      have h' : (match K.lookup a with
        | some ⟨.type c, _, .seq its _, _⟩ => decide (c = "tuple") && (decide (its.size ≤ sizeLine) && datsB K ds its.toList)
        | _ => false) = true := by rw [← h]; rfl
      split at h'
      · rename_i c od its n sl q
        rw [Bool.and_eq_true, Bool.and_eq_true] at h'
        obtain ⟨vs, r1, r2⟩ := datsB_ok ds _ h'.2.2
        have z := of_decide_eq_true h'.2.1
        refine ⟨.ref a, rfl, fun H => .tup (.inr ⟨_, its, n, q, congrArg Value.type (of_decide_eq_true h'.1), rfl, z, r1⟩) ?_ (r2 H)⟩
        have := r1.length
        simp only [Array.length_toList] at this
        omega
      · cases h'
    | _ => cases h
  | .list _, _, h => by cases h
  | .dict _, _, h => by cases h
theorem datsB_ok {K : PySem.W.Frag} : ∀ (ds : List D) (us : List Value), datsB K ds us = true → ∃ vs, Vals vs us ∧ ∀ H, Dats K H ds vs
  | [], [], _ => ⟨[], .nil, fun _ => .nil⟩
  | [], _ :: _, h => by cases h
  | _ :: _, [], h => by cases h
  | d :: ds, u :: us, h => by
    have h' : (datB K d u && datsB K ds us) = true := by rw [← h]; rfl
    rw [Bool.and_eq_true] at h'
    obtain ⟨v, r1, r2⟩ := datB_ok d u h'.1
    obtain ⟨vs, r3, r4⟩ := datsB_ok ds us h'.2
    exact ⟨v :: vs, .cons r1 r3, fun H => .cons (r2 H) (r4 H)⟩
end
/-- the module's constants -/
def cstB (K : PySem.W.Frag) (p : Str × D) : Bool := (match p.2 with
  | .tuple _ => true
  | _ => false) && datB K p.2 (.ref (He.ga K p.1))
theorem cstB_ok {K : PySem.W.Frag} {x : Str} {d : D} (h : cstB K (x, d) = true) (H : Hp) : Dat K H d (.ref (He.ga K x)) := by
  unfold cstB at h
  rw [Bool.and_eq_true] at h
  obtain ⟨v, r, q⟩ := datB_ok _ _ h.2
  have e : v = .ref (He.ga K x) := RelV.inj r (show RelV (.ref (He.ga K x)) (.ref (He.ga K x)) from rfl)
  exact e ▸ q H
abbrev AlL : Type := He.AlD × Bool
def obsL (fa : List He.Fa) (fn : List He.DefD) (cs : List (Str × D)) (K : PySem.W.Frag) : AlL := (He.obsD fa fn K, cs.all (cstB K))
def valL (fn : List He.DefD) : AlL := (He.valD fn, true)
structure SaysL (fa : List He.Fa) (fn : List He.DefD) (cs : List (Str × D)) (K : PySem.W.Frag) : Prop where
  d : He.SaysD fa fn K
  c : cs.all (cstB K) = true
def obsLG (n : Nat) (fa : List He.Fa) (fn : List He.DefD) (cs : List (Str × D)) (g : Addr → Option Obj) : AlL := obsL fa fn cs (He.frG g (He.asD g n))
def hookL (n : Nat) (fa : List He.Fa) (fn : List He.DefD) (cs : List (Str × D)) : PySem.W.Hook where
  α := AlL
  obs := fun s => obsLG n fa fn cs s.heap.get?
  val := fun _ => valL fn
  says := fun _ h => ∃ K : PySem.W.Frag, K.In h ∧ SaysL fa fn cs K
  of := fun _ _ e => ⟨_, He.frG_in, ⟨congrArg (fun z : AlL => z.1) e, congrArg (fun z : AlL => z.2) e⟩⟩
  keeps := fun _ _ _ ⟨K, hK, c⟩ k => ⟨K, PySem.W.Frag.In.keeps hK k, c⟩
theorem obsLG_eq {n : Nat} {fa : List He.Fa} {fn : List He.DefD} {cs : List (Str × D)} {g : Addr → Option Obj} {s : Shared} (h : ∀ a, g a = s.heap.get? a) : obsLG n fa fn cs g = (hookL n fa fn cs).obs s := by
  have e : g = s.heap.get? := funext h
  rw [e] <;> rfl
/-- a def of the top as a datum -/
def dD (x : Str) (st : Stmt) : He.DefD := ⟨(x, none), x, x, defArgs st, defBody st, defScope st, [], []⟩
/-- what the names stand for, in a heap that grew from that behind the top -/
structure Top (fa : List He.Fa) (fn : List He.DefD) (cs : List (Str × D)) (C : Ct) : Prop where
  s : SaysL fa fn cs C.K
  g : ∀ x, He.Fa.glo x ∈ fa → C.mg x = some (.ref (He.ga C.K x))
  f : ∀ x, He.Fa.free x ∈ fa → C.mg x = none
theorem Top.of {fa : List He.Fa} {fn : List He.DefD} {cs : List (Str × D)} {C : Ct} {h : Heap} (s : SaysL fa fn cs C.K) (X : C.K.In h) (G : h.Ns mainGlobals C.mg) : Top fa fn cs C :=
  ⟨s, fun _ m => He.glo_ok X G (s.d.facts m), fun _ m => He.free_ok X G (s.d.facts m)⟩
theorem Top.fn {fa : List He.Fa} {fn : List He.DefD} {cs : List (Str × D)} {C : Ct} (T : Top fa fn cs C) {x : Str} {st : Stmt} (i : Nat) (h : fn[i]? = some (dD x st)) (hg : He.Fa.glo x ∈ fa) : FnHere C x (defArgs st) (defBody st) (defScope st) := by
  obtain ⟨fd, F⟩ := T.s.d.def_ i h
  exact ⟨_, fd, T.g x hg, F⟩
theorem Top.gi {fa : List He.Fa} {fn : List He.DefD} {cs : List (Str × D)} {C : Ct} (T : Top fa fn cs C) {x : Str} (i : Nat) (h : fa[i]? = some (.glo x)) : C.mg x = some (.ref (He.ga C.K x)) := T.g x (List.mem_of_getElem? h)
theorem Top.fi {fa : List He.Fa} {fn : List He.DefD} {cs : List (Str × D)} {C : Ct} (T : Top fa fn cs C) {x : Str} (i : Nat) (h : fa[i]? = some (.free x)) : C.mg x = none := T.f x (List.mem_of_getElem? h)
theorem Top.fnI {fa : List He.Fa} {fn : List He.DefD} {cs : List (Str × D)} {C : Ct} (T : Top fa fn cs C) {x : Str} {st : Stmt} (i j : Nat) (h : fn[i]? = some (dD x st)) (hg : fa[j]? = some (.glo x)) : FnHere C x (defArgs st) (defBody st) (defScope st) := T.fn i h (List.mem_of_getElem? hg)
theorem Top.cst {fa : List He.Fa} {fn : List He.DefD} {cs : List (Str × D)} {C : Ct} (T : Top fa fn cs C) {x : Str} {d : D} (h : (x, d) ∈ cs) (hg : He.Fa.glo x ∈ fa) : Cst C x d :=
  ⟨_, T.g x hg, fun H => cstB_ok (List.all_eq_true.mp T.s.c _ h) H⟩
theorem Top.cstI {fa : List He.Fa} {fn : List He.DefD} {cs : List (Str × D)} {C : Ct} (T : Top fa fn cs C) {x : Str} {d : D} (i j : Nat) (h : cs[i]? = some (x, d)) (hg : fa[j]? = some (.glo x)) : Cst C x d := T.cst (List.mem_of_getElem? h) (List.mem_of_getElem? hg)
end Lay

namespace Lay
open PySem PySem.Spec PyProof.Rows L2

/-! ## a law's end: the law is called by the caller alone, whose reprs are not under way -/
section
variable {P : Program} {w : World} {K : PySem.W.Frag} {mg mb : Str → Option Value} {k : Nat} {fa a : Addr} {nm x : Str} {sp : Sp} {s : Shared} {us : List Value} {ns : List Int}
abbrev scr (us : List Value) : Obj := { cls := .type "list", data := .seq us.toArray }
theorem lawG_core {H : Hp} (kin : K.In s.heap) (nsm : s.heap.Ns mainGlobals mg) (nsb : s.heap.Ns builtinsNs mb) (bb : ∀ y : Str, y ≠ "__name__" → mb y = bootBuiltins y) (lim : s.heap.NoLimit) (gn : s.gens = #[])
    (at_ : s.heap.get? a = some (scr us)) (rm : Room k callerA)
    (named : mg nm = some (.ref fa)) (F : ∀ base : Heap, K.In base → base.Ns mainGlobals mg → Fn ⟨P, w, K, mg, base⟩ nm k [x] sp)
    (good : sp [.ref a] H (fun v _ => v = .bl true) fun _ _ _ => False) (ok : HOk P w H s.heap) (only : ∀ b u, H b = some u → b = a ∧ K.lookup a = none ∧ ∃ o xs, u = .frz o (.lst xs)) :
    codeAny (model P w) callerA (.call (.ref fa) ⟨[.ref a], []⟩) (fun r t => r = .ok (.ret (.bool true)) ∧ OldK s.heap t.heap ∧ t.os = s.os ∧ AllBare t.gens) s := by
  have free : ∀ {b : Addr} {o : Obj} {es : Array DictEntry} {n : Nat}, s.heap.get? b = some o → o.data = .dict es n → H b = none := fun {b o es n} g d => by
    cases q : H b with
    | none => rfl
    | some u =>
      have := (only b u q).1
      subst this
      rw [at_] at g
      cases g
      cases (show Data.seq us.toArray = Data.dict es n from d)
  have down : ∀ {b : Addr} {m : Str → Option Value}, s.heap.Ns b m → (hidT s.heap H).Ns b m := fun ⟨o, es, n, g, d, r⟩ => ⟨o, es, n, hidT_get g (free g d), d, r⟩
  have kb : K.In (hidT s.heap H) := fun b o g => hidT_get (kin b o g) (by
    cases q : H b with
    | none => rfl
    | some u =>
      have z := only b u q
      rw [z.1, z.2.1] at g
      cases g)
  have md : Mod K mg (hidT s.heap H) := ⟨kb, down nsm, ⟨mb, down nsb, bb⟩, by obtain ⟨mc, l1, l2⟩ := lim; exact ⟨mc, down l1, l2⟩⟩
  have e0 : Env0 P w K mg (hidT s.heap H) callerA [] s H := ⟨rfl, md, fun b o g => of_hidT g, Nat.le_of_eq (hidT_size _ _), trivial, fun b z => (List.not_mem_nil z).elim, ok, .of_eq gn⟩
  obtain ⟨f, fd, mgf, _, bn, G⟩ := (F _ kb (down nsm)).ex
  cases named.symm.trans mgf
  have run := G.run callerA [] s H ⟨[.ref a], []⟩ [.ref a] [.ref a] _ _ rfl rm e0 (bn s [.ref a] kin rfl) (.cons rfl .nil) good
  refine codeAny_mono run fun r t h => ?_
  rcases r with e | fl
  · exact h.elim
  · cases fl with
    | ret u =>
      obtain ⟨v, H', os, bare, un, ok', rv, q⟩ := h
      cases (show v = .bl true from q)
      cases (show u = Value.bool true from rv)
      refine ⟨rfl, OldK.of_keep fun b o g => ?_, os, bare⟩
      cases q : H b with
      | none => exact un.keep b o g q (fun z => (List.not_mem_nil z).elim) (by simp)
      | some u =>
        obtain ⟨_, _, ob, xs, rfl⟩ := only b u q
        have g1 := (ok b _ q).1
        rw [g] at g1
        cases g1
        exact (ok' b _ (un.frzs b _ _ q)).1
    | _ => exact (show False from h).elim
theorem lawG (kin : K.In s.heap) (nsm : s.heap.Ns mainGlobals mg) (nsb : s.heap.Ns builtinsNs mb) (bb : ∀ y : Str, y ≠ "__name__" → mb y = bootBuiltins y) (lim : s.heap.NoLimit) (gn : s.gens = #[])
    (at_ : s.heap.get? a = some (scr us)) (intsA : IntsAre us ns) (len : ns.length ≤ sizeLine) (rm : Room k callerA)
    (named : mg nm = some (.ref fa)) (F : ∀ base : Heap, K.In base → base.Ns mainGlobals mg → Fn ⟨P, w, K, mg, base⟩ nm k [x] sp)
    (good : ∀ H : Hp, SqL K H a (ns.map V.int) → sp [.ref a] H (fun v _ => v = .bl true) fun _ _ _ => False) :
    codeAny (model P w) callerA (.call (.ref fa) ⟨[.ref a], []⟩) (fun r t => r = .ok (.ret (.bool true)) ∧ OldK s.heap t.heap ∧ t.os = s.os ∧ AllBare t.gens) s := by
  have vs := vals_ints intsA
  have ln := intsA.length
  cases lk : K.lookup a with
  | some o =>
    have g := kin a o lk
    rw [at_] at g
    cases g
    exact lawG_core (H := fun _ => none) kin nsm nsb bb lim gn at_ rm named F (good _ (.inr ⟨_, us.toArray, _, lk, rfl, rfl, rfl, by rw [List.size_toArray, ln]; exact len, by simpa using vs⟩)) (fun b u z => nomatch z) (fun b u z => nomatch z)
  | none =>
    have hit : (fun b => if b = a then some (HO.frz (scr us) (.lst (ns.map V.int))) else none) a = some (HO.frz (scr us) (.lst (ns.map V.int))) := if_pos rfl
    refine lawG_core (H := fun b => if b = a then some (.frz (scr us) (.lst (ns.map V.int))) else none) kin nsm nsb bb lim gn at_ rm named F (good _ (.inl (.inr ⟨_, hit⟩))) (fun b u z => ?_) (fun b u z => ?_)
    · by_cases e : b = a
      · subst e
        cases hit.symm.trans z
        exact ⟨at_, by rw [List.length_map]; exact len, us, _, vs, at_⟩
      · cases (if_neg e).symm.trans z
    · by_cases e : b = a
      · subst e
        cases hit.symm.trans z
        exact ⟨rfl, lk, _, _, rfl⟩
      · cases (if_neg e).symm.trans z
end
/-- a script is data -/
theorem Dat.ints {K : PySem.W.Frag} {H : Hp} : ∀ ns : List Int, Dats K H (ns.map .int) (ns.map V.int)
  | [] => .nil
  | n :: ns => .cons (.int n) (Dat.ints ns)
theorem Dat.scr {K : PySem.W.Frag} {H : Hp} {a : Addr} {ns : List Int} (S : SqL K H a (ns.map V.int)) (hl : (ns.map V.int).length ≤ sizeLine) : Dat K (hid [] H) (.list (ns.map .int)) (.ref a) :=
  .lst (SqL.ext (fun _ _ q => hid_some.mpr ⟨List.not_mem_nil, q⟩) S) hl (Dat.ints ns)
/-- the walk that head_any asks for -/
theorem walkG {l : PySem.W.OpenLaw} {n k : Nat} {q : Program} {loose : List Str} {XP : (Str → Option Value) → Heap → Prop} {YP : World → Heap → Prop} {d : DefRec} {x : Str} (most : l.most = some n) (small : n ≤ sizeLine) (nod : d.params.defaults = []) (rm : Room k callerA)
    (F : ∀ (w : World) (mg : Str → Option Value) (fa : Addr) (h : Heap), YP w h → h.Ns mainGlobals mg → mg d.name = some (.ref fa) →
      ∃ (K : PySem.W.Frag) (sp : Sp), K.In h ∧
        (∀ (H : Hp) (a : Addr) (ns : List Int), ns.length ≤ n → SqL K H a (ns.map V.int) → sp [.ref a] H (fun v _ => v = .bl true) fun _ _ _ => False) ∧
        ∀ base : Heap, K.In base → base.Ns mainGlobals mg → Fn ⟨l.prog, w, K, mg, base⟩ d.name k [x] sp) :
    PySem.W.WalkO q loose XP YP l.row.toRowW d [] (fun f vs => PySem.call f vs) :=
  Att.attach_call most nod fun w _ s mg mb fa _ _ _ _ a us ns G Y _ _ _ named ob intsA len gn => by
    obtain ⟨K, sp, kin, good, run⟩ := F w mg fa _ Y G.T.g named
    exact lawG kin G.T.g G.T.b G.T.builtins G.T.nolimit gn ob intsA (Nat.le_trans len small) rm named run fun H => good H a ns len
end Lay

namespace Lay
open PySem PySem.Spec PyProof.Rows L2

/-! ## enumerate over a tuple -/
set_option maxHeartbeats 1000000 in
theorem en_new {u : Value} {ob : Obj} {G : Heap → Prop} (B : Begins u ob G) :
    Meets (Builtin.«enumerate.__new__» ⟨[.type "enumerate", u], []⟩) (fun _ R s => G s.heap ∧
      R (.ok (.ret (.ref (s.heap.push ob).objs.size))) { s with heap := (s.heap.push ob).push { cls := .type "enumerate", data := .fields #[.none, .bool false, .ref s.heap.objs.size, rawInt 0, .none, .none] } }) :=
  .of_wp fun p w A R s hh => by
    obtain ⟨hp, gn, dr, tk, os⟩ := s
    obtain ⟨g1, hh⟩ := hh
    have subs := sub_enumerate
    have it : ∀ {A2 : Around} {E2 : Value → Shared → Prop} {Q2 : Value → Shared → Prop}, Q2 (.ref hp.objs.size) ⟨hp.push ob, gn, dr, tk, os⟩ → wpAny (model p w) A2 (pyIter u) Q2 E2 ⟨hp, gn, dr, tk, os⟩ := fun q => B.iter p w _ _ ⟨hp, gn, dr, tk, os⟩ _ g1 q
    wp_walk using it
    refine wpAny_stack_any fun _ => wpAny_pure ?_
    split
    · rename_i c _ _ _ _ _
      cases (c == Value.type "enumerate") <;> (wp_walk using it; exact ⟨_, rfl, hh⟩)
    · wp_walk using it
      exact ⟨_, rfl, hh⟩
theorem en_call {p : Program} {w : World} {A : Around} {E : Value → Shared → Prop} {s : Shared} {u : Value} {ob : Obj} {G : Heap → Prop} {Q : Value → Shared → Prop} (B : Begins u ob G) (g : G s.heap)
    (q : ∀ h2, IsEnum h2 (s.heap.objs.size + 1) s.heap.objs.size 0 .none → h2.get? s.heap.objs.size = some ob → (∀ b o, s.heap.get? b = some o → h2.get? b = some o) → Q (.ref (s.heap.objs.size + 1)) { s with heap := h2 }) :
    wpAny (model p w) A (call (.type "enumerate") [u]) Q E s := by
  refine callType_new F.called_enumerate (by decide) (F.typeCall_enumerate_1 _) (F.newCall_enumerate_1 _) (fun obj => F.args_object_init_2 obj _) F.entry_enumerate_new (en_new B) ⟨g, ?_⟩
  have z : (s.heap.push ob).objs.size = s.heap.objs.size + 1 := Heap.size_push ..
  have o1 : (s.heap.push ob).get? s.heap.objs.size = some ob := Heap.get?_push_size _ B.free
  show _ ∧ _
  rw [z]
  have en : IsEnum ((s.heap.push ob).push { cls := .type "enumerate", data := .fields #[.none, .bool false, .ref s.heap.objs.size, rawInt 0, .none, .none] }) (s.heap.objs.size + 1) s.heap.objs.size 0 .none := by
    have t := Heap.get?_push_size (s.heap.push ob) (o := { cls := .type "enumerate", data := .fields #[.none, .bool false, .ref s.heap.objs.size, rawInt 0, .none, .none] }) rfl
    rw [z] at t
    exact t
  exact ⟨⟨_, en, rfl⟩, q _ en (Heap.get?_push_of_some _ o1) fun b o x => Heap.get?_push_of_some _ (Heap.get?_push_of_some _ x)⟩
def Iten (K : PySem.W.Frag) (a : Addr) : It :=
  ⟨fun i H => ∃ (xs : List V) (x : V), SqT K H a xs ∧ xs[i]? = some x, fun i H v H' => ∃ T x, v = .ref T ∧ H T = none ∧ H' = upd H T (.tup [.int (i : Nat), x]) ∧ ∀ xs, SqT K H a xs → xs[i]? = some x, fun i H => ∃ xs : List V, SqT K H a xs ∧ xs.length = i⟩

theorem turn_en {P : Program} {w : World} {K : PySem.W.Frag} {elts : List Expr} {kk : Nat} {tpos : Pos} (a e it : Addr) :
    Turn P w K (.Tuple elts kk tpos) (Iten K a) [e, it] e (fun i h => (∃ old, IsEnum h e it ((i : Nat) : Int) old) ∧ h.IsTupleIter it a i ∧ e ≠ it) where
  mem := List.mem_cons_self
  obj := fun i h st b hb => by
    obtain ⟨⟨old, en⟩, ⟨o, ho, hc, hd⟩, _⟩ := st
    rcases List.mem_cons.mp hb with z | z
    · subst z
      exact ⟨_, en, fun v q => nomatch q⟩
    · rw [List.mem_singleton.mp z]
      exact ⟨o, ho, fun v q => by rw [hd] at q; cases q⟩
  keep := fun i h h' st k => by
    obtain ⟨⟨old, en⟩, ti, ne⟩ := st
    exact ⟨⟨old, k e List.mem_cons_self _ en⟩, ti.at fun o q => k it (List.mem_cons_of_mem _ List.mem_cons_self) o q, ne⟩
  item := by
    intro X hP hw hK hc i pins s σ H E I hf st hg
    subst hP hw hK
    obtain ⟨⟨old, en⟩, ti, ne⟩ := st
    obtain ⟨xs, x, hq, hx⟩ := hg
    obtain ⟨its, rv, p, hz⟩ := I.tuple hq
    obtain ⟨u, hu, ru⟩ := rv.get hx
    have p' : s.heap.IsTuple a its.toArray := p
    have ai : a ≠ it := fun z => by
      subst z
      obtain ⟨o, g1, c1, _⟩ := p
      obtain ⟨o2, g2, c2, _⟩ := ti
      rw [g1] at g2
      cases g2
      rw [c1] at c2
      injection c2 with q
      exact absurd q (by decide)
    have ae : a ≠ e := fun z => by
      subst z
      obtain ⟨o, g1, c1, _⟩ := p
      rw [show s.heap.get? a = _ from en] at g1
      cases g1
      injection c1 with q
      exact absurd q (by decide)
    have hel : e < s.heap.objs.size := Heap.lt_size en
    have hil : it < s.heap.objs.size := by obtain ⟨_, q, _⟩ := ti; exact Heap.lt_size q
    have iu : its.toArray[i]? = some u := by simpa using hu
    have il : i < its.toArray.size := by
      rcases Nat.lt_or_ge i its.toArray.size with q | q
      · exact q
      · rw [Array.getElem?_eq_none q] at iu; cases iu
    refine wpAny_pyNext_enum_itemD (Draws.tuple (prog := X.prog) (w := X.w) (A := X.A.in1) (I.ok.hd hc) it a ai its.toArray) en ⟨ti, p'⟩ il ne (by simp [ne, Ne.symm ae]) fun y h' tk hy ho st' hT hsz hk => ?_
    have yu : u = y := Option.some.inj (iu.symm.trans hy)
    subst yu
    refine ⟨_, rfl, wpAny_letOwnedTupleGo_enum (s := { s with heap := h', toks := tk + 1 }) ho fun h2 en2 sb => ?_⟩
    have hT2 : h2.get? s.heap.objs.size = some { cls := .type "tuple", data := .seq #[.int i tk, u] } := (sb.2 _ (Nat.ne_of_gt hel)).trans hT
    have new : ObjOk X.prog X.w (upd H s.heap.objs.size (.tup [.int (i : Nat), x])) h2 s.heap.objs.size (.tup [.int (i : Nat), x]) := ⟨by show 2 ≤ sizeLine; decide, [.int i tk, u], .cons ⟨_, rfl⟩ (.cons ru .nil), ⟨_, hT2, rfl, _, rfl⟩⟩
    have I1 : Inv X pins σ (upd H s.heap.objs.size (.tup [.int (i : Nat), x])) { s with heap := h2, toks := tk + 1 } :=
      I.turnedNew (ch := [e, it]) (fun b ob hb q => by
        have b1 : b ≠ e := fun z => hb (by rw [z]; exact List.mem_cons_self)
        have b2 : b ≠ it := fun z => hb (by rw [z]; exact List.mem_cons_of_mem _ List.mem_cons_self)
        exact (sb.2 b b1).trans (hk b ob b1 b2 q)) hf (Nat.le_refl _) new
    refine ⟨.ref s.heap.objs.size, _, I1, rfl, ⟨_, x, rfl, I.hok.fresh (Nat.le_refl _), rfl, fun ys hy => by rw [I.tuple_inj hy hq]; exact hx⟩, ⟨⟨u, ?_⟩, st'.1.at fun o q => (sb.2 it (Ne.symm ne)).trans q, ne⟩, fun b hb => ?_⟩
    · rw [show ((i + 1 : Nat) : Int) = (i : Int) + 1 by omega]
      exact en2
    · have lt : b < s.heap.objs.size := by
        rcases List.mem_cons.mp hb with z | z
        · rw [z]; exact hel
        · rw [List.mem_singleton.mp z]; exact hil
      rw [upd_ne (Nat.ne_of_lt lt)]
      exact (hf b hb).1
  done := by
    intro X hP hw hK hc i pins s σ H E I hf st hg
    subst hP hw hK
    obtain ⟨⟨old, en⟩, ti, ne⟩ := st
    obtain ⟨xs, hq, hx⟩ := hg
    obtain ⟨its, rv, p, hz⟩ := I.tuple hq
    have p' : s.heap.IsTuple a its.toArray := p
    have ai : a ≠ it := fun z => by
      subst z
      obtain ⟨o, g1, c1, _⟩ := p
      obtain ⟨o2, g2, c2, _⟩ := ti
      rw [g1] at g2
      cases g2
      rw [c1] at c2
      injection c2 with q
      exact absurd q (by decide)
    obtain ⟨f0, f1, f2, f3, f4, f5⟩ := hf it (List.mem_cons_of_mem _ List.mem_cons_self)
    have ix : i = its.toArray.size := by
      have := rv.length
      rw [List.size_toArray]
      omega
    refine wpAny_pyNext_enum_endD (Draws.tuple (prog := X.prog) (w := X.w) (A := X.A.in1) (I.ok.hd hc) it a ai its.toArray) en ⟨by rw [← ix]; exact ti, p'⟩ fun h' eb => ⟨rfl, ?_⟩
    exact I.turned (t' := s.toks) (fun b o hb q => eb b o hb q) f0 f1 f3 f4 f5
  self := fun A i s Q E st h => by
    obtain ⟨⟨_, en⟩, _⟩ := st
    exact wpAny_pyIter_enum en h
/-- .. as it walks -/
theorem wk_enumN {K : PySem.W.Frag} {Zs : List Addr} {H0 : Hp} {a : Addr} {xs : List V} {ds : List D} (h : TupAt K (hid Zs H0) a xs) (r : Dats K (hid Zs H0) ds xs) : Wk K Zs H0 (Iten K a) (ds.zipIdx.map fun p => .tuple [.int (p.2 : Nat), p.1]) := fun Zs' H e zo => by
  have hq : SqT K H a xs := ((h.mono e).mono (hidX Zs' H)).sq
  have r' := r.ext e
  refine ⟨fun i hi => ?_, fun i x H' hi hy => ?_, ⟨xs, hq, by simp [r.len]⟩⟩
  · have hi : i < ds.length := by simpa using hi
    obtain ⟨v, h1, _⟩ := r'.get (List.getElem?_eq_getElem hi)
    exact ⟨xs, v, hq, h1⟩
  · obtain ⟨T, v, rfl, hn, rfl, hx⟩ := hy
    obtain ⟨d, h1, h2⟩ := r'.getV (hx xs hq)
    exact ⟨Ext.new hn, .tuple [.int i, d], by simp [List.getElem?_map, List.getElem?_zipIdx, h1], dat2 zo hn (.int _) h2⟩
def iEnumN (K : PySem.W.Frag) (ta : TA) : TI := fun σ H R => ta σ H fun vs H1 => ∃ a xs, vs = [.ref a] ∧ SqT K H1 a xs ∧ R (Iten K a) H1
theorem pi_enumN {X : Cx} {e : Expr} {ta : TA} {p pos tpos : Pos} {elts : List Expr} {kk : Nat} (hg : Gl X "enumerate") (hm : X.mg "enumerate" = none) (ha : PA X [e] ta) (hs : starEach [e] X.env = [(false, eval e X.env)]) :
    PI X (.Tuple elts kk tpos) (.Call (.Name "enumerate" p) [e] [] pos) (iEnumN X.K ta) := by
  refine ⟨fun pins s σ H R I h => ?_⟩
  refine Call_ (ld_blt I hg hm boot_enumerate (PyProof.Rows.callWith_type1 (thn (ha.run pos pins s σ H _ I h) fun us t ⟨vs, H1, I1, r1, q1⟩ => ?_) hs rfl))
  obtain ⟨a, xs, rfl, hq, q⟩ := q1
  cases r1 with
  | cons r rr =>
    cases rr
    cases r
    obtain ⟨its, rv, p', hz⟩ := I1.tuple hq
    refine en_call (begins_tuple a its.toArray) (show t.heap.IsTuple a its.toArray from p') fun h' en oi hk => wpAny_pyIter_enum en ?_
    have I2 : Inv X pins σ H1 { t with heap := h' } := I1.kept (t' := t.toks) hk
    refine ⟨t.heap.objs.size + 1, [t.heap.objs.size + 1, t.heap.objs.size], _, _, H1, rfl, I2, turn_en a (t.heap.objs.size + 1) t.heap.objs.size, ⟨⟨.none, en⟩, ⟨_, oi, rfl, rfl⟩, Nat.succ_ne_self _⟩, fun b hb => ?_, q⟩
    have le : t.heap.objs.size ≤ b := by
      rcases List.mem_cons.mp hb with z | z
      · rw [z]; exact Nat.le_add_right _ _
      · rw [List.mem_singleton.mp z]; exact Nat.le_refl _
    exact I1.fpOk le (I1.hok.fresh le)
/-- enumerate of a tuple -/
def enumT (fa : XA) : XI := fun ρ => (fa ρ).bind fun p => match p.1 with
  | [.tuple ds] => some (ds.zipIdx.map fun p => .tuple [.int (p.2 : Nat), p.1], p.2)
  | _ => none
section
variable {ι : Type} {X : ι → Cx} {C : Ct} {tc ow : List Nat} {N : List Str} {k : Nat}
theorem ri_enumT {a : Expr} {fa : XA} {p pos tpos : Pos} {elts : List Expr} {kk : Nat} (F : Fam X C N k) (hm : C.mg "enumerate" = none) (hg : ∀ i, Gl (X i) "enumerate") (ha : RA X C tc ow [a] fa) (hs : ∀ i, starEach [a] (X i).env = [(false, eval a (X i).env)]) :
    RI X C tc ow (.Tuple elts kk tpos) (.Call (.Name "enumerate" p) [a] [] pos) (enumT fa) := by
  obtain ⟨t, a1, a2⟩ := ha.ex
  refine ⟨iEnumN C.K t, fun i => by rw [← F.K i]; exact pi_enumN (hg i) (by rw [F.mg i]; exact hm) (a1 i) (hs i), fun own Z ρ σ H ds ρ' R' ho R hf hq => ?_⟩
  unfold enumT at hf
  cases e1 : fa ρ with
  | none => rw [e1] at hf; cases hf
  | some q =>
    obtain ⟨as, ρ1⟩ := q
    rw [e1] at hf
    simp only [Option.bind_some] at hf
    refine a2 own Z ρ σ H as ρ1 _ ho R e1 fun vs H1 R1 g1 d1 => ?_
    split at hf
    · simp only [Option.some.injEq, Prod.mk.injEq] at hf
      obtain ⟨rfl, rfl⟩ := hf
      cases d1 with
      | cons h r =>
        cases r
        cases h with
        | tup h z r => exact ⟨_, _, rfl, (h.mono (hidX _ H1)).sq, hq _ H1 R1 g1 (by simp [r.len]; exact z) (wk_enumN h r)⟩
    · cases hf
end
end Lay

namespace Lay
open PySem PySem.Spec PyProof.Rows L2
section
variable {ι : Type} {X : ι → Cx} {C : Ct} {tc ow : List Nat}
variable {a b c : Expr} {fa fb fc : XE} {pos : Pos}
theorem re_ltLe (ha : RE X C tc ow a fa) (hb : RE X C tc ow b fb) (hc : RE X C tc ow c fc) (hm : lastMarks [.Lt, .LtE] [b, c] = false) : RE X C tc ow (.Compare a [.Lt, .LtE] [b, c] pos) (chE ltD leD fa fb fc) :=
  re_chain os_lt os_leD ha hb hc fun i _ _ _ x y z => pe_chain op_ltD op_leD x y z hm
theorem rt_ltLe (ha : RE X C tc ow a fa) (hb : RE X C tc ow b fb) (hc : RE X C tc ow c fc) (hm : lastMarks [.Lt, .LtE] [b, c] = false) : RT X C tc ow (.Compare a [.Lt, .LtE] [b, c] pos) (tE (chE ltD leD fa fb fc)) :=
  rt_chain os_lt os_leD ha hb hc fun i _ _ _ x y z => pt_chain op_ltD op_leD x y z hm
theorem re_ltLt (ha : RE X C tc ow a fa) (hb : RE X C tc ow b fb) (hc : RE X C tc ow c fc) (hm : lastMarks [.Lt, .Lt] [b, c] = false) : RE X C tc ow (.Compare a [.Lt, .Lt] [b, c] pos) (chE ltD ltD fa fb fc) :=
  re_chain os_lt os_lt ha hb hc fun i _ _ _ x y z => pe_chain op_ltD op_ltD x y z hm
theorem rt_ltLt (ha : RE X C tc ow a fa) (hb : RE X C tc ow b fb) (hc : RE X C tc ow c fc) (hm : lastMarks [.Lt, .Lt] [b, c] = false) : RT X C tc ow (.Compare a [.Lt, .Lt] [b, c] pos) (tE (chE ltD ltD fa fb fc)) :=
  rt_chain os_lt os_lt ha hb hc fun i _ _ _ x y z => pt_chain op_ltD op_ltD x y z hm
end
section
variable {ι : Type} {X : ι → Cx} {C : Ct} {mu : List Nat} {fr : Bool} {tc owl ow : List Nat} {N : List Str} {k : Nat}
/-- x.extend(a new list), x owned -/
theorem rs_extF {x : Str} {e : Expr} {f : XE} {p apos cpos pos : Pos} (F : Fam X C N k) (i : Nat) (he : RF X C tc ow e f) (hi : ow.contains i = true) (hN : N[i]? = some x) (hv : ∀ j, Vis (X j).env.scope x)
    (hpe : ∀ (j : ι) {to te : TE}, PE (X j) (.Name x p) to → PE (X j) e te → PE (X j) (.Call (.Attribute (.Name x p) "extend" apos) [e] [] cpos) (tBM (X j).K "list" rExtend to (tCons te tNil)))
    (hs : ∀ j, swapsWith (.Call (.Attribute (.Name x p) "extend" apos) [e] [] cpos) none pos.line (X j).env = pure false) (hd : (x == ("__debug__" : Str)) = false := by decide) (hcd : (x == ("__classdict__" : Str)) = false := by decide) :
    RS X C mu fr owl ow ow (.Expr (.Call (.Attribute (.Name x p) "extend" apos) [e] [] cpos) pos) (mutS i extG f) := by
  obtain ⟨t, a1, a2⟩ := he.ex
  refine ⟨_, fun j => ps_expr (by have := hpe j (pe_var (i := i) (by rw [F.nm j]; exact hN) (hv j) hd hcd) (a1 j); rw [F.K j] at this; exact this) (hs j), fun own Z ρ σ H E ho R h => ?_⟩
  obtain ⟨d0, d, ρ1, ds, ds', e0, e1, e2, e3, h⟩ := mutS_after h
  obtain ⟨a, hia, hs1, hob⟩ := R.slot ho hi
  obtain ⟨xs0, k1, _⟩ := R.getL hia e0
  refine ⟨.ref a, hs1, .inl ⟨rfl, _, SqL.of k1⟩, a2 own Z ρ σ H d ρ1 _ ho R e1 fun q o H1 R1 g1 hn hq ob => ?_⟩
  obtain ⟨xs, k2, k3, k4⟩ := R1.getL hia e2
  unfold extG at e3
  cases ob with
  | lst z r =>
    simp only at e3
    split at e3
    · rename_i hl
      simp only [Option.some.injEq] at e3
      subst e3
      rw [k4.len, r.len] at hl
      have x1 : Ext (hid (adr own ++ q :: Z) H1) (hid (adr own ++ Z) H1) := hid_sub fun b hb => mem_mid.mpr (List.mem_cons_of_mem _ hb)
      have R2 := R1.unhide
      exact ⟨a, q, xs, _, rfl, rfl, k2, hq, hl, h own σ _ ho (Step.of (g1.all.upd hia)) (R2.upd hia (.lst (by rw [List.length_append]; omega) ((k4.ext x1).app (r.ext x1))))⟩
    · cases e3
  | dk r => simp at e3
  | dt r => simp at e3
end
/-! ## calls without arguments -/
theorem pe_callG0 {Y : Cx} {C : Ct} {k j : Nat} {x : Str} {f : Addr} {fd : FuncData} {ps : List Str} {sp : Sp} {p pos : Pos} (hP : Y.prog = C.P) (hw : Y.w = C.w) (hK : Y.K = C.K) (hmg : Y.mg = C.mg) (hbase : Y.base = C.base)
    (hr : Room k Y.A) (hgd : Y.A.guards = some []) (hj : j ≤ k) (G : FnG C j f fd ps sp) (hg : Gl Y x) (hm : C.mg x = some (.ref f)) (hk : PySem.W.keepIn C.K (.ref f) = true) (hb : Binds C.K fd ps []) (hdb : (x == ("__debug__" : Str)) = false) :
    PE Y (.Call (.Name x p) [] [] pos) (tCall sp [] E0 tNil) := by
  obtain ⟨P, w, K, mg, base⟩ := C
  have hP : Y.prog = P := hP
  have hw : Y.w = w := hw
  have hK : Y.K = K := hK
  have hmg : Y.mg = mg := hmg
  have hbase : Y.base = base := hbase
  subst hP hw hK hmg hbase
  refine ⟨fun pins s σ H Q I h => wpAny_Call_Name_kw (ld_glob I hg hm ?_ hdb)⟩
  refine PySem.W.callWith_K0 I.kIn hk ?_
  have q' : sp [] H Q E0 := h
  have hl : ([] : List Value).length = ps.length := G.len _ _ _ _ q'
  have hb' := hb s [] I.kIn (by rw [List.append_nil]; exact hl)
  rw [List.append_nil] at hb'
  refine wpAny_call (codeAny_mono ((G.mono hj).run Y.A Y.stack s H ⟨[], []⟩ [] [] Q E0 hgd hr I.env0 hb' .nil q') fun r s' hq => ?_)
  cases r with
  | error e => exact hq.elim
  | ok fl =>
    cases fl with
    | ret u => exact I.after hq
    | _ => exact hq.elim
section
variable {ι : Type} {X : ι → Cx} {C : Ct} {tc ow : List Nat} {N : List Str} {k : Nat}
theorem re_callP0 {x : Str} {j : Nat} {ps : List Str} {g : List D → Option D} {p pos : Pos} (F : Fam X C N k) (G : Fn C x j ps (spP C.K 0 g)) (hj : j ≤ k) (hg : ∀ i, Gl (X i) x) (hdb : (x == ("__debug__" : Str)) = false := by decide) :
    RE X C tc ow (.Call (.Name x p) [] [] pos) (clE g nilA) := by
  obtain ⟨f, fd, hm, hk, hb, G⟩ := G.ex
  refine ⟨_, fun i => pe_callG0 (F.P i) (F.w i) (F.K i) (F.mg i) (F.base i) (F.room i) (F.gd i) hj G (hg i) hm hk hb hdb, fun own Z ρ σ H d ρ' Q ho R hf hq => ?_⟩
  unfold clE at hf
  simp only [nilA, Option.bind_some] at hf
  cases e2 : g [] with
  | none => rw [e2] at hf; cases hf
  | some z =>
    rw [e2] at hf
    simp only [Option.map_some, Option.some.injEq, Prod.mk.injEq] at hf
    obtain ⟨rfl, rfl⟩ := hf
    exact ⟨adr own ++ Z, [], _, rfl, R.zok, .nil, e2, fun v H2 e d2 => hq v H2 (R.ext e) (Grt.of e) d2⟩
end
/-! ## a, b = a new list, e: a owned from here on -/
def parFS (i j : Nat) (fa fb : XE) : XS := fun ρ => if i < ρ.length then (match fa ρ with
  | some (d, ρ1) => (match fb ρ1 with
    | some (e, ρ2) => .nx ((ρ2.set i (some d)).set j (some e))
    | none => .bad)
  | none => .bad) else .bad
section
variable {ι : Type} {X : ι → Cx} {C : Ct} {mu : List Nat} {fr : Bool} {tc owl ow : List Nat} {N : List Str} {k : Nat}
theorem rs_parF {x y : Str} {a b : Expr} {fa fb : XE} {px py pt pos : Pos} {kt k2 : Nat} {pt2 : Pos} (F : Fam X C N k) (i j : Nat) (ha : RF X C tc ow a fa) (hb : RE X C tc ow b fb) (hi : N[i]? = some x) (hj : N[j]? = some y) (hij : i ≠ j) (wi : ow.contains i = false) (wj : ow.contains j = false) (hmu : mu.contains i = false)
    (hx : ∀ m, (X m).env.scope.names.lookup x = some .local) (hy : ∀ m, (X m).env.scope.names.lookup y = some .local)
    (h1 : ∀ m, starEach [a, b] (X m).env = (false, eval a (X m).env) :: starEach [b] (X m).env) (h2 : ∀ m, starEach [b] (X m).env = [(false, eval b (X m).env)])
    (hw : ∀ m, swappedStores [.Tuple [.Name x px, .Name y py] kt pt] (.Tuple [a, b] k2 pt2) (X m).env = pure (some [x, y])) (hs : ∀ m, swapsWithSole [.Tuple [.Name x px, .Name y py] kt pt] (.Tuple [a, b] k2 pt2) pos.line (X m).env = pure false) :
    RS X C mu fr owl ow (ow ++ [i]) (.Assign [.Tuple [.Name x px, .Name y py] kt pt] (.Tuple [a, b] k2 pt2) pos) (parFS i j fa fb) := by
  obtain ⟨t, a1, a2⟩ := ha.ex
  obtain ⟨u, b1, b2⟩ := hb.ex
  refine ⟨_, fun m => ps_par (i := i) (j := j) (F.calm m) (by rw [F.nm m]; exact F.nd) (by rw [F.nm m]; exact hi) (by rw [F.nm m]; exact hj) hij (hx m) (hy m) (pa_cons (a1 m) (pa_cons (b1 m) pa_nil (h2 m)) (h1 m)) (hw m) (hs m), fun own Z ρ σ H E ho R h => ?_⟩
  unfold parFS at h
  split at h
  · rename_i hl
    split at h
    · rename_i d ρ1 e1
      split at h
      · rename_i e ρ2 e2
        refine a2 own Z ρ σ H d ρ1 _ ho R e1 fun p o H1 R1 g1 hn hp ob => ?_
        refine b2 own (p :: Z) ρ1 σ H1 e ρ2 _ ho R1 e2 fun v H2 R2 g2 d2 => ⟨_, _, rfl, ?_⟩
        have hpn := R.new_nin hn
        have po : p ∉ adr own := fun z => hpn (List.mem_append_left _ z)
        have pz : p ∉ Z := fun z => hpn (List.mem_append_right _ z)
        have hp2 : H2 p = some o := g2.all p o hp po
        have R3 := R2.push (i := i) (notin_of ho wi) (by rw [← R.len]; exact hl) po pz hp2 (ob.ext g2.all.hid)
        have m1 : (own ++ [(i, p)]).map (·.1) = ow ++ [i] := by rw [List.map_append, ho]; rfl
        have m2 : adr (own ++ [(i, p)]) = adr own ++ [p] := by show List.map _ _ = _; rw [List.map_append]; rfl
        have x1 : Ext (hid (adr own ++ p :: Z) H2) (hid (adr (own ++ [(i, p)]) ++ Z) H2) := hid_sub fun c hc => by
          rw [m2] at hc
          simp only [List.mem_append, List.mem_cons, List.not_mem_nil, or_false] at hc ⊢
          rcases hc with (hc | hc) | hc
          · exact .inl hc
          · exact .inr (.inl hc)
          · exact .inr (.inr hc)
        have nj : j ∉ (own ++ [(i, p)]).map (·.1) := fun z => by
          rw [m1] at z
          rcases List.mem_append.mp z with z | z
          · rw [List.contains_iff_mem.mpr z] at wj; cases wj
          · exact hij (List.mem_singleton.mp z).symm
        refine h (own ++ [(i, p)]) _ H2 m1 ⟨g1.all.trans g2.all, fun q hq => ?_, fun m hm a' hq => ?_⟩ (R3.set nj (d2.ext x1))
        · rcases List.mem_append.mp hq with hq | hq
          · exact .inl (List.mem_map.mpr ⟨q, hq, rfl⟩)
          · rw [List.mem_singleton.mp hq]
            exact .inr hn
        · rcases List.mem_append.mp hq with hq | hq
          · exact hq
          · have := List.mem_singleton.mp hq
            cases this
            rw [List.contains_iff_mem.mpr hm] at hmu
            cases hmu
      · exact absurd h fun q => q
    · exact absurd h fun q => q
  · exact absurd h fun q => q
end
end Lay

namespace Lay
open PySem PySem.Spec PyProof.Rows L2

/-! ## a, b, c = some new objects, some values: the new ones are owned from here on -/
theorem hid_same {Y Z : List Addr} {H : Hp} (h : ∀ a, a ∈ Y ↔ a ∈ Z) : hid Y H = hid Z H := by
  funext a
  unfold hid
  by_cases q : a ∈ Y
  · rw [if_pos q, if_pos ((h a).mp q)]
  · rw [if_neg q, if_neg fun z => q ((h a).mpr z)]
theorem Rep.permZ {K : PySem.W.Frag} {own : Ow} {Y Z : List Addr} {ρ : En} {σ : L2.St} {H : Hp} (h : ∀ a, a ∈ Y ↔ a ∈ Z) (R : Rep K own Y ρ σ H) : Rep K own Z ρ σ H := by
  have e : hid (adr own ++ Y) H = hid (adr own ++ Z) H := hid_same fun a => by rw [List.mem_append, List.mem_append, h a]
  refine ⟨R.len, fun i d q n => ?_, fun i a q => ?_, R.nd1, R.nd2, fun a q z => R.dis a q ((h a).mpr z), fun z q => R.zin z ((h z).mpr q)⟩
  · rw [← e]; exact R.dat i d q n
  · rw [← e]; exact R.obj i a q
def MD (K : PySem.W.Frag) (Y : List Addr) (H : Hp) : List Bool → List D → List V → List Addr → Prop
  | [], [], [], [] => True
  | false :: fl, d :: ds, v :: vs, ps => Dat K (hid Y H) d v ∧ MD K Y H fl ds vs ps
  | true :: fl, d :: ds, v :: vs, p :: ps => v = .ref p ∧ (∃ o, H p = some o ∧ Ob K (hid Y H) d o) ∧ MD K Y H fl ds vs ps
  | _, _, _, _ => False
theorem MD.hid {K : PySem.W.Frag} {Y Z : List Addr} {H : Hp} (e : hid Y H = hid Z H) : ∀ {fl : List Bool} {ds : List D} {vs : List V} {ps : List Addr}, MD K Y H fl ds vs ps → MD K Z H fl ds vs ps
  | [], [], [], [], _ => trivial
  | false :: fl, d :: ds, v :: vs, ps, h => ⟨e ▸ h.1, MD.hid e h.2⟩
  | true :: fl, d :: ds, v :: vs, p :: ps, h => by
    obtain ⟨h1, ⟨o, h2, h3⟩, h4⟩ := h
    exact ⟨h1, ⟨o, h2, e ▸ h3⟩, MD.hid e h4⟩
  | [], [], [], _ :: _, h => h.elim
  | [], [], _ :: _, _, h => h.elim
  | [], _ :: _, _, _, h => h.elim
  | false :: fl, [], _, _, h => h.elim
  | false :: fl, _ :: _, [], _, h => h.elim
  | true :: fl, [], _, _, h => h.elim
  | true :: fl, _ :: _, [], _, h => h.elim
  | true :: fl, _ :: _, _ :: _, [], h => h.elim
section
variable (K : PySem.W.Frag) (tc ow : List Nat)
def SemM (fl : List Bool) (ta : TA) (f : XA) : Prop := ∀ (own : Ow) (Z : List Addr) (ρ : En) (σ : L2.St) (H : Hp) (ds : List D) (ρ' : En) (Q : List V → Hp → Prop), own.map (·.1) = ow → Rep K own Z ρ σ H → f ρ = some (ds, ρ') →
  (∀ vs ps H', Rep K own (ps ++ Z) ρ' σ H' → Grt tc own H H' → (∀ p ∈ ps, H p = none) → ps.Nodup → MD K (adr own ++ (ps ++ Z)) H' fl ds vs ps → Q vs H') → ta σ H Q
end
section
variable {ι : Type} (X : ι → Cx) (C : Ct) (tc ow : List Nat)
structure RM (es : List Expr) (fl : List Bool) (f : XA) : Prop where
  ex : ∃ ta, (∀ i, PA (X i) es ta) ∧ SemM C.K tc ow fl ta f
end
section
variable {ι : Type} {X : ι → Cx} {C : Ct} {mu : List Nat} {fr : Bool} {tc owl ow : List Nat} {N : List Str} {k : Nat} {e : Expr} {es : List Expr} {f : XE} {fr' : XA} {fl : List Bool}
theorem rm_nil : RM X C tc ow [] [] nilA :=
  ⟨_, fun _ => pa_nil, fun own Z ρ σ H ds ρ' Q ho R hf hq => by
    simp only [nilA, Option.some.injEq, Prod.mk.injEq] at hf
    obtain ⟨rfl, rfl⟩ := hf
    exact hq [] [] H R Grt.refl (fun p h => nomatch h) List.nodup_nil trivial⟩
theorem consA_cases {ρ ρ' : En} {ds : List D} (hf : consA f fr' ρ = some (ds, ρ')) : ∃ d ρ1 ds', f ρ = some (d, ρ1) ∧ fr' ρ1 = some (ds', ρ') ∧ ds = d :: ds' := by
  unfold consA at hf
  cases e1 : f ρ with
  | none => rw [e1] at hf; cases hf
  | some p =>
    obtain ⟨x, ρ1⟩ := p
    rw [e1] at hf
    simp only [Option.bind_some] at hf
    cases e2 : fr' ρ1 with
    | none => rw [e2] at hf; cases hf
    | some q =>
      obtain ⟨y, ρ2⟩ := q
      rw [e2] at hf
      simp only [Option.map_some, Option.some.injEq, Prod.mk.injEq] at hf
      exact ⟨x, ρ1, y, rfl, by rw [e2, hf.2], hf.1.symm⟩
theorem rm_cons (h : RE X C tc ow e f) (hr : RM X C tc ow es fl fr') (hs : ∀ i, starEach (e :: es) (X i).env = (false, eval e (X i).env) :: starEach es (X i).env) : RM X C tc ow (e :: es) (false :: fl) (consA f fr') := by
  obtain ⟨t, a1, a2⟩ := h.ex
  obtain ⟨u, b1, b2⟩ := hr.ex
  refine ⟨_, fun i => pa_cons (a1 i) (b1 i) (hs i), fun own Z ρ σ H ds ρ' Q ho R hf hq => ?_⟩
  obtain ⟨d, ρ1, ds', e1, e2, rfl⟩ := consA_cases hf
  refine a2 own Z ρ σ H d ρ1 _ ho R e1 fun v H1 R1 g1 d1 => ?_
  refine b2 own Z ρ1 σ H1 ds' ρ' _ ho R1 e2 fun vs ps H2 R2 g2 hn nd m => ?_
  have hn2 : ∀ p ∈ ps, H p = none := fun p hp => by
    have := hn p hp
    cases q : H p with
    | none => rfl
    | some o =>
      by_cases ha : p ∈ adr own
      · obtain ⟨o2, q2⟩ := R1.ain ha
        rw [this] at q2
        cases q2
      · rw [g1.all p o q ha] at this
        cases this
  refine hq (v :: vs) ps H2 R2 (g1.trans g2) hn2 nd ⟨?_, m⟩
  refine d1.ext fun a o q => ?_
  have q := hid_some.mp q
  refine hid_some.mpr ⟨fun z => ?_, g2.all a o q.2 fun z => q.1 (List.mem_append_left _ z)⟩
  rcases List.mem_append.mp z with z | z
  · exact q.1 (List.mem_append_left _ z)
  · rcases List.mem_append.mp z with z | z
    · rw [hn a z] at q
      cases q.2
    · exact q.1 (List.mem_append_right _ z)
theorem rm_consF (h : RF X C tc ow e f) (hr : RM X C tc ow es fl fr') (hs : ∀ i, starEach (e :: es) (X i).env = (false, eval e (X i).env) :: starEach es (X i).env) : RM X C tc ow (e :: es) (true :: fl) (consA f fr') := by
  obtain ⟨t, a1, a2⟩ := h.ex
  obtain ⟨u, b1, b2⟩ := hr.ex
  refine ⟨_, fun i => pa_cons (a1 i) (b1 i) (hs i), fun own Z ρ σ H ds ρ' Q ho R hf hq => ?_⟩
  obtain ⟨d, ρ1, ds', e1, e2, rfl⟩ := consA_cases hf
  refine a2 own Z ρ σ H d ρ1 _ ho R e1 fun p o H1 R1 g1 hn0 hp ob => ?_
  refine b2 own (p :: Z) ρ1 σ H1 ds' ρ' _ ho R1 e2 fun vs ps H2 R2 g2 hn nd m => ?_
  have hpn := R.new_nin hn0
  have po : p ∉ adr own := fun z => hpn (List.mem_append_left _ z)
  have same : ∀ a, a ∈ ps ++ (p :: Z) ↔ a ∈ (p :: ps) ++ Z := fun a => by
    simp only [List.mem_append, List.mem_cons]
    constructor
    · rintro (h | h | h)
      · exact .inl (.inr h)
      · exact .inl (.inl h)
      · exact .inr h
    · rintro ((h | h) | h)
      · exact .inr (.inl h)
      · exact .inl h
      · exact .inr (.inr h)
  have pp : p ∉ ps := fun z => by rw [hn p z] at hp; cases hp
  have hn2 : ∀ q ∈ p :: ps, H q = none := fun c hc => by
    rcases List.mem_cons.mp hc with rfl | hc
    · exact hn0
    · have := hn c hc
      cases q : H c with
      | none => rfl
      | some o =>
        by_cases ha : c ∈ adr own
        · obtain ⟨o2, q2⟩ := R1.ain ha
          rw [this] at q2
          cases q2
        · rw [g1.all c o q ha] at this
          cases this
  refine hq (.ref p :: vs) (p :: ps) H2 (R2.permZ same) (g1.trans g2) hn2 (List.nodup_cons.mpr ⟨pp, nd⟩) ⟨rfl, ⟨o, g2.all p o hp po, ?_⟩, ?_⟩
  · refine ob.ext fun a o q => ?_
    have q := hid_some.mp q
    refine hid_some.mpr ⟨fun z => ?_, g2.all a o q.2 fun z => q.1 (List.mem_append_left _ z)⟩
    rcases List.mem_append.mp z with z | z
    · exact q.1 (List.mem_append_left _ z)
    · rcases List.mem_append.mp z with z | z
      · rcases List.mem_cons.mp z with z | z
        · exact q.1 (List.mem_append_right _ (by rw [z]; exact List.mem_cons_self))
        · rw [hn a z] at q
          cases q.2
      · exact q.1 (List.mem_append_right _ (List.mem_cons_of_mem _ z))
  · exact m.hid (hid_same fun a => by rw [List.mem_append (s := adr own), List.mem_append (s := adr own), same a])
end
/-! the slots take them -/
def setsE : En → List Nat → List D → En
  | ρ, i :: is, d :: ds => setsE (ρ.set i (some d)) is ds
  | ρ, _, _ => ρ
def setsV : L2.St → List Nat → List V → L2.St
  | σ, i :: is, v :: vs => setsV (σ.set i (some v)) is vs
  | σ, _, _ => σ
def newS : List Nat → List Bool → List Nat
  | i :: is, true :: fl => i :: newS is fl
  | _ :: is, false :: fl => newS is fl
  | _, _ => []
theorem rep_sets {K : PySem.W.Frag} {H : Hp} : ∀ {is : List Nat} {fl : List Bool} {ds : List D} {vs : List V} {ps : List Addr} {own : Ow} {Z : List Addr} {ρ : En} {σ : L2.St}, is.length = fl.length → is.Nodup → (∀ i ∈ is, i ∉ own.map (·.1)) → (∀ i ∈ is, i < σ.length) → Rep K own (ps ++ Z) ρ σ H → ps.Nodup →
    MD K (adr own ++ (ps ++ Z)) H fl ds vs ps → (∀ p ∈ ps, p ∉ Z) → ∃ news : Ow, news.map (·.1) = newS is fl ∧ (∀ q ∈ news, q.2 ∈ ps) ∧ Rep K (own ++ news) Z (setsE ρ is ds) (setsV σ is vs) H
  | [], [], [], [], [], own, Z, ρ, σ, _, _, _, _, R, _, _, _ => ⟨[], rfl, fun q h => (List.not_mem_nil h).elim, by rw [List.append_nil]; exact R⟩
  | i :: is, false :: fl, d :: ds, v :: vs, ps, own, Z, ρ, σ, hl, nd, hi, hb, R, np, m, hz => by
    obtain ⟨m1, m2⟩ := m
    rw [List.nodup_cons] at nd
    obtain ⟨news, e1, e2, R2⟩ := rep_sets (is := is) (fl := fl) (ds := ds) (vs := vs) (ps := ps) (own := own) (Z := Z) (by simpa using hl) nd.2 (fun j hj => hi j (List.mem_cons_of_mem _ hj)) (fun j hj => by rw [List.length_set]; exact hb j (List.mem_cons_of_mem _ hj)) (R.set (hi i List.mem_cons_self) m1) np m2 hz
    exact ⟨news, e1, e2, R2⟩
  | i :: is, true :: fl, d :: ds, v :: vs, p :: ps, own, Z, ρ, σ, hl, nd, hi, hb, R, np, m, hz => by
    obtain ⟨rfl, ⟨o, h1, h2⟩, m2⟩ := m
    rw [List.nodup_cons] at nd np
    have po : p ∉ adr own := fun z => R.dis p z (List.mem_append_left _ List.mem_cons_self)
    have pz : p ∉ ps ++ Z := fun z => by
      rcases List.mem_append.mp z with z | z
      · exact np.1 z
      · exact hz p List.mem_cons_self z
    have R2 := Rep.push (K := K) (own := own) (Z := ps ++ Z) (p := p) (i := i) (d := d) (o := o) R (hi i List.mem_cons_self) (hb i List.mem_cons_self) po pz h1 h2
    have m3 : adr (own ++ [(i, p)]) = adr own ++ [p] := by show List.map _ _ = _; rw [List.map_append]; rfl
    have hm : hid (adr own ++ (p :: ps ++ Z)) H = hid (adr (own ++ [(i, p)]) ++ (ps ++ Z)) H := hid_same fun a => by
      rw [m3]
      simp only [List.mem_append, List.mem_cons, List.not_mem_nil, or_false]
      constructor
      · rintro (h | (h | h) | h)
        · exact .inl (.inl h)
        · exact .inl (.inr h)
        · exact .inr (.inl h)
        · exact .inr (.inr h)
      · rintro ((h | h) | h | h)
        · exact .inl h
        · exact .inr (.inl (.inl h))
        · exact .inr (.inl (.inr h))
        · exact .inr (.inr h)
    obtain ⟨news, e1, e2, R3⟩ := rep_sets (is := is) (fl := fl) (ds := ds) (vs := vs) (ps := ps) (own := own ++ [(i, p)]) (Z := Z) (by simpa using hl) nd.2 (fun j hj z => by
      rw [List.map_append] at z
      rcases List.mem_append.mp z with z | z
      · exact hi j (List.mem_cons_of_mem _ hj) z
      · have : j = i := by simpa using z
        exact nd.1 (this ▸ hj)) (fun j hj => by rw [List.length_set]; exact hb j (List.mem_cons_of_mem _ hj)) R2 np.2 (m2.hid hm) (fun q hq => hz q (List.mem_cons_of_mem _ hq))
    refine ⟨(i, p) :: news, by rw [List.map_cons, e1]; rfl, fun q hq => ?_, by rw [List.append_cons]; exact R3⟩
    rcases List.mem_cons.mp hq with rfl | hq
    · exact List.mem_cons_self
    · exact List.mem_cons_of_mem _ (e2 q hq)
  | [], [], [], [], _ :: _, _, _, _, _, _, _, _, _, _, _, m, _ => m.elim
  | [], [], [], _ :: _, _, _, _, _, _, _, _, _, _, _, _, m, _ => m.elim
  | [], [], _ :: _, _, _, _, _, _, _, _, _, _, _, _, _, m, _ => m.elim
  | [], _ :: _, _, _, _, _, _, _, _, h, _, _, _, _, _, _, _ => by simp at h
  | _ :: _, [], _, _, _, _, _, _, _, h, _, _, _, _, _, _, _ => by simp at h
  | _ :: _, false :: _, [], _, _, _, _, _, _, _, _, _, _, _, _, m, _ => m.elim
  | _ :: _, false :: _, _ :: _, [], _, _, _, _, _, _, _, _, _, _, _, m, _ => m.elim
  | _ :: _, true :: _, [], _, _, _, _, _, _, _, _, _, _, _, _, m, _ => m.elim
  | _ :: _, true :: _, _ :: _, [], _, _, _, _, _, _, _, _, _, _, _, m, _ => m.elim
  | _ :: _, true :: _, _ :: _, _ :: _, [], _, _, _, _, _, _, _, _, _, _, m, _ => m.elim
def parM (is : List Nat) (fa : XA) : XS := fun ρ => if is.all (fun i => decide (i < ρ.length)) = true then (match fa ρ with
  | some (ds, ρ1) => .nx (setsE ρ1 is ds)
  | none => .bad) else .bad
section
variable {ι : Type} {X : ι → Cx} {C : Ct} {mu : List Nat} {fr : Bool} {tc owl ow : List Nat} {N : List Str} {k : Nat} {fl : List Bool}
theorem MD.len {K : PySem.W.Frag} {Y : List Addr} {H : Hp} : ∀ {fl : List Bool} {ds : List D} {vs : List V} {ps : List Addr}, MD K Y H fl ds vs ps → vs.length = fl.length
  | [], [], [], [], _ => rfl
  | false :: fl, d :: ds, v :: vs, ps, h => by rw [List.length_cons, List.length_cons, MD.len h.2]
  | true :: fl, d :: ds, v :: vs, p :: ps, h => by rw [List.length_cons, List.length_cons, MD.len h.2.2]
  | [], [], [], _ :: _, h => h.elim
  | [], [], _ :: _, _, h => h.elim
  | [], _ :: _, _, _, h => h.elim
  | false :: fl, [], _, _, h => h.elim
  | false :: fl, _ :: _, [], _, h => h.elim
  | true :: fl, [], _, _, h => h.elim
  | true :: fl, _ :: _, [], _, h => h.elim
  | true :: fl, _ :: _, _ :: _, [], h => h.elim
theorem semM_par {ta : TA} {fa : XA} {is : List Nat} {Pq : Ends → L2.St → List V → Hp → Prop} (a2 : SemM C.K tc ow fl ta fa) (hl : is.length = fl.length) (nd : is.Nodup) (wi : ∀ i ∈ is, ow.contains i = false) (hmu : ∀ i ∈ is, mu.contains i = false)
    (hts : ∀ (E : Ends) σ vs H1, vs.length = is.length → E.nx (setsV σ is vs) H1 → Pq E σ vs H1) : SemS C.K mu fr owl ow (ow ++ newS is fl) (fun E σ H => ta σ H (Pq E σ)) (parM is fa) := fun own Z ρ σ H E ho R h => by
  unfold parM at h
  split at h
  · rename_i hb
    split at h
    · rename_i ds ρ1 e1
      refine a2 own Z ρ σ H ds ρ1 _ ho R e1 fun vs ps H1 R1 g1 hn np m => hts E σ vs H1 (by rw [hl, m.len]) ?_
      have bnd : ∀ i ∈ is, i < σ.length := fun i hi => by
        rw [← R.len]
        exact of_decide_eq_true (List.all_eq_true.mp hb i hi)
      have now : ∀ i ∈ is, i ∉ own.map (·.1) := fun i hi z => by
        have := wi i hi
        rw [ho] at z
        rw [List.contains_iff_mem.mpr z] at this
        cases this
      have hz : ∀ p ∈ ps, p ∉ Z := fun p hp z => R.new_nin (hn p hp) (List.mem_append_right _ z)
      obtain ⟨news, e2, e3, R2⟩ := rep_sets hl nd now bnd R1 np m hz
      refine h (own ++ news) _ H1 (by rw [List.map_append, ho, e2]) ⟨g1.all, fun q hq => ?_, fun j hj a hq => ?_⟩ R2
      · rcases List.mem_append.mp hq with hq | hq
        · exact .inl (List.mem_map.mpr ⟨q, hq, rfl⟩)
        · exact .inr (hn _ (e3 q hq))
      · rcases List.mem_append.mp hq with hq | hq
        · exact hq
        · have : j ∈ newS is fl := by rw [← e2]; exact List.mem_map.mpr ⟨_, hq, rfl⟩
          have sub : ∀ (is : List Nat) (fl : List Bool), ∀ j ∈ newS is fl, j ∈ is := by
            intro is
            induction is with
            | nil => intro fl j h; cases fl <;> simp [newS] at h
            | cons i is ih =>
              intro fl j h
              cases fl with
              | nil => simp [newS] at h
              | cons b fl =>
                cases b with
                | false => exact List.mem_cons_of_mem _ (ih fl j h)
                | true =>
                  rcases List.mem_cons.mp h with h | h
                  · rw [h]; exact List.mem_cons_self
                  · exact List.mem_cons_of_mem _ (ih fl j h)
          have := hmu j (sub is fl j this)
          rw [List.contains_iff_mem.mpr hj] at this
          cases this
    · exact absurd h fun q => q
  · exact absurd h fun q => q
theorem rs_parM2 {x y : Str} {a b : Expr} {fa : XA} {px py pt pos : Pos} {kt k2 : Nat} {pt2 : Pos} (F : Fam X C N k) (i j : Nat) (ha : RM X C tc ow [a, b] fl fa) (hl : 2 = fl.length) (hi : N[i]? = some x) (hj : N[j]? = some y) (nd : [i, j].Nodup) (wi : [i, j].all (fun i => !ow.contains i) = true) (hmu : [i, j].all (fun i => !mu.contains i) = true)
    (hx : ∀ m, (X m).env.scope.names.lookup x = some .local) (hy : ∀ m, (X m).env.scope.names.lookup y = some .local)
    (hw : ∀ m, swappedStores [.Tuple [.Name x px, .Name y py] kt pt] (.Tuple [a, b] k2 pt2) (X m).env = pure (some [x, y])) (hs : ∀ m, swapsWithSole [.Tuple [.Name x px, .Name y py] kt pt] (.Tuple [a, b] k2 pt2) pos.line (X m).env = pure false) :
    RS X C mu fr owl ow (ow ++ newS [i, j] fl) (.Assign [.Tuple [.Name x px, .Name y py] kt pt] (.Tuple [a, b] k2 pt2) pos) (parM [i, j] fa) := by
  obtain ⟨t, a1, a2⟩ := ha.ex
  have hij : i ≠ j := by simpa using nd
  refine ⟨_, fun m => ps_par (i := i) (j := j) (F.calm m) (by rw [F.nm m]; exact F.nd) (by rw [F.nm m]; exact hi) (by rw [F.nm m]; exact hj) hij (hx m) (hy m) (a1 m) (hw m) (hs m), ?_⟩
  exact semM_par (is := [i, j]) (fl := fl) (Pq := fun E σ vs H1 => ∃ v w, vs = [v, w] ∧ E.nx ((σ.set i (some v)).set j (some w)) H1) a2 hl nd (fun i hi => by simpa using List.all_eq_true.mp wi i hi) (fun i hi => by simpa using List.all_eq_true.mp hmu i hi) fun E σ vs H1 hv hn => by
    match vs, hv with
    | [v, w], _ => exact ⟨v, w, rfl, hn⟩
theorem rs_parM3 {x y z : Str} {a b c : Expr} {fa : XA} {px py pz pt pos : Pos} {kt k2 : Nat} {pt2 : Pos} (F : Fam X C N k) (i j l : Nat) (ha : RM X C tc ow [a, b, c] fl fa) (hl : 3 = fl.length) (hi : N[i]? = some x) (hj : N[j]? = some y) (hk : N[l]? = some z) (nd : [i, j, l].Nodup) (wi : [i, j, l].all (fun i => !ow.contains i) = true) (hmu : [i, j, l].all (fun i => !mu.contains i) = true)
    (hx : ∀ m, (X m).env.scope.names.lookup x = some .local) (hy : ∀ m, (X m).env.scope.names.lookup y = some .local) (hz : ∀ m, (X m).env.scope.names.lookup z = some .local)
    (hw : ∀ m, swappedStores [.Tuple [.Name x px, .Name y py, .Name z pz] kt pt] (.Tuple [a, b, c] k2 pt2) (X m).env = pure (some [x, y, z])) (hs : ∀ m, swapsWithSole [.Tuple [.Name x px, .Name y py, .Name z pz] kt pt] (.Tuple [a, b, c] k2 pt2) pos.line (X m).env = pure false) :
    RS X C mu fr owl ow (ow ++ newS [i, j, l] fl) (.Assign [.Tuple [.Name x px, .Name y py, .Name z pz] kt pt] (.Tuple [a, b, c] k2 pt2) pos) (parM [i, j, l] fa) := by
  obtain ⟨t, a1, a2⟩ := ha.ex
  have n1 : i ≠ j := fun z => by subst z; simp at nd
  have n2 : i ≠ l := fun z => by subst z; simp at nd
  have n3 : j ≠ l := fun z => by subst z; simp at nd
  refine ⟨_, fun m => ps_par3 (i := i) (j := j) (l := l) (F.calm m) (by rw [F.nm m]; exact F.nd) (by rw [F.nm m]; exact hi) (by rw [F.nm m]; exact hj) (by rw [F.nm m]; exact hk) n1 n2 n3 (hx m) (hy m) (hz m) (a1 m) (hw m) (hs m), ?_⟩
  exact semM_par (is := [i, j, l]) (fl := fl) (Pq := fun E σ vs H1 => ∃ u v w, vs = [u, v, w] ∧ E.nx (((σ.set i (some u)).set j (some v)).set l (some w)) H1) a2 hl nd (fun i hi => by simpa using List.all_eq_true.mp wi i hi) (fun i hi => by simpa using List.all_eq_true.mp hmu i hi) fun E σ vs H1 hv hn => by
    match vs, hv with
    | [u, v, w], _ => exact ⟨u, v, w, rfl, hn⟩
end
end Lay

namespace Lay
open PySem PySem.Spec PyProof.Rows L2

/-! ## the pure side: tools -/
theorem seqS_nx {F G : XS} {ρ ρ1 : En} (h : F ρ = .nx ρ1) : seqS F G ρ = G ρ1 := by
  unfold seqS
  rw [h]
theorem seqS_rt {F G : XS} {ρ ρ1 : En} {d : D} (h : F ρ = .rt d ρ1) : seqS F G ρ = .rt d ρ1 := by
  unfold seqS
  rw [h]
theorem ifS_t {t : XT} {F G : XS} {ρ ρ1 : En} (h : t ρ = some (true, ρ1)) : ifS t F G ρ = F ρ1 := by
  unfold ifS
  rw [h]
  exact if_pos rfl
theorem ifS_f {t : XT} {F G : XS} {ρ ρ1 : En} (h : t ρ = some (false, ρ1)) : ifS t F G ρ = G ρ1 := by
  unfold ifS
  rw [h]
  exact if_neg Bool.false_ne_true
theorem setS_eq {i : Nat} {f : XE} {ρ ρ1 : En} {d : D} (h : f ρ = some (d, ρ1)) : setS i f ρ = .nx (ρ1.set i (some d)) := by
  unfold setS
  rw [h]
theorem ownS_eq {i : Nat} {f : XE} {ρ ρ1 : En} {d : D} (hi : i < ρ.length) (h : f ρ = some (d, ρ1)) : ownS i f ρ = .nx (ρ1.set i (some d)) := by
  unfold ownS
  rw [if_pos hi, setS_eq h]
theorem retS_eq {f : XE} {ρ ρ1 : En} {d : D} (h : f ρ = some (d, ρ1)) : retS f ρ = .rt d ρ1 := by
  unfold retS
  rw [h]
theorem opE_eq {g : D → D → Option D} {fa fb : XE} {ρ ρ1 ρ2 : En} {a b c : D} (h1 : fa ρ = some (a, ρ1)) (h2 : fb ρ1 = some (b, ρ2)) (h3 : g a b = some c) : opE g fa fb ρ = some (c, ρ2) := by
  simp only [opE, h1, h2, h3, Option.bind_some, Option.map_some]
theorem clE_eq {g : List D → Option D} {fa : XA} {ρ ρ1 : En} {as : List D} {c : D} (h1 : fa ρ = some (as, ρ1)) (h3 : g as = some c) : clE g fa ρ = some (c, ρ1) := by
  simp only [clE, h1, h3, Option.bind_some, Option.map_some]
theorem consA_eq {fa : XE} {fr : XA} {ρ ρ1 ρ2 : En} {a : D} {as : List D} (h1 : fa ρ = some (a, ρ1)) (h2 : fr ρ1 = some (as, ρ2)) : consA fa fr ρ = some (a :: as, ρ2) := by
  simp only [consA, h1, h2, Option.bind_some, Option.map_some]
theorem tE_eq {f : XE} {ρ ρ1 : En} {b : Bool} (h : f ρ = some (.bool b, ρ1)) : tE f ρ = some (b, ρ1) := by
  simp only [tE, h, asB, Option.bind_some, Option.map_some]
/-! slots given up -/
theorem kil_get (ρ : En) (j : Nat) : ∀ vs, (kil ρ vs)[j]? = if j ∈ vs ∧ j < ρ.length then some none else ρ[j]?
  | [] => by simp [kil]
  | v :: vs => by
    show ((kil ρ vs).set v none)[j]? = _
    rw [List.getElem?_set, kil_get ρ j vs, kil_len]
    by_cases e : v = j
    · subst e
      by_cases l : v < ρ.length
      · simp [l]
      · simp [l, List.getElem?_eq_none (Nat.le_of_not_lt l)]
    · simp [e, Ne.symm e]
theorem kil_idem (ρ : En) (vs : List Nat) : kil (kil ρ vs) vs = kil ρ vs := by
  refine List.ext_getElem? fun j => ?_
  rw [kil_get, kil_len]
  split
  · rename_i h
    rw [kil_get, if_pos h]
  · rfl
theorem backE_get (ρ1 ρ : En) (j : Nat) : ∀ vs, (backE vs ρ1 ρ)[j]? = if j ∈ vs ∧ j < ρ.length then some (ρ1[j]?.getD none) else ρ[j]?
  | [] => by simp [backE]
  | v :: vs => by
    show ((backE vs ρ1 ρ).set v _)[j]? = _
    rw [List.getElem?_set, backE_get ρ1 ρ j vs, backE_len]
    by_cases e : v = j
    · subst e
      by_cases l : v < ρ.length
      · simp [l]
      · simp [l, List.getElem?_eq_none (Nat.le_of_not_lt l)]
    · simp [e, Ne.symm e]
theorem backE_kil {ρ R : En} {vs : List Nat} (h : kil R vs = kil ρ vs) : backE vs ρ R = ρ := by
  have hl : R.length = ρ.length := by rw [← kil_len R vs, h, kil_len]
  refine List.ext_getElem? fun j => ?_
  rw [backE_get]
  split
  · rename_i q
    have : j < ρ.length := by omega
    rw [List.getElem?_eq_getElem this]
    rfl
  · rename_i q
    have e := congrArg (fun l : En => l[j]?) h
    simp only [kil_get, hl] at e q
    rw [if_neg q, if_neg q] at e
    exact e
/-- a comprehension whose parts leave the rest as it is -/
theorem compL_pure {vs : List Nat} {fg : XG} {ft : XT} {fe : XE} {ρ : En} {p : D → Bool} {h : D → D} : ∀ {ds : List D} {ρ0 : En}, kil ρ0 vs = kil ρ vs →
    (∀ d ∈ ds, ∃ ρ1, fg d (kil ρ vs) = some ρ1 ∧ kil ρ1 vs = kil ρ vs ∧ ft ρ1 = some (p d, ρ1) ∧ (p d = true → fe ρ1 = some (h d, ρ1))) →
    ∃ R, compL vs fg ft fe ds ρ0 = some ((ds.filter p).map h, R) ∧ kil R vs = kil ρ vs
  | [], ρ0, hk, _ => ⟨ρ0, rfl, hk⟩
  | d :: ds, ρ0, hk, H => by
    obtain ⟨ρ1, a1, a2, a3, a4⟩ := H d List.mem_cons_self
    obtain ⟨R, r1, r2⟩ := compL_pure (ds := ds) a2 fun e he => H e (List.mem_cons_of_mem _ he)
    refine ⟨R, ?_, r2⟩
    simp only [compL, hk, a1, a3, Option.bind_some]
    cases q : p d with
    | true =>
      simp only [if_true, a4 q, Option.bind_some, r1, Option.map_some, List.filter_cons, q]
      rfl
    | false =>
      simp only [Bool.false_eq_true, if_false, r1, List.filter_cons, q]
theorem compE_pure {fi : XI} {vs : List Nat} {fg : XG} {ft : XT} {fe : XE} {ρ : En} {ds : List D} (p : D → Bool) (h : D → D) (hi : fi ρ = some (ds, ρ))
    (H : ∀ d ∈ ds, ∃ ρ1, fg d (kil ρ vs) = some ρ1 ∧ kil ρ1 vs = kil ρ vs ∧ ft ρ1 = some (p d, ρ1) ∧ (p d = true → fe ρ1 = some (h d, ρ1))) :
    compE fi vs fg ft fe ρ = some (.list ((ds.filter p).map h), ρ) := by
  obtain ⟨R, r1, r2⟩ := compL_pure (ρ0 := ρ) rfl H
  simp only [compE, hi, Option.bind_some, r1, Option.map_some, backE_kil r2]
/-- .. that keeps all -/
theorem compE_map {fi : XI} {vs : List Nat} {fg : XG} {fe : XE} {ρ : En} {ds : List D} (h : D → D) (hi : fi ρ = some (ds, ρ))
    (H : ∀ d ∈ ds, ∃ ρ1, fg d (kil ρ vs) = some ρ1 ∧ kil ρ1 vs = kil ρ vs ∧ fe ρ1 = some (h d, ρ1)) :
    compE fi vs fg yesT fe ρ = some (.list (ds.map h), ρ) := by
  have := compE_pure (p := fun _ => true) (h := h) (ft := yesT) hi fun d hd => by
    obtain ⟨ρ1, a, b, c⟩ := H d hd
    exact ⟨ρ1, a, b, rfl, fun _ => c⟩
  rw [this]
  congr 3
  rw [List.filter_eq_self.mpr fun _ _ => rfl]
/-- a comprehension over a row made of other things -/
theorem compL_on {α : Type} {vs : List Nat} {fg : XG} {ft : XT} {fe : XE} {ρ : En} {p : α → Bool} {e h : α → D} : ∀ {ds : List α} {ρ0 : En}, kil ρ0 vs = kil ρ vs →
    (∀ d ∈ ds, ∃ ρ1, fg (e d) (kil ρ vs) = some ρ1 ∧ kil ρ1 vs = kil ρ vs ∧ ft ρ1 = some (p d, ρ1) ∧ (p d = true → fe ρ1 = some (h d, ρ1))) →
    ∃ R, compL vs fg ft fe (ds.map e) ρ0 = some ((ds.filter p).map h, R) ∧ kil R vs = kil ρ vs
  | [], ρ0, hk, _ => ⟨ρ0, rfl, hk⟩
  | d :: ds, ρ0, hk, H => by
    obtain ⟨ρ1, a1, a2, a3, a4⟩ := H d List.mem_cons_self
    obtain ⟨R, r1, r2⟩ := compL_on (ds := ds) a2 fun e he => H e (List.mem_cons_of_mem _ he)
    refine ⟨R, ?_, r2⟩
    simp only [List.map_cons, compL, hk, a1, a3, Option.bind_some]
    cases q : p d with
    | true =>
      simp only [if_true, a4 q, Option.bind_some, r1, Option.map_some, List.filter_cons, q]
      rfl
    | false =>
      simp only [Bool.false_eq_true, if_false, r1, List.filter_cons, q]
theorem compE_on {α : Type} {fi : XI} {vs : List Nat} {fg : XG} {ft : XT} {fe : XE} {ρ : En} {ds : List α} {ls : List D} (p : α → Bool) (e h : α → D) (hi : fi ρ = some (ls, ρ)) (hl : ls = ds.map e)
    (H : ∀ d ∈ ds, ∃ ρ1, fg (e d) (kil ρ vs) = some ρ1 ∧ kil ρ1 vs = kil ρ vs ∧ ft ρ1 = some (p d, ρ1) ∧ (p d = true → fe ρ1 = some (h d, ρ1))) :
    compE fi vs fg ft fe ρ = some (.list ((ds.filter p).map h), ρ) := by
  subst hl
  obtain ⟨R, r1, r2⟩ := compL_on (ρ0 := ρ) rfl H
  simp only [compE, hi, Option.bind_some, r1, Option.map_some, backE_kil r2]
theorem compE_onA {α : Type} {fi : XI} {vs : List Nat} {fg : XG} {fe : XE} {ρ : En} {ds : List α} {ls : List D} (e h : α → D) (hi : fi ρ = some (ls, ρ)) (hl : ls = ds.map e)
    (H : ∀ d ∈ ds, ∃ ρ1, fg (e d) (kil ρ vs) = some ρ1 ∧ kil ρ1 vs = kil ρ vs ∧ fe ρ1 = some (h d, ρ1)) :
    compE fi vs fg yesT fe ρ = some (.list (ds.map h), ρ) := by
  have := compE_on (p := fun _ => true) (e := e) (h := h) (ft := yesT) hi hl fun d hd => by
    obtain ⟨ρ1, a, b, c⟩ := H d hd
    exact ⟨ρ1, a, b, rfl, fun _ => c⟩
  rw [this]
  congr 3
  rw [List.filter_eq_self.mpr fun _ _ => rfl]
theorem borE_eq {f : XE} {ρ : En} {d : D} (h : f ρ = some (d, ρ)) (l : lfree d = true) : borE f ρ = some (d, ρ) := by
  simp [borE, h, l]
theorem borT_eq {f : XT} {ρ : En} {b : Bool} (h : f ρ = some (b, ρ)) : borT f ρ = some (b, ρ) := by
  simp [borT, h]
theorem borF_eq {f : XE} {ρ : En} {ds : List D} (h : f ρ = some (.list ds, ρ)) (l : lfrees ds = true) : borF f ρ = some (.list ds, ρ) := by
  simp [borF, h, l]
theorem varE_eq {ρ : En} {i : Nat} {d : D} (h : ρ[i]? = some (some d)) : varE i ρ = some (d, ρ) := by
  simp [varE, h]
theorem atI_nat {α : Type} {xs : List α} {i : Nat} (h : i < xs.length) : L2.atI xs (i : Int) = xs[i]? := by
  unfold L2.atI L2.ixN
  rw [if_pos (by omega), if_pos (by omega)]
  rfl
theorem ixN_nat {n i : Nat} (h : i < n) : L2.ixN n (i : Int) = some i := by
  unfold L2.ixN
  rw [if_pos (by omega), if_pos (by omega)]
  rfl
/-- a loop that falls through -/
theorem loopS_all {fg : XG} {F : XS} (P : Nat → En → Prop) : ∀ {ds : List D} {ρ : En} (k : Nat), P k ρ →
    (∀ i d ρ, ds[i]? = some d → P (k + i) ρ → ∃ ρ1 ρ2, fg d ρ = some ρ1 ∧ F ρ1 = .nx ρ2 ∧ P (k + i + 1) ρ2) → ∃ ρ', loopS fg F ds ρ = .nx ρ' ∧ P (k + ds.length) ρ'
  | [], ρ, k, h0, _ => ⟨ρ, rfl, h0⟩
  | d :: ds, ρ, k, h0, H => by
    obtain ⟨ρ1, ρ2, a, b, c⟩ := H 0 d ρ rfl h0
    obtain ⟨ρ', e, q⟩ := loopS_all P (ds := ds) (k + 1) c fun i d' ρ hi hp => by
      have := H (i + 1) d' ρ hi (by rw [show k + (i + 1) = k + 1 + i by omega]; exact hp)
      rw [show k + (i + 1) + 1 = k + 1 + i + 1 by omega] at this
      exact this
    refine ⟨ρ', ?_, by rw [List.length_cons, show k + (ds.length + 1) = k + 1 + ds.length by omega]; exact q⟩
    simp only [loopS, a, b, e]
/-- .. or comes back -/
theorem loopS_or {fg : XG} {F : XS} (P : Nat → En → Prop) (R : D → En → Prop) : ∀ {ds : List D} {ρ : En} (k : Nat), P k ρ →
    (∀ i d ρ, ds[i]? = some d → P (k + i) ρ → ∃ ρ1, fg d ρ = some ρ1 ∧ ((∃ ρ2, F ρ1 = .nx ρ2 ∧ P (k + i + 1) ρ2) ∨ ∃ e ρ2, F ρ1 = .rt e ρ2 ∧ R e ρ2)) →
    (∃ ρ', loopS fg F ds ρ = .nx ρ' ∧ P (k + ds.length) ρ') ∨ ∃ e ρ', loopS fg F ds ρ = .rt e ρ' ∧ R e ρ'
  | [], ρ, k, h0, _ => .inl ⟨ρ, rfl, h0⟩
  | d :: ds, ρ, k, h0, H => by
    obtain ⟨ρ1, a, b | b⟩ := H 0 d ρ rfl h0
    · obtain ⟨ρ2, b, c⟩ := b
      rcases loopS_or P R (ds := ds) (k + 1) c fun i d' ρ hi hp => by
        have := H (i + 1) d' ρ hi (by rw [show k + (i + 1) = k + 1 + i by omega]; exact hp)
        rw [show k + (i + 1) + 1 = k + 1 + i + 1 by omega] at this
        exact this with ⟨ρ', e, q⟩ | ⟨x, ρ', e, q⟩
      · exact .inl ⟨ρ', by simp only [loopS, a, b, e], by rw [List.length_cons, show k + (ds.length + 1) = k + 1 + ds.length by omega]; exact q⟩
      · exact .inr ⟨x, ρ', by simp only [loopS, a, b, e], q⟩
    · obtain ⟨x, ρ2, b, c⟩ := b
      exact .inr ⟨x, ρ2, by simp only [loopS, a, b], c⟩
theorem forS_eq {fi : XI} {fg : XG} {F : XS} {ρ ρ1 : En} {ds : List D} (h : fi ρ = some (ds, ρ1)) : forS fi fg F ρ = loopS fg F ds ρ1 := by
  unfold forS
  rw [h]
theorem whileN_nx {T : XT} {F : XS} {n : Nat} {ρ ρ1 ρ2 : En} (t : T ρ = some (true, ρ1)) (b : F ρ1 = .nx ρ2) : whileN T F (n + 1) ρ = whileN T F n ρ2 := by
  simp only [whileN, t, if_true, b]
theorem whileN_end {T : XT} {F : XS} {n : Nat} {ρ ρ1 : En} (t : T ρ = some (false, ρ1)) : whileN T F (n + 1) ρ = .nx ρ1 := by
  simp only [whileN, t, Bool.false_eq_true, if_false]
/-! == of data -/
theorem eqB_int (a b : Int) : eqB (.int a) (.int b) = some (decide (a = b)) := by
  have h : eqB (.int a) (.int b) = some (PyData.eqv (.int a) (.int b)) := rfl
  rw [h]
  simp only [PyData.eqv, Option.some.injEq]
  by_cases e : a = b <;> simp [e]
end Lay

namespace Lay
open PySem PySem.Spec PyProof.Rows L2

/-! ## data that == and repr take -/
def Sh (k : Nat) (d : D) : Prop := d.canLay0 = true ∧ d.depth ≤ k
theorem sh_int (i : Int) : Sh 0 (.int i) := ⟨rfl, by simp [PyData.depth]⟩
theorem sh_bool (b : Bool) : Sh 0 (.bool b) := ⟨rfl, by simp [PyData.depth]⟩
theorem sh_none : Sh 0 .none := ⟨rfl, by simp [PyData.depth]⟩
theorem Sh.mono {k m : Nat} {d : D} (h : Sh k d) (l : k ≤ m) : Sh m d := ⟨h.1, Nat.le_trans h.2 l⟩
theorem sh_all {k : Nat} : ∀ {ds : List D}, (∀ d ∈ ds, Sh k d) → PyData.canLayAll0 ds = true ∧ PyData.depthAll ds ≤ k
  | [], _ => ⟨rfl, Nat.zero_le _⟩
  | d :: ds, h => by
    obtain ⟨a, b⟩ := h d List.mem_cons_self
    obtain ⟨c, e⟩ := sh_all (ds := ds) fun x hx => h x (List.mem_cons_of_mem _ hx)
    exact ⟨by simp [PyData.canLayAll0, a, c], by simp only [PyData.depthAll]; omega⟩
theorem sh_list {k : Nat} {ds : List D} (h : ∀ d ∈ ds, Sh k d) : Sh (k + 1) (.list ds) := by
  obtain ⟨a, b⟩ := sh_all h
  exact ⟨by simp [PyData.canLay0, a], by simp only [PyData.depth]; omega⟩
theorem sh_tup {k : Nat} {ds : List D} (h : ∀ d ∈ ds, Sh k d) : Sh (k + 1) (.tuple ds) := by
  obtain ⟨a, b⟩ := sh_all h
  exact ⟨by simp [PyData.canLay0, a], by simp only [PyData.depth]; omega⟩
theorem Sh.ok {k : Nat} {d : D} (h : Sh k d) (l : k ≤ 64) : SeqAt.shaped d = true := by
  unfold SeqAt.shaped
  rw [h.1, Bool.true_and]
  exact decide_eq_true (Nat.le_trans h.2 l)
theorem eqB_sh {x y : D} {k m : Nat} (h : Sh k x) (h' : Sh m y) (l : k ≤ 64) (l' : m ≤ 64) (ns : ∀ a, x ≠ .str a) : eqB x y = some (PyData.eqv x y) := by
  unfold eqB
  split
  · exact absurd rfl (ns _)
  · rw [if_pos ⟨h.ok l, h'.ok l'⟩]
mutual
theorem eqv_refl : ∀ d : D, d.canLay0 = true → PyData.eqv d d = true
  | .none, _ => rfl
  | .bool b, _ => by simp [PyData.eqv]
  | .int i, _ => by simp [PyData.eqv]
  | .str x, _ => by simp [PyData.eqv]
  | .list ds, h => by simp only [PyData.eqv]; exact eqvAll_refl ds (by simpa [PyData.canLay0] using h)
  | .tuple ds, h => by simp only [PyData.eqv]; exact eqvAll_refl ds (by simpa [PyData.canLay0] using h)
  | .dict _, h => by simp [PyData.canLay0] at h
theorem eqvAll_refl : ∀ ds : List D, PyData.canLayAll0 ds = true → PyData.eqvAll ds ds = true
  | [], _ => rfl
  | d :: ds, h => by
    simp only [PyData.canLayAll0, Bool.and_eq_true] at h
    simp only [PyData.eqvAll, Bool.and_eq_true]
    exact ⟨eqv_refl d h.1, eqvAll_refl ds h.2⟩
end
def Tx (B : Nat) (d : D) : Prop := d.showable = true ∧ d.shown.length ≤ B
theorem tx_int {i : Int} (h : i.natAbs.log2 < 1920) : Tx 1921 (.int i) := ⟨by simp [PyData.showable, h], by simp only [PyData.shown]; exact int_text_len_1921 h⟩
theorem tx_none : Tx 4 .none := ⟨rfl, by simp only [PyData.shown]; decide⟩
theorem Tx.mono {k m : Nat} {d : D} (h : Tx k d) (l : k ≤ m) : Tx m d := ⟨h.1, Nat.le_trans h.2 l⟩
theorem tx_all {B : Nat} : ∀ {ds : List D}, (∀ d ∈ ds, Tx B d) → PyData.showableAll ds = true ∧ (PyData.shownAll ds).length = ds.length ∧ ∀ t ∈ PyData.shownAll ds, t.length ≤ B
  | [], _ => ⟨rfl, rfl, fun _ h => nomatch h⟩
  | d :: ds, h => by
    obtain ⟨a, b⟩ := h d List.mem_cons_self
    obtain ⟨c, e, f⟩ := tx_all (ds := ds) fun x hx => h x (List.mem_cons_of_mem _ hx)
    refine ⟨by simp [PyData.showableAll, a, c], by simp [PyData.shownAll, e], fun t ht => ?_⟩
    simp only [PyData.shownAll, List.mem_cons] at ht
    rcases ht with rfl | ht
    · exact b
    · exact f t ht
theorem str_app (a b : Str) : (a ++ b).length = a.length + b.length := by
  show (a.cps ++ b.cps).size = _
  rw [Array.size_append]
  rfl
theorem textFrom_le {B : Nat} : ∀ (ts : List Str) (k : Nat) (acc : Str), (∀ t ∈ ts, t.length ≤ B) → (textFrom k acc ts).length ≤ acc.length + ts.length * (B + 2)
  | [], k, acc, _ => by show acc.length ≤ _; omega
  | t :: r, k, acc, h => by
    have ih := textFrom_le r (k + 1) (acc ++ (if k > 0 then ", " else "" : String) ++ t) fun x hx => h x (List.mem_cons_of_mem _ hx)
    have ht := h t List.mem_cons_self
    have hc : ((if k > 0 then ", " else "" : String) : Str).length ≤ 2 := by split <;> decide
    rw [str_app, str_app] at ih
    show (textFrom (k + 1) _ r).length ≤ _
    rw [List.length_cons, Nat.add_mul, Nat.one_mul]
    omega
theorem join_le {B : Nat} (ts : List Str) (h : ∀ t ∈ ts, t.length ≤ B) : (Str.join ", " ts).length ≤ ts.length * (B + 2) := by
  cases ts with
  | nil => exact Nat.zero_le _
  | cons t r =>
    have := join_length_add (t :: r) (by simp)
    have hp : ∀ l : List Str, (∀ x ∈ l, x.length ≤ B) → piled l ≤ l.length * (B + 2) := by
      intro l
      induction l with
      | nil => intro _; rw [piled_nil]; exact Nat.zero_le _
      | cons x l ih =>
        intro hl
        have a := ih fun y hy => hl y (List.mem_cons_of_mem _ hy)
        have b := hl x List.mem_cons_self
        rw [List.length_cons, Nat.add_mul, Nat.one_mul]
        rw [piled_cons]
        omega
    have := hp _ h
    omega
theorem tx_list {B n : Nat} {ds : List D} (h : ∀ d ∈ ds, Tx B d) (hn : ds.length ≤ n) : Tx (n * (B + 2) + 4) (.list ds) := by
  obtain ⟨a, b, c⟩ := tx_all h
  refine ⟨by simp [PyData.showable, a], ?_⟩
  have := textFrom_le (PyData.shownAll ds) 0 "[" c
  simp only [PyData.shown, listText]
  rw [str_app]
  rw [b] at this
  have m := Nat.mul_le_mul_right (B + 2) hn
  have e1 : (("[" : String) : Str).length = 1 := rfl
  have e2 : (("]" : String) : Str).length = 1 := rfl
  omega
theorem tx_tup {B n : Nat} {ds : List D} (h : ∀ d ∈ ds, Tx B d) (hn : ds.length ≤ n) : Tx (n * (B + 2) + 4) (.tuple ds) := by
  obtain ⟨a, b, c⟩ := tx_all h
  refine ⟨by simp [PyData.showable, a], ?_⟩
  have := join_le (PyData.shownAll ds) c
  simp only [PyData.shown, tupleText]
  rw [str_app, str_app]
  rw [b] at this
  have m := Nat.mul_le_mul_right (B + 2) hn
  have e1 : (("(" : String) : Str).length = 1 := rfl
  have e2 : ((if (PyData.shownAll ds).length == 1 then ",)" else ")" : String) : Str).length ≤ 2 := by split <;> decide
  omega
theorem repr_eq {k B : Nat} {d : D} (h : Sh k d) (t : Tx B d) (l : k ≤ 64) (m : B ≤ sizeLine) : reprD d = some (.str d.shown) := by
  unfold reprD
  rw [if_pos ⟨h.ok l, t.1, Nat.le_trans t.2 m⟩]
theorem eqB_str (a b : Str) : eqB (.str a) (.str b) = some (a == b) := rfl
end Lay

namespace Lay
open PySem PySem.Spec PyProof.Rows L2

/-! ## the pure side, step by step -/
/-- it is there, and fits -/
def Ok {α : Type} (o : Option α) (P : α → Prop) : Prop := ∃ a, o = some a ∧ P a
def OkE {α : Type} (o : Option (α × En)) (P : α → En → Prop) : Prop := ∃ a ρ, o = some (a, ρ) ∧ P a ρ
def OkB (o : Option (D × D)) (P : D → D → Prop) : Prop := ∃ d b, o = some (d, b) ∧ P d b
def OkS (o : Out) (N : En → Prop) (R : D → En → Prop) (B C : En → Prop) : Prop := match o with
  | .nx ρ => N ρ
  | .rt d ρ => R d ρ
  | .bk ρ => B ρ
  | .ct ρ => C ρ
  | .bad => False
theorem ok_some {α : Type} {a : α} {P : α → Prop} (h : P a) : Ok (some a) P := ⟨a, rfl, h⟩
theorem ok_eq {α : Type} {o : Option α} {a : α} {P : α → Prop} (e : o = some a) (h : P a) : Ok o P := ⟨a, e, h⟩
theorem ok_mono {α : Type} {o : Option α} {P Q : α → Prop} (h : Ok o P) (i : ∀ a, P a → Q a) : Ok o Q := let ⟨a, e, p⟩ := h; ⟨a, e, i a p⟩
theorem oke_mono {α : Type} {o : Option (α × En)} {P Q : α → En → Prop} (h : OkE o P) (i : ∀ a ρ, P a ρ → Q a ρ) : OkE o Q := let ⟨a, ρ, e, p⟩ := h; ⟨a, ρ, e, i a ρ p⟩
theorem okb_mono {o : Option (D × D)} {P Q : D → D → Prop} (h : OkB o P) (i : ∀ a b, P a b → Q a b) : OkB o Q := let ⟨a, b, e, p⟩ := h; ⟨a, b, e, i a b p⟩
theorem ok_get {α : Type} {o : Option α} {a : α} (h : Ok o fun x => x = a) : o = some a := by obtain ⟨x, e, rfl⟩ := h; exact e
theorem oks_eq {o o' : Out} {N : En → Prop} {R : D → En → Prop} {B C : En → Prop} (e : o = o') (h : OkS o' N R B C) : OkS o N R B C := e ▸ h
theorem oks_mono {o : Out} {N N' : En → Prop} {R R' : D → En → Prop} {B B' C C' : En → Prop} (h : OkS o N R B C) (hn : ∀ ρ, N ρ → N' ρ) (hr : ∀ d ρ, R d ρ → R' d ρ) (hb : ∀ ρ, B ρ → B' ρ) (hc : ∀ ρ, C ρ → C' ρ) : OkS o N' R' B' C' := by
  cases o with
  | nx ρ => exact hn _ h
  | rt d ρ => exact hr _ _ h
  | bk ρ => exact hb _ h
  | ct ρ => exact hc _ h
  | bad => exact h
theorem oks_nx {o : Out} {N : En → Prop} {R : D → En → Prop} {B C : En → Prop} (h : OkS o N (fun _ _ => False) (fun _ => False) (fun _ => False)) : OkS o N R B C :=
  oks_mono h (fun _ h => h) (fun _ _ h => False.elim h) (fun _ h => False.elim h) (fun _ h => False.elim h)
theorem oks_rt {o : Out} {N : En → Prop} {R : D → En → Prop} {B C : En → Prop} (h : OkS o (fun _ => False) R (fun _ => False) (fun _ => False)) : OkS o N R B C :=
  oks_mono h (fun _ h => False.elim h) (fun _ _ h => h) (fun _ h => False.elim h) (fun _ h => False.elim h)
section
variable {α : Type} {ρ ρ1 : En} {i j : Nat} {d e : D} {f f' g : XE} {fa fr : XA} {t t' : XT} {F G : XS} {N : En → Prop} {R : D → En → Prop} {B C : En → Prop} {P : D → En → Prop} {PA : List D → En → Prop} {PT : Bool → En → Prop}
/-! whole defs -/
theorem ok_run {m : Nat} {S : XS} {ds : List D} {Q : D → Prop} (h : OkS (S (ds.map some ++ List.replicate m none)) (fun _ => Q .none) (fun d _ => Q d) (fun _ => False) (fun _ => False)) : Ok (runP m S ds) Q := by
  unfold runP
  split
  · rename_i d ρ e; rw [e] at h; exact ⟨d, rfl, h⟩
  · rename_i ρ e; rw [e] at h; exact ⟨_, rfl, h⟩
  · rename_i e1 e2; cases q : S (ds.map some ++ List.replicate m none) with
    | nx ρ => exact absurd q (e2 ρ)
    | rt d ρ => exact absurd q (e1 d ρ)
    | bk ρ => rw [q] at h; exact h.elim
    | ct ρ => rw [q] at h; exact h.elim
    | bad => rw [q] at h; exact h.elim
theorem ok_runF {m : Nat} {S : XS} {ds : List D} {Q : D → Prop} (h : OkS (S (ds.map some ++ List.replicate m none)) (fun _ => False) (fun d _ => Q d) (fun _ => False) (fun _ => False)) : Ok (runPF m S ds) Q := by
  unfold runPF
  split
  · rename_i d ρ e; rw [e] at h; exact ⟨d, rfl, h⟩
  · rename_i e1; cases q : S (ds.map some ++ List.replicate m none) with
    | nx ρ => rw [q] at h; exact h.elim
    | rt d ρ => exact absurd q (e1 d ρ)
    | bk ρ => rw [q] at h; exact h.elim
    | ct ρ => rw [q] at h; exact h.elim
    | bad => rw [q] at h; exact h.elim
theorem ok_b0 {Q : D → D → Prop} {b : D} (e : ρ[0]? = some (some b)) (h : Q d b) : OkB (b0 d ρ) Q := ⟨d, b, by unfold b0; rw [e], h⟩
def At0 (Q : D → D → Prop) (d : D) (ρ : En) : Prop := ∃ b, ρ[0]? = some (some b) ∧ Q d b
theorem ok_runB {m : Nat} {S : XS} {b : D} {ds : List D} {Q : D → D → Prop} (h : OkS (S (some b :: (ds.map some ++ List.replicate m none))) (At0 Q .none) (At0 Q) (fun _ => False) (fun _ => False)) : OkB (runB m S b ds) Q := by
  unfold runB
  split
  · rename_i d ρ e; rw [e] at h; obtain ⟨b, e, q⟩ := h; exact ok_b0 e q
  · rename_i ρ e; rw [e] at h; obtain ⟨b, e, q⟩ := h; exact ok_b0 e q
  · rename_i e1 e2; cases q : S (some b :: (ds.map some ++ List.replicate m none)) with
    | nx ρ => exact absurd q (e2 ρ)
    | rt d ρ => exact absurd q (e1 d ρ)
    | bk ρ => rw [q] at h; exact h.elim
    | ct ρ => rw [q] at h; exact h.elim
    | bad => rw [q] at h; exact h.elim
theorem ok_runBF {m : Nat} {S : XS} {b : D} {ds : List D} {Q : D → D → Prop} (h : OkS (S (some b :: (ds.map some ++ List.replicate m none))) (fun _ => False) (At0 Q) (fun _ => False) (fun _ => False)) : OkB (runBF m S b ds) Q := by
  unfold runBF
  split
  · rename_i d ρ e; rw [e] at h; obtain ⟨b, e, q⟩ := h; exact ok_b0 e q
  · rename_i e1; cases q : S (some b :: (ds.map some ++ List.replicate m none)) with
    | nx ρ => rw [q] at h; exact h.elim
    | rt d ρ => exact absurd q (e1 d ρ)
    | bk ρ => rw [q] at h; exact h.elim
    | ct ρ => rw [q] at h; exact h.elim
    | bad => rw [q] at h; exact h.elim
theorem at0 {Q : D → D → Prop} {b : D} (e : ρ[0]? = some (some b)) (h : Q d b) : At0 Q d ρ := ⟨b, e, h⟩
theorem env0 (l : En) : ([] : List D).map some ++ l = l := rfl
theorem env1 (a : D) (l : En) : [a].map some ++ l = some a :: l := rfl
theorem env2 (a b : D) (l : En) : [a, b].map some ++ l = some a :: some b :: l := rfl
theorem env3 (a b c : D) (l : En) : [a, b, c].map some ++ l = some a :: some b :: some c :: l := rfl
theorem env4 (a b c d : D) (l : En) : [a, b, c, d].map some ++ l = some a :: some b :: some c :: some d :: l := rfl
theorem env5 (a b c d e : D) (l : En) : [a, b, c, d, e].map some ++ l = some a :: some b :: some c :: some d :: some e :: l := rfl
/-! expressions -/
theorem o_var (e : ρ[i]? = some (some d)) (h : P d ρ) : OkE (varE i ρ) P := ⟨d, ρ, by unfold varE; rw [e], h⟩
theorem o_c (h : P d ρ) : OkE (cE d ρ) P := ⟨d, ρ, rfl, h⟩
theorem o_op {g : D → D → Option D} (h : OkE (f ρ) fun a ρ1 => OkE (f' ρ1) fun b ρ2 => Ok (g a b) fun z => P z ρ2) : OkE (opE g f f' ρ) P := by
  obtain ⟨a, ρ1, e1, b, ρ2, e2, z, e3, p⟩ := h
  exact ⟨z, ρ2, opE_eq e1 e2 e3, p⟩
theorem o_un {g : D → Option D} (h : OkE (f ρ) fun a ρ1 => Ok (g a) fun z => P z ρ1) : OkE (unE g f ρ) P := by
  obtain ⟨a, ρ1, e1, z, e3, p⟩ := h
  exact ⟨z, ρ1, by simp only [unE, e1, e3, Option.bind_some, Option.map_some], p⟩
theorem o_nil (h : PA [] ρ) : OkE (nilA ρ) PA := ⟨_, _, rfl, h⟩
theorem o_cons (h : OkE (f ρ) fun a ρ1 => OkE (fr ρ1) fun as ρ2 => PA (a :: as) ρ2) : OkE (consA f fr ρ) PA := by
  obtain ⟨a, ρ1, e1, b, ρ2, e2, p⟩ := h
  exact ⟨_, ρ2, consA_eq e1 e2, p⟩
theorem o_cl {g : List D → Option D} (h : OkE (fa ρ) fun as ρ1 => Ok (g as) fun z => P z ρ1) : OkE (clE g fa ρ) P := by
  obtain ⟨a, ρ1, e1, z, e3, p⟩ := h
  exact ⟨z, ρ1, clE_eq e1 e3, p⟩
theorem o_g1 {g : D → Option D} {a : D} {Q : D → Prop} (h : Ok (g a) Q) : Ok (g1 g [a]) Q := h
theorem o_tup (h : OkE (fa ρ) fun as ρ1 => as.length ≤ sizeLine ∧ P (.tuple as) ρ1) : OkE (tupE fa ρ) P := by
  obtain ⟨a, ρ1, e1, l, p⟩ := h
  exact ⟨_, ρ1, by simp only [tupE, e1, Option.bind_some]; rw [if_pos l], p⟩
theorem o_lst (h : OkE (fa ρ) fun as ρ1 => as.length ≤ sizeLine ∧ P (.list as) ρ1) : OkE (lstE fa ρ) P := by
  obtain ⟨a, ρ1, e1, l, p⟩ := h
  exact ⟨_, ρ1, by simp only [lstE, e1, Option.bind_some]; rw [if_pos l], p⟩
theorem o_if (h : OkE (t ρ) fun b ρ1 => (b = true → OkE (f ρ1) P) ∧ (b = false → OkE (f' ρ1) P)) : OkE (ifE t f f' ρ) P := by
  obtain ⟨b, ρ1, e1, h1, h2⟩ := h
  unfold ifE
  rw [e1]
  cases b with
  | true => exact h1 rfl
  | false => exact h2 rfl
theorem o_not (h : OkE (tE f ρ) fun b ρ1 => P (.bool (!b)) ρ1) : OkE (notE f ρ) P := by
  obtain ⟨b, ρ1, e1, p⟩ := h
  exact ⟨_, ρ1, by unfold notE; rw [e1]; rfl, p⟩
theorem o_bor (h : OkE (f ρ) fun d ρ1 => lfree d = true ∧ ρ1 = ρ ∧ P d ρ) : OkE (borE f ρ) P := by
  obtain ⟨d, ρ1, e, l, rfl, p⟩ := h
  exact ⟨d, _, borE_eq e l, p⟩
theorem o_borF (h : OkE (f ρ) fun d ρ1 => ρ1 = ρ ∧ ∃ ds, d = .list ds ∧ lfrees ds = true ∧ P (.list ds) ρ) : OkE (borF f ρ) P := by
  obtain ⟨d, ρ1, e, rfl, ds, rfl, l, p⟩ := h
  exact ⟨_, _, borF_eq e l, p⟩
theorem o_callB {F : D → List D → Option (D × D)} (h : OkE (fr ρ) fun as ρ1 => ∃ b, ρ1[i]? = some (some b) ∧ OkB (F b as) fun d b' => P d (ρ1.set i (some b'))) : OkE (callB F i fr ρ) P := by
  obtain ⟨as, ρ1, e1, b, e2, d, b', e3, p⟩ := h
  exact ⟨d, _, by unfold callB; simp only [e1, Option.bind_some, e2, e3, Option.map_some], p⟩
theorem o_ixo (h : OkE (f ρ) fun k ρ1 => ∃ n ds, k = .int n ∧ getL i ρ1 = some ds ∧ Ok (atI ds n) fun d => P d ρ1) : OkE (ixoE i f ρ) P := by
  obtain ⟨k, ρ1, e1, n, ds, rfl, e2, d, e3, p⟩ := h
  exact ⟨d, ρ1, by unfold ixoE; rw [e1]; simp only [e2, e3, Option.map_some], p⟩
theorem o_isi {T : String} (h : OkE (f ρ) fun d ρ1 => P (.bool ((isiB T d).getD false)) ρ1 ∧ ∃ b, isiB T d = some b) : OkE (isiE T f ρ) P := by
  obtain ⟨d, ρ1, e1, p, b, e2⟩ := h
  rw [e2] at p
  exact ⟨_, ρ1, by unfold isiE; simp only [e1, Option.bind_some, e2, Option.map_some]; rfl, p⟩
theorem o_sl {fl fh : XO} (h : OkE (f ρ) fun d ρ1 => OkE (fl ρ1) fun lo ρ2 => OkE (fh ρ2) fun hi ρ3 => Ok (slD lo hi d) fun z => P z ρ3) : OkE (slE f fl fh ρ) P := by
  obtain ⟨d, ρ1, e1, lo, ρ2, e2, hi, ρ3, e3, z, e4, p⟩ := h
  exact ⟨z, ρ3, by unfold slE; simp only [e1, e2, e3, e4, Option.bind_some, Option.map_some], p⟩
theorem o_noO {PO : Option Int → En → Prop} (h : PO none ρ) : OkE (noO ρ) PO := ⟨_, _, rfl, h⟩
theorem o_someO {PO : Option Int → En → Prop} (h : OkE (f ρ) fun d ρ1 => ∃ n, d = .int n ∧ PO (some n) ρ1) : OkE (someO f ρ) PO := by
  obtain ⟨d, ρ1, e1, n, rfl, p⟩ := h
  exact ⟨_, ρ1, by unfold someO; rw [e1]; rfl, p⟩
theorem o_ch {r r' : D → D → Option D} (h : OkE (f ρ) fun a ρ1 => OkE (f' ρ1) fun b ρ2 => Ok (r a b) fun z => Ok (asB z) fun k => (k = true → OkE (g ρ2) fun c ρ3 => Ok (r' b c) fun y => P y ρ3) ∧ (k = false → P (.bool false) ρ2)) : OkE (chE r r' f f' g ρ) P := by
  obtain ⟨a, ρ1, e1, b, ρ2, e2, z, e3, k, e4, h1, h2⟩ := h
  unfold chE
  simp only [e1, e2, e3, e4, Option.bind_some]
  cases k with
  | true =>
    obtain ⟨c, ρ3, e5, y, e6, p⟩ := h1 rfl
    simp only [if_true, e5, e6, Option.bind_some, Option.map_some]
    exact ⟨_, _, rfl, p⟩
  | false =>
    simp only [Bool.false_eq_true, if_false]
    exact ⟨_, _, rfl, h2 rfl⟩
/-! tests -/
theorem o_t (h : OkE (f ρ) fun d ρ1 => Ok (asB d) fun b => PT b ρ1) : OkE (tE f ρ) PT := by
  obtain ⟨d, ρ1, e1, b, e2, p⟩ := h
  exact ⟨b, ρ1, by unfold tE; simp only [e1, e2, Option.bind_some, Option.map_some], p⟩
theorem o_et (h : OkE (t ρ) fun b ρ1 => P (.bool b) ρ1) : OkE (eT t ρ) P := by
  obtain ⟨b, ρ1, e1, p⟩ := h
  exact ⟨_, ρ1, by unfold eT; rw [e1]; rfl, p⟩
theorem o_asB {b : Bool} {Q : Bool → Prop} (h : Q b) : Ok (asB (.bool b)) Q := ⟨b, rfl, h⟩
theorem o_and (h : OkE (t ρ) fun b ρ1 => (b = true → OkE (t' ρ1) PT) ∧ (b = false → PT false ρ1)) : OkE (andT t t' ρ) PT := by
  obtain ⟨b, ρ1, e1, h1, h2⟩ := h
  unfold andT
  rw [e1]
  cases b with
  | true => exact h1 rfl
  | false => exact ⟨_, _, rfl, h2 rfl⟩
theorem o_or (h : OkE (t ρ) fun b ρ1 => (b = true → PT true ρ1) ∧ (b = false → OkE (t' ρ1) PT)) : OkE (orT t t' ρ) PT := by
  obtain ⟨b, ρ1, e1, h1, h2⟩ := h
  unfold orT
  rw [e1]
  cases b with
  | true => exact ⟨_, _, rfl, h1 rfl⟩
  | false => exact h2 rfl
theorem o_notT (h : OkE (t ρ) fun b ρ1 => PT (!b) ρ1) : OkE (notT t ρ) PT := by
  obtain ⟨b, ρ1, e1, p⟩ := h
  exact ⟨_, ρ1, by unfold notT; rw [e1]; rfl, p⟩
theorem o_borT (h : OkE (t ρ) fun b ρ1 => ρ1 = ρ ∧ PT b ρ) : OkE (borT t ρ) PT := by
  obtain ⟨b, ρ1, e, rfl, p⟩ := h
  exact ⟨b, _, borT_eq e, p⟩
theorem o_yes (h : PT true ρ) : OkE (yesT ρ) PT := ⟨_, _, rfl, h⟩
/-! what is gone through -/
theorem o_it (h : OkE (f ρ) fun d ρ1 => Ok (itD d) fun ds => PA ds ρ1) : OkE (itE f ρ) PA := by
  obtain ⟨d, ρ1, e1, ds, e2, p⟩ := h
  exact ⟨ds, ρ1, by unfold itE; simp only [e1, e2, Option.bind_some, Option.map_some], p⟩
theorem o_itl {ds : List D} {Q : List D → Prop} (h : Q ds) : Ok (itD (.list ds)) Q := ⟨ds, rfl, h⟩
theorem o_itt {ds : List D} {Q : List D → Prop} (h : Q ds) : Ok (itD (.tuple ds)) Q := ⟨ds, rfl, h⟩
theorem o_rng1 (h : OkE (f ρ) fun d ρ1 => ∃ n : Nat, d = .int n ∧ n ≤ 100000 ∧ PA ((List.range n).map fun i => .int (i : Nat)) ρ1) : OkE (rngE (consA f nilA) ρ) PA := by
  obtain ⟨d, ρ1, e1, n, rfl, l, p⟩ := h
  have h1 : (n : Int) ≤ sizeLine := by simp only [sizeLine]; omega
  have h2 : -(2 ^ 62 : Int) ≤ n := by omega
  refine ⟨_, ρ1, ?_, p⟩
  unfold rngE
  simp only [consA, e1, nilA, Option.bind_some, Option.map_some]
  rw [if_pos ⟨h1, h2⟩]
  simp only [Int.zero_add, Int.toNat_natCast]
theorem rng2_gen {i j : Int} {ρ ρ1 ρ2 : En} (c : (-(2 ^ 62) ≤ i ∧ i < 2 ^ 62 ∧ -(2 ^ 62) ≤ j ∧ j < 2 ^ 62) ∧ j - i ≤ sizeLine) {f g : XE} (h0 : f ρ = some (.int i, ρ1)) (h : g ρ1 = some (.int j, ρ2)) : rngE (consA f (consA g nilA)) ρ = some ((List.range (j - i).toNat).map fun m => .int (i + (m : Nat)), ρ2) := by
  unfold rngE
  simp only [consA, h0, h, nilA, Option.bind_some, Option.map_some]
  rw [if_pos c]
theorem o_rng2 (h : OkE (f ρ) fun d ρ1 => OkE (f' ρ1) fun d' ρ2 => ∃ a n : Nat, d = .int a ∧ d' = .int n ∧ a ≤ 100000 ∧ n ≤ 100000 ∧ PA ((List.range (n - a)).map fun i => .int ((a + i : Nat) : Int)) ρ2) : OkE (rngE (consA f (consA f' nilA)) ρ) PA := by
  obtain ⟨d, ρ1, e1, d', ρ2, e2, a, n, rfl, rfl, la, l, p⟩ := h
  have h1 : (n : Int) - a ≤ sizeLine := by simp only [sizeLine]; omega
  have e : (fun i : Nat => PyData.int ((a + i : Nat) : Int)) = fun i : Nat => .int ((a : Int) + (i : Nat)) := funext fun i => by rw [Int.natCast_add]
  have c : (-(2 ^ 62 : Int) ≤ a ∧ (a : Int) < 2 ^ 62 ∧ -(2 ^ 62 : Int) ≤ n ∧ (n : Int) < 2 ^ 62) := ⟨by omega, by omega, by omega, by omega⟩
  rw [e] at p
  refine ⟨_, ρ2, ?_, p⟩
  rw [rng2_gen ⟨c, h1⟩ e1 e2, show ((n : Int) - a).toNat = n - a from Int.toNat_sub n a]
theorem o_enum (h : OkE (f ρ) fun d ρ1 => ∃ ds, d = .list ds ∧ PA (ds.zipIdx.map fun p => .tuple [.int (p.2 : Nat), p.1]) ρ1) : OkE (enumE (consA f nilA) ρ) PA := by
  obtain ⟨d, ρ1, e1, ds, rfl, p⟩ := h
  exact ⟨_, ρ1, by unfold enumE; rw [consA_eq e1 (rfl : nilA _ = some ([], _))]; rfl, p⟩
theorem o_enumT (h : OkE (f ρ) fun d ρ1 => ∃ ds, d = .tuple ds ∧ PA (ds.zipIdx.map fun p => .tuple [.int (p.2 : Nat), p.1]) ρ1) : OkE (enumT (consA f nilA) ρ) PA := by
  obtain ⟨d, ρ1, e1, ds, rfl, p⟩ := h
  exact ⟨_, ρ1, by unfold enumT; rw [consA_eq e1 (rfl : nilA _ = some ([], _))]; rfl, p⟩
theorem o_zip (h : OkE (f ρ) fun d ρ1 => OkE (f' ρ1) fun d' ρ2 => ∃ ds es, (d = .list ds ∧ d' = .list es ∨ d = .tuple ds ∧ d' = .tuple es) ∧ PA (zipD ds es) ρ2) : OkE (zipE (consA f (consA f' nilA)) ρ) PA := by
  obtain ⟨d, ρ1, e1, d', ρ2, e2, ds, es, h, p⟩ := h
  rcases h with ⟨rfl, rfl⟩ | ⟨rfl, rfl⟩
  · exact ⟨_, ρ2, by unfold zipE; rw [consA_eq e1 (consA_eq e2 (rfl : nilA _ = some ([], _)))]; rfl, p⟩
  · exact ⟨_, ρ2, by unfold zipE; rw [consA_eq e1 (consA_eq e2 (rfl : nilA _ = some ([], _)))]; rfl, p⟩
/-! targets -/
theorem o_name {Q : En → Prop} (h : Q (ρ.set i (some d))) : Ok (nameG i d ρ) Q := ⟨_, rfl, h⟩
theorem o_tupG {gs : List D → En → Option En} {ds : List D} {Q : En → Prop} (h : Ok (gs ds ρ) Q) : Ok (tupG gs (.tuple ds) ρ) Q := h
theorem o_nilG {Q : En → Prop} (h : Q ρ) : Ok (nilG [] ρ) Q := ⟨_, rfl, h⟩
theorem o_consG {fg : XG} {gs : List D → En → Option En} {ds : List D} {Q : En → Prop} (h : Ok (fg d ρ) fun ρ1 => Ok (gs ds ρ1) Q) : Ok (consG fg gs (d :: ds) ρ) Q := by
  obtain ⟨ρ1, e1, ρ2, e2, q⟩ := h
  exact ⟨ρ2, by unfold consG; simp only [e1, Option.bind_some, e2], q⟩
/-! statements -/
theorem s_nop (h : N ρ) : OkS (nopS ρ) N R B C := h
theorem s_seq (h : OkS (F ρ) (fun ρ1 => OkS (G ρ1) N R B C) R B C) : OkS (seqS F G ρ) N R B C := by
  unfold seqS
  cases e : F ρ with
  | nx ρ1 => rw [e] at h; exact h
  | rt d ρ1 => rw [e] at h; exact h
  | bk ρ1 => rw [e] at h; exact h
  | ct ρ1 => rw [e] at h; exact h
  | bad => rw [e] at h; exact h.elim
theorem s_set (h : OkE (f ρ) fun d ρ1 => N (ρ1.set i (some d))) : OkS (setS i f ρ) N R B C := by
  obtain ⟨d, ρ1, e1, p⟩ := h
  rw [setS_eq e1]
  exact p
theorem s_own (hi : i < ρ.length) (h : OkE (f ρ) fun d ρ1 => N (ρ1.set i (some d))) : OkS (ownS i f ρ) N R B C := by
  obtain ⟨d, ρ1, e1, p⟩ := h
  rw [ownS_eq hi e1]
  exact p
theorem s_ret (h : OkE (f ρ) R) : OkS (retS f ρ) N R B C := by
  obtain ⟨d, ρ1, e1, p⟩ := h
  rw [retS_eq e1]
  exact p
theorem s_retO (e : ρ[i]? = some (some d)) (h : R d (ρ.set i none)) : OkS (retOS i ρ) N R B C := by
  unfold retOS varE
  rw [e]
  exact h
theorem s_retN (h : R .none ρ) : OkS ((fun ρ => .rt .none ρ : XS) ρ) N R B C := h
theorem s_drop (h : OkE (f ρ) fun _ ρ1 => N ρ1) : OkS (dropS f ρ) N R B C := by
  obtain ⟨d, ρ1, e1, p⟩ := h
  unfold dropS
  rw [e1]
  exact p
theorem s_if (h : OkE (t ρ) fun b ρ1 => (b = true → OkS (F ρ1) N R B C) ∧ (b = false → OkS (G ρ1) N R B C)) : OkS (ifS t F G ρ) N R B C := by
  obtain ⟨b, ρ1, e1, h1, h2⟩ := h
  cases b with
  | true => rw [ifS_t e1]; exact h1 rfl
  | false => rw [ifS_f e1]; exact h2 rfl
theorem s_kill {vs : List Nat} (h : N (kil ρ vs)) : OkS (killS vs ρ) N R B C := h
theorem s_bk (h : B ρ) : OkS (.bk ρ) N R B C := h
theorem s_ct (h : C ρ) : OkS (.ct ρ) N R B C := h
theorem s_mut {g : List D → D → Option (List D)} {ds0 : List D} (e0 : getL i ρ = some ds0) (h : OkE (f ρ) fun d ρ1 => ∃ ds, getL i ρ1 = some ds ∧ Ok (g ds d) fun es => N (ρ1.set i (some (.list es)))) : OkS (mutS i g f ρ) N R B C := by
  obtain ⟨d, ρ1, e1, ds, e2, es, e3, p⟩ := h
  unfold mutS
  simp only [e0, e1, e2, e3]
  exact p
theorem o_app {ds : List D} {Q : List D → Prop} (l : ds.length < sizeLine) (h : Q (ds ++ [d])) : Ok (appG ds d) Q := ⟨_, by unfold appG; rw [if_pos l], h⟩
theorem o_ext {ds es : List D} {Q : List D → Prop} (l : ds.length + es.length ≤ sizeLine) (h : Q (ds ++ es)) : Ok (extG ds (.list es)) Q := ⟨_, by unfold extG; simp only; rw [if_pos l], h⟩
theorem s_ins {fk : XE} {ds0 : List D} (e0 : getL i ρ = some ds0) (h : OkE (fk ρ) fun k ρ1 => OkE (f ρ1) fun d ρ2 => ∃ ds, getL i ρ2 = some ds ∧ Ok (insG k ds d) fun es => N (ρ2.set i (some (.list es)))) : OkS (insS i fk f ρ) N R B C := by
  obtain ⟨k, ρ1, e1, d, ρ2, e2, ds, e3, es, e4, p⟩ := h
  unfold insS
  simp only [e0, e1, e2, e3, e4]
  exact p
theorem o_ins {n : Nat} {ds : List D} {Q : List D → Prop} (l : ds.length < sizeLine) (ln : n ≤ 100000) (h : Q (ds.take n ++ [d] ++ ds.drop n)) : Ok (insG (.int n) ds d) Q := ⟨_, by
  unfold insG
  simp only
  rw [if_pos ⟨l, by omega, by omega⟩]
  rfl, h⟩
theorem s_seti {fk : XE} (h : OkE (f ρ) fun d ρ1 => OkE (fk ρ1) fun k ρ2 => ∃ n ds j, k = .int n ∧ getL i ρ2 = some ds ∧ ixN ds.length n = some j ∧ N (ρ2.set i (some (.list (ds.set j d))))) : OkS (setiS i fk f ρ) N R B C := by
  obtain ⟨d, ρ1, e1, k, ρ2, e2, n, ds, j, rfl, e3, e4, p⟩ := h
  unfold setiS
  simp only [e1, e2, e3, e4]
  exact p
theorem s_aug {g : D → D → Option D} {d : D} (e0 : ρ[i]? = some (some d)) (h : OkE (f ρ) fun e ρ1 => Ok (g d e) fun z => N (ρ1.set i (some z))) : OkS (augS g i f ρ) N R B C := by
  obtain ⟨e, ρ1, e1, z, e2, p⟩ := h
  unfold augS
  simp only [e0, e1, e2]
  exact p
theorem s_par (h : OkE (fa ρ) fun as ρ1 => ∃ d e, as = [d, e] ∧ N ((ρ1.set i (some d)).set j (some e))) : OkS (parS i j fa ρ) N R B C := by
  obtain ⟨as, ρ1, e1, d, e, rfl, p⟩ := h
  unfold parS
  rw [e1]
  exact p
theorem s_parM {is : List Nat} (hi : is.all (fun i => decide (i < ρ.length)) = true) (h : OkE (fa ρ) fun as ρ1 => N (setsE ρ1 is as)) : OkS (parM is fa ρ) N R B C := by
  obtain ⟨as, ρ1, e1, p⟩ := h
  unfold parM
  rw [if_pos hi, e1]
  exact p
theorem s_setG {fg : XG} (h : OkE (f ρ) fun d ρ1 => Ok (fg d ρ1) N) : OkS (setG fg f ρ) N R B C := by
  obtain ⟨d, ρ1, e1, ρ2, e2, p⟩ := h
  unfold setG
  rw [e1]
  simp only [e2]
  exact p
/-! loops -/
theorem s_for {fi : XI} {fg : XG} (h : OkE (fi ρ) fun ds ρ1 => OkS (loopS fg F ds ρ1) N R B C) : OkS (forS fi fg F ρ) N R B C := by
  obtain ⟨ds, ρ1, e1, p⟩ := h
  unfold forS
  rw [e1]
  exact p
theorem l_nil {fg : XG} (h : N ρ) : OkS (loopS fg F [] ρ) N R B C := h
theorem l_cons {fg : XG} {ds : List D} (h : Ok (fg d ρ) fun ρ1 => OkS (F ρ1) (fun ρ2 => OkS (loopS fg F ds ρ2) N R B C) R N (fun ρ2 => OkS (loopS fg F ds ρ2) N R B C)) : OkS (loopS fg F (d :: ds) ρ) N R B C := by
  obtain ⟨ρ1, e1, h⟩ := h
  simp only [loopS, e1]
  cases e : F ρ1 with
  | nx ρ2 => rw [e] at h; exact h
  | rt d ρ2 => rw [e] at h; exact h
  | bk ρ2 => rw [e] at h; exact h
  | ct ρ2 => rw [e] at h; exact h
  | bad => rw [e] at h; exact h.elim
/-- a loop over a row made of other things, by what holds behind each beginning of it -/
theorem l_on {β : Type} {fg : XG} {xs : List β} {e : β → D} (I : List β → En → Prop) (h0 : I [] ρ) (he : ∀ ρ, I xs ρ → N ρ)
    (hs : ∀ pre x post ρ, xs = pre ++ x :: post → I pre ρ → Ok (fg (e x) ρ) fun ρ1 => OkS (F ρ1) (I (pre ++ [x])) R N (I (pre ++ [x]))) : OkS (loopS fg F (xs.map e) ρ) N R B C := by
  suffices H : ∀ (post pre : List β) (ρ : En), xs = pre ++ post → I pre ρ → OkS (loopS fg F (post.map e) ρ) N R B C from H xs [] ρ rfl h0
  intro post
  induction post with
  | nil => intro pre ρ q h; exact he ρ (by rw [q, List.append_nil]; exact h)
  | cons x post ih =>
    intro pre ρ q h
    refine l_cons (ok_mono (hs pre x post ρ q h) fun ρ1 h1 => ?_)
    refine oks_mono h1 (fun ρ2 h2 => ?_) (fun _ _ h => h) (fun _ h => h) fun ρ2 h2 => ?_
    · exact ih (pre ++ [x]) ρ2 (by rw [q]; simp) h2
    · exact ih (pre ++ [x]) ρ2 (by rw [q]; simp) h2
theorem l_pre {fg : XG} {ds : List D} (I : List D → En → Prop) (h0 : I [] ρ) (he : ∀ ρ, I ds ρ → N ρ)
    (hs : ∀ pre x post ρ, ds = pre ++ x :: post → I pre ρ → Ok (fg x ρ) fun ρ1 => OkS (F ρ1) (I (pre ++ [x])) R N (I (pre ++ [x]))) : OkS (loopS fg F ds ρ) N R B C := by
  have := l_on (fg := fg) (F := F) (ρ := ρ) (N := N) (R := R) (B := B) (C := C) (xs := ds) (e := id) I h0 he hs
  rw [List.map_id] at this
  exact this
/-- .. over any row -/
theorem l_in {fg : XG} {ds : List D} (I : Nat → En → Prop) (h0 : I 0 ρ) (he : ∀ ρ, I ds.length ρ → N ρ)
    (hs : ∀ i d ρ, ds[i]? = some d → I i ρ → Ok (fg d ρ) fun ρ1 => OkS (F ρ1) (I (i + 1)) R N (I (i + 1))) : OkS (loopS fg F ds ρ) N R B C := by
  have := l_on (fg := fg) (F := F) (ρ := ρ) (N := N) (R := R) (B := B) (C := C) (xs := ds) (e := id) (fun pre ρ => I pre.length ρ) h0 he fun pre x post ρ q h => by
    have := hs pre.length x ρ (by rw [q]; simp) h
    simpa using this
  simpa using this
/-- while, by a number that falls -/
theorem s_while {fu : En → Nat} (I : Nat → En → Prop) (n0 : Nat) (h0 : I n0 ρ) (hf : n0 < fu ρ)
    (hs : ∀ n ρ, I n ρ → OkE (t ρ) fun b ρ1 => (b = true → OkS (F ρ1) (fun ρ2 => ∃ m, m < n ∧ I m ρ2) R N (fun ρ2 => ∃ m, m < n ∧ I m ρ2)) ∧ (b = false → N ρ1)) : OkS (whileS fu t F ρ) N R B C := by
  unfold whileS
  suffices H : ∀ (k n : Nat) (ρ : En), n < k → I n ρ → OkS (whileN t F k ρ) N R B C from H _ _ _ hf h0
  intro k
  induction k with
  | zero => intro n ρ l; omega
  | succ k ih =>
    intro n ρ l h
    obtain ⟨b, ρ1, e1, h1, h2⟩ := hs n ρ h
    simp only [whileN, e1]
    cases b with
    | false => simp only [Bool.false_eq_true, if_false]; exact h2 rfl
    | true =>
      simp only [if_true]
      have h1 := h1 rfl
      cases e : F ρ1 with
      | nx ρ2 => rw [e] at h1; obtain ⟨m, q, h⟩ := h1; exact ih m ρ2 (by omega) h
      | rt d ρ2 => rw [e] at h1; exact h1
      | bk ρ2 => rw [e] at h1; exact h1
      | ct ρ2 => rw [e] at h1; obtain ⟨m, q, h⟩ := h1; exact ih m ρ2 (by omega) h
      | bad => rw [e] at h1; exact h1.elim
/-! comprehensions -/
theorem o_comp {fi : XI} {vs : List Nat} {fg : XG} {ft : XT} {fe : XE} (h : OkE (fi ρ) fun ds ρ1 => OkE (compL vs fg ft fe ds ρ1) fun ys ρ2 => P (.list ys) (backE vs ρ1 ρ2)) : OkE (compE fi vs fg ft fe ρ) P := by
  obtain ⟨ds, ρ1, e1, ys, ρ2, e2, p⟩ := h
  exact ⟨_, _, by unfold compE; simp only [e1, e2, Option.bind_some, Option.map_some], p⟩
theorem c_nil {vs : List Nat} {fg : XG} {ft : XT} {fe : XE} (h : PA [] ρ) : OkE (compL vs fg ft fe [] ρ) PA := ⟨_, _, rfl, h⟩
theorem c_cons {vs : List Nat} {fg : XG} {ft : XT} {fe : XE} {ds : List D} (h : Ok (fg d (kil ρ vs)) fun ρ1 => OkE (ft ρ1) fun b ρ2 => (b = true → OkE (fe ρ2) fun y ρ3 => OkE (compL vs fg ft fe ds ρ3) fun ys ρ4 => PA (y :: ys) ρ4) ∧ (b = false → OkE (compL vs fg ft fe ds ρ2) PA)) : OkE (compL vs fg ft fe (d :: ds) ρ) PA := by
  obtain ⟨ρ1, e1, b, ρ2, e2, h1, h2⟩ := h
  unfold compL
  simp only [e1, e2, Option.bind_some]
  cases b with
  | true =>
    obtain ⟨y, ρ3, e3, ys, ρ4, e4, p⟩ := h1 rfl
    simp only [if_true, e3, e4, Option.bind_some, Option.map_some]
    exact ⟨_, _, rfl, p⟩
  | false => simp only [Bool.false_eq_true, if_false]; exact h2 rfl
/-- a comprehension that leaves the rest as it is -/
theorem c_on {β : Type} {vs : List Nat} {fg : XG} {ft : XT} {fe : XE} {xs : List β} {e : β → D} (p : β → Bool) (q : β → D)
    (hs : ∀ x ∈ xs, Ok (fg (e x) (kil ρ vs)) fun ρ1 => kil ρ1 vs = kil ρ vs ∧ OkE (ft ρ1) fun b ρ2 => ρ2 = ρ1 ∧ b = p x ∧ (p x = true → OkE (fe ρ1) fun y ρ3 => ρ3 = ρ1 ∧ y = q x))
    (h : ∀ ρ2, kil ρ2 vs = kil ρ vs → PA ((xs.filter p).map q) ρ2) : OkE (compL vs fg ft fe (xs.map e) ρ) PA := by
  obtain ⟨R, r1, r2⟩ := compL_on (ρ0 := ρ) (ρ := ρ) (vs := vs) (fg := fg) (ft := ft) (fe := fe) (ds := xs) (p := p) (e := e) (h := q) rfl fun x hx => by
    obtain ⟨ρ1, e1, e2, b, ρ2, e3, rfl, rfl, h4⟩ := hs x hx
    refine ⟨ρ2, e1, e2, e3, fun z => ?_⟩
    obtain ⟨y, ρ3, e5, rfl, rfl⟩ := h4 z
    exact e5
  exact ⟨_, R, r1, h R r2⟩
theorem o_compOn {β : Type} {fi : XI} {vs : List Nat} {fg : XG} {ft : XT} {fe : XE} {xs : List β} {e : β → D} (p : β → Bool) (q : β → D)
    (hi : fi ρ = some (xs.map e, ρ))
    (hs : ∀ x ∈ xs, Ok (fg (e x) (kil ρ vs)) fun ρ1 => kil ρ1 vs = kil ρ vs ∧ OkE (ft ρ1) fun b ρ2 => ρ2 = ρ1 ∧ b = p x ∧ (p x = true → OkE (fe ρ1) fun y ρ3 => ρ3 = ρ1 ∧ y = q x))
    (h : P (.list ((xs.filter p).map q)) ρ) : OkE (compE fi vs fg ft fe ρ) P :=
  o_comp ⟨_, _, hi, c_on p q hs fun ρ2 hk => by rw [backE_kil hk]; exact h⟩
theorem o_compAll {β : Type} {fi : XI} {vs : List Nat} {fg : XG} {fe : XE} {xs : List β} {e : β → D} (q : β → D)
    (hi : fi ρ = some (xs.map e, ρ))
    (hs : ∀ x ∈ xs, Ok (fg (e x) (kil ρ vs)) fun ρ1 => kil ρ1 vs = kil ρ vs ∧ OkE (fe ρ1) fun y ρ3 => ρ3 = ρ1 ∧ y = q x)
    (h : P (.list (xs.map q)) ρ) : OkE (compE fi vs fg yesT fe ρ) P :=
  o_compOn (fun _ => true) q hi (fun x hx => ok_mono (hs x hx) fun ρ1 h => ⟨h.1, ⟨true, ρ1, rfl, rfl, rfl, fun _ => h.2⟩⟩) (by rw [List.filter_eq_self.mpr fun _ _ => rfl]; exact h)
/-- .. that changes: by what holds behind each beginning -/
theorem c_in {β : Type} {vs : List Nat} {fg : XG} {ft : XT} {fe : XE} {xs : List β} {e : β → D} (I : List β → List D → En → Prop) (h0 : I [] [] ρ) (he : ∀ ys ρ, I xs ys ρ → PA ys ρ)
    (hs : ∀ pre x post ys ρ, xs = pre ++ x :: post → I pre ys ρ → Ok (fg (e x) (kil ρ vs)) fun ρ1 => OkE (ft ρ1) fun b ρ2 => (b = true → OkE (fe ρ2) fun y ρ3 => I (pre ++ [x]) (ys ++ [y]) ρ3) ∧ (b = false → I (pre ++ [x]) ys ρ2)) :
    OkE (compL vs fg ft fe (xs.map e) ρ) PA := by
  suffices H : ∀ (post pre : List β) (ys : List D) (ρ : En), xs = pre ++ post → I pre ys ρ → OkE (compL vs fg ft fe (post.map e) ρ) fun zs ρ' => PA (ys ++ zs) ρ' from H xs [] [] ρ rfl h0
  intro post
  induction post with
  | nil => intro pre ys ρ q h; exact c_nil (by rw [List.append_nil]; exact he ys ρ (by rw [q, List.append_nil]; exact h))
  | cons x post ih =>
    intro pre ys ρ q h
    refine c_cons (ok_mono (hs pre x post ys ρ q h) fun ρ1 h1 => oke_mono h1 fun b ρ2 h2 => ⟨fun hb => oke_mono (h2.1 hb) fun y ρ3 h3 => ?_, fun hb => ?_⟩)
    · exact oke_mono (ih (pre ++ [x]) (ys ++ [y]) ρ3 (by rw [q]; simp) h3) fun zs ρ4 h4 => by simpa using h4
    · exact ih (pre ++ [x]) ys ρ2 (by rw [q]; simp) (h2.2 hb)
end
/-! operators -/
section
variable {a b : Int} {Q : D → Prop}
theorem p_add (h : Q (.int (a + b))) : Ok (addD (.int a) (.int b)) Q := ⟨_, rfl, h⟩
theorem p_addL {xs ys : List D} (l : xs.length + ys.length ≤ sizeLine) (h : Q (.list (xs ++ ys))) : Ok (addD (.list xs) (.list ys)) Q := ⟨_, by unfold addD; simp only; rw [if_pos l], h⟩
theorem p_addT {xs ys : List D} (l : xs.length + ys.length ≤ sizeLine) (h : Q (.tuple (xs ++ ys))) : Ok (addD (.tuple xs) (.tuple ys)) Q := ⟨_, by unfold addD; simp only; rw [if_pos l], h⟩
theorem p_sub (h : Q (.int (a - b))) : Ok (subD (.int a) (.int b)) Q := ⟨_, rfl, h⟩
theorem p_mul (l : a.natAbs.log2 + b.natAbs.log2 < 1000000) (h : Q (.int (a * b))) : Ok (mulD (.int a) (.int b)) Q := ⟨_, by unfold mulD iiD; simp only; rw [if_pos (decide_eq_true l)], h⟩
theorem p_neg (h : Q (.int (-a))) : Ok (negD (.int a)) Q := ⟨_, rfl, h⟩
theorem p_abs (h : Q (.int a.natAbs)) : Ok (absD (.int a)) Q := ⟨_, rfl, by rw [show (if a < 0 then -a else a) = (a.natAbs : Int) by omega]; exact h⟩
theorem p_intI (h : Q (.int a)) : Ok (intD (.int a)) Q := ⟨_, rfl, h⟩
theorem p_intB {k : Bool} (h : Q (.int (if k then 1 else 0))) : Ok (intD (.bool k)) Q := ⟨_, rfl, h⟩
theorem p_eq (h : Q (.bool (decide (a = b)))) : Ok (eqD (.int a) (.int b)) Q := ⟨_, by unfold eqD; rw [eqB_int]; rfl, h⟩
theorem p_ne (h : Q (.bool (decide (a ≠ b)))) : Ok (neD (.int a) (.int b)) Q := ⟨_, by unfold neD; rw [eqB_int]; rfl, by simpa using h⟩
theorem p_lt (h : Q (.bool (decide (a < b)))) : Ok (ltD (.int a) (.int b)) Q := ⟨_, rfl, h⟩
theorem p_le (h : Q (.bool (decide (a ≤ b)))) : Ok (leD (.int a) (.int b)) Q := ⟨_, rfl, h⟩
theorem p_gt (h : Q (.bool (decide (b < a)))) : Ok (gtI (.int a) (.int b)) Q := ⟨_, rfl, h⟩
theorem p_ge (h : Q (.bool (decide (b ≤ a)))) : Ok (geI (.int a) (.int b)) Q := ⟨_, rfl, h⟩
theorem p_lenL {xs : List D} (h : Q (.int xs.length)) : Ok (lenD (.list xs)) Q := ⟨_, rfl, h⟩
theorem p_lenT {xs : List D} (h : Q (.int xs.length)) : Ok (lenD (.tuple xs)) Q := ⟨_, rfl, h⟩
theorem p_tupL {xs : List D} (h : Q (.tuple xs)) : Ok (tupleD (.list xs)) Q := ⟨_, rfl, h⟩
theorem p_tupT {xs : List D} (h : Q (.tuple xs)) : Ok (tupleD (.tuple xs)) Q := ⟨_, rfl, h⟩
theorem p_lstL {xs : List D} (h : Q (.list xs)) : Ok (listD (.list xs)) Q := ⟨_, rfl, h⟩
theorem p_lstT {xs : List D} (h : Q (.list xs)) : Ok (listD (.tuple xs)) Q := ⟨_, rfl, h⟩
theorem p_isN {d : D} (h : Q (.bool (isNonB d))) : Ok (isND d .none) Q := ⟨_, by unfold isND; rfl, h⟩
theorem p_notN {d : D} (h : Q (.bool (!isNonB d))) : Ok (notND d .none) Q := ⟨_, by unfold notND; rfl, h⟩
theorem p_ixL {xs : List D} {i : Nat} {d : D} (l : xs[i]? = some d) (h : Q d) : Ok (ixD (.list xs) (.int i)) Q := ⟨d, by
  have hl : i < xs.length := by
    rcases Nat.lt_or_ge i xs.length with q | q
    · exact q
    · rw [List.getElem?_eq_none q] at l; cases l
  show L2.atI xs (i : Int) = _
  rw [atI_nat hl, l], h⟩
theorem p_ixT {xs : List D} {i : Nat} {d : D} (l : xs[i]? = some d) (h : Q d) : Ok (ixD (.tuple xs) (.int i)) Q := p_ixL (xs := xs) l h
theorem p_atL {xs : List D} {i : Nat} {d : D} (l : xs[i]? = some d) (h : Q d) : Ok (L2.atI xs (i : Int)) Q := p_ixL (xs := xs) l h
/-- the last one -/
theorem atI_last {α : Type} {xs : List α} {d : α} (l : xs.getLast? = some d) : L2.atI xs (-1) = some d := by
  have hl : xs ≠ [] := fun z => by rw [z] at l; cases l
  have hp := List.length_pos_iff.mpr hl
  unfold L2.atI L2.ixN
  rw [if_neg (by omega), if_pos (by omega)]
  rw [List.getLast?_eq_getElem?] at l
  rw [show ((-1 : Int) + xs.length).toNat = xs.length - 1 by omega]
  exact l
theorem p_lastL {xs : List D} {d : D} (l : xs.getLast? = some d) (h : Q d) : Ok (ixD (.list xs) (.int (-1))) Q := ⟨d, atI_last l, h⟩
theorem p_lastT {xs : List D} {d : D} (l : xs.getLast? = some d) (h : Q d) : Ok (ixD (.tuple xs) (.int (-1))) Q := ⟨d, atI_last l, h⟩
end
/-! what is there -/
section
variable {ρ : En} {i : Nat}
theorem ex_two {a b : D} {Pq : D → D → Prop} (h : Pq a b) : ∃ d e, [a, b] = [d, e] ∧ Pq d e := ⟨a, b, rfl, h⟩
theorem ex_ixo {n : Int} {ds : List D} {Pq : Int → List D → Prop} (e : getL i ρ = some ds) (h : Pq n ds) : ∃ n' ds', (PyData.int n : D) = PyData.int n' ∧ getL i ρ = some ds' ∧ Pq n' ds' := ⟨n, ds, rfl, e, h⟩
theorem ex_b {b : D} {Pq : D → Prop} (e : ρ[i]? = some (some b)) (h : Pq b) : ∃ b', ρ[i]? = some (some b') ∧ Pq b' := ⟨b, e, h⟩
theorem ex_l {ds : List D} {Pq : List D → Prop} (e : getL i ρ = some ds) (h : Pq ds) : ∃ ds', getL i ρ = some ds' ∧ Pq ds' := ⟨ds, e, h⟩
theorem ex_int {n : Int} {Pq : Int → Prop} (h : Pq n) : ∃ n', (PyData.int n : D) = PyData.int n' ∧ Pq n' := ⟨n, rfl, h⟩
theorem ex_list {n : List D} {Pq : List D → Prop} (h : Pq n) : ∃ n', (PyData.list n : D) = PyData.list n' ∧ Pq n' := ⟨n, rfl, h⟩
theorem ex_tup {n : List D} {Pq : List D → Prop} (h : Pq n) : ∃ n', (PyData.tuple n : D) = PyData.tuple n' ∧ Pq n' := ⟨n, rfl, h⟩
end
/-! ways -/
theorem w_t {P Q : Prop} (h : P) : (true = true → P) ∧ (true = false → Q) := ⟨fun _ => h, fun z => (Bool.false_ne_true z.symm).elim⟩
theorem w_f {P Q : Prop} (h : Q) : (false = true → P) ∧ (false = false → Q) := ⟨fun z => (Bool.false_ne_true z).elim, fun _ => h⟩
theorem w_nt {P Q : Prop} (h : Q) : ((!true) = true → P) ∧ ((!true) = false → Q) := w_f h
theorem w_nf {P Q : Prop} (h : P) : ((!false) = true → P) ∧ ((!false) = false → Q) := w_t h
theorem w_d {p : Prop} [Decidable p] {P Q : Prop} (h1 : p → P) (h2 : ¬p → Q) : (decide p = true → P) ∧ (decide p = false → Q) := ⟨fun z => h1 (of_decide_eq_true z), fun z => h2 (of_decide_eq_false z)⟩
theorem w_nd {p : Prop} [Decidable p] {P Q : Prop} (h1 : ¬p → P) (h2 : p → Q) : ((!decide p) = true → P) ∧ ((!decide p) = false → Q) := ⟨fun z => h1 (by simpa using z), fun z => h2 (by simpa using z)⟩
end Lay

namespace Lay
open PySem PySem.Spec PyProof.Rows L2

/-! ## where a recursion ends, for other kinds -/
section
variable {C : Ct} {x : Str} {params : Arguments} {body : List Stmt} {scope : Scope} {ps : List Str}
theorem fnPF0 (k : Nat) (hf : FnHere C x params body scope)
    (hb : ∀ (kV doc pm : Value) (an : Option Addr) (cdv ct : Value) (us : List Value), us.length = ps.length → bindArgs (PySem.W.fnOf x x params body scope .none kV doc pm an cdv ct) ⟨us, []⟩ = pure (ps.zip us)) :
    Fn C x k ps (spPF C.K ps.length fun _ => none) := by
  obtain ⟨f, fd, hg, FD⟩ := hf
  refine ⟨f, fd, hg, FD.kp, FD.bindsN hb, ⟨fun vs H Q E h => ?_, fun A outer s H args us vs Q E hgd hr e0 hb r hsp => ?_⟩⟩
  · obtain ⟨Z, ds, d, hl, _⟩ := h
    exact hl
  · obtain ⟨Z, ds, d, hl, zo, hd, hF, hq⟩ := hsp
    cases hF
theorem fnB0 (k : Nat) (hf : FnHere C x params body scope)
    (hb : ∀ (kV doc pm : Value) (an : Option Addr) (cdv ct : Value) (us : List Value), us.length = ps.length → bindArgs (PySem.W.fnOf x x params body scope .none kV doc pm an cdv ct) ⟨us, []⟩ = pure (ps.zip us)) :
    Fn C x k ps (spB C.K ps.length fun _ _ => none) := by
  obtain ⟨f, fd, hg, FD⟩ := hf
  refine ⟨f, fd, hg, FD.kp, FD.bindsN hb, ⟨fun vs H Q E h => ?_, fun A outer s H args us vs Q E hgd hr e0 hb r hsp => ?_⟩⟩
  · obtain ⟨Z, a, o, b, vs', ds, d, b', _, h, _⟩ := h
    exact h
  · obtain ⟨Z, a, o, b, vs', ds, d, b', rfl, hl, ha, hz, zo, ob, hd, hF, hq⟩ := hsp
    cases hF
theorem fnBF0 (k : Nat) (hf : FnHere C x params body scope)
    (hb : ∀ (kV doc pm : Value) (an : Option Addr) (cdv ct : Value) (us : List Value), us.length = ps.length → bindArgs (PySem.W.fnOf x x params body scope .none kV doc pm an cdv ct) ⟨us, []⟩ = pure (ps.zip us)) :
    Fn C x k ps (spBF C.K ps.length fun _ _ => none) := by
  obtain ⟨f, fd, hg, FD⟩ := hf
  refine ⟨f, fd, hg, FD.kp, FD.bindsN hb, ⟨fun vs H Q E h => ?_, fun A outer s H args us vs Q E hgd hr e0 hb r hsp => ?_⟩⟩
  · obtain ⟨Z, a, o, b, vs', ds, d, b', _, h, _⟩ := h
    exact h
  · obtain ⟨Z, a, o, b, vs', ds, d, b', rfl, hl, ha, hz, zo, ob, hd, hF, hq⟩ := hsp
    cases hF
end
/-! ## list + list, a new one -/
def catD : D → D → Option D
  | .list a, .list b => if a.length + b.length ≤ sizeLine then some (.list (a ++ b)) else none
  | _, _ => none
section
variable {ι : Type} {X : ι → Cx} {C : Ct} {mu : List Nat} {fr : Bool} {tc owl ow : List Nat} {N : List Str} {k : Nat}
theorem rf_add {a b : Expr} {fa fb : XE} {pos : Pos} (F : Fam X C N k) (ha : RE X C tc ow a fa) (hb : RE X C tc ow b fb) : RF X C tc ow (.BinOp a .Add b pos) (opE catD fa fb) := by
  obtain ⟨t, a1, a2⟩ := ha.ex
  obtain ⟨u, b1, b2⟩ := hb.ex
  refine ⟨_, fun i => pe_op (r := rCatS C.K) (by rw [← F.K i]; exact op_catS) (a1 i) (b1 i), fun own Z ρ σ H d ρ' Q hw R hf hq => ?_⟩
  obtain ⟨x, ρ1, y, h1, h2, h3⟩ := opE_some hf
  unfold catD at h3
  split at h3
  · split at h3
    · rename_i ls es hc
      simp only [Option.some.injEq] at h3
      subst h3
      refine a2 own Z ρ σ H _ ρ1 _ hw R h1 fun v H1 R1 g1 d1 => ?_
      refine b2 own Z ρ1 σ H1 _ ρ' _ hw R1 h2 fun w H2 R2 g2 d2 => ?_
      have d1 := d1.ext g2.hid
      cases d1 with
      | lst k1 z1 r1 =>
        cases d2 with
        | lst k2 z2 r2 =>
          rw [r1.len, r2.len] at hc
          refine ⟨_, _, _, _, rfl, rfl, SqL.ext (hidX _ H2) k1, SqL.ext (hidX _ H2) k2, hc, fun p hp => ?_⟩
          have hp0 : H p = none := by
            cases q : H p with
            | none => rfl
            | some u =>
              by_cases hm : p ∈ adr own
              · obtain ⟨o2, q2⟩ := R2.ain hm
                rw [hp] at q2; cases q2
              · rw [(g1.trans g2) p u q (nadr hm)] at hp; cases hp
          have ne : ∀ c ∈ adr own, c ≠ p := fun c hc z => by
            subst z
            obtain ⟨o2, q2⟩ := R2.ain hc
            rw [hp] at q2; cases q2
          refine hq p _ _ (R2.hide hp (Gro.of (Ext.new hp)) (fun c hc => upd_ne (ne c hc)) upd_same) ((g1.trans g2).trans (Grt.of (Ext.new hp))) hp0 upd_same (.lst (by rw [List.length_append]; exact hc) ?_)
          have x3 : ∀ u : HO, Ext (hid (adr own ++ Z) H2) (hid (adr own ++ p :: Z) (upd H2 p u)) := fun u a o q => by
            have q := hid_some.mp q
            refine hid_some.mpr ⟨fun z => ?_, (Ext.new hp) a o q.2⟩
            rcases List.mem_append.mp z with z | z
            · exact q.1 (List.mem_append_left _ z)
            · rcases List.mem_cons.mp z with z | z
              · rw [z, hp] at q; cases q.2
              · exact q.1 (List.mem_append_right _ z)
          exact (r1.ext (x3 _)).app (r2.ext (x3 _))
    · cases h3
  · cases h3
end
end Lay

namespace Lay
open PySem PySem.Spec PyProof.Rows L2

/-! ## in a tuple of ints, texts, truths, none -/
def flD : D → Option V
  | .none => some .non
  | .bool b => some (.bl b)
  | .int i => some (.int i)
  | .str x => some (.str x)
  | _ => none
def flsD : List D → Option (List V)
  | [] => some []
  | d :: ds => (flD d).bind fun v => (flsD ds).map fun vs => v :: vs
theorem flD_dat {K : PySem.W.Frag} {H : Hp} {d : D} {v u : V} (h : Dat K H d v) (e : flD d = some u) : v = u ∧ flatV u = true := by
  cases d <;> simp only [flD, Option.some.injEq] at e <;> first | (cases e; done) | skip
  all_goals
    subst e
    cases h
    exact ⟨rfl, rfl⟩
theorem flsD_dats {K : PySem.W.Frag} {H : Hp} : ∀ {ds : List D} {vs us : List V}, Dats K H ds vs → flsD ds = some us → vs = us ∧ us.all flatV = true
  | [], vs, us, h, e => by
    cases h
    simp only [flsD, Option.some.injEq] at e
    subst e
    exact ⟨rfl, rfl⟩
  | d :: ds, vs, us, h, e => by
    cases h with
    | cons h1 h2 =>
      simp only [flsD] at e
      cases e1 : flD d with
      | none => rw [e1] at e; cases e
      | some u =>
        rw [e1] at e
        cases e2 : flsD ds with
        | none => rw [e2] at e; cases e
        | some ws =>
          rw [e2] at e
          simp only [Option.bind_some, Option.map_some, Option.some.injEq] at e
          subst e
          obtain ⟨rfl, f1⟩ := flD_dat h1 e1
          obtain ⟨rfl, f2⟩ := flsD_dats h2 e2
          exact ⟨rfl, by simp [f1, f2]⟩
def inTD : D → D → Option D
  | x, .tuple ds => (flD x).bind fun v => (flsD ds).map fun vs => .bool (inV v vs)
  | _, _ => none
def notInTD : D → D → Option D
  | x, .tuple ds => (flD x).bind fun v => (flsD ds).map fun vs => .bool (!inV v vs)
  | _, _ => none
section
variable {K : PySem.W.Frag}
theorem os_inT : OpS K (rIn K false) inTD := fun Z H x y dx dy z Q zo hx hy hz hq => by
  cases hy with
  | tup h1 z1 r1 =>
    simp only [inTD] at hz
    cases e1 : flD dx with
    | none => rw [e1] at hz; cases hz
    | some v =>
      rw [e1] at hz
      rename_i a xs ds
      cases e2 : flsD ds with
      | none => rw [e2] at hz; cases hz
      | some vs =>
        rw [e2] at hz
        simp only [Option.bind_some, Option.map_some, Option.some.injEq] at hz
        subst hz
        obtain ⟨rfl, f1⟩ := flD_dat hx e1
        obtain ⟨rfl, f2⟩ := flsD_dats r1 e2
        exact ⟨_, _, rfl, .inr (h1.mono (hidX Z H)).sq, f1, f2, hq _ H (Ext.refl H) (.bl _)⟩
  | _ => simp only [inTD] at hz; cases hz
theorem os_notInT : OpS K (rIn K true) notInTD := fun Z H x y dx dy z Q zo hx hy hz hq => by
  cases hy with
  | tup h1 z1 r1 =>
    simp only [notInTD] at hz
    cases e1 : flD dx with
    | none => rw [e1] at hz; cases hz
    | some v =>
      rw [e1] at hz
      rename_i a xs ds
      cases e2 : flsD ds with
      | none => rw [e2] at hz; cases hz
      | some vs =>
        rw [e2] at hz
        simp only [Option.bind_some, Option.map_some, Option.some.injEq] at hz
        subst hz
        obtain ⟨rfl, f1⟩ := flD_dat hx e1
        obtain ⟨rfl, f2⟩ := flsD_dats r1 e2
        exact ⟨_, _, rfl, .inr (h1.mono (hidX Z H)).sq, f1, f2, hq _ H (Ext.refl H) (.bl _)⟩
  | _ => simp only [notInTD] at hz; cases hz
end
section
variable {ι : Type} {X : ι → Cx} {C : Ct} {tc ow : List Nat} {N : List Str} {k : Nat} {a b : Expr} {fa fb : XE} {pos : Pos}
theorem re_inT (F : Fam X C N k) (ha : RE X C tc ow a fa) (hb : RE X C tc ow b fb) (hm : behindInMarks .In b = false) : RE X C tc ow (.Compare a [.In] [b] pos) (opE inTD fa fb) := re_cmp (fun i => by rw [← F.K i]; exact op_in_seq) os_inT hm ha hb
theorem rt_inT (F : Fam X C N k) (ha : RE X C tc ow a fa) (hb : RE X C tc ow b fb) (hm : behindInMarks .In b = false) : RT X C tc ow (.Compare a [.In] [b] pos) (tE (opE inTD fa fb)) := rt_cmp (fun i => by rw [← F.K i]; exact op_in_seq) os_inT hm ha hb
theorem re_notInT (F : Fam X C N k) (ha : RE X C tc ow a fa) (hb : RE X C tc ow b fb) (hm : behindInMarks .NotIn b = false) : RE X C tc ow (.Compare a [.NotIn] [b] pos) (opE notInTD fa fb) := re_cmp (fun i => by rw [← F.K i]; exact op_notIn_seq) os_notInT hm ha hb
theorem rt_notInT (F : Fam X C N k) (ha : RE X C tc ow a fa) (hb : RE X C tc ow b fb) (hm : behindInMarks .NotIn b = false) : RT X C tc ow (.Compare a [.NotIn] [b] pos) (tE (opE notInTD fa fb)) := rt_cmp (fun i => by rw [← F.K i]; exact op_notIn_seq) os_notInT hm ha hb
end
end Lay

namespace Lay
open PySem PySem.Spec PyProof.Rows L2

/-! ## zip of a tuple and a list -/
def ItzM (K : PySem.W.Frag) (a b : Addr) : It :=
  ⟨fun i H => ∃ (xs ys : List V), SqT K H a xs ∧ SqL K H b ys ∧ i < xs.length ∧ i < ys.length,
    fun i H v H' => ∃ T x y, v = .ref T ∧ H T = none ∧ H' = upd H T (.tup [x, y]) ∧ (∀ xs, SqT K H a xs → xs[i]? = some x) ∧ ∀ ys, SqL K H b ys → ys[i]? = some y,
    fun i H => ∃ xs ys : List V, SqT K H a xs ∧ SqL K H b ys ∧ i ≤ xs.length ∧ i ≤ ys.length ∧ (i = xs.length ∨ i = ys.length)⟩
theorem sepM {z TI TO i1 i2 a b : Addr} (D : ZipApart z TI TO i1 i2 a b) : ZipSep2 z TI TO i1 i2 [i1, a] [i2, b] where
  TIz := D.TIz
  TOz := D.TOz
  TITO := D.TITO
  TIi1 := D.TIi1
  mem1 := by simp
  zf1 := by simp [D.i1z.symm, D.l1z.symm]
  Tf1 := by simp [D.TOi1, D.l1TO.symm]
  TIi2 := D.TIi2
  mem2 := by simp
  zf2 := by simp [D.i2z.symm, D.l2z.symm]
  Tf2 := by simp [D.TOi2, D.l2TO.symm]
  sep1_2 := by simp [D.i12, D.l2i1.symm]
  sep2_1 := by simp [D.i12.symm, D.l1i2.symm]
theorem turn_zipM {P : Program} {w : World} {K : PySem.W.Frag} {elts : List Expr} {kk : Nat} {tpos : Pos} {a b z TI TO i1 i2 : Addr} (D : ZipApart z TI TO i1 i2 a b) :
    Turn P w K (.Tuple elts kk tpos) (ItzM K a b) [z, TI, TO, i1, i2] z (fun i h => IsZip h z TI TO .none ∧ IsPair h TI (.ref i1) (.ref i2) ∧ (∃ x y, IsPair h TO x y) ∧ h.IsTupleIter i1 a i ∧ h.IsListIter i2 b i) where
  mem := by simp
  obj := fun i h st c hc => by
    obtain ⟨hz, hTI, ⟨x, y, hTO⟩, ⟨o1, e1, _, d1⟩, ⟨o2, e2, _, d2⟩⟩ := st
    simp only [List.mem_cons, List.not_mem_nil, or_false] at hc
    rcases hc with rfl | rfl | rfl | rfl | rfl
    · exact ⟨_, hz, fun v q => nomatch q⟩
    · exact ⟨_, hTI, fun v q => nomatch q⟩
    · exact ⟨_, hTO, fun v q => nomatch q⟩
    · exact ⟨o1, e1, fun v q => by rw [d1] at q; cases q⟩
    · exact ⟨o2, e2, fun v q => by rw [d2] at q; cases q⟩
  keep := fun i h h' st k => by
    obtain ⟨hz, hTI, ⟨x, y, hTO⟩, h1, h2⟩ := st
    exact ⟨k z (by simp) _ hz, k TI (by simp) _ hTI, ⟨x, y, k TO (by simp) _ hTO⟩, h1.at fun o q => k i1 (by simp) o q, h2.at fun o q => k i2 (by simp) o q⟩
  item := by
    intro X hP hw hK hc i pins s σ H E I hf st hg
    subst hP hw hK
    obtain ⟨hz, hTI, ⟨x0, y0, hTO⟩, h1, h2⟩ := st
    obtain ⟨xs, ys, hqx, hqy, hx, hy⟩ := hg
    obtain ⟨its, rv, p, _⟩ := I.tuple hqx
    obtain ⟨its2, rv2, p2, _⟩ := I.list hqy
    have l1 := rv.length
    have l2 := rv2.length
    have hzl : z < s.heap.objs.size := Heap.lt_size hz
    have hd := I.ok.hd hc
    refine wpAny_pyNext_zipD2_item (sepM D) (.tuple (by first | exact hd | (show X.A.in1.handled = none; exact hd)) i1 a D.l1i1 its.toArray) (.list (by first | exact hd | (show X.A.in1.handled = none; exact hd)) i2 b D.l2i2 its2.toArray) hz hTI hTO ⟨h1, p⟩ ⟨h2, p2.isList⟩ (by simp; omega) (by simp; omega) fun u u2 h' tk hu hu2 z' TO' st1 st2 hT hsz hk => ?_
    have hu : its[i]? = some u := by simpa using hu
    have hu2 : its2[i]? = some u2 := by simpa using hu2
    obtain ⟨x, ex, rx⟩ : ∃ x, xs[i]? = some x ∧ RelV x u := by
      obtain ⟨u', e', r'⟩ := rv.get (List.getElem?_eq_getElem hx)
      rw [hu] at e'
      cases e'
      exact ⟨_, List.getElem?_eq_getElem hx, r'⟩
    obtain ⟨y, ey, ry⟩ : ∃ y, ys[i]? = some y ∧ RelV y u2 := by
      obtain ⟨u', e', r'⟩ := rv2.get (List.getElem?_eq_getElem hy)
      rw [hu2] at e'
      cases e'
      exact ⟨_, List.getElem?_eq_getElem hy, r'⟩
    refine ⟨_, rfl, wpAny_letOwnedTupleGo_zip (s := { s with heap := h', toks := tk }) z' fun h'' z'' sb => ?_⟩
    have hT2 : h''.get? s.heap.objs.size = some { cls := .type "tuple", data := .seq #[u, u2] } := (sb.2 _ (Nat.ne_of_gt hzl)).trans hT
    have new : ObjOk X.prog X.w (upd H s.heap.objs.size (.tup [x, y])) h'' s.heap.objs.size (.tup [x, y]) :=
      ⟨by show 2 ≤ sizeLine; decide, [u, u2], .cons rx (.cons ry .nil), ⟨_, hT2, rfl, _, rfl⟩⟩
    have I1 : Inv X pins σ (upd H s.heap.objs.size (.tup [x, y])) { s with heap := h'', toks := tk } :=
      I.turnedNew (t' := tk) (ch := [z, TI, TO, i1, i2]) (fun c o hb q => (sb.2 c (fun q' => hb (by simp [q']))).trans (hk c o (fun q' => hb (by simp [q'])) (fun q' => hb (by simp [q'])) (fun q' => hb (by simp [q'])) (fun q' => hb (by simp [q'])) q)) hf (Nat.le_refl _) new
    refine ⟨.ref s.heap.objs.size, _, I1, rfl, ⟨_, x, y, rfl, I.hok.fresh (Nat.le_refl _), rfl, fun l hl => by rw [I.tuple_inj hl hqx]; exact ex, fun l hl => by rw [I.list_inj hl hqy]; exact ey⟩, ⟨z'', ?_, ⟨u, u2, ?_⟩, ?_, ?_⟩, fun c hcm => ?_⟩
    · exact (sb.2 _ D.TIz).trans (hk _ _ D.TIz D.TITO D.TIi1 D.TIi2 hTI)
    · exact (sb.2 _ D.TOz).trans TO'
    · exact st1.1.at fun o q => (sb.2 _ D.i1z).trans q
    · exact st2.1.at fun o q => (sb.2 _ D.i2z).trans q
    · have hlt : c < s.heap.objs.size := by
        simp only [List.mem_cons, List.not_mem_nil, or_false] at hcm
        rcases hcm with rfl | rfl | rfl | rfl | rfl
        · exact hzl
        · exact Heap.lt_size hTI
        · exact Heap.lt_size hTO
        · obtain ⟨_, e1, _⟩ := h1; exact Heap.lt_size e1
        · obtain ⟨_, e2, _⟩ := h2; exact Heap.lt_size e2
      rw [upd_ne (Nat.ne_of_lt hlt)]
      exact (hf c hcm).1
  done := by
    intro X hP hw hK hc i pins s σ H E I hf st hg
    subst hP hw hK
    obtain ⟨hz, hTI, ⟨x0, y0, hTO⟩, h1, h2⟩ := st
    obtain ⟨xs, ys, hqx, hqy, hx, hy, hend⟩ := hg
    obtain ⟨its, rv, p, _⟩ := I.tuple hqx
    obtain ⟨its2, rv2, p2, _⟩ := I.list hqy
    have l1 := rv.length
    have l2 := rv2.length
    have hd := I.ok.hd hc
    exact wpAny_pyNext_zipD2_end (sepM D) (.tuple (by first | exact hd | (show X.A.in1.handled = none; exact hd)) i1 a D.l1i1 its.toArray) (.list (by first | exact hd | (show X.A.in1.handled = none; exact hd)) i2 b D.l2i2 its2.toArray) hz hTI hTO ⟨h1, p⟩ ⟨h2, p2.isList⟩ (by simp; omega) (by simp; omega) (by simp; omega) fun h' tk hk => ⟨rfl, I.turnedL (t' := tk) (ch := [z, TI, TO, i1, i2]) (fun c o hb q =>
      hk c o (fun q' => hb (by simp [q'])) (fun q' => hb (by simp [q'])) (fun q' => hb (by simp [q'])) (fun q' => hb (by simp [q'])) q) hf⟩
  self := fun A i s Q E st h => wpAny_pyIter_zip st.1 h
def iZipM (K : PySem.W.Frag) (ta : TA) : TI := fun σ H R => ta σ H fun vs H1 => ∃ a b xs ys, vs = [.ref a, .ref b] ∧ SqT K H1 a xs ∧ SqL K H1 b ys ∧ R (ItzM K a b) H1
theorem pi_zipM {X : Cx} {e e2 : Expr} {ta : TA} {p pos tpos : Pos} {elts : List Expr} {kk : Nat} (hg : Gl X "zip") (hm : X.mg "zip" = none) (ha : PA X [e, e2] ta)
    (hs : starEach [e, e2] X.env = (false, eval e X.env) :: starEach [e2] X.env) (hpl : (backTo pos (starEach [e2] X.env)).any (·.1) = false) :
    PI X (.Tuple elts kk tpos) (.Call (.Name "zip" p) [e, e2] [] pos) (iZipM X.K ta) := by
  refine ⟨fun pins s σ H R I h => ?_⟩
  refine Call_ (ld_blt I hg hm PyProof.Rows.boot_zip (PyProof.Rows.callWith_type1 (thn (ha.run pos pins s σ H _ I h) fun us s1 ⟨vs, H1, I1, r1, q1⟩ => ?_) hs hpl))
  obtain ⟨a, b, xs, ys, ex, hqx, hqy, q⟩ := q1
  subst ex
  cases r1 with
  | cons r rr =>
    cases rr with
    | cons r' rr =>
      cases rr
      cases r
      cases r'
      obtain ⟨its, rv, p1, _⟩ := I1.tuple hqx
      obtain ⟨its2, rv2, p2, _⟩ := I1.list hqy
      obtain ⟨o1, ho1, _⟩ := id p1
      refine zip_begins2 (begins_tuple a its.toArray) (begins_list b its2.toArray) p1 p2.isList fun h' hz hTI hTO g1 g2 hsz hk => wpAny_pyIter_zip hz ?_
      have I2 : Inv X pins σ H1 { s1 with heap := h' } := I1.kept (t' := s1.toks) hk
      refine ⟨s1.heap.objs.size + 4, [s1.heap.objs.size + 4, s1.heap.objs.size + 2, s1.heap.objs.size + 3, s1.heap.objs.size, s1.heap.objs.size + 1], _, _, H1, rfl, I2, turn_zipM (PySem.W.ktu_apart s1.heap.objs.size a b (Heap.lt_size ho1) p2.lt), ⟨hz, hTI, ⟨_, _, hTO⟩, ⟨_, g1, rfl, rfl⟩, ⟨_, g2, rfl, rfl⟩⟩, fun c hcm => ?_, q⟩
      have hle : s1.heap.objs.size ≤ c := by
        simp only [List.mem_cons, List.not_mem_nil, or_false] at hcm
        rcases hcm with z | z | z | z | z <;> rw [z] <;> first | exact Nat.le_add_right _ _ | exact Nat.le_refl _
      exact I1.fpOk hle (I1.hok.fresh hle)
def zipM (fa : XA) : XI := fun ρ => (fa ρ).bind fun p => match p.1 with
  | [.tuple ds, .list es] => some (zipD ds es, p.2)
  | _ => none
section
variable {K : PySem.W.Frag} {Zs : List Addr} {H0 : Hp}
theorem wk_zipM {a b : Addr} {xs ys : List V} {ds es : List D} (h : TupAt K (hid Zs H0) a xs) (r : Dats K (hid Zs H0) ds xs) (h' : SqL K (hid Zs H0) b ys) (r' : Dats K (hid Zs H0) es ys) : Wk K Zs H0 (ItzM K a b) (zipD ds es) := fun Zs' H e zo => by
  have hq : SqT K H a xs := ((h.mono e).mono (hidX Zs' H)).sq
  have hq' : SqL K H b ys := SqL.ext (hidX Zs' H) (SqL.ext e h')
  have r1 := r.ext e
  have r2 := r'.ext e
  have n1 := r1.len
  have n2 := r2.len
  refine ⟨fun i hi => ?_, fun i x H' hi hy => ?_, ⟨xs, ys, hq, hq', ?_⟩⟩
  · rw [zipD_len] at hi
    exact ⟨xs, ys, hq, hq', by omega, by omega⟩
  · obtain ⟨T, v, u, rfl, hn, rfl, hx, hy⟩ := hy
    obtain ⟨d, h1, h2⟩ := r1.getV (hx xs hq)
    obtain ⟨d', h3, h4⟩ := r2.getV (hy ys hq')
    exact ⟨Ext.new hn, _, zipD_get h1 h3, dat2 zo hn h2 h4⟩
  · rw [zipD_len]
    omega
end
section
variable {ι : Type} {X : ι → Cx} {C : Ct} {tc ow : List Nat} {N : List Str} {k : Nat}
theorem ri_zipM {a b : Expr} {fa : XA} {p pos tpos : Pos} {elts : List Expr} {kk : Nat} (F : Fam X C N k) (hm : C.mg "zip" = none) (hg : ∀ i, Gl (X i) "zip") (ha : RA X C tc ow [a, b] fa) (hs : ∀ i, starEach [a, b] (X i).env = (false, eval a (X i).env) :: starEach [b] (X i).env) (hpl : ∀ i, (backTo pos (starEach [b] (X i).env)).any (·.1) = false) :
    RI X C tc ow (.Tuple elts kk tpos) (.Call (.Name "zip" p) [a, b] [] pos) (zipM fa) := by
  obtain ⟨t, a1, a2⟩ := ha.ex
  refine ⟨iZipM C.K t, fun i => by rw [← F.K i]; exact pi_zipM (hg i) (by rw [F.mg i]; exact hm) (a1 i) (hs i) (hpl i), fun own Z ρ σ H ds ρ' R' ho R hf hq => ?_⟩
  unfold zipM at hf
  cases e1 : fa ρ with
  | none => rw [e1] at hf; cases hf
  | some q =>
    obtain ⟨as, ρ1⟩ := q
    rw [e1] at hf
    simp only [Option.bind_some] at hf
    refine a2 own Z ρ σ H as ρ1 _ ho R e1 fun vs H1 R1 g1 d1 => ?_
    split at hf
    · simp only [Option.some.injEq, Prod.mk.injEq] at hf
      obtain ⟨rfl, rfl⟩ := hf
      cases d1 with
      | cons h r =>
        cases r with
        | cons h' r =>
          cases r
          cases h with
          | tup h z r =>
            cases h' with
            | lst h' z' r' =>
              exact ⟨_, _, _, _, rfl, (h.mono (hidX _ H1)).sq, SqL.ext (hidX _ H1) h', hq _ H1 R1 g1 (by rw [zipD_len, r.len]; omega) (wk_zipM h r h' r')⟩
    · cases hf
end
section
variable {ρ : En} {f f' : XE} {PA : List D → En → Prop}
theorem o_zipM (h : OkE (f ρ) fun d ρ1 => OkE (f' ρ1) fun d' ρ2 => ∃ ds es, d = .tuple ds ∧ d' = .list es ∧ PA (zipD ds es) ρ2) : OkE (zipM (consA f (consA f' nilA)) ρ) PA := by
  obtain ⟨d, ρ1, e1, d', ρ2, e2, ds, es, rfl, rfl, p⟩ := h
  exact ⟨_, ρ2, by unfold zipM; rw [consA_eq e1 (consA_eq e2 (rfl : nilA _ = some ([], _)))]; rfl, p⟩
end
end Lay

namespace Lay
open PySem PySem.Spec PyProof.Rows L2

/-! ## text * int -/
def repS (a : Str) (n : Nat) : Str := ⟨(List.replicate n a.cps).foldl (· ++ ·) #[]⟩
def rRepS : R2 := fun x y H Q => ∃ (a : Str) (n : Int), x = .str a ∧ y = .int n ∧ (2 ≤ n ∧ n ≤ 1000 ∧ 1 ≤ a.length ∧ a.length ≤ 1000) ∧ Q (.str (repS a n.toNat)) H
theorem repS_len (a : Str) (n : Nat) : (repS a n).length = n * a.length := by
  unfold repS
  have : ∀ (k : Nat) (b : Array Nat), ((List.replicate k a.cps).foldl (· ++ ·) b).size = b.size + k * a.cps.size := fun k => by
    induction k with
    | zero => intro b; simp
    | succ k ih =>
      intro b
      rw [List.replicate_succ, List.foldl_cons, ih]
      simp [Nat.add_mul]
      omega
  show ((List.replicate n a.cps).foldl (· ++ ·) #[]).size = _
  rw [this]
  simp
  rfl
theorem op_repS {X : Cx} : OpR X (binaryOp .Mult) rRepS := by
  intro pins s σ H x y v u Q I rx ry h
  obtain ⟨a, n, rfl, rfl, ⟨h1, h2, h3, h4⟩, q⟩ := h
  obtain ⟨t, rfl⟩ := rx
  obtain ⟨t', rfl⟩ := ry
  have e0 : (n == 1 || a.length == 0) = false := by
    have : ¬ n = 1 := by omega
    have : ¬ a.length = 0 := by omega
    simp_all
  have hm : a.length * n.toNat ≤ 1000 * 1000 := Nat.mul_le_mul h4 (by omega)
  refine PySem.P.mul_str ?_ (fun _ _ => ?_) (fun _ _ => ?_) ?_
  · rw [decide_eq_false (by omega), decide_eq_false (by omega)]
    rfl
  · have : (1000 : Int) ≤ (2 ^ 63 - 1) / n := by
      have := Int.ediv_le_ediv (a := n * 1000) (b := 2 ^ 63 - 1) (c := n) (by omega) (by omega)
      rw [Int.mul_ediv_cancel_left _ (by omega)] at this
      exact this
    omega
  · show decide (a.length * n.toNat > sizeLine) = false
    rw [decide_eq_false]
    have : sizeLine = 16777216 := by decide
    omega
  · rw [if_neg (by omega), if_neg (by rw [e0]; exact Bool.false_ne_true)]
    refine ⟨?_, .str (repS a n.toNat), H, I.tok _, ⟨_, rfl⟩, q⟩
    have := repS_len a n.toNat
    have e : n.toNat * a.length = a.length * n.toNat := Nat.mul_comm _ _
    show (repS a n.toNat).length ≤ sizeLine
    rw [this, e]
    exact Nat.le_trans hm (by decide)
def repD : D → D → Option D
  | .str a, .int n => if 2 ≤ n ∧ n ≤ 1000 ∧ 1 ≤ a.length ∧ a.length ≤ 1000 then some (.str (repS a n.toNat)) else none
  | _, _ => none
theorem os_rep {K : PySem.W.Frag} : OpS K rRepS repD := fun Z H x y dx dy z Q zo hx hy hz hq => by
  unfold repD at hz
  split at hz
  · cases hx
    cases hy
    split at hz
    · rename_i hp
      simp only [Option.some.injEq] at hz
      subst hz
      exact ⟨_, _, rfl, rfl, hp, hq _ H (Ext.refl H) (.str _)⟩
    · cases hz
  · cases hz
section
variable {ι : Type} {X : ι → Cx} {C : Ct} {tc ow : List Nat} {N : List Str} {k : Nat} {a b : Expr} {fa fb : XE} {pos : Pos}
theorem re_rep (ha : RE X C tc ow a fa) (hb : RE X C tc ow b fb) : RE X C tc ow (.BinOp a .Mult b pos) (opE repD fa fb) := re_op (fun i => op_repS) os_rep ha hb
end
/-! ## text.replace(written, written), in a display whose items give out tokens -/
def replD (y z : Str) : D → Option D
  | .str x => if x.length + (x.length + 1) * z.length ≤ 16777216 then some (.str (Txt.replace x y z)) else none
  | _ => none
section
variable {ι : Type} (X : ι → Cx) (C : Ct) (tc ow : List Nat)
structure RET (e : Expr) (f : XE) : Prop where
  ex : ∃ te, (∀ i, PET (X i) e te) ∧ Sem C.K tc ow te f
structure RAT (es : List Expr) (f : XA) : Prop where
  ex : ∃ ta, (∀ i, PAT (X i) es ta) ∧ SemA C.K tc ow ta f
  len : ∀ ρ ds ρ', f ρ = some (ds, ρ') → ds.length = es.length
end
section
variable {ι : Type} {X : ι → Cx} {C : Ct} {tc ow : List Nat} {N : List Str} {k : Nat} {e o : Expr} {es : List Expr} {f : XE} {fr : XA} {pos apos : Pos}
theorem sema_cons {t : TE} {u : TA} (a2 : Sem C.K tc ow t f) (b2 : SemA C.K tc ow u fr) : SemA C.K tc ow (tCons t u) (consA f fr) := fun own Z ρ σ H ds ρ' Q ho R hf hq => by
  unfold consA at hf
  cases e1 : f ρ with
  | none => rw [e1] at hf; cases hf
  | some p =>
    obtain ⟨x, ρ1⟩ := p
    rw [e1] at hf
    simp only [Option.bind_some] at hf
    cases e2 : fr ρ1 with
    | none => rw [e2] at hf; cases hf
    | some q =>
      obtain ⟨y, ρ2⟩ := q
      rw [e2] at hf
      simp only [Option.map_some, Option.some.injEq, Prod.mk.injEq] at hf
      obtain ⟨rfl, rfl⟩ := hf
      refine a2 own Z ρ σ H x ρ1 _ ho R e1 fun v H1 R1 g1 d1 => ?_
      refine b2 own Z ρ1 σ H1 y _ _ ho R1 e2 fun u H2 R2 g2 d2 => ?_
      exact hq (v :: u) H2 R2 (g1.trans g2) (.cons (d1.ext g2.hid) d2)
theorem lena_cons (l : ∀ ρ ds ρ', fr ρ = some (ds, ρ') → ds.length = es.length) : ∀ ρ ds ρ', consA f fr ρ = some (ds, ρ') → ds.length = (e :: es).length := fun ρ ds ρ' hf => by
  unfold consA at hf
  cases e1 : f ρ with
  | none => rw [e1] at hf; cases hf
  | some p =>
    rw [e1] at hf
    simp only [Option.bind_some] at hf
    cases e2 : fr p.2 with
    | none => rw [e2] at hf; cases hf
    | some q =>
      rw [e2] at hf
      simp only [Option.map_some, Option.some.injEq, Prod.mk.injEq] at hf
      rw [← hf.1, List.length_cons, List.length_cons, l _ _ _ e2]
theorem rat_of (h : RA X C tc ow es fr) : RAT X C tc ow es fr := by
  obtain ⟨t, a1, a2⟩ := h.ex
  exact ⟨⟨t, fun i => fun pos pins s σ H Q _ I q => (a1 i).run pos pins s σ H Q I q, a2⟩, h.len⟩
theorem ret_of (h : RE X C tc ow e f) : RET X C tc ow e f := by
  obtain ⟨t, a1, a2⟩ := h.ex
  exact ⟨⟨t, fun i => CwR.PET.of (a1 i), a2⟩⟩
theorem rat_cons (h : RET X C tc ow e f) (hr : RAT X C tc ow es fr) (hs : ∀ i, starEach (e :: es) (X i).env = (false, eval e (X i).env) :: starEach es (X i).env) : RAT X C tc ow (e :: es) (consA f fr) := by
  obtain ⟨t, a1, a2⟩ := h.ex
  obtain ⟨u, b1, b2⟩ := hr.ex
  exact ⟨⟨_, fun i => pat_cons (a1 i) (b1 i) (hs i), sema_cons a2 b2⟩, lena_cons hr.len⟩
/-- 'written' + b gives out a token: the items behind it have one -/
theorem ra_tok {b : Expr} {x : Str} {j : Nat} {c0 : Pos} {fb : XE} (F : Fam X C N k) (hb : RE X C tc ow b fb) (hr : RAT X C tc ow es fr) (hs : ∀ i, starEach (.BinOp (.Constant (.str x) j c0) .Add b pos :: es) (X i).env = (false, eval (.BinOp (.Constant (.str x) j c0) .Add b pos) (X i).env) :: starEach es (X i).env) : RA X C tc ow (.BinOp (.Constant (.str x) j c0) .Add b pos :: es) (consA (opE addD (cE (.str x)) fb) fr) := by
  obtain ⟨u, b1, b2⟩ := hr.ex
  obtain ⟨t, a1, a2⟩ := hb.ex
  have sc : Sem C.K tc ow (tC (.str x)) (cE (.str x)) := fun own Z ρ σ H d ρ' Q ho R hf hq => by
    simp only [cE, Option.some.injEq, Prod.mk.injEq] at hf
    obtain ⟨rfl, rfl⟩ := hf
    exact hq _ H R Grt.refl (.str _)
  refine ⟨⟨tCons (tOp (rAddD C.K) (tC (.str x)) t) u, fun i => ⟨fun pos' pins s σ H Q I h => ?_⟩, sema_cons (sem_op os_add sc a2) b2⟩, lena_cons hr.len⟩
  have ho : OpR (X i) (binaryOp .Add) (rAddD C.K) := by rw [← F.K i]; exact op_addD
  rw [hs i]
  show wpAny _ _ (spliced ((false, eval (.BinOp (.Constant (.str x) j c0) .Add b pos) (X i).env) :: backTo pos' (starEach es (X i).env))) _ _ s
  refine Calls.spliced_cons (wpAny_BinOp (Calls.Constant_str ?_))
  refine wpAny_mono (PySem.wpAny_toks_of (n := 1) (by show 1 ≤ s.toks + 1; omega) ((a1 i).run pins { s with toks := s.toks + 1 } σ H _ (I.tok _) h)) (fun v s2 q => ?_) fun _ _ z => z.2
  obtain ⟨hk, y, H2, I2, r2, q2⟩ := q
  refine wpAny_mono (PySem.wpAny_toks_of hk (ho pins s2 σ H2 (.str x) y _ v _ I2 ⟨_, rfl⟩ r2 q2)) (fun w s3 q => ?_) fun _ _ z => z.2
  obtain ⟨hk3, v', H3, I3, r3, q3⟩ := q
  exact thn (b1 i pos' pins s3 σ H3 _ hk3 I3 q3) fun us s4 ⟨xs, H4, I4, r4, q4⟩ => ⟨v' :: xs, H4, I4, .cons r3 r4, q4⟩
theorem ret_repl {y z : Str} {j m : Nat} {c0 c1 : Pos} (ho : RE X C tc ow o f) (hyz : (y == z) = false)
    (hst : ∀ i, starEach [.Constant (.str y) j c0, .Constant (.str z) m c1] (X i).env = [(false, eval (.Constant (.str y) j c0) (X i).env), (false, eval (.Constant (.str z) m c1) (X i).env)])
    (hbase : ∀ i, attributeBase o "replace" (X i).env (eval o (X i).env) = eval o (X i).env) (hline : (apos.endLine == pos.line) = true) :
    RET X C tc ow (.Call (.Attribute o "replace" apos) [.Constant (.str y) j c0, .Constant (.str z) m c1] [] pos) (unE (replD y z) f) := by
  obtain ⟨t, a1, a2⟩ := ho.ex
  refine ⟨⟨_, fun i => CwR.pet_replC (a1 i) hyz (hst i) (hbase i) hline, fun own Z ρ σ H d ρ' Q ho R hf hq => ?_⟩⟩
  unfold unE at hf
  cases e1 : f ρ with
  | none => rw [e1] at hf; cases hf
  | some p =>
    obtain ⟨w, ρ1⟩ := p
    rw [e1] at hf
    simp only [Option.bind_some] at hf
    cases e2 : replD y z w with
    | none => rw [e2] at hf; cases hf
    | some r =>
      rw [e2] at hf
      simp only [Option.map_some, Option.some.injEq, Prod.mk.injEq] at hf
      obtain ⟨rfl, rfl⟩ := hf
      refine a2 own Z ρ σ H w ρ1 _ ho R e1 fun v H1 R1 g1 d1 => ?_
      unfold replD at e2
      split at e2
      · cases d1
        split at e2
        · simp only [Option.some.injEq] at e2
          subst e2
          exact ⟨_, rfl, ‹_›, hq _ H1 R1 g1 (.str _)⟩
        · cases e2
      · cases e2
end
end Lay

namespace Lay
open PySem PySem.Spec PyProof.Rows L2
abbrev topS (i : Nat) : Stmt := PySem.Challenge.pw_soldwhole_k01_whole_fractions.main.body.getD i (.Pass ⟨0,0,0,0⟩)
abbrev s_common_divisor : Stmt := topS 1
abbrev n_common_divisor : List Str := ["one", "other"]
theorem N_common_divisor : n_common_divisor.Nodup := by decide +kernel
theorem sc_common_divisor : FnScope n_common_divisor ["one", "other"] (defScope s_common_divisor) := ⟨rfl, rfl, rfl, N_common_divisor, rfl, by decide +kernel, by decide +kernel⟩
noncomputable def S_common_divisor : XS :=
    seqS (whileS (fuN 1) (tE (opE neD (varE 1) (cE (.int 0))))
    (seqS (parS 0 1 (consA (varE 1) (consA (opE modD (clE (g1 intD) (consA (varE 0) nilA)) (varE 1)) (nilA))))
    (nopS)))
    (seqS (retS (varE 0)) (nopS))
noncomputable def F_common_divisor : List D → Option D := runP 0 S_common_divisor
theorem w_common_divisor {C : Ct} (B : Blt C.mg) (hf : FnHere C "common_divisor" (defArgs s_common_divisor) (defBody s_common_divisor) (defScope s_common_divisor)) : Fn C "common_divisor" 1 ["one", "other"] (spP C.K 2 F_common_divisor) :=
  fnP (k := 0) (ow2 := []) hf sc_common_divisor 0 rfl (fun _ _ _ _ _ _ us hl => match us, hl with | [_, _], _ => rfl) fun _ _ _ _ _ _ _ F =>
    (rss_cons (rs_while (tc := []) (fuN 1) (rt_ne F (re_var F 1 rfl (by first | exact fun _ => Or.inl rfl | exact fun _ => Or.inr (Or.inl rfl) | exact fun _ => Or.inr (Or.inr rfl)) rfl) re_int)
    (rss_cons (rs_par (tc := []) F 0 1 (ra_cons (re_var F 1 rfl (by first | exact fun _ => Or.inl rfl | exact fun _ => Or.inr (Or.inl rfl) | exact fun _ => Or.inr (Or.inr rfl)) rfl) (ra_cons (re_mod (re_intc F B (re_var F 0 rfl (by first | exact fun _ => Or.inl rfl | exact fun _ => Or.inr (Or.inl rfl) | exact fun _ => Or.inr (Or.inr rfl)) rfl) (fun _ => rfl) (fun _ => rfl) (fun _ => rfl)) (re_var F 1 rfl (by first | exact fun _ => Or.inl rfl | exact fun _ => Or.inr (Or.inl rfl) | exact fun _ => Or.inr (Or.inr rfl)) rfl)) ra_nil (fun _ => rfl)) (fun _ => rfl)) rfl rfl (by decide) rfl rfl (fun _ => rfl) (fun _ => rfl) (fun _ => rfl) (fun _ => rfl))
    (rss_nil rfl))
    (fun _ => PassesOwn.never))
    (rss_cons (ow1 := []) (rs_ret (tc := []) (re_var F 0 rfl (by first | exact fun _ => Or.inl rfl | exact fun _ => Or.inr (Or.inl rfl) | exact fun _ => Or.inr (Or.inr rfl)) rfl) rfl) (rss_nil rfl)))
abbrev s_reduced : Stmt := topS 2
abbrev n_reduced : List Str := ["n", "d", "shared"]
theorem N_reduced : n_reduced.Nodup := by decide +kernel
theorem sc_reduced : FnScope n_reduced ["n", "d"] (defScope s_reduced) := ⟨rfl, rfl, rfl, N_reduced, rfl, by decide +kernel, by decide +kernel⟩
noncomputable def S_reduced : XS :=
    seqS (setS 2 (clE F_common_divisor (consA (clE (g1 absD) (consA (varE 0) nilA)) (consA (clE (g1 absD) (consA (varE 1) nilA)) (nilA)))))
    (seqS (setS 2 (ifE (tE (opE gtI (varE 1) (cE (.int 0)))) (varE 2) (opE subD (cE (.int 0)) (varE 2))))
    (seqS (retS (tupE (consA (opE fdivD (varE 0) (varE 2)) (consA (opE fdivD (varE 1) (varE 2)) (nilA))))) (nopS)))
noncomputable def F_reduced : List D → Option D := runP 1 S_reduced
theorem w_reduced {C : Ct} (B : Blt C.mg) (h_common_divisor : Fn C "common_divisor" 1 ["one", "other"] (spP C.K 2 F_common_divisor)) (hf : FnHere C "reduced" (defArgs s_reduced) (defBody s_reduced) (defScope s_reduced)) : Fn C "reduced" 2 ["n", "d"] (spP C.K 2 F_reduced) :=
  fnP (k := 1) (ow2 := []) hf sc_reduced 1 rfl (fun _ _ _ _ _ _ us hl => match us, hl with | [_, _], _ => rfl) fun _ _ _ _ _ _ _ F =>
    (rss_cons (rs_set (tc := []) F 2 (re_callP F h_common_divisor (by omega) rfl (fun _ => rfl) (ra_cons (re_abs F B (re_var F 0 rfl (by first | exact fun _ => Or.inl rfl | exact fun _ => Or.inr (Or.inl rfl) | exact fun _ => Or.inr (Or.inr rfl)) rfl) (fun _ => rfl) (fun _ => rfl) (fun _ => rfl)) (ra_cons (re_abs F B (re_var F 1 rfl (by first | exact fun _ => Or.inl rfl | exact fun _ => Or.inr (Or.inl rfl) | exact fun _ => Or.inr (Or.inr rfl)) rfl) (fun _ => rfl) (fun _ => rfl) (fun _ => rfl)) ra_nil (fun _ => rfl)) (fun _ => rfl)) (fun _ => rfl) (fun _ => rfl)) rfl (by first | exact fun _ => Or.inl rfl | exact fun _ => Or.inr rfl) rfl (by first | exact fun _ => Or.inr rfl | exact fun _ => Or.inl rfl) (fun _ => rfl))
    (rss_cons (rs_set (tc := []) F 2 (re_if (rt_gt  (re_var F 1 rfl (by first | exact fun _ => Or.inl rfl | exact fun _ => Or.inr (Or.inl rfl) | exact fun _ => Or.inr (Or.inr rfl)) rfl) re_int) (re_var F 2 rfl (by first | exact fun _ => Or.inl rfl | exact fun _ => Or.inr (Or.inl rfl) | exact fun _ => Or.inr (Or.inr rfl)) rfl) (re_sub re_int (re_var F 2 rfl (by first | exact fun _ => Or.inl rfl | exact fun _ => Or.inr (Or.inl rfl) | exact fun _ => Or.inr (Or.inr rfl)) rfl))) rfl (by first | exact fun _ => Or.inl rfl | exact fun _ => Or.inr rfl) rfl (by first | exact fun _ => Or.inr rfl | exact fun _ => Or.inl rfl) (fun _ => rfl))
    (rss_cons (ow1 := []) (rs_ret (tc := []) (re_tup (ra_cons (re_fdiv (re_var F 0 rfl (by first | exact fun _ => Or.inl rfl | exact fun _ => Or.inr (Or.inl rfl) | exact fun _ => Or.inr (Or.inr rfl)) rfl) (re_var F 2 rfl (by first | exact fun _ => Or.inl rfl | exact fun _ => Or.inr (Or.inl rfl) | exact fun _ => Or.inr (Or.inr rfl)) rfl)) (ra_cons (re_fdiv (re_var F 1 rfl (by first | exact fun _ => Or.inl rfl | exact fun _ => Or.inr (Or.inl rfl) | exact fun _ => Or.inr (Or.inr rfl)) rfl) (re_var F 2 rfl (by first | exact fun _ => Or.inl rfl | exact fun _ => Or.inr (Or.inl rfl) | exact fun _ => Or.inr (Or.inr rfl)) rfl)) ra_nil (fun _ => rfl)) (fun _ => rfl))) rfl) (rss_nil rfl))))
abbrev s_added : Stmt := topS 3
abbrev n_added : List Str := ["one", "other"]
theorem N_added : n_added.Nodup := by decide +kernel
theorem sc_added : FnScope n_added ["one", "other"] (defScope s_added) := ⟨rfl, rfl, rfl, N_added, rfl, by decide +kernel, by decide +kernel⟩
noncomputable def S_added : XS :=
    seqS (retS (clE F_reduced (consA (opE addD (opE mulD (opE ixD (varE 0) (cE (.int 0))) (opE ixD (varE 1) (cE (.int 1)))) (opE mulD (opE ixD (varE 1) (cE (.int 0))) (opE ixD (varE 0) (cE (.int 1))))) (consA (opE mulD (opE ixD (varE 0) (cE (.int 1))) (opE ixD (varE 1) (cE (.int 1)))) (nilA))))) (nopS)
noncomputable def F_added : List D → Option D := runP 0 S_added
theorem w_added {C : Ct} (B : Blt C.mg) (h_reduced : Fn C "reduced" 2 ["n", "d"] (spP C.K 2 F_reduced)) (hf : FnHere C "added" (defArgs s_added) (defBody s_added) (defScope s_added)) : Fn C "added" 3 ["one", "other"] (spP C.K 2 F_added) :=
  fnP (k := 2) (ow2 := []) hf sc_added 0 rfl (fun _ _ _ _ _ _ us hl => match us, hl with | [_, _], _ => rfl) fun _ _ _ _ _ _ _ F =>
    (rss_cons (ow1 := []) (rs_ret (tc := []) (re_callP F h_reduced (by omega) rfl (fun _ => rfl) (ra_cons (re_add F (re_mul (re_ix F (re_var F 0 rfl (by first | exact fun _ => Or.inl rfl | exact fun _ => Or.inr (Or.inl rfl) | exact fun _ => Or.inr (Or.inr rfl)) rfl) re_int (fun _ _ => rfl)) (re_ix F (re_var F 1 rfl (by first | exact fun _ => Or.inl rfl | exact fun _ => Or.inr (Or.inl rfl) | exact fun _ => Or.inr (Or.inr rfl)) rfl) re_int (fun _ _ => rfl))) (re_mul (re_ix F (re_var F 1 rfl (by first | exact fun _ => Or.inl rfl | exact fun _ => Or.inr (Or.inl rfl) | exact fun _ => Or.inr (Or.inr rfl)) rfl) re_int (fun _ _ => rfl)) (re_ix F (re_var F 0 rfl (by first | exact fun _ => Or.inl rfl | exact fun _ => Or.inr (Or.inl rfl) | exact fun _ => Or.inr (Or.inr rfl)) rfl) re_int (fun _ _ => rfl)))) (ra_cons (re_mul (re_ix F (re_var F 0 rfl (by first | exact fun _ => Or.inl rfl | exact fun _ => Or.inr (Or.inl rfl) | exact fun _ => Or.inr (Or.inr rfl)) rfl) re_int (fun _ _ => rfl)) (re_ix F (re_var F 1 rfl (by first | exact fun _ => Or.inl rfl | exact fun _ => Or.inr (Or.inl rfl) | exact fun _ => Or.inr (Or.inr rfl)) rfl) re_int (fun _ _ => rfl))) ra_nil (fun _ => rfl)) (fun _ => rfl)) (fun _ => rfl) (fun _ => rfl)) rfl) (rss_nil rfl))
abbrev s_lessened : Stmt := topS 4
abbrev n_lessened : List Str := ["one", "other"]
theorem N_lessened : n_lessened.Nodup := by decide +kernel
theorem sc_lessened : FnScope n_lessened ["one", "other"] (defScope s_lessened) := ⟨rfl, rfl, rfl, N_lessened, rfl, by decide +kernel, by decide +kernel⟩
noncomputable def S_lessened : XS :=
    seqS (retS (clE F_reduced (consA (opE subD (opE mulD (opE ixD (varE 0) (cE (.int 0))) (opE ixD (varE 1) (cE (.int 1)))) (opE mulD (opE ixD (varE 1) (cE (.int 0))) (opE ixD (varE 0) (cE (.int 1))))) (consA (opE mulD (opE ixD (varE 0) (cE (.int 1))) (opE ixD (varE 1) (cE (.int 1)))) (nilA))))) (nopS)
noncomputable def F_lessened : List D → Option D := runP 0 S_lessened
theorem w_lessened {C : Ct} (B : Blt C.mg) (h_reduced : Fn C "reduced" 2 ["n", "d"] (spP C.K 2 F_reduced)) (hf : FnHere C "lessened" (defArgs s_lessened) (defBody s_lessened) (defScope s_lessened)) : Fn C "lessened" 3 ["one", "other"] (spP C.K 2 F_lessened) :=
  fnP (k := 2) (ow2 := []) hf sc_lessened 0 rfl (fun _ _ _ _ _ _ us hl => match us, hl with | [_, _], _ => rfl) fun _ _ _ _ _ _ _ F =>
    (rss_cons (ow1 := []) (rs_ret (tc := []) (re_callP F h_reduced (by omega) rfl (fun _ => rfl) (ra_cons (re_sub (re_mul (re_ix F (re_var F 0 rfl (by first | exact fun _ => Or.inl rfl | exact fun _ => Or.inr (Or.inl rfl) | exact fun _ => Or.inr (Or.inr rfl)) rfl) re_int (fun _ _ => rfl)) (re_ix F (re_var F 1 rfl (by first | exact fun _ => Or.inl rfl | exact fun _ => Or.inr (Or.inl rfl) | exact fun _ => Or.inr (Or.inr rfl)) rfl) re_int (fun _ _ => rfl))) (re_mul (re_ix F (re_var F 1 rfl (by first | exact fun _ => Or.inl rfl | exact fun _ => Or.inr (Or.inl rfl) | exact fun _ => Or.inr (Or.inr rfl)) rfl) re_int (fun _ _ => rfl)) (re_ix F (re_var F 0 rfl (by first | exact fun _ => Or.inl rfl | exact fun _ => Or.inr (Or.inl rfl) | exact fun _ => Or.inr (Or.inr rfl)) rfl) re_int (fun _ _ => rfl)))) (ra_cons (re_mul (re_ix F (re_var F 0 rfl (by first | exact fun _ => Or.inl rfl | exact fun _ => Or.inr (Or.inl rfl) | exact fun _ => Or.inr (Or.inr rfl)) rfl) re_int (fun _ _ => rfl)) (re_ix F (re_var F 1 rfl (by first | exact fun _ => Or.inl rfl | exact fun _ => Or.inr (Or.inl rfl) | exact fun _ => Or.inr (Or.inr rfl)) rfl) re_int (fun _ _ => rfl))) ra_nil (fun _ => rfl)) (fun _ => rfl)) (fun _ => rfl) (fun _ => rfl)) rfl) (rss_nil rfl))
abbrev s_times : Stmt := topS 5
abbrev n_times : List Str := ["one", "other"]
theorem N_times : n_times.Nodup := by decide +kernel
theorem sc_times : FnScope n_times ["one", "other"] (defScope s_times) := ⟨rfl, rfl, rfl, N_times, rfl, by decide +kernel, by decide +kernel⟩
noncomputable def S_times : XS :=
    seqS (retS (clE F_reduced (consA (opE mulD (opE ixD (varE 0) (cE (.int 0))) (opE ixD (varE 1) (cE (.int 0)))) (consA (opE mulD (opE ixD (varE 0) (cE (.int 1))) (opE ixD (varE 1) (cE (.int 1)))) (nilA))))) (nopS)
noncomputable def F_times : List D → Option D := runP 0 S_times
theorem w_times {C : Ct} (B : Blt C.mg) (h_reduced : Fn C "reduced" 2 ["n", "d"] (spP C.K 2 F_reduced)) (hf : FnHere C "times" (defArgs s_times) (defBody s_times) (defScope s_times)) : Fn C "times" 3 ["one", "other"] (spP C.K 2 F_times) :=
  fnP (k := 2) (ow2 := []) hf sc_times 0 rfl (fun _ _ _ _ _ _ us hl => match us, hl with | [_, _], _ => rfl) fun _ _ _ _ _ _ _ F =>
    (rss_cons (ow1 := []) (rs_ret (tc := []) (re_callP F h_reduced (by omega) rfl (fun _ => rfl) (ra_cons (re_mul (re_ix F (re_var F 0 rfl (by first | exact fun _ => Or.inl rfl | exact fun _ => Or.inr (Or.inl rfl) | exact fun _ => Or.inr (Or.inr rfl)) rfl) re_int (fun _ _ => rfl)) (re_ix F (re_var F 1 rfl (by first | exact fun _ => Or.inl rfl | exact fun _ => Or.inr (Or.inl rfl) | exact fun _ => Or.inr (Or.inr rfl)) rfl) re_int (fun _ _ => rfl))) (ra_cons (re_mul (re_ix F (re_var F 0 rfl (by first | exact fun _ => Or.inl rfl | exact fun _ => Or.inr (Or.inl rfl) | exact fun _ => Or.inr (Or.inr rfl)) rfl) re_int (fun _ _ => rfl)) (re_ix F (re_var F 1 rfl (by first | exact fun _ => Or.inl rfl | exact fun _ => Or.inr (Or.inl rfl) | exact fun _ => Or.inr (Or.inr rfl)) rfl) re_int (fun _ _ => rfl))) ra_nil (fun _ => rfl)) (fun _ => rfl)) (fun _ => rfl) (fun _ => rfl)) rfl) (rss_nil rfl))
abbrev s_over : Stmt := topS 6
abbrev n_over : List Str := ["one", "other"]
theorem N_over : n_over.Nodup := by decide +kernel
theorem sc_over : FnScope n_over ["one", "other"] (defScope s_over) := ⟨rfl, rfl, rfl, N_over, rfl, by decide +kernel, by decide +kernel⟩
noncomputable def S_over : XS :=
    seqS (retS (clE F_reduced (consA (opE mulD (opE ixD (varE 0) (cE (.int 0))) (opE ixD (varE 1) (cE (.int 1)))) (consA (opE mulD (opE ixD (varE 0) (cE (.int 1))) (opE ixD (varE 1) (cE (.int 0)))) (nilA))))) (nopS)
noncomputable def F_over : List D → Option D := runP 0 S_over
theorem w_over {C : Ct} (B : Blt C.mg) (h_reduced : Fn C "reduced" 2 ["n", "d"] (spP C.K 2 F_reduced)) (hf : FnHere C "over" (defArgs s_over) (defBody s_over) (defScope s_over)) : Fn C "over" 3 ["one", "other"] (spP C.K 2 F_over) :=
  fnP (k := 2) (ow2 := []) hf sc_over 0 rfl (fun _ _ _ _ _ _ us hl => match us, hl with | [_, _], _ => rfl) fun _ _ _ _ _ _ _ F =>
    (rss_cons (ow1 := []) (rs_ret (tc := []) (re_callP F h_reduced (by omega) rfl (fun _ => rfl) (ra_cons (re_mul (re_ix F (re_var F 0 rfl (by first | exact fun _ => Or.inl rfl | exact fun _ => Or.inr (Or.inl rfl) | exact fun _ => Or.inr (Or.inr rfl)) rfl) re_int (fun _ _ => rfl)) (re_ix F (re_var F 1 rfl (by first | exact fun _ => Or.inl rfl | exact fun _ => Or.inr (Or.inl rfl) | exact fun _ => Or.inr (Or.inr rfl)) rfl) re_int (fun _ _ => rfl))) (ra_cons (re_mul (re_ix F (re_var F 0 rfl (by first | exact fun _ => Or.inl rfl | exact fun _ => Or.inr (Or.inl rfl) | exact fun _ => Or.inr (Or.inr rfl)) rfl) re_int (fun _ _ => rfl)) (re_ix F (re_var F 1 rfl (by first | exact fun _ => Or.inl rfl | exact fun _ => Or.inr (Or.inl rfl) | exact fun _ => Or.inr (Or.inr rfl)) rfl) re_int (fun _ _ => rfl))) ra_nil (fun _ => rfl)) (fun _ => rfl)) (fun _ => rfl) (fun _ => rfl)) rfl) (rss_nil rfl))
abbrev s_compared : Stmt := topS 7
abbrev n_compared : List Str := ["one", "other", "mine", "its"]
theorem N_compared : n_compared.Nodup := by decide +kernel
theorem sc_compared : FnScope n_compared ["one", "other"] (defScope s_compared) := ⟨rfl, rfl, rfl, N_compared, rfl, by decide +kernel, by decide +kernel⟩
noncomputable def S_compared : XS :=
    seqS (parS 2 3 (consA (opE mulD (opE ixD (varE 0) (cE (.int 0))) (opE ixD (varE 1) (cE (.int 1)))) (consA (opE mulD (opE ixD (varE 1) (cE (.int 0))) (opE ixD (varE 0) (cE (.int 1)))) (nilA))))
    (seqS (retS (opE subD (clE (g1 intD) (consA (opE gtI (varE 2) (varE 3)) nilA)) (clE (g1 intD) (consA (opE ltD (varE 2) (varE 3)) nilA)))) (nopS))
noncomputable def F_compared : List D → Option D := runP 2 S_compared
theorem w_compared {C : Ct} (B : Blt C.mg) (hf : FnHere C "compared" (defArgs s_compared) (defBody s_compared) (defScope s_compared)) : Fn C "compared" 1 ["one", "other"] (spP C.K 2 F_compared) :=
  fnP (k := 0) (ow2 := []) hf sc_compared 2 rfl (fun _ _ _ _ _ _ us hl => match us, hl with | [_, _], _ => rfl) fun _ _ _ _ _ _ _ F =>
    (rss_cons (rs_par (tc := []) F 2 3 (ra_cons (re_mul (re_ix F (re_var F 0 rfl (by first | exact fun _ => Or.inl rfl | exact fun _ => Or.inr (Or.inl rfl) | exact fun _ => Or.inr (Or.inr rfl)) rfl) re_int (fun _ _ => rfl)) (re_ix F (re_var F 1 rfl (by first | exact fun _ => Or.inl rfl | exact fun _ => Or.inr (Or.inl rfl) | exact fun _ => Or.inr (Or.inr rfl)) rfl) re_int (fun _ _ => rfl))) (ra_cons (re_mul (re_ix F (re_var F 1 rfl (by first | exact fun _ => Or.inl rfl | exact fun _ => Or.inr (Or.inl rfl) | exact fun _ => Or.inr (Or.inr rfl)) rfl) re_int (fun _ _ => rfl)) (re_ix F (re_var F 0 rfl (by first | exact fun _ => Or.inl rfl | exact fun _ => Or.inr (Or.inl rfl) | exact fun _ => Or.inr (Or.inr rfl)) rfl) re_int (fun _ _ => rfl))) ra_nil (fun _ => rfl)) (fun _ => rfl)) rfl rfl (by decide) rfl rfl (fun _ => rfl) (fun _ => rfl) (fun _ => rfl) (fun _ => rfl))
    (rss_cons (ow1 := []) (rs_ret (tc := []) (re_sub (re_intc F B (re_gt  (re_var F 2 rfl (by first | exact fun _ => Or.inl rfl | exact fun _ => Or.inr (Or.inl rfl) | exact fun _ => Or.inr (Or.inr rfl)) rfl) (re_var F 3 rfl (by first | exact fun _ => Or.inl rfl | exact fun _ => Or.inr (Or.inl rfl) | exact fun _ => Or.inr (Or.inr rfl)) rfl)) (fun _ => rfl) (fun _ => rfl) (fun _ => rfl)) (re_intc F B (re_lt  (re_var F 2 rfl (by first | exact fun _ => Or.inl rfl | exact fun _ => Or.inr (Or.inl rfl) | exact fun _ => Or.inr (Or.inr rfl)) rfl) (re_var F 3 rfl (by first | exact fun _ => Or.inl rfl | exact fun _ => Or.inr (Or.inl rfl) | exact fun _ => Or.inr (Or.inr rfl)) rfl)) (fun _ => rfl) (fun _ => rfl) (fun _ => rfl))) rfl) (rss_nil rfl)))
abbrev s_least_of : Stmt := topS 8
abbrev n_least_of : List Str := ["fractions", "found", "one"]
theorem N_least_of : n_least_of.Nodup := by decide +kernel
theorem sc_least_of : FnScope n_least_of ["fractions"] (defScope s_least_of) := ⟨rfl, rfl, rfl, N_least_of, rfl, by decide +kernel, by decide +kernel⟩
noncomputable def S_least_of : XS :=
    seqS (setS 1 (opE ixD (varE 0) (cE (.int 0))))
    (seqS (forS (itE (varE 0)) (nameG 2)
    (seqS (ifS (tE (opE ltD (clE F_compared (consA (varE 2) (consA (varE 1) (nilA)))) (cE (.int 0))))
    (seqS (setS 1 (varE 2))
    (nopS))
    (nopS))
    (killS [2])))
    (seqS (retS (varE 1)) (nopS)))
noncomputable def F_least_of : List D → Option D := runP 2 S_least_of
theorem w_least_of {C : Ct} (B : Blt C.mg) (h_compared : Fn C "compared" 1 ["one", "other"] (spP C.K 2 F_compared)) (hf : FnHere C "least_of" (defArgs s_least_of) (defBody s_least_of) (defScope s_least_of)) : Fn C "least_of" 2 ["fractions"] (spP C.K 1 F_least_of) :=
  fnP (k := 1) (ow2 := []) hf sc_least_of 2 rfl (fun _ _ _ _ _ _ us hl => match us, hl with | [_], _ => rfl) fun _ _ _ _ _ _ _ F =>
    (rss_cons (rs_set (tc := []) F 1 (re_ix F (re_var F 0 rfl (by first | exact fun _ => Or.inl rfl | exact fun _ => Or.inr (Or.inl rfl) | exact fun _ => Or.inr (Or.inr rfl)) rfl) re_int (fun _ _ => rfl)) rfl (by first | exact fun _ => Or.inl rfl | exact fun _ => Or.inr rfl) rfl (by first | exact fun _ => Or.inr rfl | exact fun _ => Or.inl rfl) (fun _ => rfl))
    (rss_cons (rs_for (tc := []) F (ri_val F (re_var F 0 rfl (by first | exact fun _ => Or.inl rfl | exact fun _ => Or.inr (Or.inl rfl) | exact fun _ => Or.inr (Or.inr rfl)) rfl)) (rg_name F 2 rfl (by first | exact fun _ => Or.inl rfl | exact fun _ => Or.inr rfl) rfl (by first | exact fun _ => Or.inr rfl | exact fun _ => Or.inl rfl))
    (rss_cons (rs_if (tc := []) (ow2 := []) (rt_lt  (re_callP F h_compared (by omega) rfl (fun _ => rfl) (ra_cons (re_var F 2 rfl (by first | exact fun _ => Or.inl rfl | exact fun _ => Or.inr (Or.inl rfl) | exact fun _ => Or.inr (Or.inr rfl)) rfl) (ra_cons (re_var F 1 rfl (by first | exact fun _ => Or.inl rfl | exact fun _ => Or.inr (Or.inl rfl) | exact fun _ => Or.inr (Or.inr rfl)) rfl) ra_nil (fun _ => rfl)) (fun _ => rfl)) (fun _ => rfl) (fun _ => rfl)) re_int)
    (rss_cons (rs_set (tc := []) F 1 (re_var F 2 rfl (by first | exact fun _ => Or.inl rfl | exact fun _ => Or.inr (Or.inl rfl) | exact fun _ => Or.inr (Or.inr rfl)) rfl) rfl (by first | exact fun _ => Or.inl rfl | exact fun _ => Or.inr rfl) rfl (by first | exact fun _ => Or.inr rfl | exact fun _ => Or.inl rfl) (fun _ => rfl))
    (rss_nil rfl))
    (rss_nil rfl))
    (rss_kill [2] rfl rfl))
    (fun _ => PassesOwn.never) (fun _ _ => rfl))
    (rss_cons (ow1 := []) (rs_ret (tc := []) (re_var F 1 rfl (by first | exact fun _ => Or.inl rfl | exact fun _ => Or.inr (Or.inl rfl) | exact fun _ => Or.inr (Or.inr rfl)) rfl) rfl) (rss_nil rfl))))
abbrev s_greatest_of : Stmt := topS 9
abbrev n_greatest_of : List Str := ["fractions", "found", "one"]
theorem N_greatest_of : n_greatest_of.Nodup := by decide +kernel
theorem sc_greatest_of : FnScope n_greatest_of ["fractions"] (defScope s_greatest_of) := ⟨rfl, rfl, rfl, N_greatest_of, rfl, by decide +kernel, by decide +kernel⟩
noncomputable def S_greatest_of : XS :=
    seqS (setS 1 (opE ixD (varE 0) (cE (.int 0))))
    (seqS (forS (itE (varE 0)) (nameG 2)
    (seqS (ifS (tE (opE gtI (clE F_compared (consA (varE 2) (consA (varE 1) (nilA)))) (cE (.int 0))))
    (seqS (setS 1 (varE 2))
    (nopS))
    (nopS))
    (killS [2])))
    (seqS (retS (varE 1)) (nopS)))
noncomputable def F_greatest_of : List D → Option D := runP 2 S_greatest_of
theorem w_greatest_of {C : Ct} (B : Blt C.mg) (h_compared : Fn C "compared" 1 ["one", "other"] (spP C.K 2 F_compared)) (hf : FnHere C "greatest_of" (defArgs s_greatest_of) (defBody s_greatest_of) (defScope s_greatest_of)) : Fn C "greatest_of" 2 ["fractions"] (spP C.K 1 F_greatest_of) :=
  fnP (k := 1) (ow2 := []) hf sc_greatest_of 2 rfl (fun _ _ _ _ _ _ us hl => match us, hl with | [_], _ => rfl) fun _ _ _ _ _ _ _ F =>
    (rss_cons (rs_set (tc := []) F 1 (re_ix F (re_var F 0 rfl (by first | exact fun _ => Or.inl rfl | exact fun _ => Or.inr (Or.inl rfl) | exact fun _ => Or.inr (Or.inr rfl)) rfl) re_int (fun _ _ => rfl)) rfl (by first | exact fun _ => Or.inl rfl | exact fun _ => Or.inr rfl) rfl (by first | exact fun _ => Or.inr rfl | exact fun _ => Or.inl rfl) (fun _ => rfl))
    (rss_cons (rs_for (tc := []) F (ri_val F (re_var F 0 rfl (by first | exact fun _ => Or.inl rfl | exact fun _ => Or.inr (Or.inl rfl) | exact fun _ => Or.inr (Or.inr rfl)) rfl)) (rg_name F 2 rfl (by first | exact fun _ => Or.inl rfl | exact fun _ => Or.inr rfl) rfl (by first | exact fun _ => Or.inr rfl | exact fun _ => Or.inl rfl))
    (rss_cons (rs_if (tc := []) (ow2 := []) (rt_gt  (re_callP F h_compared (by omega) rfl (fun _ => rfl) (ra_cons (re_var F 2 rfl (by first | exact fun _ => Or.inl rfl | exact fun _ => Or.inr (Or.inl rfl) | exact fun _ => Or.inr (Or.inr rfl)) rfl) (ra_cons (re_var F 1 rfl (by first | exact fun _ => Or.inl rfl | exact fun _ => Or.inr (Or.inl rfl) | exact fun _ => Or.inr (Or.inr rfl)) rfl) ra_nil (fun _ => rfl)) (fun _ => rfl)) (fun _ => rfl) (fun _ => rfl)) re_int)
    (rss_cons (rs_set (tc := []) F 1 (re_var F 2 rfl (by first | exact fun _ => Or.inl rfl | exact fun _ => Or.inr (Or.inl rfl) | exact fun _ => Or.inr (Or.inr rfl)) rfl) rfl (by first | exact fun _ => Or.inl rfl | exact fun _ => Or.inr rfl) rfl (by first | exact fun _ => Or.inr rfl | exact fun _ => Or.inl rfl) (fun _ => rfl))
    (rss_nil rfl))
    (rss_nil rfl))
    (rss_kill [2] rfl rfl))
    (fun _ => PassesOwn.never) (fun _ _ => rfl))
    (rss_cons (ow1 := []) (rs_ret (tc := []) (re_var F 1 rfl (by first | exact fun _ => Or.inl rfl | exact fun _ => Or.inr (Or.inl rfl) | exact fun _ => Or.inr (Or.inr rfl)) rfl) rfl) (rss_nil rfl))))
abbrev s_total : Stmt := topS 10
abbrev n_total : List Str := ["fractions", "found", "one"]
theorem N_total : n_total.Nodup := by decide +kernel
theorem sc_total : FnScope n_total ["fractions"] (defScope s_total) := ⟨rfl, rfl, rfl, N_total, rfl, by decide +kernel, by decide +kernel⟩
noncomputable def S_total : XS :=
    seqS (setS 1 (tupE (consA (cE (.int 0)) (consA (cE (.int 1)) (nilA)))))
    (seqS (forS (itE (varE 0)) (nameG 2)
    (seqS (setS 1 (clE F_added (consA (varE 1) (consA (varE 2) (nilA)))))
    (killS [2])))
    (seqS (retS (varE 1)) (nopS)))
noncomputable def F_total : List D → Option D := runP 2 S_total
theorem w_total {C : Ct} (B : Blt C.mg) (h_added : Fn C "added" 3 ["one", "other"] (spP C.K 2 F_added)) (hf : FnHere C "total" (defArgs s_total) (defBody s_total) (defScope s_total)) : Fn C "total" 4 ["fractions"] (spP C.K 1 F_total) :=
  fnP (k := 3) (ow2 := []) hf sc_total 2 rfl (fun _ _ _ _ _ _ us hl => match us, hl with | [_], _ => rfl) fun _ _ _ _ _ _ _ F =>
    (rss_cons (rs_set (tc := []) F 1 (re_tup (ra_cons re_int (ra_cons re_int ra_nil (fun _ => rfl)) (fun _ => rfl))) rfl (by first | exact fun _ => Or.inl rfl | exact fun _ => Or.inr rfl) rfl (by first | exact fun _ => Or.inr rfl | exact fun _ => Or.inl rfl) (fun _ => rfl))
    (rss_cons (rs_for (tc := []) F (ri_val F (re_var F 0 rfl (by first | exact fun _ => Or.inl rfl | exact fun _ => Or.inr (Or.inl rfl) | exact fun _ => Or.inr (Or.inr rfl)) rfl)) (rg_name F 2 rfl (by first | exact fun _ => Or.inl rfl | exact fun _ => Or.inr rfl) rfl (by first | exact fun _ => Or.inr rfl | exact fun _ => Or.inl rfl))
    (rss_cons (rs_set (tc := []) F 1 (re_callP F h_added (by omega) rfl (fun _ => rfl) (ra_cons (re_var F 1 rfl (by first | exact fun _ => Or.inl rfl | exact fun _ => Or.inr (Or.inl rfl) | exact fun _ => Or.inr (Or.inr rfl)) rfl) (ra_cons (re_var F 2 rfl (by first | exact fun _ => Or.inl rfl | exact fun _ => Or.inr (Or.inl rfl) | exact fun _ => Or.inr (Or.inr rfl)) rfl) ra_nil (fun _ => rfl)) (fun _ => rfl)) (fun _ => rfl) (fun _ => rfl)) rfl (by first | exact fun _ => Or.inl rfl | exact fun _ => Or.inr rfl) rfl (by first | exact fun _ => Or.inr rfl | exact fun _ => Or.inl rfl) (fun _ => rfl))
    (rss_kill [2] rfl rfl))
    (fun _ => PassesOwn.never) (fun _ _ => rfl))
    (rss_cons (ow1 := []) (rs_ret (tc := []) (re_var F 1 rfl (by first | exact fun _ => Or.inl rfl | exact fun _ => Or.inr (Or.inl rfl) | exact fun _ => Or.inr (Or.inr rfl)) rfl) rfl) (rss_nil rfl))))
abbrev s_fraction_text : Stmt := topS 11
abbrev n_fraction_text : List Str := ["one"]
theorem N_fraction_text : n_fraction_text.Nodup := by decide +kernel
theorem sc_fraction_text : FnScope n_fraction_text ["one"] (defScope s_fraction_text) := ⟨rfl, rfl, rfl, N_fraction_text, rfl, by decide +kernel, by decide +kernel⟩
noncomputable def S_fraction_text : XS :=
    seqS (retS (ifE (tE (opE eqD (opE ixD (varE 0) (cE (.int 1))) (cE (.int 1)))) (clE (g1 strD) (consA (opE ixD (varE 0) (cE (.int 0))) nilA)) (opE addD (opE addD (clE (g1 strD) (consA (opE ixD (varE 0) (cE (.int 0))) nilA)) (cE (.str "/"))) (clE (g1 strD) (consA (opE ixD (varE 0) (cE (.int 1))) nilA))))) (nopS)
noncomputable def F_fraction_text : List D → Option D := runP 0 S_fraction_text
theorem w_fraction_text {C : Ct} (B : Blt C.mg) (hf : FnHere C "fraction_text" (defArgs s_fraction_text) (defBody s_fraction_text) (defScope s_fraction_text)) : Fn C "fraction_text" 1 ["one"] (spP C.K 1 F_fraction_text) :=
  fnP (k := 0) (ow2 := []) hf sc_fraction_text 0 rfl (fun _ _ _ _ _ _ us hl => match us, hl with | [_], _ => rfl) fun _ _ _ _ _ _ _ F =>
    (rss_cons (ow1 := []) (rs_ret (tc := []) (re_if (rt_eq F (re_ix F (re_var F 0 rfl (by first | exact fun _ => Or.inl rfl | exact fun _ => Or.inr (Or.inl rfl) | exact fun _ => Or.inr (Or.inr rfl)) rfl) re_int (fun _ _ => rfl)) re_int) (re_strc F B (re_ix F (re_var F 0 rfl (by first | exact fun _ => Or.inl rfl | exact fun _ => Or.inr (Or.inl rfl) | exact fun _ => Or.inr (Or.inr rfl)) rfl) re_int (fun _ _ => rfl)) (fun _ => rfl) (fun _ => rfl) (fun _ => rfl)) (re_add F (re_add F (re_strc F B (re_ix F (re_var F 0 rfl (by first | exact fun _ => Or.inl rfl | exact fun _ => Or.inr (Or.inl rfl) | exact fun _ => Or.inr (Or.inr rfl)) rfl) re_int (fun _ _ => rfl)) (fun _ => rfl) (fun _ => rfl) (fun _ => rfl)) re_str) (re_strc F B (re_ix F (re_var F 0 rfl (by first | exact fun _ => Or.inl rfl | exact fun _ => Or.inr (Or.inl rfl) | exact fun _ => Or.inr (Or.inr rfl)) rfl) re_int (fun _ _ => rfl)) (fun _ => rfl) (fun _ => rfl) (fun _ => rfl)))) rfl) (rss_nil rfl))
abbrev s_is_number_text : Stmt := topS 12
abbrev n_is_number_text : List Str := ["text", "sign"]
theorem N_is_number_text : n_is_number_text.Nodup := by decide +kernel
theorem sc_is_number_text : FnScope n_is_number_text ["text"] (defScope s_is_number_text) := ⟨rfl, rfl, rfl, N_is_number_text, rfl, by decide +kernel, by decide +kernel⟩
noncomputable def S_is_number_text : XS :=
    seqS (retS (ifE (tE (chE ltD leD (cE (.int 0)) (clE (g1 lenD) (consA (varE 0) nilA)) (cE (.int 40)))) (clE (g1 allD) (consA (compE (itE (varE 0)) [1] (nameG 1) (yesT) (opE inD (varE 1) (cE (.str "0123456789")))) nilA)) (cE (.bool false)))) (nopS)
noncomputable def F_is_number_text : List D → Option D := runP 1 S_is_number_text
theorem w_is_number_text {C : Ct} (B : Blt C.mg) (hf : FnHere C "is_number_text" (defArgs s_is_number_text) (defBody s_is_number_text) (defScope s_is_number_text)) : Fn C "is_number_text" 1 ["text"] (spP C.K 1 F_is_number_text) :=
  fnP (k := 0) (ow2 := []) hf sc_is_number_text 1 rfl (fun _ _ _ _ _ _ us hl => match us, hl with | [_], _ => rfl) fun _ _ _ _ _ _ _ F =>
    (rss_cons (ow1 := []) (rs_ret (tc := []) (re_and (re_ltLe re_int (re_len F B (re_var F 0 rfl (by first | exact fun _ => Or.inl rfl | exact fun _ => Or.inr (Or.inl rfl) | exact fun _ => Or.inr (Or.inr rfl)) rfl) (fun _ => rfl) (fun _ => rfl) (fun _ => rfl)) re_int (by with_unfolding_all rfl)) (re_one (re_all F B (RF.re (rf_lc F (ri_val F (re_var F 0 rfl (by first | exact fun _ => Or.inl rfl | exact fun _ => Or.inr (Or.inl rfl) | exact fun _ => Or.inr (Or.inr rfl)) rfl)) (fun _ => blkOk_by (by first | decide +kernel | kernel_rfl)) (rg_name (Fam.blk F _) 1 rfl (by first | exact fun _ => Or.inl rfl | exact fun _ => Or.inr rfl) rfl (by first | exact fun _ => Or.inr rfl | exact fun _ => Or.inl rfl)) rq_nil (re_in (Fam.blk F _) (re_var (Fam.blk F _) 1 rfl (by first | exact fun _ => Or.inl rfl | exact fun _ => Or.inr (Or.inl rfl) | exact fun _ => Or.inr (Or.inr rfl)) rfl) re_str rfl) (fun _ _ => rfl) rfl rfl (ownL := [("sign", 1)]))) (fun _ => rfl) (fun _ => rfl) (fun _ => rfl)))) rfl) (rss_nil rfl))
abbrev s_fraction_in : Stmt := topS 13
abbrev n_fraction_in : List Str := ["text", "body", "parts", "n", "d", "found", "part"]
theorem N_fraction_in : n_fraction_in.Nodup := by decide +kernel
theorem sc_fraction_in : FnScope n_fraction_in ["text"] (defScope s_fraction_in) := ⟨rfl, rfl, rfl, N_fraction_in, rfl, by decide +kernel, by decide +kernel⟩
noncomputable def S_fraction_in : XS :=
    seqS (setS 1 (ifE (tE (opE eqD (slE (varE 0) (noO) (someO (cE (.int 1)))) (cE (.str "-")))) (slE (varE 0) (someO (cE (.int 1))) (noO)) (varE 0)))
    (seqS (setS 2 (opE splitD (varE 1) (cE (.str "/"))))
    (seqS (ifS (orT (tE (opE gtI (clE (g1 lenD) (consA (varE 2) nilA)) (cE (.int 2)))) (notT (tE (clE (g1 allD) (consA (compE (itE (varE 2)) [6] (nameG 6) (yesT) (clE F_is_number_text (consA (varE 6) (nilA)))) nilA)))))
    (seqS (retS (cE .none)) (nopS))
    (nopS))
    (seqS (parS 3 4 (consA (clE (g1 intD) (consA (opE ixD (varE 2) (cE (.int 0))) nilA)) (consA (ifE (tE (opE eqD (clE (g1 lenD) (consA (varE 2) nilA)) (cE (.int 2)))) (clE (g1 intD) (consA (opE ixD (varE 2) (unE negD (cE (.int 1)))) nilA)) (cE (.int 1))) (nilA))))
    (seqS (ifS (tE (opE eqD (varE 4) (cE (.int 0))))
    (seqS (retS (cE .none)) (nopS))
    (nopS))
    (seqS (setS 5 (clE F_reduced (consA (ifE (tE (opE eqD (slE (varE 0) (noO) (someO (cE (.int 1)))) (cE (.str "-")))) (opE subD (cE (.int 0)) (varE 3)) (varE 3)) (consA (varE 4) (nilA)))))
    (seqS (retS (ifE (tE (opE eqD (clE F_fraction_text (consA (varE 5) (nilA))) (varE 0))) (varE 5) (cE .none))) (nopS)))))))
noncomputable def F_fraction_in : List D → Option D := runP 6 S_fraction_in
theorem w_fraction_in {C : Ct} (B : Blt C.mg) (h_is_number_text : Fn C "is_number_text" 1 ["text"] (spP C.K 1 F_is_number_text)) (h_reduced : Fn C "reduced" 2 ["n", "d"] (spP C.K 2 F_reduced)) (h_fraction_text : Fn C "fraction_text" 1 ["one"] (spP C.K 1 F_fraction_text)) (hf : FnHere C "fraction_in" (defArgs s_fraction_in) (defBody s_fraction_in) (defScope s_fraction_in)) : Fn C "fraction_in" 3 ["text"] (spP C.K 1 F_fraction_in) :=
  fnP (k := 2) (ow2 := []) hf sc_fraction_in 6 rfl (fun _ _ _ _ _ _ us hl => match us, hl with | [_], _ => rfl) fun _ _ _ _ _ _ _ F =>
    (rss_cons (rs_set (tc := []) F 1 (re_if (rt_eq F (re_slice F (re_var F 0 rfl (by first | exact fun _ => Or.inl rfl | exact fun _ => Or.inr (Or.inl rfl) | exact fun _ => Or.inr (Or.inr rfl)) rfl) ro_none (ro_some re_int)) re_str) (re_slice F (re_var F 0 rfl (by first | exact fun _ => Or.inl rfl | exact fun _ => Or.inr (Or.inl rfl) | exact fun _ => Or.inr (Or.inr rfl)) rfl) (ro_some re_int) ro_none) (re_var F 0 rfl (by first | exact fun _ => Or.inl rfl | exact fun _ => Or.inr (Or.inl rfl) | exact fun _ => Or.inr (Or.inr rfl)) rfl)) rfl (by first | exact fun _ => Or.inl rfl | exact fun _ => Or.inr rfl) rfl (by first | exact fun _ => Or.inr rfl | exact fun _ => Or.inl rfl) (fun _ => rfl))
    (rss_cons (rs_set (tc := []) F 2 (RF.re (rf_split PyProof.Rows.split_le (re_var F 1 rfl (by first | exact fun _ => Or.inl rfl | exact fun _ => Or.inr (Or.inl rfl) | exact fun _ => Or.inr (Or.inr rfl)) rfl) re_str (fun _ => pe_split))) rfl (by first | exact fun _ => Or.inl rfl | exact fun _ => Or.inr rfl) rfl (by first | exact fun _ => Or.inr rfl | exact fun _ => Or.inl rfl) (fun _ => rfl))
    (rss_cons (rs_if (tc := []) (ow2 := []) (rt_w (rw_or (rt_gt  (re_len F B (re_var F 2 rfl (by first | exact fun _ => Or.inl rfl | exact fun _ => Or.inr (Or.inl rfl) | exact fun _ => Or.inr (Or.inr rfl)) rfl) (fun _ => rfl) (fun _ => rfl) (fun _ => rfl)) re_int) (rw_or1 (rt_not (rt_val (re_all F B (RF.re (rf_lc F (ri_val F (re_var F 2 rfl (by first | exact fun _ => Or.inl rfl | exact fun _ => Or.inr (Or.inl rfl) | exact fun _ => Or.inr (Or.inr rfl)) rfl)) (fun _ => blkOk_by (by first | decide +kernel | kernel_rfl)) (rg_name (Fam.blk F _) 6 rfl (by first | exact fun _ => Or.inl rfl | exact fun _ => Or.inr rfl) rfl (by first | exact fun _ => Or.inr rfl | exact fun _ => Or.inl rfl)) rq_nil (re_callP (Fam.blk F _) h_is_number_text (by omega) rfl (fun _ => rfl) (ra_cons (re_var (Fam.blk F _) 6 rfl (by first | exact fun _ => Or.inl rfl | exact fun _ => Or.inr (Or.inl rfl) | exact fun _ => Or.inr (Or.inr rfl)) rfl) ra_nil (fun _ => rfl)) (fun _ => rfl) (fun _ => rfl)) (fun _ _ => rfl) rfl rfl (ownL := [("part", 6)]))) (fun _ => rfl) (fun _ => rfl) (fun _ => rfl)) (fun _ _ => rfl))))))
    (rss_cons (ow1 := []) (rs_ret (tc := []) re_non rfl) (rss_nil rfl))
    (rss_nil rfl))
    (rss_cons (rs_par (tc := []) F 3 4 (ra_cons (re_intc F B (re_ix F (re_var F 2 rfl (by first | exact fun _ => Or.inl rfl | exact fun _ => Or.inr (Or.inl rfl) | exact fun _ => Or.inr (Or.inr rfl)) rfl) re_int (fun _ _ => rfl)) (fun _ => rfl) (fun _ => rfl) (fun _ => rfl)) (ra_cons (re_if (rt_eq F (re_len F B (re_var F 2 rfl (by first | exact fun _ => Or.inl rfl | exact fun _ => Or.inr (Or.inl rfl) | exact fun _ => Or.inr (Or.inr rfl)) rfl) (fun _ => rfl) (fun _ => rfl) (fun _ => rfl)) re_int) (re_intc F B (re_ix F (re_var F 2 rfl (by first | exact fun _ => Or.inl rfl | exact fun _ => Or.inr (Or.inl rfl) | exact fun _ => Or.inr (Or.inr rfl)) rfl) (re_neg re_int) (fun _ _ => rfl)) (fun _ => rfl) (fun _ => rfl) (fun _ => rfl)) re_int) ra_nil (fun _ => rfl)) (fun _ => rfl)) rfl rfl (by decide) rfl rfl (fun _ => rfl) (fun _ => rfl) (fun _ => rfl) (fun _ => rfl))
    (rss_cons (rs_if (tc := []) (ow2 := []) (rt_eq F (re_var F 4 rfl (by first | exact fun _ => Or.inl rfl | exact fun _ => Or.inr (Or.inl rfl) | exact fun _ => Or.inr (Or.inr rfl)) rfl) re_int)
    (rss_cons (ow1 := []) (rs_ret (tc := []) re_non rfl) (rss_nil rfl))
    (rss_nil rfl))
    (rss_cons (rs_set (tc := []) F 5 (re_callP F h_reduced (by omega) rfl (fun _ => rfl) (ra_cons (re_if (rt_eq F (re_slice F (re_var F 0 rfl (by first | exact fun _ => Or.inl rfl | exact fun _ => Or.inr (Or.inl rfl) | exact fun _ => Or.inr (Or.inr rfl)) rfl) ro_none (ro_some re_int)) re_str) (re_sub re_int (re_var F 3 rfl (by first | exact fun _ => Or.inl rfl | exact fun _ => Or.inr (Or.inl rfl) | exact fun _ => Or.inr (Or.inr rfl)) rfl)) (re_var F 3 rfl (by first | exact fun _ => Or.inl rfl | exact fun _ => Or.inr (Or.inl rfl) | exact fun _ => Or.inr (Or.inr rfl)) rfl)) (ra_cons (re_var F 4 rfl (by first | exact fun _ => Or.inl rfl | exact fun _ => Or.inr (Or.inl rfl) | exact fun _ => Or.inr (Or.inr rfl)) rfl) ra_nil (fun _ => rfl)) (fun _ => rfl)) (fun _ => rfl) (fun _ => rfl)) rfl (by first | exact fun _ => Or.inl rfl | exact fun _ => Or.inr rfl) rfl (by first | exact fun _ => Or.inr rfl | exact fun _ => Or.inl rfl) (fun _ => rfl))
    (rss_cons (ow1 := []) (rs_ret (tc := []) (re_if (rt_eq F (re_callP F h_fraction_text (by omega) rfl (fun _ => rfl) (ra_cons (re_var F 5 rfl (by first | exact fun _ => Or.inl rfl | exact fun _ => Or.inr (Or.inl rfl) | exact fun _ => Or.inr (Or.inr rfl)) rfl) ra_nil (fun _ => rfl)) (fun _ => rfl) (fun _ => rfl)) (re_var F 0 rfl (by first | exact fun _ => Or.inl rfl | exact fun _ => Or.inr (Or.inl rfl) | exact fun _ => Or.inr (Or.inr rfl)) rfl)) (re_var F 5 rfl (by first | exact fun _ => Or.inl rfl | exact fun _ => Or.inr (Or.inl rfl) | exact fun _ => Or.inr (Or.inr rfl)) rfl) re_non) rfl) (rss_nil rfl))))))))
abbrev s__law_take : Stmt := topS 15
abbrev n__law_take : List Str := ["_law_bag_here", "_law_many", "_law_cell", "_law_stirred", "_law_value", "_law_begin", "_law_second"]
theorem N__law_take : n__law_take.Nodup := by decide +kernel
theorem sc__law_take : FnScope n__law_take ["_law_bag_here", "_law_many"] (defScope s__law_take) := ⟨rfl, rfl, rfl, N__law_take, rfl, by decide +kernel, by decide +kernel⟩
noncomputable def S__law_take : XS :=
    seqS (ifS (tE (opE eqD (ixoE 0 (cE (.int 0))) (cE (.int 0))))
    (seqS (setS 2 (opE ixD (opE addD (slE (ixoE 0 (cE (.int 3))) (someO (ixoE 0 (cE (.int 2)))) (noO)) (lstE (consA (cE (.int 0)) (nilA)))) (cE (.int 0))))
    (seqS (augiS iaddD 0 2 (cE (.int 1)))
    (seqS (ifS (tE (opE geI (varE 2) (opE powD (cE (.int 10)) (cE (.int 18)))))
    (seqS (setiS 0 (cE (.int 0)) (varE 2))
    (nopS))
    (nopS))
    (seqS (setS 3 (opE addD (opE addD (opE mulD (ixoE 0 (cE (.int 1))) (cE (.int 48271))) (opE modD (clE (g1 intD) (consA (varE 2) nilA)) (cE (.int 2147483647)))) (opE mulD (cE (.int 7919)) (ixoE 0 (cE (.int 2))))))
    (seqS (setiS 0 (cE (.int 1)) (opE modD (clE (g1 intD) (consA (varE 3) nilA)) (cE (.int 2147483647))))
    (killS [2, 3]))))))
    (nopS))
    (seqS (ifS (tE (opE gtI (ixoE 0 (cE (.int 0))) (cE (.int 0))))
    (seqS (setS 4 (opE modD (clE (g1 intD) (consA (ixoE 0 (cE (.int 0))) nilA)) (varE 1)))
    (seqS (setiS 0 (cE (.int 0)) (opE fdivD (clE (g1 intD) (consA (ixoE 0 (cE (.int 0))) nilA)) (varE 1)))
    (seqS (retS (varE 4)) (nopS))))
    (nopS))
    (seqS (setS 5 (opE modD (clE (g1 intD) (consA (opE mulD (opE addD (ixoE 0 (cE (.int 1))) (cE (.int 1))) (cE (.int 39373))) nilA)) (cE (.int 1000000007))))
    (seqS (setS 6 (opE modD (clE (g1 intD) (consA (opE mulD (opE modD (clE (g1 intD) (consA (opE mulD (varE 5) (varE 5)) nilA)) (cE (.int 998244353))) (cE (.int 30011))) nilA)) (cE (.int 998244353))))
    (seqS (retS (opE modD (clE (g1 intD) (consA (opE fdivD (varE 6) (cE (.int 7))) nilA)) (varE 1))) (nopS)))))
noncomputable def F__law_take : D → List D → Option (D × D) := runB 5 S__law_take
theorem w__law_take {C : Ct} (B : Blt C.mg) (hf : FnHere C "_law_take" (defArgs s__law_take) (defBody s__law_take) (defScope s__law_take)) : Fn C "_law_take" 1 ["_law_bag_here", "_law_many"] (spB C.K 2 F__law_take) :=
  fnB (k := 0) hf sc__law_take 5 rfl (fun _ _ _ _ _ _ us hl => match us, hl with | [_, _], _ => rfl) fun _ _ _ _ _ _ _ F =>
    (rss_cons (rs_if (tc := []) (ow2 := [0]) (rt_eq F (re_ixo F 0 rfl rfl (by first | exact fun _ => Or.inl rfl | exact fun _ => Or.inr (Or.inl rfl) | exact fun _ => Or.inr (Or.inr rfl)) re_int (fun _ _ => rfl)) re_int)
    (rss_cons (rs_set (tc := []) F 2 (re_ix F (re_add F (re_slice F (re_ixo F 0 rfl rfl (by first | exact fun _ => Or.inl rfl | exact fun _ => Or.inr (Or.inl rfl) | exact fun _ => Or.inr (Or.inr rfl)) re_int (fun _ _ => rfl)) (ro_some (re_ixo F 0 rfl rfl (by first | exact fun _ => Or.inl rfl | exact fun _ => Or.inr (Or.inl rfl) | exact fun _ => Or.inr (Or.inr rfl)) re_int (fun _ _ => rfl))) ro_none) (RF.re (rf_lst (ra_cons re_int ra_nil (fun _ => rfl))))) re_int (fun _ _ => rfl)) rfl (by first | exact fun _ => Or.inl rfl | exact fun _ => Or.inr rfl) rfl (by first | exact fun _ => Or.inr rfl | exact fun _ => Or.inl rfl) (fun _ => rfl))
    (rss_cons (rs_augi (tc := []) F 0 (fun _ => iop_addD) os_iadd re_int rfl rfl (by first | exact fun _ => Or.inl rfl | exact fun _ => Or.inr (Or.inl rfl) | exact fun _ => Or.inr (Or.inr rfl)) (fun _ _ _ _ => rfl))
    (rss_cons (rs_if (tc := []) (ow2 := [0]) (rt_ge  (re_var F 2 rfl (by first | exact fun _ => Or.inl rfl | exact fun _ => Or.inr (Or.inl rfl) | exact fun _ => Or.inr (Or.inr rfl)) rfl) (re_pow re_int re_int))
    (rss_cons (rs_seti (tc := []) F 0 re_int (re_var F 2 rfl (by first | exact fun _ => Or.inl rfl | exact fun _ => Or.inr (Or.inl rfl) | exact fun _ => Or.inr (Or.inr rfl)) rfl) rfl rfl (by first | exact fun _ => Or.inl rfl | exact fun _ => Or.inr (Or.inl rfl) | exact fun _ => Or.inr (Or.inr rfl)) (fun _ => fun a b c => ps_asg c (pg_sub a b set_list)))
    (rss_nil rfl))
    (rss_nil rfl))
    (rss_cons (rs_set (tc := []) F 3 (re_add F (re_add F (re_mul (re_ixo F 0 rfl rfl (by first | exact fun _ => Or.inl rfl | exact fun _ => Or.inr (Or.inl rfl) | exact fun _ => Or.inr (Or.inr rfl)) re_int (fun _ _ => rfl)) re_int) (re_mod (re_intc F B (re_var F 2 rfl (by first | exact fun _ => Or.inl rfl | exact fun _ => Or.inr (Or.inl rfl) | exact fun _ => Or.inr (Or.inr rfl)) rfl) (fun _ => rfl) (fun _ => rfl) (fun _ => rfl)) re_int)) (re_mul re_int (re_ixo F 0 rfl rfl (by first | exact fun _ => Or.inl rfl | exact fun _ => Or.inr (Or.inl rfl) | exact fun _ => Or.inr (Or.inr rfl)) re_int (fun _ _ => rfl)))) rfl (by first | exact fun _ => Or.inl rfl | exact fun _ => Or.inr rfl) rfl (by first | exact fun _ => Or.inr rfl | exact fun _ => Or.inl rfl) (fun _ => rfl))
    (rss_cons (rs_seti (tc := []) F 0 re_int (re_mod (re_intc F B (re_var F 3 rfl (by first | exact fun _ => Or.inl rfl | exact fun _ => Or.inr (Or.inl rfl) | exact fun _ => Or.inr (Or.inr rfl)) rfl) (fun _ => rfl) (fun _ => rfl) (fun _ => rfl)) re_int) rfl rfl (by first | exact fun _ => Or.inl rfl | exact fun _ => Or.inr (Or.inl rfl) | exact fun _ => Or.inr (Or.inr rfl)) (fun _ => fun a b c => ps_asg c (pg_sub a b set_list)))
    (rss_kill [2, 3] rfl rfl))))))
    (rss_nil rfl))
    (rss_cons (rs_if (tc := []) (ow2 := [0]) (rt_gt  (re_ixo F 0 rfl rfl (by first | exact fun _ => Or.inl rfl | exact fun _ => Or.inr (Or.inl rfl) | exact fun _ => Or.inr (Or.inr rfl)) re_int (fun _ _ => rfl)) re_int)
    (rss_cons (rs_set (tc := []) F 4 (re_mod (re_intc F B (re_ixo F 0 rfl rfl (by first | exact fun _ => Or.inl rfl | exact fun _ => Or.inr (Or.inl rfl) | exact fun _ => Or.inr (Or.inr rfl)) re_int (fun _ _ => rfl)) (fun _ => rfl) (fun _ => rfl) (fun _ => rfl)) (re_var F 1 rfl (by first | exact fun _ => Or.inl rfl | exact fun _ => Or.inr (Or.inl rfl) | exact fun _ => Or.inr (Or.inr rfl)) rfl)) rfl (by first | exact fun _ => Or.inl rfl | exact fun _ => Or.inr rfl) rfl (by first | exact fun _ => Or.inr rfl | exact fun _ => Or.inl rfl) (fun _ => rfl))
    (rss_cons (rs_seti (tc := []) F 0 re_int (re_fdiv (re_intc F B (re_ixo F 0 rfl rfl (by first | exact fun _ => Or.inl rfl | exact fun _ => Or.inr (Or.inl rfl) | exact fun _ => Or.inr (Or.inr rfl)) re_int (fun _ _ => rfl)) (fun _ => rfl) (fun _ => rfl) (fun _ => rfl)) (re_var F 1 rfl (by first | exact fun _ => Or.inl rfl | exact fun _ => Or.inr (Or.inl rfl) | exact fun _ => Or.inr (Or.inr rfl)) rfl)) rfl rfl (by first | exact fun _ => Or.inl rfl | exact fun _ => Or.inr (Or.inl rfl) | exact fun _ => Or.inr (Or.inr rfl)) (fun _ => fun a b c => ps_asg c (pg_sub a b set_list)))
    (rss_cons (ow1 := [0]) (rs_ret (tc := []) (re_var F 4 rfl (by first | exact fun _ => Or.inl rfl | exact fun _ => Or.inr (Or.inl rfl) | exact fun _ => Or.inr (Or.inr rfl)) rfl) rfl) (rss_nil rfl))))
    (rss_nil rfl))
    (rss_cons (rs_set (tc := []) F 5 (re_mod (re_intc F B (re_mul (re_add F (re_ixo F 0 rfl rfl (by first | exact fun _ => Or.inl rfl | exact fun _ => Or.inr (Or.inl rfl) | exact fun _ => Or.inr (Or.inr rfl)) re_int (fun _ _ => rfl)) re_int) re_int) (fun _ => rfl) (fun _ => rfl) (fun _ => rfl)) re_int) rfl (by first | exact fun _ => Or.inl rfl | exact fun _ => Or.inr rfl) rfl (by first | exact fun _ => Or.inr rfl | exact fun _ => Or.inl rfl) (fun _ => rfl))
    (rss_cons (rs_set (tc := []) F 6 (re_mod (re_intc F B (re_mul (re_mod (re_intc F B (re_mul (re_var F 5 rfl (by first | exact fun _ => Or.inl rfl | exact fun _ => Or.inr (Or.inl rfl) | exact fun _ => Or.inr (Or.inr rfl)) rfl) (re_var F 5 rfl (by first | exact fun _ => Or.inl rfl | exact fun _ => Or.inr (Or.inl rfl) | exact fun _ => Or.inr (Or.inr rfl)) rfl)) (fun _ => rfl) (fun _ => rfl) (fun _ => rfl)) re_int) re_int) (fun _ => rfl) (fun _ => rfl) (fun _ => rfl)) re_int) rfl (by first | exact fun _ => Or.inl rfl | exact fun _ => Or.inr rfl) rfl (by first | exact fun _ => Or.inr rfl | exact fun _ => Or.inl rfl) (fun _ => rfl))
    (rss_cons (ow1 := [0]) (rs_ret (tc := []) (re_mod (re_intc F B (re_fdiv (re_var F 6 rfl (by first | exact fun _ => Or.inl rfl | exact fun _ => Or.inr (Or.inl rfl) | exact fun _ => Or.inr (Or.inr rfl)) rfl) re_int) (fun _ => rfl) (fun _ => rfl) (fun _ => rfl)) (re_var F 1 rfl (by first | exact fun _ => Or.inl rfl | exact fun _ => Or.inr (Or.inl rfl) | exact fun _ => Or.inr (Or.inr rfl)) rfl)) rfl) (rss_nil rfl))))))
abbrev s__law_common : Stmt := topS 16
abbrev n__law_common : List Str := ["_law_one", "_law_other"]
theorem N__law_common : n__law_common.Nodup := by decide +kernel
theorem sc__law_common : FnScope n__law_common ["_law_one", "_law_other"] (defScope s__law_common) := ⟨rfl, rfl, rfl, N__law_common, rfl, by decide +kernel, by decide +kernel⟩
noncomputable def S__law_common : XS :=
    seqS (parS 0 1 (consA (clE (g1 absD) (consA (varE 0) nilA)) (consA (clE (g1 absD) (consA (varE 1) nilA)) (nilA))))
    (seqS (whileS (fuN 1) (tE (opE gtI (varE 1) (cE (.int 0))))
    (seqS (parS 0 1 (consA (varE 1) (consA (opE modD (clE (g1 intD) (consA (varE 0) nilA)) (varE 1)) (nilA))))
    (nopS)))
    (seqS (retS (varE 0)) (nopS)))
noncomputable def F__law_common : List D → Option D := runP 0 S__law_common
theorem w__law_common {C : Ct} (B : Blt C.mg) (hf : FnHere C "_law_common" (defArgs s__law_common) (defBody s__law_common) (defScope s__law_common)) : Fn C "_law_common" 1 ["_law_one", "_law_other"] (spP C.K 2 F__law_common) :=
  fnP (k := 0) (ow2 := []) hf sc__law_common 0 rfl (fun _ _ _ _ _ _ us hl => match us, hl with | [_, _], _ => rfl) fun _ _ _ _ _ _ _ F =>
    (rss_cons (rs_par (tc := []) F 0 1 (ra_cons (re_abs F B (re_var F 0 rfl (by first | exact fun _ => Or.inl rfl | exact fun _ => Or.inr (Or.inl rfl) | exact fun _ => Or.inr (Or.inr rfl)) rfl) (fun _ => rfl) (fun _ => rfl) (fun _ => rfl)) (ra_cons (re_abs F B (re_var F 1 rfl (by first | exact fun _ => Or.inl rfl | exact fun _ => Or.inr (Or.inl rfl) | exact fun _ => Or.inr (Or.inr rfl)) rfl) (fun _ => rfl) (fun _ => rfl) (fun _ => rfl)) ra_nil (fun _ => rfl)) (fun _ => rfl)) rfl rfl (by decide) rfl rfl (fun _ => rfl) (fun _ => rfl) (fun _ => rfl) (fun _ => rfl))
    (rss_cons (rs_while (tc := []) (fuN 1) (rt_gt  (re_var F 1 rfl (by first | exact fun _ => Or.inl rfl | exact fun _ => Or.inr (Or.inl rfl) | exact fun _ => Or.inr (Or.inr rfl)) rfl) re_int)
    (rss_cons (rs_par (tc := []) F 0 1 (ra_cons (re_var F 1 rfl (by first | exact fun _ => Or.inl rfl | exact fun _ => Or.inr (Or.inl rfl) | exact fun _ => Or.inr (Or.inr rfl)) rfl) (ra_cons (re_mod (re_intc F B (re_var F 0 rfl (by first | exact fun _ => Or.inl rfl | exact fun _ => Or.inr (Or.inl rfl) | exact fun _ => Or.inr (Or.inr rfl)) rfl) (fun _ => rfl) (fun _ => rfl) (fun _ => rfl)) (re_var F 1 rfl (by first | exact fun _ => Or.inl rfl | exact fun _ => Or.inr (Or.inl rfl) | exact fun _ => Or.inr (Or.inr rfl)) rfl)) ra_nil (fun _ => rfl)) (fun _ => rfl)) rfl rfl (by decide) rfl rfl (fun _ => rfl) (fun _ => rfl) (fun _ => rfl) (fun _ => rfl))
    (rss_nil rfl))
    (fun _ => PassesOwn.never))
    (rss_cons (ow1 := []) (rs_ret (tc := []) (re_var F 0 rfl (by first | exact fun _ => Or.inl rfl | exact fun _ => Or.inr (Or.inl rfl) | exact fun _ => Or.inr (Or.inr rfl)) rfl) rfl) (rss_nil rfl))))
abbrev s__law_reduced : Stmt := topS 17
abbrev n__law_reduced : List Str := ["_law_n", "_law_d", "_law_shared"]
theorem N__law_reduced : n__law_reduced.Nodup := by decide +kernel
theorem sc__law_reduced : FnScope n__law_reduced ["_law_n", "_law_d"] (defScope s__law_reduced) := ⟨rfl, rfl, rfl, N__law_reduced, rfl, by decide +kernel, by decide +kernel⟩
noncomputable def S__law_reduced : XS :=
    seqS (setS 2 (clE max2G (consA (cE (.int 1)) (consA (clE F__law_common (consA (varE 0) (consA (varE 1) (nilA)))) nilA))))
    (seqS (ifS (tE (opE ltD (varE 1) (cE (.int 0))))
    (seqS (retS (tupE (consA (opE fdivD (unE negD (varE 0)) (varE 2)) (consA (opE fdivD (unE negD (varE 1)) (varE 2)) (nilA))))) (nopS))
    (nopS))
    (seqS (retS (tupE (consA (opE fdivD (varE 0) (varE 2)) (consA (opE fdivD (varE 1) (varE 2)) (nilA))))) (nopS)))
noncomputable def F__law_reduced : List D → Option D := runP 1 S__law_reduced
theorem w__law_reduced {C : Ct} (B : Blt C.mg) (h__law_common : Fn C "_law_common" 1 ["_law_one", "_law_other"] (spP C.K 2 F__law_common)) (hf : FnHere C "_law_reduced" (defArgs s__law_reduced) (defBody s__law_reduced) (defScope s__law_reduced)) : Fn C "_law_reduced" 2 ["_law_n", "_law_d"] (spP C.K 2 F__law_reduced) :=
  fnP (k := 1) (ow2 := []) hf sc__law_reduced 1 rfl (fun _ _ _ _ _ _ us hl => match us, hl with | [_, _], _ => rfl) fun _ _ _ _ _ _ _ F =>
    (rss_cons (rs_set (tc := []) F 2 (re_max2 F B re_int (re_callP F h__law_common (by omega) rfl (fun _ => rfl) (ra_cons (re_var F 0 rfl (by first | exact fun _ => Or.inl rfl | exact fun _ => Or.inr (Or.inl rfl) | exact fun _ => Or.inr (Or.inr rfl)) rfl) (ra_cons (re_var F 1 rfl (by first | exact fun _ => Or.inl rfl | exact fun _ => Or.inr (Or.inl rfl) | exact fun _ => Or.inr (Or.inr rfl)) rfl) ra_nil (fun _ => rfl)) (fun _ => rfl)) (fun _ => rfl) (fun _ => rfl)) (fun _ => rfl) (fun _ => rfl) (fun _ => rfl) (fun _ => rfl)) rfl (by first | exact fun _ => Or.inl rfl | exact fun _ => Or.inr rfl) rfl (by first | exact fun _ => Or.inr rfl | exact fun _ => Or.inl rfl) (fun _ => rfl))
    (rss_cons (rs_if (tc := []) (ow2 := []) (rt_lt  (re_var F 1 rfl (by first | exact fun _ => Or.inl rfl | exact fun _ => Or.inr (Or.inl rfl) | exact fun _ => Or.inr (Or.inr rfl)) rfl) re_int)
    (rss_cons (ow1 := []) (rs_ret (tc := []) (re_tup (ra_cons (re_fdiv (re_neg (re_var F 0 rfl (by first | exact fun _ => Or.inl rfl | exact fun _ => Or.inr (Or.inl rfl) | exact fun _ => Or.inr (Or.inr rfl)) rfl)) (re_var F 2 rfl (by first | exact fun _ => Or.inl rfl | exact fun _ => Or.inr (Or.inl rfl) | exact fun _ => Or.inr (Or.inr rfl)) rfl)) (ra_cons (re_fdiv (re_neg (re_var F 1 rfl (by first | exact fun _ => Or.inl rfl | exact fun _ => Or.inr (Or.inl rfl) | exact fun _ => Or.inr (Or.inr rfl)) rfl)) (re_var F 2 rfl (by first | exact fun _ => Or.inl rfl | exact fun _ => Or.inr (Or.inl rfl) | exact fun _ => Or.inr (Or.inr rfl)) rfl)) ra_nil (fun _ => rfl)) (fun _ => rfl))) rfl) (rss_nil rfl))
    (rss_nil rfl))
    (rss_cons (ow1 := []) (rs_ret (tc := []) (re_tup (ra_cons (re_fdiv (re_var F 0 rfl (by first | exact fun _ => Or.inl rfl | exact fun _ => Or.inr (Or.inl rfl) | exact fun _ => Or.inr (Or.inr rfl)) rfl) (re_var F 2 rfl (by first | exact fun _ => Or.inl rfl | exact fun _ => Or.inr (Or.inl rfl) | exact fun _ => Or.inr (Or.inr rfl)) rfl)) (ra_cons (re_fdiv (re_var F 1 rfl (by first | exact fun _ => Or.inl rfl | exact fun _ => Or.inr (Or.inl rfl) | exact fun _ => Or.inr (Or.inr rfl)) rfl) (re_var F 2 rfl (by first | exact fun _ => Or.inl rfl | exact fun _ => Or.inr (Or.inl rfl) | exact fun _ => Or.inr (Or.inr rfl)) rfl)) ra_nil (fun _ => rfl)) (fun _ => rfl))) rfl) (rss_nil rfl))))
abbrev s__law_some : Stmt := topS 18
abbrev n__law_some : List Str := ["_law_bag_here", "_law_things"]
theorem N__law_some : n__law_some.Nodup := by decide +kernel
theorem sc__law_some : FnScope n__law_some ["_law_bag_here", "_law_things"] (defScope s__law_some) := ⟨rfl, rfl, rfl, N__law_some, rfl, by decide +kernel, by decide +kernel⟩
noncomputable def S__law_some : XS :=
    seqS (retS (opE ixD (varE 1) (callB F__law_take 0 (consA (clE (g1 lenD) (consA (varE 1) nilA)) (nilA))))) (nopS)
noncomputable def F__law_some : D → List D → Option (D × D) := runB 0 S__law_some
theorem w__law_some {C : Ct} (B : Blt C.mg) (h__law_take : Fn C "_law_take" 1 ["_law_bag_here", "_law_many"] (spB C.K 2 F__law_take)) (hf : FnHere C "_law_some" (defArgs s__law_some) (defBody s__law_some) (defScope s__law_some)) : Fn C "_law_some" 2 ["_law_bag_here", "_law_things"] (spB C.K 2 F__law_some) :=
  fnB (k := 1) hf sc__law_some 0 rfl (fun _ _ _ _ _ _ us hl => match us, hl with | [_, _], _ => rfl) fun _ _ _ _ _ _ _ F =>
    (rss_cons (ow1 := [0]) (rs_ret (tc := [0]) (re_ix F (re_var F 1 rfl (by first | exact fun _ => Or.inl rfl | exact fun _ => Or.inr (Or.inl rfl) | exact fun _ => Or.inr (Or.inr rfl)) rfl) (re_callB_ F h__law_take (by omega) 0 rfl rfl rfl (by first | exact fun _ => Or.inl rfl | exact fun _ => Or.inr (Or.inl rfl) | exact fun _ => Or.inr (Or.inr rfl)) rfl (fun _ => rfl) (ra_cons (re_len F B (re_var F 1 rfl (by first | exact fun _ => Or.inl rfl | exact fun _ => Or.inr (Or.inl rfl) | exact fun _ => Or.inr (Or.inr rfl)) rfl) (fun _ => rfl) (fun _ => rfl) (fun _ => rfl)) ra_nil (fun _ => rfl)) (fun _ => rfl) (fun _ => rfl)) (fun _ _ => rfl)) rfl) (rss_nil rfl))
abbrev s__law_number : Stmt := topS 19
abbrev n__law_number : List Str := ["_law_bag_here", "_law_most", "_law_way"]
theorem N__law_number : n__law_number.Nodup := by decide +kernel
theorem sc__law_number : FnScope n__law_number ["_law_bag_here", "_law_most"] (defScope s__law_number) := ⟨rfl, rfl, rfl, N__law_number, rfl, by decide +kernel, by decide +kernel⟩
noncomputable def S__law_number : XS :=
    seqS (setS 2 (callB F__law_take 0 (consA (cE (.int 12)) (nilA))))
    (seqS (ifS (tE (opE eqD (varE 2) (cE (.int 0))))
    (seqS (retS (clE F__law_reduced (consA (opE addD (cE (.int 1)) (callB F__law_take 0 (consA (opE mulD (cE (.int 3)) (varE 1)) (nilA)))) (consA (callB F__law_some 0 (consA (lstE (consA (cE (.int 2)) (consA (cE (.int 3)) (consA (cE (.int 7)) (nilA))))) (nilA))) (nilA))))) (nopS))
    (nopS))
    (seqS (ifS (tE (opE eqD (varE 2) (cE (.int 1))))
    (seqS (retS (callB F__law_some 0 (consA (lstE (consA (tupE (consA (cE (.int 1000)) (consA (cE (.int 1)) (nilA)))) (consA (tupE (consA (cE (.int 1)) (consA (cE (.int 1000)) (nilA)))) (consA (tupE (consA (cE (.int 999999999999)) (consA (cE (.int 1)) (nilA)))) (consA (tupE (consA (cE (.int 1)) (consA (cE (.int 12)) (nilA)))) (consA (tupE (consA (cE (.int 12345)) (consA (cE (.int 67)) (nilA)))) (nilA))))))) (nilA)))) (nopS))
    (nopS))
    (seqS (retS (tupE (consA (opE addD (cE (.int 1)) (callB F__law_take 0 (consA (varE 1) (nilA)))) (consA (cE (.int 1)) (nilA))))) (nopS))))
noncomputable def F__law_number : D → List D → Option (D × D) := runB 1 S__law_number
theorem w__law_number {C : Ct} (B : Blt C.mg) (h__law_take : Fn C "_law_take" 1 ["_law_bag_here", "_law_many"] (spB C.K 2 F__law_take)) (h__law_reduced : Fn C "_law_reduced" 2 ["_law_n", "_law_d"] (spP C.K 2 F__law_reduced)) (h__law_some : Fn C "_law_some" 2 ["_law_bag_here", "_law_things"] (spB C.K 2 F__law_some)) (hf : FnHere C "_law_number" (defArgs s__law_number) (defBody s__law_number) (defScope s__law_number)) : Fn C "_law_number" 3 ["_law_bag_here", "_law_most"] (spB C.K 2 F__law_number) :=
  fnB (k := 2) hf sc__law_number 1 rfl (fun _ _ _ _ _ _ us hl => match us, hl with | [_, _], _ => rfl) fun _ _ _ _ _ _ _ F =>
    (rss_cons (rs_set (tc := [0]) F 2 (re_callB_ F h__law_take (by omega) 0 rfl rfl rfl (by first | exact fun _ => Or.inl rfl | exact fun _ => Or.inr (Or.inl rfl) | exact fun _ => Or.inr (Or.inr rfl)) rfl (fun _ => rfl) (ra_cons re_int ra_nil (fun _ => rfl)) (fun _ => rfl) (fun _ => rfl)) rfl (by first | exact fun _ => Or.inl rfl | exact fun _ => Or.inr rfl) rfl (by first | exact fun _ => Or.inr rfl | exact fun _ => Or.inl rfl) (fun _ => rfl))
    (rss_cons (rs_if (tc := []) (ow2 := [0]) (rt_eq F (re_var F 2 rfl (by first | exact fun _ => Or.inl rfl | exact fun _ => Or.inr (Or.inl rfl) | exact fun _ => Or.inr (Or.inr rfl)) rfl) re_int)
    (rss_cons (ow1 := [0]) (rs_ret (tc := [0]) (re_callP F h__law_reduced (by omega) rfl (fun _ => rfl) (ra_cons (re_add F re_int (re_callB_ F h__law_take (by omega) 0 rfl rfl rfl (by first | exact fun _ => Or.inl rfl | exact fun _ => Or.inr (Or.inl rfl) | exact fun _ => Or.inr (Or.inr rfl)) rfl (fun _ => rfl) (ra_cons (re_mul re_int (re_var F 1 rfl (by first | exact fun _ => Or.inl rfl | exact fun _ => Or.inr (Or.inl rfl) | exact fun _ => Or.inr (Or.inr rfl)) rfl)) ra_nil (fun _ => rfl)) (fun _ => rfl) (fun _ => rfl))) (ra_cons (re_callB_ F h__law_some (by omega) 0 rfl rfl rfl (by first | exact fun _ => Or.inl rfl | exact fun _ => Or.inr (Or.inl rfl) | exact fun _ => Or.inr (Or.inr rfl)) rfl (fun _ => rfl) (ra_cons (RF.re (rf_lst (ra_cons re_int (ra_cons re_int (ra_cons re_int ra_nil (fun _ => rfl)) (fun _ => rfl)) (fun _ => rfl)))) ra_nil (fun _ => rfl)) (fun _ => rfl) (fun _ => rfl)) ra_nil (fun _ => rfl)) (fun _ => rfl)) (fun _ => rfl) (fun _ => rfl)) rfl) (rss_nil rfl))
    (rss_nil rfl))
    (rss_cons (rs_if (tc := []) (ow2 := [0]) (rt_eq F (re_var F 2 rfl (by first | exact fun _ => Or.inl rfl | exact fun _ => Or.inr (Or.inl rfl) | exact fun _ => Or.inr (Or.inr rfl)) rfl) re_int)
    (rss_cons (ow1 := [0]) (rs_ret (tc := [0]) (re_callB_ F h__law_some (by omega) 0 rfl rfl rfl (by first | exact fun _ => Or.inl rfl | exact fun _ => Or.inr (Or.inl rfl) | exact fun _ => Or.inr (Or.inr rfl)) rfl (fun _ => rfl) (ra_cons (RF.re (rf_lst (ra_cons (re_tup (ra_cons re_int (ra_cons re_int ra_nil (fun _ => rfl)) (fun _ => rfl))) (ra_cons (re_tup (ra_cons re_int (ra_cons re_int ra_nil (fun _ => rfl)) (fun _ => rfl))) (ra_cons (re_tup (ra_cons re_int (ra_cons re_int ra_nil (fun _ => rfl)) (fun _ => rfl))) (ra_cons (re_tup (ra_cons re_int (ra_cons re_int ra_nil (fun _ => rfl)) (fun _ => rfl))) (ra_cons (re_tup (ra_cons re_int (ra_cons re_int ra_nil (fun _ => rfl)) (fun _ => rfl))) ra_nil (fun _ => rfl)) (fun _ => rfl)) (fun _ => rfl)) (fun _ => rfl)) (fun _ => rfl)))) ra_nil (fun _ => rfl)) (fun _ => rfl) (fun _ => rfl)) rfl) (rss_nil rfl))
    (rss_nil rfl))
    (rss_cons (ow1 := [0]) (rs_ret (tc := [0]) (re_tup (ra_cons (re_add F re_int (re_callB_ F h__law_take (by omega) 0 rfl rfl rfl (by first | exact fun _ => Or.inl rfl | exact fun _ => Or.inr (Or.inl rfl) | exact fun _ => Or.inr (Or.inr rfl)) rfl (fun _ => rfl) (ra_cons (re_var F 1 rfl (by first | exact fun _ => Or.inl rfl | exact fun _ => Or.inr (Or.inl rfl) | exact fun _ => Or.inr (Or.inr rfl)) rfl) ra_nil (fun _ => rfl)) (fun _ => rfl) (fun _ => rfl))) (ra_cons re_int ra_nil (fun _ => rfl)) (fun _ => rfl))) rfl) (rss_nil rfl)))))
abbrev s__law_mixed : Stmt := topS 20
abbrev n__law_mixed : List Str := ["_law_bag_here", "_law_things", "_law_found", "_law_thing"]
theorem N__law_mixed : n__law_mixed.Nodup := by decide +kernel
theorem sc__law_mixed : FnScope n__law_mixed ["_law_bag_here", "_law_things"] (defScope s__law_mixed) := ⟨rfl, rfl, rfl, N__law_mixed, rfl, by decide +kernel, by decide +kernel⟩
noncomputable def S__law_mixed : XS :=
    seqS (ownS 2 (lstE (nilA)))
    (seqS (forS (itE (varE 1)) (nameG 3)
    (seqS (insS 2 (callB F__law_take 0 (consA (opE addD (borE (clE (g1 lenD) (consA (varE 2) nilA))) (cE (.int 1))) (nilA))) (varE 3))
    (killS [3])))
    (seqS (retOS 2) (nopS)))
noncomputable def F__law_mixed : D → List D → Option (D × D) := runBF 2 S__law_mixed
theorem w__law_mixed {C : Ct} (B : Blt C.mg) (h__law_take : Fn C "_law_take" 1 ["_law_bag_here", "_law_many"] (spB C.K 2 F__law_take)) (hf : FnHere C "_law_mixed" (defArgs s__law_mixed) (defBody s__law_mixed) (defScope s__law_mixed)) : Fn C "_law_mixed" 2 ["_law_bag_here", "_law_things"] (spBF C.K 2 F__law_mixed) :=
  fnBF (k := 1) hf sc__law_mixed 2 rfl (fun _ _ _ _ _ _ us hl => match us, hl with | [_, _], _ => rfl) fun _ _ _ _ _ _ _ F =>
    (rss_cons (rs_own (tc := []) F 2 (rf_lst ra_nil) rfl (by first | exact fun _ => Or.inl rfl | exact fun _ => Or.inr rfl) rfl (fun _ => fun h => ps_set (i := 2) N__law_mixed rfl (by first | exact Or.inl rfl | exact Or.inr rfl) h) rfl)
    (rss_cons (rs_for (tc := []) F (ri_val F (re_var F 1 rfl (by first | exact fun _ => Or.inl rfl | exact fun _ => Or.inr (Or.inl rfl) | exact fun _ => Or.inr (Or.inr rfl)) rfl)) (rg_name F 3 rfl (by first | exact fun _ => Or.inl rfl | exact fun _ => Or.inr rfl) rfl (by first | exact fun _ => Or.inr rfl | exact fun _ => Or.inl rfl))
    (rss_cons (rs_insert (tc := [0]) F 2 (re_callB_ F h__law_take (by omega) 0 rfl rfl rfl (by first | exact fun _ => Or.inl rfl | exact fun _ => Or.inr (Or.inl rfl) | exact fun _ => Or.inr (Or.inr rfl)) rfl (fun _ => rfl) (ra_cons (re_add F (re_bor (ow1 := [0]) (re_len F B (re_var F 2 rfl (by first | exact fun _ => Or.inl rfl | exact fun _ => Or.inr (Or.inl rfl) | exact fun _ => Or.inr (Or.inr rfl)) rfl) (fun _ => rfl) (fun _ => rfl) (fun _ => rfl)) rfl) re_int) ra_nil (fun _ => rfl)) (fun _ => rfl) (fun _ => rfl)) (re_var F 3 rfl (by first | exact fun _ => Or.inl rfl | exact fun _ => Or.inr (Or.inl rfl) | exact fun _ => Or.inr (Or.inr rfl)) rfl) rfl rfl (by first | exact fun _ => Or.inl rfl | exact fun _ => Or.inr (Or.inl rfl) | exact fun _ => Or.inr (Or.inr rfl)) (fun _ => fun a b c => pe_bm PySem.F.plainAttrs_list PySem.F.slot_list_insert PySem.F.type_list_insert mt_insert a (pa_cons b (pa_cons c pa_nil))) (fun _ => rfl))
    (rss_kill [3] rfl rfl))
    (fun _ => PassesOwn.never) (fun _ _ => rfl))
    (rss_cons (ow1 := [0, 2]) (rs_retO F 2 rfl (by first | exact fun _ => Or.inl rfl | exact fun _ => Or.inr (Or.inl rfl) | exact fun _ => Or.inr (Or.inr rfl)) rfl rfl rfl) (rss_nil rfl))))
abbrev s__law_bag : Stmt := topS 21
abbrev n__law_bag : List Str := ["_law_script", "_law_cell"]
theorem N__law_bag : n__law_bag.Nodup := by decide +kernel
theorem sc__law_bag : FnScope n__law_bag ["_law_script"] (defScope s__law_bag) := ⟨rfl, rfl, rfl, N__law_bag, rfl, by decide +kernel, by decide +kernel⟩
noncomputable def S__law_bag : XS :=
    seqS (retS (lstE (consA (cE (.int 0)) (consA (cE (.int 1234567891)) (consA (cE (.int 0)) (consA (compE (itE (slE (varE 0) (noO) (someO (cE (.int 63))))) [1] (nameG 1) (yesT) (clE (g1 absD) (consA (varE 1) nilA))) (nilA))))))) (nopS)
noncomputable def F__law_bag : List D → Option D := runPF 1 S__law_bag
theorem w__law_bag {C : Ct} (B : Blt C.mg) (hf : FnHere C "_law_bag" (defArgs s__law_bag) (defBody s__law_bag) (defScope s__law_bag)) : Fn C "_law_bag" 1 ["_law_script"] (spPF C.K 1 F__law_bag) :=
  fnPF (k := 0) (ow2 := []) hf sc__law_bag 1 rfl (fun _ _ _ _ _ _ us hl => match us, hl with | [_], _ => rfl) fun _ _ _ _ _ _ _ F =>
    (rss_cons (ow1 := []) (rs_retF (tc := []) (rf_lst (ra_cons re_int (ra_cons re_int (ra_cons re_int (ra_cons (RF.re (rf_lc F (ri_val F (re_slice F (re_var F 0 rfl (by first | exact fun _ => Or.inl rfl | exact fun _ => Or.inr (Or.inl rfl) | exact fun _ => Or.inr (Or.inr rfl)) rfl) ro_none (ro_some re_int))) (fun _ => blkOk_by (by first | decide +kernel | kernel_rfl)) (rg_name (Fam.blk F _) 1 rfl (by first | exact fun _ => Or.inl rfl | exact fun _ => Or.inr rfl) rfl (by first | exact fun _ => Or.inr rfl | exact fun _ => Or.inl rfl)) rq_nil (re_abs (Fam.blk F _) B (re_var (Fam.blk F _) 1 rfl (by first | exact fun _ => Or.inl rfl | exact fun _ => Or.inr (Or.inl rfl) | exact fun _ => Or.inr (Or.inr rfl)) rfl) (fun _ => rfl) (fun _ => rfl) (fun _ => rfl)) (fun _ _ => rfl) rfl rfl (ownL := [("_law_cell", 1)]))) ra_nil (fun _ => rfl)) (fun _ => rfl)) (fun _ => rfl)) (fun _ => rfl))) rfl) (rss_nil rfl))
abbrev s__law_alike : Stmt := topS 22
abbrev n__law_alike : List Str := ["_law_found", "_law_due"]
theorem N__law_alike : n__law_alike.Nodup := by decide +kernel
theorem sc__law_alike : FnScope n__law_alike ["_law_found", "_law_due"] (defScope s__law_alike) := ⟨rfl, rfl, rfl, N__law_alike, rfl, by decide +kernel, by decide +kernel⟩
noncomputable def S__law_alike : XS :=
    seqS (retS (ifE (tE (opE eqD (varE 0) (varE 1))) (opE eqD (clE (g1 reprD) (consA (varE 0) nilA)) (clE (g1 reprD) (consA (varE 1) nilA))) (cE (.bool false)))) (nopS)
noncomputable def F__law_alike : List D → Option D := runP 0 S__law_alike
theorem w__law_alike {C : Ct} (B : Blt C.mg) (hf : FnHere C "_law_alike" (defArgs s__law_alike) (defBody s__law_alike) (defScope s__law_alike)) : Fn C "_law_alike" 1 ["_law_found", "_law_due"] (spP C.K 2 F__law_alike) :=
  fnP (k := 0) (ow2 := []) hf sc__law_alike 0 rfl (fun _ _ _ _ _ _ us hl => match us, hl with | [_, _], _ => rfl) fun _ _ _ _ _ _ _ F =>
    (rss_cons (ow1 := []) (rs_ret (tc := []) (re_and (re_eq F (re_var F 0 rfl (by first | exact fun _ => Or.inl rfl | exact fun _ => Or.inr (Or.inl rfl) | exact fun _ => Or.inr (Or.inr rfl)) rfl) (re_var F 1 rfl (by first | exact fun _ => Or.inl rfl | exact fun _ => Or.inr (Or.inl rfl) | exact fun _ => Or.inr (Or.inr rfl)) rfl)) (re_one (re_eq F (re_repr F B (re_var F 0 rfl (by first | exact fun _ => Or.inl rfl | exact fun _ => Or.inr (Or.inl rfl) | exact fun _ => Or.inr (Or.inr rfl)) rfl) (fun _ => rfl) (fun _ => rfl) (fun _ => rfl)) (re_repr F B (re_var F 1 rfl (by first | exact fun _ => Or.inl rfl | exact fun _ => Or.inr (Or.inl rfl) | exact fun _ => Or.inr (Or.inr rfl)) rfl) (fun _ => rfl) (fun _ => rfl) (fun _ => rfl))))) rfl) (rss_nil rfl))
abbrev s__law_added : Stmt := topS 23
abbrev n__law_added : List Str := ["_law_one", "_law_other"]
theorem N__law_added : n__law_added.Nodup := by decide +kernel
theorem sc__law_added : FnScope n__law_added ["_law_one", "_law_other"] (defScope s__law_added) := ⟨rfl, rfl, rfl, N__law_added, rfl, by decide +kernel, by decide +kernel⟩
noncomputable def S__law_added : XS :=
    seqS (retS (clE F__law_reduced (consA (opE addD (opE mulD (opE ixD (varE 0) (cE (.int 0))) (opE ixD (varE 1) (cE (.int 1)))) (opE mulD (opE ixD (varE 1) (cE (.int 0))) (opE ixD (varE 0) (cE (.int 1))))) (consA (opE mulD (opE ixD (varE 0) (cE (.int 1))) (opE ixD (varE 1) (cE (.int 1)))) (nilA))))) (nopS)
noncomputable def F__law_added : List D → Option D := runP 0 S__law_added
theorem w__law_added {C : Ct} (B : Blt C.mg) (h__law_reduced : Fn C "_law_reduced" 2 ["_law_n", "_law_d"] (spP C.K 2 F__law_reduced)) (hf : FnHere C "_law_added" (defArgs s__law_added) (defBody s__law_added) (defScope s__law_added)) : Fn C "_law_added" 3 ["_law_one", "_law_other"] (spP C.K 2 F__law_added) :=
  fnP (k := 2) (ow2 := []) hf sc__law_added 0 rfl (fun _ _ _ _ _ _ us hl => match us, hl with | [_, _], _ => rfl) fun _ _ _ _ _ _ _ F =>
    (rss_cons (ow1 := []) (rs_ret (tc := []) (re_callP F h__law_reduced (by omega) rfl (fun _ => rfl) (ra_cons (re_add F (re_mul (re_ix F (re_var F 0 rfl (by first | exact fun _ => Or.inl rfl | exact fun _ => Or.inr (Or.inl rfl) | exact fun _ => Or.inr (Or.inr rfl)) rfl) re_int (fun _ _ => rfl)) (re_ix F (re_var F 1 rfl (by first | exact fun _ => Or.inl rfl | exact fun _ => Or.inr (Or.inl rfl) | exact fun _ => Or.inr (Or.inr rfl)) rfl) re_int (fun _ _ => rfl))) (re_mul (re_ix F (re_var F 1 rfl (by first | exact fun _ => Or.inl rfl | exact fun _ => Or.inr (Or.inl rfl) | exact fun _ => Or.inr (Or.inr rfl)) rfl) re_int (fun _ _ => rfl)) (re_ix F (re_var F 0 rfl (by first | exact fun _ => Or.inl rfl | exact fun _ => Or.inr (Or.inl rfl) | exact fun _ => Or.inr (Or.inr rfl)) rfl) re_int (fun _ _ => rfl)))) (ra_cons (re_mul (re_ix F (re_var F 0 rfl (by first | exact fun _ => Or.inl rfl | exact fun _ => Or.inr (Or.inl rfl) | exact fun _ => Or.inr (Or.inr rfl)) rfl) re_int (fun _ _ => rfl)) (re_ix F (re_var F 1 rfl (by first | exact fun _ => Or.inl rfl | exact fun _ => Or.inr (Or.inl rfl) | exact fun _ => Or.inr (Or.inr rfl)) rfl) re_int (fun _ _ => rfl))) ra_nil (fun _ => rfl)) (fun _ => rfl)) (fun _ => rfl) (fun _ => rfl)) rfl) (rss_nil rfl))
abbrev s__law_lessened : Stmt := topS 24
abbrev n__law_lessened : List Str := ["_law_one", "_law_other"]
theorem N__law_lessened : n__law_lessened.Nodup := by decide +kernel
theorem sc__law_lessened : FnScope n__law_lessened ["_law_one", "_law_other"] (defScope s__law_lessened) := ⟨rfl, rfl, rfl, N__law_lessened, rfl, by decide +kernel, by decide +kernel⟩
noncomputable def S__law_lessened : XS :=
    seqS (retS (clE F__law_reduced (consA (opE subD (opE mulD (opE ixD (varE 0) (cE (.int 0))) (opE ixD (varE 1) (cE (.int 1)))) (opE mulD (opE ixD (varE 1) (cE (.int 0))) (opE ixD (varE 0) (cE (.int 1))))) (consA (opE mulD (opE ixD (varE 0) (cE (.int 1))) (opE ixD (varE 1) (cE (.int 1)))) (nilA))))) (nopS)
noncomputable def F__law_lessened : List D → Option D := runP 0 S__law_lessened
theorem w__law_lessened {C : Ct} (B : Blt C.mg) (h__law_reduced : Fn C "_law_reduced" 2 ["_law_n", "_law_d"] (spP C.K 2 F__law_reduced)) (hf : FnHere C "_law_lessened" (defArgs s__law_lessened) (defBody s__law_lessened) (defScope s__law_lessened)) : Fn C "_law_lessened" 3 ["_law_one", "_law_other"] (spP C.K 2 F__law_lessened) :=
  fnP (k := 2) (ow2 := []) hf sc__law_lessened 0 rfl (fun _ _ _ _ _ _ us hl => match us, hl with | [_, _], _ => rfl) fun _ _ _ _ _ _ _ F =>
    (rss_cons (ow1 := []) (rs_ret (tc := []) (re_callP F h__law_reduced (by omega) rfl (fun _ => rfl) (ra_cons (re_sub (re_mul (re_ix F (re_var F 0 rfl (by first | exact fun _ => Or.inl rfl | exact fun _ => Or.inr (Or.inl rfl) | exact fun _ => Or.inr (Or.inr rfl)) rfl) re_int (fun _ _ => rfl)) (re_ix F (re_var F 1 rfl (by first | exact fun _ => Or.inl rfl | exact fun _ => Or.inr (Or.inl rfl) | exact fun _ => Or.inr (Or.inr rfl)) rfl) re_int (fun _ _ => rfl))) (re_mul (re_ix F (re_var F 1 rfl (by first | exact fun _ => Or.inl rfl | exact fun _ => Or.inr (Or.inl rfl) | exact fun _ => Or.inr (Or.inr rfl)) rfl) re_int (fun _ _ => rfl)) (re_ix F (re_var F 0 rfl (by first | exact fun _ => Or.inl rfl | exact fun _ => Or.inr (Or.inl rfl) | exact fun _ => Or.inr (Or.inr rfl)) rfl) re_int (fun _ _ => rfl)))) (ra_cons (re_mul (re_ix F (re_var F 0 rfl (by first | exact fun _ => Or.inl rfl | exact fun _ => Or.inr (Or.inl rfl) | exact fun _ => Or.inr (Or.inr rfl)) rfl) re_int (fun _ _ => rfl)) (re_ix F (re_var F 1 rfl (by first | exact fun _ => Or.inl rfl | exact fun _ => Or.inr (Or.inl rfl) | exact fun _ => Or.inr (Or.inr rfl)) rfl) re_int (fun _ _ => rfl))) ra_nil (fun _ => rfl)) (fun _ => rfl)) (fun _ => rfl) (fun _ => rfl)) rfl) (rss_nil rfl))
abbrev s__law_multiplied : Stmt := topS 25
abbrev n__law_multiplied : List Str := ["_law_one", "_law_other"]
theorem N__law_multiplied : n__law_multiplied.Nodup := by decide +kernel
theorem sc__law_multiplied : FnScope n__law_multiplied ["_law_one", "_law_other"] (defScope s__law_multiplied) := ⟨rfl, rfl, rfl, N__law_multiplied, rfl, by decide +kernel, by decide +kernel⟩
noncomputable def S__law_multiplied : XS :=
    seqS (retS (clE F__law_reduced (consA (opE mulD (opE ixD (varE 0) (cE (.int 0))) (opE ixD (varE 1) (cE (.int 0)))) (consA (opE mulD (opE ixD (varE 0) (cE (.int 1))) (opE ixD (varE 1) (cE (.int 1)))) (nilA))))) (nopS)
noncomputable def F__law_multiplied : List D → Option D := runP 0 S__law_multiplied
theorem w__law_multiplied {C : Ct} (B : Blt C.mg) (h__law_reduced : Fn C "_law_reduced" 2 ["_law_n", "_law_d"] (spP C.K 2 F__law_reduced)) (hf : FnHere C "_law_multiplied" (defArgs s__law_multiplied) (defBody s__law_multiplied) (defScope s__law_multiplied)) : Fn C "_law_multiplied" 3 ["_law_one", "_law_other"] (spP C.K 2 F__law_multiplied) :=
  fnP (k := 2) (ow2 := []) hf sc__law_multiplied 0 rfl (fun _ _ _ _ _ _ us hl => match us, hl with | [_, _], _ => rfl) fun _ _ _ _ _ _ _ F =>
    (rss_cons (ow1 := []) (rs_ret (tc := []) (re_callP F h__law_reduced (by omega) rfl (fun _ => rfl) (ra_cons (re_mul (re_ix F (re_var F 0 rfl (by first | exact fun _ => Or.inl rfl | exact fun _ => Or.inr (Or.inl rfl) | exact fun _ => Or.inr (Or.inr rfl)) rfl) re_int (fun _ _ => rfl)) (re_ix F (re_var F 1 rfl (by first | exact fun _ => Or.inl rfl | exact fun _ => Or.inr (Or.inl rfl) | exact fun _ => Or.inr (Or.inr rfl)) rfl) re_int (fun _ _ => rfl))) (ra_cons (re_mul (re_ix F (re_var F 0 rfl (by first | exact fun _ => Or.inl rfl | exact fun _ => Or.inr (Or.inl rfl) | exact fun _ => Or.inr (Or.inr rfl)) rfl) re_int (fun _ _ => rfl)) (re_ix F (re_var F 1 rfl (by first | exact fun _ => Or.inl rfl | exact fun _ => Or.inr (Or.inl rfl) | exact fun _ => Or.inr (Or.inr rfl)) rfl) re_int (fun _ _ => rfl))) ra_nil (fun _ => rfl)) (fun _ => rfl)) (fun _ => rfl) (fun _ => rfl)) rfl) (rss_nil rfl))
abbrev s__law_is_below : Stmt := topS 26
abbrev n__law_is_below : List Str := ["_law_one", "_law_other"]
theorem N__law_is_below : n__law_is_below.Nodup := by decide +kernel
theorem sc__law_is_below : FnScope n__law_is_below ["_law_one", "_law_other"] (defScope s__law_is_below) := ⟨rfl, rfl, rfl, N__law_is_below, rfl, by decide +kernel, by decide +kernel⟩
noncomputable def S__law_is_below : XS :=
    seqS (retS (opE ltD (opE mulD (opE ixD (varE 0) (cE (.int 0))) (opE ixD (varE 1) (cE (.int 1)))) (opE mulD (opE ixD (varE 1) (cE (.int 0))) (opE ixD (varE 0) (cE (.int 1)))))) (nopS)
noncomputable def F__law_is_below : List D → Option D := runP 0 S__law_is_below
theorem w__law_is_below {C : Ct} (B : Blt C.mg) (hf : FnHere C "_law_is_below" (defArgs s__law_is_below) (defBody s__law_is_below) (defScope s__law_is_below)) : Fn C "_law_is_below" 1 ["_law_one", "_law_other"] (spP C.K 2 F__law_is_below) :=
  fnP (k := 0) (ow2 := []) hf sc__law_is_below 0 rfl (fun _ _ _ _ _ _ us hl => match us, hl with | [_, _], _ => rfl) fun _ _ _ _ _ _ _ F =>
    (rss_cons (ow1 := []) (rs_ret (tc := []) (re_lt  (re_mul (re_ix F (re_var F 0 rfl (by first | exact fun _ => Or.inl rfl | exact fun _ => Or.inr (Or.inl rfl) | exact fun _ => Or.inr (Or.inr rfl)) rfl) re_int (fun _ _ => rfl)) (re_ix F (re_var F 1 rfl (by first | exact fun _ => Or.inl rfl | exact fun _ => Or.inr (Or.inl rfl) | exact fun _ => Or.inr (Or.inr rfl)) rfl) re_int (fun _ _ => rfl))) (re_mul (re_ix F (re_var F 1 rfl (by first | exact fun _ => Or.inl rfl | exact fun _ => Or.inr (Or.inl rfl) | exact fun _ => Or.inr (Or.inr rfl)) rfl) re_int (fun _ _ => rfl)) (re_ix F (re_var F 0 rfl (by first | exact fun _ => Or.inl rfl | exact fun _ => Or.inr (Or.inl rfl) | exact fun _ => Or.inr (Or.inr rfl)) rfl) re_int (fun _ _ => rfl)))) rfl) (rss_nil rfl))
abbrev s__law_divided : Stmt := topS 27
abbrev n__law_divided : List Str := ["_law_one", "_law_other"]
theorem N__law_divided : n__law_divided.Nodup := by decide +kernel
theorem sc__law_divided : FnScope n__law_divided ["_law_one", "_law_other"] (defScope s__law_divided) := ⟨rfl, rfl, rfl, N__law_divided, rfl, by decide +kernel, by decide +kernel⟩
noncomputable def S__law_divided : XS :=
    seqS (retS (clE F__law_reduced (consA (opE mulD (opE ixD (varE 0) (cE (.int 0))) (opE ixD (varE 1) (cE (.int 1)))) (consA (opE mulD (opE ixD (varE 0) (cE (.int 1))) (opE ixD (varE 1) (cE (.int 0)))) (nilA))))) (nopS)
noncomputable def F__law_divided : List D → Option D := runP 0 S__law_divided
theorem w__law_divided {C : Ct} (B : Blt C.mg) (h__law_reduced : Fn C "_law_reduced" 2 ["_law_n", "_law_d"] (spP C.K 2 F__law_reduced)) (hf : FnHere C "_law_divided" (defArgs s__law_divided) (defBody s__law_divided) (defScope s__law_divided)) : Fn C "_law_divided" 3 ["_law_one", "_law_other"] (spP C.K 2 F__law_divided) :=
  fnP (k := 2) (ow2 := []) hf sc__law_divided 0 rfl (fun _ _ _ _ _ _ us hl => match us, hl with | [_, _], _ => rfl) fun _ _ _ _ _ _ _ F =>
    (rss_cons (ow1 := []) (rs_ret (tc := []) (re_callP F h__law_reduced (by omega) rfl (fun _ => rfl) (ra_cons (re_mul (re_ix F (re_var F 0 rfl (by first | exact fun _ => Or.inl rfl | exact fun _ => Or.inr (Or.inl rfl) | exact fun _ => Or.inr (Or.inr rfl)) rfl) re_int (fun _ _ => rfl)) (re_ix F (re_var F 1 rfl (by first | exact fun _ => Or.inl rfl | exact fun _ => Or.inr (Or.inl rfl) | exact fun _ => Or.inr (Or.inr rfl)) rfl) re_int (fun _ _ => rfl))) (ra_cons (re_mul (re_ix F (re_var F 0 rfl (by first | exact fun _ => Or.inl rfl | exact fun _ => Or.inr (Or.inl rfl) | exact fun _ => Or.inr (Or.inr rfl)) rfl) re_int (fun _ _ => rfl)) (re_ix F (re_var F 1 rfl (by first | exact fun _ => Or.inl rfl | exact fun _ => Or.inr (Or.inl rfl) | exact fun _ => Or.inr (Or.inr rfl)) rfl) re_int (fun _ _ => rfl))) ra_nil (fun _ => rfl)) (fun _ => rfl)) (fun _ => rfl) (fun _ => rfl)) rfl) (rss_nil rfl))
abbrev s__law_total : Stmt := topS 28
abbrev n__law_total : List Str := ["_law_fractions", "_law_found", "_law_one"]
theorem N__law_total : n__law_total.Nodup := by decide +kernel
theorem sc__law_total : FnScope n__law_total ["_law_fractions"] (defScope s__law_total) := ⟨rfl, rfl, rfl, N__law_total, rfl, by decide +kernel, by decide +kernel⟩
noncomputable def S__law_total : XS :=
    seqS (setS 1 (tupE (consA (cE (.int 0)) (consA (cE (.int 1)) (nilA)))))
    (seqS (forS (itE (varE 0)) (nameG 2)
    (seqS (setS 1 (clE F__law_added (consA (varE 1) (consA (varE 2) (nilA)))))
    (killS [2])))
    (seqS (retS (varE 1)) (nopS)))
noncomputable def F__law_total : List D → Option D := runP 2 S__law_total
theorem w__law_total {C : Ct} (B : Blt C.mg) (h__law_added : Fn C "_law_added" 3 ["_law_one", "_law_other"] (spP C.K 2 F__law_added)) (hf : FnHere C "_law_total" (defArgs s__law_total) (defBody s__law_total) (defScope s__law_total)) : Fn C "_law_total" 4 ["_law_fractions"] (spP C.K 1 F__law_total) :=
  fnP (k := 3) (ow2 := []) hf sc__law_total 2 rfl (fun _ _ _ _ _ _ us hl => match us, hl with | [_], _ => rfl) fun _ _ _ _ _ _ _ F =>
    (rss_cons (rs_set (tc := []) F 1 (re_tup (ra_cons re_int (ra_cons re_int ra_nil (fun _ => rfl)) (fun _ => rfl))) rfl (by first | exact fun _ => Or.inl rfl | exact fun _ => Or.inr rfl) rfl (by first | exact fun _ => Or.inr rfl | exact fun _ => Or.inl rfl) (fun _ => rfl))
    (rss_cons (rs_for (tc := []) F (ri_val F (re_var F 0 rfl (by first | exact fun _ => Or.inl rfl | exact fun _ => Or.inr (Or.inl rfl) | exact fun _ => Or.inr (Or.inr rfl)) rfl)) (rg_name F 2 rfl (by first | exact fun _ => Or.inl rfl | exact fun _ => Or.inr rfl) rfl (by first | exact fun _ => Or.inr rfl | exact fun _ => Or.inl rfl))
    (rss_cons (rs_set (tc := []) F 1 (re_callP F h__law_added (by omega) rfl (fun _ => rfl) (ra_cons (re_var F 1 rfl (by first | exact fun _ => Or.inl rfl | exact fun _ => Or.inr (Or.inl rfl) | exact fun _ => Or.inr (Or.inr rfl)) rfl) (ra_cons (re_var F 2 rfl (by first | exact fun _ => Or.inl rfl | exact fun _ => Or.inr (Or.inl rfl) | exact fun _ => Or.inr (Or.inr rfl)) rfl) ra_nil (fun _ => rfl)) (fun _ => rfl)) (fun _ => rfl) (fun _ => rfl)) rfl (by first | exact fun _ => Or.inl rfl | exact fun _ => Or.inr rfl) rfl (by first | exact fun _ => Or.inr rfl | exact fun _ => Or.inl rfl) (fun _ => rfl))
    (rss_kill [2] rfl rfl))
    (fun _ => PassesOwn.never) (fun _ _ => rfl))
    (rss_cons (ow1 := []) (rs_ret (tc := []) (re_var F 1 rfl (by first | exact fun _ => Or.inl rfl | exact fun _ => Or.inr (Or.inl rfl) | exact fun _ => Or.inr (Or.inr rfl)) rfl) rfl) (rss_nil rfl))))
abbrev s__law_ascending : Stmt := topS 29
abbrev n__law_ascending : List Str := ["_law_fractions", "_law_found", "_law_one", "_law_at", "_law_other"]
theorem N__law_ascending : n__law_ascending.Nodup := by decide +kernel
theorem sc__law_ascending : FnScope n__law_ascending ["_law_fractions"] (defScope s__law_ascending) := ⟨rfl, rfl, rfl, N__law_ascending, rfl, by decide +kernel, by decide +kernel⟩
noncomputable def S__law_ascending : XS :=
    seqS (ownS 1 (lstE (nilA)))
    (seqS (forS (itE (varE 0)) (nameG 2)
    (seqS (setS 3 (clE (g1 lenD) (consA (borF (compE (itE (varE 1)) [4] (nameG 4) (tE (clE F__law_is_below (consA (varE 4) (consA (varE 2) (nilA))))) (cE (.int 1)))) nilA)))
    (seqS (ifS (orT (tE (opE eqD (varE 3) (borE (clE (g1 lenD) (consA (varE 1) nilA))))) (tE (opE neD (ixoE 1 (varE 3)) (varE 2))))
    (seqS (insS 1 (varE 3) (varE 2))
    (nopS))
    (nopS))
    (killS [2, 3]))))
    (seqS (retOS 1) (nopS)))
noncomputable def F__law_ascending : List D → Option D := runPF 4 S__law_ascending
theorem w__law_ascending {C : Ct} (B : Blt C.mg) (h__law_is_below : Fn C "_law_is_below" 1 ["_law_one", "_law_other"] (spP C.K 2 F__law_is_below)) (hf : FnHere C "_law_ascending" (defArgs s__law_ascending) (defBody s__law_ascending) (defScope s__law_ascending)) : Fn C "_law_ascending" 2 ["_law_fractions"] (spPF C.K 1 F__law_ascending) :=
  fnPF (k := 1) (ow2 := []) hf sc__law_ascending 4 rfl (fun _ _ _ _ _ _ us hl => match us, hl with | [_], _ => rfl) fun _ _ _ _ _ _ _ F =>
    (rss_cons (rs_own (tc := []) F 1 (rf_lst ra_nil) rfl (by first | exact fun _ => Or.inl rfl | exact fun _ => Or.inr rfl) rfl (fun _ => fun h => ps_set (i := 1) N__law_ascending rfl (by first | exact Or.inl rfl | exact Or.inr rfl) h) rfl)
    (rss_cons (rs_for (tc := []) F (ri_val F (re_var F 0 rfl (by first | exact fun _ => Or.inl rfl | exact fun _ => Or.inr (Or.inl rfl) | exact fun _ => Or.inr (Or.inr rfl)) rfl)) (rg_name F 2 rfl (by first | exact fun _ => Or.inl rfl | exact fun _ => Or.inr rfl) rfl (by first | exact fun _ => Or.inr rfl | exact fun _ => Or.inl rfl))
    (rss_cons (rs_set (tc := []) F 3 (re_len F B (RF.re (rf_bor (ow1 := []) (rf_lc F (ri_val F (re_var F 1 rfl (by first | exact fun _ => Or.inl rfl | exact fun _ => Or.inr (Or.inl rfl) | exact fun _ => Or.inr (Or.inr rfl)) rfl)) (fun _ => blkOk_by (by first | decide +kernel | kernel_rfl)) (rg_name (Fam.blk F _) 4 rfl (by first | exact fun _ => Or.inl rfl | exact fun _ => Or.inr rfl) rfl (by first | exact fun _ => Or.inr rfl | exact fun _ => Or.inl rfl)) (rq_one (rt_val (re_callP (Fam.blk F _) h__law_is_below (by omega) rfl (fun _ => rfl) (ra_cons (re_var (Fam.blk F _) 4 rfl (by first | exact fun _ => Or.inl rfl | exact fun _ => Or.inr (Or.inl rfl) | exact fun _ => Or.inr (Or.inr rfl)) rfl) (ra_cons (re_var (Fam.blk F _) 2 rfl (by first | exact fun _ => Or.inl rfl | exact fun _ => Or.inr (Or.inl rfl) | exact fun _ => Or.inr (Or.inr rfl)) rfl) ra_nil (fun _ => rfl)) (fun _ => rfl)) (fun _ => rfl) (fun _ => rfl)) (fun _ _ => rfl))) re_int (fun _ _ => rfl) rfl rfl (ownL := [("_law_other", 4)])) rfl)) (fun _ => rfl) (fun _ => rfl) (fun _ => rfl)) rfl (by first | exact fun _ => Or.inl rfl | exact fun _ => Or.inr rfl) rfl (by first | exact fun _ => Or.inr rfl | exact fun _ => Or.inl rfl) (fun _ => rfl))
    (rss_cons (rs_if (tc := []) (ow2 := [1]) (rt_w (rw_or (rt_eq F (re_var F 3 rfl (by first | exact fun _ => Or.inl rfl | exact fun _ => Or.inr (Or.inl rfl) | exact fun _ => Or.inr (Or.inr rfl)) rfl) (re_bor (ow1 := []) (re_len F B (re_var F 1 rfl (by first | exact fun _ => Or.inl rfl | exact fun _ => Or.inr (Or.inl rfl) | exact fun _ => Or.inr (Or.inr rfl)) rfl) (fun _ => rfl) (fun _ => rfl) (fun _ => rfl)) rfl)) (rw_or1 (rt_ne F (re_ixo F 1 rfl rfl (by first | exact fun _ => Or.inl rfl | exact fun _ => Or.inr (Or.inl rfl) | exact fun _ => Or.inr (Or.inr rfl)) (re_var F 3 rfl (by first | exact fun _ => Or.inl rfl | exact fun _ => Or.inr (Or.inl rfl) | exact fun _ => Or.inr (Or.inr rfl)) rfl) (fun _ _ => rfl)) (re_var F 2 rfl (by first | exact fun _ => Or.inl rfl | exact fun _ => Or.inr (Or.inl rfl) | exact fun _ => Or.inr (Or.inr rfl)) rfl)))))
    (rss_cons (rs_insert (tc := []) F 1 (re_var F 3 rfl (by first | exact fun _ => Or.inl rfl | exact fun _ => Or.inr (Or.inl rfl) | exact fun _ => Or.inr (Or.inr rfl)) rfl) (re_var F 2 rfl (by first | exact fun _ => Or.inl rfl | exact fun _ => Or.inr (Or.inl rfl) | exact fun _ => Or.inr (Or.inr rfl)) rfl) rfl rfl (by first | exact fun _ => Or.inl rfl | exact fun _ => Or.inr (Or.inl rfl) | exact fun _ => Or.inr (Or.inr rfl)) (fun _ => fun a b c => pe_bm PySem.F.plainAttrs_list PySem.F.slot_list_insert PySem.F.type_list_insert mt_insert a (pa_cons b (pa_cons c pa_nil))) (fun _ => rfl))
    (rss_nil rfl))
    (rss_nil rfl))
    (rss_kill [2, 3] rfl rfl)))
    (fun _ => PassesOwn.never) (fun _ _ => rfl))
    (rss_cons (ow1 := [1]) (rs_retO F 1 rfl (by first | exact fun _ => Or.inl rfl | exact fun _ => Or.inr (Or.inl rfl) | exact fun _ => Or.inr (Or.inr rfl)) rfl rfl rfl) (rss_nil rfl))))
abbrev s__law_any_fraction : Stmt := topS 30
abbrev n__law_any_fraction : List Str := ["_law_bag_here", "_law_one"]
theorem N__law_any_fraction : n__law_any_fraction.Nodup := by decide +kernel
theorem sc__law_any_fraction : FnScope n__law_any_fraction ["_law_bag_here"] (defScope s__law_any_fraction) := ⟨rfl, rfl, rfl, N__law_any_fraction, rfl, by decide +kernel, by decide +kernel⟩
noncomputable def S__law_any_fraction : XS :=
    seqS (setS 1 (callB F__law_number 0 (consA (cE (.int 20)) (nilA))))
    (seqS (ifS (tE (opE eqD (callB F__law_take 0 (consA (cE (.int 6)) (nilA))) (cE (.int 0))))
    (seqS (setS 1 (clE F__law_reduced (consA (opE subD (opE powD (cE (.int 10)) (cE (.int 12))) (callB F__law_take 0 (consA (cE (.int 999)) (nilA)))) (consA (opE addD (cE (.int 1)) (callB F__law_take 0 (consA (opE powD (cE (.int 10)) (cE (.int 9))) (nilA)))) (nilA)))))
    (nopS))
    (nopS))
    (seqS (ifS (tE (opE eqD (callB F__law_take 0 (consA (cE (.int 8)) (nilA))) (cE (.int 0))))
    (seqS (retS (tupE (consA (cE (.int 0)) (consA (cE (.int 1)) (nilA))))) (nopS))
    (nopS))
    (seqS (retS (ifE (tE (opE eqD (callB F__law_take 0 (consA (cE (.int 3)) (nilA))) (cE (.int 0)))) (tupE (consA (unE negD (opE ixD (varE 1) (cE (.int 0)))) (consA (opE ixD (varE 1) (cE (.int 1))) (nilA)))) (varE 1))) (nopS))))
noncomputable def F__law_any_fraction : D → List D → Option (D × D) := runB 1 S__law_any_fraction
theorem w__law_any_fraction {C : Ct} (B : Blt C.mg) (h__law_number : Fn C "_law_number" 3 ["_law_bag_here", "_law_most"] (spB C.K 2 F__law_number)) (h__law_take : Fn C "_law_take" 1 ["_law_bag_here", "_law_many"] (spB C.K 2 F__law_take)) (h__law_reduced : Fn C "_law_reduced" 2 ["_law_n", "_law_d"] (spP C.K 2 F__law_reduced)) (hf : FnHere C "_law_any_fraction" (defArgs s__law_any_fraction) (defBody s__law_any_fraction) (defScope s__law_any_fraction)) : Fn C "_law_any_fraction" 4 ["_law_bag_here"] (spB C.K 1 F__law_any_fraction) :=
  fnB (k := 3) hf sc__law_any_fraction 1 rfl (fun _ _ _ _ _ _ us hl => match us, hl with | [_], _ => rfl) fun _ _ _ _ _ _ _ F =>
    (rss_cons (rs_set (tc := [0]) F 1 (re_callB_ F h__law_number (by omega) 0 rfl rfl rfl (by first | exact fun _ => Or.inl rfl | exact fun _ => Or.inr (Or.inl rfl) | exact fun _ => Or.inr (Or.inr rfl)) rfl (fun _ => rfl) (ra_cons re_int ra_nil (fun _ => rfl)) (fun _ => rfl) (fun _ => rfl)) rfl (by first | exact fun _ => Or.inl rfl | exact fun _ => Or.inr rfl) rfl (by first | exact fun _ => Or.inr rfl | exact fun _ => Or.inl rfl) (fun _ => rfl))
    (rss_cons (rs_if (tc := [0]) (ow2 := [0]) (rt_eq F (re_callB_ F h__law_take (by omega) 0 rfl rfl rfl (by first | exact fun _ => Or.inl rfl | exact fun _ => Or.inr (Or.inl rfl) | exact fun _ => Or.inr (Or.inr rfl)) rfl (fun _ => rfl) (ra_cons re_int ra_nil (fun _ => rfl)) (fun _ => rfl) (fun _ => rfl)) re_int)
    (rss_cons (rs_set (tc := [0]) F 1 (re_callP F h__law_reduced (by omega) rfl (fun _ => rfl) (ra_cons (re_sub (re_pow re_int re_int) (re_callB_ F h__law_take (by omega) 0 rfl rfl rfl (by first | exact fun _ => Or.inl rfl | exact fun _ => Or.inr (Or.inl rfl) | exact fun _ => Or.inr (Or.inr rfl)) rfl (fun _ => rfl) (ra_cons re_int ra_nil (fun _ => rfl)) (fun _ => rfl) (fun _ => rfl))) (ra_cons (re_add F re_int (re_callB_ F h__law_take (by omega) 0 rfl rfl rfl (by first | exact fun _ => Or.inl rfl | exact fun _ => Or.inr (Or.inl rfl) | exact fun _ => Or.inr (Or.inr rfl)) rfl (fun _ => rfl) (ra_cons (re_pow re_int re_int) ra_nil (fun _ => rfl)) (fun _ => rfl) (fun _ => rfl))) ra_nil (fun _ => rfl)) (fun _ => rfl)) (fun _ => rfl) (fun _ => rfl)) rfl (by first | exact fun _ => Or.inl rfl | exact fun _ => Or.inr rfl) rfl (by first | exact fun _ => Or.inr rfl | exact fun _ => Or.inl rfl) (fun _ => rfl))
    (rss_nil rfl))
    (rss_nil rfl))
    (rss_cons (rs_if (tc := [0]) (ow2 := [0]) (rt_eq F (re_callB_ F h__law_take (by omega) 0 rfl rfl rfl (by first | exact fun _ => Or.inl rfl | exact fun _ => Or.inr (Or.inl rfl) | exact fun _ => Or.inr (Or.inr rfl)) rfl (fun _ => rfl) (ra_cons re_int ra_nil (fun _ => rfl)) (fun _ => rfl) (fun _ => rfl)) re_int)
    (rss_cons (ow1 := [0]) (rs_ret (tc := []) (re_tup (ra_cons re_int (ra_cons re_int ra_nil (fun _ => rfl)) (fun _ => rfl))) rfl) (rss_nil rfl))
    (rss_nil rfl))
    (rss_cons (ow1 := [0]) (rs_ret (tc := [0]) (re_if (rt_eq F (re_callB_ F h__law_take (by omega) 0 rfl rfl rfl (by first | exact fun _ => Or.inl rfl | exact fun _ => Or.inr (Or.inl rfl) | exact fun _ => Or.inr (Or.inr rfl)) rfl (fun _ => rfl) (ra_cons re_int ra_nil (fun _ => rfl)) (fun _ => rfl) (fun _ => rfl)) re_int) (re_tup (ra_cons (re_neg (re_ix F (re_var F 1 rfl (by first | exact fun _ => Or.inl rfl | exact fun _ => Or.inr (Or.inl rfl) | exact fun _ => Or.inr (Or.inr rfl)) rfl) re_int (fun _ _ => rfl))) (ra_cons (re_ix F (re_var F 1 rfl (by first | exact fun _ => Or.inl rfl | exact fun _ => Or.inr (Or.inl rfl) | exact fun _ => Or.inr (Or.inr rfl)) rfl) re_int (fun _ _ => rfl)) ra_nil (fun _ => rfl)) (fun _ => rfl))) (re_var F 1 rfl (by first | exact fun _ => Or.inl rfl | exact fun _ => Or.inr (Or.inl rfl) | exact fun _ => Or.inr (Or.inr rfl)) rfl)) rfl) (rss_nil rfl)))))
abbrev s__law_text : Stmt := topS 31
abbrev n__law_text : List Str := ["_law_one"]
theorem N__law_text : n__law_text.Nodup := by decide +kernel
theorem sc__law_text : FnScope n__law_text ["_law_one"] (defScope s__law_text) := ⟨rfl, rfl, rfl, N__law_text, rfl, by decide +kernel, by decide +kernel⟩
noncomputable def S__law_text : XS :=
    seqS (retS (opE addD (clE (g1 strD) (consA (opE ixD (varE 0) (cE (.int 0))) nilA)) (ifE (tE (opE neD (opE ixD (varE 0) (cE (.int 1))) (cE (.int 1)))) (opE addD (cE (.str "/")) (clE (g1 strD) (consA (opE ixD (varE 0) (cE (.int 1))) nilA))) (cE (.str ""))))) (nopS)
noncomputable def F__law_text : List D → Option D := runP 0 S__law_text
theorem w__law_text {C : Ct} (B : Blt C.mg) (hf : FnHere C "_law_text" (defArgs s__law_text) (defBody s__law_text) (defScope s__law_text)) : Fn C "_law_text" 1 ["_law_one"] (spP C.K 1 F__law_text) :=
  fnP (k := 0) (ow2 := []) hf sc__law_text 0 rfl (fun _ _ _ _ _ _ us hl => match us, hl with | [_], _ => rfl) fun _ _ _ _ _ _ _ F =>
    (rss_cons (ow1 := []) (rs_ret (tc := []) (re_add F (re_strc F B (re_ix F (re_var F 0 rfl (by first | exact fun _ => Or.inl rfl | exact fun _ => Or.inr (Or.inl rfl) | exact fun _ => Or.inr (Or.inr rfl)) rfl) re_int (fun _ _ => rfl)) (fun _ => rfl) (fun _ => rfl) (fun _ => rfl)) (re_if (rt_ne F (re_ix F (re_var F 0 rfl (by first | exact fun _ => Or.inl rfl | exact fun _ => Or.inr (Or.inl rfl) | exact fun _ => Or.inr (Or.inr rfl)) rfl) re_int (fun _ _ => rfl)) re_int) (re_add F re_str (re_strc F B (re_ix F (re_var F 0 rfl (by first | exact fun _ => Or.inl rfl | exact fun _ => Or.inr (Or.inl rfl) | exact fun _ => Or.inr (Or.inr rfl)) rfl) re_int (fun _ _ => rfl)) (fun _ => rfl) (fun _ => rfl) (fun _ => rfl))) re_str)) rfl) (rss_nil rfl))
abbrev s__law_in_text : Stmt := topS 32
abbrev n__law_in_text : List Str := ["_law_text_here", "_law_parts", "_law_digits", "_law_n", "_law_d", "_law_at", "_law_part", "_law_sign"]
theorem N__law_in_text : n__law_in_text.Nodup := by decide +kernel
theorem sc__law_in_text : FnScope n__law_in_text ["_law_text_here"] (defScope s__law_in_text) := ⟨rfl, rfl, rfl, N__law_in_text, rfl, by decide +kernel, by decide +kernel⟩
noncomputable def S__law_in_text : XS :=
    seqS (setS 1 (opE splitD (varE 0) (cE (.str "/"))))
    (seqS (setS 2 (compE (enumE (consA (varE 1) (nilA))) [5, 6] (tupG (consG (nameG 5) (consG (nameG 6) (nilG)))) (yesT) (ifE (andT (tE (opE eqD (varE 5) (cE (.int 0)))) (tE (opE eqD (slE (varE 6) (noO) (someO (cE (.int 1)))) (cE (.str "-"))))) (slE (varE 6) (someO (cE (.int 1))) (noO)) (varE 6))))
    (seqS (ifS (orT (tE (opE gtI (clE (g1 lenD) (consA (varE 1) nilA)) (cE (.int 2)))) (tE (opE neD (compE (itE (varE 2)) [6] (nameG 6) (orT (tE (opE eqD (varE 6) (cE (.str "")))) (orT (tE (opE gtI (clE (g1 lenD) (consA (varE 6) nilA)) (cE (.int 40)))) (tE (opE neD (compE (itE (varE 6)) [7] (nameG 7) (tE (opE notInD (varE 7) (cE (.str "0123456789")))) (varE 7)) (lstE (nilA)))))) (varE 6)) (lstE (nilA)))))
    (seqS (retS (cE .none)) (nopS))
    (nopS))
    (seqS (parS 3 4 (consA (clE (g1 intD) (consA (opE ixD (varE 1) (cE (.int 0))) nilA)) (consA (ifE (tE (opE gtI (clE (g1 lenD) (consA (varE 1) nilA)) (cE (.int 1)))) (clE (g1 intD) (consA (opE ixD (varE 1) (cE (.int 1))) nilA)) (cE (.int 1))) (nilA))))
    (seqS (ifS (orT (tE (opE eqD (varE 4) (cE (.int 0)))) (andT (tE (opE gtI (clE (g1 lenD) (consA (varE 1) nilA)) (cE (.int 1)))) (tE (opE eqD (varE 4) (cE (.int 1))))))
    (seqS (retS (cE .none)) (nopS))
    (nopS))
    (seqS (retS (ifE (andT (tE (opE eqD (clE F__law_common (consA (varE 3) (consA (varE 4) (nilA)))) (cE (.int 1)))) (tE (opE eqD (clE F__law_text (consA (tupE (consA (varE 3) (consA (varE 4) (nilA)))) (nilA))) (varE 0)))) (tupE (consA (varE 3) (consA (varE 4) (nilA)))) (cE .none))) (nopS))))))
noncomputable def F__law_in_text : List D → Option D := runP 7 S__law_in_text
theorem w__law_in_text {C : Ct} (B : Blt C.mg) (h__law_common : Fn C "_law_common" 1 ["_law_one", "_law_other"] (spP C.K 2 F__law_common)) (h__law_text : Fn C "_law_text" 1 ["_law_one"] (spP C.K 1 F__law_text)) (hf : FnHere C "_law_in_text" (defArgs s__law_in_text) (defBody s__law_in_text) (defScope s__law_in_text)) : Fn C "_law_in_text" 2 ["_law_text_here"] (spP C.K 1 F__law_in_text) :=
  fnP (k := 1) (ow2 := []) hf sc__law_in_text 7 rfl (fun _ _ _ _ _ _ us hl => match us, hl with | [_], _ => rfl) fun _ _ _ _ _ _ _ F =>
    (rss_cons (rs_set (tc := []) F 1 (RF.re (rf_split PyProof.Rows.split_le (re_var F 0 rfl (by first | exact fun _ => Or.inl rfl | exact fun _ => Or.inr (Or.inl rfl) | exact fun _ => Or.inr (Or.inr rfl)) rfl) re_str (fun _ => pe_split))) rfl (by first | exact fun _ => Or.inl rfl | exact fun _ => Or.inr rfl) rfl (by first | exact fun _ => Or.inr rfl | exact fun _ => Or.inl rfl) (fun _ => rfl))
    (rss_cons (rs_setLc (tc := []) F 2 rfl (fun _ => rfl) rfl (fun _ => sw_true rfl rfl rfl (by decide +kernel)) (ri_enum F B.enumerate (fun _ => rfl) (ra_cons (re_var F 1 rfl (by first | exact fun _ => Or.inl rfl | exact fun _ => Or.inr (Or.inl rfl) | exact fun _ => Or.inr (Or.inr rfl)) rfl) ra_nil (fun _ => rfl)) (fun _ => rfl)) (fun _ => blkOk_by (by first | decide +kernel | kernel_rfl)) (rg_tup (Fam.blk F _) (rgs_cons (rg_name (Fam.blk F _) 5 rfl (by first | exact fun _ => Or.inl rfl | exact fun _ => Or.inr rfl) rfl (by first | exact fun _ => Or.inr rfl | exact fun _ => Or.inl rfl)) (rgs_cons (rg_name (Fam.blk F _) 6 rfl (by first | exact fun _ => Or.inl rfl | exact fun _ => Or.inr rfl) rfl (by first | exact fun _ => Or.inr rfl | exact fun _ => Or.inl rfl)) rgs_nil (fun _ => rfl)) (fun _ => rfl)) (fun _ => rfl) (fun _ => rfl)) rq_nil (re_if (rt_w (rw_and (rt_eq (Fam.blk F _) (re_var (Fam.blk F _) 5 rfl (by first | exact fun _ => Or.inl rfl | exact fun _ => Or.inr (Or.inl rfl) | exact fun _ => Or.inr (Or.inr rfl)) rfl) re_int) (rw_and1 (rt_eq (Fam.blk F _) (re_slice (Fam.blk F _) (re_var (Fam.blk F _) 6 rfl (by first | exact fun _ => Or.inl rfl | exact fun _ => Or.inr (Or.inl rfl) | exact fun _ => Or.inr (Or.inr rfl)) rfl) ro_none (ro_some re_int)) re_str)))) (re_slice (Fam.blk F _) (re_var (Fam.blk F _) 6 rfl (by first | exact fun _ => Or.inl rfl | exact fun _ => Or.inr (Or.inl rfl) | exact fun _ => Or.inr (Or.inr rfl)) rfl) (ro_some re_int) ro_none) (re_var (Fam.blk F _) 6 rfl (by first | exact fun _ => Or.inl rfl | exact fun _ => Or.inr (Or.inl rfl) | exact fun _ => Or.inr (Or.inr rfl)) rfl)) (fun _ _ => rfl) rfl rfl (ownL := [("_law_at", 5), ("_law_part", 6)]))
    (rss_cons (rs_if (tc := []) (ow2 := []) (rt_w (rw_or (rt_gt  (re_len F B (re_var F 1 rfl (by first | exact fun _ => Or.inl rfl | exact fun _ => Or.inr (Or.inl rfl) | exact fun _ => Or.inr (Or.inr rfl)) rfl) (fun _ => rfl) (fun _ => rfl) (fun _ => rfl)) re_int) (rw_or1 (rt_ne F (RF.re (rf_lc F (ri_val F (re_var F 2 rfl (by first | exact fun _ => Or.inl rfl | exact fun _ => Or.inr (Or.inl rfl) | exact fun _ => Or.inr (Or.inr rfl)) rfl)) (fun _ => blkOk_by (by first | decide +kernel | kernel_rfl)) (rg_name (Fam.blk F _) 6 rfl (by first | exact fun _ => Or.inl rfl | exact fun _ => Or.inr rfl) rfl (by first | exact fun _ => Or.inr rfl | exact fun _ => Or.inl rfl)) (rq_one (rt_w (rw_or (rt_eq (Fam.blk F _) (re_var (Fam.blk F _) 6 rfl (by first | exact fun _ => Or.inl rfl | exact fun _ => Or.inr (Or.inl rfl) | exact fun _ => Or.inr (Or.inr rfl)) rfl) re_str) (rw_or (rt_gt  (re_len (Fam.blk F _) B (re_var (Fam.blk F _) 6 rfl (by first | exact fun _ => Or.inl rfl | exact fun _ => Or.inr (Or.inl rfl) | exact fun _ => Or.inr (Or.inr rfl)) rfl) (fun _ => rfl) (fun _ => rfl) (fun _ => rfl)) re_int) (rw_or1 (rt_ne (Fam.blk F _) (RF.re (rf_lc (Fam.blk F _) (ri_val (Fam.blk F _) (re_var (Fam.blk F _) 6 rfl (by first | exact fun _ => Or.inl rfl | exact fun _ => Or.inr (Or.inl rfl) | exact fun _ => Or.inr (Or.inr rfl)) rfl)) (fun _ => blkOk_by (by first | decide +kernel | kernel_rfl)) (rg_name (Fam.blk (Fam.blk F _) _) 7 rfl (by first | exact fun _ => Or.inl rfl | exact fun _ => Or.inr rfl) rfl (by first | exact fun _ => Or.inr rfl | exact fun _ => Or.inl rfl)) (rq_one (rt_notIn (Fam.blk (Fam.blk F _) _) (re_var (Fam.blk (Fam.blk F _) _) 7 rfl (by first | exact fun _ => Or.inl rfl | exact fun _ => Or.inr (Or.inl rfl) | exact fun _ => Or.inr (Or.inr rfl)) rfl) re_str rfl)) (re_var (Fam.blk (Fam.blk F _) _) 7 rfl (by first | exact fun _ => Or.inl rfl | exact fun _ => Or.inr (Or.inl rfl) | exact fun _ => Or.inr (Or.inr rfl)) rfl) (fun _ _ => rfl) rfl rfl (ownL := [("_law_sign", 7)]))) (RF.re (rf_lst ra_nil)))))))) (re_var (Fam.blk F _) 6 rfl (by first | exact fun _ => Or.inl rfl | exact fun _ => Or.inr (Or.inl rfl) | exact fun _ => Or.inr (Or.inr rfl)) rfl) (fun _ _ => rfl) rfl rfl (ownL := [("_law_part", 6)]))) (RF.re (rf_lst ra_nil))))))
    (rss_cons (ow1 := []) (rs_ret (tc := []) re_non rfl) (rss_nil rfl))
    (rss_nil rfl))
    (rss_cons (rs_par (tc := []) F 3 4 (ra_cons (re_intc F B (re_ix F (re_var F 1 rfl (by first | exact fun _ => Or.inl rfl | exact fun _ => Or.inr (Or.inl rfl) | exact fun _ => Or.inr (Or.inr rfl)) rfl) re_int (fun _ _ => rfl)) (fun _ => rfl) (fun _ => rfl) (fun _ => rfl)) (ra_cons (re_if (rt_gt  (re_len F B (re_var F 1 rfl (by first | exact fun _ => Or.inl rfl | exact fun _ => Or.inr (Or.inl rfl) | exact fun _ => Or.inr (Or.inr rfl)) rfl) (fun _ => rfl) (fun _ => rfl) (fun _ => rfl)) re_int) (re_intc F B (re_ix F (re_var F 1 rfl (by first | exact fun _ => Or.inl rfl | exact fun _ => Or.inr (Or.inl rfl) | exact fun _ => Or.inr (Or.inr rfl)) rfl) re_int (fun _ _ => rfl)) (fun _ => rfl) (fun _ => rfl) (fun _ => rfl)) re_int) ra_nil (fun _ => rfl)) (fun _ => rfl)) rfl rfl (by decide) rfl rfl (fun _ => rfl) (fun _ => rfl) (fun _ => rfl) (fun _ => rfl))
    (rss_cons (rs_if (tc := []) (ow2 := []) (rt_w (rw_or (rt_eq F (re_var F 4 rfl (by first | exact fun _ => Or.inl rfl | exact fun _ => Or.inr (Or.inl rfl) | exact fun _ => Or.inr (Or.inr rfl)) rfl) re_int) (rw_or1 (rt_w (rw_and (rt_gt  (re_len F B (re_var F 1 rfl (by first | exact fun _ => Or.inl rfl | exact fun _ => Or.inr (Or.inl rfl) | exact fun _ => Or.inr (Or.inr rfl)) rfl) (fun _ => rfl) (fun _ => rfl) (fun _ => rfl)) re_int) (rw_and1 (rt_eq F (re_var F 4 rfl (by first | exact fun _ => Or.inl rfl | exact fun _ => Or.inr (Or.inl rfl) | exact fun _ => Or.inr (Or.inr rfl)) rfl) re_int)))))))
    (rss_cons (ow1 := []) (rs_ret (tc := []) re_non rfl) (rss_nil rfl))
    (rss_nil rfl))
    (rss_cons (ow1 := []) (rs_ret (tc := []) (re_if (rt_w (rw_and (rt_eq F (re_callP F h__law_common (by omega) rfl (fun _ => rfl) (ra_cons (re_var F 3 rfl (by first | exact fun _ => Or.inl rfl | exact fun _ => Or.inr (Or.inl rfl) | exact fun _ => Or.inr (Or.inr rfl)) rfl) (ra_cons (re_var F 4 rfl (by first | exact fun _ => Or.inl rfl | exact fun _ => Or.inr (Or.inl rfl) | exact fun _ => Or.inr (Or.inr rfl)) rfl) ra_nil (fun _ => rfl)) (fun _ => rfl)) (fun _ => rfl) (fun _ => rfl)) re_int) (rw_and1 (rt_eq F (re_callP F h__law_text (by omega) rfl (fun _ => rfl) (ra_cons (re_tup (ra_cons (re_var F 3 rfl (by first | exact fun _ => Or.inl rfl | exact fun _ => Or.inr (Or.inl rfl) | exact fun _ => Or.inr (Or.inr rfl)) rfl) (ra_cons (re_var F 4 rfl (by first | exact fun _ => Or.inl rfl | exact fun _ => Or.inr (Or.inl rfl) | exact fun _ => Or.inr (Or.inr rfl)) rfl) ra_nil (fun _ => rfl)) (fun _ => rfl))) ra_nil (fun _ => rfl)) (fun _ => rfl) (fun _ => rfl)) (re_var F 0 rfl (by first | exact fun _ => Or.inl rfl | exact fun _ => Or.inr (Or.inl rfl) | exact fun _ => Or.inr (Or.inr rfl)) rfl))))) (re_tup (ra_cons (re_var F 3 rfl (by first | exact fun _ => Or.inl rfl | exact fun _ => Or.inr (Or.inl rfl) | exact fun _ => Or.inr (Or.inr rfl)) rfl) (ra_cons (re_var F 4 rfl (by first | exact fun _ => Or.inl rfl | exact fun _ => Or.inr (Or.inl rfl) | exact fun _ => Or.inr (Or.inr rfl)) rfl) ra_nil (fun _ => rfl)) (fun _ => rfl))) re_non) rfl) (rss_nil rfl)))))))
abbrev s__law_texts : Stmt := topS 33
abbrev n__law_texts : List Str := ["_law_bag_here", "_law_one", "_law_text_here", "_law_found"]
theorem N__law_texts : n__law_texts.Nodup := by decide +kernel
theorem sc__law_texts : FnScope n__law_texts ["_law_bag_here", "_law_one"] (defScope s__law_texts) := ⟨rfl, rfl, rfl, N__law_texts, rfl, by decide +kernel, by decide +kernel⟩
noncomputable def S__law_texts : XS :=
    seqS (setS 2 (clE F__law_text (consA (varE 1) (nilA))))
    (seqS (ownS 3 (lstE (consA (varE 2) (consA (opE addD (cE (.str " ")) (varE 2)) (consA (opE addD (varE 2) (cE (.str " "))) (consA (opE addD (cE (.str "+")) (varE 2)) (consA (opE addD (cE (.str "-")) (varE 2)) (consA (opE addD (cE (.str "0")) (varE 2)) (consA (opE addD (varE 2) (cE (.str "/1"))) (consA (opE addD (varE 2) (cE (.str "/0"))) (consA (unE (replD "/" "//") (varE 2)) (nilA))))))))))))
    (seqS (mutS 3 extG (lstE (consA (opE addD (varE 2) (cE (.str "0"))) (consA (cE (.str "")) (consA (cE (.str "/")) (consA (cE (.str "-")) (consA (cE (.str "1/")) (consA (cE (.str "/2")) (consA (cE (.str "-0")) (consA (cE (.str "0/5")) (consA (cE (.str "2/4")) (consA (cE (.str "1_0")) (consA (cE (.str "3\n")) (consA (opE repD (cE (.str "9")) (cE (.int 40))) (consA (opE repD (cE (.str "9")) (cE (.int 41))) (consA (opE addD (cE (.str "1/")) (opE repD (cE (.str "7")) (cE (.int 40)))) (consA (opE addD (cE (.str "1/")) (opE repD (cE (.str "7")) (cE (.int 41)))) (nilA))))))))))))))))))
    (seqS (mutS 3 extG (lstE (consA (opE addD (cE (.str "-")) (opE repD (cE (.str "9")) (cE (.int 40)))) (consA (opE addD (cE (.str "-")) (opE repD (cE (.str "9")) (cE (.int 41)))) (consA (cE (.str "1/02")) (consA (cE (.str "1/-2")) (consA (cE (.str "1/+2")) (consA (cE (.str "1/2_0")) (nilA)))))))))
    (seqS (retS (slE (callB F__law_mixed 0 (consA (varE 3) (nilA))) (noO) (someO (cE (.int 9))))) (nopS)))))
noncomputable def F__law_texts : D → List D → Option (D × D) := runB 2 S__law_texts
theorem w__law_texts {C : Ct} (B : Blt C.mg) (h__law_text : Fn C "_law_text" 1 ["_law_one"] (spP C.K 1 F__law_text)) (h__law_mixed : Fn C "_law_mixed" 2 ["_law_bag_here", "_law_things"] (spBF C.K 2 F__law_mixed)) (hf : FnHere C "_law_texts" (defArgs s__law_texts) (defBody s__law_texts) (defScope s__law_texts)) : Fn C "_law_texts" 3 ["_law_bag_here", "_law_one"] (spB C.K 2 F__law_texts) :=
  fnB (k := 2) hf sc__law_texts 2 rfl (fun _ _ _ _ _ _ us hl => match us, hl with | [_, _], _ => rfl) fun _ _ _ _ _ _ _ F =>
    (rss_cons (rs_set (tc := []) F 2 (re_callP F h__law_text (by omega) rfl (fun _ => rfl) (ra_cons (re_var F 1 rfl (by first | exact fun _ => Or.inl rfl | exact fun _ => Or.inr (Or.inl rfl) | exact fun _ => Or.inr (Or.inr rfl)) rfl) ra_nil (fun _ => rfl)) (fun _ => rfl) (fun _ => rfl)) rfl (by first | exact fun _ => Or.inl rfl | exact fun _ => Or.inr rfl) rfl (by first | exact fun _ => Or.inr rfl | exact fun _ => Or.inl rfl) (fun _ => rfl))
    (rss_cons (rs_own (tc := []) F 3 (rf_lst (ra_cons (re_var F 2 rfl (by first | exact fun _ => Or.inl rfl | exact fun _ => Or.inr (Or.inl rfl) | exact fun _ => Or.inr (Or.inr rfl)) rfl) (ra_tok F (re_var F 2 rfl (by first | exact fun _ => Or.inl rfl | exact fun _ => Or.inr (Or.inl rfl) | exact fun _ => Or.inr (Or.inr rfl)) rfl) (rat_cons (ret_of (re_add F (re_var F 2 rfl (by first | exact fun _ => Or.inl rfl | exact fun _ => Or.inr (Or.inl rfl) | exact fun _ => Or.inr (Or.inr rfl)) rfl) re_str)) (rat_cons (ret_of (re_add F re_str (re_var F 2 rfl (by first | exact fun _ => Or.inl rfl | exact fun _ => Or.inr (Or.inl rfl) | exact fun _ => Or.inr (Or.inr rfl)) rfl))) (rat_cons (ret_of (re_add F re_str (re_var F 2 rfl (by first | exact fun _ => Or.inl rfl | exact fun _ => Or.inr (Or.inl rfl) | exact fun _ => Or.inr (Or.inr rfl)) rfl))) (rat_cons (ret_of (re_add F re_str (re_var F 2 rfl (by first | exact fun _ => Or.inl rfl | exact fun _ => Or.inr (Or.inl rfl) | exact fun _ => Or.inr (Or.inr rfl)) rfl))) (rat_cons (ret_of (re_add F (re_var F 2 rfl (by first | exact fun _ => Or.inl rfl | exact fun _ => Or.inr (Or.inl rfl) | exact fun _ => Or.inr (Or.inr rfl)) rfl) re_str)) (rat_cons (ret_of (re_add F (re_var F 2 rfl (by first | exact fun _ => Or.inl rfl | exact fun _ => Or.inr (Or.inl rfl) | exact fun _ => Or.inr (Or.inr rfl)) rfl) re_str)) (rat_cons (ret_repl (re_var F 2 rfl (by first | exact fun _ => Or.inl rfl | exact fun _ => Or.inr (Or.inl rfl) | exact fun _ => Or.inr (Or.inr rfl)) rfl) (by decide) (fun _ => rfl) (fun _ => rfl) rfl) (rat_of ra_nil) (fun _ => rfl)) (fun _ => rfl)) (fun _ => rfl)) (fun _ => rfl)) (fun _ => rfl)) (fun _ => rfl)) (fun _ => rfl)) (fun _ => rfl)) (fun _ => rfl))) rfl (by first | exact fun _ => Or.inl rfl | exact fun _ => Or.inr rfl) rfl (fun _ => fun h => ps_set (i := 3) N__law_texts rfl (by first | exact Or.inl rfl | exact Or.inr rfl) h) rfl)
    (rss_cons (rs_extF (tc := []) F 3 (rf_lst (ra_cons (re_add F (re_var F 2 rfl (by first | exact fun _ => Or.inl rfl | exact fun _ => Or.inr (Or.inl rfl) | exact fun _ => Or.inr (Or.inr rfl)) rfl) re_str) (ra_cons re_str (ra_cons re_str (ra_cons re_str (ra_cons re_str (ra_cons re_str (ra_cons re_str (ra_cons re_str (ra_cons re_str (ra_cons re_str (ra_cons re_str (ra_cons (re_rep re_str re_int) (ra_cons (re_rep re_str re_int) (ra_cons (re_add F re_str (re_rep re_str re_int)) (ra_cons (re_add F re_str (re_rep re_str re_int)) ra_nil (fun _ => rfl)) (fun _ => rfl)) (fun _ => rfl)) (fun _ => rfl)) (fun _ => rfl)) (fun _ => rfl)) (fun _ => rfl)) (fun _ => rfl)) (fun _ => rfl)) (fun _ => rfl)) (fun _ => rfl)) (fun _ => rfl)) (fun _ => rfl)) (fun _ => rfl)) (fun _ => rfl))) rfl rfl (by first | exact fun _ => Or.inl rfl | exact fun _ => Or.inr (Or.inl rfl) | exact fun _ => Or.inr (Or.inr rfl)) (fun _ => fun a b => pe_bm PySem.F.plainAttrs_list PySem.F.slot_list_extend PySem.F.type_list_extend mt_extend a (pa_cons b pa_nil)) (fun _ => rfl))
    (rss_cons (rs_extF (tc := []) F 3 (rf_lst (ra_cons (re_add F re_str (re_rep re_str re_int)) (ra_cons (re_add F re_str (re_rep re_str re_int)) (ra_cons re_str (ra_cons re_str (ra_cons re_str (ra_cons re_str ra_nil (fun _ => rfl)) (fun _ => rfl)) (fun _ => rfl)) (fun _ => rfl)) (fun _ => rfl)) (fun _ => rfl))) rfl rfl (by first | exact fun _ => Or.inl rfl | exact fun _ => Or.inr (Or.inl rfl) | exact fun _ => Or.inr (Or.inr rfl)) (fun _ => fun a b => pe_bm PySem.F.plainAttrs_list PySem.F.slot_list_extend PySem.F.type_list_extend mt_extend a (pa_cons b pa_nil)) (fun _ => rfl))
    (rss_weak (ow1 := [0]) (rss_cons (ow1 := [0]) (rs_ret (tc := [0]) (re_slice F (RF.re (rf_callB_ F h__law_mixed (by omega) 0 rfl rfl rfl (by first | exact fun _ => Or.inl rfl | exact fun _ => Or.inr (Or.inl rfl) | exact fun _ => Or.inr (Or.inr rfl)) rfl (fun _ => rfl) (ra_cons (re_var F 3 rfl (by first | exact fun _ => Or.inl rfl | exact fun _ => Or.inr (Or.inl rfl) | exact fun _ => Or.inr (Or.inr rfl)) rfl) ra_nil (fun _ => rfl)) (fun _ => rfl) (fun _ => rfl))) ro_none (ro_some re_int)) rfl) (rss_nil rfl)) rfl)))))
abbrev s_law : Stmt := topS 34
abbrev n_law : List Str := ["_law_script", "_law_bag_here", "_law_great", "_law_near", "_law_far", "_law_turn", "_law_one", "_law_other", "_law_factor", "_law_told", "_law_due", "_law_row", "_law_some_here", "_law_shown", "_law_ascending_here", "_law_text_here", "_law_more"]
theorem N_law : n_law.Nodup := by decide +kernel
theorem sc_law : FnScope n_law ["_law_script"] (defScope s_law) := ⟨rfl, rfl, rfl, N_law, rfl, by decide +kernel, by decide +kernel⟩
noncomputable def S_law : XS :=
    seqS (ownS 1 (clE F__law_bag (consA (varE 0) (nilA))))
    (seqS (setS 2 (opE addD (opE powD (cE (.int 10)) (cE (.int 11))) (callB F__law_take 1 (consA (cE (.int 999)) (nilA)))))
    (seqS (parS 3 4 (consA (tupE (consA (opE addD (varE 2) (cE (.int 1))) (consA (varE 2) (nilA)))) (consA (tupE (consA (varE 2) (consA (opE subD (varE 2) (cE (.int 1))) (nilA)))) (nilA))))
    (seqS (ifS (notT (tE (clE F__law_alike (consA (lstE (consA (clE F_compared (consA (varE 3) (consA (varE 4) (nilA)))) (consA (clE F_compared (consA (varE 4) (consA (varE 3) (nilA)))) (consA (clE F_least_of (consA (lstE (consA (varE 4) (consA (varE 3) (nilA)))) (nilA))) (consA (clE F_greatest_of (consA (tupE (consA (varE 3) (consA (varE 4) (nilA)))) (nilA))) (nilA)))))) (consA (lstE (consA (unE negD (cE (.int 1))) (consA (cE (.int 1)) (consA (varE 3) (consA (varE 4) (nilA)))))) (nilA))))))
    (seqS (retS (cE (.bool false))) (nopS))
    (nopS))
    (seqS (forS (rngE (consA (cE (.int 3)) (nilA))) (nameG 5)
    (seqS (parS 6 7 (consA (callB F__law_any_fraction 1 (nilA)) (consA (callB F__law_any_fraction 1 (nilA)) (nilA))))
    (seqS (setS 8 (callB F__law_some 1 (consA (lstE (consA (cE (.int 1)) (consA (unE negD (cE (.int 1))) (consA (cE (.int 6)) (consA (unE negD (cE (.int 35))) (consA (opE powD (cE (.int 10)) (cE (.int 9))) (nilA))))))) (nilA))))
    (seqS (setS 9 (lstE (consA (clE F_reduced (consA (opE mulD (opE ixD (varE 6) (cE (.int 0))) (varE 8)) (consA (opE mulD (opE ixD (varE 6) (cE (.int 1))) (varE 8)) (nilA)))) (consA (clE F_added (consA (varE 6) (consA (varE 7) (nilA)))) (consA (clE F_lessened (consA (varE 6) (consA (varE 7) (nilA)))) (consA (clE F_times (consA (varE 6) (consA (varE 7) (nilA)))) (consA (clE F_compared (consA (varE 6) (consA (varE 7) (nilA)))) (nilA))))))))
    (seqS (ownS 10 (lstE (consA (varE 6) (consA (clE F__law_added (consA (varE 6) (consA (varE 7) (nilA)))) (consA (clE F__law_lessened (consA (varE 6) (consA (varE 7) (nilA)))) (consA (clE F__law_multiplied (consA (varE 6) (consA (varE 7) (nilA)))) (nilA)))))))
    (seqS (mutS 10 appG (opE subD (clE (g1 intD) (consA (clE F__law_is_below (consA (varE 7) (consA (varE 6) (nilA)))) nilA)) (clE (g1 intD) (consA (clE F__law_is_below (consA (varE 6) (consA (varE 7) (nilA)))) nilA))))
    (seqS (ifS (orT (notT (tE (clE F__law_alike (consA (varE 9) (consA (varE 10) (nilA)))))) (tE (opE neD (clE F_compared (consA (varE 6) (consA (varE 6) (nilA)))) (cE (.int 0)))))
    (seqS (retS (cE (.bool false))) (nopS))
    (nopS))
    (seqS (ifS (andT (tE (opE neD (opE ixD (varE 7) (cE (.int 0))) (cE (.int 0)))) (notT (tE (clE F__law_alike (consA (clE F_over (consA (varE 6) (consA (varE 7) (nilA)))) (consA (clE F__law_divided (consA (varE 6) (consA (varE 7) (nilA)))) (nilA)))))))
    (seqS (retS (cE (.bool false))) (nopS))
    (nopS))
    (seqS (setS 11 (compE (rngE (consA (callB F__law_take 1 (consA (cE (.int 6)) (nilA))) (nilA))) [16] (nameG 16) (yesT) (callB F__law_any_fraction 1 (nilA))))
    (seqS (setS 12 (callB F__law_some 1 (consA (lstE (consA (varE 11) (consA (clE (g1 tupleD) (consA (varE 11) nilA)) (nilA)))) (nilA))))
    (seqS (setS 13 (clE (g1 reprD) (consA (varE 12) nilA)))
    (seqS (ifS (notT (tE (clE F__law_alike (consA (clE F_total (consA (varE 12) (nilA))) (consA (clE F__law_total (consA (varE 11) (nilA))) (nilA))))))
    (seqS (retS (cE (.bool false))) (nopS))
    (nopS))
    (seqS (setS 14 (clE F__law_ascending (consA (varE 11) (nilA))))
    (seqS (ifS (andT (tE (opE neD (varE 11) (lstE (nilA)))) (notT (tE (clE F__law_alike (consA (lstE (consA (clE F_least_of (consA (varE 12) (nilA))) (consA (clE F_greatest_of (consA (varE 12) (nilA))) (nilA)))) (consA (lstE (consA (opE ixD (varE 14) (cE (.int 0))) (consA (opE ixD (varE 14) (unE negD (cE (.int 1)))) (nilA)))) (nilA)))))))
    (seqS (retS (cE (.bool false))) (nopS))
    (nopS))
    (seqS (ifS (orT (tE (opE neD (clE (g1 reprD) (consA (varE 12) nilA)) (varE 13))) (orT (notT (tE (clE F__law_alike (consA (clE F_fraction_text (consA (varE 6) (nilA))) (consA (clE F__law_text (consA (varE 6) (nilA))) (nilA)))))) (tE (opE neD (clE F_fraction_in (consA (clE F__law_text (consA (varE 6) (nilA))) (nilA))) (varE 6)))))
    (seqS (retS (cE (.bool false))) (nopS))
    (nopS))
    (seqS (forS (itE (callB F__law_texts 1 (consA (varE 6) (nilA)))) (nameG 15)
    (seqS (ifS (notT (tE (clE F__law_alike (consA (clE F_fraction_in (consA (varE 15) (nilA))) (consA (clE F__law_in_text (consA (varE 15) (nilA))) (nilA))))))
    (seqS (retS (cE (.bool false))) (nopS))
    (nopS))
    (killS [15])))
    (killS [5, 6, 7, 8, 9, 10, 11, 12, 13, 14, 15])))))))))))))))))
    (seqS (retS (cE (.bool true))) (nopS))))))
noncomputable def F_law : List D → Option D := runP 16 S_law
theorem w_law {C : Ct} (B : Blt C.mg) (h__law_bag : Fn C "_law_bag" 1 ["_law_script"] (spPF C.K 1 F__law_bag)) (h__law_take : Fn C "_law_take" 1 ["_law_bag_here", "_law_many"] (spB C.K 2 F__law_take)) (h__law_alike : Fn C "_law_alike" 1 ["_law_found", "_law_due"] (spP C.K 2 F__law_alike)) (h_compared : Fn C "compared" 1 ["one", "other"] (spP C.K 2 F_compared)) (h_least_of : Fn C "least_of" 2 ["fractions"] (spP C.K 1 F_least_of)) (h_greatest_of : Fn C "greatest_of" 2 ["fractions"] (spP C.K 1 F_greatest_of)) (h__law_any_fraction : Fn C "_law_any_fraction" 4 ["_law_bag_here"] (spB C.K 1 F__law_any_fraction)) (h__law_some : Fn C "_law_some" 2 ["_law_bag_here", "_law_things"] (spB C.K 2 F__law_some)) (h_reduced : Fn C "reduced" 2 ["n", "d"] (spP C.K 2 F_reduced)) (h_added : Fn C "added" 3 ["one", "other"] (spP C.K 2 F_added)) (h_lessened : Fn C "lessened" 3 ["one", "other"] (spP C.K 2 F_lessened)) (h_times : Fn C "times" 3 ["one", "other"] (spP C.K 2 F_times)) (h__law_added : Fn C "_law_added" 3 ["_law_one", "_law_other"] (spP C.K 2 F__law_added)) (h__law_lessened : Fn C "_law_lessened" 3 ["_law_one", "_law_other"] (spP C.K 2 F__law_lessened)) (h__law_multiplied : Fn C "_law_multiplied" 3 ["_law_one", "_law_other"] (spP C.K 2 F__law_multiplied)) (h__law_is_below : Fn C "_law_is_below" 1 ["_law_one", "_law_other"] (spP C.K 2 F__law_is_below)) (h_over : Fn C "over" 3 ["one", "other"] (spP C.K 2 F_over)) (h__law_divided : Fn C "_law_divided" 3 ["_law_one", "_law_other"] (spP C.K 2 F__law_divided)) (h_total : Fn C "total" 4 ["fractions"] (spP C.K 1 F_total)) (h__law_total : Fn C "_law_total" 4 ["_law_fractions"] (spP C.K 1 F__law_total)) (h__law_ascending : Fn C "_law_ascending" 2 ["_law_fractions"] (spPF C.K 1 F__law_ascending)) (h_fraction_text : Fn C "fraction_text" 1 ["one"] (spP C.K 1 F_fraction_text)) (h__law_text : Fn C "_law_text" 1 ["_law_one"] (spP C.K 1 F__law_text)) (h_fraction_in : Fn C "fraction_in" 3 ["text"] (spP C.K 1 F_fraction_in)) (h__law_texts : Fn C "_law_texts" 3 ["_law_bag_here", "_law_one"] (spB C.K 2 F__law_texts)) (h__law_in_text : Fn C "_law_in_text" 2 ["_law_text_here"] (spP C.K 1 F__law_in_text)) (hf : FnHere C "law" (defArgs s_law) (defBody s_law) (defScope s_law)) : Fn C "law" 5 ["_law_script"] (spP C.K 1 F_law) :=
  fnP (k := 4) (ow2 := []) hf sc_law 16 rfl (fun _ _ _ _ _ _ us hl => match us, hl with | [_], _ => rfl) fun _ _ _ _ _ _ _ F =>
    (rss_cons (rs_own (tc := []) F 1 (rf_callP F h__law_bag (by omega) rfl (fun _ => rfl) (ra_cons (re_var F 0 rfl (by first | exact fun _ => Or.inl rfl | exact fun _ => Or.inr (Or.inl rfl) | exact fun _ => Or.inr (Or.inr rfl)) rfl) ra_nil (fun _ => rfl)) (fun _ => rfl) (fun _ => rfl)) rfl (by first | exact fun _ => Or.inl rfl | exact fun _ => Or.inr rfl) rfl (fun _ => fun h => ps_set (i := 1) N_law rfl (by first | exact Or.inl rfl | exact Or.inr rfl) h) rfl)
    (rss_cons (rs_set (tc := [1]) F 2 (re_add F (re_pow re_int re_int) (re_callB_ F h__law_take (by omega) 1 rfl rfl rfl (by first | exact fun _ => Or.inl rfl | exact fun _ => Or.inr (Or.inl rfl) | exact fun _ => Or.inr (Or.inr rfl)) rfl (fun _ => rfl) (ra_cons re_int ra_nil (fun _ => rfl)) (fun _ => rfl) (fun _ => rfl))) rfl (by first | exact fun _ => Or.inl rfl | exact fun _ => Or.inr rfl) rfl (by first | exact fun _ => Or.inr rfl | exact fun _ => Or.inl rfl) (fun _ => rfl))
    (rss_cons (rs_par (tc := []) F 3 4 (ra_cons (re_tup (ra_cons (re_add F (re_var F 2 rfl (by first | exact fun _ => Or.inl rfl | exact fun _ => Or.inr (Or.inl rfl) | exact fun _ => Or.inr (Or.inr rfl)) rfl) re_int) (ra_cons (re_var F 2 rfl (by first | exact fun _ => Or.inl rfl | exact fun _ => Or.inr (Or.inl rfl) | exact fun _ => Or.inr (Or.inr rfl)) rfl) ra_nil (fun _ => rfl)) (fun _ => rfl))) (ra_cons (re_tup (ra_cons (re_var F 2 rfl (by first | exact fun _ => Or.inl rfl | exact fun _ => Or.inr (Or.inl rfl) | exact fun _ => Or.inr (Or.inr rfl)) rfl) (ra_cons (re_sub (re_var F 2 rfl (by first | exact fun _ => Or.inl rfl | exact fun _ => Or.inr (Or.inl rfl) | exact fun _ => Or.inr (Or.inr rfl)) rfl) re_int) ra_nil (fun _ => rfl)) (fun _ => rfl))) ra_nil (fun _ => rfl)) (fun _ => rfl)) rfl rfl (by decide) rfl rfl (fun _ => rfl) (fun _ => rfl) (fun _ => rfl) (fun _ => rfl))
    (rss_cons (rs_if (tc := []) (ow2 := [1]) (rt_not (rt_val (re_callP F h__law_alike (by omega) rfl (fun _ => rfl) (ra_cons (RF.re (rf_lst (ra_cons (re_callP F h_compared (by omega) rfl (fun _ => rfl) (ra_cons (re_var F 3 rfl (by first | exact fun _ => Or.inl rfl | exact fun _ => Or.inr (Or.inl rfl) | exact fun _ => Or.inr (Or.inr rfl)) rfl) (ra_cons (re_var F 4 rfl (by first | exact fun _ => Or.inl rfl | exact fun _ => Or.inr (Or.inl rfl) | exact fun _ => Or.inr (Or.inr rfl)) rfl) ra_nil (fun _ => rfl)) (fun _ => rfl)) (fun _ => rfl) (fun _ => rfl)) (ra_cons (re_callP F h_compared (by omega) rfl (fun _ => rfl) (ra_cons (re_var F 4 rfl (by first | exact fun _ => Or.inl rfl | exact fun _ => Or.inr (Or.inl rfl) | exact fun _ => Or.inr (Or.inr rfl)) rfl) (ra_cons (re_var F 3 rfl (by first | exact fun _ => Or.inl rfl | exact fun _ => Or.inr (Or.inl rfl) | exact fun _ => Or.inr (Or.inr rfl)) rfl) ra_nil (fun _ => rfl)) (fun _ => rfl)) (fun _ => rfl) (fun _ => rfl)) (ra_cons (re_callP F h_least_of (by omega) rfl (fun _ => rfl) (ra_cons (RF.re (rf_lst (ra_cons (re_var F 4 rfl (by first | exact fun _ => Or.inl rfl | exact fun _ => Or.inr (Or.inl rfl) | exact fun _ => Or.inr (Or.inr rfl)) rfl) (ra_cons (re_var F 3 rfl (by first | exact fun _ => Or.inl rfl | exact fun _ => Or.inr (Or.inl rfl) | exact fun _ => Or.inr (Or.inr rfl)) rfl) ra_nil (fun _ => rfl)) (fun _ => rfl)))) ra_nil (fun _ => rfl)) (fun _ => rfl) (fun _ => rfl)) (ra_cons (re_callP F h_greatest_of (by omega) rfl (fun _ => rfl) (ra_cons (re_tup (ra_cons (re_var F 3 rfl (by first | exact fun _ => Or.inl rfl | exact fun _ => Or.inr (Or.inl rfl) | exact fun _ => Or.inr (Or.inr rfl)) rfl) (ra_cons (re_var F 4 rfl (by first | exact fun _ => Or.inl rfl | exact fun _ => Or.inr (Or.inl rfl) | exact fun _ => Or.inr (Or.inr rfl)) rfl) ra_nil (fun _ => rfl)) (fun _ => rfl))) ra_nil (fun _ => rfl)) (fun _ => rfl) (fun _ => rfl)) ra_nil (fun _ => rfl)) (fun _ => rfl)) (fun _ => rfl)) (fun _ => rfl)))) (ra_cons (RF.re (rf_lst (ra_cons (re_neg re_int) (ra_cons re_int (ra_cons (re_var F 3 rfl (by first | exact fun _ => Or.inl rfl | exact fun _ => Or.inr (Or.inl rfl) | exact fun _ => Or.inr (Or.inr rfl)) rfl) (ra_cons (re_var F 4 rfl (by first | exact fun _ => Or.inl rfl | exact fun _ => Or.inr (Or.inl rfl) | exact fun _ => Or.inr (Or.inr rfl)) rfl) ra_nil (fun _ => rfl)) (fun _ => rfl)) (fun _ => rfl)) (fun _ => rfl)))) ra_nil (fun _ => rfl)) (fun _ => rfl)) (fun _ => rfl) (fun _ => rfl)) (fun _ _ => rfl)))
    (rss_cons (ow1 := [1]) (rs_ret (tc := []) re_bl rfl) (rss_nil rfl))
    (rss_nil rfl))
    (rss_cons (rs_for (tc := []) F (ri_rng1 F B.range (fun _ => rfl) (ra_cons re_int ra_nil (fun _ => rfl)) (fun _ => rfl)) (rg_name F 5 rfl (by first | exact fun _ => Or.inl rfl | exact fun _ => Or.inr rfl) rfl (by first | exact fun _ => Or.inr rfl | exact fun _ => Or.inl rfl))
    (rss_cons (rs_par (tc := [1]) F 6 7 (ra_cons (re_callB_ F h__law_any_fraction (by omega) 1 rfl rfl rfl (by first | exact fun _ => Or.inl rfl | exact fun _ => Or.inr (Or.inl rfl) | exact fun _ => Or.inr (Or.inr rfl)) rfl (fun _ => rfl) ra_nil (fun _ => rfl) (fun _ => rfl)) (ra_cons (re_callB_ F h__law_any_fraction (by omega) 1 rfl rfl rfl (by first | exact fun _ => Or.inl rfl | exact fun _ => Or.inr (Or.inl rfl) | exact fun _ => Or.inr (Or.inr rfl)) rfl (fun _ => rfl) ra_nil (fun _ => rfl) (fun _ => rfl)) ra_nil (fun _ => rfl)) (fun _ => rfl)) rfl rfl (by decide) rfl rfl (fun _ => rfl) (fun _ => rfl) (fun _ => rfl) (fun _ => rfl))
    (rss_cons (rs_set (tc := [1]) F 8 (re_callB_ F h__law_some (by omega) 1 rfl rfl rfl (by first | exact fun _ => Or.inl rfl | exact fun _ => Or.inr (Or.inl rfl) | exact fun _ => Or.inr (Or.inr rfl)) rfl (fun _ => rfl) (ra_cons (RF.re (rf_lst (ra_cons re_int (ra_cons (re_neg re_int) (ra_cons re_int (ra_cons (re_neg re_int) (ra_cons (re_pow re_int re_int) ra_nil (fun _ => rfl)) (fun _ => rfl)) (fun _ => rfl)) (fun _ => rfl)) (fun _ => rfl)))) ra_nil (fun _ => rfl)) (fun _ => rfl) (fun _ => rfl)) rfl (by first | exact fun _ => Or.inl rfl | exact fun _ => Or.inr rfl) rfl (by first | exact fun _ => Or.inr rfl | exact fun _ => Or.inl rfl) (fun _ => rfl))
    (rss_cons (rs_set (tc := []) F 9 (RF.re (rf_lst (ra_cons (re_callP F h_reduced (by omega) rfl (fun _ => rfl) (ra_cons (re_mul (re_ix F (re_var F 6 rfl (by first | exact fun _ => Or.inl rfl | exact fun _ => Or.inr (Or.inl rfl) | exact fun _ => Or.inr (Or.inr rfl)) rfl) re_int (fun _ _ => rfl)) (re_var F 8 rfl (by first | exact fun _ => Or.inl rfl | exact fun _ => Or.inr (Or.inl rfl) | exact fun _ => Or.inr (Or.inr rfl)) rfl)) (ra_cons (re_mul (re_ix F (re_var F 6 rfl (by first | exact fun _ => Or.inl rfl | exact fun _ => Or.inr (Or.inl rfl) | exact fun _ => Or.inr (Or.inr rfl)) rfl) re_int (fun _ _ => rfl)) (re_var F 8 rfl (by first | exact fun _ => Or.inl rfl | exact fun _ => Or.inr (Or.inl rfl) | exact fun _ => Or.inr (Or.inr rfl)) rfl)) ra_nil (fun _ => rfl)) (fun _ => rfl)) (fun _ => rfl) (fun _ => rfl)) (ra_cons (re_callP F h_added (by omega) rfl (fun _ => rfl) (ra_cons (re_var F 6 rfl (by first | exact fun _ => Or.inl rfl | exact fun _ => Or.inr (Or.inl rfl) | exact fun _ => Or.inr (Or.inr rfl)) rfl) (ra_cons (re_var F 7 rfl (by first | exact fun _ => Or.inl rfl | exact fun _ => Or.inr (Or.inl rfl) | exact fun _ => Or.inr (Or.inr rfl)) rfl) ra_nil (fun _ => rfl)) (fun _ => rfl)) (fun _ => rfl) (fun _ => rfl)) (ra_cons (re_callP F h_lessened (by omega) rfl (fun _ => rfl) (ra_cons (re_var F 6 rfl (by first | exact fun _ => Or.inl rfl | exact fun _ => Or.inr (Or.inl rfl) | exact fun _ => Or.inr (Or.inr rfl)) rfl) (ra_cons (re_var F 7 rfl (by first | exact fun _ => Or.inl rfl | exact fun _ => Or.inr (Or.inl rfl) | exact fun _ => Or.inr (Or.inr rfl)) rfl) ra_nil (fun _ => rfl)) (fun _ => rfl)) (fun _ => rfl) (fun _ => rfl)) (ra_cons (re_callP F h_times (by omega) rfl (fun _ => rfl) (ra_cons (re_var F 6 rfl (by first | exact fun _ => Or.inl rfl | exact fun _ => Or.inr (Or.inl rfl) | exact fun _ => Or.inr (Or.inr rfl)) rfl) (ra_cons (re_var F 7 rfl (by first | exact fun _ => Or.inl rfl | exact fun _ => Or.inr (Or.inl rfl) | exact fun _ => Or.inr (Or.inr rfl)) rfl) ra_nil (fun _ => rfl)) (fun _ => rfl)) (fun _ => rfl) (fun _ => rfl)) (ra_cons (re_callP F h_compared (by omega) rfl (fun _ => rfl) (ra_cons (re_var F 6 rfl (by first | exact fun _ => Or.inl rfl | exact fun _ => Or.inr (Or.inl rfl) | exact fun _ => Or.inr (Or.inr rfl)) rfl) (ra_cons (re_var F 7 rfl (by first | exact fun _ => Or.inl rfl | exact fun _ => Or.inr (Or.inl rfl) | exact fun _ => Or.inr (Or.inr rfl)) rfl) ra_nil (fun _ => rfl)) (fun _ => rfl)) (fun _ => rfl) (fun _ => rfl)) ra_nil (fun _ => rfl)) (fun _ => rfl)) (fun _ => rfl)) (fun _ => rfl)) (fun _ => rfl)))) rfl (by first | exact fun _ => Or.inl rfl | exact fun _ => Or.inr rfl) rfl (by first | exact fun _ => Or.inr rfl | exact fun _ => Or.inl rfl) (fun _ => rfl))
    (rss_cons (rs_own (tc := []) F 10 (rf_lst (ra_cons (re_var F 6 rfl (by first | exact fun _ => Or.inl rfl | exact fun _ => Or.inr (Or.inl rfl) | exact fun _ => Or.inr (Or.inr rfl)) rfl) (ra_cons (re_callP F h__law_added (by omega) rfl (fun _ => rfl) (ra_cons (re_var F 6 rfl (by first | exact fun _ => Or.inl rfl | exact fun _ => Or.inr (Or.inl rfl) | exact fun _ => Or.inr (Or.inr rfl)) rfl) (ra_cons (re_var F 7 rfl (by first | exact fun _ => Or.inl rfl | exact fun _ => Or.inr (Or.inl rfl) | exact fun _ => Or.inr (Or.inr rfl)) rfl) ra_nil (fun _ => rfl)) (fun _ => rfl)) (fun _ => rfl) (fun _ => rfl)) (ra_cons (re_callP F h__law_lessened (by omega) rfl (fun _ => rfl) (ra_cons (re_var F 6 rfl (by first | exact fun _ => Or.inl rfl | exact fun _ => Or.inr (Or.inl rfl) | exact fun _ => Or.inr (Or.inr rfl)) rfl) (ra_cons (re_var F 7 rfl (by first | exact fun _ => Or.inl rfl | exact fun _ => Or.inr (Or.inl rfl) | exact fun _ => Or.inr (Or.inr rfl)) rfl) ra_nil (fun _ => rfl)) (fun _ => rfl)) (fun _ => rfl) (fun _ => rfl)) (ra_cons (re_callP F h__law_multiplied (by omega) rfl (fun _ => rfl) (ra_cons (re_var F 6 rfl (by first | exact fun _ => Or.inl rfl | exact fun _ => Or.inr (Or.inl rfl) | exact fun _ => Or.inr (Or.inr rfl)) rfl) (ra_cons (re_var F 7 rfl (by first | exact fun _ => Or.inl rfl | exact fun _ => Or.inr (Or.inl rfl) | exact fun _ => Or.inr (Or.inr rfl)) rfl) ra_nil (fun _ => rfl)) (fun _ => rfl)) (fun _ => rfl) (fun _ => rfl)) ra_nil (fun _ => rfl)) (fun _ => rfl)) (fun _ => rfl)) (fun _ => rfl))) rfl (by first | exact fun _ => Or.inl rfl | exact fun _ => Or.inr rfl) rfl (fun _ => fun h => ps_set (i := 10) N_law rfl (by first | exact Or.inl rfl | exact Or.inr rfl) h) rfl)
    (rss_cons (rs_mut1 (tc := []) F 10 (re_sub (re_intc F B (re_callP F h__law_is_below (by omega) rfl (fun _ => rfl) (ra_cons (re_var F 7 rfl (by first | exact fun _ => Or.inl rfl | exact fun _ => Or.inr (Or.inl rfl) | exact fun _ => Or.inr (Or.inr rfl)) rfl) (ra_cons (re_var F 6 rfl (by first | exact fun _ => Or.inl rfl | exact fun _ => Or.inr (Or.inl rfl) | exact fun _ => Or.inr (Or.inr rfl)) rfl) ra_nil (fun _ => rfl)) (fun _ => rfl)) (fun _ => rfl) (fun _ => rfl)) (fun _ => rfl) (fun _ => rfl) (fun _ => rfl)) (re_intc F B (re_callP F h__law_is_below (by omega) rfl (fun _ => rfl) (ra_cons (re_var F 6 rfl (by first | exact fun _ => Or.inl rfl | exact fun _ => Or.inr (Or.inl rfl) | exact fun _ => Or.inr (Or.inr rfl)) rfl) (ra_cons (re_var F 7 rfl (by first | exact fun _ => Or.inl rfl | exact fun _ => Or.inr (Or.inl rfl) | exact fun _ => Or.inr (Or.inr rfl)) rfl) ra_nil (fun _ => rfl)) (fun _ => rfl)) (fun _ => rfl) (fun _ => rfl)) (fun _ => rfl) (fun _ => rfl) (fun _ => rfl))) rfl rfl (by first | exact fun _ => Or.inl rfl | exact fun _ => Or.inr (Or.inl rfl) | exact fun _ => Or.inr (Or.inr rfl)) (fun _ _ _ _ _ _ _ _ _ a b c d e f => r_append a b c d e f) (fun _ => fun a b => pe_bm PySem.F.plainAttrs_list PySem.F.slot_list_append PySem.F.type_list_append mt_append a (pa_cons b pa_nil)) (fun _ => rfl))
    (rss_weak (ow1 := [1]) (rss_cons (rs_if (tc := []) (ow2 := [1]) (rt_w (rw_or (rt_not (rt_val (re_callP F h__law_alike (by omega) rfl (fun _ => rfl) (ra_cons (re_var F 9 rfl (by first | exact fun _ => Or.inl rfl | exact fun _ => Or.inr (Or.inl rfl) | exact fun _ => Or.inr (Or.inr rfl)) rfl) (ra_cons (re_var F 10 rfl (by first | exact fun _ => Or.inl rfl | exact fun _ => Or.inr (Or.inl rfl) | exact fun _ => Or.inr (Or.inr rfl)) rfl) ra_nil (fun _ => rfl)) (fun _ => rfl)) (fun _ => rfl) (fun _ => rfl)) (fun _ _ => rfl))) (rw_or1 (rt_ne F (re_callP F h_compared (by omega) rfl (fun _ => rfl) (ra_cons (re_var F 6 rfl (by first | exact fun _ => Or.inl rfl | exact fun _ => Or.inr (Or.inl rfl) | exact fun _ => Or.inr (Or.inr rfl)) rfl) (ra_cons (re_var F 6 rfl (by first | exact fun _ => Or.inl rfl | exact fun _ => Or.inr (Or.inl rfl) | exact fun _ => Or.inr (Or.inr rfl)) rfl) ra_nil (fun _ => rfl)) (fun _ => rfl)) (fun _ => rfl) (fun _ => rfl)) re_int))))
    (rss_cons (ow1 := [1]) (rs_ret (tc := []) re_bl rfl) (rss_nil rfl))
    (rss_nil rfl))
    (rss_cons (rs_if (tc := []) (ow2 := [1]) (rt_w (rw_and (rt_ne F (re_ix F (re_var F 7 rfl (by first | exact fun _ => Or.inl rfl | exact fun _ => Or.inr (Or.inl rfl) | exact fun _ => Or.inr (Or.inr rfl)) rfl) re_int (fun _ _ => rfl)) re_int) (rw_and1 (rt_not (rt_val (re_callP F h__law_alike (by omega) rfl (fun _ => rfl) (ra_cons (re_callP F h_over (by omega) rfl (fun _ => rfl) (ra_cons (re_var F 6 rfl (by first | exact fun _ => Or.inl rfl | exact fun _ => Or.inr (Or.inl rfl) | exact fun _ => Or.inr (Or.inr rfl)) rfl) (ra_cons (re_var F 7 rfl (by first | exact fun _ => Or.inl rfl | exact fun _ => Or.inr (Or.inl rfl) | exact fun _ => Or.inr (Or.inr rfl)) rfl) ra_nil (fun _ => rfl)) (fun _ => rfl)) (fun _ => rfl) (fun _ => rfl)) (ra_cons (re_callP F h__law_divided (by omega) rfl (fun _ => rfl) (ra_cons (re_var F 6 rfl (by first | exact fun _ => Or.inl rfl | exact fun _ => Or.inr (Or.inl rfl) | exact fun _ => Or.inr (Or.inr rfl)) rfl) (ra_cons (re_var F 7 rfl (by first | exact fun _ => Or.inl rfl | exact fun _ => Or.inr (Or.inl rfl) | exact fun _ => Or.inr (Or.inr rfl)) rfl) ra_nil (fun _ => rfl)) (fun _ => rfl)) (fun _ => rfl) (fun _ => rfl)) ra_nil (fun _ => rfl)) (fun _ => rfl)) (fun _ => rfl) (fun _ => rfl)) (fun _ _ => rfl))))))
    (rss_cons (ow1 := [1]) (rs_ret (tc := []) re_bl rfl) (rss_nil rfl))
    (rss_nil rfl))
    (rss_cons (rs_setLc (tc := [1]) F 11 rfl (fun _ => rfl) rfl (fun _ => sw_true rfl rfl rfl (by decide +kernel)) (ri_rng1 F B.range (fun _ => rfl) (ra_cons (re_callB_ F h__law_take (by omega) 1 rfl rfl rfl (by first | exact fun _ => Or.inl rfl | exact fun _ => Or.inr (Or.inl rfl) | exact fun _ => Or.inr (Or.inr rfl)) rfl (fun _ => rfl) (ra_cons re_int ra_nil (fun _ => rfl)) (fun _ => rfl) (fun _ => rfl)) ra_nil (fun _ => rfl)) (fun _ => rfl)) (fun _ => blkOk_by (by first | decide +kernel | kernel_rfl)) (rg_name (Fam.blk F _) 16 rfl (by first | exact fun _ => Or.inl rfl | exact fun _ => Or.inr rfl) rfl (by first | exact fun _ => Or.inr rfl | exact fun _ => Or.inl rfl)) rq_nil (re_callB_ (Fam.blk F _) h__law_any_fraction (by omega) 1 rfl rfl rfl (by first | exact fun _ => Or.inl rfl | exact fun _ => Or.inr (Or.inl rfl) | exact fun _ => Or.inr (Or.inr rfl)) rfl (fun _ => rfl) ra_nil (fun _ => rfl) (fun _ => rfl)) (fun _ _ => rfl) rfl rfl (ownL := [("_law_more", 16)]))
    (rss_cons (rs_set (tc := [1]) F 12 (re_callB_ F h__law_some (by omega) 1 rfl rfl rfl (by first | exact fun _ => Or.inl rfl | exact fun _ => Or.inr (Or.inl rfl) | exact fun _ => Or.inr (Or.inr rfl)) rfl (fun _ => rfl) (ra_cons (RF.re (rf_lst (ra_cons (re_var F 11 rfl (by first | exact fun _ => Or.inl rfl | exact fun _ => Or.inr (Or.inl rfl) | exact fun _ => Or.inr (Or.inr rfl)) rfl) (ra_cons (re_tuple F B (re_var F 11 rfl (by first | exact fun _ => Or.inl rfl | exact fun _ => Or.inr (Or.inl rfl) | exact fun _ => Or.inr (Or.inr rfl)) rfl) (fun _ => rfl) (fun _ => rfl) (fun _ => rfl)) ra_nil (fun _ => rfl)) (fun _ => rfl)))) ra_nil (fun _ => rfl)) (fun _ => rfl) (fun _ => rfl)) rfl (by first | exact fun _ => Or.inl rfl | exact fun _ => Or.inr rfl) rfl (by first | exact fun _ => Or.inr rfl | exact fun _ => Or.inl rfl) (fun _ => rfl))
    (rss_cons (rs_set (tc := []) F 13 (re_repr F B (re_var F 12 rfl (by first | exact fun _ => Or.inl rfl | exact fun _ => Or.inr (Or.inl rfl) | exact fun _ => Or.inr (Or.inr rfl)) rfl) (fun _ => rfl) (fun _ => rfl) (fun _ => rfl)) rfl (by first | exact fun _ => Or.inl rfl | exact fun _ => Or.inr rfl) rfl (by first | exact fun _ => Or.inr rfl | exact fun _ => Or.inl rfl) (fun _ => rfl))
    (rss_cons (rs_if (tc := []) (ow2 := [1]) (rt_not (rt_val (re_callP F h__law_alike (by omega) rfl (fun _ => rfl) (ra_cons (re_callP F h_total (by omega) rfl (fun _ => rfl) (ra_cons (re_var F 12 rfl (by first | exact fun _ => Or.inl rfl | exact fun _ => Or.inr (Or.inl rfl) | exact fun _ => Or.inr (Or.inr rfl)) rfl) ra_nil (fun _ => rfl)) (fun _ => rfl) (fun _ => rfl)) (ra_cons (re_callP F h__law_total (by omega) rfl (fun _ => rfl) (ra_cons (re_var F 11 rfl (by first | exact fun _ => Or.inl rfl | exact fun _ => Or.inr (Or.inl rfl) | exact fun _ => Or.inr (Or.inr rfl)) rfl) ra_nil (fun _ => rfl)) (fun _ => rfl) (fun _ => rfl)) ra_nil (fun _ => rfl)) (fun _ => rfl)) (fun _ => rfl) (fun _ => rfl)) (fun _ _ => rfl)))
    (rss_cons (ow1 := [1]) (rs_ret (tc := []) re_bl rfl) (rss_nil rfl))
    (rss_nil rfl))
    (rss_cons (rs_set (tc := []) F 14 (RF.re (rf_callP F h__law_ascending (by omega) rfl (fun _ => rfl) (ra_cons (re_var F 11 rfl (by first | exact fun _ => Or.inl rfl | exact fun _ => Or.inr (Or.inl rfl) | exact fun _ => Or.inr (Or.inr rfl)) rfl) ra_nil (fun _ => rfl)) (fun _ => rfl) (fun _ => rfl))) rfl (by first | exact fun _ => Or.inl rfl | exact fun _ => Or.inr rfl) rfl (by first | exact fun _ => Or.inr rfl | exact fun _ => Or.inl rfl) (fun _ => rfl))
    (rss_cons (rs_if (tc := []) (ow2 := [1]) (rt_w (rw_and (rt_ne F (re_var F 11 rfl (by first | exact fun _ => Or.inl rfl | exact fun _ => Or.inr (Or.inl rfl) | exact fun _ => Or.inr (Or.inr rfl)) rfl) (RF.re (rf_lst ra_nil))) (rw_and1 (rt_not (rt_val (re_callP F h__law_alike (by omega) rfl (fun _ => rfl) (ra_cons (RF.re (rf_lst (ra_cons (re_callP F h_least_of (by omega) rfl (fun _ => rfl) (ra_cons (re_var F 12 rfl (by first | exact fun _ => Or.inl rfl | exact fun _ => Or.inr (Or.inl rfl) | exact fun _ => Or.inr (Or.inr rfl)) rfl) ra_nil (fun _ => rfl)) (fun _ => rfl) (fun _ => rfl)) (ra_cons (re_callP F h_greatest_of (by omega) rfl (fun _ => rfl) (ra_cons (re_var F 12 rfl (by first | exact fun _ => Or.inl rfl | exact fun _ => Or.inr (Or.inl rfl) | exact fun _ => Or.inr (Or.inr rfl)) rfl) ra_nil (fun _ => rfl)) (fun _ => rfl) (fun _ => rfl)) ra_nil (fun _ => rfl)) (fun _ => rfl)))) (ra_cons (RF.re (rf_lst (ra_cons (re_ix F (re_var F 14 rfl (by first | exact fun _ => Or.inl rfl | exact fun _ => Or.inr (Or.inl rfl) | exact fun _ => Or.inr (Or.inr rfl)) rfl) re_int (fun _ _ => rfl)) (ra_cons (re_ix F (re_var F 14 rfl (by first | exact fun _ => Or.inl rfl | exact fun _ => Or.inr (Or.inl rfl) | exact fun _ => Or.inr (Or.inr rfl)) rfl) (re_neg re_int) (fun _ _ => rfl)) ra_nil (fun _ => rfl)) (fun _ => rfl)))) ra_nil (fun _ => rfl)) (fun _ => rfl)) (fun _ => rfl) (fun _ => rfl)) (fun _ _ => rfl))))))
    (rss_cons (ow1 := [1]) (rs_ret (tc := []) re_bl rfl) (rss_nil rfl))
    (rss_nil rfl))
    (rss_cons (rs_if (tc := []) (ow2 := [1]) (rt_w (rw_or (rt_ne F (re_repr F B (re_var F 12 rfl (by first | exact fun _ => Or.inl rfl | exact fun _ => Or.inr (Or.inl rfl) | exact fun _ => Or.inr (Or.inr rfl)) rfl) (fun _ => rfl) (fun _ => rfl) (fun _ => rfl)) (re_var F 13 rfl (by first | exact fun _ => Or.inl rfl | exact fun _ => Or.inr (Or.inl rfl) | exact fun _ => Or.inr (Or.inr rfl)) rfl)) (rw_or (rt_not (rt_val (re_callP F h__law_alike (by omega) rfl (fun _ => rfl) (ra_cons (re_callP F h_fraction_text (by omega) rfl (fun _ => rfl) (ra_cons (re_var F 6 rfl (by first | exact fun _ => Or.inl rfl | exact fun _ => Or.inr (Or.inl rfl) | exact fun _ => Or.inr (Or.inr rfl)) rfl) ra_nil (fun _ => rfl)) (fun _ => rfl) (fun _ => rfl)) (ra_cons (re_callP F h__law_text (by omega) rfl (fun _ => rfl) (ra_cons (re_var F 6 rfl (by first | exact fun _ => Or.inl rfl | exact fun _ => Or.inr (Or.inl rfl) | exact fun _ => Or.inr (Or.inr rfl)) rfl) ra_nil (fun _ => rfl)) (fun _ => rfl) (fun _ => rfl)) ra_nil (fun _ => rfl)) (fun _ => rfl)) (fun _ => rfl) (fun _ => rfl)) (fun _ _ => rfl))) (rw_or1 (rt_ne F (re_callP F h_fraction_in (by omega) rfl (fun _ => rfl) (ra_cons (re_callP F h__law_text (by omega) rfl (fun _ => rfl) (ra_cons (re_var F 6 rfl (by first | exact fun _ => Or.inl rfl | exact fun _ => Or.inr (Or.inl rfl) | exact fun _ => Or.inr (Or.inr rfl)) rfl) ra_nil (fun _ => rfl)) (fun _ => rfl) (fun _ => rfl)) ra_nil (fun _ => rfl)) (fun _ => rfl) (fun _ => rfl)) (re_var F 6 rfl (by first | exact fun _ => Or.inl rfl | exact fun _ => Or.inr (Or.inl rfl) | exact fun _ => Or.inr (Or.inr rfl)) rfl))))))
    (rss_cons (ow1 := [1]) (rs_ret (tc := []) re_bl rfl) (rss_nil rfl))
    (rss_nil rfl))
    (rss_cons (rs_for (tc := [1]) F (ri_val F (re_callB_ F h__law_texts (by omega) 1 rfl rfl rfl (by first | exact fun _ => Or.inl rfl | exact fun _ => Or.inr (Or.inl rfl) | exact fun _ => Or.inr (Or.inr rfl)) rfl (fun _ => rfl) (ra_cons (re_var F 6 rfl (by first | exact fun _ => Or.inl rfl | exact fun _ => Or.inr (Or.inl rfl) | exact fun _ => Or.inr (Or.inr rfl)) rfl) ra_nil (fun _ => rfl)) (fun _ => rfl) (fun _ => rfl))) (rg_name F 15 rfl (by first | exact fun _ => Or.inl rfl | exact fun _ => Or.inr rfl) rfl (by first | exact fun _ => Or.inr rfl | exact fun _ => Or.inl rfl))
    (rss_cons (rs_if (tc := []) (ow2 := [1]) (rt_not (rt_val (re_callP F h__law_alike (by omega) rfl (fun _ => rfl) (ra_cons (re_callP F h_fraction_in (by omega) rfl (fun _ => rfl) (ra_cons (re_var F 15 rfl (by first | exact fun _ => Or.inl rfl | exact fun _ => Or.inr (Or.inl rfl) | exact fun _ => Or.inr (Or.inr rfl)) rfl) ra_nil (fun _ => rfl)) (fun _ => rfl) (fun _ => rfl)) (ra_cons (re_callP F h__law_in_text (by omega) rfl (fun _ => rfl) (ra_cons (re_var F 15 rfl (by first | exact fun _ => Or.inl rfl | exact fun _ => Or.inr (Or.inl rfl) | exact fun _ => Or.inr (Or.inr rfl)) rfl) ra_nil (fun _ => rfl)) (fun _ => rfl) (fun _ => rfl)) ra_nil (fun _ => rfl)) (fun _ => rfl)) (fun _ => rfl) (fun _ => rfl)) (fun _ _ => rfl)))
    (rss_cons (ow1 := [1]) (rs_ret (tc := []) re_bl rfl) (rss_nil rfl))
    (rss_nil rfl))
    (rss_kill [15] rfl rfl))
    (fun _ => PassesOwn.never) (fun _ _ => rfl))
    (rss_kill [5, 6, 7, 8, 9, 10, 11, 12, 13, 14, 15] rfl rfl))))))))))) rfl))))))
    (fun _ => PassesOwn.never) (fun _ _ => rfl))
    (rss_cons (ow1 := [1]) (rs_ret (tc := []) re_bl rfl) (rss_nil rfl)))))))
end Lay

namespace Lay
open PySem PySem.Spec PyProof.Rows L2

/-! ## the pure side: fractions -/
def fq (q : Rat) : D := .tuple [.int q.num, .int q.den]

abbrev gT : XT := tE (opE neD (varE 1) (cE (.int 0)))
abbrev gB : XS := seqS (parS 0 1 (consA (varE 1) (consA (opE modD (clE (g1 intD) (consA (varE 0) nilA)) (varE 1)) (nilA)))) (nopS)
theorem gcd_loop : ∀ (k : Nat) (a b : Int), 0 ≤ a → 0 ≤ b → b.natAbs < k → whileN gT gB k [some (.int a), some (.int b)] = .nx [some (.int (Int.gcd a b)), some (.int 0)]
  | 0, a, b, _, _, h => by omega
  | k + 1, a, b, ha, hb, h => by
    by_cases hz : b = 0
    · subst hz
      rw [whileN_end (ρ1 := [some (.int a), some (.int 0)]) (by simp [seqS, setS, ifS, retS, nopS, parS, setG, tE, eT, opE, unE, varE, cE, consA, nilA, clE, g1, tupE, lstE, ifE, notE, notT, andT, orT, asB, eqD, neD, eqB_int, subD, ii0, mulD, fdivD, modD, iiD, negD, absD, intD, gtI, geI, leI, powD, addD, ltD, sizeLine, isND, notND, isNonB, Option.bind_some, Option.map_some])]
      rw [Int.gcd_zero_right, Int.natAbs_of_nonneg ha]
    · have h1 : Int.fmod a b = a % b := Int.fmod_eq_emod_of_nonneg _ hb
      have hp : 0 < b := by omega
      have h2 := Int.emod_nonneg a hz
      have h3 := Int.emod_lt_of_pos a hp
      rw [whileN_nx (ρ1 := [some (.int a), some (.int b)]) (ρ2 := [some (.int b), some (.int (a % b))]) (by simp [seqS, setS, ifS, retS, nopS, parS, setG, tE, eT, opE, unE, varE, cE, consA, nilA, clE, g1, tupE, lstE, ifE, notE, notT, andT, orT, asB, eqD, neD, eqB_int, subD, ii0, mulD, fdivD, modD, iiD, negD, absD, intD, gtI, geI, leI, powD, addD, ltD, sizeLine, isND, notND, isNonB, Option.bind_some, Option.map_some, hz]) (by simp [seqS, setS, ifS, retS, nopS, parS, setG, tE, eT, opE, unE, varE, cE, consA, nilA, clE, g1, tupE, lstE, ifE, notE, notT, andT, orT, asB, eqD, neD, eqB_int, subD, ii0, mulD, fdivD, modD, iiD, negD, absD, intD, gtI, geI, leI, powD, addD, ltD, sizeLine, isND, notND, isNonB, Option.bind_some, Option.map_some, hz, h1]), gcd_loop k b (a % b) hb h2 (by omega)]
      have e : Int.gcd b (a % b) = Int.gcd a b := by
        obtain ⟨x, rfl⟩ := Int.eq_ofNat_of_zero_le ha
        obtain ⟨y, rfl⟩ := Int.eq_ofNat_of_zero_le hb
        show Nat.gcd y _ = Nat.gcd x y
        rw [← Int.natCast_emod, Int.natAbs_natCast, Nat.gcd_comm y, ← Nat.gcd_rec, Nat.gcd_comm]
      rw [e]
theorem cd_eq (a b : Int) (ha : 0 ≤ a) (hb : 0 ≤ b) : F_common_divisor [.int a, .int b] = some (.int (Int.gcd a b)) := by
  have h := gcd_loop (b.natAbs + 1) a b ha hb (by omega)
  simp [F_common_divisor, runP, S_common_divisor, seqS, whileS, fuN, h, retS, varE, nopS]
theorem abs_if (a : Int) : (if a < 0 then -a else a) = a.natAbs := by omega
theorem red_eq (n d : Int) (hd : d ≠ 0) (hb : d.natAbs.log2 < 9000) : F_reduced [.int n, .int d] = some (fq (Rat.divInt n d)) := by
  have hg := cd_eq n.natAbs d.natAbs (by omega) (by omega)
  have hg' : Int.gcd (n.natAbs : Int) (d.natAbs : Int) = Int.gcd d n := by rw [Int.gcd_comm]; rfl
  rw [hg'] at hg
  have g0 : Int.gcd d n ≠ 0 := fun z => hd (Int.gcd_eq_zero_iff.mp z).1
  have gd : Int.gcd d n ∣ d.natAbs := Int.gcd_dvd_natAbs_left d n
  have gl : (Int.gcd d n).log2 < 9000 := by
    have h1 : Int.gcd d n ≤ d.natAbs := Nat.le_of_dvd (by omega) gd
    exact Nat.lt_of_le_of_lt ((Nat.le_log2 (by omega)).mpr (Nat.le_trans (Nat.log2_self_le g0) h1)) hb
  have s1 : Int.gcd d n = ((Int.gcd d n : Int)).natAbs := rfl
  obtain ⟨x, hx⟩ : ((Int.gcd d n : Nat) : Int) ∣ n := Int.gcd_dvd_right ..
  obtain ⟨y, hy⟩ : ((Int.gcd d n : Nat) : Int) ∣ d := Int.gcd_dvd_left ..
  generalize hG : Int.gcd d n = g at *
  have gz : (g : Int) ≠ 0 := by omega
  have hn : (Rat.divInt n d).num = d.sign * x := by
    rw [Rat.num_divInt, hG]
    conv => lhs; rw [hx, ← Int.mul_assoc, Int.mul_comm d.sign, Int.mul_assoc, Int.mul_ediv_cancel_left _ gz]
  have hdn : ((Rat.divInt n d).den : Int) = d.sign * y := by
    rw [Rat.den_divInt, hG, if_neg hd, Int.natCast_ediv]
    have e : (d.natAbs : Int) = g * (d.sign * y) := by
      have e0 : (d.natAbs : Int) = d.sign * d := by
        rcases Int.lt_or_gt_of_ne hd with h | h
        · rw [Int.sign_eq_neg_one_of_neg h]; omega
        · rw [Int.sign_eq_one_of_pos h]; omega
      rw [e0]
      generalize d.sign = s
      rw [hy]
      grind
    rw [e, Int.mul_ediv_cancel_left _ gz]
  have q1 : ∀ z : Int, ((g : Int) * z).fdiv g = z := fun z => Int.mul_fdiv_cancel_left z gz
  have q2 : ∀ z : Int, ((g : Int) * z).fdiv (-g) = -z := fun z => by
    have e : (g : Int) * z = -g * -z := by grind
    rw [e]
    exact Int.mul_fdiv_cancel_left (-z) (by omega)
  have p0 : decide (-(g : Int) ≠ 0) = true := by simp [g0]
  rcases Int.lt_or_gt_of_ne hd with hl | hl
  · have c1 : ¬ (0 < d) := by omega
    have sg : d.sign = -1 := Int.sign_eq_neg_one_of_neg hl
    rw [sg] at hn hdn
    have e1 : n.fdiv (-g) = (Rat.divInt n d).num := by rw [hn, hx, q2]; omega
    have e2 : d.fdiv (-g) = (Rat.divInt n d).den := by rw [hdn, hy, q2]; omega
    simp [F_reduced, runP, S_reduced, seqS, setS, ifS, retS, nopS, parS, setG, tE, eT, opE, unE, varE, cE, consA, nilA, clE, g1, tupE, lstE, ifE, notE, notT, andT, orT, asB, eqD, neD, eqB_int, subD, ii0, mulD, fdivD, modD, iiD, negD, absD, intD, gtI, geI, leI, powD, addD, ltD, sizeLine, isND, notND, isNonB, Option.bind_some, Option.map_some, abs_if, hg, c1, g0, gl, e1, e2, fq, Int.natAbs_neg]
  · have sg : d.sign = 1 := Int.sign_eq_one_of_pos hl
    rw [sg] at hn hdn
    have e1 : n.fdiv g = (Rat.divInt n d).num := by rw [hn, hx, q1]; omega
    have e2 : d.fdiv g = (Rat.divInt n d).den := by rw [hdn, hy, q1]; omega
    simp [F_reduced, runP, S_reduced, seqS, setS, ifS, retS, nopS, parS, setG, tE, eT, opE, unE, varE, cE, consA, nilA, clE, g1, tupE, lstE, ifE, notE, notT, andT, orT, asB, eqD, neD, eqB_int, subD, ii0, mulD, fdivD, modD, iiD, negD, absD, intD, gtI, geI, leI, powD, addD, ltD, sizeLine, isND, notND, isNonB, Option.bind_some, Option.map_some, abs_if, hg, hl, g0, gl, e1, e2, fq]

theorem ix0 (a b : D) : ixD (.tuple [a, b]) (.int 0) = some a := rfl
theorem ix1 (a b : D) : ixD (.tuple [a, b]) (.int 1) = some b := rfl
/-- numbers below 2 ^ s -/
def Sz (s : Nat) (q : Rat) : Prop := q.num.natAbs < 2 ^ s ∧ q.den < 2 ^ s
theorem log2_of {x n : Nat} (h : x < 2 ^ n) : x.log2 ≤ n := by
  by_cases z : x = 0
  · subst z; exact Nat.zero_le _
  · exact Nat.le_of_lt ((Nat.log2_lt z).mpr h)
theorem log2_mul {x y a b : Nat} (h : x < 2 ^ a) (h' : y < 2 ^ b) : (x * y).log2 ≤ a + b := by
  by_cases z : x * y = 0
  · rw [z]; exact Nat.zero_le _
  · refine log2_of ?_
    rw [Nat.pow_add]
    exact Nat.mul_lt_mul'' h h'
theorem den_ne (q : Rat) : (q.den : Int) ≠ 0 := by have := q.den_nz; omega
theorem natAbs_mul_dd (a b : Rat) : ((a.den : Int) * b.den).natAbs = a.den * b.den := by rw [Int.natAbs_mul]; rfl
section
variable {a b : Rat} {s t : Nat}
theorem times_eq (ha : Sz s a) (hb : Sz t b) (h : s + t < 9000) : F_times [fq a, fq b] = some (fq (a * b)) := by
  have l1 := log2_of ha.1
  have l2 := log2_of ha.2
  have l3 := log2_of hb.1
  have l4 := log2_of hb.2
  have e : a * b = Rat.divInt (a.num * b.num) (a.den * b.den) := by rw [Rat.mul_def', ← Rat.divInt_ofNat, Int.natCast_mul]
  have r := red_eq (a.num * b.num) (a.den * b.den) (Int.mul_ne_zero (den_ne a) (den_ne b)) (by rw [natAbs_mul_dd]; have := log2_mul ha.2 hb.2; omega)
  have m1 : a.num.natAbs.log2 + b.num.natAbs.log2 < 1000000 := by omega
  have m2 : a.den.log2 + b.den.log2 < 1000000 := by omega
  simp [F_times, runP, S_times, seqS, setS, ifS, retS, nopS, parS, setG, tE, eT, opE, unE, varE, cE, consA, nilA, clE, g1, tupE, lstE, ifE, notE, notT, andT, orT, asB, eqD, neD, eqB_int, subD, ii0, mulD, fdivD, modD, iiD, negD, absD, intD, gtI, geI, leI, powD, addD, ltD, sizeLine, isND, notND, isNonB, Option.bind_some, Option.map_some, fq, ix0, ix1, m1, m2, r, e]
theorem lessened_eq (ha : Sz s a) (hb : Sz t b) (h : s + t < 9000) : F_lessened [fq a, fq b] = some (fq (a - b)) := by
  have l1 := log2_of ha.1
  have l2 := log2_of ha.2
  have l3 := log2_of hb.1
  have l4 := log2_of hb.2
  have e : a - b = Rat.divInt (a.num * b.den - b.num * a.den) (a.den * b.den) := by
    conv => lhs; rw [← Rat.num_divInt_den a, ← Rat.num_divInt_den b]
    rw [Rat.divInt_sub_divInt _ _ (den_ne a) (den_ne b)]
  have r := red_eq (a.num * b.den - b.num * a.den) (a.den * b.den) (Int.mul_ne_zero (den_ne a) (den_ne b)) (by rw [natAbs_mul_dd]; have := log2_mul ha.2 hb.2; omega)
  have m1 : a.num.natAbs.log2 + b.den.log2 < 1000000 := by omega
  have m2 : a.den.log2 + b.den.log2 < 1000000 := by omega
  have m3 : b.num.natAbs.log2 + a.den.log2 < 1000000 := by omega
  simp [F_lessened, runP, S_lessened, seqS, setS, ifS, retS, nopS, parS, setG, tE, eT, opE, unE, varE, cE, consA, nilA, clE, g1, tupE, lstE, ifE, notE, notT, andT, orT, asB, eqD, neD, eqB_int, subD, ii0, mulD, fdivD, modD, iiD, negD, absD, intD, gtI, geI, leI, powD, addD, ltD, sizeLine, isND, notND, isNonB, Option.bind_some, Option.map_some, fq, ix0, ix1, m1, m2, m3, r, e]
theorem over_eq (ha : Sz s a) (hb : Sz t b) (h : s + t < 9000) (nz : b ≠ 0) : F_over [fq a, fq b] = some (fq (a / b)) := by
  have l1 := log2_of ha.1
  have l2 := log2_of ha.2
  have l3 := log2_of hb.1
  have l4 := log2_of hb.2
  have bn : b.num ≠ 0 := fun z => nz (Rat.num_eq_zero.mp z)
  have e : a / b = Rat.divInt (a.num * b.den) (a.den * b.num) := by
    rw [Rat.div_def, Rat.inv_def]
    conv => lhs; rw [← Rat.num_divInt_den a]
    rw [Rat.divInt_mul_divInt]
  have r := red_eq (a.num * b.den) (a.den * b.num) (Int.mul_ne_zero (den_ne a) bn) (by rw [Int.natAbs_mul]; have := log2_mul ha.2 hb.1; simp at this ⊢; omega)
  have m1 : a.num.natAbs.log2 + b.den.log2 < 1000000 := by omega
  have m2 : a.den.log2 + b.num.natAbs.log2 < 1000000 := by omega
  simp [F_over, runP, S_over, seqS, setS, ifS, retS, nopS, parS, setG, tE, eT, opE, unE, varE, cE, consA, nilA, clE, g1, tupE, lstE, ifE, notE, notT, andT, orT, asB, eqD, neD, eqB_int, subD, ii0, mulD, fdivD, modD, iiD, negD, absD, intD, gtI, geI, leI, powD, addD, ltD, sizeLine, isND, notND, isNonB, Option.bind_some, Option.map_some, fq, ix0, ix1, m1, m2, r, e]
end
/-! the law's own fractions -/
abbrev lT : XT := tE (opE gtI (varE 1) (cE (.int 0)))
theorem lgcd_loop : ∀ (k : Nat) (a b : Int), 0 ≤ a → 0 ≤ b → b.natAbs < k → whileN lT gB k [some (.int a), some (.int b)] = .nx [some (.int (Int.gcd a b)), some (.int 0)]
  | 0, a, b, _, _, h => by omega
  | k + 1, a, b, ha, hb, h => by
    by_cases hz : b = 0
    · subst hz
      rw [whileN_end (ρ1 := [some (.int a), some (.int 0)]) (by simp [seqS, setS, ifS, retS, nopS, parS, setG, tE, eT, opE, unE, varE, cE, consA, nilA, clE, g1, tupE, lstE, ifE, notE, notT, andT, orT, asB, eqD, neD, eqB_int, subD, ii0, mulD, fdivD, modD, iiD, negD, absD, intD, gtI, geI, leI, powD, addD, ltD, sizeLine, isND, notND, isNonB, Option.bind_some, Option.map_some])]
      rw [Int.gcd_zero_right, Int.natAbs_of_nonneg ha]
    · have h1 : Int.fmod a b = a % b := Int.fmod_eq_emod_of_nonneg _ hb
      have hp : 0 < b := by omega
      have h2 := Int.emod_nonneg a hz
      have h3 := Int.emod_lt_of_pos a hp
      rw [whileN_nx (ρ1 := [some (.int a), some (.int b)]) (ρ2 := [some (.int b), some (.int (a % b))]) (by simp [seqS, setS, ifS, retS, nopS, parS, setG, tE, eT, opE, unE, varE, cE, consA, nilA, clE, g1, tupE, lstE, ifE, notE, notT, andT, orT, asB, eqD, neD, eqB_int, subD, ii0, mulD, fdivD, modD, iiD, negD, absD, intD, gtI, geI, leI, powD, addD, ltD, sizeLine, isND, notND, isNonB, Option.bind_some, Option.map_some, hp]) (by simp [seqS, setS, ifS, retS, nopS, parS, setG, tE, eT, opE, unE, varE, cE, consA, nilA, clE, g1, tupE, lstE, ifE, notE, notT, andT, orT, asB, eqD, neD, eqB_int, subD, ii0, mulD, fdivD, modD, iiD, negD, absD, intD, gtI, geI, leI, powD, addD, ltD, sizeLine, isND, notND, isNonB, Option.bind_some, Option.map_some, hz, h1]), lgcd_loop k b (a % b) hb h2 (by omega)]
      have e : Int.gcd b (a % b) = Int.gcd a b := by
        obtain ⟨x, rfl⟩ := Int.eq_ofNat_of_zero_le ha
        obtain ⟨y, rfl⟩ := Int.eq_ofNat_of_zero_le hb
        show Nat.gcd y _ = Nat.gcd x y
        rw [← Int.natCast_emod, Int.natAbs_natCast, Nat.gcd_comm y, ← Nat.gcd_rec, Nat.gcd_comm]
      rw [e]
theorem lcd_eq (a b : Int) : F__law_common [.int a, .int b] = some (.int (Int.gcd a b)) := by
  have h := lgcd_loop (b.natAbs + 1) a.natAbs b.natAbs (by omega) (by omega) (by omega)
  have hg : Int.gcd (a.natAbs : Int) (b.natAbs : Int) = Int.gcd a b := rfl
  rw [hg] at h
  have e : S__law_common [some (.int a), some (.int b)] = .rt (.int (Int.gcd a b)) [some (.int (Int.gcd a b)), some (.int 0)] := by
    unfold S__law_common
    rw [seqS_nx (ρ1 := [some (.int a.natAbs), some (.int b.natAbs)]) (by simp [seqS, setS, ifS, retS, nopS, parS, setG, tE, eT, opE, unE, varE, cE, consA, nilA, clE, g1, tupE, lstE, ifE, notE, notT, andT, orT, asB, eqD, neD, eqB_int, subD, ii0, mulD, fdivD, modD, iiD, negD, absD, intD, gtI, geI, leI, powD, addD, ltD, sizeLine, isND, notND, isNonB, Option.bind_some, Option.map_some, abs_if])]
    rw [seqS_nx (ρ1 := [some (.int (Int.gcd a b)), some (.int 0)]) (by simp only [whileS, fuN]; exact h)]
    simp [seqS, setS, ifS, retS, nopS, parS, setG, tE, eT, opE, unE, varE, cE, consA, nilA, clE, g1, tupE, lstE, ifE, notE, notT, andT, orT, asB, eqD, neD, eqB_int, subD, ii0, mulD, fdivD, modD, iiD, negD, absD, intD, gtI, geI, leI, powD, addD, ltD, sizeLine, isND, notND, isNonB, Option.bind_some, Option.map_some]
  simp [F__law_common, runP, e]
theorem max2_int (a b : Int) : max2G [.int a, .int b] = some (.int (if a < b then b else a)) := rfl
theorem lred_eq (n d : Int) (hd : d ≠ 0) (hb : d.natAbs.log2 < 9000) : F__law_reduced [.int n, .int d] = some (fq (Rat.divInt n d)) := by
  have hg := lcd_eq n d
  rw [Int.gcd_comm] at hg
  have g0 : Int.gcd d n ≠ 0 := fun z => hd (Int.gcd_eq_zero_iff.mp z).1
  have gd : Int.gcd d n ∣ d.natAbs := Int.gcd_dvd_natAbs_left d n
  have gl : (Int.gcd d n).log2 < 9000 := by
    have h1 : Int.gcd d n ≤ d.natAbs := Nat.le_of_dvd (by omega) gd
    exact Nat.lt_of_le_of_lt ((Nat.le_log2 (by omega)).mpr (Nat.le_trans (Nat.log2_self_le g0) h1)) hb
  obtain ⟨x, hx⟩ : ((Int.gcd d n : Nat) : Int) ∣ n := Int.gcd_dvd_right ..
  obtain ⟨y, hy⟩ : ((Int.gcd d n : Nat) : Int) ∣ d := Int.gcd_dvd_left ..
  generalize hG : Int.gcd d n = g at *
  have gz : (g : Int) ≠ 0 := by omega
  have hn : (Rat.divInt n d).num = d.sign * x := by
    rw [Rat.num_divInt, hG]
    conv => lhs; rw [hx, ← Int.mul_assoc, Int.mul_comm d.sign, Int.mul_assoc, Int.mul_ediv_cancel_left _ gz]
  have hdn : ((Rat.divInt n d).den : Int) = d.sign * y := by
    rw [Rat.den_divInt, hG, if_neg hd, Int.natCast_ediv]
    have e : (d.natAbs : Int) = g * (d.sign * y) := by
      have e0 : (d.natAbs : Int) = d.sign * d := by
        rcases Int.lt_or_gt_of_ne hd with h | h
        · rw [Int.sign_eq_neg_one_of_neg h]; omega
        · rw [Int.sign_eq_one_of_pos h]; omega
      rw [e0]
      generalize d.sign = s
      rw [hy]
      grind
    rw [e, Int.mul_ediv_cancel_left _ gz]
  have q1 : ∀ z : Int, ((g : Int) * z).fdiv g = z := fun z => Int.mul_fdiv_cancel_left z gz
  have q2 : ∀ z : Int, (-((g : Int) * z)).fdiv g = -z := fun z => by
    have e : -((g : Int) * z) = g * -z := by grind
    rw [e]
    exact Int.mul_fdiv_cancel_left (-z) gz
  have mx : (if (1 : Int) < g then (g : Int) else 1) = g := by split <;> omega
  rcases Int.lt_or_gt_of_ne hd with hl | hl
  · have sg : d.sign = -1 := Int.sign_eq_neg_one_of_neg hl
    rw [sg] at hn hdn
    have e1 : (-n).fdiv g = (Rat.divInt n d).num := by rw [hn, hx, q2]; omega
    have e2 : (-d).fdiv g = (Rat.divInt n d).den := by rw [hdn, hy, q2]; omega
    simp [F__law_reduced, runP, S__law_reduced, seqS, setS, ifS, retS, nopS, parS, setG, tE, eT, opE, unE, varE, cE, consA, nilA, clE, g1, tupE, lstE, ifE, notE, notT, andT, orT, asB, eqD, neD, eqB_int, subD, ii0, mulD, fdivD, modD, iiD, negD, absD, intD, gtI, geI, leI, powD, addD, ltD, sizeLine, isND, notND, isNonB, Option.bind_some, Option.map_some, max2_int, hg, hl, g0, gl, e1, e2, fq, mx]
  · have sg : d.sign = 1 := Int.sign_eq_one_of_pos hl
    have c1 : ¬ (d < 0) := by omega
    rw [sg] at hn hdn
    have e1 : n.fdiv g = (Rat.divInt n d).num := by rw [hn, hx, q1]; omega
    have e2 : d.fdiv g = (Rat.divInt n d).den := by rw [hdn, hy, q1]; omega
    simp [F__law_reduced, runP, S__law_reduced, seqS, setS, ifS, retS, nopS, parS, setG, tE, eT, opE, unE, varE, cE, consA, nilA, clE, g1, tupE, lstE, ifE, notE, notT, andT, orT, asB, eqD, neD, eqB_int, subD, ii0, mulD, fdivD, modD, iiD, negD, absD, intD, gtI, geI, leI, powD, addD, ltD, sizeLine, isND, notND, isNonB, Option.bind_some, Option.map_some, max2_int, hg, c1, g0, gl, e1, e2, fq, mx]
section
variable {a b : Rat} {s t : Nat}
theorem ltimes_eq (ha : Sz s a) (hb : Sz t b) (h : s + t < 9000) : F__law_multiplied [fq a, fq b] = some (fq (a * b)) := by
  have l1 := log2_of ha.1
  have l2 := log2_of ha.2
  have l3 := log2_of hb.1
  have l4 := log2_of hb.2
  have e : a * b = Rat.divInt (a.num * b.num) (a.den * b.den) := by rw [Rat.mul_def', ← Rat.divInt_ofNat, Int.natCast_mul]
  have r := lred_eq (a.num * b.num) (a.den * b.den) (Int.mul_ne_zero (den_ne a) (den_ne b)) (by rw [natAbs_mul_dd]; have := log2_mul ha.2 hb.2; omega)
  have m1 : a.num.natAbs.log2 + b.num.natAbs.log2 < 1000000 := by omega
  have m2 : a.den.log2 + b.den.log2 < 1000000 := by omega
  simp [F__law_multiplied, runP, S__law_multiplied, seqS, setS, ifS, retS, nopS, parS, setG, tE, eT, opE, unE, varE, cE, consA, nilA, clE, g1, tupE, lstE, ifE, notE, notT, andT, orT, asB, eqD, neD, eqB_int, subD, ii0, mulD, fdivD, modD, iiD, negD, absD, intD, gtI, geI, leI, powD, addD, ltD, sizeLine, isND, notND, isNonB, Option.bind_some, Option.map_some, fq, ix0, ix1, m1, m2, r, e]
theorem ladded_eq (ha : Sz s a) (hb : Sz t b) (h : s + t < 9000) : F__law_added [fq a, fq b] = some (fq (a + b)) := by
  have l1 := log2_of ha.1
  have l2 := log2_of ha.2
  have l3 := log2_of hb.1
  have l4 := log2_of hb.2
  have e : a + b = Rat.divInt (a.num * b.den + b.num * a.den) (a.den * b.den) := by
    conv => lhs; rw [← Rat.num_divInt_den a, ← Rat.num_divInt_den b]
    rw [Rat.divInt_add_divInt _ _ (den_ne a) (den_ne b)]
  have r := lred_eq (a.num * b.den + b.num * a.den) (a.den * b.den) (Int.mul_ne_zero (den_ne a) (den_ne b)) (by rw [natAbs_mul_dd]; have := log2_mul ha.2 hb.2; omega)
  have m1 : a.num.natAbs.log2 + b.den.log2 < 1000000 := by omega
  have m2 : a.den.log2 + b.den.log2 < 1000000 := by omega
  have m3 : b.num.natAbs.log2 + a.den.log2 < 1000000 := by omega
  simp [F__law_added, runP, S__law_added, seqS, setS, ifS, retS, nopS, parS, setG, tE, eT, opE, unE, varE, cE, consA, nilA, clE, g1, tupE, lstE, ifE, notE, notT, andT, orT, asB, eqD, neD, eqB_int, subD, ii0, mulD, fdivD, modD, iiD, negD, absD, intD, gtI, geI, leI, powD, addD, ltD, sizeLine, isND, notND, isNonB, Option.bind_some, Option.map_some, fq, ix0, ix1, m1, m2, m3, r, e]
end
end Lay

namespace Lay
open PySem PySem.Spec PyProof.Rows L2

/-! ## sizes -/
def Bq (s : Nat) (x : Rat) : Prop := ∃ (d : Nat) (p : Int), 0 < d ∧ d < 2 ^ s ∧ p.natAbs < 2 ^ s ∧ x = Rat.divInt p d
theorem Bq.sz {s : Nat} {x : Rat} (h : Bq s x) : Sz s x := by
  obtain ⟨d, p, h1, h2, h3, rfl⟩ := h
  have g0 : 0 < Int.gcd (d : Int) p := Int.gcd_pos_of_ne_zero_left _ (by omega)
  constructor
  · rw [Rat.num_divInt]
    have e : ((d : Int).sign * p / (Int.gcd (d : Int) p : Nat)).natAbs ≤ p.natAbs := by
      rw [Int.sign_eq_one_of_pos (by omega), Int.one_mul]
      exact Int.natAbs_ediv_le_natAbs p _
    exact Nat.lt_of_le_of_lt e h3
  · rw [Rat.den_divInt, if_neg (by omega)]
    exact Nat.lt_of_le_of_lt (Nat.div_le_self _ _) h2
theorem Sz.mono {s t : Nat} {x : Rat} (h : Sz s x) (l : s ≤ t) : Sz t x := by
  have := Nat.pow_le_pow_right (n := 2) (by omega) l
  exact ⟨Nat.lt_of_lt_of_le h.1 this, Nat.lt_of_lt_of_le h.2 this⟩
theorem Bq.mono {s t : Nat} {x : Rat} (h : Bq s x) (l : s ≤ t) : Bq t x := by
  have := Nat.pow_le_pow_right (n := 2) (by omega) l
  obtain ⟨d, p, h1, h2, h3, e⟩ := h
  exact ⟨d, p, h1, Nat.lt_of_lt_of_le h2 this, Nat.lt_of_lt_of_le h3 this, e⟩
theorem Bq.of {s : Nat} {x : Rat} (h : Sz s x) : Bq s x := ⟨x.den, x.num, by have := x.den_nz; omega, h.2, h.1, (Rat.num_divInt_den x).symm⟩
theorem Bq.mul {s t : Nat} {x y : Rat} (h : Bq s x) (h' : Bq t y) : Bq (s + t) (x * y) := by
  obtain ⟨d, p, h1, h2, h3, rfl⟩ := h
  obtain ⟨e, q, k1, k2, k3, rfl⟩ := h'
  refine ⟨d * e, p * q, Nat.mul_pos h1 k1, ?_, ?_, ?_⟩
  · rw [Nat.pow_add]; exact Nat.mul_lt_mul'' h2 k2
  · rw [Nat.pow_add, Int.natAbs_mul]; exact Nat.mul_lt_mul'' h3 k3
  · rw [Rat.divInt_mul_divInt, Int.natCast_mul]
theorem Bq.add {s t : Nat} {x y : Rat} (h : Bq s x) (h' : Bq t y) : Bq (s + t + 1) (x + y) := by
  obtain ⟨d, p, h1, h2, h3, rfl⟩ := h
  obtain ⟨e, q, k1, k2, k3, rfl⟩ := h'
  refine ⟨d * e, p * e + q * d, Nat.mul_pos h1 k1, ?_, ?_, ?_⟩
  · rw [Nat.pow_succ, Nat.pow_add]
    have := Nat.mul_lt_mul'' h2 k2
    omega
  · rw [Nat.pow_succ, Nat.pow_add]
    have a1 := Nat.mul_lt_mul'' h3 k2
    have a2 := Nat.mul_lt_mul'' k3 h2
    have a3 : (p * (e : Int)).natAbs = p.natAbs * e := by rw [Int.natAbs_mul]; rfl
    have a4 : (q * (d : Int)).natAbs = q.natAbs * d := by rw [Int.natAbs_mul]; rfl
    have a5 := Int.natAbs_add_le (p * (e : Int)) (q * d)
    have a6 : 2 ^ t * 2 ^ s = 2 ^ s * 2 ^ t := Nat.mul_comm _ _
    omega
  · rw [Rat.divInt_add_divInt _ _ (by omega) (by omega), Int.natCast_mul]
/-- a row with one denominator -/
def Br (s m : Nat) (f : Nat → Rat) : Prop := ∃ (d : Nat) (p : Nat → Int), 0 < d ∧ d < 2 ^ s ∧ ∀ j, j < m → (p j).natAbs < 2 ^ s ∧ f j = Rat.divInt (p j) d
theorem Br.at {s m : Nat} {f : Nat → Rat} (h : Br s m f) {j : Nat} (hj : j < m) : Bq s (f j) := by
  obtain ⟨d, p, h1, h2, h3⟩ := h
  exact ⟨d, p j, h1, h2, (h3 j hj).1, (h3 j hj).2⟩
theorem Br.mono {s t m : Nat} {f : Nat → Rat} (h : Br s m f) (l : s ≤ t) : Br t m f := by
  have := Nat.pow_le_pow_right (n := 2) (by omega) l
  obtain ⟨d, p, h1, h2, h3⟩ := h
  exact ⟨d, p, h1, Nat.lt_of_lt_of_le h2 this, fun j hj => ⟨Nat.lt_of_lt_of_le (h3 j hj).1 this, (h3 j hj).2⟩⟩
theorem Br.scale {s m k : Nat} {f : Nat → Rat} (h : Br s m f) (hk : k < m) (nz : f k ≠ 0) : Br s m fun j => f j / f k := by
  obtain ⟨d, p, h1, h2, h3⟩ := h
  have hd : (d : Int) ≠ 0 := by omega
  have pk : p k ≠ 0 := fun z => nz (by rw [(h3 k hk).2, z]; exact Rat.zero_divInt _)
  have key : ∀ j, j < m → f j / f k = Rat.divInt (p j) (p k) := fun j hj => by
    rw [(h3 j hj).2, (h3 k hk).2, Rat.divInt_eq_div, Rat.divInt_eq_div, Rat.divInt_eq_div]
    have a1 : ((d : Int) : Rat) ≠ 0 := by
      intro z
      exact hd (by exact_mod_cast z)
    have a2 : ((p k : Int) : Rat) ≠ 0 := by
      intro z
      exact pk (by exact_mod_cast z)
    grind
  rcases Int.lt_or_gt_of_ne pk with l | l
  · refine ⟨(p k).natAbs, fun j => -p j, by omega, (h3 k hk).1, fun j hj => ⟨by rw [Int.natAbs_neg]; exact (h3 j hj).1, ?_⟩⟩
    show f j / f k = _
    rw [key j hj, show ((p k).natAbs : Int) = -p k by omega, Rat.neg_divInt_neg]
  · refine ⟨(p k).natAbs, p, by omega, (h3 k hk).1, fun j hj => ⟨(h3 j hj).1, ?_⟩⟩
    show f j / f k = _
    rw [key j hj, show ((p k).natAbs : Int) = p k by omega]
theorem Br.sub {s m k : Nat} {f g : Nat → Rat} (h : Br s m f) (h' : Br s m g) (hk : k < m) : Br (2 * s + 1) m fun j => f j - f k * g j := by
  obtain ⟨d, p, h1, h2, h3⟩ := h
  obtain ⟨e, q, k1, k2, k3⟩ := h'
  have ps : 2 ^ (2 * s + 1) = 2 * (2 ^ s * 2 ^ s) := by
    rw [Nat.pow_succ, show 2 * s = s + s by omega, Nat.pow_add]; omega
  refine ⟨d * e, fun j => p j * e - p k * q j, Nat.mul_pos h1 k1, ?_, fun j hj => ⟨?_, ?_⟩⟩
  · rw [ps]
    have := Nat.mul_lt_mul'' h2 k2
    omega
  · rw [ps]
    have a1 := Nat.mul_lt_mul'' (h3 j hj).1 k2
    have a2 := Nat.mul_lt_mul'' (h3 k hk).1 (k3 j hj).1
    have a3 : (p j * (e : Int)).natAbs = (p j).natAbs * e := by rw [Int.natAbs_mul]; rfl
    have a4 : (p k * q j).natAbs = (p k).natAbs * (q j).natAbs := Int.natAbs_mul _ _
    have a5 := Int.natAbs_sub_le (p j * (e : Int)) (p k * q j)
    show (p j * (e : Int) - p k * q j).natAbs < _
    omega
  · show f j - f k * g j = _
    rw [(h3 j hj).2, (h3 k hk).2, (k3 j hj).2, Rat.divInt_mul_divInt, Rat.divInt_sub_divInt _ _ (by omega) (by
      have : (d : Int) * e ≠ 0 := Int.mul_ne_zero (by omega) (by omega)
      exact this)]
    rw [Int.natCast_mul]
    have : (d : Int) ≠ 0 := by omega
    rw [show p j * ((d : Int) * e) - p k * q j * d = d * (p j * e - p k * q j) by grind, show (d : Int) * (d * e) = d * (d * e) from rfl, Rat.divInt_mul_left this]
end Lay

namespace Lay

/-! ## straight pieces -/
theorem rle_total (a b : Rat) : a ≤ b ∨ b ≤ a := Rat.le_total
theorem rmul_pos {a b : Rat} (h : 0 < a) (h' : 0 < b) : 0 < a * b := Rat.mul_pos h h'
theorem rmul_nn {a b : Rat} (h : 0 ≤ a) (h' : 0 ≤ b) : 0 ≤ a * b := Rat.mul_nonneg h h'
theorem rdiv_mul {a c : Rat} (h : 0 < c) : a / c * c = a := by grind
theorem rinv_pos {c : Rat} (h : 0 < c) : 0 < c⁻¹ := by
  rcases rle_total (c⁻¹) 0 with q | q
  · have e : c * c⁻¹ = 1 := by grind
    have : 0 ≤ c * -c⁻¹ := rmul_nn (by grind) (by grind)
    grind
  · have e : c * c⁻¹ = 1 := by grind
    grind
theorem rdiv_pos {a c : Rat} (h : 0 < c) (h' : 0 < a) : 0 < a / c := by
  rw [Rat.div_def]; exact rmul_pos h' (rinv_pos h)
theorem rdiv_nn {a c : Rat} (h : 0 < c) (h' : 0 ≤ a) : 0 ≤ a / c := by
  rw [Rat.div_def]; exact rmul_nn h' (by have := rinv_pos h; grind)
theorem rmul_le {a b c : Rat} (h : 0 ≤ c) (h' : a ≤ b) : c * a ≤ c * b := by
  have := rmul_nn h (show 0 ≤ b - a by grind)
  grind
theorem rmul_lt {a b c : Rat} (h : 0 < c) (h' : a < b) : c * a < c * b := by
  have := rmul_pos h (show 0 < b - a by grind)
  grind

abbrev Pt := Rat × Rat
def sb (p q : Pt) : Rat := (q.2 - p.2) / (q.1 - p.1)
def pl (s : Rat) : Pt → List Pt → Rat → Rat
  | p, [], x => p.2 + s * (x - p.1)
  | p, q :: r, x => if x < q.1 then p.2 + sb p q * (x - p.1) else pl s q r x
/-- the slope just above -/
def slA (s : Rat) : Pt → List Pt → Rat → Rat
  | _, [], _ => s
  | p, q :: r, x => if x < q.1 then sb p q else slA s q r x
def Asc : Pt → List Pt → Prop
  | _, [] => True
  | p, q :: r => p.1 < q.1 ∧ p.2 ≤ q.2 ∧ Asc q r
theorem sb_mul {p q : Pt} (h : p.1 < q.1) : sb p q * (q.1 - p.1) = q.2 - p.2 := rdiv_mul (by grind)
theorem sb_nn {p q : Pt} (h : p.1 < q.1) (h' : p.2 ≤ q.2) : 0 ≤ sb p q := rdiv_nn (by grind) (by grind)
theorem sb_pos {p q : Pt} (h : p.1 < q.1) (h' : p.2 < q.2) : 0 < sb p q := rdiv_pos (by grind) (by grind)
theorem sb_eq {p q : Pt} {k : Rat} (h : p.1 < q.1) (e : k * (q.1 - p.1) = q.2 - p.2) : sb p q = k := by
  have := sb_mul h
  have : (sb p q - k) * (q.1 - p.1) = 0 := by grind
  grind
section
variable {s : Rat}
theorem pl_start : ∀ {p : Pt} {r : List Pt}, Asc p r → pl s p r p.1 = p.2
  | p, [], _ => by simp only [pl]; grind
  | p, q :: r, h => by simp only [pl]; rw [if_pos h.1]; grind
theorem slA_nn (hs : 0 ≤ s) : ∀ {p : Pt} {r : List Pt} {x : Rat}, Asc p r → 0 ≤ slA s p r x
  | p, [], x, _ => hs
  | p, q :: r, x, h => by
    simp only [slA]
    split
    · exact sb_nn h.1 h.2.1
    · exact slA_nn hs h.2.2
theorem pl_ge (hs : 0 ≤ s) : ∀ {p : Pt} {r : List Pt} {x : Rat}, Asc p r → p.1 ≤ x → p.2 ≤ pl s p r x
  | p, [], x, _, hx => by
    simp only [pl]
    have := rmul_nn hs (show 0 ≤ x - p.1 by grind)
    grind
  | p, q :: r, x, h, hx => by
    simp only [pl]
    split
    · have := rmul_nn (sb_nn h.1 h.2.1) (show 0 ≤ x - p.1 by grind)
      grind
    · have := pl_ge hs (x := x) h.2.2 (by grind)
      have := h.2.1
      grind
theorem pl_le {p q : Pt} {x : Rat} (h1 : p.1 < q.1) (h2 : p.2 ≤ q.2) (hx : x ≤ q.1) : p.2 + sb p q * (x - p.1) ≤ q.2 := by
  have e := sb_mul h1
  have := rmul_nn (sb_nn h1 h2) (show 0 ≤ q.1 - x by grind)
  grind
theorem pl_mono (hs : 0 ≤ s) : ∀ {p : Pt} {r : List Pt} {x y : Rat}, Asc p r → p.1 ≤ x → x ≤ y → pl s p r x ≤ pl s p r y
  | p, [], x, y, _, hx, hy => by
    simp only [pl]
    have := rmul_le hs hy
    grind
  | p, q :: r, x, y, h, hx, hy => by
    simp only [pl]
    by_cases h1 : y < q.1
    · rw [if_pos (show x < q.1 by grind), if_pos h1]
      have := rmul_le (sb_nn h.1 h.2.1) hy
      grind
    · rw [if_neg h1]
      by_cases h2 : x < q.1
      · rw [if_pos h2]
        have a := pl_le h.1 h.2.1 (x := x) (by grind)
        have b := pl_ge hs (x := y) h.2.2 (by grind)
        grind
      · rw [if_neg h2]
        exact pl_mono hs h.2.2 (by grind) hy
theorem pl_gap : ∀ {p : Pt} {r : List Pt} {u x : Rat}, Asc p r → p.1 ≤ u → u ≤ x → (∀ c ∈ r, c.1 ≤ u ∨ x ≤ c.1) → pl s p r x = pl s p r u + slA s p r u * (x - u)
  | p, [], u, x, _, _, _, _ => by simp only [pl, slA]; grind
  | p, q :: r, u, x, h, hu, hx, hc => by
    simp only [pl, slA]
    by_cases h1 : u < q.1
    · have h2 : x ≤ q.1 := by
        rcases hc q List.mem_cons_self with k | k
        · grind
        · exact k
      rw [if_pos h1, if_pos h1]
      by_cases h3 : x < q.1
      · rw [if_pos h3]; grind
      · have e : x = q.1 := by grind
        rw [if_neg h3, e, pl_start h.2.2]
        have := sb_mul h.1
        grind
    · rw [if_neg h1, if_neg h1, if_neg (by grind)]
      exact pl_gap h.2.2 (by grind) hx fun c hc' => hc c (List.mem_cons_of_mem _ hc')
theorem slA_end : ∀ {p : Pt} {r : List Pt} {u : Rat}, (∀ c ∈ r, c.1 ≤ u) → slA s p r u = s
  | p, [], _, _ => rfl
  | p, q :: r, u, h => by
    simp only [slA]
    have := h q List.mem_cons_self
    rw [if_neg (by grind)]
    exact slA_end fun c hc => h c (List.mem_cons_of_mem _ hc)
/-! corners on a straight stretch are left out -/
def nrm (s : Rat) : Pt → List Pt → List Pt
  | _, [] => []
  | p, [h] => if sb p h ≠ s then [h] else []
  | p, h :: h2 :: r => if sb p h ≠ sb h h2 then h :: nrm s h (h2 :: r) else nrm s p (h2 :: r)
theorem Asc.drop {p h h2 : Pt} {r : List Pt} (q : Asc p (h :: h2 :: r)) : Asc p (h2 :: r) := by
  obtain ⟨a, b, c, d, e⟩ := q
  exact ⟨by grind, by grind, e⟩
theorem nrm_sub : ∀ {r : List Pt} {p : Pt}, ∀ c ∈ nrm s p r, c ∈ r
  | [], p, c, h => by simp [nrm] at h
  | [q], p, c, h => by
    simp only [nrm] at h
    split at h
    · exact h
    · simp at h
  | q :: q2 :: r, p, c, h => by
    simp only [nrm] at h
    split at h
    · rcases List.mem_cons.mp h with h | h
      · exact h ▸ List.mem_cons_self
      · exact List.mem_cons_of_mem _ (nrm_sub c h)
    · exact List.mem_cons_of_mem _ (nrm_sub c h)
theorem nrm_len : ∀ {r : List Pt} {p : Pt}, (nrm s p r).length ≤ r.length
  | [], p => Nat.le_refl _
  | [q], p => by
    simp only [nrm]
    split <;> simp
  | q :: q2 :: r, p => by
    simp only [nrm]
    split
    · have := nrm_len (r := q2 :: r) (p := q)
      simp only [List.length_cons] at this ⊢
      omega
    · have := nrm_len (r := q2 :: r) (p := p)
      simp only [List.length_cons] at this ⊢
      omega
theorem nrm_asc : ∀ {r : List Pt} {p : Pt}, Asc p r → Asc p (nrm s p r)
  | [], p, h => h
  | [q], p, h => by
    simp only [nrm]
    split
    · exact h
    · trivial
  | q :: q2 :: r, p, h => by
    simp only [nrm]
    split
    · exact ⟨h.1, h.2.1, nrm_asc h.2.2⟩
    · exact nrm_asc h.drop
theorem pl_nrm : ∀ {r : List Pt} {p : Pt} {x : Rat}, Asc p r → pl s p (nrm s p r) x = pl s p r x
  | [], p, x, h => rfl
  | [q], p, x, h => by
    simp only [nrm]
    split
    · rfl
    · rename_i e
      have e : sb p q = s := Classical.not_not.mp e
      have := sb_mul h.1
      simp only [pl]
      rw [e] at this ⊢
      split <;> grind
  | q :: q2 :: r, p, x, h => by
    simp only [nrm]
    split
    · simp only [pl]
      rw [pl_nrm h.2.2]
      simp only [pl]
    · rename_i e
      have e : sb p q = sb q q2 := Classical.not_not.mp e
      rw [pl_nrm h.drop]
      have e1 := sb_mul h.1
      have e2 := sb_mul h.2.2.1
      have e3 : sb p q2 = sb p q := sb_eq (by have := h.1; have := h.2.2.1; grind) (by rw [e] at e1 ⊢; grind)
      simp only [pl]
      rw [e3]
      by_cases h1 : x < q.1
      · rw [if_pos h1, if_pos (by have := h.2.2.1; grind)]
      · rw [if_neg h1]
        by_cases h2 : x < q2.1
        · rw [if_pos h2, if_pos h2, e]; rw [e] at e1; grind
        · rw [if_neg h2, if_neg h2]
/-! the least level of a pay -/
def Lst (F : Rat → Rat) (l a : Rat) : Option Rat → Prop
  | some L => l ≤ L ∧ F L = a ∧ ∀ y, l ≤ y → y < L → F y ≠ a
  | none => ∀ y, l ≤ y → F y ≠ a
theorem Lst.uni {F : Rat → Rat} {l a : Rat} : ∀ {L L' : Option Rat}, Lst F l a L → Lst F l a L' → L = L'
  | none, none, _, _ => rfl
  | some L, none, h, h' => absurd h.2.1 (h' L h.1)
  | none, some L, h, h' => absurd h'.2.1 (h L h'.1)
  | some L, some L', h, h' => by
    congr 1
    rcases rle_total L L' with q | q
    · rcases Rat.le_iff_lt_or_eq.mp q with k | k
      · exact absurd h.2.1 (h'.2.2 L h.1 k)
      · exact k
    · rcases Rat.le_iff_lt_or_eq.mp q with k | k
      · exact absurd h'.2.1 (h.2.2 L' h'.1 k)
      · exact k.symm
theorem Lst.congr {F G : Rat → Rat} {l a : Rat} (e : ∀ x, l ≤ x → F x = G x) : ∀ {L : Option Rat}, Lst F l a L → Lst G l a L
  | none, h => fun y hy => by rw [← e y hy]; exact h y hy
  | some L, h => ⟨h.1, by rw [← e L h.1]; exact h.2.1, fun y hy hl => by rw [← e y hy]; exact h.2.2 y hy hl⟩
theorem Lst.back {F : Rat → Rat} {l l' a : Rat} (hl : l ≤ l') (h0 : ∀ y, l ≤ y → y < l' → F y ≠ a) : ∀ {L : Option Rat}, Lst F l' a L → Lst F l a L
  | none, h => fun y hy => by
    by_cases q : y < l'
    · exact h0 y hy q
    · exact h y (by grind)
  | some L, h => ⟨by have := h.1; grind, h.2.1, fun y hy hL => by
    by_cases q : y < l'
    · exact h0 y hy q
    · exact h.2.2 y (by grind) hL⟩
def rch (s a : Rat) : Pt → List Pt → Option Rat
  | p, [] => if s = 0 then none else some (p.1 + (a - p.2) / s)
  | p, q :: r => if q.2 < a then rch s a q r else if sb p q = 0 then none else some (p.1 + (a - p.2) / sb p q)
theorem line_lst {F : Rat → Rat} {k u a : Rat} (hk : 0 < k) (ha : F u < a) (hF : ∀ y, u ≤ y → y ≤ u + (a - F u) / k → F y = F u + k * (y - u)) : Lst F u a (some (u + (a - F u) / k)) := by
  have e : (a - F u) / k * k = a - F u := rdiv_mul hk
  have d := rdiv_pos hk (show 0 < a - F u by grind)
  generalize hz : (a - F u) / k = z at *
  refine ⟨by grind, by rw [hF _ (by grind) (by grind)]; grind, fun y hy hl => ?_⟩
  rw [hF y hy (by grind)]
  have := rmul_lt hk (show y - u < z by grind)
  grind
theorem rch_lst (hs : 0 ≤ s) {a : Rat} : ∀ {r : List Pt} {p : Pt}, Asc p r → p.2 < a → Lst (pl s p r) p.1 a (rch s a p r)
  | [], p, h, ha => by
    simp only [rch]
    split
    · rename_i e
      intro y hy
      simp only [pl]
      grind
    · have hk : 0 < s := by grind
      have e : pl s p [] p.1 = p.2 := pl_start h
      have := line_lst (F := pl s p []) (u := p.1) (a := a) hk (by rw [e]; exact ha) fun y _ _ => by simp only [pl]; grind
      rw [e] at this
      exact this
  | q :: r, p, h, ha => by
    simp only [rch]
    by_cases h1 : q.2 < a
    · rw [if_pos h1]
      have ih := rch_lst hs h.2.2 h1
      have c : ∀ x, q.1 ≤ x → pl s q r x = pl s p (q :: r) x := fun x hx => by simp only [pl]; rw [if_neg (by grind)]
      refine (ih.congr c).back (by have := h.1; grind) fun y hy hl => ?_
      simp only [pl]
      rw [if_pos hl]
      have := pl_le h.1 h.2.1 (x := y) (by grind)
      grind
    · rw [if_neg h1]
      have hk : 0 < sb p q := sb_pos h.1 (by grind)
      rw [if_neg (by grind)]
      have e : pl s p (q :: r) p.1 = p.2 := pl_start h
      have := line_lst (F := pl s p (q :: r)) (u := p.1) (a := a) hk (by rw [e]; exact ha) fun y hy hl => by
        rw [e] at hl ⊢
        have em := sb_mul h.1
        have hd : (a - p.2) / sb p q ≤ q.1 - p.1 := by
          have e2 : (a - p.2) / sb p q * sb p q = a - p.2 := rdiv_mul hk
          rcases rle_total ((a - p.2) / sb p q) (q.1 - p.1) with k | k
          · exact k
          · have := rmul_le (show 0 ≤ sb p q by grind) k
            have k2 : sb p q * ((a - p.2) / sb p q - (q.1 - p.1)) = 0 := by grind
            rcases Rat.mul_eq_zero.mp k2 with z | z
            · grind
            · grind
        by_cases hy2 : y < q.1
        · simp only [pl]; rw [if_pos hy2]
        · have : y = q.1 := by grind
          rw [this]
          simp only [pl]
          rw [if_neg (by grind), pl_start h.2.2]
          grind
      rw [e] at this
      exact this
end
/-! what is straight between levels -/
def LinOn (F S : Rat → Rat) : Rat → List Rat → Prop
  | u, [] => ∀ x, u ≤ x → F x = F u + S u * (x - u)
  | u, v :: r => u < v ∧ (∀ x, u ≤ x → x ≤ v → F x = F u + S u * (x - u)) ∧ LinOn F S v r
def lastR : Rat → List Rat → Rat
  | u, [] => u
  | _, v :: r => lastR v r
section
variable {F S : Rat → Rat}
theorem pl_pts : ∀ {r : List Rat} {u x : Rat}, LinOn F S u r → u ≤ x → pl (S (lastR u r)) (u, F u) (r.map fun v => (v, F v)) x = F x
  | [], u, x, h, hx => by simp only [pl, List.map_nil, lastR]; rw [h x hx]
  | v :: r, u, x, h, hx => by
    simp only [pl, List.map_cons, lastR]
    split
    · rename_i q
      have e : sb (u, F u) (v, F v) = S u := sb_eq h.1 (by rw [h.2.1 v (by have := h.1; grind) (by grind)]; grind)
      rw [e, h.2.1 x hx (by grind)]
    · exact pl_pts h.2.2 (by grind)
theorem asc_pts (hm : ∀ x y, 0 ≤ x → x ≤ y → F x ≤ F y) : ∀ {r : List Rat} {u : Rat}, 0 ≤ u → LinOn F S u r → Asc (u, F u) (r.map fun v => (v, F v))
  | [], u, _, _ => trivial
  | v :: r, u, h0, h => ⟨h.1, hm u v h0 (by have := h.1; grind), asc_pts hm (by have := h.1; grind) h.2.2⟩
/-- the law's own way -/
def lwl (F : Rat → Rat) (a : Rat) : Rat → List Rat → Option Rat
  | u, [] => if F u = a then some u else if F u < F (u + 1) ∧ F u < a then some (u + (a - F u) / (F (u + 1) - F u) * (u + 1 - u)) else none
  | u, v :: r => if F u = a then some u else if F u < F v ∧ F u < a ∧ ¬ F v < a then some (u + (a - F u) / (F v - F u) * (v - u)) else lwl F a v r
theorem lwl_part {a u v k : Rat} (h : u < v) (hv : F v = F u + k * (v - u)) (hl : F u < F v) : 0 < k ∧ (a - F u) / (F v - F u) * (v - u) = (a - F u) / k := by
  have hk : 0 < k := by
    rcases rle_total k 0 with q | q
    · have := rmul_nn (show 0 ≤ -k by grind) (show 0 ≤ v - u by grind)
      grind
    · rcases Rat.le_iff_lt_or_eq.mp q with q | q
      · exact q
      · rw [← q] at hv; grind
  refine ⟨hk, ?_⟩
  have hp : 0 < k * (v - u) := rmul_pos hk (by grind)
  rw [hv]
  have e : F u + k * (v - u) - F u = k * (v - u) := by grind
  rw [e]
  have hd : v - u ≠ 0 := by grind
  have hk' : k ≠ 0 := by grind
  grind
theorem lwl_lst (hm : ∀ x y, 0 ≤ x → x ≤ y → F x ≤ F y) {a : Rat} : ∀ {r : List Rat} {u : Rat}, 0 ≤ u → LinOn F S u r → Lst F u a (lwl F a u r)
  | [], u, h0, h => by
    simp only [lwl]
    split
    · rename_i e
      exact ⟨by grind, e, fun y hy hl => by grind⟩
    · rename_i ne
      split
      · rename_i c
        obtain ⟨hk, e⟩ := lwl_part (F := F) (a := a) (u := u) (v := u + 1) (k := S u) (by grind) (h (u + 1) (by grind)) c.1
        rw [e]
        exact line_lst hk c.2 fun y hy _ => h y hy
      · rename_i c
        intro y hy e
        by_cases q : F u < a
        · have c : ¬ F u < F (u + 1) := fun z => c ⟨z, q⟩
          rw [h (u + 1) (by grind)] at c
          have := h y hy
          have := rmul_nn (show 0 ≤ -S u by grind) (show 0 ≤ y - u by grind)
          grind
        · have := hm u y h0 hy
          grind
  | v :: r, u, h0, h => by
    simp only [lwl]
    split
    · rename_i e
      exact ⟨by grind, e, fun y hy hl => by grind⟩
    · rename_i ne
      split
      · rename_i c
        obtain ⟨hk, e⟩ := lwl_part (F := F) (a := a) (u := u) (v := v) (k := S u) h.1 (h.2.1 v (by have := h.1; grind) (by grind)) c.1
        rw [e]
        refine line_lst hk c.2.1 fun y hy hl => h.2.1 y hy ?_
        rw [← e] at hl
        have hd : 0 < F v - F u := by grind
        have e3 : (a - F u) / (F v - F u) * (F v - F u) = a - F u := rdiv_mul hd
        have hz : (a - F u) / (F v - F u) ≤ 1 := by
          rcases rle_total ((a - F u) / (F v - F u)) 1 with k | k
          · exact k
          · have := rmul_le (show 0 ≤ F v - F u by grind) k
            have k2 : (F v - F u) * ((a - F u) / (F v - F u) - 1) = 0 := by grind
            rcases Rat.mul_eq_zero.mp k2 with z | z
            · grind
            · grind
        have := rmul_le (show 0 ≤ v - u by have := h.1; grind) hz
        grind
      · rename_i c
        refine (lwl_lst hm (by have := h.1; grind) h.2.2).back (by have := h.1; grind) fun y hy hl e => ?_
        have e1 := h.2.1 y hy (by grind)
        have e2 := h.2.1 v (by have := h.1; grind) (by grind)
        by_cases q : F u < a
        · by_cases q2 : F u < F v
          · have q3 : F v < a := Classical.not_not.mp fun z => c ⟨q2, q, z⟩
            have := hm y v (by grind) (by grind)
            grind
          · have := hm u y h0 hy
            have := hm y v (by grind) (by grind)
            grind
        · have := hm u y h0 hy
          grind
end
end Lay

namespace Lay

/-! ## ascending levels -/
abbrev Asd (l : List Rat) : Prop := l.Pairwise (· < ·)
def cntB (x : Rat) (l : List Rat) : Nat := (l.filter fun y => decide (y < x)).length
def insU (l : List Rat) (x : Rat) : List Rat := if x ∈ l then l else l.take (cntB x l) ++ [x] ++ l.drop (cntB x l)
theorem cntB_cons {x y : Rat} {l : List Rat} : cntB x (y :: l) = if y < x then cntB x l + 1 else cntB x l := by
  unfold cntB
  rw [List.filter_cons]
  by_cases h : y < x <;> simp [h]
theorem cntB_zero {x : Rat} : ∀ {l : List Rat}, (∀ y ∈ l, x ≤ y) → cntB x l = 0
  | [], _ => rfl
  | y :: l, h => by
    have := h y List.mem_cons_self
    rw [cntB_cons, if_neg (by grind), cntB_zero fun z hz => h z (List.mem_cons_of_mem _ hz)]
theorem cntB_le (x : Rat) (l : List Rat) : cntB x l ≤ l.length := List.length_filter_le ..
theorem insU_mem {x y : Rat} {l : List Rat} : y ∈ insU l x ↔ y = x ∨ y ∈ l := by
  unfold insU
  split
  · rename_i h
    constructor
    · exact .inr
    · rintro (rfl | h2)
      · exact h
      · exact h2
  · have e : y ∈ l ↔ y ∈ l.take (cntB x l) ∨ y ∈ l.drop (cntB x l) := by
      conv => lhs; rw [← List.take_append_drop (cntB x l) l]
      exact List.mem_append
    rw [e]
    simp only [List.mem_append, List.mem_cons, List.not_mem_nil, or_false]
    constructor
    · rintro ((h | h) | h)
      · exact .inr (.inl h)
      · exact .inl h
      · exact .inr (.inr h)
    · rintro (h | h | h)
      · exact .inl (.inr h)
      · exact .inl (.inl h)
      · exact .inr h
theorem insU_asd : ∀ {l : List Rat} {x : Rat}, Asd l → Asd (insU l x)
  | [], x, _ => by simp [insU, cntB, Asd]
  | y :: l, x, h => by
    obtain ⟨h1, h2⟩ := List.pairwise_cons.mp h
    have ih := insU_asd (x := x) h2
    unfold insU
    split
    · exact h
    · rename_i hx
      have hne : x ≠ y := fun z => hx (z ▸ List.mem_cons_self)
      have hxl : x ∉ l := fun z => hx (List.mem_cons_of_mem _ z)
      rw [cntB_cons]
      by_cases q : y < x
      · rw [if_pos q]
        simp only [List.take_succ_cons, List.drop_succ_cons, List.cons_append]
        unfold insU at ih
        rw [if_neg hxl] at ih
        refine List.pairwise_cons.mpr ⟨fun z hz => ?_, ih⟩
        have : z ∈ insU l x := by unfold insU; rw [if_neg hxl]; exact hz
        rcases insU_mem.mp this with rfl | k
        · exact q
        · exact h1 z k
      · rw [if_neg q]
        have : cntB x l = 0 := cntB_zero fun z hz => by have := h1 z hz; grind
        rw [this]
        simp only [List.take_zero, List.drop_zero, List.nil_append, List.cons_append]
        refine List.pairwise_cons.mpr ⟨fun z hz => ?_, h⟩
        rcases List.mem_cons.mp hz with rfl | k
        · grind
        · have := h1 z k; grind
/-- as the law looks: the next one from there on -/
theorem insU_at : ∀ {l : List Rat} {x : Rat}, Asd l → (x ∈ l ↔ ∃ y, l[cntB x l]? = some y ∧ y = x)
  | [], x, _ => by simp
  | y :: l, x, h => by
    obtain ⟨h1, h2⟩ := List.pairwise_cons.mp h
    rw [cntB_cons]
    by_cases q : y < x
    · rw [if_pos q, List.getElem?_cons_succ, ← insU_at h2, List.mem_cons]
      constructor
      · rintro (k | k)
        · grind
        · exact k
      · exact .inr
    · rw [if_neg q]
      have : cntB x l = 0 := cntB_zero fun z hz => by have := h1 z hz; grind
      rw [this, List.getElem?_cons_zero, List.mem_cons]
      constructor
      · rintro (k | k)
        · exact ⟨y, rfl, k.symm⟩
        · have := h1 x k; grind
      · rintro ⟨z, k, rfl⟩
        exact .inl (Option.some.inj k).symm
def asU (xs : List Rat) : List Rat := xs.foldl insU []
theorem foldU_asd : ∀ {xs l : List Rat}, Asd l → Asd (xs.foldl insU l)
  | [], l, h => h
  | x :: xs, l, h => foldU_asd (xs := xs) (insU_asd h)
theorem foldU_mem {y : Rat} : ∀ {xs l : List Rat}, y ∈ xs.foldl insU l ↔ y ∈ xs ∨ y ∈ l
  | [], l => by simp
  | x :: xs, l => by
    rw [List.foldl_cons, foldU_mem, insU_mem, List.mem_cons]
    constructor
    · rintro (h | h | h)
      · exact .inl (.inr h)
      · exact .inl (.inl h)
      · exact .inr h
    · rintro ((h | h) | h)
      · exact .inr (.inl h)
      · exact .inl h
      · exact .inr (.inr h)
theorem asU_asd (xs : List Rat) : Asd (asU xs) := foldU_asd List.Pairwise.nil
theorem asU_mem {y : Rat} {xs : List Rat} : y ∈ asU xs ↔ y ∈ xs := by
  unfold asU
  rw [foldU_mem]
  simp
theorem insU_len (l : List Rat) (x : Rat) : (insU l x).length ≤ l.length + 1 := by
  unfold insU
  split
  · omega
  · simp; have := cntB_le x l; omega
theorem foldU_len : ∀ (xs l : List Rat), (xs.foldl insU l).length ≤ l.length + xs.length
  | [], l => by simp
  | x :: xs, l => by
    rw [List.foldl_cons, List.length_cons]
    have := foldU_len xs (insU l x)
    have := insU_len l x
    omega
theorem asU_len (xs : List Rat) : (asU xs).length ≤ xs.length := by
  have := foldU_len xs []
  simpa [asU] using this
/-- two ascending rows of the same are one -/
theorem asd_ext : ∀ {l m : List Rat}, Asd l → Asd m → (∀ x, x ∈ l ↔ x ∈ m) → l = m
  | [], [], _, _, _ => rfl
  | [], y :: m, _, _, h => absurd ((h y).mpr List.mem_cons_self) List.not_mem_nil
  | y :: l, [], _, _, h => absurd ((h y).mp List.mem_cons_self) List.not_mem_nil
  | x :: l, y :: m, hl, hm, h => by
    obtain ⟨l1, l2⟩ := List.pairwise_cons.mp hl
    obtain ⟨m1, m2⟩ := List.pairwise_cons.mp hm
    have e : x = y := by
      rcases List.mem_cons.mp ((h x).mp List.mem_cons_self) with k | k
      · exact k
      · rcases List.mem_cons.mp ((h y).mpr List.mem_cons_self) with k2 | k2
        · exact k2.symm
        · have := m1 x k; have := l1 y k2; grind
    subst e
    congr 1
    refine asd_ext l2 m2 fun z => ⟨fun hz => ?_, fun hz => ?_⟩
    · rcases List.mem_cons.mp ((h z).mp (List.mem_cons_of_mem _ hz)) with k | k
      · have := l1 z hz; grind
      · exact k
    · rcases List.mem_cons.mp ((h z).mpr (List.mem_cons_of_mem _ hz)) with k | k
      · have := m1 z hz; grind
      · exact k
/-- an ascending row of what is from 0 on, 0 in it -/
theorem asd_head {l : List Rat} (h : Asd l) (h0 : 0 ∈ l) (hp : ∀ x ∈ l, 0 ≤ x) : ∃ r, l = 0 :: r ∧ Asd (0 :: r) := by
  cases l with
  | nil => cases h0
  | cons x r =>
    have : x = 0 := by
      rcases List.mem_cons.mp h0 with k | k
      · exact k.symm
      · have := (List.pairwise_cons.mp h).1 0 k
        have := hp x List.mem_cons_self
        grind
    subst this
    exact ⟨r, rfl, h⟩
theorem lastR_ge : ∀ {r : List Rat} {u : Rat}, Asd (u :: r) → ∀ c ∈ u :: r, c ≤ lastR u r
  | [], u, _, c, hc => by rcases List.mem_cons.mp hc with rfl | k; exact Rat.le_refl; cases k
  | v :: r, u, h, c, hc => by
    obtain ⟨h1, h2⟩ := List.pairwise_cons.mp h
    rcases List.mem_cons.mp hc with rfl | k
    · have := lastR_ge h2 v List.mem_cons_self
      have := h1 v List.mem_cons_self
      show c ≤ lastR v r
      grind
    · exact lastR_ge h2 c k
/-! ## sums of straight pieces -/
structure Cu where
  p : Pt
  r : List Pt
  s : Rat
def Cu.at (c : Cu) (x : Rat) : Rat := pl c.s c.p c.r x
def Cu.sl (c : Cu) (x : Rat) : Rat := slA c.s c.p c.r x
structure Cu.Good (c : Cu) : Prop where
  z : c.p = (0, 0)
  asc : Asc c.p c.r
  s : 0 ≤ c.s
def sumL (l : List Rat) : Rat := l.foldl (· + ·) 0
theorem foldl_add : ∀ (l : List Rat) (a : Rat), l.foldl (· + ·) a = a + l.foldl (· + ·) 0
  | [], a => by simp; grind
  | x :: l, a => by
    rw [List.foldl_cons, List.foldl_cons, foldl_add l (a + x), foldl_add l (0 + x)]
    grind
theorem sumL_nil : sumL [] = 0 := rfl
theorem sumL_cons (x : Rat) (l : List Rat) : sumL (x :: l) = x + sumL l := by
  unfold sumL
  rw [List.foldl_cons, foldl_add]
  grind
theorem sumL_app (l m : List Rat) : sumL (l ++ m) = sumL l + sumL m := by
  induction l with
  | nil => rw [List.nil_append, sumL_nil]; grind
  | cons x l ih => rw [List.cons_append, sumL_cons, sumL_cons, ih]; grind
theorem sumL_perm {l m : List Rat} (h : l.Perm m) : sumL l = sumL m := by
  induction h with
  | nil => rfl
  | cons x _ ih => rw [sumL_cons, sumL_cons, ih]
  | swap x y l => rw [sumL_cons, sumL_cons, sumL_cons, sumL_cons]; grind
  | trans _ _ a b => rw [a, b]
def sumAt (cs : List Cu) (x : Rat) : Rat := sumL (cs.map fun c => c.at x)
def sumSl (cs : List Cu) (x : Rat) : Rat := sumL (cs.map fun c => c.sl x)
def sumS (cs : List Cu) : Rat := sumL (cs.map fun c => c.s)
theorem sumAt_gap {u x : Rat} (h0 : 0 ≤ u) (hx : u ≤ x) : ∀ {cs : List Cu}, (∀ c ∈ cs, c.Good) → (∀ c ∈ cs, ∀ q ∈ c.r, q.1 ≤ u ∨ x ≤ q.1) → sumAt cs x = sumAt cs u + sumSl cs u * (x - u)
  | [], _, _ => by simp only [sumAt, sumSl, List.map_nil, sumL_nil]; grind
  | c :: cs, g, h => by
    have ih := sumAt_gap h0 hx (cs := cs) (fun d hd => g d (List.mem_cons_of_mem _ hd)) fun d hd => h d (List.mem_cons_of_mem _ hd)
    have gc := g c List.mem_cons_self
    have := pl_gap (s := c.s) gc.asc (show c.p.1 ≤ u by rw [gc.z]; exact h0) hx (h c List.mem_cons_self)
    simp only [sumAt, sumSl, List.map_cons, sumL_cons, Cu.at, Cu.sl] at ih ⊢
    grind
theorem sumAt_mono {cs : List Cu} (g : ∀ c ∈ cs, c.Good) : ∀ x y, 0 ≤ x → x ≤ y → sumAt cs x ≤ sumAt cs y := fun x y hx hy => by
  induction cs with
  | nil => exact Rat.le_refl
  | cons c cs ih =>
    have ih := ih fun d hd => g d (List.mem_cons_of_mem _ hd)
    have gc := g c List.mem_cons_self
    have := pl_mono (s := c.s) gc.s gc.asc (show c.p.1 ≤ x by rw [gc.z]; exact hx) hy
    simp only [sumAt, List.map_cons, sumL_cons, Cu.at] at ih ⊢
    grind
theorem sumAt_zero {cs : List Cu} (g : ∀ c ∈ cs, c.Good) : sumAt cs 0 = 0 := by
  induction cs with
  | nil => rfl
  | cons c cs ih =>
    have ih := ih fun d hd => g d (List.mem_cons_of_mem _ hd)
    have gc := g c List.mem_cons_self
    have := pl_start (s := c.s) gc.asc
    rw [gc.z] at this
    simp only [sumAt, List.map_cons, sumL_cons, Cu.at] at ih ⊢
    rw [gc.z, this, ih]
    show (0 : Rat) + 0 = 0
    grind
theorem sumSl_end {cs : List Cu} {u : Rat} (h : ∀ c ∈ cs, ∀ q ∈ c.r, q.1 ≤ u) : sumSl cs u = sumS cs := by
  induction cs with
  | nil => rfl
  | cons c cs ih =>
    have ih := ih fun d hd => h d (List.mem_cons_of_mem _ hd)
    simp only [sumSl, sumS, List.map_cons, sumL_cons, Cu.sl] at ih ⊢
    rw [ih, slA_end (h c List.mem_cons_self)]
theorem linOn_of {cs : List Cu} (g : ∀ c ∈ cs, c.Good) : ∀ {r : List Rat} {u : Rat}, 0 ≤ u → Asd (u :: r) → (∀ c ∈ cs, ∀ q ∈ c.r, q.1 ≤ u ∨ q.1 ∈ r) → LinOn (sumAt cs) (sumSl cs) u r
  | [], u, h0, _, h => fun x hx => sumAt_gap h0 hx g fun c hc q hq => .inl ((h c hc q hq).elim id fun z => by cases z)
  | v :: r, u, h0, ha, h => by
    obtain ⟨h1, h2⟩ := List.pairwise_cons.mp ha
    have huv := h1 v List.mem_cons_self
    refine ⟨huv, fun x hx hv => sumAt_gap h0 hx g fun c hc q hq => ?_, linOn_of g (by grind) h2 fun c hc q hq => ?_⟩
    · rcases h c hc q hq with k | k
      · exact .inl k
      · right
        rcases List.mem_cons.mp k with e | k
        · rw [e]; exact hv
        · have := (List.pairwise_cons.mp h2).1 _ k; grind
    · rcases h c hc q hq with k | k
      · left; grind
      · rcases List.mem_cons.mp k with e | k
        · left; rw [e]; exact Rat.le_refl
        · exact .inr k
/-- the levels of all corners, 0 first -/
def lvs (cs : List Cu) : List Rat := asU (0 :: cs.flatMap fun c => (c.p :: c.r).map (·.1))
theorem asc_ge : ∀ {r : List Pt} {p : Pt}, Asc p r → ∀ q ∈ r, p.1 < q.1
  | q' :: r, p, h, q, hq => by
    rcases List.mem_cons.mp hq with rfl | k
    · exact h.1
    · have := asc_ge h.2.2 q k; have := h.1; grind
theorem lvs_head {cs : List Cu} (g : ∀ c ∈ cs, c.Good) : ∃ r, lvs cs = 0 :: r ∧ Asd (0 :: r) := by
  refine asd_head (asU_asd _) (asU_mem.mpr List.mem_cons_self) fun x hx => ?_
  rcases List.mem_cons.mp (asU_mem.mp hx) with rfl | k
  · exact Rat.le_refl
  · obtain ⟨c, hc, k⟩ := List.mem_flatMap.mp k
    obtain ⟨q, hq, rfl⟩ := List.mem_map.mp k
    have gc := g c hc
    rcases List.mem_cons.mp hq with rfl | hq
    · rw [gc.z]; exact Rat.le_refl
    · have := asc_ge gc.asc q hq
      rw [gc.z] at this
      exact Rat.le_of_lt this
theorem lvs_has {cs : List Cu} {r : List Rat} (e : lvs cs = 0 :: r) : ∀ c ∈ cs, ∀ q ∈ c.r, q.1 ≤ 0 ∨ q.1 ∈ r := fun c hc q hq => by
  have : q.1 ∈ lvs cs := asU_mem.mpr (List.mem_cons_of_mem _ (List.mem_flatMap.mpr ⟨c, hc, List.mem_map.mpr ⟨q, List.mem_cons_of_mem _ hq, rfl⟩⟩))
  rw [e] at this
  rcases List.mem_cons.mp this with k | k
  · left; rw [k]; exact Rat.le_refl
  · exact .inr k
theorem lvs_lin {cs : List Cu} (g : ∀ c ∈ cs, c.Good) {r : List Rat} (e : lvs cs = 0 :: r) (ha : Asd (0 :: r)) : LinOn (sumAt cs) (sumSl cs) 0 r := linOn_of g Rat.le_refl ha (lvs_has e)
theorem lvs_end {cs : List Cu} {r : List Rat} (e : lvs cs = 0 :: r) (ha : Asd (0 :: r)) : sumSl cs (lastR 0 r) = sumS cs := sumSl_end fun c hc q hq => by
  refine lastR_ge ha _ ?_
  rcases lvs_has e c hc q hq with k | k
  · have : q.1 ∈ lvs cs := asU_mem.mpr (List.mem_cons_of_mem _ (List.mem_flatMap.mpr ⟨c, hc, List.mem_map.mpr ⟨q, List.mem_cons_of_mem _ hq, rfl⟩⟩))
    rw [e] at this
    exact this
  · exact List.mem_cons_of_mem _ k
/-- the program's sum -/
def addU (cs : List Cu) : Cu := match lvs cs with
  | [] => ⟨(0, 0), [], 0⟩
  | u :: r => ⟨(u, sumAt cs u), nrm (sumS cs) (u, sumAt cs u) (r.map fun v => (v, sumAt cs v)), sumS cs⟩
theorem sumS_nn {cs : List Cu} (g : ∀ c ∈ cs, c.Good) : 0 ≤ sumS cs := by
  induction cs with
  | nil => exact Rat.le_refl
  | cons c cs ih =>
    have ih := ih fun d hd => g d (List.mem_cons_of_mem _ hd)
    have := (g c List.mem_cons_self).s
    simp only [sumS, List.map_cons, sumL_cons] at ih ⊢
    grind
theorem addU_good {cs : List Cu} (g : ∀ c ∈ cs, c.Good) : (addU cs).Good ∧ ∀ x, 0 ≤ x → (addU cs).at x = sumAt cs x := by
  obtain ⟨r, e, ha⟩ := lvs_head g
  have l := lvs_lin g e ha
  have le := lvs_end e ha
  have as := asc_pts (sumAt_mono g) Rat.le_refl l
  unfold addU
  rw [e]
  refine ⟨⟨by show (_, _) = _; rw [sumAt_zero g], nrm_asc as, sumS_nn g⟩, fun x hx => ?_⟩
  show pl _ _ _ _ = _
  rw [pl_nrm as, ← le, pl_pts l hx]
/-- the least level, the program's way and the law's one -/
def levU (cs : List Cu) (a : Rat) : Option Rat := if a ≤ 0 then some 0 else rch (addU cs).s a (addU cs).p (addU cs).r
def lawU (cs : List Cu) (a : Rat) : Option Rat := match lvs cs with
  | [] => none
  | u :: r => lwl (sumAt cs) a u r
theorem lev_law {cs : List Cu} (g : ∀ c ∈ cs, c.Good) {a : Rat} (ha0 : 0 ≤ a) : levU cs a = lawU cs a := by
  obtain ⟨r, e, ha⟩ := lvs_head g
  have l := lvs_lin g e ha
  obtain ⟨G, E⟩ := addU_good g
  have law : Lst (sumAt cs) 0 a (lawU cs a) := by
    unfold lawU
    rw [e]
    exact lwl_lst (sumAt_mono g) Rat.le_refl l
  refine Lst.uni (F := sumAt cs) (l := 0) (a := a) ?_ law
  unfold levU
  split
  · have : a = 0 := by grind
    subst this
    exact ⟨Rat.le_refl, sumAt_zero g, fun y hy hl => by grind⟩
  · have k := rch_lst (s := (addU cs).s) (a := a) G.s G.asc (by rw [G.z]; grind)
    rw [G.z] at k ⊢
    exact k.congr fun x hx => by
      have := E x hx
      unfold Cu.at at this
      rw [G.z] at this
      exact this
end Lay
namespace Lay
/-! ## where a level, a pay stands -/
theorem pl_loc {s : Rat} : ∀ {r : List Pt} {p : Pt} {x : Rat}, Asc p r → p.1 ≤ x → ∃ i b, ((p :: r).filter fun q => decide (q.1 ≤ x)).length = i + 1 ∧ (p :: r)[i]? = some b ∧ b.1 ≤ x ∧ pl s p r x = b.2 + slA s p r x * (x - b.1) ∧
    (i + 1 = (p :: r).length ∧ slA s p r x = s ∨ ∃ q, (p :: r)[i + 1]? = some q ∧ slA s p r x = sb b q ∧ b.1 < q.1)
  | [], p, x, _, hx => ⟨0, p, by simp [hx], rfl, hx, rfl, .inl ⟨rfl, rfl⟩⟩
  | q :: r, p, x, h, hx => by
    by_cases k : x < q.1
    · refine ⟨0, p, ?_, rfl, hx, by simp only [pl, slA, if_pos k], .inr ⟨q, rfl, by simp only [slA, if_pos k], h.1⟩⟩
      have e : (q :: r).filter (fun q => decide (q.1 ≤ x)) = [] := List.filter_eq_nil_iff.mpr fun c hc => by
        have : q.1 ≤ c.1 := by
          rcases List.mem_cons.mp hc with rfl | hc
          · exact Rat.le_refl
          · exact Rat.le_of_lt (asc_ge h.2.2 c hc)
        simp only [decide_eq_true_eq]
        grind
      rw [List.filter_cons_of_pos (by simpa using hx), e]
      rfl
    · obtain ⟨i, b, h1, h2, h3, h4, h5⟩ := pl_loc (s := s) (x := x) h.2.2 (by grind)
      refine ⟨i + 1, b, ?_, by simpa using h2, h3, by simp only [pl, slA, if_neg k]; exact h4, ?_⟩
      · rw [List.filter_cons_of_pos (by simpa using hx), List.length_cons, h1]
      · simp only [slA, if_neg k]
        rcases h5 with h5 | ⟨z, h5, h6⟩
        · left
          exact ⟨by rw [List.length_cons, h5.1], h5.2⟩
        · exact .inr ⟨z, by simpa using h5, h6⟩
theorem asc_pay : ∀ {r : List Pt} {p : Pt}, Asc p r → ∀ q ∈ r, p.2 ≤ q.2
  | q' :: r, p, h, q, hq => by
    rcases List.mem_cons.mp hq with rfl | k
    · exact h.2.1
    · have := asc_pay h.2.2 q k; have := h.2.1; grind
theorem rch_loc {s a : Rat} : ∀ {r : List Pt} {p : Pt}, Asc p r → p.2 < a → ∃ i b k, ((p :: r).filter fun q => decide (q.2 < a)).length = i + 1 ∧ (p :: r)[i]? = some b ∧
    (i + 1 = (p :: r).length ∧ k = s ∨ ∃ q, (p :: r)[i + 1]? = some q ∧ k = sb b q ∧ b.1 < q.1) ∧ rch s a p r = if k = 0 then none else some (b.1 + (a - b.2) / k)
  | [], p, _, ha => ⟨0, p, s, by simp [ha], rfl, .inl ⟨rfl, rfl⟩, rfl⟩
  | q :: r, p, h, ha => by
    by_cases k : q.2 < a
    · obtain ⟨i, b, k0, h1, h2, h3, h4⟩ := rch_loc (s := s) h.2.2 k
      refine ⟨i + 1, b, k0, by rw [List.filter_cons_of_pos (by simpa using ha), List.length_cons, h1], by simpa using h2, ?_, by simp only [rch, if_pos k]; exact h4⟩
      rcases h3 with h5 | ⟨z, h5, h6⟩
      · left
        exact ⟨by rw [List.length_cons, h5.1], h5.2⟩
      · exact .inr ⟨z, by simpa using h5, h6⟩
    · refine ⟨0, p, sb p q, ?_, rfl, .inr ⟨q, rfl, rfl, h.1⟩, by simp only [rch, if_neg k]⟩
      have e : (q :: r).filter (fun q => decide (q.2 < a)) = [] := List.filter_eq_nil_iff.mpr fun c hc => by
        have : q.2 ≤ c.2 := by
          rcases List.mem_cons.mp hc with rfl | hc
          · exact Rat.le_refl
          · exact asc_pay h.2.2 c hc
        simp only [decide_eq_true_eq]
        grind
      rw [List.filter_cons_of_pos (by simpa using ha), e]
      rfl
/-- the places of a beginning -/
theorem zipIdx_pre {α : Type} (P : α → Bool) : ∀ (l : List α) (j : Nat), (l.Pairwise fun a b => P b = true → P a = true) → ((l.zipIdx j).filter fun p => P p.1).map (·.2) = List.range' j (l.filter P).length
  | [], j, _ => rfl
  | a :: l, j, h => by
    obtain ⟨h1, h2⟩ := List.pairwise_cons.mp h
    rw [List.zipIdx_cons, List.filter_cons, List.filter_cons]
    by_cases q : P a = true
    · simp only [q, if_true, List.map_cons, List.length_cons, List.range'_succ, zipIdx_pre P l (j + 1) h2]
    · have e : l.filter P = [] := List.filter_eq_nil_iff.mpr fun c hc z => q (h1 c hc z)
      have e2 : (l.zipIdx (j + 1)).filter (fun p => P p.1) = [] := List.filter_eq_nil_iff.mpr fun c hc z => by
        have := List.mem_zipIdx hc
        have hm : c.1 ∈ l := by rw [this.2.2]; exact List.getElem_mem ..
        exact q (h1 _ hm z)
      simp only [q, Bool.false_eq_true, if_false, e, e2]
      rfl
theorem asc_pw : ∀ {r : List Pt} {p : Pt}, Asc p r → (p :: r).Pairwise fun a b => a.1 < b.1 ∧ a.2 ≤ b.2
  | [], p, _ => by simp
  | q :: r, p, h => List.pairwise_cons.mpr ⟨fun c hc => ⟨asc_ge (r := q :: r) h c hc, asc_pay (r := q :: r) h c hc⟩, asc_pw h.2.2⟩
end Lay

namespace Lay
open PySem PySem.Spec PyProof.Rows L2

/-! ## sizes -/
theorem Sz.mul {s t : Nat} {a b : Rat} (h : Sz s a) (h' : Sz t b) : Sz (s + t) (a * b) := ((Bq.of h).mul (Bq.of h')).sz
theorem Sz.add {s t : Nat} {a b : Rat} (h : Sz s a) (h' : Sz t b) : Sz (s + t + 1) (a + b) := ((Bq.of h).add (Bq.of h')).sz
theorem Sz.neg {s : Nat} {a : Rat} (h : Sz s a) : Sz s (-a) := ⟨by show (-a.num).natAbs < _; rw [Int.natAbs_neg]; exact h.1, h.2⟩
theorem Sz.sub {s t : Nat} {a b : Rat} (h : Sz s a) (h' : Sz t b) : Sz (s + t + 1) (a - b) := by
  rw [Rat.sub_eq_add_neg]; exact h.add h'.neg
theorem Sz.inv {s : Nat} {a : Rat} (h : Sz s a) : Sz s a⁻¹ := by
  by_cases z : a = 0
  · subst z
    exact ⟨by show (0 : Rat)⁻¹.num.natAbs < _; rw [Rat.inv_zero]; exact Nat.pow_pos (by omega), by rw [Rat.inv_zero]; exact h.2⟩
  · have hn : a.num ≠ 0 := fun q => z (Rat.num_eq_zero.mp q)
    have e : a⁻¹ = Rat.divInt a.den a.num := by
      rw [← Rat.inv_divInt, Rat.num_divInt_den]
    rw [e]
    rcases Int.lt_or_gt_of_ne hn with l | l
    · refine Bq.sz ⟨a.num.natAbs, -(a.den : Int), by omega, h.1, by rw [Int.natAbs_neg]; exact h.2, ?_⟩
      rw [show ((a.num.natAbs : Nat) : Int) = -a.num by omega, Rat.neg_divInt_neg]
    · refine Bq.sz ⟨a.num.natAbs, (a.den : Int), by omega, h.1, h.2, ?_⟩
      rw [show ((a.num.natAbs : Nat) : Int) = a.num by omega]
theorem Sz.div {s t : Nat} {a b : Rat} (h : Sz s a) (h' : Sz t b) : Sz (s + t) (a / b) := by
  rw [Rat.div_def]; exact h.mul h'.inv
theorem sz0 : Sz 1 (0 : Rat) := ⟨by decide, by decide⟩
theorem sz1 : Sz 1 (1 : Rat) := ⟨by decide, by decide⟩
/-! two sizes: above and below -/
def Sn (n d : Nat) (q : Rat) : Prop := ∃ (k : Nat) (p : Int), 0 < k ∧ k < 2 ^ d ∧ p.natAbs < 2 ^ n ∧ q = Rat.divInt p k
theorem Sn.sz {n d s : Nat} {q : Rat} (h : Sn n d q) (hn : n ≤ s) (hd : d ≤ s) : Sz s q := by
  obtain ⟨k, p, h1, h2, h3, e⟩ := h
  exact Bq.sz ⟨k, p, h1, Nat.lt_of_lt_of_le h2 (Nat.pow_le_pow_right (by omega) hd), Nat.lt_of_lt_of_le h3 (Nat.pow_le_pow_right (by omega) hn), e⟩
theorem Sn.of {s : Nat} {q : Rat} (h : Sz s q) : Sn s s q := ⟨q.den, q.num, by have := q.den_nz; omega, h.2, h.1, (Rat.num_divInt_den q).symm⟩
theorem Sn.mono {n d n' d' : Nat} {q : Rat} (h : Sn n d q) (hn : n ≤ n') (hd : d ≤ d') : Sn n' d' q := by
  obtain ⟨k, p, h1, h2, h3, e⟩ := h
  exact ⟨k, p, h1, Nat.lt_of_lt_of_le h2 (Nat.pow_le_pow_right (by omega) hd), Nat.lt_of_lt_of_le h3 (Nat.pow_le_pow_right (by omega) hn), e⟩
theorem Sn.mul {n d n' d' : Nat} {x y : Rat} (h : Sn n d x) (h' : Sn n' d' y) : Sn (n + n') (d + d') (x * y) := by
  obtain ⟨d, p, h1, h2, h3, rfl⟩ := h
  obtain ⟨e, q, k1, k2, k3, rfl⟩ := h'
  refine ⟨d * e, p * q, Nat.mul_pos h1 k1, ?_, ?_, ?_⟩
  · rw [Nat.pow_add]; exact Nat.mul_lt_mul'' h2 k2
  · rw [Nat.pow_add, Int.natAbs_mul]; exact Nat.mul_lt_mul'' h3 k3
  · rw [Rat.divInt_mul_divInt, Int.natCast_mul]
theorem Sn.add {n d n' d' m : Nat} {x y : Rat} (h : Sn n d x) (h' : Sn n' d' y) (h1 : n + d' < m) (h2 : n' + d < m) : Sn m (d + d') (x + y) := by
  obtain ⟨a, p, p1, p2, p3, rfl⟩ := h
  obtain ⟨b, q, k1, k2, k3, rfl⟩ := h'
  refine ⟨a * b, p * b + q * a, Nat.mul_pos p1 k1, ?_, ?_, ?_⟩
  · rw [Nat.pow_add]; exact Nat.mul_lt_mul'' p2 k2
  · have a1 := Nat.mul_lt_mul'' p3 k2
    have a2 := Nat.mul_lt_mul'' k3 p2
    rw [← Nat.pow_add] at a1 a2
    have b1 : 2 ^ (n + d') ≤ 2 ^ (m - 1) := Nat.pow_le_pow_right (by omega) (by omega)
    have b2 : 2 ^ (n' + d) ≤ 2 ^ (m - 1) := Nat.pow_le_pow_right (by omega) (by omega)
    have b3 : 2 ^ m = 2 * 2 ^ (m - 1) := by rw [← Nat.pow_succ']; congr 1; omega
    have a3 : (p * (b : Int)).natAbs = p.natAbs * b := by rw [Int.natAbs_mul]; rfl
    have a4 : (q * (a : Int)).natAbs = q.natAbs * a := by rw [Int.natAbs_mul]; rfl
    have a5 := Int.natAbs_add_le (p * (b : Int)) (q * a)
    omega
  · rw [Rat.divInt_add_divInt _ _ (by omega) (by omega), Int.natCast_mul]
theorem Sn.neg {n d : Nat} {x : Rat} (h : Sn n d x) : Sn n d (-x) := by
  obtain ⟨a, p, p1, p2, p3, rfl⟩ := h
  exact ⟨a, -p, p1, p2, by rw [Int.natAbs_neg]; exact p3, by rw [Rat.neg_divInt]⟩
theorem Sn.sub {n d n' d' m : Nat} {x y : Rat} (h : Sn n d x) (h' : Sn n' d' y) (h1 : n + d' < m) (h2 : n' + d < m) : Sn m (d + d') (x - y) := by
  rw [Rat.sub_eq_add_neg]; exact h.add h'.neg h1 h2
theorem Sn.inv {n d : Nat} {x : Rat} (h : Sn n d x) (hd : 1 ≤ d) (hn : 1 ≤ n) : Sn d n x⁻¹ := by
  obtain ⟨a, p, p1, p2, p3, rfl⟩ := h
  rw [Rat.inv_divInt]
  rcases Int.lt_trichotomy p 0 with l | l | l
  · refine ⟨p.natAbs, -(a : Int), by omega, p3, by rw [Int.natAbs_neg]; exact p2, ?_⟩
    rw [show ((p.natAbs : Nat) : Int) = -p by omega, Rat.neg_divInt_neg]
  · subst l
    exact ⟨1, 0, by omega, Nat.one_lt_two_pow (by omega), Nat.pow_pos (by omega), by rw [Rat.divInt_zero, Rat.zero_divInt]⟩
  · refine ⟨p.natAbs, (a : Int), by omega, p3, p2, ?_⟩
    rw [show ((p.natAbs : Nat) : Int) = p by omega]
theorem Sn.div {n d n' d' : Nat} {x y : Rat} (h : Sn n d x) (h' : Sn n' d' y) (hd : 1 ≤ d') (hn : 1 ≤ n') : Sn (n + d') (d + n') (x / y) := by
  rw [Rat.div_def]; exact h.mul (h'.inv hd hn)
/-- one denominator for all -/
def Nc (N M : Nat) (q : Rat) : Prop := ∃ p : Int, p.natAbs ≤ M ∧ q = Rat.divInt p N
section
variable {N M M' : Nat} {x y : Rat}
theorem Nc.mono (h : Nc N M x) (l : M ≤ M') : Nc N M' x := let ⟨p, a, b⟩ := h; ⟨p, Nat.le_trans a l, b⟩
theorem Nc.add (hN : 0 < N) (h : Nc N M x) (h' : Nc N M' y) : Nc N (M + M') (x + y) := by
  obtain ⟨p, a, rfl⟩ := h
  obtain ⟨q, b, rfl⟩ := h'
  refine ⟨p + q, by have := Int.natAbs_add_le p q; omega, ?_⟩
  rw [Rat.divInt_add_divInt _ _ (by omega) (by omega), ← Int.add_mul, Rat.divInt_mul_right (by omega)]
theorem Nc.neg (h : Nc N M x) : Nc N M (-x) := by
  obtain ⟨p, a, rfl⟩ := h
  exact ⟨-p, by rw [Int.natAbs_neg]; exact a, by rw [Rat.neg_divInt]⟩
theorem Nc.sub (hN : 0 < N) (h : Nc N M x) (h' : Nc N M' y) : Nc N (M + M') (x - y) := by
  rw [Rat.sub_eq_add_neg]; exact h.add hN h'.neg
theorem Nc.sn {n d : Nat} (hN : 0 < N) (h : Nc N M x) (hd : N < 2 ^ d) (hn : M < 2 ^ n) : Sn n d x := by
  obtain ⟨p, a, b⟩ := h
  exact ⟨N, p, hN, hd, by omega, b⟩
/-- their ratio -/
theorem Nc.ratio {n : Nat} (hN : 0 < N) (h : Nc N M x) (h' : Nc N M' y) (h1 : M < 2 ^ n) (h2 : M' < 2 ^ n) (hn : 0 < n) : Sn n n (x / y) := by
  obtain ⟨p, a, rfl⟩ := h
  obtain ⟨q, b, rfl⟩ := h'
  have e : Rat.divInt p N / Rat.divInt q N = Rat.divInt p q := by
    by_cases z : q = 0
    · subst z
      rw [Rat.zero_divInt, Rat.divInt_zero, Rat.div_def, Rat.inv_zero]
      exact Rat.mul_zero _
    · rw [Rat.divInt_eq_div, Rat.divInt_eq_div, Rat.divInt_eq_div]
      have a1 : ((N : Int) : Rat) ≠ 0 := by
        intro z
        have : (N : Int) = 0 := by exact_mod_cast z
        omega
      have a2 : ((q : Int) : Rat) ≠ 0 := by
        intro k
        exact z (by exact_mod_cast k)
      grind
  rw [e]
  rcases Int.lt_trichotomy q 0 with l | l | l
  · refine ⟨q.natAbs, -p, by omega, by omega, by rw [Int.natAbs_neg]; omega, ?_⟩
    rw [show ((q.natAbs : Nat) : Int) = -q by omega, Rat.neg_divInt_neg]
  · subst l
    exact ⟨1, 0, by omega, Nat.one_lt_two_pow (by omega), Nat.pow_pos (by omega), by rw [Rat.divInt_zero, Rat.zero_divInt]⟩
  · exact ⟨q.natAbs, p, by omega, by omega, by omega, by rw [show ((q.natAbs : Nat) : Int) = q by omega]⟩
end
end Lay

namespace Lay
open PySem PySem.Spec PyProof.Rows L2

/-! ## curves as data -/
abbrev eP (p : Pt) : D := .tuple [fq p.1, fq p.2]
abbrev ePs (c : Cu) : D := .tuple ((c.p :: c.r).map eP)
abbrev eC (c : Cu) : D := .tuple [ePs c, fq c.s]
def Seq (d : D) (ds : List D) : Prop := d = .list ds ∨ d = .tuple ds
theorem fq_inj {x y : Rat} (h : fq x = fq y) : x = y := by
  unfold fq at h
  injection h with h
  injection h with h1 h2
  injection h2 with h2 h3
  injection h1 with h1
  injection h2 with h2
  exact Rat.ext h1 (by omega)
theorem sh_fq (x : Rat) : Sh 1 (fq x) := sh_tup fun d hd => by
  simp only [List.mem_cons, List.not_mem_nil, or_false] at hd
  rcases hd with rfl | rfl <;> exact sh_int _
theorem eqv_fq (x y : Rat) : PyData.eqv (fq x) (fq y) = decide (x = y) := by
  simp only [fq, PyData.eqv, PyData.eqvAll]
  by_cases h : x = y
  · subst h; simp
  · rw [decide_eq_false h]
    have : ¬ (x.num = y.num ∧ (x.den : Int) = y.den) := fun z => h (Rat.ext z.1 (by omega))
    by_cases h1 : x.num = y.num
    · have h2 : ¬ (x.den : Int) = y.den := fun z => this ⟨h1, z⟩
      simp [h1]; omega
    · simp [h1]
section
variable {x y : Rat} {Q : D → Prop} {ρ : En} {P : D → En → Prop}
theorem p_eqfq (h : Q (.bool (decide (x = y)))) : Ok (eqD (fq x) (fq y)) Q := ⟨_, by unfold eqD; rw [eqB_sh (sh_fq x) (sh_fq y) (by decide) (by decide) (fun a z => by cases z), eqv_fq]; rfl, h⟩
theorem p_nefq (h : Q (.bool (decide (x ≠ y)))) : Ok (neD (fq x) (fq y)) Q := ⟨_, by unfold neD; rw [eqB_sh (sh_fq x) (sh_fq y) (by decide) (by decide) (fun a z => by cases z), eqv_fq]; rfl, by simpa using h⟩
theorem p_fq0 (h : Q (.int x.num)) : Ok (ixD (fq x) (.int 0)) Q := ⟨_, rfl, h⟩
theorem p_fq1 (h : Q (.int (x.den : Int))) : Ok (ixD (fq x) (.int 1)) Q := ⟨_, rfl, h⟩
theorem p_two0 {a b : D} (h : Q a) : Ok (ixD (.tuple [a, b]) (.int 0)) Q := ⟨_, rfl, h⟩
theorem p_two1 {a b : D} (h : Q b) : Ok (ixD (.tuple [a, b]) (.int 1)) Q := ⟨_, rfl, h⟩
theorem p_hd0 {a : D} {as : List D} (h : Q a) : Ok (ixD (.tuple (a :: as)) (.int 0)) Q := ⟨_, atI_nat (i := 0) (by simp), h⟩
theorem p_hdL0 {a : D} {as : List D} (h : Q a) : Ok (ixD (.list (a :: as)) (.int 0)) Q := ⟨_, atI_nat (i := 0) (by simp), h⟩
theorem o_t01 (h : P (fq 0) ρ) : OkE (tupE (consA (cE (.int 0)) (consA (cE (.int 1)) nilA)) ρ) P := ⟨_, _, rfl, h⟩
theorem o_t11 (h : P (fq 1) ρ) : OkE (tupE (consA (cE (.int 1)) (consA (cE (.int 1)) nilA)) ρ) P := ⟨_, _, rfl, h⟩
theorem o_t21 (h : P (fq 2) ρ) : OkE (tupE (consA (cE (.int 2)) (consA (cE (.int 1)) nilA)) ρ) P := ⟨_, _, rfl, h⟩
end
def cmpR (a b : Rat) : Int := if a < b then -1 else if b < a then 1 else 0
theorem cmp_lt {a b : Rat} : cmpR a b < 0 ↔ a < b := by
  unfold cmpR
  split
  · rename_i h; simp; exact h
  · split
    · rename_i h; simp; grind
    · simp; grind
theorem cmp_le {a b : Rat} : cmpR a b ≤ 0 ↔ a ≤ b := by
  unfold cmpR
  split
  · rename_i h; simp; grind
  · split
    · rename_i h; simp; grind
    · simp; grind
theorem cmp_gt {a b : Rat} : 0 < cmpR a b ↔ b < a := by
  unfold cmpR
  split
  · rename_i h; simp; grind
  · split
    · rename_i h; simp; grind
    · simp; grind
theorem mul_sz {s t : Nat} {a b : Rat} (ha : Sz s a) (hb : Sz t b) (h : s + t < 9000) : a.num.natAbs.log2 + (b.den : Int).natAbs.log2 < 1000000 ∧ a.num.natAbs.log2 + b.num.natAbs.log2 < 1000000 ∧ (a.den : Int).natAbs.log2 + (b.den : Int).natAbs.log2 < 1000000 ∧ (a.den : Int).natAbs.log2 + b.num.natAbs.log2 < 1000000 := by
  have l1 := log2_of ha.1
  have l2 := log2_of ha.2
  have l3 := log2_of hb.1
  have l4 := log2_of hb.2
  rw [Int.natAbs_natCast, Int.natAbs_natCast]
  omega
theorem lt_cross (a b : Rat) : a < b ↔ a.num * b.den < b.num * a.den := Rat.lt_iff a b
local macro_rules | `(tactic| tm_at "len") => `(tactic| first | (simp only [List.length_cons, List.length_nil, sizeLine]; omega) | (simp [sizeLine]; omega) | (simp [sizeLine]; done))
local macro_rules | `(tactic| tm_at "pw1") => `(tactic| with_reducible first
  | refine s_seq ?_
  | refine o_op ?_
  | (refine o_var (d := ?d) ?e ?h; (case e => with_unfolding_all rfl))
  | tm_at "cst"
  | refine o_c ?_
  | refine o_cl ?_
  | refine o_cons ?_
  | refine o_nil ?_
  | refine s_set ?_
  | (refine s_own (by simp only [List.length_cons, List.length_nil, List.length_set]; omega) ?_)
  | refine s_ret ?_
  | refine s_if ?_
  | refine s_nop ?_
  | refine s_kill ?_
  | refine s_for ?_
  | refine o_it ?_
  | refine o_itl ?_
  | refine o_itt ?_
  | refine o_tup ?_
  | refine o_lst ?_
  | (refine And.intro (a := List.length _ ≤ sizeLine) (by tm_at "len") ?_)
  | refine o_t ?_
  | refine o_asB ?_
  | refine o_g1 ?_
  | refine o_if ?_
  | refine w_t ?_
  | refine w_f ?_
  | refine w_nt ?_
  | refine w_nf ?_
  | refine o_not ?_
  | refine o_notT ?_
  | refine o_and ?_
  | refine o_or ?_
  | refine o_un ?_
  | refine o_yes ?_
  | refine o_ch ?_
  | (refine o_callB ?_)
  | refine o_ixo ?_
  | refine o_sl ?_
  | refine o_noO ?_
  | refine o_someO ?_
  | refine o_name ?_
  | refine o_tupG ?_
  | refine o_consG ?_
  | refine o_nilG ?_
  | refine s_par ?_
  | (refine s_parM ?e ?h; (case e => with_unfolding_all rfl))
  | refine s_setG ?_
  | refine s_drop ?_
  | (refine s_retO (d := ?d) ?e ?h; (case e => with_unfolding_all rfl))
  | (refine s_mut (ds0 := ?d) ?e ?h; (case e => with_unfolding_all rfl))
  | (refine s_ins (ds0 := ?d) ?e ?h; (case e => with_unfolding_all rfl))
  | refine s_seti ?_
  | (refine s_aug (d := ?d) ?e ?h; (case e => with_unfolding_all rfl))
  | refine p_add ?_ | refine p_sub ?_ | refine p_lt ?_ | refine p_le ?_ | refine p_gt ?_ | refine p_ge ?_ | refine p_eq ?_ | refine p_ne ?_ | refine p_neg ?_ | refine p_abs ?_
  | refine p_intI ?_ | refine p_intB ?_ | refine p_lenL ?_ | refine p_lenT ?_ | refine p_tupL ?_ | refine p_tupT ?_ | refine p_lstL ?_ | refine p_lstT ?_ | refine p_isN ?_ | refine p_notN ?_
  | refine ex_two ?_
  | refine ex_int ?_ | refine ex_list ?_ | refine ex_tup ?_
  | (refine ex_ixo (ds := ?d) ?e ?h; (case e => with_unfolding_all rfl))
  | (refine ex_b (b := ?d) ?e ?h; (case e => with_unfolding_all rfl))
  | (refine ex_l (ds := ?d) ?e ?h; (case e => with_unfolding_all rfl))
  | refine o_enum ?_ | refine o_enumT ?_ | refine o_zip ?_ | refine o_zipM ?_ | refine o_rng1 ?_ | refine o_rng2 ?_
  | refine o_bor ?_ | refine o_borF ?_ | refine o_borT ?_
  | tm_at "spec")
local macro_rules | `(tactic| tm_at "pw") => `(tactic| repeat' (tm_at "pw1"))
local macro_rules | `(tactic| tm_at "pw1j") => `(tactic| with_reducible first
  | refine s_seq ?_
  | refine o_op ?_
  | (refine o_var (d := ?d) ?e ?h; (case e => with_unfolding_all rfl))
  | tm_at "cst"
  | refine o_c ?_
  | refine o_cl ?_
  | refine o_cons ?_
  | refine o_nil ?_
  | refine s_set ?_
  | (refine s_own (by simp only [List.length_cons, List.length_nil, List.length_set]; omega) ?_)
  | refine s_ret ?_
  | refine s_if ?_
  | refine s_nop ?_
  | refine s_kill ?_
  | refine s_for ?_
  | refine o_it ?_
  | refine o_itl ?_
  | refine o_itt ?_
  | refine o_tup ?_
  | refine o_lst ?_
  | (refine And.intro (a := List.length _ ≤ sizeLine) (by tm_at "len") ?_)
  | refine o_t ?_
  | refine o_asB ?_
  | refine o_g1 ?_
  | refine w_t ?_
  | refine w_f ?_
  | refine w_nt ?_
  | refine w_nf ?_
  | refine o_not ?_
  | refine o_notT ?_
  | refine o_and ?_
  | refine o_or ?_
  | refine o_un ?_
  | refine o_yes ?_
  | refine o_ch ?_
  | (refine o_callB ?_)
  | refine o_ixo ?_
  | refine o_sl ?_
  | refine o_noO ?_
  | refine o_someO ?_
  | refine o_name ?_
  | refine o_tupG ?_
  | refine o_consG ?_
  | refine o_nilG ?_
  | refine s_par ?_
  | (refine s_parM ?e ?h; (case e => with_unfolding_all rfl))
  | refine s_setG ?_
  | refine s_drop ?_
  | (refine s_retO (d := ?d) ?e ?h; (case e => with_unfolding_all rfl))
  | (refine s_mut (ds0 := ?d) ?e ?h; (case e => with_unfolding_all rfl))
  | (refine s_ins (ds0 := ?d) ?e ?h; (case e => with_unfolding_all rfl))
  | refine s_seti ?_
  | (refine s_aug (d := ?d) ?e ?h; (case e => with_unfolding_all rfl))
  | refine p_add ?_ | refine p_sub ?_ | refine p_lt ?_ | refine p_le ?_ | refine p_gt ?_ | refine p_ge ?_ | refine p_eq ?_ | refine p_ne ?_ | refine p_neg ?_ | refine p_abs ?_
  | refine p_intI ?_ | refine p_intB ?_ | refine p_lenL ?_ | refine p_lenT ?_ | refine p_tupL ?_ | refine p_tupT ?_ | refine p_lstL ?_ | refine p_lstT ?_ | refine p_isN ?_ | refine p_notN ?_
  | refine ex_two ?_
  | refine ex_int ?_ | refine ex_list ?_ | refine ex_tup ?_
  | (refine ex_ixo (ds := ?d) ?e ?h; (case e => with_unfolding_all rfl))
  | (refine ex_b (b := ?d) ?e ?h; (case e => with_unfolding_all rfl))
  | (refine ex_l (ds := ?d) ?e ?h; (case e => with_unfolding_all rfl))
  | refine o_enum ?_ | refine o_enumT ?_ | refine o_zip ?_ | refine o_zipM ?_ | refine o_rng1 ?_ | refine o_rng2 ?_
  | refine o_bor ?_ | refine o_borF ?_ | refine o_borT ?_
  | tm_at "spec")
local macro_rules | `(tactic| tm_at "pwj") => `(tactic| repeat' (tm_at "pw1j"))

local macro_rules | `(tactic| tm_at "cst") => `(tactic| with_reducible first | refine o_t01 ?_ | refine o_t11 ?_ | refine o_t21 ?_)
local macro_rules | `(tactic| tm_at "spec") => `(tactic| with_reducible first | refine p_fq0 ?_ | refine p_fq1 ?_ | refine p_two0 ?_ | refine p_two1 ?_ | refine p_hd0 ?_ | refine p_hdL0 ?_ | refine p_eqfq ?_ | refine p_nefq ?_)
local macro_rules | `(tactic| tm_at "run") => `(tactic| (refine ok_run ?_; (first | rw [env1] | rw [env2] | rw [env3] | rw [env0] | rw [env4] | rw [env5]); simp only [List.replicate_succ, List.replicate_zero]))
theorem compared_eq {s t : Nat} {a b : Rat} (ha : Sz s a) (hb : Sz t b) (h : s + t < 9000) : F_compared [fq a, fq b] = some (.int (cmpR a b)) := by
  obtain ⟨l1, l2, l3, l4⟩ := mul_sz ha hb h
  obtain ⟨k1, k2, k3, k4⟩ := mul_sz hb ha (by omega)
  refine ok_get ?_
  unfold F_compared S_compared
  tm_at "run"
  tm_at "pw"
  refine p_mul l1 ?_
  tm_at "pw"
  refine p_mul k1 ?_
  tm_at "pw"
  have q1 := lt_cross a b
  have q2 := lt_cross b a
  unfold cmpR
  by_cases h1 : a < b
  · have h2 : ¬ b < a := by grind
    rw [if_pos h1]
    rw [q1] at h1
    rw [q2] at h2
    simp [h1, h2]
  · rw [if_neg h1]
    rw [q1] at h1
    by_cases h2 : b < a
    · rw [if_pos h2]
      rw [q2] at h2
      simp [h1, h2]
    · rw [if_neg h2]
      rw [q2] at h2
      simp [h1, h2]
/-- what all its numbers keep within -/
structure CuZ (s : Nat) (c : Cu) : Prop where
  pt : ∀ q ∈ c.p :: c.r, Sz s q.1 ∧ Sz s q.2
  sl : Sz s c.s
theorem sum_sz {s : Nat} : ∀ {xs : List Rat}, (∀ x ∈ xs, Sz s x) → Sz (1 + xs.length * (s + 1)) (sumL xs)
  | [], _ => by simpa [sumL] using sz0
  | x :: xs, h => by
    rw [sumL_cons, List.length_cons, Nat.add_mul]
    exact ((h x List.mem_cons_self).add (sum_sz fun y hy => h y (List.mem_cons_of_mem _ hy))).mono (by omega)
theorem sumL_snoc (l : List Rat) (x : Rat) : sumL (l ++ [x]) = sumL l + x := by rw [sumL_app, sumL_cons, sumL_nil]; grind
theorem added_eq {s t : Nat} {a b : Rat} (ha : Sz s a) (hb : Sz t b) (h : s + t < 9000) : F_added [fq a, fq b] = some (fq (a + b)) := by
  obtain ⟨l1, l2, l3, l4⟩ := mul_sz ha hb h
  obtain ⟨k1, k2, k3, k4⟩ := mul_sz hb ha (by omega)
  refine ok_get ?_
  unfold F_added S_added
  tm_at "run"
  tm_at "pw"
  refine p_mul l1 ?_
  tm_at "pw"
  refine p_mul k1 ?_
  tm_at "pw"
  refine p_mul l3 ?_
  tm_at "pw"
  have r := red_eq (a.num * b.den + b.num * a.den) (a.den * b.den) (Int.mul_ne_zero (den_ne a) (den_ne b)) (by rw [natAbs_mul_dd]; have := log2_mul ha.2 hb.2; omega)
  refine ok_eq r ?_
  rw [← Rat.divInt_add_divInt _ _ (den_ne a) (den_ne b), Rat.num_divInt_den, Rat.num_divInt_den]
theorem total_of {s : Nat} {d : D} {xs : List Rat} (hd : Seq d (xs.map fq)) (h : ∀ x ∈ xs, Sz s x) (hl : xs.length * (s + 1) + s < 8990) : F_total [d] = some (fq (sumL xs)) := by
  refine ok_get ?_
  unfold F_total S_total
  rcases hd with rfl | rfl
  all_goals
    tm_at "run"
    tm_at "pw"
    refine l_on (xs := xs) (e := fq) (fun pre ρ => ρ = [some _, some (fq (sumL pre)), none]) rfl ?_ ?_
    · rintro ρ rfl
      tm_at "pw"
      rfl
    · rintro pre x post ρ e rfl
      tm_at "pw"
      have hp : Sz (1 + pre.length * (s + 1)) (sumL pre) := sum_sz fun y hy => h y (by rw [e]; exact List.mem_append_left _ hy)
      have hb : pre.length * (s + 1) ≤ xs.length * (s + 1) := Nat.mul_le_mul_right _ (by rw [e]; simp)
      refine ok_eq (added_eq hp (h x (by rw [e]; simp)) (by omega)) ?_
      tm_at "pw"
      rw [sumL_snoc]
      rfl
end Lay

namespace Lay
open PySem PySem.Spec PyProof.Rows L2
local macro_rules | `(tactic| tm_at "len") => `(tactic| first | (simp only [List.length_cons, List.length_nil, sizeLine]; omega) | (simp [sizeLine]; omega) | (simp [sizeLine]; done))
local macro_rules | `(tactic| tm_at "pw1") => `(tactic| with_reducible first
  | refine s_seq ?_
  | refine o_op ?_
  | (refine o_var (d := ?d) ?e ?h; (case e => with_unfolding_all rfl))
  | tm_at "cst"
  | refine o_c ?_
  | refine o_cl ?_
  | refine o_cons ?_
  | refine o_nil ?_
  | refine s_set ?_
  | (refine s_own (by simp only [List.length_cons, List.length_nil, List.length_set]; omega) ?_)
  | refine s_ret ?_
  | refine s_if ?_
  | refine s_nop ?_
  | refine s_kill ?_
  | refine s_for ?_
  | refine o_it ?_
  | refine o_itl ?_
  | refine o_itt ?_
  | refine o_tup ?_
  | refine o_lst ?_
  | (refine And.intro (a := List.length _ ≤ sizeLine) (by tm_at "len") ?_)
  | refine o_t ?_
  | refine o_asB ?_
  | refine o_g1 ?_
  | refine o_if ?_
  | refine w_t ?_
  | refine w_f ?_
  | refine w_nt ?_
  | refine w_nf ?_
  | refine o_not ?_
  | refine o_notT ?_
  | refine o_and ?_
  | refine o_or ?_
  | refine o_un ?_
  | refine o_yes ?_
  | refine o_ch ?_
  | (refine o_callB ?_)
  | refine o_ixo ?_
  | refine o_sl ?_
  | refine o_noO ?_
  | refine o_someO ?_
  | refine o_name ?_
  | refine o_tupG ?_
  | refine o_consG ?_
  | refine o_nilG ?_
  | refine s_par ?_
  | (refine s_parM ?e ?h; (case e => with_unfolding_all rfl))
  | refine s_setG ?_
  | refine s_drop ?_
  | (refine s_retO (d := ?d) ?e ?h; (case e => with_unfolding_all rfl))
  | (refine s_mut (ds0 := ?d) ?e ?h; (case e => with_unfolding_all rfl))
  | (refine s_ins (ds0 := ?d) ?e ?h; (case e => with_unfolding_all rfl))
  | refine s_seti ?_
  | (refine s_aug (d := ?d) ?e ?h; (case e => with_unfolding_all rfl))
  | refine p_add ?_ | refine p_sub ?_ | refine p_lt ?_ | refine p_le ?_ | refine p_gt ?_ | refine p_ge ?_ | refine p_eq ?_ | refine p_ne ?_ | refine p_neg ?_ | refine p_abs ?_
  | refine p_intI ?_ | refine p_intB ?_ | refine p_lenL ?_ | refine p_lenT ?_ | refine p_tupL ?_ | refine p_tupT ?_ | refine p_lstL ?_ | refine p_lstT ?_ | refine p_isN ?_ | refine p_notN ?_
  | refine ex_two ?_
  | refine ex_int ?_ | refine ex_list ?_ | refine ex_tup ?_
  | (refine ex_ixo (ds := ?d) ?e ?h; (case e => with_unfolding_all rfl))
  | (refine ex_b (b := ?d) ?e ?h; (case e => with_unfolding_all rfl))
  | (refine ex_l (ds := ?d) ?e ?h; (case e => with_unfolding_all rfl))
  | refine o_enum ?_ | refine o_enumT ?_ | refine o_zip ?_ | refine o_zipM ?_ | refine o_rng1 ?_ | refine o_rng2 ?_
  | refine o_bor ?_ | refine o_borF ?_ | refine o_borT ?_
  | tm_at "spec")
local macro_rules | `(tactic| tm_at "pw") => `(tactic| repeat' (tm_at "pw1"))
local macro_rules | `(tactic| tm_at "pw1j") => `(tactic| with_reducible first
  | refine s_seq ?_
  | refine o_op ?_
  | (refine o_var (d := ?d) ?e ?h; (case e => with_unfolding_all rfl))
  | tm_at "cst"
  | refine o_c ?_
  | refine o_cl ?_
  | refine o_cons ?_
  | refine o_nil ?_
  | refine s_set ?_
  | (refine s_own (by simp only [List.length_cons, List.length_nil, List.length_set]; omega) ?_)
  | refine s_ret ?_
  | refine s_if ?_
  | refine s_nop ?_
  | refine s_kill ?_
  | refine s_for ?_
  | refine o_it ?_
  | refine o_itl ?_
  | refine o_itt ?_
  | refine o_tup ?_
  | refine o_lst ?_
  | (refine And.intro (a := List.length _ ≤ sizeLine) (by tm_at "len") ?_)
  | refine o_t ?_
  | refine o_asB ?_
  | refine o_g1 ?_
  | refine w_t ?_
  | refine w_f ?_
  | refine w_nt ?_
  | refine w_nf ?_
  | refine o_not ?_
  | refine o_notT ?_
  | refine o_and ?_
  | refine o_or ?_
  | refine o_un ?_
  | refine o_yes ?_
  | refine o_ch ?_
  | (refine o_callB ?_)
  | refine o_ixo ?_
  | refine o_sl ?_
  | refine o_noO ?_
  | refine o_someO ?_
  | refine o_name ?_
  | refine o_tupG ?_
  | refine o_consG ?_
  | refine o_nilG ?_
  | refine s_par ?_
  | (refine s_parM ?e ?h; (case e => with_unfolding_all rfl))
  | refine s_setG ?_
  | refine s_drop ?_
  | (refine s_retO (d := ?d) ?e ?h; (case e => with_unfolding_all rfl))
  | (refine s_mut (ds0 := ?d) ?e ?h; (case e => with_unfolding_all rfl))
  | (refine s_ins (ds0 := ?d) ?e ?h; (case e => with_unfolding_all rfl))
  | refine s_seti ?_
  | (refine s_aug (d := ?d) ?e ?h; (case e => with_unfolding_all rfl))
  | refine p_add ?_ | refine p_sub ?_ | refine p_lt ?_ | refine p_le ?_ | refine p_gt ?_ | refine p_ge ?_ | refine p_eq ?_ | refine p_ne ?_ | refine p_neg ?_ | refine p_abs ?_
  | refine p_intI ?_ | refine p_intB ?_ | refine p_lenL ?_ | refine p_lenT ?_ | refine p_tupL ?_ | refine p_tupT ?_ | refine p_lstL ?_ | refine p_lstT ?_ | refine p_isN ?_ | refine p_notN ?_
  | refine ex_two ?_
  | refine ex_int ?_ | refine ex_list ?_ | refine ex_tup ?_
  | (refine ex_ixo (ds := ?d) ?e ?h; (case e => with_unfolding_all rfl))
  | (refine ex_b (b := ?d) ?e ?h; (case e => with_unfolding_all rfl))
  | (refine ex_l (ds := ?d) ?e ?h; (case e => with_unfolding_all rfl))
  | refine o_enum ?_ | refine o_enumT ?_ | refine o_zip ?_ | refine o_zipM ?_ | refine o_rng1 ?_ | refine o_rng2 ?_
  | refine o_bor ?_ | refine o_borF ?_ | refine o_borT ?_
  | tm_at "spec")
local macro_rules | `(tactic| tm_at "pwj") => `(tactic| repeat' (tm_at "pw1j"))

local macro_rules | `(tactic| tm_at "cst") => `(tactic| with_reducible first | refine o_t01 ?_ | refine o_t11 ?_ | refine o_t21 ?_)
local macro_rules | `(tactic| tm_at "spec") => `(tactic| with_reducible first | refine p_fq0 ?_ | refine p_fq1 ?_ | refine p_two0 ?_ | refine p_two1 ?_ | refine p_hd0 ?_ | refine p_hdL0 ?_ | refine p_eqfq ?_ | refine p_nefq ?_)
local macro_rules | `(tactic| tm_at "run") => `(tactic| (refine ok_run ?_; (first | rw [env1] | rw [env2] | rw [env3] | rw [env0] | rw [env4] | rw [env5]); simp only [List.replicate_succ, List.replicate_zero]))
local macro_rules | `(tactic| tm_at "runF") => `(tactic| (refine ok_runF ?_; (first | rw [env1] | rw [env2] | rw [env3] | rw [env0] | rw [env4] | rw [env5]); simp only [List.replicate_succ, List.replicate_zero]))
local macro_rules | `(tactic| tm_at "runB") => `(tactic| (refine ok_runB ?_; (first | rw [env1] | rw [env2] | rw [env3] | rw [env0] | rw [env4] | rw [env5]); simp only [List.replicate_succ, List.replicate_zero]))
local macro_rules | `(tactic| tm_at "runBF") => `(tactic| (refine ok_runBF ?_; (first | rw [env1] | rw [env2] | rw [env3] | rw [env0] | rw [env4] | rw [env5]); simp only [List.replicate_succ, List.replicate_zero]))

local macro_rules | `(tactic| tm_at "cst") => `(tactic| with_reducible first | refine o_nought ?_ | refine o_t01 ?_ | refine o_t11 ?_ | refine o_t21 ?_)
theorem getLast?_snoc {α : Type} (l : List α) (x : α) : (l ++ [x]).getLast? = some x := by simp
theorem at_map {α : Type} {e : α → D} {xs : List α} {i : Nat} {a : α} (h : xs[i]? = some a) : (xs.map e)[i]? = some (e a) := by rw [List.getElem?_map, h]; rfl
end Lay

namespace Lay
open PySem PySem.Spec PyProof.Rows L2
local macro_rules | `(tactic| tm_at "len") => `(tactic| first | (simp only [List.length_cons, List.length_nil, sizeLine]; omega) | (simp [sizeLine]; omega) | (simp [sizeLine]; done))
local macro_rules | `(tactic| tm_at "pw1") => `(tactic| with_reducible first
  | refine s_seq ?_
  | refine o_op ?_
  | (refine o_var (d := ?d) ?e ?h; (case e => with_unfolding_all rfl))
  | tm_at "cst"
  | refine o_c ?_
  | refine o_cl ?_
  | refine o_cons ?_
  | refine o_nil ?_
  | refine s_set ?_
  | (refine s_own (by simp only [List.length_cons, List.length_nil, List.length_set]; omega) ?_)
  | refine s_ret ?_
  | refine s_if ?_
  | refine s_nop ?_
  | refine s_kill ?_
  | refine s_for ?_
  | refine o_it ?_
  | refine o_itl ?_
  | refine o_itt ?_
  | refine o_tup ?_
  | refine o_lst ?_
  | (refine And.intro (a := List.length _ ≤ sizeLine) (by tm_at "len") ?_)
  | refine o_t ?_
  | refine o_asB ?_
  | refine o_g1 ?_
  | refine o_if ?_
  | refine w_t ?_
  | refine w_f ?_
  | refine w_nt ?_
  | refine w_nf ?_
  | refine o_not ?_
  | refine o_notT ?_
  | refine o_and ?_
  | refine o_or ?_
  | refine o_un ?_
  | refine o_yes ?_
  | refine o_ch ?_
  | (refine o_callB ?_)
  | refine o_ixo ?_
  | refine o_sl ?_
  | refine o_noO ?_
  | refine o_someO ?_
  | refine o_name ?_
  | refine o_tupG ?_
  | refine o_consG ?_
  | refine o_nilG ?_
  | refine s_par ?_
  | (refine s_parM ?e ?h; (case e => with_unfolding_all rfl))
  | refine s_setG ?_
  | refine s_drop ?_
  | (refine s_retO (d := ?d) ?e ?h; (case e => with_unfolding_all rfl))
  | (refine s_mut (ds0 := ?d) ?e ?h; (case e => with_unfolding_all rfl))
  | (refine s_ins (ds0 := ?d) ?e ?h; (case e => with_unfolding_all rfl))
  | refine s_seti ?_
  | (refine s_aug (d := ?d) ?e ?h; (case e => with_unfolding_all rfl))
  | refine p_add ?_ | refine p_sub ?_ | refine p_lt ?_ | refine p_le ?_ | refine p_gt ?_ | refine p_ge ?_ | refine p_eq ?_ | refine p_ne ?_ | refine p_neg ?_ | refine p_abs ?_
  | refine p_intI ?_ | refine p_intB ?_ | refine p_lenL ?_ | refine p_lenT ?_ | refine p_tupL ?_ | refine p_tupT ?_ | refine p_lstL ?_ | refine p_lstT ?_ | refine p_isN ?_ | refine p_notN ?_
  | refine ex_two ?_
  | refine ex_int ?_ | refine ex_list ?_ | refine ex_tup ?_
  | (refine ex_ixo (ds := ?d) ?e ?h; (case e => with_unfolding_all rfl))
  | (refine ex_b (b := ?d) ?e ?h; (case e => with_unfolding_all rfl))
  | (refine ex_l (ds := ?d) ?e ?h; (case e => with_unfolding_all rfl))
  | refine o_enum ?_ | refine o_enumT ?_ | refine o_zip ?_ | refine o_zipM ?_ | refine o_rng1 ?_ | refine o_rng2 ?_
  | refine o_bor ?_ | refine o_borF ?_ | refine o_borT ?_
  | tm_at "spec")
local macro_rules | `(tactic| tm_at "pw") => `(tactic| repeat' (tm_at "pw1"))
local macro_rules | `(tactic| tm_at "pw1j") => `(tactic| with_reducible first
  | refine s_seq ?_
  | refine o_op ?_
  | (refine o_var (d := ?d) ?e ?h; (case e => with_unfolding_all rfl))
  | tm_at "cst"
  | refine o_c ?_
  | refine o_cl ?_
  | refine o_cons ?_
  | refine o_nil ?_
  | refine s_set ?_
  | (refine s_own (by simp only [List.length_cons, List.length_nil, List.length_set]; omega) ?_)
  | refine s_ret ?_
  | refine s_if ?_
  | refine s_nop ?_
  | refine s_kill ?_
  | refine s_for ?_
  | refine o_it ?_
  | refine o_itl ?_
  | refine o_itt ?_
  | refine o_tup ?_
  | refine o_lst ?_
  | (refine And.intro (a := List.length _ ≤ sizeLine) (by tm_at "len") ?_)
  | refine o_t ?_
  | refine o_asB ?_
  | refine o_g1 ?_
  | refine w_t ?_
  | refine w_f ?_
  | refine w_nt ?_
  | refine w_nf ?_
  | refine o_not ?_
  | refine o_notT ?_
  | refine o_and ?_
  | refine o_or ?_
  | refine o_un ?_
  | refine o_yes ?_
  | refine o_ch ?_
  | (refine o_callB ?_)
  | refine o_ixo ?_
  | refine o_sl ?_
  | refine o_noO ?_
  | refine o_someO ?_
  | refine o_name ?_
  | refine o_tupG ?_
  | refine o_consG ?_
  | refine o_nilG ?_
  | refine s_par ?_
  | (refine s_parM ?e ?h; (case e => with_unfolding_all rfl))
  | refine s_setG ?_
  | refine s_drop ?_
  | (refine s_retO (d := ?d) ?e ?h; (case e => with_unfolding_all rfl))
  | (refine s_mut (ds0 := ?d) ?e ?h; (case e => with_unfolding_all rfl))
  | (refine s_ins (ds0 := ?d) ?e ?h; (case e => with_unfolding_all rfl))
  | refine s_seti ?_
  | (refine s_aug (d := ?d) ?e ?h; (case e => with_unfolding_all rfl))
  | refine p_add ?_ | refine p_sub ?_ | refine p_lt ?_ | refine p_le ?_ | refine p_gt ?_ | refine p_ge ?_ | refine p_eq ?_ | refine p_ne ?_ | refine p_neg ?_ | refine p_abs ?_
  | refine p_intI ?_ | refine p_intB ?_ | refine p_lenL ?_ | refine p_lenT ?_ | refine p_tupL ?_ | refine p_tupT ?_ | refine p_lstL ?_ | refine p_lstT ?_ | refine p_isN ?_ | refine p_notN ?_
  | refine ex_two ?_
  | refine ex_int ?_ | refine ex_list ?_ | refine ex_tup ?_
  | (refine ex_ixo (ds := ?d) ?e ?h; (case e => with_unfolding_all rfl))
  | (refine ex_b (b := ?d) ?e ?h; (case e => with_unfolding_all rfl))
  | (refine ex_l (ds := ?d) ?e ?h; (case e => with_unfolding_all rfl))
  | refine o_enum ?_ | refine o_enumT ?_ | refine o_zip ?_ | refine o_zipM ?_ | refine o_rng1 ?_ | refine o_rng2 ?_
  | refine o_bor ?_ | refine o_borF ?_ | refine o_borT ?_
  | tm_at "spec")
local macro_rules | `(tactic| tm_at "pwj") => `(tactic| repeat' (tm_at "pw1j"))

local macro_rules | `(tactic| tm_at "cst") => `(tactic| with_reducible first | refine o_t01 ?_ | refine o_t11 ?_ | refine o_t21 ?_)
local macro_rules | `(tactic| tm_at "spec") => `(tactic| with_reducible first | refine p_fq0 ?_ | refine p_fq1 ?_ | refine p_two0 ?_ | refine p_two1 ?_ | refine p_hd0 ?_ | refine p_hdL0 ?_ | refine p_eqfq ?_ | refine p_nefq ?_)
local macro_rules | `(tactic| tm_at "run") => `(tactic| (refine ok_run ?_; (first | rw [env1] | rw [env2] | rw [env3] | rw [env0] | rw [env4] | rw [env5]); simp only [List.replicate_succ, List.replicate_zero]))
local macro_rules | `(tactic| tm_at "runF") => `(tactic| (refine ok_runF ?_; (first | rw [env1] | rw [env2] | rw [env3] | rw [env0] | rw [env4] | rw [env5]); simp only [List.replicate_succ, List.replicate_zero]))
local macro_rules | `(tactic| tm_at "runB") => `(tactic| (refine ok_runB ?_; (first | rw [env1] | rw [env2] | rw [env3] | rw [env0] | rw [env4] | rw [env5]); simp only [List.replicate_succ, List.replicate_zero]))
local macro_rules | `(tactic| tm_at "runBF") => `(tactic| (refine ok_runBF ?_; (first | rw [env1] | rw [env2] | rw [env3] | rw [env0] | rw [env4] | rw [env5]); simp only [List.replicate_succ, List.replicate_zero]))

local macro_rules | `(tactic| tm_at "cst") => `(tactic| with_reducible first | refine o_nought ?_ | refine o_t01 ?_ | refine o_t11 ?_ | refine o_t21 ?_)
theorem lfree_fq (x : Rat) : lfree (fq x) = true := rfl
theorem lfrees_all : ∀ {ds : List D}, (∀ d ∈ ds, lfree d = true) → lfrees ds = true
  | [], _ => rfl
  | d :: ds, h => by
    simp only [lfrees, Bool.and_eq_true]
    exact ⟨h d List.mem_cons_self, lfrees_all fun e he => h e (List.mem_cons_of_mem _ he)⟩
theorem lfrees_fq (xs : List Rat) : lfrees (xs.map fq) = true := lfrees_all fun d hd => by
  obtain ⟨x, _, rfl⟩ := List.mem_map.mp hd
  rfl
theorem sh_fqs (xs : List Rat) : Sh 2 (.list (xs.map fq)) := sh_list fun d hd => by
  obtain ⟨x, _, rfl⟩ := List.mem_map.mp hd
  exact sh_fq x
theorem in_fq (x : Rat) (xs : List Rat) : inB (fq x) (.list (xs.map fq)) = some (decide (x ∈ xs)) := by
  show (if SeqAt.shaped (fq x) = true ∧ SeqAt.shaped (.list (xs.map fq)) = true then some ((xs.map fq).any fun z => PyData.eqv z (fq x)) else none) = _
  rw [if_pos ⟨(sh_fq x).ok (by decide), (sh_fqs xs).ok (by decide)⟩]
  congr 1
  induction xs with
  | nil => rfl
  | cons y xs ih =>
    rw [List.map_cons, List.any_cons, ih, eqv_fq]
    by_cases h : y = x
    · simp [h]
    · by_cases k : x ∈ xs <;> simp [h, k, Ne.symm h]
theorem p_notInFq {x : Rat} {xs : List Rat} {Q : D → Prop} (h : Q (.bool (!decide (x ∈ xs)))) : Ok (notInD (fq x) (.list (xs.map fq))) Q := ⟨_, by unfold notInD; rw [in_fq]; rfl, h⟩
theorem insU_in {l : List Rat} {x : Rat} (h : x ∈ l) : insU l x = l := by unfold insU; rw [if_pos h]
theorem insU_list (l : List Rat) (x : Rat) (h : x ∉ l) : (l.map fq).take (cntB x l) ++ [fq x] ++ (l.map fq).drop (cntB x l) = (insU l x).map fq := by
  unfold insU
  rw [if_neg h]
  simp [List.map_take, List.map_drop]
/-! corners' levels -/
abbrev lvC (c : Cu) : List Rat := (c.p :: c.r).map (·.1)
theorem pts_level (c : Cu) : ∀ {ρ : En}, True := fun {_} => trivial
/-! pays -/
theorem slope_sz {s : Nat} {c : Cu} {i : Nat} {b : Pt} {k : Rat} (hz : CuZ s c) (hb : (c.p :: c.r)[i]? = some b) (h : i + 1 = (c.p :: c.r).length ∧ k = c.s ∨ ∃ q, (c.p :: c.r)[i + 1]? = some q ∧ k = sb b q ∧ b.1 < q.1) : Sz (4 * s + 2) k := by
  rcases h with ⟨h1, rfl⟩ | ⟨q, h1, rfl, h2⟩
  · exact hz.sl.mono (by omega)
  · have zb := hz.pt b (List.mem_of_getElem? hb)
    have zq := hz.pt q (List.mem_of_getElem? h1)
    exact ((zq.2.sub zb.2).div (zq.1.sub zb.1)).mono (by omega)
/-! sums -/
end Lay

namespace Lay
open PySem PySem.Spec PyProof.Rows L2
local macro_rules | `(tactic| tm_at "len") => `(tactic| first | (simp only [List.length_cons, List.length_nil, sizeLine]; omega) | (simp [sizeLine]; omega) | (simp [sizeLine]; done))
local macro_rules | `(tactic| tm_at "pw1") => `(tactic| with_reducible first
  | refine s_seq ?_
  | refine o_op ?_
  | (refine o_var (d := ?d) ?e ?h; (case e => with_unfolding_all rfl))
  | tm_at "cst"
  | refine o_c ?_
  | refine o_cl ?_
  | refine o_cons ?_
  | refine o_nil ?_
  | refine s_set ?_
  | (refine s_own (by simp only [List.length_cons, List.length_nil, List.length_set]; omega) ?_)
  | refine s_ret ?_
  | refine s_if ?_
  | refine s_nop ?_
  | refine s_kill ?_
  | refine s_for ?_
  | refine o_it ?_
  | refine o_itl ?_
  | refine o_itt ?_
  | refine o_tup ?_
  | refine o_lst ?_
  | (refine And.intro (a := List.length _ ≤ sizeLine) (by tm_at "len") ?_)
  | refine o_t ?_
  | refine o_asB ?_
  | refine o_g1 ?_
  | refine o_if ?_
  | refine w_t ?_
  | refine w_f ?_
  | refine w_nt ?_
  | refine w_nf ?_
  | refine o_not ?_
  | refine o_notT ?_
  | refine o_and ?_
  | refine o_or ?_
  | refine o_un ?_
  | refine o_yes ?_
  | refine o_ch ?_
  | (refine o_callB ?_)
  | refine o_ixo ?_
  | refine o_sl ?_
  | refine o_noO ?_
  | refine o_someO ?_
  | refine o_name ?_
  | refine o_tupG ?_
  | refine o_consG ?_
  | refine o_nilG ?_
  | refine s_par ?_
  | (refine s_parM ?e ?h; (case e => with_unfolding_all rfl))
  | refine s_setG ?_
  | refine s_drop ?_
  | (refine s_retO (d := ?d) ?e ?h; (case e => with_unfolding_all rfl))
  | (refine s_mut (ds0 := ?d) ?e ?h; (case e => with_unfolding_all rfl))
  | (refine s_ins (ds0 := ?d) ?e ?h; (case e => with_unfolding_all rfl))
  | refine s_seti ?_
  | (refine s_aug (d := ?d) ?e ?h; (case e => with_unfolding_all rfl))
  | refine p_add ?_ | refine p_sub ?_ | refine p_lt ?_ | refine p_le ?_ | refine p_gt ?_ | refine p_ge ?_ | refine p_eq ?_ | refine p_ne ?_ | refine p_neg ?_ | refine p_abs ?_
  | refine p_intI ?_ | refine p_intB ?_ | refine p_lenL ?_ | refine p_lenT ?_ | refine p_tupL ?_ | refine p_tupT ?_ | refine p_lstL ?_ | refine p_lstT ?_ | refine p_isN ?_ | refine p_notN ?_
  | refine ex_two ?_
  | refine ex_int ?_ | refine ex_list ?_ | refine ex_tup ?_
  | (refine ex_ixo (ds := ?d) ?e ?h; (case e => with_unfolding_all rfl))
  | (refine ex_b (b := ?d) ?e ?h; (case e => with_unfolding_all rfl))
  | (refine ex_l (ds := ?d) ?e ?h; (case e => with_unfolding_all rfl))
  | refine o_enum ?_ | refine o_enumT ?_ | refine o_zip ?_ | refine o_zipM ?_ | refine o_rng1 ?_ | refine o_rng2 ?_
  | refine o_bor ?_ | refine o_borF ?_ | refine o_borT ?_
  | tm_at "spec")
local macro_rules | `(tactic| tm_at "pw") => `(tactic| repeat' (tm_at "pw1"))
local macro_rules | `(tactic| tm_at "pw1j") => `(tactic| with_reducible first
  | refine s_seq ?_
  | refine o_op ?_
  | (refine o_var (d := ?d) ?e ?h; (case e => with_unfolding_all rfl))
  | tm_at "cst"
  | refine o_c ?_
  | refine o_cl ?_
  | refine o_cons ?_
  | refine o_nil ?_
  | refine s_set ?_
  | (refine s_own (by simp only [List.length_cons, List.length_nil, List.length_set]; omega) ?_)
  | refine s_ret ?_
  | refine s_if ?_
  | refine s_nop ?_
  | refine s_kill ?_
  | refine s_for ?_
  | refine o_it ?_
  | refine o_itl ?_
  | refine o_itt ?_
  | refine o_tup ?_
  | refine o_lst ?_
  | (refine And.intro (a := List.length _ ≤ sizeLine) (by tm_at "len") ?_)
  | refine o_t ?_
  | refine o_asB ?_
  | refine o_g1 ?_
  | refine w_t ?_
  | refine w_f ?_
  | refine w_nt ?_
  | refine w_nf ?_
  | refine o_not ?_
  | refine o_notT ?_
  | refine o_and ?_
  | refine o_or ?_
  | refine o_un ?_
  | refine o_yes ?_
  | refine o_ch ?_
  | (refine o_callB ?_)
  | refine o_ixo ?_
  | refine o_sl ?_
  | refine o_noO ?_
  | refine o_someO ?_
  | refine o_name ?_
  | refine o_tupG ?_
  | refine o_consG ?_
  | refine o_nilG ?_
  | refine s_par ?_
  | (refine s_parM ?e ?h; (case e => with_unfolding_all rfl))
  | refine s_setG ?_
  | refine s_drop ?_
  | (refine s_retO (d := ?d) ?e ?h; (case e => with_unfolding_all rfl))
  | (refine s_mut (ds0 := ?d) ?e ?h; (case e => with_unfolding_all rfl))
  | (refine s_ins (ds0 := ?d) ?e ?h; (case e => with_unfolding_all rfl))
  | refine s_seti ?_
  | (refine s_aug (d := ?d) ?e ?h; (case e => with_unfolding_all rfl))
  | refine p_add ?_ | refine p_sub ?_ | refine p_lt ?_ | refine p_le ?_ | refine p_gt ?_ | refine p_ge ?_ | refine p_eq ?_ | refine p_ne ?_ | refine p_neg ?_ | refine p_abs ?_
  | refine p_intI ?_ | refine p_intB ?_ | refine p_lenL ?_ | refine p_lenT ?_ | refine p_tupL ?_ | refine p_tupT ?_ | refine p_lstL ?_ | refine p_lstT ?_ | refine p_isN ?_ | refine p_notN ?_
  | refine ex_two ?_
  | refine ex_int ?_ | refine ex_list ?_ | refine ex_tup ?_
  | (refine ex_ixo (ds := ?d) ?e ?h; (case e => with_unfolding_all rfl))
  | (refine ex_b (b := ?d) ?e ?h; (case e => with_unfolding_all rfl))
  | (refine ex_l (ds := ?d) ?e ?h; (case e => with_unfolding_all rfl))
  | refine o_enum ?_ | refine o_enumT ?_ | refine o_zip ?_ | refine o_zipM ?_ | refine o_rng1 ?_ | refine o_rng2 ?_
  | refine o_bor ?_ | refine o_borF ?_ | refine o_borT ?_
  | tm_at "spec")
local macro_rules | `(tactic| tm_at "pwj") => `(tactic| repeat' (tm_at "pw1j"))

local macro_rules | `(tactic| tm_at "cst") => `(tactic| with_reducible first | refine o_t01 ?_ | refine o_t11 ?_ | refine o_t21 ?_)
local macro_rules | `(tactic| tm_at "spec") => `(tactic| with_reducible first | refine p_fq0 ?_ | refine p_fq1 ?_ | refine p_two0 ?_ | refine p_two1 ?_ | refine p_hd0 ?_ | refine p_hdL0 ?_ | refine p_eqfq ?_ | refine p_nefq ?_)
local macro_rules | `(tactic| tm_at "run") => `(tactic| (refine ok_run ?_; (first | rw [env1] | rw [env2] | rw [env3] | rw [env0] | rw [env4] | rw [env5]); simp only [List.replicate_succ, List.replicate_zero]))
local macro_rules | `(tactic| tm_at "runF") => `(tactic| (refine ok_runF ?_; (first | rw [env1] | rw [env2] | rw [env3] | rw [env0] | rw [env4] | rw [env5]); simp only [List.replicate_succ, List.replicate_zero]))
local macro_rules | `(tactic| tm_at "runB") => `(tactic| (refine ok_runB ?_; (first | rw [env1] | rw [env2] | rw [env3] | rw [env0] | rw [env4] | rw [env5]); simp only [List.replicate_succ, List.replicate_zero]))
local macro_rules | `(tactic| tm_at "runBF") => `(tactic| (refine ok_runBF ?_; (first | rw [env1] | rw [env2] | rw [env3] | rw [env0] | rw [env4] | rw [env5]); simp only [List.replicate_succ, List.replicate_zero]))

local macro_rules | `(tactic| tm_at "cst") => `(tactic| with_reducible first | refine o_nought ?_ | refine o_t01 ?_ | refine o_t11 ?_ | refine o_t21 ?_)
def oq : Option Rat → D
  | none => .none
  | some x => fq x
theorem ints_eq (l : List Nat) : eqB (.list (l.map fun i => .int (i : Nat))) (.list []) = some l.isEmpty := by
  have s1 : Sh 1 (.list (l.map fun i => .int (i : Nat))) := sh_list fun d hd => by
    obtain ⟨a, _, rfl⟩ := List.mem_map.mp hd
    exact sh_int _
  have s2 : Sh 1 (.list []) := sh_list fun d hd => nomatch hd
  rw [eqB_sh s1 s2 (by decide) (by decide) (fun a z => by cases z)]
  cases l <;> simp [PyData.eqv, PyData.eqvAll]
theorem p_ints {l : List Nat} {Q : D → Prop} (h : Q (.bool l.isEmpty)) : Ok (eqD (.list (l.map fun i => .int (i : Nat))) (.list [])) Q := ⟨_, by unfold eqD; rw [ints_eq]; rfl, h⟩
/-- some curves and all that is reckoned with them keep within -/
structure CsZ (s t u : Nat) (cs : List Cu) : Prop where
  g : ∀ c ∈ cs, c.Good
  z : ∀ c ∈ cs, CuZ s c
  s1 : 1 ≤ s
  su : s ≤ u
  l : (cs.flatMap lvC).length ≤ 900
  p : ∀ c ∈ cs, ∀ x ∈ lvs cs, Sz t (c.at x)
  uu : ∀ x ∈ lvs cs, Sz u (sumAt cs x)
  us : Sz u (sumS cs)
  h1 : 7 * s + 20 < 9000
  h2 : cs.length * (t + 1) + t < 8990
  h3 : cs.length * (s + 1) + s < 8990
  h4 : 4 * u + 2 < 9000
section
variable {s t u : Nat} {cs : List Cu} {d : D}
theorem CsZ.lsz (h : CsZ s t u cs) : ∀ x ∈ lvs cs, Sz s x := fun x hx => by
  rcases List.mem_cons.mp (asU_mem.mp hx) with rfl | hx
  · exact sz0.mono h.s1
  · obtain ⟨c, hc, hx⟩ := List.mem_flatMap.mp hx
    obtain ⟨q, hq, rfl⟩ := List.mem_map.mp hx
    exact ((h.z c hc).pt q hq).1
theorem CsZ.addZ (h : CsZ s t u cs) : CuZ u (addU cs) := by
  obtain ⟨r, e, ha⟩ := lvs_head h.g
  have lz := h.lsz
  have lu := h.uu
  unfold addU
  rw [e] at lz lu ⊢
  refine ⟨fun q hq => ?_, h.us⟩
  have : q.1 ∈ 0 :: r ∧ q.2 = sumAt cs q.1 := by
    rcases List.mem_cons.mp hq with rfl | hq
    · exact ⟨List.mem_cons_self, rfl⟩
    · obtain ⟨v, hv, rfl⟩ := List.mem_map.mp (nrm_sub q hq)
      exact ⟨List.mem_cons_of_mem _ hv, rfl⟩
  rw [this.2]
  exact ⟨(lz _ this.1).mono h.su, lu _ this.1⟩
theorem levU_nn (g : ∀ c ∈ cs, c.Good) {a x : Rat} (h0 : 0 ≤ a) (e : levU cs a = some x) : 0 ≤ x := by
  obtain ⟨G, E⟩ := addU_good g
  unfold levU at e
  split at e
  · cases e; exact Rat.le_refl
  · have k := rch_lst (s := (addU cs).s) (a := a) G.s G.asc (by rw [G.z]; grind)
    rw [e] at k
    have := k.1
    rw [G.z] at this
    exact this
def paysD (cs : List Cu) : Option Rat → D
  | none => .none
  | some x => .tuple (cs.map fun c => fq (c.at x))
end
end Lay

namespace Lay
open PySem PySem.Spec PyProof.Rows L2
local macro_rules | `(tactic| tm_at "len") => `(tactic| first | (simp only [List.length_cons, List.length_nil, sizeLine]; omega) | (simp [sizeLine]; omega) | (simp [sizeLine]; done))
local macro_rules | `(tactic| tm_at "pw1") => `(tactic| with_reducible first
  | refine s_seq ?_
  | refine o_op ?_
  | (refine o_var (d := ?d) ?e ?h; (case e => with_unfolding_all rfl))
  | tm_at "cst"
  | refine o_c ?_
  | refine o_cl ?_
  | refine o_cons ?_
  | refine o_nil ?_
  | refine s_set ?_
  | (refine s_own (by simp only [List.length_cons, List.length_nil, List.length_set]; omega) ?_)
  | refine s_ret ?_
  | refine s_if ?_
  | refine s_nop ?_
  | refine s_kill ?_
  | refine s_for ?_
  | refine o_it ?_
  | refine o_itl ?_
  | refine o_itt ?_
  | refine o_tup ?_
  | refine o_lst ?_
  | (refine And.intro (a := List.length _ ≤ sizeLine) (by tm_at "len") ?_)
  | refine o_t ?_
  | refine o_asB ?_
  | refine o_g1 ?_
  | refine o_if ?_
  | refine w_t ?_
  | refine w_f ?_
  | refine w_nt ?_
  | refine w_nf ?_
  | refine o_not ?_
  | refine o_notT ?_
  | refine o_and ?_
  | refine o_or ?_
  | refine o_un ?_
  | refine o_yes ?_
  | refine o_ch ?_
  | (refine o_callB ?_)
  | refine o_ixo ?_
  | refine o_sl ?_
  | refine o_noO ?_
  | refine o_someO ?_
  | refine o_name ?_
  | refine o_tupG ?_
  | refine o_consG ?_
  | refine o_nilG ?_
  | refine s_par ?_
  | (refine s_parM ?e ?h; (case e => with_unfolding_all rfl))
  | refine s_setG ?_
  | refine s_drop ?_
  | (refine s_retO (d := ?d) ?e ?h; (case e => with_unfolding_all rfl))
  | (refine s_mut (ds0 := ?d) ?e ?h; (case e => with_unfolding_all rfl))
  | (refine s_ins (ds0 := ?d) ?e ?h; (case e => with_unfolding_all rfl))
  | refine s_seti ?_
  | (refine s_aug (d := ?d) ?e ?h; (case e => with_unfolding_all rfl))
  | refine p_add ?_ | refine p_sub ?_ | refine p_lt ?_ | refine p_le ?_ | refine p_gt ?_ | refine p_ge ?_ | refine p_eq ?_ | refine p_ne ?_ | refine p_neg ?_ | refine p_abs ?_
  | refine p_intI ?_ | refine p_intB ?_ | refine p_lenL ?_ | refine p_lenT ?_ | refine p_tupL ?_ | refine p_tupT ?_ | refine p_lstL ?_ | refine p_lstT ?_ | refine p_isN ?_ | refine p_notN ?_
  | refine ex_two ?_
  | refine ex_int ?_ | refine ex_list ?_ | refine ex_tup ?_
  | (refine ex_ixo (ds := ?d) ?e ?h; (case e => with_unfolding_all rfl))
  | (refine ex_b (b := ?d) ?e ?h; (case e => with_unfolding_all rfl))
  | (refine ex_l (ds := ?d) ?e ?h; (case e => with_unfolding_all rfl))
  | refine o_enum ?_ | refine o_enumT ?_ | refine o_zip ?_ | refine o_zipM ?_ | refine o_rng1 ?_ | refine o_rng2 ?_
  | refine o_bor ?_ | refine o_borF ?_ | refine o_borT ?_
  | tm_at "spec")
local macro_rules | `(tactic| tm_at "pw") => `(tactic| repeat' (tm_at "pw1"))
local macro_rules | `(tactic| tm_at "pw1j") => `(tactic| with_reducible first
  | refine s_seq ?_
  | refine o_op ?_
  | (refine o_var (d := ?d) ?e ?h; (case e => with_unfolding_all rfl))
  | tm_at "cst"
  | refine o_c ?_
  | refine o_cl ?_
  | refine o_cons ?_
  | refine o_nil ?_
  | refine s_set ?_
  | (refine s_own (by simp only [List.length_cons, List.length_nil, List.length_set]; omega) ?_)
  | refine s_ret ?_
  | refine s_if ?_
  | refine s_nop ?_
  | refine s_kill ?_
  | refine s_for ?_
  | refine o_it ?_
  | refine o_itl ?_
  | refine o_itt ?_
  | refine o_tup ?_
  | refine o_lst ?_
  | (refine And.intro (a := List.length _ ≤ sizeLine) (by tm_at "len") ?_)
  | refine o_t ?_
  | refine o_asB ?_
  | refine o_g1 ?_
  | refine w_t ?_
  | refine w_f ?_
  | refine w_nt ?_
  | refine w_nf ?_
  | refine o_not ?_
  | refine o_notT ?_
  | refine o_and ?_
  | refine o_or ?_
  | refine o_un ?_
  | refine o_yes ?_
  | refine o_ch ?_
  | (refine o_callB ?_)
  | refine o_ixo ?_
  | refine o_sl ?_
  | refine o_noO ?_
  | refine o_someO ?_
  | refine o_name ?_
  | refine o_tupG ?_
  | refine o_consG ?_
  | refine o_nilG ?_
  | refine s_par ?_
  | (refine s_parM ?e ?h; (case e => with_unfolding_all rfl))
  | refine s_setG ?_
  | refine s_drop ?_
  | (refine s_retO (d := ?d) ?e ?h; (case e => with_unfolding_all rfl))
  | (refine s_mut (ds0 := ?d) ?e ?h; (case e => with_unfolding_all rfl))
  | (refine s_ins (ds0 := ?d) ?e ?h; (case e => with_unfolding_all rfl))
  | refine s_seti ?_
  | (refine s_aug (d := ?d) ?e ?h; (case e => with_unfolding_all rfl))
  | refine p_add ?_ | refine p_sub ?_ | refine p_lt ?_ | refine p_le ?_ | refine p_gt ?_ | refine p_ge ?_ | refine p_eq ?_ | refine p_ne ?_ | refine p_neg ?_ | refine p_abs ?_
  | refine p_intI ?_ | refine p_intB ?_ | refine p_lenL ?_ | refine p_lenT ?_ | refine p_tupL ?_ | refine p_tupT ?_ | refine p_lstL ?_ | refine p_lstT ?_ | refine p_isN ?_ | refine p_notN ?_
  | refine ex_two ?_
  | refine ex_int ?_ | refine ex_list ?_ | refine ex_tup ?_
  | (refine ex_ixo (ds := ?d) ?e ?h; (case e => with_unfolding_all rfl))
  | (refine ex_b (b := ?d) ?e ?h; (case e => with_unfolding_all rfl))
  | (refine ex_l (ds := ?d) ?e ?h; (case e => with_unfolding_all rfl))
  | refine o_enum ?_ | refine o_enumT ?_ | refine o_zip ?_ | refine o_zipM ?_ | refine o_rng1 ?_ | refine o_rng2 ?_
  | refine o_bor ?_ | refine o_borF ?_ | refine o_borT ?_
  | tm_at "spec")
local macro_rules | `(tactic| tm_at "pwj") => `(tactic| repeat' (tm_at "pw1j"))

local macro_rules | `(tactic| tm_at "cst") => `(tactic| with_reducible first | refine o_t01 ?_ | refine o_t11 ?_ | refine o_t21 ?_)
local macro_rules | `(tactic| tm_at "spec") => `(tactic| with_reducible first | refine p_fq0 ?_ | refine p_fq1 ?_ | refine p_two0 ?_ | refine p_two1 ?_ | refine p_hd0 ?_ | refine p_hdL0 ?_ | refine p_eqfq ?_ | refine p_nefq ?_)
local macro_rules | `(tactic| tm_at "run") => `(tactic| (refine ok_run ?_; (first | rw [env1] | rw [env2] | rw [env3] | rw [env0] | rw [env4] | rw [env5]); simp only [List.replicate_succ, List.replicate_zero]))
local macro_rules | `(tactic| tm_at "runF") => `(tactic| (refine ok_runF ?_; (first | rw [env1] | rw [env2] | rw [env3] | rw [env0] | rw [env4] | rw [env5]); simp only [List.replicate_succ, List.replicate_zero]))
local macro_rules | `(tactic| tm_at "runB") => `(tactic| (refine ok_runB ?_; (first | rw [env1] | rw [env2] | rw [env3] | rw [env0] | rw [env4] | rw [env5]); simp only [List.replicate_succ, List.replicate_zero]))
local macro_rules | `(tactic| tm_at "runBF") => `(tactic| (refine ok_runBF ?_; (first | rw [env1] | rw [env2] | rw [env3] | rw [env0] | rw [env4] | rw [env5]); simp only [List.replicate_succ, List.replicate_zero]))

/-! ## the law's own fractions -/
section
variable {s t : Nat} {a b : Rat}
theorem llessened_eq (ha : Sz s a) (hb : Sz t b) (h : s + t < 9000) : F__law_lessened [fq a, fq b] = some (fq (a - b)) := by
  obtain ⟨l1, l2, l3, l4⟩ := mul_sz ha hb h
  obtain ⟨k1, k2, k3, k4⟩ := mul_sz hb ha (by omega)
  refine ok_get ?_
  unfold F__law_lessened S__law_lessened
  tm_at "run"
  tm_at "pw"
  refine p_mul l1 ?_
  tm_at "pw"
  refine p_mul k1 ?_
  tm_at "pw"
  refine p_mul l3 ?_
  tm_at "pw"
  have r := lred_eq (a.num * b.den - b.num * a.den) (a.den * b.den) (Int.mul_ne_zero (den_ne a) (den_ne b)) (by rw [natAbs_mul_dd]; have := log2_mul ha.2 hb.2; omega)
  refine ok_eq r ?_
  rw [← Rat.divInt_sub_divInt _ _ (den_ne a) (den_ne b), Rat.num_divInt_den, Rat.num_divInt_den]
theorem ldivided_eq (ha : Sz s a) (hb : Sz t b) (h : s + t < 9000) (nz : b ≠ 0) : F__law_divided [fq a, fq b] = some (fq (a / b)) := by
  obtain ⟨l1, l2, l3, l4⟩ := mul_sz ha hb h
  obtain ⟨k1, k2, k3, k4⟩ := mul_sz hb ha (by omega)
  refine ok_get ?_
  unfold F__law_divided S__law_divided
  tm_at "run"
  tm_at "pw"
  refine p_mul l1 ?_
  tm_at "pw"
  refine p_mul l4 ?_
  tm_at "pw"
  have bn : b.num ≠ 0 := fun z => nz (Rat.num_eq_zero.mp z)
  have r := lred_eq (a.num * b.den) (a.den * b.num) (Int.mul_ne_zero (den_ne a) bn) (by
    rw [Int.natAbs_mul, Int.natAbs_natCast]
    have := log2_mul ha.2 hb.1
    omega)
  refine ok_eq r ?_
  congr 1
  conv => rhs; rw [← Rat.num_divInt_den a, ← Rat.num_divInt_den b]
  rw [Rat.divInt_eq_div, Rat.divInt_eq_div, Rat.divInt_eq_div]
  have a1 : ((a.den : Int) : Rat) ≠ 0 := by
    intro z
    exact den_ne a (by exact_mod_cast z)
  have a2 : ((b.den : Int) : Rat) ≠ 0 := by
    intro z
    exact den_ne b (by exact_mod_cast z)
  have a3 : ((b.num : Int) : Rat) ≠ 0 := by
    intro z
    exact bn (by exact_mod_cast z)
  rw [Rat.intCast_mul, Rat.intCast_mul]
  grind
theorem lbelow_eq (ha : Sz s a) (hb : Sz t b) (h : s + t < 9000) : F__law_is_below [fq a, fq b] = some (.bool (decide (a < b))) := by
  obtain ⟨l1, l2, l3, l4⟩ := mul_sz ha hb h
  obtain ⟨k1, k2, k3, k4⟩ := mul_sz hb ha (by omega)
  refine ok_get ?_
  unfold F__law_is_below S__law_is_below
  tm_at "run"
  tm_at "pw"
  refine p_mul l1 ?_
  tm_at "pw"
  refine p_mul k1 ?_
  tm_at "pw"
  congr 1
  rw [decide_eq_decide]
  exact (lt_cross a b).symm
end
theorem ltotal_of {s : Nat} {d : D} {xs : List Rat} (hd : Seq d (xs.map fq)) (h : ∀ x ∈ xs, Sz s x) (hl : xs.length * (s + 1) + s < 8990) : F__law_total [d] = some (fq (sumL xs)) := by
  refine ok_get ?_
  unfold F__law_total S__law_total
  rcases hd with rfl | rfl
  all_goals
    tm_at "run"
    tm_at "pw"
    refine l_on (xs := xs) (e := fq) (fun pre ρ => ρ = [some _, some (fq (sumL pre)), none]) rfl ?_ ?_
    · rintro ρ rfl
      tm_at "pw"
      rfl
    · rintro pre x post ρ e rfl
      tm_at "pw"
      have hp : Sz (1 + pre.length * (s + 1)) (sumL pre) := sum_sz fun y hy => h y (by rw [e]; exact List.mem_append_left _ hy)
      have hb : pre.length * (s + 1) ≤ xs.length * (s + 1) := Nat.mul_le_mul_right _ (by rw [e]; simp)
      refine ok_eq (ladded_eq hp (h x (by rw [e]; simp)) (by omega)) ?_
      tm_at "pw"
      rw [sumL_snoc]
      rfl
theorem lasc_eq {s : Nat} {xs : List Rat} (h : ∀ x ∈ xs, Sz s x) (hs : 2 * s < 9000) (hl : xs.length ≤ 9000) : F__law_ascending [.list (xs.map fq)] = some (.list ((asU xs).map fq)) := by
  refine ok_get ?_
  unfold F__law_ascending S__law_ascending
  tm_at "runF"
  tm_at "pw"
  refine l_on (xs := xs) (e := fq) (fun pre ρ => ρ = [some _, some (.list ((pre.foldl insU []).map fq)), none, none, none]) rfl ?_ ?_
  · rintro ρ rfl
    tm_at "pw"
    rfl
  · rintro pre x post ρ e rfl
    have hx : x ∈ xs := by rw [e]; simp
    have hsub : ∀ y ∈ pre.foldl insU [], y ∈ xs := fun y hy => by
      rcases foldU_mem.mp hy with k | k
      · rw [e]; exact List.mem_append_left _ k
      · cases k
    have hlen : (pre.foldl insU []).length ≤ xs.length := by
      have := foldU_len pre []
      rw [e]; simp at *; omega
    have fin : (pre ++ [x]).foldl insU [] = insU (pre.foldl insU []) x := by rw [List.foldl_append]; rfl
    have srt : Asd (pre.foldl insU []) := foldU_asd List.Pairwise.nil
    have hat := insU_at (x := x) srt
    have cl := cntB_le x (pre.foldl insU [])
    tm_at "pw"
    refine o_compOn (xs := pre.foldl insU []) (e := fq) (fun y => decide (y < x)) (fun _ => .int 1) rfl (fun y hy => ?_) ?_
    · tm_at "pw"
      refine ⟨rfl, ?_⟩
      tm_at "pw"
      refine ok_eq (lbelow_eq (h y (hsub y hy)) (h x hx) (by omega)) ?_
      tm_at "pw"
      refine ⟨rfl, rfl, fun _ => ?_⟩
      tm_at "pw"
      exact ⟨rfl, rfl⟩
    · refine ⟨rfl, _, rfl, ?_, ?_⟩
      · refine lfrees_all fun d hd => ?_
        obtain ⟨_, _, rfl⟩ := List.mem_map.mp hd
        rfl
      · tm_at "pw"
        have e3 : (((pre.foldl insU []).filter fun y => decide (y < x)).map fun _ => PyData.int 1).length = cntB x (pre.foldl insU []) := by rw [List.length_map]; rfl
        have e4 : ((pre.foldl insU []).map fq).length = (pre.foldl insU []).length := List.length_map ..
        rw [e3, e4]
        refine ⟨rfl, rfl, ?_⟩
        tm_at "pw"
        have ins : x ∉ pre.foldl insU [] → ∀ {Q : List D → Prop}, Q ((insU (pre.foldl insU []) x).map fq) → Ok (insG (.int (cntB x (pre.foldl insU []) : Nat)) ((pre.foldl insU []).map fq) (fq x)) Q := fun q Q hq => by
          refine o_ins (n := cntB x (pre.foldl insU [])) (by simp [sizeLine]; omega) (by omega) ?_
          rw [insU_list _ _ q]
          exact hq
        refine w_d (fun q => ?_) fun q => ?_
        · have q2 : x ∉ pre.foldl insU [] := fun z => by
            obtain ⟨y, h1, _⟩ := hat.mp z
            rw [List.getElem?_eq_none (by omega)] at h1
            cases h1
          tm_at "pw"
          refine ins q2 ?_
          tm_at "pw"
          rw [fin]
          rfl
        · have hlt : cntB x (pre.foldl insU []) < (pre.foldl insU []).length := by omega
          tm_at "pw"
          refine p_atL (at_map (List.getElem?_eq_getElem hlt)) ?_
          tm_at "pw"
          refine w_d (fun z => ?_) fun z => ?_
          · have q2 : x ∉ pre.foldl insU [] := fun k => by
              obtain ⟨y, h1, h2⟩ := hat.mp k
              rw [List.getElem?_eq_getElem hlt] at h1
              cases h1
              exact z h2
            tm_at "pw"
            refine ins q2 ?_
            tm_at "pw"
            rw [fin]
            rfl
          · have z := Classical.not_not.mp z
            have q2 : x ∈ pre.foldl insU [] := hat.mpr ⟨_, List.getElem?_eq_getElem hlt, z⟩
            tm_at "pw"
            rw [fin, insU_in q2]
            rfl
end Lay

namespace Lay
open PySem PySem.Spec PyProof.Rows L2
local macro_rules | `(tactic| tm_at "len") => `(tactic| first | (simp only [List.length_cons, List.length_nil, sizeLine]; omega) | (simp [sizeLine]; omega) | (simp [sizeLine]; done))
local macro_rules | `(tactic| tm_at "pw1") => `(tactic| with_reducible first
  | refine s_seq ?_
  | refine o_op ?_
  | (refine o_var (d := ?d) ?e ?h; (case e => with_unfolding_all rfl))
  | tm_at "cst"
  | refine o_c ?_
  | refine o_cl ?_
  | refine o_cons ?_
  | refine o_nil ?_
  | refine s_set ?_
  | (refine s_own (by simp only [List.length_cons, List.length_nil, List.length_set]; omega) ?_)
  | refine s_ret ?_
  | refine s_if ?_
  | refine s_nop ?_
  | refine s_kill ?_
  | refine s_for ?_
  | refine o_it ?_
  | refine o_itl ?_
  | refine o_itt ?_
  | refine o_tup ?_
  | refine o_lst ?_
  | (refine And.intro (a := List.length _ ≤ sizeLine) (by tm_at "len") ?_)
  | refine o_t ?_
  | refine o_asB ?_
  | refine o_g1 ?_
  | refine o_if ?_
  | refine w_t ?_
  | refine w_f ?_
  | refine w_nt ?_
  | refine w_nf ?_
  | refine o_not ?_
  | refine o_notT ?_
  | refine o_and ?_
  | refine o_or ?_
  | refine o_un ?_
  | refine o_yes ?_
  | refine o_ch ?_
  | (refine o_callB ?_)
  | refine o_ixo ?_
  | refine o_sl ?_
  | refine o_noO ?_
  | refine o_someO ?_
  | refine o_name ?_
  | refine o_tupG ?_
  | refine o_consG ?_
  | refine o_nilG ?_
  | refine s_par ?_
  | (refine s_parM ?e ?h; (case e => with_unfolding_all rfl))
  | refine s_setG ?_
  | refine s_drop ?_
  | (refine s_retO (d := ?d) ?e ?h; (case e => with_unfolding_all rfl))
  | (refine s_mut (ds0 := ?d) ?e ?h; (case e => with_unfolding_all rfl))
  | (refine s_ins (ds0 := ?d) ?e ?h; (case e => with_unfolding_all rfl))
  | refine s_seti ?_
  | (refine s_aug (d := ?d) ?e ?h; (case e => with_unfolding_all rfl))
  | refine p_add ?_ | refine p_sub ?_ | refine p_lt ?_ | refine p_le ?_ | refine p_gt ?_ | refine p_ge ?_ | refine p_eq ?_ | refine p_ne ?_ | refine p_neg ?_ | refine p_abs ?_
  | refine p_intI ?_ | refine p_intB ?_ | refine p_lenL ?_ | refine p_lenT ?_ | refine p_tupL ?_ | refine p_tupT ?_ | refine p_lstL ?_ | refine p_lstT ?_ | refine p_isN ?_ | refine p_notN ?_
  | refine ex_two ?_
  | refine ex_int ?_ | refine ex_list ?_ | refine ex_tup ?_
  | (refine ex_ixo (ds := ?d) ?e ?h; (case e => with_unfolding_all rfl))
  | (refine ex_b (b := ?d) ?e ?h; (case e => with_unfolding_all rfl))
  | (refine ex_l (ds := ?d) ?e ?h; (case e => with_unfolding_all rfl))
  | refine o_enum ?_ | refine o_enumT ?_ | refine o_zip ?_ | refine o_zipM ?_ | refine o_rng1 ?_ | refine o_rng2 ?_
  | refine o_bor ?_ | refine o_borF ?_ | refine o_borT ?_
  | tm_at "spec")
local macro_rules | `(tactic| tm_at "pw") => `(tactic| repeat' (tm_at "pw1"))
local macro_rules | `(tactic| tm_at "pw1j") => `(tactic| with_reducible first
  | refine s_seq ?_
  | refine o_op ?_
  | (refine o_var (d := ?d) ?e ?h; (case e => with_unfolding_all rfl))
  | tm_at "cst"
  | refine o_c ?_
  | refine o_cl ?_
  | refine o_cons ?_
  | refine o_nil ?_
  | refine s_set ?_
  | (refine s_own (by simp only [List.length_cons, List.length_nil, List.length_set]; omega) ?_)
  | refine s_ret ?_
  | refine s_if ?_
  | refine s_nop ?_
  | refine s_kill ?_
  | refine s_for ?_
  | refine o_it ?_
  | refine o_itl ?_
  | refine o_itt ?_
  | refine o_tup ?_
  | refine o_lst ?_
  | (refine And.intro (a := List.length _ ≤ sizeLine) (by tm_at "len") ?_)
  | refine o_t ?_
  | refine o_asB ?_
  | refine o_g1 ?_
  | refine w_t ?_
  | refine w_f ?_
  | refine w_nt ?_
  | refine w_nf ?_
  | refine o_not ?_
  | refine o_notT ?_
  | refine o_and ?_
  | refine o_or ?_
  | refine o_un ?_
  | refine o_yes ?_
  | refine o_ch ?_
  | (refine o_callB ?_)
  | refine o_ixo ?_
  | refine o_sl ?_
  | refine o_noO ?_
  | refine o_someO ?_
  | refine o_name ?_
  | refine o_tupG ?_
  | refine o_consG ?_
  | refine o_nilG ?_
  | refine s_par ?_
  | (refine s_parM ?e ?h; (case e => with_unfolding_all rfl))
  | refine s_setG ?_
  | refine s_drop ?_
  | (refine s_retO (d := ?d) ?e ?h; (case e => with_unfolding_all rfl))
  | (refine s_mut (ds0 := ?d) ?e ?h; (case e => with_unfolding_all rfl))
  | (refine s_ins (ds0 := ?d) ?e ?h; (case e => with_unfolding_all rfl))
  | refine s_seti ?_
  | (refine s_aug (d := ?d) ?e ?h; (case e => with_unfolding_all rfl))
  | refine p_add ?_ | refine p_sub ?_ | refine p_lt ?_ | refine p_le ?_ | refine p_gt ?_ | refine p_ge ?_ | refine p_eq ?_ | refine p_ne ?_ | refine p_neg ?_ | refine p_abs ?_
  | refine p_intI ?_ | refine p_intB ?_ | refine p_lenL ?_ | refine p_lenT ?_ | refine p_tupL ?_ | refine p_tupT ?_ | refine p_lstL ?_ | refine p_lstT ?_ | refine p_isN ?_ | refine p_notN ?_
  | refine ex_two ?_
  | refine ex_int ?_ | refine ex_list ?_ | refine ex_tup ?_
  | (refine ex_ixo (ds := ?d) ?e ?h; (case e => with_unfolding_all rfl))
  | (refine ex_b (b := ?d) ?e ?h; (case e => with_unfolding_all rfl))
  | (refine ex_l (ds := ?d) ?e ?h; (case e => with_unfolding_all rfl))
  | refine o_enum ?_ | refine o_enumT ?_ | refine o_zip ?_ | refine o_zipM ?_ | refine o_rng1 ?_ | refine o_rng2 ?_
  | refine o_bor ?_ | refine o_borF ?_ | refine o_borT ?_
  | tm_at "spec")
local macro_rules | `(tactic| tm_at "pwj") => `(tactic| repeat' (tm_at "pw1j"))

local macro_rules | `(tactic| tm_at "cst") => `(tactic| with_reducible first | refine o_t01 ?_ | refine o_t11 ?_ | refine o_t21 ?_)
local macro_rules | `(tactic| tm_at "spec") => `(tactic| with_reducible first | refine p_fq0 ?_ | refine p_fq1 ?_ | refine p_two0 ?_ | refine p_two1 ?_ | refine p_hd0 ?_ | refine p_hdL0 ?_ | refine p_eqfq ?_ | refine p_nefq ?_)
local macro_rules | `(tactic| tm_at "run") => `(tactic| (refine ok_run ?_; (first | rw [env1] | rw [env2] | rw [env3] | rw [env0] | rw [env4] | rw [env5]); simp only [List.replicate_succ, List.replicate_zero]))
local macro_rules | `(tactic| tm_at "runF") => `(tactic| (refine ok_runF ?_; (first | rw [env1] | rw [env2] | rw [env3] | rw [env0] | rw [env4] | rw [env5]); simp only [List.replicate_succ, List.replicate_zero]))
local macro_rules | `(tactic| tm_at "runB") => `(tactic| (refine ok_runB ?_; (first | rw [env1] | rw [env2] | rw [env3] | rw [env0] | rw [env4] | rw [env5]); simp only [List.replicate_succ, List.replicate_zero]))
local macro_rules | `(tactic| tm_at "runBF") => `(tactic| (refine ok_runBF ?_; (first | rw [env1] | rw [env2] | rw [env3] | rw [env0] | rw [env4] | rw [env5]); simp only [List.replicate_succ, List.replicate_zero]))

theorem cut_take {α : Type} (xs : List α) (n : Nat) : cutL xs none (some (n : Int)) = xs.take n := by
  unfold cutL
  rw [show HT.sIx xs.length 0 none = 0 from rfl, show HT.sIx xs.length xs.length (some (n : Int)) = min n xs.length from HT.sIx_nat _ _ n, List.drop_zero, Nat.sub_zero]
  rcases Nat.le_total n xs.length with h | h
  · rw [Nat.min_eq_left h]
  · rw [Nat.min_eq_right h, List.take_length, List.take_of_length_le h]
theorem p_takeL {n : Nat} {xs : List D} {Q : D → Prop} (h : Q (.list (xs.take n))) : Ok (slD none (some (n : Int)) (.list xs)) Q := ⟨_, by show some (PyData.list (cutL xs none (some (n : Int)))) = _; rw [cut_take], h⟩
end Lay

namespace Lay
open PySem PySem.Spec PyProof.Rows L2
local macro_rules | `(tactic| tm_at "len") => `(tactic| first | (simp only [List.length_cons, List.length_nil, sizeLine]; omega) | (simp [sizeLine]; omega) | (simp [sizeLine]; done))
local macro_rules | `(tactic| tm_at "pw1") => `(tactic| with_reducible first
  | refine s_seq ?_
  | refine o_op ?_
  | (refine o_var (d := ?d) ?e ?h; (case e => with_unfolding_all rfl))
  | tm_at "cst"
  | refine o_c ?_
  | refine o_cl ?_
  | refine o_cons ?_
  | refine o_nil ?_
  | refine s_set ?_
  | (refine s_own (by simp only [List.length_cons, List.length_nil, List.length_set]; omega) ?_)
  | refine s_ret ?_
  | refine s_if ?_
  | refine s_nop ?_
  | refine s_kill ?_
  | refine s_for ?_
  | refine o_it ?_
  | refine o_itl ?_
  | refine o_itt ?_
  | refine o_tup ?_
  | refine o_lst ?_
  | (refine And.intro (a := List.length _ ≤ sizeLine) (by tm_at "len") ?_)
  | refine o_t ?_
  | refine o_asB ?_
  | refine o_g1 ?_
  | refine o_if ?_
  | refine w_t ?_
  | refine w_f ?_
  | refine w_nt ?_
  | refine w_nf ?_
  | refine o_not ?_
  | refine o_notT ?_
  | refine o_and ?_
  | refine o_or ?_
  | refine o_un ?_
  | refine o_yes ?_
  | refine o_ch ?_
  | (refine o_callB ?_)
  | refine o_ixo ?_
  | refine o_sl ?_
  | refine o_noO ?_
  | refine o_someO ?_
  | refine o_name ?_
  | refine o_tupG ?_
  | refine o_consG ?_
  | refine o_nilG ?_
  | refine s_par ?_
  | (refine s_parM ?e ?h; (case e => with_unfolding_all rfl))
  | refine s_setG ?_
  | refine s_drop ?_
  | (refine s_retO (d := ?d) ?e ?h; (case e => with_unfolding_all rfl))
  | (refine s_mut (ds0 := ?d) ?e ?h; (case e => with_unfolding_all rfl))
  | (refine s_ins (ds0 := ?d) ?e ?h; (case e => with_unfolding_all rfl))
  | refine s_seti ?_
  | (refine s_aug (d := ?d) ?e ?h; (case e => with_unfolding_all rfl))
  | refine p_add ?_ | refine p_sub ?_ | refine p_lt ?_ | refine p_le ?_ | refine p_gt ?_ | refine p_ge ?_ | refine p_eq ?_ | refine p_ne ?_ | refine p_neg ?_ | refine p_abs ?_
  | refine p_intI ?_ | refine p_intB ?_ | refine p_lenL ?_ | refine p_lenT ?_ | refine p_tupL ?_ | refine p_tupT ?_ | refine p_lstL ?_ | refine p_lstT ?_ | refine p_isN ?_ | refine p_notN ?_
  | refine ex_two ?_
  | refine ex_int ?_ | refine ex_list ?_ | refine ex_tup ?_
  | (refine ex_ixo (ds := ?d) ?e ?h; (case e => with_unfolding_all rfl))
  | (refine ex_b (b := ?d) ?e ?h; (case e => with_unfolding_all rfl))
  | (refine ex_l (ds := ?d) ?e ?h; (case e => with_unfolding_all rfl))
  | refine o_enum ?_ | refine o_enumT ?_ | refine o_zip ?_ | refine o_zipM ?_ | refine o_rng1 ?_ | refine o_rng2 ?_
  | refine o_bor ?_ | refine o_borF ?_ | refine o_borT ?_
  | tm_at "spec")
local macro_rules | `(tactic| tm_at "pw") => `(tactic| repeat' (tm_at "pw1"))
local macro_rules | `(tactic| tm_at "pw1j") => `(tactic| with_reducible first
  | refine s_seq ?_
  | refine o_op ?_
  | (refine o_var (d := ?d) ?e ?h; (case e => with_unfolding_all rfl))
  | tm_at "cst"
  | refine o_c ?_
  | refine o_cl ?_
  | refine o_cons ?_
  | refine o_nil ?_
  | refine s_set ?_
  | (refine s_own (by simp only [List.length_cons, List.length_nil, List.length_set]; omega) ?_)
  | refine s_ret ?_
  | refine s_if ?_
  | refine s_nop ?_
  | refine s_kill ?_
  | refine s_for ?_
  | refine o_it ?_
  | refine o_itl ?_
  | refine o_itt ?_
  | refine o_tup ?_
  | refine o_lst ?_
  | (refine And.intro (a := List.length _ ≤ sizeLine) (by tm_at "len") ?_)
  | refine o_t ?_
  | refine o_asB ?_
  | refine o_g1 ?_
  | refine w_t ?_
  | refine w_f ?_
  | refine w_nt ?_
  | refine w_nf ?_
  | refine o_not ?_
  | refine o_notT ?_
  | refine o_and ?_
  | refine o_or ?_
  | refine o_un ?_
  | refine o_yes ?_
  | refine o_ch ?_
  | (refine o_callB ?_)
  | refine o_ixo ?_
  | refine o_sl ?_
  | refine o_noO ?_
  | refine o_someO ?_
  | refine o_name ?_
  | refine o_tupG ?_
  | refine o_consG ?_
  | refine o_nilG ?_
  | refine s_par ?_
  | (refine s_parM ?e ?h; (case e => with_unfolding_all rfl))
  | refine s_setG ?_
  | refine s_drop ?_
  | (refine s_retO (d := ?d) ?e ?h; (case e => with_unfolding_all rfl))
  | (refine s_mut (ds0 := ?d) ?e ?h; (case e => with_unfolding_all rfl))
  | (refine s_ins (ds0 := ?d) ?e ?h; (case e => with_unfolding_all rfl))
  | refine s_seti ?_
  | (refine s_aug (d := ?d) ?e ?h; (case e => with_unfolding_all rfl))
  | refine p_add ?_ | refine p_sub ?_ | refine p_lt ?_ | refine p_le ?_ | refine p_gt ?_ | refine p_ge ?_ | refine p_eq ?_ | refine p_ne ?_ | refine p_neg ?_ | refine p_abs ?_
  | refine p_intI ?_ | refine p_intB ?_ | refine p_lenL ?_ | refine p_lenT ?_ | refine p_tupL ?_ | refine p_tupT ?_ | refine p_lstL ?_ | refine p_lstT ?_ | refine p_isN ?_ | refine p_notN ?_
  | refine ex_two ?_
  | refine ex_int ?_ | refine ex_list ?_ | refine ex_tup ?_
  | (refine ex_ixo (ds := ?d) ?e ?h; (case e => with_unfolding_all rfl))
  | (refine ex_b (b := ?d) ?e ?h; (case e => with_unfolding_all rfl))
  | (refine ex_l (ds := ?d) ?e ?h; (case e => with_unfolding_all rfl))
  | refine o_enum ?_ | refine o_enumT ?_ | refine o_zip ?_ | refine o_zipM ?_ | refine o_rng1 ?_ | refine o_rng2 ?_
  | refine o_bor ?_ | refine o_borF ?_ | refine o_borT ?_
  | tm_at "spec")
local macro_rules | `(tactic| tm_at "pwj") => `(tactic| repeat' (tm_at "pw1j"))

local macro_rules | `(tactic| tm_at "cst") => `(tactic| with_reducible first | refine o_t01 ?_ | refine o_t11 ?_ | refine o_t21 ?_)
local macro_rules | `(tactic| tm_at "spec") => `(tactic| with_reducible first | refine p_fq0 ?_ | refine p_fq1 ?_ | refine p_two0 ?_ | refine p_two1 ?_ | refine p_hd0 ?_ | refine p_hdL0 ?_ | refine p_eqfq ?_ | refine p_nefq ?_)
local macro_rules | `(tactic| tm_at "run") => `(tactic| (refine ok_run ?_; (first | rw [env1] | rw [env2] | rw [env3] | rw [env0] | rw [env4] | rw [env5]); simp only [List.replicate_succ, List.replicate_zero]))
local macro_rules | `(tactic| tm_at "runF") => `(tactic| (refine ok_runF ?_; (first | rw [env1] | rw [env2] | rw [env3] | rw [env0] | rw [env4] | rw [env5]); simp only [List.replicate_succ, List.replicate_zero]))
local macro_rules | `(tactic| tm_at "runB") => `(tactic| (refine ok_runB ?_; (first | rw [env1] | rw [env2] | rw [env3] | rw [env0] | rw [env4] | rw [env5]); simp only [List.replicate_succ, List.replicate_zero]))
local macro_rules | `(tactic| tm_at "runBF") => `(tactic| (refine ok_runBF ?_; (first | rw [env1] | rw [env2] | rw [env3] | rw [env0] | rw [env4] | rw [env5]); simp only [List.replicate_succ, List.replicate_zero]))

def lwlL (F : Rat → Rat) (a : Rat) : List Rat → Option Rat
  | [] => none
  | u :: r => lwl F a u r
theorem lawU_eq (cs : List Cu) (a : Rat) : lawU cs a = lwlL (sumAt cs) a (lvs cs) := by
  unfold lawU lwlL
  cases lvs cs <;> rfl
end Lay

namespace Lay
open PySem PySem.Spec PyProof.Rows L2

/-! ## the bag -/
theorem nilA_eq (ρ : En) : nilA ρ = some ([], ρ) := rfl
theorem callB_eq {F : D → List D → Option (D × D)} {i : Nat} {fr : XA} {ρ ρ1 : En} {as : List D} {b d b' : D} (h : fr ρ = some (as, ρ1)) (hb : ρ1[i]? = some (some b)) (hF : F b as = some (d, b')) : callB F i fr ρ = some (d, ρ1.set i (some b')) := by
  simp [callB, h, hb, hF]
theorem int_eq {f : XE} {ρ ρ1 : En} {x : Int} (h : f ρ = some (.int x, ρ1)) : clE (g1 intD) (consA f nilA) ρ = some (.int x, ρ1) := clE_eq (as := [.int x]) (consA_eq h (nilA_eq _)) rfl
def bg (a s i : Int) (cs : List D) : D := .list [.int a, .int s, .int i, .list cs]
def Cel (cs : List D) : Prop := cs.length ≤ 100 ∧ ∀ d ∈ cs, ∃ c : Int, d = .int c ∧ 0 ≤ c
def Bag (m : Nat) (b : D) : Prop := ∃ (a s i : Int) (cs : List D), b = bg a s i cs ∧ 0 ≤ a ∧ 0 ≤ s ∧ s < 2147483647 ∧ 0 ≤ i ∧ i ≤ m ∧ Cel cs
theorem Bag.mono {m n : Nat} {b : D} (h : Bag m b) (l : m ≤ n) : Bag n b := by
  obtain ⟨a, s, i, cs, e, h1, h2, h3, h4, h5, h6⟩ := h
  exact ⟨a, s, i, cs, e, h1, h2, h3, h4, by omega, h6⟩
theorem cell_eq {cs : List D} (h : Cel cs) (i : Int) : ∃ c : Int, 0 ≤ c ∧ L2.atI (cutL cs (some i) none ++ [.int 0]) 0 = some (.int c) ∧ (cutL cs (some i) none).length + 1 ≤ sizeLine := by
  have mem : ∀ d ∈ cutL cs (some i) none ++ [.int 0], ∃ c : Int, d = .int c ∧ 0 ≤ c := fun d hd => by
    rcases List.mem_append.mp hd with hd | hd
    · exact h.2 d (List.mem_of_mem_drop (List.mem_of_mem_take hd))
    · exact ⟨0, List.mem_singleton.mp hd, by omega⟩
  have hl : 0 < (cutL cs (some i) none ++ [PyData.int 0]).length := by simp
  obtain ⟨c, e, hc⟩ := mem _ (List.getElem_mem hl)
  refine ⟨c, hc, ?_, ?_⟩
  · have := atI_nat hl
    rw [show ((0 : Nat) : Int) = 0 from rfl] at this
    rw [this, List.getElem?_eq_getElem hl, e]
  · have := cutL_len cs (some i) none
    have := h.1
    simp only [sizeLine]
    omega
section
variable {a s i many : Int} {cs : List D} {m : Nat}
abbrev tE7 (b : D) (many : Int) (x y z u v : Option D) : En := [some b, some (.int many), x, y, z, u, v]
theorem bgi0 {b : D} {x y z u v : Option D} {d : D} {n : Int} {many : Int} {ds : List D} (hb : b = .list ds) (h : L2.atI ds n = some d) : ixoE 0 (cE (.int n)) (tE7 b many x y z u v) = some (d, tE7 b many x y z u v) := by
  subst hb
  simp [ixoE, cE, getL, h]
theorem mod_lt (x : Int) {n : Int} (h : 0 < n) : 0 ≤ x.fmod n ∧ x.fmod n < n := by
  rw [Int.fmod_eq_emod_of_nonneg _ (by omega)]
  exact ⟨Int.emod_nonneg _ (by omega), Int.emod_lt_of_pos _ h⟩
theorem mul_ok {x y : Int} (hx : x.natAbs < 2 ^ 400000) (hy : y.natAbs < 2 ^ 400000) : decide (x.natAbs.log2 + y.natAbs.log2 < 1000000) = true := by
  have := log2_of hx
  have := log2_of hy
  exact decide_eq_true (by omega)
theorem small_pow {x : Nat} (h : x < 2 ^ 64) : x < 2 ^ 400000 := Nat.lt_of_lt_of_le h (Nat.pow_le_pow_right (by omega) (by omega))
noncomputable abbrev fillS : XS := seqS (setS 2 (opE ixD (opE addD (slE (ixoE 0 (cE (.int 3))) (someO (ixoE 0 (cE (.int 2)))) (noO)) (lstE (consA (cE (.int 0)) (nilA)))) (cE (.int 0))))
    (seqS (augiS iaddD 0 2 (cE (.int 1)))
    (seqS (ifS (tE (opE geI (varE 2) (opE powD (cE (.int 10)) (cE (.int 18)))))
    (seqS (setiS 0 (cE (.int 0)) (varE 2))
    (nopS))
    (nopS))
    (seqS (setS 3 (opE addD (opE addD (opE mulD (ixoE 0 (cE (.int 1))) (cE (.int 48271))) (opE modD (clE (g1 intD) (consA (varE 2) nilA)) (cE (.int 2147483647)))) (opE mulD (cE (.int 7919)) (ixoE 0 (cE (.int 2))))))
    (seqS (setiS 0 (cE (.int 1)) (opE modD (clE (g1 intD) (consA (varE 3) nilA)) (cE (.int 2147483647))))
    (killS [2, 3])))))
theorem fill_eq (ha : 0 ≤ a) (h2 : 0 ≤ s) (h3 : s < 2147483647) (h4 : 0 ≤ i) (h5 : i < 1000000) (hc : Cel cs) : ∃ a' s' : Int, 0 ≤ a' ∧ 0 ≤ s' ∧ s' < 2147483647 ∧ fillS (tE7 (bg a s i cs) many none none none none none) = .nx (tE7 (bg a' s' (i + 1) cs) many none none none none none) := by
  obtain ⟨c, c0, c1, c2⟩ := cell_eq hc i
  have e1 : setS 2 (opE ixD (opE addD (slE (ixoE 0 (cE (.int 3))) (someO (ixoE 0 (cE (.int 2)))) (noO)) (lstE (consA (cE (.int 0)) (nilA)))) (cE (.int 0))) (tE7 (bg a s i cs) many none none none none none) = .nx (tE7 (bg a s i cs) many (some (.int c)) none none none none) := by
    refine setS_eq (d := .int c) (ρ1 := tE7 (bg a s i cs) many none none none none none) (opE_eq (a := .list (cutL cs (some i) none ++ [PyData.int 0])) (b := .int 0) (opE_eq (a := .list (cutL cs (some i) none)) (b := .list [PyData.int 0]) ?_ rfl ?_) rfl (show ixD (.list (cutL cs (some i) none ++ [PyData.int 0])) (.int 0) = some (.int c) from c1))
    · have i3 := bgi0 (b := bg a s i cs) (x := none) (y := none) (z := none) (u := none) (v := none) (many := many) (n := 3) (d := .list cs) rfl rfl
      have i2 := bgi0 (b := bg a s i cs) (x := none) (y := none) (z := none) (u := none) (v := none) (many := many) (n := 2) (d := .int i) rfl rfl
      simp only [slE, i3, someO, i2, Option.bind_some, noO, slD, Option.map_some]
    · simp only [addD]
      rw [if_pos (by simpa using c2)]
  have e2 : augiS iaddD 0 2 (cE (.int 1)) (tE7 (bg a s i cs) many (some (.int c)) none none none none) = .nx (tE7 (bg a s (i + 1) cs) many (some (.int c)) none none none none) := rfl
  obtain ⟨a', a0, e3⟩ : ∃ a' : Int, 0 ≤ a' ∧ ifS (tE (opE geI (varE 2) (opE powD (cE (.int 10)) (cE (.int 18))))) (seqS (setiS 0 (cE (.int 0)) (varE 2)) (nopS)) (nopS) (tE7 (bg a s (i + 1) cs) many (some (.int c)) none none none none) = .nx (tE7 (bg a' s (i + 1) cs) many (some (.int c)) none none none none) := by
    have t : tE (opE geI (varE 2) (opE powD (cE (.int 10)) (cE (.int 18)))) (tE7 (bg a s (i + 1) cs) many (some (.int c)) none none none none) = some (decide ((1000000000000000000 : Int) ≤ c), tE7 (bg a s (i + 1) cs) many (some (.int c)) none none none none) := by
      refine tE_eq (opE_eq (a := .int c) (b := .int 1000000000000000000) rfl (opE_eq (a := .int 10) (b := .int 18) rfl rfl ?_) rfl)
      rfl
    by_cases q : (1000000000000000000 : Int) ≤ c
    · rw [decide_eq_true q] at t
      exact ⟨c, c0, (ifS_t t).trans rfl⟩
    · rw [decide_eq_false q] at t
      exact ⟨a, ha, (ifS_f t).trans rfl⟩
  obtain ⟨x0, x1⟩ := mod_lt c (n := 2147483647) (by omega)
  have b1 := bgi0 (b := bg a' s (i + 1) cs) (x := some (.int c)) (y := none) (z := none) (u := none) (v := none) (many := many) (n := 1) (d := .int s) rfl rfl
  have b2 := bgi0 (b := bg a' s (i + 1) cs) (x := some (.int c)) (y := none) (z := none) (u := none) (v := none) (many := many) (n := 2) (d := .int (i + 1)) rfl rfl
  have e4 : setS 3 (opE addD (opE addD (opE mulD (ixoE 0 (cE (.int 1))) (cE (.int 48271))) (opE modD (clE (g1 intD) (consA (varE 2) nilA)) (cE (.int 2147483647)))) (opE mulD (cE (.int 7919)) (ixoE 0 (cE (.int 2))))) (tE7 (bg a' s (i + 1) cs) many (some (.int c)) none none none none) = .nx (tE7 (bg a' s (i + 1) cs) many (some (.int c)) (some (.int (s * 48271 + c.fmod 2147483647 + 7919 * (i + 1)))) none none none) := by
    refine setS_eq (d := .int _) (ρ1 := tE7 (bg a' s (i + 1) cs) many (some (.int c)) none none none none) (opE_eq (a := .int (s * 48271 + c.fmod 2147483647)) (b := .int (7919 * (i + 1))) (opE_eq (a := .int (s * 48271)) (b := .int (c.fmod 2147483647)) (opE_eq b1 rfl ?_) (opE_eq (a := .int c) rfl rfl ?_) rfl) (opE_eq (a := .int 7919) rfl b2 ?_) rfl)
    · simp only [mulD, iiD]
      rw [if_pos (mul_ok (small_pow (by omega)) (small_pow (by decide)))]
    · simp [modD, iiD]
    · simp only [mulD, iiD]
      rw [if_pos (mul_ok (small_pow (by decide)) (small_pow (by omega)))]
  obtain ⟨y0, y1⟩ := mod_lt (s * 48271 + c.fmod 2147483647 + 7919 * (i + 1)) (n := 2147483647) (by omega)
  generalize hw : (s * 48271 + c.fmod 2147483647 + 7919 * (i + 1)) = w at *
  have e5 : setiS 0 (cE (.int 1)) (opE modD (clE (g1 intD) (consA (varE 3) nilA)) (cE (.int 2147483647))) (tE7 (bg a' s (i + 1) cs) many (some (.int c)) (some (.int w)) none none none) = .nx (tE7 (bg a' (w.fmod 2147483647) (i + 1) cs) many (some (.int c)) (some (.int w)) none none none) := by
    have v : opE modD (clE (g1 intD) (consA (varE 3) nilA)) (cE (.int 2147483647)) (tE7 (bg a' s (i + 1) cs) many (some (.int c)) (some (.int w)) none none none) = some (.int (w.fmod 2147483647), tE7 (bg a' s (i + 1) cs) many (some (.int c)) (some (.int w)) none none none) := opE_eq (a := .int w) rfl rfl (by simp [modD, iiD])
    unfold setiS
    rw [v]
    rfl
  refine ⟨a', w.fmod 2147483647, a0, y0, y1, ?_⟩
  unfold fillS
  rw [seqS_nx e1, seqS_nx e2, seqS_nx e3, seqS_nx e4, seqS_nx e5]
  rfl
theorem take_ok {b : D} (hb : Bag m b) (hm : m < 1000000) (h0 : 0 < many) (h1 : many < 2 ^ 64) : ∃ (v : Int) (b' : D), F__law_take b [.int many] = some (.int v, b') ∧ 0 ≤ v ∧ v < many ∧ Bag (m + 1) b' := by
  obtain ⟨a, s, i, cs, rfl, k1, k2, k3, k4, k5, k6⟩ := hb
  have ml : many.natAbs.log2 < 9000 := by
    have : many.natAbs.log2 ≤ 64 := log2_of (by omega)
    omega
  obtain ⟨a', s', i', p1, p2, p3, p4, p5, f⟩ : ∃ a' s' i' : Int, 0 ≤ a' ∧ 0 ≤ s' ∧ s' < 2147483647 ∧ 0 ≤ i' ∧ i' ≤ i + 1 ∧ ifS (tE (opE eqD (ixoE 0 (cE (.int 0))) (cE (.int 0)))) fillS nopS (tE7 (bg a s i cs) many none none none none none) = .nx (tE7 (bg a' s' i' cs) many none none none none none) := by
    have t : tE (opE eqD (ixoE 0 (cE (.int 0))) (cE (.int 0))) (tE7 (bg a s i cs) many none none none none none) = some (decide (a = 0), tE7 (bg a s i cs) many none none none none none) :=
      tE_eq (opE_eq (bgi0 (d := .int a) rfl rfl) rfl (by simp only [eqD, eqB_int, Option.map_some]))
    by_cases q : a = 0
    · rw [decide_eq_true q] at t
      obtain ⟨a', s', p1, p2, p3, e⟩ := fill_eq (many := many) k1 k2 k3 k4 (show i < 1000000 by omega) k6
      exact ⟨a', s', i + 1, p1, p2, p3, by omega, by omega, (ifS_t t).trans e⟩
    · rw [decide_eq_false q] at t
      exact ⟨a, s, i, k1, k2, k3, k4, by omega, (ifS_f t).trans rfl⟩
  have bag : ∀ x : Int, 0 ≤ x → Bag (m + 1) (bg x s' i' cs) := fun x hx => ⟨x, s', i', cs, rfl, hx, p2, p3, p4, by omega, k6⟩
  have i0 := bgi0 (b := bg a' s' i' cs) (x := none) (y := none) (z := none) (u := none) (v := none) (many := many) (n := 0) (d := .int a') rfl rfl
  have i1 := bgi0 (b := bg a' s' i' cs) (x := none) (y := none) (z := none) (u := none) (v := none) (many := many) (n := 1) (d := .int s') rfl rfl
  have t : tE (opE gtI (ixoE 0 (cE (.int 0))) (cE (.int 0))) (tE7 (bg a' s' i' cs) many none none none none none) = some (decide (0 < a'), tE7 (bg a' s' i' cs) many none none none none none) := tE_eq (opE_eq i0 rfl rfl)
  have run : F__law_take (bg a s i cs) [.int many] = (match S__law_take (tE7 (bg a s i cs) many none none none none none) with
      | .rt d ρ => b0 d ρ
      | .nx ρ => b0 .none ρ
      | _ => none) := rfl
  have nz : many ≠ 0 := by omega
  rw [run]
  unfold S__law_take
  rw [seqS_nx f]
  by_cases q : 0 < a'
  · rw [decide_eq_true q] at t
    obtain ⟨x0, x1⟩ := mod_lt a' h0
    have v1 : setS 4 (opE modD (clE (g1 intD) (consA (ixoE 0 (cE (.int 0))) nilA)) (varE 1)) (tE7 (bg a' s' i' cs) many none none none none none) = .nx (tE7 (bg a' s' i' cs) many none none (some (.int (a'.fmod many))) none none) := by
      refine setS_eq (d := .int (a'.fmod many)) (ρ1 := tE7 (bg a' s' i' cs) many none none none none none) (opE_eq (a := .int a') (b := .int many) (clE_eq (consA_eq i0 (nilA_eq _)) rfl) rfl (by simp [modD, iiD, nz]))
    have j0 := bgi0 (b := bg a' s' i' cs) (x := none) (y := none) (z := some (.int (a'.fmod many))) (u := none) (v := none) (many := many) (n := 0) (d := .int a') rfl rfl
    have v2 : setiS 0 (cE (.int 0)) (opE fdivD (clE (g1 intD) (consA (ixoE 0 (cE (.int 0))) nilA)) (varE 1)) (tE7 (bg a' s' i' cs) many none none (some (.int (a'.fmod many))) none none) = .nx (tE7 (bg (a'.fdiv many) s' i' cs) many none none (some (.int (a'.fmod many))) none none) := by
      have v : opE fdivD (clE (g1 intD) (consA (ixoE 0 (cE (.int 0))) nilA)) (varE 1) (tE7 (bg a' s' i' cs) many none none (some (.int (a'.fmod many))) none none) = some (.int (a'.fdiv many), tE7 (bg a' s' i' cs) many none none (some (.int (a'.fmod many))) none none) :=
        opE_eq (a := .int a') (b := .int many) (clE_eq (consA_eq j0 (nilA_eq _)) rfl) rfl (by simp [fdivD, iiD, nz, ml])
      unfold setiS
      rw [v]
      rfl
    refine ⟨a'.fmod many, bg (a'.fdiv many) s' i' cs, ?_, x0, x1, bag _ (by rw [Int.fdiv_eq_ediv_of_nonneg _ (by omega)]; exact Int.ediv_nonneg p1 (by omega))⟩
    rw [seqS_rt ((ifS_t t).trans ((seqS_nx v1).trans ((seqS_nx v2).trans (seqS_rt (retS_eq (varE_eq (d := .int (a'.fmod many)) rfl))))))]
    rfl
  · rw [decide_eq_false q] at t
    obtain ⟨y0, y1⟩ := mod_lt ((s' + 1) * 39373) (n := 1000000007) (by omega)
    generalize hy : ((s' + 1) * 39373).fmod 1000000007 = y at *
    obtain ⟨z0, z1⟩ := mod_lt (y * y) (n := 998244353) (by omega)
    generalize hz : (y * y).fmod 998244353 = z at *
    obtain ⟨w0, w1⟩ := mod_lt (z * 30011) (n := 998244353) (by omega)
    generalize hw : (z * 30011).fmod 998244353 = w at *
    obtain ⟨u0, u1⟩ := mod_lt (w.fdiv 7) h0
    refine ⟨(w.fdiv 7).fmod many, bg a' s' i' cs, ?_, u0, u1, bag _ p1⟩
    have v1 : setS 5 (opE modD (clE (g1 intD) (consA (opE mulD (opE addD (ixoE 0 (cE (.int 1))) (cE (.int 1))) (cE (.int 39373))) nilA)) (cE (.int 1000000007))) (tE7 (bg a' s' i' cs) many none none none none none) = .nx (tE7 (bg a' s' i' cs) many none none none (some (.int y)) none) := by
      refine setS_eq (d := .int y) (ρ1 := tE7 (bg a' s' i' cs) many none none none none none) (opE_eq (a := .int ((s' + 1) * 39373)) (b := .int 1000000007) (int_eq (opE_eq (a := .int (s' + 1)) (b := .int 39373) (opE_eq i1 rfl rfl) rfl ?_)) rfl (by simp [modD, iiD, hy]))
      simp only [mulD, iiD]
      rw [if_pos (mul_ok (small_pow (by omega)) (small_pow (by decide)))]
    have v2 : setS 6 (opE modD (clE (g1 intD) (consA (opE mulD (opE modD (clE (g1 intD) (consA (opE mulD (varE 5) (varE 5)) nilA)) (cE (.int 998244353))) (cE (.int 30011))) nilA)) (cE (.int 998244353))) (tE7 (bg a' s' i' cs) many none none none (some (.int y)) none) = .nx (tE7 (bg a' s' i' cs) many none none none (some (.int y)) (some (.int w))) := by
      refine setS_eq (d := .int w) (ρ1 := tE7 (bg a' s' i' cs) many none none none (some (.int y)) none) (opE_eq (a := .int (z * 30011)) (b := .int 998244353) (int_eq (opE_eq (a := .int z) (b := .int 30011) (opE_eq (a := .int (y * y)) (b := .int 998244353) (int_eq (opE_eq (a := .int y) (b := .int y) rfl rfl ?_)) rfl (by simp [modD, iiD, hz])) rfl ?_)) rfl (by simp [modD, iiD, hw]))
      · simp only [mulD, iiD]
        rw [if_pos (mul_ok (small_pow (by omega)) (small_pow (by omega)))]
      · simp only [mulD, iiD]
        rw [if_pos (mul_ok (small_pow (by omega)) (small_pow (by decide)))]
    have v3 : retS (opE modD (clE (g1 intD) (consA (opE fdivD (varE 6) (cE (.int 7))) nilA)) (varE 1)) (tE7 (bg a' s' i' cs) many none none none (some (.int y)) (some (.int w))) = .rt (.int ((w.fdiv 7).fmod many)) (tE7 (bg a' s' i' cs) many none none none (some (.int y)) (some (.int w))) := by
      refine retS_eq (opE_eq (a := .int (w.fdiv 7)) (b := .int many) (int_eq (opE_eq (a := .int w) (b := .int 7) rfl rfl ?_)) rfl (by simp [modD, iiD, nz]))
      have l7 : (7 : Int).natAbs.log2 < 9000 := by decide
      simp [fdivD, iiD]
      decide
    have tn : ifS (tE (opE gtI (ixoE 0 (cE (.int 0))) (cE (.int 0)))) (seqS (setS 4 (opE modD (clE (g1 intD) (consA (ixoE 0 (cE (.int 0))) nilA)) (varE 1)))
    (seqS (setiS 0 (cE (.int 0)) (opE fdivD (clE (g1 intD) (consA (ixoE 0 (cE (.int 0))) nilA)) (varE 1)))
    (seqS (retS (varE 4)) (nopS)))) nopS (tE7 (bg a' s' i' cs) many none none none none none) = .nx (tE7 (bg a' s' i' cs) many none none none none none) := (ifS_f t).trans rfl
    rw [seqS_nx tn, seqS_nx v1, seqS_nx v2, seqS_rt v3]
    rfl
end
end Lay

namespace Lay
open PySem PySem.Spec PyProof.Rows L2
local macro_rules | `(tactic| tm_at "len") => `(tactic| first | (simp only [List.length_cons, List.length_nil, sizeLine]; omega) | (simp [sizeLine]; omega) | (simp [sizeLine]; done))
local macro_rules | `(tactic| tm_at "pw1") => `(tactic| with_reducible first
  | refine s_seq ?_
  | refine o_op ?_
  | (refine o_var (d := ?d) ?e ?h; (case e => with_unfolding_all rfl))
  | tm_at "cst"
  | refine o_c ?_
  | refine o_cl ?_
  | refine o_cons ?_
  | refine o_nil ?_
  | refine s_set ?_
  | (refine s_own (by simp only [List.length_cons, List.length_nil, List.length_set]; omega) ?_)
  | refine s_ret ?_
  | refine s_if ?_
  | refine s_nop ?_
  | refine s_kill ?_
  | refine s_for ?_
  | refine o_it ?_
  | refine o_itl ?_
  | refine o_itt ?_
  | refine o_tup ?_
  | refine o_lst ?_
  | (refine And.intro (a := List.length _ ≤ sizeLine) (by tm_at "len") ?_)
  | refine o_t ?_
  | refine o_asB ?_
  | refine o_g1 ?_
  | refine o_if ?_
  | refine w_t ?_
  | refine w_f ?_
  | refine w_nt ?_
  | refine w_nf ?_
  | refine o_not ?_
  | refine o_notT ?_
  | refine o_and ?_
  | refine o_or ?_
  | refine o_un ?_
  | refine o_yes ?_
  | refine o_ch ?_
  | (refine o_callB ?_)
  | refine o_ixo ?_
  | refine o_sl ?_
  | refine o_noO ?_
  | refine o_someO ?_
  | refine o_name ?_
  | refine o_tupG ?_
  | refine o_consG ?_
  | refine o_nilG ?_
  | refine s_par ?_
  | (refine s_parM ?e ?h; (case e => with_unfolding_all rfl))
  | refine s_setG ?_
  | refine s_drop ?_
  | (refine s_retO (d := ?d) ?e ?h; (case e => with_unfolding_all rfl))
  | (refine s_mut (ds0 := ?d) ?e ?h; (case e => with_unfolding_all rfl))
  | (refine s_ins (ds0 := ?d) ?e ?h; (case e => with_unfolding_all rfl))
  | refine s_seti ?_
  | (refine s_aug (d := ?d) ?e ?h; (case e => with_unfolding_all rfl))
  | refine p_add ?_ | refine p_sub ?_ | refine p_lt ?_ | refine p_le ?_ | refine p_gt ?_ | refine p_ge ?_ | refine p_eq ?_ | refine p_ne ?_ | refine p_neg ?_ | refine p_abs ?_
  | refine p_intI ?_ | refine p_intB ?_ | refine p_lenL ?_ | refine p_lenT ?_ | refine p_tupL ?_ | refine p_tupT ?_ | refine p_lstL ?_ | refine p_lstT ?_ | refine p_isN ?_ | refine p_notN ?_
  | refine ex_two ?_
  | refine ex_int ?_ | refine ex_list ?_ | refine ex_tup ?_
  | (refine ex_ixo (ds := ?d) ?e ?h; (case e => with_unfolding_all rfl))
  | (refine ex_b (b := ?d) ?e ?h; (case e => with_unfolding_all rfl))
  | (refine ex_l (ds := ?d) ?e ?h; (case e => with_unfolding_all rfl))
  | refine o_enum ?_ | refine o_enumT ?_ | refine o_zip ?_ | refine o_zipM ?_ | refine o_rng1 ?_ | refine o_rng2 ?_
  | refine o_bor ?_ | refine o_borF ?_ | refine o_borT ?_
  | tm_at "spec")
local macro_rules | `(tactic| tm_at "pw") => `(tactic| repeat' (tm_at "pw1"))
local macro_rules | `(tactic| tm_at "pw1j") => `(tactic| with_reducible first
  | refine s_seq ?_
  | refine o_op ?_
  | (refine o_var (d := ?d) ?e ?h; (case e => with_unfolding_all rfl))
  | tm_at "cst"
  | refine o_c ?_
  | refine o_cl ?_
  | refine o_cons ?_
  | refine o_nil ?_
  | refine s_set ?_
  | (refine s_own (by simp only [List.length_cons, List.length_nil, List.length_set]; omega) ?_)
  | refine s_ret ?_
  | refine s_if ?_
  | refine s_nop ?_
  | refine s_kill ?_
  | refine s_for ?_
  | refine o_it ?_
  | refine o_itl ?_
  | refine o_itt ?_
  | refine o_tup ?_
  | refine o_lst ?_
  | (refine And.intro (a := List.length _ ≤ sizeLine) (by tm_at "len") ?_)
  | refine o_t ?_
  | refine o_asB ?_
  | refine o_g1 ?_
  | refine w_t ?_
  | refine w_f ?_
  | refine w_nt ?_
  | refine w_nf ?_
  | refine o_not ?_
  | refine o_notT ?_
  | refine o_and ?_
  | refine o_or ?_
  | refine o_un ?_
  | refine o_yes ?_
  | refine o_ch ?_
  | (refine o_callB ?_)
  | refine o_ixo ?_
  | refine o_sl ?_
  | refine o_noO ?_
  | refine o_someO ?_
  | refine o_name ?_
  | refine o_tupG ?_
  | refine o_consG ?_
  | refine o_nilG ?_
  | refine s_par ?_
  | (refine s_parM ?e ?h; (case e => with_unfolding_all rfl))
  | refine s_setG ?_
  | refine s_drop ?_
  | (refine s_retO (d := ?d) ?e ?h; (case e => with_unfolding_all rfl))
  | (refine s_mut (ds0 := ?d) ?e ?h; (case e => with_unfolding_all rfl))
  | (refine s_ins (ds0 := ?d) ?e ?h; (case e => with_unfolding_all rfl))
  | refine s_seti ?_
  | (refine s_aug (d := ?d) ?e ?h; (case e => with_unfolding_all rfl))
  | refine p_add ?_ | refine p_sub ?_ | refine p_lt ?_ | refine p_le ?_ | refine p_gt ?_ | refine p_ge ?_ | refine p_eq ?_ | refine p_ne ?_ | refine p_neg ?_ | refine p_abs ?_
  | refine p_intI ?_ | refine p_intB ?_ | refine p_lenL ?_ | refine p_lenT ?_ | refine p_tupL ?_ | refine p_tupT ?_ | refine p_lstL ?_ | refine p_lstT ?_ | refine p_isN ?_ | refine p_notN ?_
  | refine ex_two ?_
  | refine ex_int ?_ | refine ex_list ?_ | refine ex_tup ?_
  | (refine ex_ixo (ds := ?d) ?e ?h; (case e => with_unfolding_all rfl))
  | (refine ex_b (b := ?d) ?e ?h; (case e => with_unfolding_all rfl))
  | (refine ex_l (ds := ?d) ?e ?h; (case e => with_unfolding_all rfl))
  | refine o_enum ?_ | refine o_enumT ?_ | refine o_zip ?_ | refine o_zipM ?_ | refine o_rng1 ?_ | refine o_rng2 ?_
  | refine o_bor ?_ | refine o_borF ?_ | refine o_borT ?_
  | tm_at "spec")
local macro_rules | `(tactic| tm_at "pwj") => `(tactic| repeat' (tm_at "pw1j"))

local macro_rules | `(tactic| tm_at "cst") => `(tactic| with_reducible first | refine o_t01 ?_ | refine o_t11 ?_ | refine o_t21 ?_)
local macro_rules | `(tactic| tm_at "spec") => `(tactic| with_reducible first | refine p_fq0 ?_ | refine p_fq1 ?_ | refine p_two0 ?_ | refine p_two1 ?_ | refine p_hd0 ?_ | refine p_hdL0 ?_ | refine p_eqfq ?_ | refine p_nefq ?_)
local macro_rules | `(tactic| tm_at "run") => `(tactic| (refine ok_run ?_; (first | rw [env1] | rw [env2] | rw [env3] | rw [env0] | rw [env4] | rw [env5]); simp only [List.replicate_succ, List.replicate_zero]))
local macro_rules | `(tactic| tm_at "runF") => `(tactic| (refine ok_runF ?_; (first | rw [env1] | rw [env2] | rw [env3] | rw [env0] | rw [env4] | rw [env5]); simp only [List.replicate_succ, List.replicate_zero]))
local macro_rules | `(tactic| tm_at "runB") => `(tactic| (refine ok_runB ?_; (first | rw [env1] | rw [env2] | rw [env3] | rw [env0] | rw [env4] | rw [env5]); simp only [List.replicate_succ, List.replicate_zero]))
local macro_rules | `(tactic| tm_at "runBF") => `(tactic| (refine ok_runBF ?_; (first | rw [env1] | rw [env2] | rw [env3] | rw [env0] | rw [env4] | rw [env5]); simp only [List.replicate_succ, List.replicate_zero]))

/-! ## draws -/
theorem take_sp {m : Nat} {b : D} {many : Nat} {Q : D → D → Prop} (hb : Bag m b) (hm : m < 1000000) (h0 : 0 < many) (h1 : many < 2 ^ 64) (k : ∀ (v : Nat) b', v < many → Bag (m + 1) b' → Q (.int (v : Nat)) b') : OkB (F__law_take b [.int (many : Nat)]) Q := by
  obtain ⟨v, b', e, v0, v1, q⟩ := take_ok (many := (many : Int)) hb hm (by omega) (by omega)
  obtain ⟨n, rfl⟩ := Int.eq_ofNat_of_zero_le v0
  exact ⟨_, b', e, k n b' (by omega) q⟩
theorem some_sp {m : Nat} {b d : D} {ds : List D} {Q : D → D → Prop} (hd : Seq d ds) (hb : Bag m b) (hm : m < 1000000) (h0 : 0 < ds.length) (h1 : ds.length < 100000) (k : ∀ x b', x ∈ ds → Bag (m + 1) b' → Q x b') : OkB (F__law_some b [d]) Q := by
  unfold F__law_some S__law_some
  have len : ∀ {Q : D → Prop}, Q (.int ((ds.length : Nat) : Int)) → Ok (lenD d) Q := fun {Q} h => by
    rcases hd with rfl | rfl
    · exact p_lenL h
    · exact p_lenT h
  tm_at "runB"
  tm_at "pw"
  refine len ?_
  tm_at "pw"
  refine take_sp hb hm h0 (by omega) fun v b' hv hb' => ?_
  have get : ∀ {Q : D → Prop}, Q ds[v] → Ok (ixD d (.int (v : Nat))) Q := fun {Q} h => by
    rcases hd with rfl | rfl
    · exact p_ixL (List.getElem?_eq_getElem hv) h
    · exact p_ixT (List.getElem?_eq_getElem hv) h
  refine get ?_
  tm_at "pw"
  exact at0 rfl (k _ b' (List.getElem_mem hv) hb')
abbrev NN : Nat := 1407000
abbrev MM : Nat := 1407000000000000000
/-- a drawn fraction above 0 -/
def Num (x : Rat) : Prop := Nc NN MM x ∧ 0 < x
theorem num_mk {p d q : Nat} (h : d * q = NN) (hp : 0 < p) (hq : p * q ≤ MM) : Num (Rat.divInt p d) := by
  have d0 : d ≠ 0 := fun z => by subst z; simp at h
  have q0 : q ≠ 0 := fun z => by subst z; simp at h
  refine ⟨⟨((p * q : Nat) : Int), by omega, ?_⟩, ?_⟩
  · rw [← h, Int.natCast_mul, Int.natCast_mul, Rat.divInt_mul_right (by omega)]
  · rw [Rat.divInt_eq_div]
    exact rdiv_pos (by exact_mod_cast Nat.pos_of_ne_zero d0) (by exact_mod_cast hp)
theorem fq_lit {p d : Nat} (hd : 0 < d) (h : Nat.gcd p d = 1) : PyData.tuple [.int (p : Nat), .int (d : Nat)] = fq (Rat.divInt p d) := by
  have hc : Nat.Coprime (p : Int).natAbs d := h
  have e : Rat.divInt p d = ⟨p, d, by omega, hc⟩ := by
    have := Rat.mk_eq_divInt (num := (p : Int)) (den := d) (nz := by omega) (c := hc)
    exact this.symm
  rw [e]
  rfl
theorem fq_int (n : Int) : PyData.tuple [.int n, .int 1] = fq (n : Rat) := rfl
theorem divInt1 (n : Int) : Rat.divInt n (1 : Nat) = (n : Rat) := by
  rw [Rat.divInt_eq_div]
  simp
  grind
theorem num_int {n : Nat} (h : 0 < n) (hn : n ≤ 1000000000000) : Num ((n : Int) : Rat) := by
  have := num_mk (p := n) (d := 1) (q := NN) rfl h (by show n * 1407000 ≤ 1407000000000000000; omega)
  rw [divInt1] at this
  exact this
theorem p_mulS {a b : Nat} {Q : D → Prop} (ha : a < 2 ^ 64) (hb : b < 2 ^ 64) (h : Q (.int ((a * b : Nat) : Int))) : Ok (mulD (.int (a : Nat)) (.int (b : Nat))) Q := by
  have := log2_of ha
  have := log2_of hb
  refine p_mul (by rw [Int.natAbs_natCast, Int.natAbs_natCast]; omega) ?_
  rw [← Int.natCast_mul]
  exact h
theorem num_w1 {d : D} (h : d ∈ ([.tuple [.int 1000, .int 1], .tuple [.int 1, .int 1000], .tuple [.int 999999999999, .int 1], .tuple [.int 1, .int 12], .tuple [.int 12345, .int 67]] : List D)) : ∃ x, d = fq x ∧ Num x := by
  simp only [List.mem_cons, List.not_mem_nil, or_false] at h
  rcases h with rfl | rfl | rfl | rfl | rfl
  · exact ⟨_, fq_lit (p := 1000) (d := 1) (by omega) (by decide), num_mk (q := 1407000) rfl (by omega) (by decide)⟩
  · exact ⟨_, fq_lit (p := 1) (d := 1000) (by omega) (by decide), num_mk (q := 1407) rfl (by omega) (by decide)⟩
  · exact ⟨_, fq_lit (p := 999999999999) (d := 1) (by omega) (by decide), num_mk (q := 1407000) rfl (by omega) (by decide)⟩
  · exact ⟨_, fq_lit (p := 1) (d := 12) (by omega) (by decide), num_mk (q := 117250) rfl (by omega) (by decide)⟩
  · exact ⟨_, fq_lit (p := 12345) (d := 67) (by omega) (by decide), num_mk (q := 21000) rfl (by omega) (by decide)⟩
theorem number_sp {m : Nat} {b : D} {most : Nat} {Q : D → D → Prop} (hb : Bag m b) (hm : m < 999000) (h0 : 0 < most) (h1 : most < 1000000) (k : ∀ x b', Num x → Bag (m + 3) b' → Q (fq x) b') : OkB (F__law_number b [.int (most : Nat)]) Q := by
  unfold F__law_number S__law_number
  tm_at "runB"
  tm_at "pw"
  refine take_sp (many := 12) hb (by omega) (by omega) (by omega) fun w b1 hw B1 => ?_
  tm_at "pw"
  refine w_d (fun q => ?_) fun q => ?_
  · tm_at "pw"
    refine p_mulS (a := 3) (by omega) (by omega) ?_
    tm_at "pw"
    refine take_sp (many := 3 * most) B1 (by omega) (by omega) (by omega) fun v b2 hv B2 => ?_
    tm_at "pw"
    refine some_sp (.inl rfl) B2 (by omega) (by simp) (by simp) fun d b3 hd B3 => ?_
    obtain ⟨c, c2, rfl, hc⟩ : ∃ c c2 : Nat, d = .int (c : Nat) ∧ c * c2 = NN ∧ 0 < c ∧ c < 10 ∧ c2 ≤ 703500 := by
      simp only [List.mem_cons, List.not_mem_nil, or_false] at hd
      rcases hd with rfl | rfl | rfl
      · exact ⟨2, 703500, rfl, rfl, by omega, by omega, by omega⟩
      · exact ⟨3, 469000, rfl, rfl, by omega, by omega, by omega⟩
      · exact ⟨7, 201000, rfl, rfl, by omega, by omega, by omega⟩
    have r := lred_eq (1 + (v : Int)) c (by omega) (by
      have : (c : Int).natAbs.log2 ≤ 10 := log2_of (by omega)
      omega)
    tm_at "pw"
    refine ok_eq r ?_
    refine at0 rfl (k _ b3 ?_ (B3.mono (by omega)))
    have := num_mk (p := 1 + v) (d := c) (q := c2) hc.1 (by omega) (by
      have : (1 + v) * c2 ≤ 3000000 * 703500 := Nat.mul_le_mul (by omega) (by omega)
      exact Nat.le_trans this (by decide))
    rw [show ((1 + v : Nat) : Int) = 1 + (v : Int) by omega] at this
    exact this
  · tm_at "pw"
    refine w_d (fun q2 => ?_) fun q2 => ?_
    · tm_at "pw"
      refine some_sp (.inl rfl) B1 (by omega) (by simp) (by simp) fun d b2 hd B2 => ?_
      obtain ⟨x, rfl, hx⟩ := num_w1 hd
      exact at0 rfl (k x b2 hx (B2.mono (by omega)))
    · tm_at "pw"
      refine take_sp (many := most) B1 (by omega) (by omega) (by omega) fun v b2 hv B2 => ?_
      tm_at "pw"
      refine at0 rfl ?_
      rw [fq_int]
      refine k _ b2 ?_ (B2.mono (by omega))
      have := num_int (n := 1 + v) (by omega) (by omega)
      rw [show ((1 + v : Nat) : Int) = 1 + (v : Int) by omega] at this
      exact this
theorem mixed_sp {m : Nat} {b d : D} {ds : List D} {Q : D → D → Prop} (hd : Seq d ds) (hb : Bag m b) (hm : m + ds.length < 990000) (hl : ds.length < 10000) (k : ∀ (es : List D) b', es.Perm ds → Bag (m + ds.length) b' → Q (.list es) b') : OkB (F__law_mixed b [d]) Q := by
  unfold F__law_mixed S__law_mixed
  have it : itD d = some ds := by rcases hd with rfl | rfl <;> rfl
  tm_at "runBF"
  tm_at "pw"
  refine ok_eq it ?_
  refine l_pre (fun pre ρ => ∃ b' es, ρ = [some b', some d, some (.list es), none] ∧ es.Perm pre ∧ Bag (m + pre.length) b') ⟨b, [], rfl, List.Perm.nil, hb⟩ ?_ ?_
  · rintro ρ ⟨b', es, rfl, hp, hB⟩
    tm_at "pw"
    exact at0 rfl (k es b' hp hB)
  · rintro pre x post ρ e ⟨b', es, rfl, hp, hB⟩
    have hl2 : pre.length < ds.length := by rw [e]; simp
    have hl3 := hp.length_eq
    tm_at "pw"
    refine ⟨rfl, rfl, ?_⟩
    tm_at "pw"
    refine take_sp (many := es.length + 1) hB (by omega) (by omega) (by omega) fun v b2 hv B2 => ?_
    tm_at "pw"
    refine o_ins (by simp [sizeLine]; omega) (by omega) ?_
    tm_at "pw"
    refine ⟨b2, _, rfl, ?_, by simpa [Nat.add_assoc] using B2⟩
    have h1 : (es.take v ++ [x] ++ es.drop v).Perm (x :: es) := by
      have := List.perm_middle (a := x) (l₁ := es.take v) (l₂ := es.drop v)
      simpa using this
    exact h1.trans ((hp.cons x).trans (List.perm_append_singleton x pre).symm)
theorem NNp : 0 < NN := by show 0 < 1407000; omega
theorem nc0 {M : Nat} : Nc NN M (0 : Rat) := ⟨0, Nat.zero_le _, by rw [Rat.zero_divInt]⟩
theorem nc1 : Nc NN MM (1 : Rat) := ⟨1407000, by decide, by decide +kernel⟩
theorem nc2 : Nc NN MM (2 : Rat) := ⟨2814000, by decide, by decide +kernel⟩
theorem Nc.sz {M : Nat} {x : Rat} (h : Nc NN M x) (hM : M ≤ 9 * MM) : Sz 64 x := (h.sn (n := 64) (d := 21) (by decide) (by decide) (Nat.lt_of_le_of_lt hM (by decide))).sz (by omega) (by omega)
theorem nc00 {M : Nat} : ∀ q ∈ [((0, 0) : Pt)], Nc NN M q.1 ∧ Nc NN M q.2 := fun q hq => by
  rw [List.mem_singleton.mp hq]
  exact ⟨nc0, nc0⟩
theorem sum_sn {n d : Nat} : ∀ {xs : List Rat}, (∀ x ∈ xs, Sn n d x) → Sn (n + (d + 1) * xs.length + 1) (d * xs.length + 1) (sumL xs)
  | [], _ => ⟨1, 0, by omega, by simp, Nat.pow_pos (by omega), by rw [Rat.zero_divInt]; rfl⟩
  | x :: xs, h => by
    rw [sumL_cons, List.length_cons]
    have := (h x List.mem_cons_self).add (sum_sn fun y hy => h y (List.mem_cons_of_mem _ hy)) (m := n + (d + 1) * (xs.length + 1) + 1) (by
      rw [Nat.mul_add, Nat.add_mul]; omega) (by rw [Nat.mul_add]; omega)
    exact this.mono (Nat.le_refl _) (by rw [Nat.mul_add]; omega)
theorem sum_sn5 {n d : Nat} {xs : List Rat} (h : ∀ x ∈ xs, Sn n d x) (hl : xs.length ≤ 5) : Sn (n + (d + 1) * 5 + 1) (d * 5 + 1) (sumL xs) := by
  have a := Nat.mul_le_mul_left (d + 1) hl
  have b := Nat.mul_le_mul_left d hl
  exact (sum_sn h).mono (by omega) (by omega)
theorem Nc.s64 {M : Nat} {x : Rat} (h : Nc NN M x) (hM : M ≤ 9 * MM) : Sn 64 21 x := h.sn NNp (by decide) (Nat.lt_of_le_of_lt hM (by decide))
end Lay

namespace Lay
open PySem PySem.Spec PyProof.Rows L2
local macro_rules | `(tactic| tm_at "len") => `(tactic| first | (simp only [List.length_cons, List.length_nil, sizeLine]; omega) | (simp [sizeLine]; omega) | (simp [sizeLine]; done))
local macro_rules | `(tactic| tm_at "pw1") => `(tactic| with_reducible first
  | refine s_seq ?_
  | refine o_op ?_
  | (refine o_var (d := ?d) ?e ?h; (case e => with_unfolding_all rfl))
  | tm_at "cst"
  | refine o_c ?_
  | refine o_cl ?_
  | refine o_cons ?_
  | refine o_nil ?_
  | refine s_set ?_
  | (refine s_own (by simp only [List.length_cons, List.length_nil, List.length_set]; omega) ?_)
  | refine s_ret ?_
  | refine s_if ?_
  | refine s_nop ?_
  | refine s_kill ?_
  | refine s_for ?_
  | refine o_it ?_
  | refine o_itl ?_
  | refine o_itt ?_
  | refine o_tup ?_
  | refine o_lst ?_
  | (refine And.intro (a := List.length _ ≤ sizeLine) (by tm_at "len") ?_)
  | refine o_t ?_
  | refine o_asB ?_
  | refine o_g1 ?_
  | refine o_if ?_
  | refine w_t ?_
  | refine w_f ?_
  | refine w_nt ?_
  | refine w_nf ?_
  | refine o_not ?_
  | refine o_notT ?_
  | refine o_and ?_
  | refine o_or ?_
  | refine o_un ?_
  | refine o_yes ?_
  | refine o_ch ?_
  | (refine o_callB ?_)
  | refine o_ixo ?_
  | refine o_sl ?_
  | refine o_noO ?_
  | refine o_someO ?_
  | refine o_name ?_
  | refine o_tupG ?_
  | refine o_consG ?_
  | refine o_nilG ?_
  | refine s_par ?_
  | (refine s_parM ?e ?h; (case e => with_unfolding_all rfl))
  | refine s_setG ?_
  | refine s_drop ?_
  | (refine s_retO (d := ?d) ?e ?h; (case e => with_unfolding_all rfl))
  | (refine s_mut (ds0 := ?d) ?e ?h; (case e => with_unfolding_all rfl))
  | (refine s_ins (ds0 := ?d) ?e ?h; (case e => with_unfolding_all rfl))
  | refine s_seti ?_
  | (refine s_aug (d := ?d) ?e ?h; (case e => with_unfolding_all rfl))
  | refine p_add ?_ | refine p_sub ?_ | refine p_lt ?_ | refine p_le ?_ | refine p_gt ?_ | refine p_ge ?_ | refine p_eq ?_ | refine p_ne ?_ | refine p_neg ?_ | refine p_abs ?_
  | refine p_intI ?_ | refine p_intB ?_ | refine p_lenL ?_ | refine p_lenT ?_ | refine p_tupL ?_ | refine p_tupT ?_ | refine p_lstL ?_ | refine p_lstT ?_ | refine p_isN ?_ | refine p_notN ?_
  | refine ex_two ?_
  | refine ex_int ?_ | refine ex_list ?_ | refine ex_tup ?_
  | (refine ex_ixo (ds := ?d) ?e ?h; (case e => with_unfolding_all rfl))
  | (refine ex_b (b := ?d) ?e ?h; (case e => with_unfolding_all rfl))
  | (refine ex_l (ds := ?d) ?e ?h; (case e => with_unfolding_all rfl))
  | refine o_enum ?_ | refine o_enumT ?_ | refine o_zip ?_ | refine o_zipM ?_ | refine o_rng1 ?_ | refine o_rng2 ?_
  | refine o_bor ?_ | refine o_borF ?_ | refine o_borT ?_
  | tm_at "spec")
local macro_rules | `(tactic| tm_at "pw") => `(tactic| repeat' (tm_at "pw1"))
local macro_rules | `(tactic| tm_at "pw1j") => `(tactic| with_reducible first
  | refine s_seq ?_
  | refine o_op ?_
  | (refine o_var (d := ?d) ?e ?h; (case e => with_unfolding_all rfl))
  | tm_at "cst"
  | refine o_c ?_
  | refine o_cl ?_
  | refine o_cons ?_
  | refine o_nil ?_
  | refine s_set ?_
  | (refine s_own (by simp only [List.length_cons, List.length_nil, List.length_set]; omega) ?_)
  | refine s_ret ?_
  | refine s_if ?_
  | refine s_nop ?_
  | refine s_kill ?_
  | refine s_for ?_
  | refine o_it ?_
  | refine o_itl ?_
  | refine o_itt ?_
  | refine o_tup ?_
  | refine o_lst ?_
  | (refine And.intro (a := List.length _ ≤ sizeLine) (by tm_at "len") ?_)
  | refine o_t ?_
  | refine o_asB ?_
  | refine o_g1 ?_
  | refine w_t ?_
  | refine w_f ?_
  | refine w_nt ?_
  | refine w_nf ?_
  | refine o_not ?_
  | refine o_notT ?_
  | refine o_and ?_
  | refine o_or ?_
  | refine o_un ?_
  | refine o_yes ?_
  | refine o_ch ?_
  | (refine o_callB ?_)
  | refine o_ixo ?_
  | refine o_sl ?_
  | refine o_noO ?_
  | refine o_someO ?_
  | refine o_name ?_
  | refine o_tupG ?_
  | refine o_consG ?_
  | refine o_nilG ?_
  | refine s_par ?_
  | (refine s_parM ?e ?h; (case e => with_unfolding_all rfl))
  | refine s_setG ?_
  | refine s_drop ?_
  | (refine s_retO (d := ?d) ?e ?h; (case e => with_unfolding_all rfl))
  | (refine s_mut (ds0 := ?d) ?e ?h; (case e => with_unfolding_all rfl))
  | (refine s_ins (ds0 := ?d) ?e ?h; (case e => with_unfolding_all rfl))
  | refine s_seti ?_
  | (refine s_aug (d := ?d) ?e ?h; (case e => with_unfolding_all rfl))
  | refine p_add ?_ | refine p_sub ?_ | refine p_lt ?_ | refine p_le ?_ | refine p_gt ?_ | refine p_ge ?_ | refine p_eq ?_ | refine p_ne ?_ | refine p_neg ?_ | refine p_abs ?_
  | refine p_intI ?_ | refine p_intB ?_ | refine p_lenL ?_ | refine p_lenT ?_ | refine p_tupL ?_ | refine p_tupT ?_ | refine p_lstL ?_ | refine p_lstT ?_ | refine p_isN ?_ | refine p_notN ?_
  | refine ex_two ?_
  | refine ex_int ?_ | refine ex_list ?_ | refine ex_tup ?_
  | (refine ex_ixo (ds := ?d) ?e ?h; (case e => with_unfolding_all rfl))
  | (refine ex_b (b := ?d) ?e ?h; (case e => with_unfolding_all rfl))
  | (refine ex_l (ds := ?d) ?e ?h; (case e => with_unfolding_all rfl))
  | refine o_enum ?_ | refine o_enumT ?_ | refine o_zip ?_ | refine o_zipM ?_ | refine o_rng1 ?_ | refine o_rng2 ?_
  | refine o_bor ?_ | refine o_borF ?_ | refine o_borT ?_
  | tm_at "spec")
local macro_rules | `(tactic| tm_at "pwj") => `(tactic| repeat' (tm_at "pw1j"))

local macro_rules | `(tactic| tm_at "cst") => `(tactic| with_reducible first | refine o_t01 ?_ | refine o_t11 ?_ | refine o_t21 ?_)
local macro_rules | `(tactic| tm_at "spec") => `(tactic| with_reducible first | refine p_fq0 ?_ | refine p_fq1 ?_ | refine p_two0 ?_ | refine p_two1 ?_ | refine p_hd0 ?_ | refine p_hdL0 ?_ | refine p_eqfq ?_ | refine p_nefq ?_)
local macro_rules | `(tactic| tm_at "run") => `(tactic| (refine ok_run ?_; (first | rw [env1] | rw [env2] | rw [env3] | rw [env0] | rw [env4] | rw [env5]); simp only [List.replicate_succ, List.replicate_zero]))
local macro_rules | `(tactic| tm_at "runF") => `(tactic| (refine ok_runF ?_; (first | rw [env1] | rw [env2] | rw [env3] | rw [env0] | rw [env4] | rw [env5]); simp only [List.replicate_succ, List.replicate_zero]))
local macro_rules | `(tactic| tm_at "runB") => `(tactic| (refine ok_runB ?_; (first | rw [env1] | rw [env2] | rw [env3] | rw [env0] | rw [env4] | rw [env5]); simp only [List.replicate_succ, List.replicate_zero]))
local macro_rules | `(tactic| tm_at "runBF") => `(tactic| (refine ok_runBF ?_; (first | rw [env1] | rw [env2] | rw [env3] | rw [env0] | rw [env4] | rw [env5]); simp only [List.replicate_succ, List.replicate_zero]))

theorem p_eqSame {k : Nat} {d : D} {Q : D → Prop} (h : Sh k d) (l : k ≤ 64) (ns : ∀ a, d ≠ .str a) (q : Q (.bool true)) : Ok (eqD d d) Q := ⟨_, by unfold eqD; rw [eqB_sh h h l l ns, eqv_refl d h.1]; rfl, q⟩
theorem p_repr {k B : Nat} {d : D} {Q : D → Prop} (h : Sh k d) (t : Tx B d) (l : k ≤ 64) (m : B ≤ sizeLine) (q : Q (.str d.shown)) : Ok (reprD d) Q := ⟨_, repr_eq h t l m, q⟩
theorem p_eqStr {a : Str} {Q : D → Prop} (q : Q (.bool true)) : Ok (eqD (.str a) (.str a)) Q := ⟨_, by unfold eqD; rw [eqB_str, beq_self_eq_true]; rfl, q⟩
theorem p_neStr {a : Str} {Q : D → Prop} (q : Q (.bool false)) : Ok (neD (.str a) (.str a)) Q := ⟨_, by unfold neD; rw [eqB_str, beq_self_eq_true]; rfl, q⟩
theorem alike_eq {d : D} {k B : Nat} (h : Sh k d) (t : Tx B d) (l : k ≤ 64) (m : B ≤ sizeLine) (ns : ∀ a, d ≠ .str a) : F__law_alike [d, d] = some (.bool true) := by
  refine ok_get ?_
  unfold F__law_alike S__law_alike
  tm_at "run"
  tm_at "pw"
  refine p_eqSame h l ns ?_
  tm_at "pw"
  refine p_repr h t l m ?_
  tm_at "pw"
  refine p_repr h t l m ?_
  tm_at "pw"
  exact p_eqStr rfl
theorem tx_fq {x : Rat} (h : Sz 1900 x) : Tx 3850 (fq x) := by
  have l1 := log2_of h.1
  have l2 := log2_of h.2
  exact (tx_tup (B := 1921) (n := 2) (fun d hd => by
    simp only [List.mem_cons, List.not_mem_nil, or_false] at hd
    rcases hd with rfl | rfl
    · exact tx_int (by omega)
    · exact tx_int (by show Nat.log2 _ < _; simp; omega)) (by simp)).mono (by omega)
theorem bag_ok (ns : List Int) : ∃ b, F__law_bag [.list (ns.map .int)] = some b ∧ Bag 0 b := by
  let cs0 : List Int := cutL ns none (some 63)
  have c0 : cutL (ns.map PyData.int) none (some 63) = cs0.map .int := by
    show List.take _ (List.drop _ _) = List.map _ (List.take _ (List.drop _ _))
    rw [List.length_map, List.map_take, List.map_drop]
  have hl : cs0.length ≤ 63 := by
    show (cutL ns none (some ((63 : Nat) : Int))).length ≤ 63
    rw [cut_take, List.length_take]
    omega
  have : Ok (F__law_bag [.list (ns.map .int)]) fun b => Bag 0 b := by
    unfold F__law_bag S__law_bag
    tm_at "runF"
    tm_at "pw"
    refine o_comp ?_
    tm_at "pw"
    refine ⟨_, rfl, ?_⟩
    rw [c0]
    tm_at "pw"
    refine c_on (xs := cs0) (e := .int) (fun _ => true) (fun c => .int (c.natAbs : Nat)) (fun c hc => ?_) fun ρ2 hk => ?_
    · tm_at "pw"
      refine ⟨rfl, ?_⟩
      tm_at "pw"
      refine ⟨rfl, rfl, fun _ => ?_⟩
      tm_at "pw"
      exact ⟨rfl, rfl⟩
    · rw [List.filter_eq_self.mpr fun _ _ => rfl]
      tm_at "pw"
      refine ⟨0, 1234567891, 0, _, rfl, by omega, by omega, by omega, by omega, by omega, by simp; omega, fun d hd => ?_⟩
      obtain ⟨c, _, rfl⟩ := List.mem_map.mp hd
      exact ⟨_, rfl, by omega⟩
  exact this
theorem sh_oq (o : Option Rat) : Sh 1 (oq o) := by
  cases o with
  | none => exact sh_none.mono (by omega)
  | some x => exact sh_fq x
theorem sh_pays (cs : List Cu) (o : Option Rat) : Sh 2 (paysD cs o) := by
  cases o with
  | none => exact sh_none.mono (by omega)
  | some x =>
    refine sh_tup fun d hd => ?_
    obtain ⟨c, _, rfl⟩ := List.mem_map.mp hd
    exact sh_fq _
theorem sh_eP (p : Pt) : Sh 2 (eP p) := sh_tup fun d hd => by
  simp only [List.mem_cons, List.not_mem_nil, or_false] at hd
  rcases hd with rfl | rfl <;> exact sh_fq _
theorem sh_eC (c : Cu) : Sh 4 (eC c) := sh_tup fun d hd => by
  simp only [List.mem_cons, List.not_mem_nil, or_false] at hd
  rcases hd with rfl | rfl
  · exact sh_tup fun d hd => by
      obtain ⟨c, _, rfl⟩ := List.mem_map.mp hd
      exact sh_eP _
  · exact (sh_fq _).mono (by omega)
theorem tx_eC {c : Cu} {s : Nat} (h : CuZ s c) (hs : s ≤ 1900) (hl : c.r.length ≤ 4) : Tx 77116 (eC c) := by
  have t1 : Tx 38554 (ePs c) := (tx_tup (B := 7708) (n := 5) (fun d hd => by
    obtain ⟨q, hq, rfl⟩ := List.mem_map.mp hd
    exact (tx_tup (B := 3850) (n := 2) (fun d hd => by
      simp only [List.mem_cons, List.not_mem_nil, or_false] at hd
      rcases hd with rfl | rfl
      · exact tx_fq ((h.pt q hq).1.mono hs)
      · exact tx_fq ((h.pt q hq).2.mono hs)) (by simp)).mono (by omega)) (by simp; omega)).mono (by omega)
  exact (tx_tup (B := 38554) (n := 2) (fun d hd => by
    simp only [List.mem_cons, List.not_mem_nil, or_false] at hd
    rcases hd with rfl | rfl
    · exact t1
    · exact (tx_fq (h.sl.mono hs)).mono (by omega)) (by simp)).mono (by omega)
theorem p_pow {a b : Int} {Q : D → Prop} (h : decide (0 ≤ b ∧ b ≤ 1000000 ∧ a.natAbs < 2 ^ 64) = true) (q : Q (.int (a ^ b.toNat))) : Ok (powD (.int a) (.int b)) Q := ⟨_, by unfold powD iiD; simp only; rw [if_pos h], q⟩
end Lay

namespace Lay
open PySem PySem.Spec PyProof.Rows L2
local macro_rules | `(tactic| tm_at "len") => `(tactic| first | (simp only [List.length_cons, List.length_nil, sizeLine]; omega) | (simp [sizeLine]; omega) | (simp [sizeLine]; done))
local macro_rules | `(tactic| tm_at "pw1") => `(tactic| with_reducible first
  | refine s_seq ?_
  | refine o_op ?_
  | (refine o_var (d := ?d) ?e ?h; (case e => with_unfolding_all rfl))
  | tm_at "cst"
  | refine o_c ?_
  | refine o_cl ?_
  | refine o_cons ?_
  | refine o_nil ?_
  | refine s_set ?_
  | (refine s_own (by simp only [List.length_cons, List.length_nil, List.length_set]; omega) ?_)
  | refine s_ret ?_
  | refine s_if ?_
  | refine s_nop ?_
  | refine s_kill ?_
  | refine s_for ?_
  | refine o_it ?_
  | refine o_itl ?_
  | refine o_itt ?_
  | refine o_tup ?_
  | refine o_lst ?_
  | (refine And.intro (a := List.length _ ≤ sizeLine) (by tm_at "len") ?_)
  | refine o_t ?_
  | refine o_asB ?_
  | refine o_g1 ?_
  | refine o_if ?_
  | refine w_t ?_
  | refine w_f ?_
  | refine w_nt ?_
  | refine w_nf ?_
  | refine o_not ?_
  | refine o_notT ?_
  | refine o_and ?_
  | refine o_or ?_
  | refine o_un ?_
  | refine o_yes ?_
  | refine o_ch ?_
  | (refine o_callB ?_)
  | refine o_ixo ?_
  | refine o_sl ?_
  | refine o_noO ?_
  | refine o_someO ?_
  | refine o_name ?_
  | refine o_tupG ?_
  | refine o_consG ?_
  | refine o_nilG ?_
  | refine s_par ?_
  | (refine s_parM ?e ?h; (case e => with_unfolding_all rfl))
  | refine s_setG ?_
  | refine s_drop ?_
  | (refine s_retO (d := ?d) ?e ?h; (case e => with_unfolding_all rfl))
  | (refine s_mut (ds0 := ?d) ?e ?h; (case e => with_unfolding_all rfl))
  | (refine s_ins (ds0 := ?d) ?e ?h; (case e => with_unfolding_all rfl))
  | refine s_seti ?_
  | (refine s_aug (d := ?d) ?e ?h; (case e => with_unfolding_all rfl))
  | refine p_add ?_ | refine p_sub ?_ | refine p_lt ?_ | refine p_le ?_ | refine p_gt ?_ | refine p_ge ?_ | refine p_eq ?_ | refine p_ne ?_ | refine p_neg ?_ | refine p_abs ?_
  | refine p_intI ?_ | refine p_intB ?_ | refine p_lenL ?_ | refine p_lenT ?_ | refine p_tupL ?_ | refine p_tupT ?_ | refine p_lstL ?_ | refine p_lstT ?_ | refine p_isN ?_ | refine p_notN ?_
  | refine ex_two ?_
  | refine ex_int ?_ | refine ex_list ?_ | refine ex_tup ?_
  | (refine ex_ixo (ds := ?d) ?e ?h; (case e => with_unfolding_all rfl))
  | (refine ex_b (b := ?d) ?e ?h; (case e => with_unfolding_all rfl))
  | (refine ex_l (ds := ?d) ?e ?h; (case e => with_unfolding_all rfl))
  | refine o_enum ?_ | refine o_enumT ?_ | refine o_zip ?_ | refine o_zipM ?_ | refine o_rng1 ?_ | refine o_rng2 ?_
  | refine o_bor ?_ | refine o_borF ?_ | refine o_borT ?_
  | tm_at "spec")
local macro_rules | `(tactic| tm_at "pw") => `(tactic| repeat' (tm_at "pw1"))
local macro_rules | `(tactic| tm_at "pw1j") => `(tactic| with_reducible first
  | refine s_seq ?_
  | refine o_op ?_
  | (refine o_var (d := ?d) ?e ?h; (case e => with_unfolding_all rfl))
  | tm_at "cst"
  | refine o_c ?_
  | refine o_cl ?_
  | refine o_cons ?_
  | refine o_nil ?_
  | refine s_set ?_
  | (refine s_own (by simp only [List.length_cons, List.length_nil, List.length_set]; omega) ?_)
  | refine s_ret ?_
  | refine s_if ?_
  | refine s_nop ?_
  | refine s_kill ?_
  | refine s_for ?_
  | refine o_it ?_
  | refine o_itl ?_
  | refine o_itt ?_
  | refine o_tup ?_
  | refine o_lst ?_
  | (refine And.intro (a := List.length _ ≤ sizeLine) (by tm_at "len") ?_)
  | refine o_t ?_
  | refine o_asB ?_
  | refine o_g1 ?_
  | refine w_t ?_
  | refine w_f ?_
  | refine w_nt ?_
  | refine w_nf ?_
  | refine o_not ?_
  | refine o_notT ?_
  | refine o_and ?_
  | refine o_or ?_
  | refine o_un ?_
  | refine o_yes ?_
  | refine o_ch ?_
  | (refine o_callB ?_)
  | refine o_ixo ?_
  | refine o_sl ?_
  | refine o_noO ?_
  | refine o_someO ?_
  | refine o_name ?_
  | refine o_tupG ?_
  | refine o_consG ?_
  | refine o_nilG ?_
  | refine s_par ?_
  | (refine s_parM ?e ?h; (case e => with_unfolding_all rfl))
  | refine s_setG ?_
  | refine s_drop ?_
  | (refine s_retO (d := ?d) ?e ?h; (case e => with_unfolding_all rfl))
  | (refine s_mut (ds0 := ?d) ?e ?h; (case e => with_unfolding_all rfl))
  | (refine s_ins (ds0 := ?d) ?e ?h; (case e => with_unfolding_all rfl))
  | refine s_seti ?_
  | (refine s_aug (d := ?d) ?e ?h; (case e => with_unfolding_all rfl))
  | refine p_add ?_ | refine p_sub ?_ | refine p_lt ?_ | refine p_le ?_ | refine p_gt ?_ | refine p_ge ?_ | refine p_eq ?_ | refine p_ne ?_ | refine p_neg ?_ | refine p_abs ?_
  | refine p_intI ?_ | refine p_intB ?_ | refine p_lenL ?_ | refine p_lenT ?_ | refine p_tupL ?_ | refine p_tupT ?_ | refine p_lstL ?_ | refine p_lstT ?_ | refine p_isN ?_ | refine p_notN ?_
  | refine ex_two ?_
  | refine ex_int ?_ | refine ex_list ?_ | refine ex_tup ?_
  | (refine ex_ixo (ds := ?d) ?e ?h; (case e => with_unfolding_all rfl))
  | (refine ex_b (b := ?d) ?e ?h; (case e => with_unfolding_all rfl))
  | (refine ex_l (ds := ?d) ?e ?h; (case e => with_unfolding_all rfl))
  | refine o_enum ?_ | refine o_enumT ?_ | refine o_zip ?_ | refine o_zipM ?_ | refine o_rng1 ?_ | refine o_rng2 ?_
  | refine o_bor ?_ | refine o_borF ?_ | refine o_borT ?_
  | tm_at "spec")
local macro_rules | `(tactic| tm_at "pwj") => `(tactic| repeat' (tm_at "pw1j"))

local macro_rules | `(tactic| tm_at "cst") => `(tactic| with_reducible first | refine o_t01 ?_ | refine o_t11 ?_ | refine o_t21 ?_)
local macro_rules | `(tactic| tm_at "spec") => `(tactic| with_reducible first | refine p_fq0 ?_ | refine p_fq1 ?_ | refine p_two0 ?_ | refine p_two1 ?_ | refine p_hd0 ?_ | refine p_hdL0 ?_ | refine p_eqfq ?_ | refine p_nefq ?_)
local macro_rules | `(tactic| tm_at "run") => `(tactic| (refine ok_run ?_; (first | rw [env1] | rw [env2] | rw [env3] | rw [env0] | rw [env4] | rw [env5]); simp only [List.replicate_succ, List.replicate_zero]))
local macro_rules | `(tactic| tm_at "runF") => `(tactic| (refine ok_runF ?_; (first | rw [env1] | rw [env2] | rw [env3] | rw [env0] | rw [env4] | rw [env5]); simp only [List.replicate_succ, List.replicate_zero]))
local macro_rules | `(tactic| tm_at "runB") => `(tactic| (refine ok_runB ?_; (first | rw [env1] | rw [env2] | rw [env3] | rw [env0] | rw [env4] | rw [env5]); simp only [List.replicate_succ, List.replicate_zero]))
local macro_rules | `(tactic| tm_at "runBF") => `(tactic| (refine ok_runBF ?_; (first | rw [env1] | rw [env2] | rw [env3] | rw [env0] | rw [env4] | rw [env5]); simp only [List.replicate_succ, List.replicate_zero]))

/-! ## texts as lists of code points -/
abbrev Tx0 (a : List Nat) : D := .str (SX.S a)
def pts (a : List Nat) : List (List Nat) := TL.spl [47] 0 [] a
theorem pts_one {a : List Nat} (h : 47 ∉ a) : pts a = [a] := by
  unfold pts
  rw [TL.spl_last1 h]
  rfl
theorem pts_cut {p : List Nat} (q : List Nat) (h : 47 ∉ p) : pts (p ++ 47 :: q) = p :: pts q := by
  unfold pts
  have := TL.spl_part1 (S := []) (acc := []) (rest := q) h
  simpa using this
theorem cut_at (a : List Nat) : 47 ∉ a ∨ ∃ p q, a = p ++ 47 :: q ∧ 47 ∉ p := by
  by_cases h : 47 ∈ a
  · right
    induction a with
    | nil => cases h
    | cons c a ih =>
      by_cases k : c = 47
      · exact ⟨[], a, by rw [k]; rfl, by simp⟩
      · have : 47 ∈ a := by
          rcases List.mem_cons.mp h with z | z
          · exact absurd z.symm k
          · exact z
        obtain ⟨p, q, e, hp⟩ := ih this
        exact ⟨c :: p, q, by rw [e]; rfl, fun z => by
          rcases List.mem_cons.mp z with z | z
          · exact k z.symm
          · exact hp z⟩
  · exact .inl h
theorem pts_ne (a : List Nat) : ∃ p r, pts a = p :: r ∧ ∃ s, a = p ++ s := by
  rcases cut_at a with h | ⟨p, q, rfl, h⟩
  · exact ⟨a, [], pts_one h, [], by simp⟩
  · exact ⟨p, pts q, pts_cut q h, _, rfl⟩
theorem pts_minus {a p : List Nat} {r : List (List Nat)} (h : pts a = p :: r) : pts (45 :: a) = (45 :: p) :: r := by
  rcases cut_at a with k | ⟨p', q, rfl, k⟩
  · rw [pts_one k] at h
    cases h
    exact pts_one fun z => by
      rcases List.mem_cons.mp z with z | z
      · cases z
      · exact k z
  · rw [pts_cut q k] at h
    cases h
    have := pts_cut (p := 45 :: p) q fun z => by
      rcases List.mem_cons.mp z with z | z
      · cases z
      · exact k z
    exact this
theorem pts_len (a : List Nat) : (pts a).length ≤ a.length + 1 := by
  have h : ∀ (n : Nat) (a : List Nat), a.length ≤ n → (pts a).length ≤ a.length + 1 := fun n => by
    induction n with
    | zero =>
      intro a ha
      rcases cut_at a with k | ⟨p, q, rfl, k⟩
      · rw [pts_one k]; simp
      · simp at ha
    | succ n ih =>
      intro a ha
      rcases cut_at a with k | ⟨p, q, rfl, k⟩
      · rw [pts_one k]; simp
      · rw [pts_cut q k]
        simp only [List.length_append, List.length_cons] at ha ⊢
        have := ih q (by omega)
        omega
  exact h _ a (Nat.le_refl _)
theorem pts_sub (a : List Nat) : ∀ p ∈ pts a, ∀ c ∈ p, c ∈ a := by
  have h : ∀ (n : Nat) (a : List Nat), a.length ≤ n → ∀ p ∈ pts a, ∀ c ∈ p, c ∈ a := fun n => by
    induction n with
    | zero =>
      intro a ha p hp c hc
      rcases cut_at a with k | ⟨p', q, rfl, k⟩
      · rw [pts_one k, List.mem_singleton] at hp; rw [← hp]; exact hc
      · simp at ha
    | succ n ih =>
      intro a ha p hp c hc
      rcases cut_at a with k | ⟨p', q, rfl, k⟩
      · rw [pts_one k, List.mem_singleton] at hp; rw [← hp]; exact hc
      · rw [pts_cut q k] at hp
        simp only [List.length_append, List.length_cons] at ha
        rcases List.mem_cons.mp hp with rfl | hp
        · exact List.mem_append_left _ hc
        · exact List.mem_append_right _ (List.mem_cons_of_mem _ (ih q (by omega) p hp c hc))
  exact h _ a (Nat.le_refl _)
/-! the walk's steps over texts -/
theorem p_seq {a b : List Nat} {Q : D → Prop} (q : Q (.bool (decide (a = b)))) : Ok (eqD (Tx0 a) (Tx0 b)) Q := ⟨_, by unfold eqD; rw [eqB_str, SX.S_beq_eq]; rfl, q⟩
theorem p_split {a : List Nat} {Q : D → Prop} (l : a.length ≤ 1000) (q : Q (.list ((pts a).map Tx0))) : Ok (splitD (Tx0 a) (.str "/")) Q := by
  refine ⟨_, ?_, q⟩
  have e : ("/" : Str) = SX.S [47] := rfl
  unfold splitD
  rw [e]
  simp only
  rw [if_pos ⟨by rw [SX.S_len]; rfl, by rw [SX.S_len]; simp [sizeLine]; omega⟩, SX.split_S (by simp) (by rfl), List.map_map]
  rfl
theorem p_to1 {a : List Nat} {Q : D → Prop} (l : a.length ≤ 1000) (q : Q (Tx0 (a.take 1))) : Ok (slD none (some 1) (Tx0 a)) Q := by
  refine ⟨_, ?_, q⟩
  unfold slD
  simp only
  rw [if_pos (by rw [SX.S_len]; simp [sizeLine]; omega), C8.cutS_slice, SX.slice_to (by omega)]
  rfl
theorem p_from1 {a : List Nat} {Q : D → Prop} (l : a.length ≤ 1000) (q : Q (Tx0 (a.drop 1))) : Ok (slD (some 1) none (Tx0 a)) Q := by
  refine ⟨_, ?_, q⟩
  unfold slD
  simp only
  rw [if_pos (by rw [SX.S_len]; simp [sizeLine]; omega), C8.cutS_slice, SX.slice_from (by omega)]
  rfl
theorem p_lenS {a : List Nat} {Q : D → Prop} (l : a.length ≤ 1000) (q : Q (.int a.length)) : Ok (lenD (Tx0 a)) Q := by
  refine ⟨_, ?_, q⟩
  unfold lenD
  simp only
  rw [if_pos (by rw [SX.S_len]; simp [sizeLine]; omega), SX.S_len]
def isDg (c : Nat) : Bool := decide (48 ≤ c ∧ c ≤ 57)
theorem p_inDg {c : Nat} {Q : D → Prop} (q : Q (.bool (isDg c))) : Ok (inD (Tx0 [c]) (.str "0123456789")) Q := by
  refine ⟨_, ?_, q⟩
  have e : ("0123456789" : Str) = SX.S [48, 49, 50, 51, 52, 53, 54, 55, 56, 57] := rfl
  have h := SX.in_one [48, 49, 50, 51, 52, 53, 54, 55, 56, 57] c
  have k : decide (c ∈ [48, 49, 50, 51, 52, 53, 54, 55, 56, 57]) = isDg c := by
    unfold isDg
    rw [decide_eq_decide]
    simp only [List.mem_cons, List.not_mem_nil, or_false]
    omega
  rw [e]
  unfold inD inB
  simp only
  rw [h, k]
  rfl
theorem p_notInDg {c : Nat} {Q : D → Prop} (q : Q (.bool (!isDg c))) : Ok (notInD (Tx0 [c]) (.str "0123456789")) Q := by
  obtain ⟨d, e, rfl⟩ := p_inDg (c := c) (Q := fun d => d = .bool (isDg c)) rfl
  refine ⟨_, ?_, q⟩
  unfold inD at e
  unfold notInD
  cases k : inB (Tx0 [c]) (.str "0123456789") with
  | none => rw [k] at e; cases e
  | some b =>
    rw [k] at e
    simp only [Option.map_some, Option.some.injEq, PyData.bool.injEq] at e
    rw [← e]
    rfl
theorem o_itS {a : List Nat} {Q : List D → Prop} (l : a.length ≤ 1000) (h : Q (a.map fun c => Tx0 [c])) : Ok (itD (Tx0 a)) Q := by
  refine ⟨_, ?_, h⟩
  unfold itD
  simp only
  rw [if_pos (by show a.toArray.size ≤ _; simp [sizeLine]; omega)]
theorem bools_of {α : Type} (f : α → Bool) : ∀ xs : List α, boolsD (xs.map fun a => .bool (f a)) = some (xs.map f)
  | [] => rfl
  | x :: xs => by
    show (boolsD (xs.map fun a => .bool (f a))).map _ = _
    rw [bools_of f xs]
    rfl
theorem p_allD {α : Type} {f : α → Bool} {xs : List α} {Q : D → Prop} (h : Q (.bool (xs.all f))) : Ok (allD (.list (xs.map fun a => .bool (f a)))) Q := ⟨.bool (xs.all f), by unfold allD; simp only [bools_of, Option.map_some, List.all_map]; rfl, h⟩
def okP (p : List Nat) : Bool := decide (0 < p.length ∧ p.length ≤ 40) && p.all isDg
theorem number_text_eq {p : List Nat} (l : p.length ≤ 1000) : F_is_number_text [Tx0 p] = some (.bool (okP p)) := by
  refine ok_get ?_
  unfold F_is_number_text S_is_number_text
  tm_at "run"
  tm_at "pw"
  refine p_lenS l ?_
  tm_at "pw"
  unfold okP
  refine w_d (fun z => ?_) fun z => ?_
  · tm_at "pw"
    refine w_d (fun z2 => ?_) fun z2 => ?_
    · tm_at "pw"
      refine o_compAll (xs := p) (e := fun c => Tx0 [c]) (fun c => .bool (isDg c)) ?_ (fun c hc => ?_) ?_
      · obtain ⟨ds, e, rfl⟩ := o_itS (a := p) (Q := fun ds => ds = p.map fun c => Tx0 [c]) l rfl
        show (itD (Tx0 p)).map _ = _
        rw [e]
        rfl
      · tm_at "pw"
        refine ⟨rfl, ?_⟩
        tm_at "pw"
        refine p_inDg ?_
        tm_at "pw"
        exact ⟨rfl, rfl⟩
      tm_at "pw"
      refine p_allD ?_
      rw [decide_eq_true (by omega : 0 < p.length ∧ p.length ≤ 40), Bool.true_and]
    · tm_at "pw"
      rw [decide_eq_false (by omega), Bool.false_and]
  · tm_at "pw"
    rw [decide_eq_false (by omega), Bool.false_and]
/-! ## what a text says -/
def bodyT (a : List Nat) : List Nat := if a.take 1 = [45] then a.drop 1 else a
def numZ (i : Int) : List Nat := if i < 0 then 45 :: TL.numL i.natAbs else TL.numL i.natAbs
def txt (n d : Int) : List Nat := numZ n ++ if d = 1 then [] else 47 :: numZ d
def textL (q : Rat) : List Nat := txt q.num q.den
theorem numZ_str (i : Int) : Str.ofString (toString i) = SX.S (numZ i) := by
  rcases i with n | n
  · have := SX.num_S n
    unfold numZ
    rw [if_neg (by show ¬ ((n : Nat) : Int) < 0; omega)]
    exact this
  · have e : toString (Int.negSucc n) = "-" ++ toString (n + 1) := rfl
    unfold numZ
    rw [if_pos (Int.negSucc_lt_zero n)]
    refine TL.ext_tl ?_
    rw [TL.tl_ofString, e, String.toList_append, List.map_append]
    have := TL.tl_num (n + 1)
    rw [TL.tl_ofString] at this
    show [45] ++ _ = 45 :: TL.numL (n + 1)
    rw [← this]
    rfl
theorem numZ_free (i : Int) : 47 ∉ numZ i := by
  have h := TL.numL_free (n := i.natAbs) (s := 47) (by omega)
  unfold numZ
  split
  · intro z
    rcases List.mem_cons.mp z with z | z
    · cases z
    · exact h z
  · exact h
def B40 (i : Int) : Prop := i.natAbs < 10 ^ 40
theorem numZ_len {i : Int} (h : B40 i) : (numZ i).length ≤ 41 := by
  have := TL.numL_len (n := i.natAbs) (k := 40) (by omega) h
  unfold numZ
  split
  · simp; omega
  · omega
theorem txt_len {n d : Int} (h : B40 n) (h' : B40 d) : (txt n d).length ≤ 83 := by
  have a := numZ_len h
  have b := numZ_len h'
  unfold txt
  rw [List.length_append]
  split
  · simp; omega
  · simp; omega
theorem p_strI {i : Int} {Q : D → Prop} (h : B40 i) (q : Q (Tx0 (numZ i))) : Ok (strD (.int i)) Q := by
  refine ⟨_, ?_, q⟩
  have l : i.natAbs.log2 ≤ 133 := log2_of (Nat.lt_of_lt_of_le h (by decide))
  unfold strD
  simp only
  rw [if_pos (by omega), numZ_str]
theorem p_catS {a b : List Nat} {Q : D → Prop} (h : a.length + b.length ≤ 100000) (q : Q (Tx0 (a ++ b))) : Ok (addD (Tx0 a) (Tx0 b)) Q := by
  refine ⟨_, ?_, q⟩
  unfold addD
  simp only
  rw [if_pos (by rw [SX.S_len, SX.S_len]; simp [sizeLine]; omega), SX.S_cat]
structure F40 (q : Rat) : Prop where
  n : B40 q.num
  d : B40 q.den
theorem ftext_eq {q : Rat} (h : F40 q) : F_fraction_text [fq q] = some (Tx0 (textL q)) := by
  have l1 := numZ_len h.n
  have l2 := numZ_len h.d
  refine ok_get ?_
  unfold F_fraction_text S_fraction_text
  tm_at "run"
  tm_at "pw"
  unfold textL txt
  refine w_d (fun z => ?_) fun z => ?_
  · tm_at "pw"
    refine p_strI h.n ?_
    tm_at "pw"
    rw [if_pos z, List.append_nil]
  · tm_at "pw"
    refine p_strI h.n ?_
    tm_at "pw"
    refine p_catS (b := [47]) (by simp; omega) ?_
    tm_at "pw"
    refine p_strI h.d ?_
    tm_at "pw"
    refine p_catS (by simp; omega) ?_
    tm_at "pw"
    rw [if_neg z, List.append_assoc]
    rfl
theorem ltext_eq {n d : Int} (h : B40 n) (h' : B40 d) : F__law_text [.tuple [.int n, .int d]] = some (Tx0 (txt n d)) := by
  have l1 := numZ_len h
  have l2 := numZ_len h'
  refine ok_get ?_
  unfold F__law_text S__law_text
  tm_at "run"
  tm_at "pw"
  refine p_strI h ?_
  tm_at "pw"
  unfold txt
  refine w_d (fun z => ?_) fun z => ?_
  · tm_at "pw"
    refine p_strI h' ?_
    tm_at "pw"
    refine p_catS (a := [47]) (by simp; omega) ?_
    tm_at "pw"
    refine p_catS (by simp; omega) ?_
    tm_at "pw"
    rw [if_neg z]
    rfl
  · tm_at "pw"
    refine p_catS (b := []) (by simp; omega) ?_
    tm_at "pw"
    rw [if_pos (by simpa using z)]
/-! digits -/
def dv (p : List Nat) : Nat := NumText.digitsVal p
theorem dv_fold : ∀ (l : List Nat) (acc : Nat), NumText.AllDigits l → l.foldl (fun acc c => acc * 10 + (c - 48)) acc < (acc + 1) * 10 ^ l.length
  | [], acc, _ => by simp
  | c :: l, acc, h => by
    have hc := h.head
    have := dv_fold l (acc * 10 + (c - 48)) h.tail
    rw [List.foldl_cons, List.length_cons, Nat.pow_succ]
    have k : (acc * 10 + (c - 48) + 1) * 10 ^ l.length ≤ ((acc + 1) * 10) * 10 ^ l.length := Nat.mul_le_mul_right _ (by omega)
    have e : (acc + 1) * (10 ^ l.length * 10) = ((acc + 1) * 10) * 10 ^ l.length := by rw [Nat.mul_comm (10 ^ l.length) 10, Nat.mul_assoc]
    omega
theorem okP_dig {p : List Nat} (h : okP p = true) : NumText.AllDigits p ∧ p ≠ [] ∧ p.length ≤ 40 := by
  unfold okP at h
  rw [Bool.and_eq_true, decide_eq_true_eq] at h
  refine ⟨fun c hc => ?_, fun z => by rw [z] at h; simp at h, h.1.2⟩
  have := List.all_eq_true.mp h.2 c hc
  unfold isDg at this
  simpa using this
theorem dv_lt {p : List Nat} (h : okP p = true) : dv p < 10 ^ 40 := by
  obtain ⟨h1, h2, h3⟩ := okP_dig h
  have a := dv_fold p 0 h1
  have b : 10 ^ p.length ≤ 10 ^ 40 := Nat.pow_le_pow_right (by omega) h3
  unfold dv NumText.digitsVal
  omega
theorem p_intS {p : List Nat} {Q : D → Prop} (h : okP p = true) (q : Q (.int (dv p : Nat))) : Ok (intD (Tx0 p)) Q := by
  obtain ⟨h1, h2, h3⟩ := okP_dig h
  refine ⟨_, ?_, q⟩
  unfold intD
  simp only
  rw [if_pos (by rw [SX.S_len]; omega), PySem.intText_digits (x := SX.S p) h1 h2 (by rw [SX.S_len]; omega)]
  rfl
theorem p_intN {p : List Nat} {Q : D → Prop} (h : okP p = true) (q : Q (.int (-((dv p : Nat) : Int)))) : Ok (intD (Tx0 (45 :: p))) Q := by
  obtain ⟨h1, h2, h3⟩ := okP_dig h
  refine ⟨_, ?_, q⟩
  unfold intD
  simp only
  rw [if_pos (by rw [SX.S_len]; simp; omega), PySem.intText_neg (x := SX.S (45 :: p)) (cs := p) rfl h1 h2 (by rw [SX.S_len]; simp; omega)]
  rfl
end Lay

namespace Lay
open PySem PySem.Spec PyProof.Rows L2
local macro_rules | `(tactic| tm_at "len") => `(tactic| first | (simp only [List.length_cons, List.length_nil, sizeLine]; omega) | (simp [sizeLine]; omega) | (simp [sizeLine]; done))
local macro_rules | `(tactic| tm_at "pw1") => `(tactic| with_reducible first
  | refine s_seq ?_
  | refine o_op ?_
  | (refine o_var (d := ?d) ?e ?h; (case e => with_unfolding_all rfl))
  | tm_at "cst"
  | refine o_c ?_
  | refine o_cl ?_
  | refine o_cons ?_
  | refine o_nil ?_
  | refine s_set ?_
  | (refine s_own (by simp only [List.length_cons, List.length_nil, List.length_set]; omega) ?_)
  | refine s_ret ?_
  | refine s_if ?_
  | refine s_nop ?_
  | refine s_kill ?_
  | refine s_for ?_
  | refine o_it ?_
  | refine o_itl ?_
  | refine o_itt ?_
  | refine o_tup ?_
  | refine o_lst ?_
  | (refine And.intro (a := List.length _ ≤ sizeLine) (by tm_at "len") ?_)
  | refine o_t ?_
  | refine o_asB ?_
  | refine o_g1 ?_
  | refine o_if ?_
  | refine w_t ?_
  | refine w_f ?_
  | refine w_nt ?_
  | refine w_nf ?_
  | refine o_not ?_
  | refine o_notT ?_
  | refine o_and ?_
  | refine o_or ?_
  | refine o_un ?_
  | refine o_yes ?_
  | refine o_ch ?_
  | (refine o_callB ?_)
  | refine o_ixo ?_
  | refine o_sl ?_
  | refine o_noO ?_
  | refine o_someO ?_
  | refine o_name ?_
  | refine o_tupG ?_
  | refine o_consG ?_
  | refine o_nilG ?_
  | refine s_par ?_
  | (refine s_parM ?e ?h; (case e => with_unfolding_all rfl))
  | refine s_setG ?_
  | refine s_drop ?_
  | (refine s_retO (d := ?d) ?e ?h; (case e => with_unfolding_all rfl))
  | (refine s_mut (ds0 := ?d) ?e ?h; (case e => with_unfolding_all rfl))
  | (refine s_ins (ds0 := ?d) ?e ?h; (case e => with_unfolding_all rfl))
  | refine s_seti ?_
  | (refine s_aug (d := ?d) ?e ?h; (case e => with_unfolding_all rfl))
  | refine p_add ?_ | refine p_sub ?_ | refine p_lt ?_ | refine p_le ?_ | refine p_gt ?_ | refine p_ge ?_ | refine p_eq ?_ | refine p_ne ?_ | refine p_neg ?_ | refine p_abs ?_
  | refine p_intI ?_ | refine p_intB ?_ | refine p_lenL ?_ | refine p_lenT ?_ | refine p_tupL ?_ | refine p_tupT ?_ | refine p_lstL ?_ | refine p_lstT ?_ | refine p_isN ?_ | refine p_notN ?_
  | refine ex_two ?_
  | refine ex_int ?_ | refine ex_list ?_ | refine ex_tup ?_
  | (refine ex_ixo (ds := ?d) ?e ?h; (case e => with_unfolding_all rfl))
  | (refine ex_b (b := ?d) ?e ?h; (case e => with_unfolding_all rfl))
  | (refine ex_l (ds := ?d) ?e ?h; (case e => with_unfolding_all rfl))
  | refine o_enum ?_ | refine o_enumT ?_ | refine o_zip ?_ | refine o_zipM ?_ | refine o_rng1 ?_ | refine o_rng2 ?_
  | refine o_bor ?_ | refine o_borF ?_ | refine o_borT ?_
  | tm_at "spec")
local macro_rules | `(tactic| tm_at "pw") => `(tactic| repeat' (tm_at "pw1"))
local macro_rules | `(tactic| tm_at "pw1j") => `(tactic| with_reducible first
  | refine s_seq ?_
  | refine o_op ?_
  | (refine o_var (d := ?d) ?e ?h; (case e => with_unfolding_all rfl))
  | tm_at "cst"
  | refine o_c ?_
  | refine o_cl ?_
  | refine o_cons ?_
  | refine o_nil ?_
  | refine s_set ?_
  | (refine s_own (by simp only [List.length_cons, List.length_nil, List.length_set]; omega) ?_)
  | refine s_ret ?_
  | refine s_if ?_
  | refine s_nop ?_
  | refine s_kill ?_
  | refine s_for ?_
  | refine o_it ?_
  | refine o_itl ?_
  | refine o_itt ?_
  | refine o_tup ?_
  | refine o_lst ?_
  | (refine And.intro (a := List.length _ ≤ sizeLine) (by tm_at "len") ?_)
  | refine o_t ?_
  | refine o_asB ?_
  | refine o_g1 ?_
  | refine w_t ?_
  | refine w_f ?_
  | refine w_nt ?_
  | refine w_nf ?_
  | refine o_not ?_
  | refine o_notT ?_
  | refine o_and ?_
  | refine o_or ?_
  | refine o_un ?_
  | refine o_yes ?_
  | refine o_ch ?_
  | (refine o_callB ?_)
  | refine o_ixo ?_
  | refine o_sl ?_
  | refine o_noO ?_
  | refine o_someO ?_
  | refine o_name ?_
  | refine o_tupG ?_
  | refine o_consG ?_
  | refine o_nilG ?_
  | refine s_par ?_
  | (refine s_parM ?e ?h; (case e => with_unfolding_all rfl))
  | refine s_setG ?_
  | refine s_drop ?_
  | (refine s_retO (d := ?d) ?e ?h; (case e => with_unfolding_all rfl))
  | (refine s_mut (ds0 := ?d) ?e ?h; (case e => with_unfolding_all rfl))
  | (refine s_ins (ds0 := ?d) ?e ?h; (case e => with_unfolding_all rfl))
  | refine s_seti ?_
  | (refine s_aug (d := ?d) ?e ?h; (case e => with_unfolding_all rfl))
  | refine p_add ?_ | refine p_sub ?_ | refine p_lt ?_ | refine p_le ?_ | refine p_gt ?_ | refine p_ge ?_ | refine p_eq ?_ | refine p_ne ?_ | refine p_neg ?_ | refine p_abs ?_
  | refine p_intI ?_ | refine p_intB ?_ | refine p_lenL ?_ | refine p_lenT ?_ | refine p_tupL ?_ | refine p_tupT ?_ | refine p_lstL ?_ | refine p_lstT ?_ | refine p_isN ?_ | refine p_notN ?_
  | refine ex_two ?_
  | refine ex_int ?_ | refine ex_list ?_ | refine ex_tup ?_
  | (refine ex_ixo (ds := ?d) ?e ?h; (case e => with_unfolding_all rfl))
  | (refine ex_b (b := ?d) ?e ?h; (case e => with_unfolding_all rfl))
  | (refine ex_l (ds := ?d) ?e ?h; (case e => with_unfolding_all rfl))
  | refine o_enum ?_ | refine o_enumT ?_ | refine o_zip ?_ | refine o_zipM ?_ | refine o_rng1 ?_ | refine o_rng2 ?_
  | refine o_bor ?_ | refine o_borF ?_ | refine o_borT ?_
  | tm_at "spec")
local macro_rules | `(tactic| tm_at "pwj") => `(tactic| repeat' (tm_at "pw1j"))

local macro_rules | `(tactic| tm_at "cst") => `(tactic| with_reducible first | refine o_t01 ?_ | refine o_t11 ?_ | refine o_t21 ?_)
local macro_rules | `(tactic| tm_at "spec") => `(tactic| with_reducible first | refine p_fq0 ?_ | refine p_fq1 ?_ | refine p_two0 ?_ | refine p_two1 ?_ | refine p_hd0 ?_ | refine p_hdL0 ?_ | refine p_eqfq ?_ | refine p_nefq ?_)
local macro_rules | `(tactic| tm_at "run") => `(tactic| (refine ok_run ?_; (first | rw [env1] | rw [env2] | rw [env3] | rw [env0] | rw [env4] | rw [env5]); simp only [List.replicate_succ, List.replicate_zero]))
local macro_rules | `(tactic| tm_at "runF") => `(tactic| (refine ok_runF ?_; (first | rw [env1] | rw [env2] | rw [env3] | rw [env0] | rw [env4] | rw [env5]); simp only [List.replicate_succ, List.replicate_zero]))
local macro_rules | `(tactic| tm_at "runB") => `(tactic| (refine ok_runB ?_; (first | rw [env1] | rw [env2] | rw [env3] | rw [env0] | rw [env4] | rw [env5]); simp only [List.replicate_succ, List.replicate_zero]))
local macro_rules | `(tactic| tm_at "runBF") => `(tactic| (refine ok_runBF ?_; (first | rw [env1] | rw [env2] | rw [env3] | rw [env0] | rw [env4] | rw [env5]); simp only [List.replicate_succ, List.replicate_zero]))

/-! ## a text is read -/
def sgn (a : List Nat) (n : Nat) : Int := if a.take 1 = [45] then -(n : Int) else n
/-- what a text stands for -/
def readT (a : List Nat) : Option Rat :=
  if (pts (bodyT a)).length ≤ 2 ∧ (pts (bodyT a)).all okP = true then
    (match pts (bodyT a) with
    | [p] => if textL (Rat.divInt (sgn a (dv p)) 1) = a then some (Rat.divInt (sgn a (dv p)) 1) else none
    | [p, r] => if dv r = 0 then none else if textL (Rat.divInt (sgn a (dv p)) (dv r : Nat)) = a then some (Rat.divInt (sgn a (dv p)) (dv r : Nat)) else none
    | _ => none)
  else none
def rdD (a : List Nat) : D := match readT a with
  | none => .none
  | some q => fq q
theorem divInt40 {n : Int} {d : Nat} (hn : B40 n) (h0 : 0 < d) (hd : d < 10 ^ 40) : F40 (Rat.divInt n (d : Nat)) := by
  constructor
  · rw [Rat.num_divInt]
    have e : ((d : Int).sign * n / (Int.gcd (d : Int) n : Nat)).natAbs ≤ n.natAbs := by
      rw [Int.sign_eq_one_of_pos (by omega), Int.one_mul]
      exact Int.natAbs_ediv_le_natAbs n _
    exact Nat.lt_of_le_of_lt e hn
  · rw [Rat.den_divInt, if_neg (by omega)]
    show (((_ : Nat) : Int)).natAbs < _
    rw [Int.natAbs_natCast]
    exact Nat.lt_of_le_of_lt (Nat.div_le_self _ _) (by simpa using hd)
theorem sgn40 {a : List Nat} {p : List Nat} (h : okP p = true) : B40 (sgn a (dv p)) := by
  have := dv_lt h
  unfold sgn B40
  split <;> omega
theorem body_len (a : List Nat) : (bodyT a).length ≤ a.length := by
  unfold bodyT
  split
  · simp
  · exact Nat.le_refl _
theorem pts_plen (a : List Nat) : ∀ p ∈ pts a, p.length ≤ a.length := by
  have h : ∀ (n : Nat) (a : List Nat), a.length ≤ n → ∀ p ∈ pts a, p.length ≤ a.length := fun n => by
    induction n with
    | zero =>
      intro a ha p hp
      rcases cut_at a with k | ⟨p', q, rfl, k⟩
      · rw [pts_one k, List.mem_singleton] at hp; rw [hp]; exact Nat.le_refl _
      · simp at ha
    | succ n ih =>
      intro a ha p hp
      rcases cut_at a with k | ⟨p', q, rfl, k⟩
      · rw [pts_one k, List.mem_singleton] at hp; rw [hp]; exact Nat.le_refl _
      · rw [pts_cut q k] at hp
        simp only [List.length_append, List.length_cons] at ha ⊢
        rcases List.mem_cons.mp hp with rfl | hp
        · omega
        · have := ih q (by omega) p hp; omega
  exact h _ a (Nat.le_refl _)
theorem fin_eq {a : List Nat} (l : a.length ≤ 300) : F_fraction_in [Tx0 a] = some (rdD a) := by
  have bl := body_len a
  have pl := pts_len (bodyT a)
  have pp := pts_plen (bodyT a)
  refine ok_get ?_
  unfold F_fraction_in S_fraction_in
  tm_at "run"
  tm_at "pwj"
  refine oke_mono (P := fun d ρ1 => ρ1 = [some (Tx0 a), none, none, none, none, none, none] ∧ d = Tx0 (bodyT a)) ?_ ?_
  · refine o_if ?_
    tm_at "pw"
    refine p_to1 (by omega) ?_
    tm_at "pw"
    refine p_seq (b := [45]) ?_
    tm_at "pw"
    unfold bodyT
    refine w_d (fun z => ?_) fun z => ?_
    · tm_at "pw"
      refine p_from1 (by omega) ?_
      rw [if_pos z]
      exact ⟨rfl, rfl⟩
    · tm_at "pw"
      rw [if_neg z]
      exact ⟨rfl, rfl⟩
  · rintro d ρ1 ⟨rfl, rfl⟩
    tm_at "pw"
    refine p_split (by omega) ?_
    tm_at "pw"
    rw [List.length_map]
    unfold rdD readT
    refine w_d (fun z => ?_) fun z => ?_
    · tm_at "pw"
      rw [if_neg (fun k => by omega)]
    · tm_at "pw"
      refine o_compAll (xs := pts (bodyT a)) (e := Tx0) (fun p => .bool (okP p)) rfl (fun p hp => ?_) ?_
      · tm_at "pw"
        refine ⟨rfl, ?_⟩
        tm_at "pw"
        refine ok_eq (number_text_eq (by have := pp p hp; omega)) ?_
        tm_at "pw"
        exact ⟨rfl, rfl⟩
      tm_at "pw"
      refine p_allD ?_
      tm_at "pw"
      cases ok : (pts (bodyT a)).all okP with
      | false =>
        tm_at "pw"
        rw [if_neg (fun k => Bool.false_ne_true k.2)]
      | true =>
        tm_at "pw"
        rw [if_pos ⟨by omega, rfl⟩]
        have okm : ∀ p ∈ pts (bodyT a), okP p = true := fun p hp => List.all_eq_true.mp ok p hp
        obtain ⟨p, r, e, -⟩ := pts_ne (bodyT a)
        rw [e] at okm z ⊢
        have okp := okm p List.mem_cons_self
        have sg := sgn40 (a := a) okp
        rcases r with _ | ⟨s, _ | ⟨s2, r⟩⟩
        · rw [List.map_cons, List.map_nil]
          tm_at "pwj"
          refine p_intS okp ?_
          tm_at "pw"
          refine w_d (fun k => absurd k (by simp)) fun k => ?_
          tm_at "pw"
          refine w_d (fun k => absurd k (by decide)) fun k => ?_
          · skip
            tm_at "pwj"
            refine oke_mono (P := fun d ρ1 => ρ1 = [some (Tx0 a), some (Tx0 (bodyT a)), some (.list ([Tx0 p])), some (.int (dv p : Nat)), some (.int 1), none, none] ∧ d = .int (sgn a (dv p))) ?_ ?_
            · refine o_if ?_
              tm_at "pw"
              refine p_to1 (by omega) ?_
              tm_at "pw"
              refine p_seq (b := [45]) ?_
              tm_at "pw"
              unfold sgn
              refine w_d (fun k => ?_) fun k => ?_
              · tm_at "pw"
                rw [if_pos k, Int.zero_sub]
                exact ⟨rfl, rfl⟩
              · tm_at "pw"
                rw [if_neg k]
                exact ⟨rfl, rfl⟩
            · rintro d ρ1 ⟨rfl, rfl⟩
              tm_at "pw"
              refine ok_eq (red_eq _ _ (by decide) (by decide)) ?_
              tm_at "pw"
              refine ok_eq (ftext_eq (divInt40 (d := 1) sg (by omega) (by decide))) ?_
              tm_at "pw"
              refine p_seq ?_
              tm_at "pw"
              refine w_d (fun k => ?_) fun k => ?_
              · tm_at "pw"
                simp only [if_pos k]
              · tm_at "pw"
                simp only [if_neg k]
        · have oks := okm s (List.mem_cons_of_mem _ List.mem_cons_self)
          rw [List.map_cons, List.map_cons, List.map_nil]
          tm_at "pwj"
          refine p_intS okp ?_
          tm_at "pw"
          refine w_d (fun k => ?_) fun k => absurd (by simp) k
          tm_at "pw"
          refine p_lastL (d := Tx0 s) rfl ?_
          tm_at "pw"
          refine p_intS oks ?_
          tm_at "pw"
          refine w_d (fun k0 => ?_) fun k0 => ?_
          · tm_at "pw"
            simp only [if_pos (show dv s = 0 by omega)]
          · have k0 : ¬ dv s = 0 := by omega
            tm_at "pwj"
            refine oke_mono (P := fun d ρ1 => ρ1 = [some (Tx0 a), some (Tx0 (bodyT a)), some (.list ([Tx0 p, Tx0 s])), some (.int (dv p : Nat)), some (.int (dv s : Nat)), none, none] ∧ d = .int (sgn a (dv p))) ?_ ?_
            · refine o_if ?_
              tm_at "pw"
              refine p_to1 (by omega) ?_
              tm_at "pw"
              refine p_seq (b := [45]) ?_
              tm_at "pw"
              unfold sgn
              refine w_d (fun k => ?_) fun k => ?_
              · tm_at "pw"
                rw [if_pos k, Int.zero_sub]
                exact ⟨rfl, rfl⟩
              · tm_at "pw"
                rw [if_neg k]
                exact ⟨rfl, rfl⟩
            · rintro d ρ1 ⟨rfl, rfl⟩
              tm_at "pw"
              refine ok_eq (red_eq _ _ (by omega) (by rw [Int.natAbs_natCast]; exact Nat.lt_of_le_of_lt (log2_of (Nat.lt_of_lt_of_le (dv_lt oks) (by decide : 10 ^ 40 ≤ 2 ^ 133))) (by decide))) ?_
              tm_at "pw"
              refine ok_eq (ftext_eq (divInt40 (d := dv s) sg (by omega) (dv_lt oks))) ?_
              tm_at "pw"
              refine p_seq ?_
              tm_at "pw"
              refine w_d (fun k => ?_) fun k => ?_
              · tm_at "pw"
                simp only [if_neg k0, if_pos k]
              · tm_at "pw"
                simp only [if_neg k0, if_neg k]
        · simp at z
          omega
end Lay

namespace Lay
open PySem PySem.Spec PyProof.Rows L2
local macro_rules | `(tactic| tm_at "len") => `(tactic| first | (simp only [List.length_cons, List.length_nil, sizeLine]; omega) | (simp [sizeLine]; omega) | (simp [sizeLine]; done))
local macro_rules | `(tactic| tm_at "pw1") => `(tactic| with_reducible first
  | refine s_seq ?_
  | refine o_op ?_
  | (refine o_var (d := ?d) ?e ?h; (case e => with_unfolding_all rfl))
  | tm_at "cst"
  | refine o_c ?_
  | refine o_cl ?_
  | refine o_cons ?_
  | refine o_nil ?_
  | refine s_set ?_
  | (refine s_own (by simp only [List.length_cons, List.length_nil, List.length_set]; omega) ?_)
  | refine s_ret ?_
  | refine s_if ?_
  | refine s_nop ?_
  | refine s_kill ?_
  | refine s_for ?_
  | refine o_it ?_
  | refine o_itl ?_
  | refine o_itt ?_
  | refine o_tup ?_
  | refine o_lst ?_
  | (refine And.intro (a := List.length _ ≤ sizeLine) (by tm_at "len") ?_)
  | refine o_t ?_
  | refine o_asB ?_
  | refine o_g1 ?_
  | refine o_if ?_
  | refine w_t ?_
  | refine w_f ?_
  | refine w_nt ?_
  | refine w_nf ?_
  | refine o_not ?_
  | refine o_notT ?_
  | refine o_and ?_
  | refine o_or ?_
  | refine o_un ?_
  | refine o_yes ?_
  | refine o_ch ?_
  | (refine o_callB ?_)
  | refine o_ixo ?_
  | refine o_sl ?_
  | refine o_noO ?_
  | refine o_someO ?_
  | refine o_name ?_
  | refine o_tupG ?_
  | refine o_consG ?_
  | refine o_nilG ?_
  | refine s_par ?_
  | (refine s_parM ?e ?h; (case e => with_unfolding_all rfl))
  | refine s_setG ?_
  | refine s_drop ?_
  | (refine s_retO (d := ?d) ?e ?h; (case e => with_unfolding_all rfl))
  | (refine s_mut (ds0 := ?d) ?e ?h; (case e => with_unfolding_all rfl))
  | (refine s_ins (ds0 := ?d) ?e ?h; (case e => with_unfolding_all rfl))
  | refine s_seti ?_
  | (refine s_aug (d := ?d) ?e ?h; (case e => with_unfolding_all rfl))
  | refine p_add ?_ | refine p_sub ?_ | refine p_lt ?_ | refine p_le ?_ | refine p_gt ?_ | refine p_ge ?_ | refine p_eq ?_ | refine p_ne ?_ | refine p_neg ?_ | refine p_abs ?_
  | refine p_intI ?_ | refine p_intB ?_ | refine p_lenL ?_ | refine p_lenT ?_ | refine p_tupL ?_ | refine p_tupT ?_ | refine p_lstL ?_ | refine p_lstT ?_ | refine p_isN ?_ | refine p_notN ?_
  | refine ex_two ?_
  | refine ex_int ?_ | refine ex_list ?_ | refine ex_tup ?_
  | (refine ex_ixo (ds := ?d) ?e ?h; (case e => with_unfolding_all rfl))
  | (refine ex_b (b := ?d) ?e ?h; (case e => with_unfolding_all rfl))
  | (refine ex_l (ds := ?d) ?e ?h; (case e => with_unfolding_all rfl))
  | refine o_enum ?_ | refine o_enumT ?_ | refine o_zip ?_ | refine o_zipM ?_ | refine o_rng1 ?_ | refine o_rng2 ?_
  | refine o_bor ?_ | refine o_borF ?_ | refine o_borT ?_
  | tm_at "spec")
local macro_rules | `(tactic| tm_at "pw") => `(tactic| repeat' (tm_at "pw1"))
local macro_rules | `(tactic| tm_at "pw1j") => `(tactic| with_reducible first
  | refine s_seq ?_
  | refine o_op ?_
  | (refine o_var (d := ?d) ?e ?h; (case e => with_unfolding_all rfl))
  | tm_at "cst"
  | refine o_c ?_
  | refine o_cl ?_
  | refine o_cons ?_
  | refine o_nil ?_
  | refine s_set ?_
  | (refine s_own (by simp only [List.length_cons, List.length_nil, List.length_set]; omega) ?_)
  | refine s_ret ?_
  | refine s_if ?_
  | refine s_nop ?_
  | refine s_kill ?_
  | refine s_for ?_
  | refine o_it ?_
  | refine o_itl ?_
  | refine o_itt ?_
  | refine o_tup ?_
  | refine o_lst ?_
  | (refine And.intro (a := List.length _ ≤ sizeLine) (by tm_at "len") ?_)
  | refine o_t ?_
  | refine o_asB ?_
  | refine o_g1 ?_
  | refine w_t ?_
  | refine w_f ?_
  | refine w_nt ?_
  | refine w_nf ?_
  | refine o_not ?_
  | refine o_notT ?_
  | refine o_and ?_
  | refine o_or ?_
  | refine o_un ?_
  | refine o_yes ?_
  | refine o_ch ?_
  | (refine o_callB ?_)
  | refine o_ixo ?_
  | refine o_sl ?_
  | refine o_noO ?_
  | refine o_someO ?_
  | refine o_name ?_
  | refine o_tupG ?_
  | refine o_consG ?_
  | refine o_nilG ?_
  | refine s_par ?_
  | (refine s_parM ?e ?h; (case e => with_unfolding_all rfl))
  | refine s_setG ?_
  | refine s_drop ?_
  | (refine s_retO (d := ?d) ?e ?h; (case e => with_unfolding_all rfl))
  | (refine s_mut (ds0 := ?d) ?e ?h; (case e => with_unfolding_all rfl))
  | (refine s_ins (ds0 := ?d) ?e ?h; (case e => with_unfolding_all rfl))
  | refine s_seti ?_
  | (refine s_aug (d := ?d) ?e ?h; (case e => with_unfolding_all rfl))
  | refine p_add ?_ | refine p_sub ?_ | refine p_lt ?_ | refine p_le ?_ | refine p_gt ?_ | refine p_ge ?_ | refine p_eq ?_ | refine p_ne ?_ | refine p_neg ?_ | refine p_abs ?_
  | refine p_intI ?_ | refine p_intB ?_ | refine p_lenL ?_ | refine p_lenT ?_ | refine p_tupL ?_ | refine p_tupT ?_ | refine p_lstL ?_ | refine p_lstT ?_ | refine p_isN ?_ | refine p_notN ?_
  | refine ex_two ?_
  | refine ex_int ?_ | refine ex_list ?_ | refine ex_tup ?_
  | (refine ex_ixo (ds := ?d) ?e ?h; (case e => with_unfolding_all rfl))
  | (refine ex_b (b := ?d) ?e ?h; (case e => with_unfolding_all rfl))
  | (refine ex_l (ds := ?d) ?e ?h; (case e => with_unfolding_all rfl))
  | refine o_enum ?_ | refine o_enumT ?_ | refine o_zip ?_ | refine o_zipM ?_ | refine o_rng1 ?_ | refine o_rng2 ?_
  | refine o_bor ?_ | refine o_borF ?_ | refine o_borT ?_
  | tm_at "spec")
local macro_rules | `(tactic| tm_at "pwj") => `(tactic| repeat' (tm_at "pw1j"))

local macro_rules | `(tactic| tm_at "cst") => `(tactic| with_reducible first | refine o_t01 ?_ | refine o_t11 ?_ | refine o_t21 ?_)
local macro_rules | `(tactic| tm_at "spec") => `(tactic| with_reducible first | refine p_fq0 ?_ | refine p_fq1 ?_ | refine p_two0 ?_ | refine p_two1 ?_ | refine p_hd0 ?_ | refine p_hdL0 ?_ | refine p_eqfq ?_ | refine p_nefq ?_)
local macro_rules | `(tactic| tm_at "run") => `(tactic| (refine ok_run ?_; (first | rw [env1] | rw [env2] | rw [env3] | rw [env0] | rw [env4] | rw [env5]); simp only [List.replicate_succ, List.replicate_zero]))
local macro_rules | `(tactic| tm_at "runF") => `(tactic| (refine ok_runF ?_; (first | rw [env1] | rw [env2] | rw [env3] | rw [env0] | rw [env4] | rw [env5]); simp only [List.replicate_succ, List.replicate_zero]))
local macro_rules | `(tactic| tm_at "runB") => `(tactic| (refine ok_runB ?_; (first | rw [env1] | rw [env2] | rw [env3] | rw [env0] | rw [env4] | rw [env5]); simp only [List.replicate_succ, List.replicate_zero]))
local macro_rules | `(tactic| tm_at "runBF") => `(tactic| (refine ok_runBF ?_; (first | rw [env1] | rw [env2] | rw [env3] | rw [env0] | rw [env4] | rw [env5]); simp only [List.replicate_succ, List.replicate_zero]))

theorem ne_nilL {ds : List D} {k : Nat} {Q : D → Prop} (h : ∀ d ∈ ds, Sh k d) (hk : k + 1 ≤ 64) (q : Q (.bool (!ds.isEmpty))) : Ok (neD (.list ds) (.list [])) Q := ⟨_, by
  unfold neD
  rw [eqB_sh (sh_list h) (sh_list (k := 0) fun d hd => (List.not_mem_nil hd).elim) hk (by decide) (fun a z => by cases z)]
  rfl, by
    have e : PyData.eqv (.list ds) (.list []) = ds.isEmpty := by cases ds <;> simp [PyData.eqv, PyData.eqvAll]
    rw [e]
    exact q⟩
/-- code points -/
def Cps (a : List Nat) : Prop := ∀ c ∈ a, c < 1114112
theorem sh_T {a : List Nat} (h : Cps a) : Sh 0 (Tx0 a) := ⟨by
  simp only [PyData.canLay0, PyData.strOk]
  rw [List.all_toArray]
  exact List.all_eq_true.mpr fun c hc => by simpa using h c hc, by simp [PyData.depth]⟩
theorem head_pts (a : List Nat) : ∃ p r, pts (bodyT a) = p :: r ∧ (a.take 1 = [45] ∧ pts a = (45 :: p) :: r ∨ a.take 1 ≠ [45] ∧ p.take 1 ≠ [45] ∧ pts a = p :: r) := by
  obtain ⟨p, r, e, s, es⟩ := pts_ne (bodyT a)
  refine ⟨p, r, e, ?_⟩
  by_cases k : a.take 1 = [45]
  · left
    have eb : bodyT a = a.drop 1 := by unfold bodyT; rw [if_pos k]
    refine ⟨k, ?_⟩
    have ea : a = 45 :: a.drop 1 := by
      rcases a with _ | ⟨c, a⟩
      · cases k
      · simp at k
        rw [k]
        rfl
    rw [eb] at e
    have := pts_minus e
    rw [← ea] at this
    exact this
  · right
    have eb : bodyT a = a := by unfold bodyT; rw [if_neg k]
    rw [eb] at e es
    refine ⟨k, fun z => k ?_, e⟩
    rcases p with _ | ⟨c, p⟩
    · cases z
    · rw [es]
      simpa using z
theorem zipIdx_fst {α : Type} (f : α → D) : ∀ (l : List α) (n : Nat), (l.zipIdx n).map (fun q => f q.1) = l.map f
  | [], _ => rfl
  | x :: l, n => by
    rw [List.zipIdx_cons, List.map_cons, List.map_cons, zipIdx_fst f l (n + 1)]
theorem strip_eq (a : List Nat) : ((pts a).zipIdx.map fun q => Tx0 (if q.2 = 0 ∧ q.1.take 1 = [45] then q.1.drop 1 else q.1)) = (pts (bodyT a)).map Tx0 := by
  obtain ⟨p, r, e, h⟩ := head_pts a
  have rest : ∀ (l : List (List Nat)), ((l.zipIdx 1).map fun q => Tx0 (if q.2 = 0 ∧ q.1.take 1 = [45] then q.1.drop 1 else q.1)) = l.map Tx0 := fun l => by
    rw [← zipIdx_fst Tx0 l 1]
    refine List.map_congr_left fun q hq => ?_
    have := List.mem_zipIdx (x := q.1) (i := q.2) hq
    rw [if_neg (fun z => by omega)]
  rw [e]
  rcases h with ⟨_, h⟩ | ⟨_, k, h⟩
  · rw [h, List.zipIdx_cons, List.map_cons, List.map_cons]
    rw [show 0 + 1 = 1 from rfl, rest]
    rw [if_pos (by simp)]
    rfl
  · rw [h, List.zipIdx_cons, List.map_cons, List.map_cons]
    rw [show 0 + 1 = 1 from rfl, rest]
    rw [if_neg (fun z => k z.2)]
theorem cop_nd {n : Int} {d : Nat} (h : Int.gcd n d = 1) (h0 : 0 < d) : (Rat.divInt n (d : Nat)).num = n ∧ (Rat.divInt n (d : Nat)).den = d := by
  have g : Int.gcd (d : Int) n = 1 := by rw [Int.gcd_comm]; exact h
  constructor
  · rw [Rat.num_divInt, g, Int.sign_eq_one_of_pos (by omega)]
    simp
  · rw [Rat.den_divInt, if_neg (by omega), g]
    simp
theorem pts_txt {n : Int} {d : Nat} (h : d ≠ 1) : pts (txt n d) = [numZ n, TL.numL d] := by
  unfold txt
  rw [if_neg (by omega), pts_cut _ (numZ_free n), show numZ (d : Int) = TL.numL d by
    unfold numZ
    rw [if_neg (by omega), Int.natAbs_natCast], pts_one (TL.numL_free (by omega))]
theorem pts_txt1 {n : Int} : pts (txt n 1) = [numZ n] := by
  unfold txt
  rw [if_pos rfl, List.append_nil, pts_one (numZ_free n)]
/-- what is read of a text of two parts -/
theorem two_read {a h s : List Nat} {n : Int} (e : pts a = [h, s]) (d0 : dv s ≠ 0) : (textL (Rat.divInt n (dv s : Nat)) = a ↔ dv s ≠ 1 ∧ Int.gcd n (dv s : Nat) = 1 ∧ txt n (dv s : Nat) = a) := by
  constructor
  · intro k
    unfold textL at k
    have dn : (Rat.divInt n (dv s : Nat)).den = dv s / Int.gcd (dv s : Int) n := by rw [Rat.den_divInt, if_neg (by omega)]; rfl
    by_cases z : (Rat.divInt n (dv s : Nat)).den = 1
    · rw [z] at k
      have := pts_txt1 (n := (Rat.divInt n (dv s : Nat)).num)
      have k : txt (Rat.divInt n (dv s : Nat)).num 1 = a := k
      rw [k, e] at this
      cases this
    · have := pts_txt (n := (Rat.divInt n (dv s : Nat)).num) z
      rw [k, e] at this
      simp only [List.cons.injEq, and_true] at this
      have v : dv s = (Rat.divInt n (dv s : Nat)).den := by
        have := congrArg dv this.2
        rw [show dv (TL.numL (Rat.divInt n (dv s : Nat)).den) = (Rat.divInt n (dv s : Nat)).den from TL.numL_val _] at this
        exact this
      have g : Int.gcd (dv s : Int) n = 1 := by
        rw [dn] at v
        have gd : 0 < Int.gcd (dv s : Int) n := Int.gcd_pos_of_ne_zero_left _ (by omega)
        rcases Nat.lt_or_ge 1 (Int.gcd (dv s : Int) n) with q | q
        · have := Nat.div_lt_self (show 0 < dv s by omega) q
          omega
        · omega
      have g' : Int.gcd n (dv s : Nat) = 1 := by rw [Int.gcd_comm]; exact g
      have := cop_nd g' (by omega)
      refine ⟨fun y => z (by rw [this.2]; exact y), g', ?_⟩
      rw [this.1, this.2] at k
      exact k
  · rintro ⟨_, g, k⟩
    have := cop_nd g (by omega)
    unfold textL
    rw [this.1, this.2]
    exact k
end Lay

namespace Lay
open PySem PySem.Spec PyProof.Rows L2
local macro_rules | `(tactic| tm_at "len") => `(tactic| first | (simp only [List.length_cons, List.length_nil, sizeLine]; omega) | (simp [sizeLine]; omega) | (simp [sizeLine]; done))
local macro_rules | `(tactic| tm_at "pw1") => `(tactic| with_reducible first
  | refine s_seq ?_
  | refine o_op ?_
  | (refine o_var (d := ?d) ?e ?h; (case e => with_unfolding_all rfl))
  | tm_at "cst"
  | refine o_c ?_
  | refine o_cl ?_
  | refine o_cons ?_
  | refine o_nil ?_
  | refine s_set ?_
  | (refine s_own (by simp only [List.length_cons, List.length_nil, List.length_set]; omega) ?_)
  | refine s_ret ?_
  | refine s_if ?_
  | refine s_nop ?_
  | refine s_kill ?_
  | refine s_for ?_
  | refine o_it ?_
  | refine o_itl ?_
  | refine o_itt ?_
  | refine o_tup ?_
  | refine o_lst ?_
  | (refine And.intro (a := List.length _ ≤ sizeLine) (by tm_at "len") ?_)
  | refine o_t ?_
  | refine o_asB ?_
  | refine o_g1 ?_
  | refine o_if ?_
  | refine w_t ?_
  | refine w_f ?_
  | refine w_nt ?_
  | refine w_nf ?_
  | refine o_not ?_
  | refine o_notT ?_
  | refine o_and ?_
  | refine o_or ?_
  | refine o_un ?_
  | refine o_yes ?_
  | refine o_ch ?_
  | (refine o_callB ?_)
  | refine o_ixo ?_
  | refine o_sl ?_
  | refine o_noO ?_
  | refine o_someO ?_
  | refine o_name ?_
  | refine o_tupG ?_
  | refine o_consG ?_
  | refine o_nilG ?_
  | refine s_par ?_
  | (refine s_parM ?e ?h; (case e => with_unfolding_all rfl))
  | refine s_setG ?_
  | refine s_drop ?_
  | (refine s_retO (d := ?d) ?e ?h; (case e => with_unfolding_all rfl))
  | (refine s_mut (ds0 := ?d) ?e ?h; (case e => with_unfolding_all rfl))
  | (refine s_ins (ds0 := ?d) ?e ?h; (case e => with_unfolding_all rfl))
  | refine s_seti ?_
  | (refine s_aug (d := ?d) ?e ?h; (case e => with_unfolding_all rfl))
  | refine p_add ?_ | refine p_sub ?_ | refine p_lt ?_ | refine p_le ?_ | refine p_gt ?_ | refine p_ge ?_ | refine p_eq ?_ | refine p_ne ?_ | refine p_neg ?_ | refine p_abs ?_
  | refine p_intI ?_ | refine p_intB ?_ | refine p_lenL ?_ | refine p_lenT ?_ | refine p_tupL ?_ | refine p_tupT ?_ | refine p_lstL ?_ | refine p_lstT ?_ | refine p_isN ?_ | refine p_notN ?_
  | refine ex_two ?_
  | refine ex_int ?_ | refine ex_list ?_ | refine ex_tup ?_
  | (refine ex_ixo (ds := ?d) ?e ?h; (case e => with_unfolding_all rfl))
  | (refine ex_b (b := ?d) ?e ?h; (case e => with_unfolding_all rfl))
  | (refine ex_l (ds := ?d) ?e ?h; (case e => with_unfolding_all rfl))
  | refine o_enum ?_ | refine o_enumT ?_ | refine o_zip ?_ | refine o_zipM ?_ | refine o_rng1 ?_ | refine o_rng2 ?_
  | refine o_bor ?_ | refine o_borF ?_ | refine o_borT ?_
  | tm_at "spec")
local macro_rules | `(tactic| tm_at "pw") => `(tactic| repeat' (tm_at "pw1"))
local macro_rules | `(tactic| tm_at "pw1j") => `(tactic| with_reducible first
  | refine s_seq ?_
  | refine o_op ?_
  | (refine o_var (d := ?d) ?e ?h; (case e => with_unfolding_all rfl))
  | tm_at "cst"
  | refine o_c ?_
  | refine o_cl ?_
  | refine o_cons ?_
  | refine o_nil ?_
  | refine s_set ?_
  | (refine s_own (by simp only [List.length_cons, List.length_nil, List.length_set]; omega) ?_)
  | refine s_ret ?_
  | refine s_if ?_
  | refine s_nop ?_
  | refine s_kill ?_
  | refine s_for ?_
  | refine o_it ?_
  | refine o_itl ?_
  | refine o_itt ?_
  | refine o_tup ?_
  | refine o_lst ?_
  | (refine And.intro (a := List.length _ ≤ sizeLine) (by tm_at "len") ?_)
  | refine o_t ?_
  | refine o_asB ?_
  | refine o_g1 ?_
  | refine w_t ?_
  | refine w_f ?_
  | refine w_nt ?_
  | refine w_nf ?_
  | refine o_not ?_
  | refine o_notT ?_
  | refine o_and ?_
  | refine o_or ?_
  | refine o_un ?_
  | refine o_yes ?_
  | refine o_ch ?_
  | (refine o_callB ?_)
  | refine o_ixo ?_
  | refine o_sl ?_
  | refine o_noO ?_
  | refine o_someO ?_
  | refine o_name ?_
  | refine o_tupG ?_
  | refine o_consG ?_
  | refine o_nilG ?_
  | refine s_par ?_
  | (refine s_parM ?e ?h; (case e => with_unfolding_all rfl))
  | refine s_setG ?_
  | refine s_drop ?_
  | (refine s_retO (d := ?d) ?e ?h; (case e => with_unfolding_all rfl))
  | (refine s_mut (ds0 := ?d) ?e ?h; (case e => with_unfolding_all rfl))
  | (refine s_ins (ds0 := ?d) ?e ?h; (case e => with_unfolding_all rfl))
  | refine s_seti ?_
  | (refine s_aug (d := ?d) ?e ?h; (case e => with_unfolding_all rfl))
  | refine p_add ?_ | refine p_sub ?_ | refine p_lt ?_ | refine p_le ?_ | refine p_gt ?_ | refine p_ge ?_ | refine p_eq ?_ | refine p_ne ?_ | refine p_neg ?_ | refine p_abs ?_
  | refine p_intI ?_ | refine p_intB ?_ | refine p_lenL ?_ | refine p_lenT ?_ | refine p_tupL ?_ | refine p_tupT ?_ | refine p_lstL ?_ | refine p_lstT ?_ | refine p_isN ?_ | refine p_notN ?_
  | refine ex_two ?_
  | refine ex_int ?_ | refine ex_list ?_ | refine ex_tup ?_
  | (refine ex_ixo (ds := ?d) ?e ?h; (case e => with_unfolding_all rfl))
  | (refine ex_b (b := ?d) ?e ?h; (case e => with_unfolding_all rfl))
  | (refine ex_l (ds := ?d) ?e ?h; (case e => with_unfolding_all rfl))
  | refine o_enum ?_ | refine o_enumT ?_ | refine o_zip ?_ | refine o_zipM ?_ | refine o_rng1 ?_ | refine o_rng2 ?_
  | refine o_bor ?_ | refine o_borF ?_ | refine o_borT ?_
  | tm_at "spec")
local macro_rules | `(tactic| tm_at "pwj") => `(tactic| repeat' (tm_at "pw1j"))

local macro_rules | `(tactic| tm_at "cst") => `(tactic| with_reducible first | refine o_t01 ?_ | refine o_t11 ?_ | refine o_t21 ?_)
local macro_rules | `(tactic| tm_at "spec") => `(tactic| with_reducible first | refine p_fq0 ?_ | refine p_fq1 ?_ | refine p_two0 ?_ | refine p_two1 ?_ | refine p_hd0 ?_ | refine p_hdL0 ?_ | refine p_eqfq ?_ | refine p_nefq ?_)
local macro_rules | `(tactic| tm_at "run") => `(tactic| (refine ok_run ?_; (first | rw [env1] | rw [env2] | rw [env3] | rw [env0] | rw [env4] | rw [env5]); simp only [List.replicate_succ, List.replicate_zero]))
local macro_rules | `(tactic| tm_at "runF") => `(tactic| (refine ok_runF ?_; (first | rw [env1] | rw [env2] | rw [env3] | rw [env0] | rw [env4] | rw [env5]); simp only [List.replicate_succ, List.replicate_zero]))
local macro_rules | `(tactic| tm_at "runB") => `(tactic| (refine ok_runB ?_; (first | rw [env1] | rw [env2] | rw [env3] | rw [env0] | rw [env4] | rw [env5]); simp only [List.replicate_succ, List.replicate_zero]))
local macro_rules | `(tactic| tm_at "runBF") => `(tactic| (refine ok_runBF ?_; (first | rw [env1] | rw [env2] | rw [env3] | rw [env0] | rw [env4] | rw [env5]); simp only [List.replicate_succ, List.replicate_zero]))

theorem okP_of {p : List Nat} : okP p = (!(decide (p = [])) && (!(decide (40 < p.length)) && (p.filter fun c => !isDg c).isEmpty)) := by
  unfold okP
  have e : (p.filter fun c => !isDg c).isEmpty = p.all isDg := by
    induction p with
    | nil => rfl
    | cons c p ih =>
      cases k : isDg c with
      | true => rw [List.filter_cons_of_neg (by simp [k]), ih]; simp [k]
      | false => rw [List.filter_cons_of_pos (by simp [k])]; simp [k]
  rw [e]
  rcases p with _ | ⟨c, p⟩
  · rfl
  · have : (decide (0 < (c :: p).length ∧ (c :: p).length ≤ 40)) = !decide (40 < (c :: p).length) := by
      by_cases k : 40 < (c :: p).length
      · rw [decide_eq_true k, decide_eq_false (by omega)]; rfl
      · rw [decide_eq_false k, decide_eq_true ⟨by simp, by omega⟩]; rfl
    rw [this]
    simp
set_option maxHeartbeats 4000000 in
theorem lin_eq {a : List Nat} (l : a.length ≤ 300) (hc : Cps a) : F__law_in_text [Tx0 a] = some (rdD a) := by
  obtain ⟨p, r, eb, hp⟩ := head_pts a
  have bl := body_len a
  have pp := pts_plen a
  have ppb := pts_plen (bodyT a)
  have csb : ∀ p ∈ pts (bodyT a), Cps p := fun p hp c hcp => by
    have := pts_sub _ p hp c hcp
    unfold bodyT at this
    split at this
    · exact hc c (List.mem_of_mem_drop this)
    · exact hc c this
  have pl : (pts a).length = (pts (bodyT a)).length := by
    rcases hp with ⟨_, h⟩ | ⟨_, _, h⟩ <;> rw [h, eb] <;> rfl
  have plb := pts_len (bodyT a)
  refine ok_get ?_
  unfold F__law_in_text S__law_in_text
  tm_at "run"
  tm_at "pw"
  refine p_split (by omega) ?_
  tm_at "pw"
  refine o_compAll (xs := (pts a).zipIdx) (e := fun q => .tuple [.int (q.2 : Nat), Tx0 q.1]) (fun q => Tx0 (if q.2 = 0 ∧ q.1.take 1 = [45] then q.1.drop 1 else q.1)) (by
    show some (((pts a).map Tx0).zipIdx.map _, _) = _
    rw [List.zipIdx_map, List.map_map]
    rfl) (fun q hq => ?_) ?_
  · have qm : q.1 ∈ pts a := by
      have := List.mem_zipIdx (x := q.1) (i := q.2) hq
      rw [this.2.2]
      exact List.getElem_mem ..
    have ql := pp q.1 qm
    tm_at "pw"
    refine ⟨rfl, ?_⟩
    tm_at "pw"
    refine w_d (fun z => ?_) fun z => ?_
    · tm_at "pw"
      refine p_to1 (by omega) ?_
      tm_at "pw"
      refine p_seq (b := [45]) ?_
      tm_at "pw"
      refine w_d (fun z2 => ?_) fun z2 => ?_
      · tm_at "pw"
        refine p_from1 (by omega) ?_
        rw [if_pos ⟨by omega, z2⟩]
        exact ⟨rfl, rfl⟩
      · tm_at "pw"
        rw [if_neg (fun k => z2 k.2)]
        exact ⟨rfl, rfl⟩
    · tm_at "pw"
      rw [if_neg (fun k => z (by omega))]
      exact ⟨rfl, rfl⟩
  rw [strip_eq]
  tm_at "pw"
  rw [List.length_map]
  unfold rdD readT
  refine w_d (fun z => ?_) fun z => ?_
  · tm_at "pw"
    rw [if_neg (fun k => by omega)]
  tm_at "pw"
  refine o_compOn (xs := pts (bodyT a)) (e := Tx0) (fun p => !okP p) Tx0 rfl (fun q hq => ?_) ?_
  · have ql := ppb q hq
    have qc := csb q hq
    tm_at "pw"
    refine ⟨rfl, ?_⟩
    tm_at "pw"
    refine p_seq (b := []) ?_
    tm_at "pw"
    rw [okP_of]
    refine w_d (fun k => ?_) fun k => ?_
    · refine ⟨rfl, by rw [decide_eq_true k]; rfl, fun _ => ?_⟩
      tm_at "pw"
      exact ⟨rfl, rfl⟩
    · tm_at "pw"
      refine p_lenS (by omega) ?_
      tm_at "pw"
      refine w_d (fun k2 => ?_) fun k2 => ?_
      · refine ⟨rfl, by rw [decide_eq_false k, decide_eq_true (by omega)]; rfl, fun _ => ?_⟩
        tm_at "pw"
        exact ⟨rfl, rfl⟩
      · tm_at "pw"
        refine o_compOn (xs := q) (e := fun c => Tx0 [c]) (fun c => !isDg c) (fun c => Tx0 [c]) ?_ (fun c hcq => ?_) ?_
        · obtain ⟨ds, e, rfl⟩ := o_itS (a := q) (Q := fun ds => ds = q.map fun c => Tx0 [c]) (by omega) rfl
          show (itD (Tx0 q)).map _ = _
          rw [e]
          rfl
        · tm_at "pw"
          refine ⟨rfl, ?_⟩
          tm_at "pw"
          refine p_notInDg ?_
          tm_at "pw"
          refine ⟨rfl, rfl, fun _ => ?_⟩
          tm_at "pw"
          exact ⟨rfl, rfl⟩
        tm_at "pw"
        refine ne_nilL (k := 0) (fun d hd => ?_) (by omega) ?_
        · obtain ⟨c, hcc, rfl⟩ := List.mem_map.mp hd
          exact sh_T fun x hx => by rw [List.mem_singleton.mp hx]; exact qc c (List.mem_filter.mp hcc).1
        tm_at "pw"
        refine ⟨rfl, by rw [decide_eq_false k, decide_eq_false (by omega)]; simp, fun _ => ?_⟩
        tm_at "pw"
        exact ⟨rfl, rfl⟩
  tm_at "pw"
  refine ne_nilL (k := 0) (fun d hd => ?_) (by omega) ?_
  · obtain ⟨q, hq, rfl⟩ := List.mem_map.mp hd
    exact sh_T (csb q (List.mem_filter.mp hq).1)
  have allE : (((pts (bodyT a)).filter fun p => !okP p).map Tx0).isEmpty = (pts (bodyT a)).all okP := by
    generalize pts (bodyT a) = L
    induction L with
    | nil => rfl
    | cons c L ih =>
      cases k : okP c with
      | true => rw [List.filter_cons_of_neg (by simp [k]), ih]; simp [k]
      | false => rw [List.filter_cons_of_pos (by simp [k])]; simp [k]
  rw [allE]
  tm_at "pw"
  cases ok : (pts (bodyT a)).all okP with
  | false =>
    tm_at "pw"
    rw [if_neg (fun k => Bool.false_ne_true k.2)]
  | true =>
    tm_at "pw"
    rw [if_pos ⟨by omega, rfl⟩]
    have okm : ∀ p ∈ pts (bodyT a), okP p = true := fun p hp => List.all_eq_true.mp ok p hp
    rw [eb] at okm pl ⊢
    have okp := okm p List.mem_cons_self
    have sg := sgn40 (a := a) okp
    obtain ⟨h, ea, hI⟩ : ∃ h, pts a = h :: r ∧ ∀ {Q : D → Prop}, Q (.int (sgn a (dv p))) → Ok (intD (Tx0 h)) Q := by
      rcases hp with ⟨k, e⟩ | ⟨k, _, e⟩
      · exact ⟨_, e, fun q => p_intN okp (by unfold sgn at q; rw [if_pos k] at q; exact q)⟩
      · exact ⟨_, e, fun q => p_intS okp (by unfold sgn at q; rw [if_neg k] at q; exact q)⟩
    rw [ea] at z ⊢
    generalize hn : sgn a (dv p) = n at *
    rcases r with _ | ⟨s, _ | ⟨s2, r⟩⟩
    · rw [List.map_cons, List.map_nil]
      tm_at "pw"
      refine hI ?_
      tm_at "pw"
      refine w_d (fun k => absurd k (by simp)) fun k => ?_
      tm_at "pw"
      refine w_d (fun k => absurd k (by decide)) fun k => ?_
      tm_at "pw"
      refine w_d (fun k => absurd k (by simp)) fun k => ?_
      tm_at "pw"
      refine ok_eq (lcd_eq _ _) ?_
      tm_at "pw"
      have g1 : Int.gcd n 1 = 1 := by simp
      rw [g1]
      refine w_d (fun k => ?_) fun k => absurd rfl k
      tm_at "pw"
      refine ok_eq (ltext_eq sg (by unfold B40; decide)) ?_
      tm_at "pw"
      refine p_seq ?_
      tm_at "pw"
      have cn := cop_nd (d := 1) g1 (by omega)
      have t1 : textL (Rat.divInt n 1) = txt n 1 := by
        unfold textL
        rw [show Rat.divInt n 1 = Rat.divInt n (1 : Nat) from rfl, cn.1, cn.2]
        rfl
      have f1 : fq (Rat.divInt n 1) = .tuple [.int n, .int 1] := by
        unfold fq
        rw [show Rat.divInt n 1 = Rat.divInt n (1 : Nat) from rfl, cn.1, cn.2]
        rfl
      refine w_d (fun k => ?_) fun k => ?_
      · tm_at "pw"
        rw [← t1] at k
        simp only [hn, if_pos k]
        rw [f1]
      · tm_at "pw"
        rw [← t1] at k
        simp only [hn, if_neg k]
    · have oks := okm s (List.mem_cons_of_mem _ List.mem_cons_self)
      rw [List.map_cons, List.map_cons, List.map_nil]
      tm_at "pw"
      refine hI ?_
      tm_at "pw"
      refine w_d (fun k => ?_) fun k => absurd (by simp) k
      tm_at "pw"
      refine p_ixL (i := 1) (d := Tx0 s) rfl ?_
      tm_at "pw"
      refine p_intS oks ?_
      tm_at "pw"
      have tr := fun d0 => two_read (n := n) ea d0
      refine w_d (fun k0 => ?_) fun k0 => ?_
      · tm_at "pw"
        simp only [if_pos (show dv s = 0 by omega)]
      · have k0 : ¬ dv s = 0 := by omega
        have tr := tr k0
        tm_at "pw"
        refine w_d (fun k => ?_) fun k => absurd (by simp) k
        tm_at "pw"
        simp only [hn, if_neg k0, tr]
        refine w_d (fun k1 => ?_) fun k1 => ?_
        · tm_at "pw"
          rw [if_neg (fun y => y.1 (by omega))]
        · have k1 : dv s ≠ 1 := by omega
          tm_at "pw"
          refine ok_eq (lcd_eq _ _) ?_
          tm_at "pw"
          refine w_d (fun k2 => ?_) fun k2 => ?_
          · have g1 : Int.gcd n (dv s : Nat) = 1 := by omega
            tm_at "pw"
            refine ok_eq (ltext_eq sg (by unfold B40; rw [Int.natAbs_natCast]; exact dv_lt oks)) ?_
            tm_at "pw"
            refine p_seq ?_
            tm_at "pw"
            have cn := cop_nd g1 (by omega)
            refine w_d (fun k3 => ?_) fun k3 => ?_
            · tm_at "pw"
              rw [if_pos ⟨k1, g1, k3⟩]
              show _ = fq _
              unfold fq
              rw [cn.1, cn.2]
            · tm_at "pw"
              rw [if_neg (fun y => k3 y.2.2)]
          · tm_at "pw"
            rw [if_neg (fun y => k2 (by rw [y.2.1]; rfl))]
    · simp at z
      omega
end Lay

namespace Lay
open PySem PySem.Spec PyProof.Rows L2
local macro_rules | `(tactic| tm_at "len") => `(tactic| first | (simp only [List.length_cons, List.length_nil, sizeLine]; omega) | (simp [sizeLine]; omega) | (simp [sizeLine]; done))
local macro_rules | `(tactic| tm_at "pw1") => `(tactic| with_reducible first
  | refine s_seq ?_
  | refine o_op ?_
  | (refine o_var (d := ?d) ?e ?h; (case e => with_unfolding_all rfl))
  | tm_at "cst"
  | refine o_c ?_
  | refine o_cl ?_
  | refine o_cons ?_
  | refine o_nil ?_
  | refine s_set ?_
  | (refine s_own (by simp only [List.length_cons, List.length_nil, List.length_set]; omega) ?_)
  | refine s_ret ?_
  | refine s_if ?_
  | refine s_nop ?_
  | refine s_kill ?_
  | refine s_for ?_
  | refine o_it ?_
  | refine o_itl ?_
  | refine o_itt ?_
  | refine o_tup ?_
  | refine o_lst ?_
  | (refine And.intro (a := List.length _ ≤ sizeLine) (by tm_at "len") ?_)
  | refine o_t ?_
  | refine o_asB ?_
  | refine o_g1 ?_
  | refine o_if ?_
  | refine w_t ?_
  | refine w_f ?_
  | refine w_nt ?_
  | refine w_nf ?_
  | refine o_not ?_
  | refine o_notT ?_
  | refine o_and ?_
  | refine o_or ?_
  | refine o_un ?_
  | refine o_yes ?_
  | refine o_ch ?_
  | (refine o_callB ?_)
  | refine o_ixo ?_
  | refine o_sl ?_
  | refine o_noO ?_
  | refine o_someO ?_
  | refine o_name ?_
  | refine o_tupG ?_
  | refine o_consG ?_
  | refine o_nilG ?_
  | refine s_par ?_
  | (refine s_parM ?e ?h; (case e => with_unfolding_all rfl))
  | refine s_setG ?_
  | refine s_drop ?_
  | (refine s_retO (d := ?d) ?e ?h; (case e => with_unfolding_all rfl))
  | (refine s_mut (ds0 := ?d) ?e ?h; (case e => with_unfolding_all rfl))
  | (refine s_ins (ds0 := ?d) ?e ?h; (case e => with_unfolding_all rfl))
  | refine s_seti ?_
  | (refine s_aug (d := ?d) ?e ?h; (case e => with_unfolding_all rfl))
  | refine p_add ?_ | refine p_sub ?_ | refine p_lt ?_ | refine p_le ?_ | refine p_gt ?_ | refine p_ge ?_ | refine p_eq ?_ | refine p_ne ?_ | refine p_neg ?_ | refine p_abs ?_
  | refine p_intI ?_ | refine p_intB ?_ | refine p_lenL ?_ | refine p_lenT ?_ | refine p_tupL ?_ | refine p_tupT ?_ | refine p_lstL ?_ | refine p_lstT ?_ | refine p_isN ?_ | refine p_notN ?_
  | refine ex_two ?_
  | refine ex_int ?_ | refine ex_list ?_ | refine ex_tup ?_
  | (refine ex_ixo (ds := ?d) ?e ?h; (case e => with_unfolding_all rfl))
  | (refine ex_b (b := ?d) ?e ?h; (case e => with_unfolding_all rfl))
  | (refine ex_l (ds := ?d) ?e ?h; (case e => with_unfolding_all rfl))
  | refine o_enum ?_ | refine o_enumT ?_ | refine o_zip ?_ | refine o_zipM ?_ | refine o_rng1 ?_ | refine o_rng2 ?_
  | refine o_bor ?_ | refine o_borF ?_ | refine o_borT ?_
  | tm_at "spec")
local macro_rules | `(tactic| tm_at "pw") => `(tactic| repeat' (tm_at "pw1"))
local macro_rules | `(tactic| tm_at "pw1j") => `(tactic| with_reducible first
  | refine s_seq ?_
  | refine o_op ?_
  | (refine o_var (d := ?d) ?e ?h; (case e => with_unfolding_all rfl))
  | tm_at "cst"
  | refine o_c ?_
  | refine o_cl ?_
  | refine o_cons ?_
  | refine o_nil ?_
  | refine s_set ?_
  | (refine s_own (by simp only [List.length_cons, List.length_nil, List.length_set]; omega) ?_)
  | refine s_ret ?_
  | refine s_if ?_
  | refine s_nop ?_
  | refine s_kill ?_
  | refine s_for ?_
  | refine o_it ?_
  | refine o_itl ?_
  | refine o_itt ?_
  | refine o_tup ?_
  | refine o_lst ?_
  | (refine And.intro (a := List.length _ ≤ sizeLine) (by tm_at "len") ?_)
  | refine o_t ?_
  | refine o_asB ?_
  | refine o_g1 ?_
  | refine w_t ?_
  | refine w_f ?_
  | refine w_nt ?_
  | refine w_nf ?_
  | refine o_not ?_
  | refine o_notT ?_
  | refine o_and ?_
  | refine o_or ?_
  | refine o_un ?_
  | refine o_yes ?_
  | refine o_ch ?_
  | (refine o_callB ?_)
  | refine o_ixo ?_
  | refine o_sl ?_
  | refine o_noO ?_
  | refine o_someO ?_
  | refine o_name ?_
  | refine o_tupG ?_
  | refine o_consG ?_
  | refine o_nilG ?_
  | refine s_par ?_
  | (refine s_parM ?e ?h; (case e => with_unfolding_all rfl))
  | refine s_setG ?_
  | refine s_drop ?_
  | (refine s_retO (d := ?d) ?e ?h; (case e => with_unfolding_all rfl))
  | (refine s_mut (ds0 := ?d) ?e ?h; (case e => with_unfolding_all rfl))
  | (refine s_ins (ds0 := ?d) ?e ?h; (case e => with_unfolding_all rfl))
  | refine s_seti ?_
  | (refine s_aug (d := ?d) ?e ?h; (case e => with_unfolding_all rfl))
  | refine p_add ?_ | refine p_sub ?_ | refine p_lt ?_ | refine p_le ?_ | refine p_gt ?_ | refine p_ge ?_ | refine p_eq ?_ | refine p_ne ?_ | refine p_neg ?_ | refine p_abs ?_
  | refine p_intI ?_ | refine p_intB ?_ | refine p_lenL ?_ | refine p_lenT ?_ | refine p_tupL ?_ | refine p_tupT ?_ | refine p_lstL ?_ | refine p_lstT ?_ | refine p_isN ?_ | refine p_notN ?_
  | refine ex_two ?_
  | refine ex_int ?_ | refine ex_list ?_ | refine ex_tup ?_
  | (refine ex_ixo (ds := ?d) ?e ?h; (case e => with_unfolding_all rfl))
  | (refine ex_b (b := ?d) ?e ?h; (case e => with_unfolding_all rfl))
  | (refine ex_l (ds := ?d) ?e ?h; (case e => with_unfolding_all rfl))
  | refine o_enum ?_ | refine o_enumT ?_ | refine o_zip ?_ | refine o_zipM ?_ | refine o_rng1 ?_ | refine o_rng2 ?_
  | refine o_bor ?_ | refine o_borF ?_ | refine o_borT ?_
  | tm_at "spec")
local macro_rules | `(tactic| tm_at "pwj") => `(tactic| repeat' (tm_at "pw1j"))

local macro_rules | `(tactic| tm_at "cst") => `(tactic| with_reducible first | refine o_t01 ?_ | refine o_t11 ?_ | refine o_t21 ?_)
local macro_rules | `(tactic| tm_at "spec") => `(tactic| with_reducible first | refine p_fq0 ?_ | refine p_fq1 ?_ | refine p_two0 ?_ | refine p_two1 ?_ | refine p_hd0 ?_ | refine p_hdL0 ?_ | refine p_eqfq ?_ | refine p_nefq ?_)
local macro_rules | `(tactic| tm_at "run") => `(tactic| (refine ok_run ?_; (first | rw [env1] | rw [env2] | rw [env3] | rw [env0] | rw [env4] | rw [env5]); simp only [List.replicate_succ, List.replicate_zero]))
local macro_rules | `(tactic| tm_at "runF") => `(tactic| (refine ok_runF ?_; (first | rw [env1] | rw [env2] | rw [env3] | rw [env0] | rw [env4] | rw [env5]); simp only [List.replicate_succ, List.replicate_zero]))
local macro_rules | `(tactic| tm_at "runB") => `(tactic| (refine ok_runB ?_; (first | rw [env1] | rw [env2] | rw [env3] | rw [env0] | rw [env4] | rw [env5]); simp only [List.replicate_succ, List.replicate_zero]))
local macro_rules | `(tactic| tm_at "runBF") => `(tactic| (refine ok_runBF ?_; (first | rw [env1] | rw [env2] | rw [env3] | rw [env0] | rw [env4] | rw [env5]); simp only [List.replicate_succ, List.replicate_zero]))

/-! ## what is written is read -/
theorem numL_head (n : Nat) : (TL.numL n).take 1 ≠ [45] := fun z => by
  have h := TL.numL_free (n := n) (s := 45) (by omega)
  rcases e : TL.numL n with _ | ⟨c, r⟩
  · rw [e] at z; cases z
  · rw [e] at z h
    simp at z
    rw [z] at h
    simp at h
theorem numL_ok {n : Nat} (h : n < 10 ^ 40) : okP (TL.numL n) = true := by
  have a := TL.numL_len (n := n) (k := 40) (by omega) h
  have b := TL.numL_ne n
  have c := TL.numL_digits n
  unfold okP
  rw [Bool.and_eq_true, decide_eq_true_eq]
  refine ⟨⟨List.length_pos_iff.mpr b, a⟩, List.all_eq_true.mpr fun x hx => ?_⟩
  unfold isDg
  simpa using c x hx
theorem txt_sgn (n : Int) (d : Nat) : ((txt n d).take 1 = [45] ↔ n < 0) ∧ bodyT (txt n d) = TL.numL n.natAbs ++ if d = 1 then [] else 47 :: TL.numL d := by
  have tl : (if (d : Int) = 1 then [] else 47 :: numZ (d : Int)) = (if d = 1 then [] else 47 :: TL.numL d) := by
    by_cases k : d = 1
    · rw [if_pos k, if_pos (by omega)]
    · rw [if_neg k, if_neg (by omega)]
      unfold numZ
      rw [if_neg (by omega), Int.natAbs_natCast]
  unfold txt
  rw [tl]
  generalize (if d = 1 then [] else 47 :: TL.numL d) = t
  by_cases k : n < 0
  · have e : numZ n = 45 :: TL.numL n.natAbs := by unfold numZ; rw [if_pos k]
    have h1 : (numZ n ++ t).take 1 = [45] := by rw [e]; rfl
    refine ⟨⟨fun _ => k, fun _ => h1⟩, ?_⟩
    unfold bodyT
    rw [if_pos h1, e]
    rfl
  · have e : numZ n = TL.numL n.natAbs := by unfold numZ; rw [if_neg k]
    have h1 : (numZ n ++ t).take 1 ≠ [45] := fun z => by
      rw [e] at z
      have := numL_head n.natAbs
      rcases e2 : TL.numL n.natAbs with _ | ⟨c, r⟩
      · exact TL.numL_ne _ e2
      · rw [e2] at z this
        exact this (by simpa using z)
    refine ⟨⟨fun z => absurd z h1, fun z => absurd z k⟩, ?_⟩
    unfold bodyT
    rw [if_neg h1, e]
theorem back_eq {q : Rat} (h : F40 q) : rdD (textL q) = fq q := by
  have hd : q.den < 10 ^ 40 := by have := h.d; unfold B40 at this; simpa using this
  have hn : q.num.natAbs < 10 ^ 40 := h.n
  obtain ⟨s1, s2⟩ := txt_sgn q.num q.den
  have sg : sgn (txt q.num q.den) (dv (TL.numL q.num.natAbs)) = q.num := by
    rw [show dv (TL.numL q.num.natAbs) = q.num.natAbs from TL.numL_val _]
    unfold sgn
    by_cases k : q.num < 0
    · rw [if_pos (s1.mpr k)]; omega
    · rw [if_neg (fun z => k (s1.mp z))]; omega
  have f1 := TL.numL_free (n := q.num.natAbs) (s := 47) (by omega)
  have f2 := TL.numL_free (n := q.den) (s := 47) (by omega)
  have rd : readT (txt q.num q.den) = some q := by
    unfold readT
    by_cases k : q.den = 1
    · have e : pts (bodyT (txt q.num q.den)) = [TL.numL q.num.natAbs] := by rw [s2, if_pos k, List.append_nil, pts_one f1]
      have qe : Rat.divInt q.num 1 = q := by
        have := Rat.num_divInt_den q
        rw [k] at this
        exact this
      have te : textL q = txt q.num q.den := rfl
      rw [e]
      simp only [sg, qe, te]
      rw [if_pos ⟨by simp, by simp [numL_ok hn]⟩]
      simp
    · have e : pts (bodyT (txt q.num q.den)) = [TL.numL q.num.natAbs, TL.numL q.den] := by rw [s2, if_neg k, pts_cut _ f1, pts_one f2]
      have de : dv (TL.numL q.den) = q.den := TL.numL_val _
      have qe : Rat.divInt q.num (q.den : Nat) = q := Rat.num_divInt_den q
      have te : textL q = txt q.num q.den := rfl
      rw [e]
      simp only [sg, de, qe, te]
      rw [if_pos ⟨by simp, by simp [numL_ok hn, numL_ok hd]⟩, if_neg q.den_nz]
      simp
  unfold rdD textL
  rw [rd]
theorem rdD_of (a : List Nat) : rdD a = .none ∨ ∃ q, F40 q ∧ rdD a = fq q := by
  unfold rdD
  cases e : readT a with
  | none => exact .inl rfl
  | some q =>
    refine .inr ⟨q, ?_, rfl⟩
    unfold readT at e
    split at e
    · rename_i ok
      have okm : ∀ p ∈ pts (bodyT a), okP p = true := fun p hp => List.all_eq_true.mp ok.2 p hp
      split at e
      · rename_i p ep
        rw [ep] at okm
        split at e
        · cases e
          exact divInt40 (d := 1) (sgn40 (okm p (by simp))) (by omega) (by decide)
        · cases e
      · rename_i p r ep
        rw [ep] at okm
        split at e
        · cases e
        · split at e
          · cases e
            exact divInt40 (sgn40 (okm p (by simp))) (by omega) (dv_lt (okm r (by simp)))
          · cases e
      · cases e
    · cases e
/-! least, greatest -/
section
variable {s : Nat} {d : D} {xs : List Rat}
theorem least_eq (hd : Seq d (xs.map fq)) (h : ∀ x ∈ xs, Sz s x) (hs : s + s < 9000) (ne : xs ≠ []) : ∃ m ∈ xs, (∀ x ∈ xs, m ≤ x) ∧ F_least_of [d] = some (fq m) := by
  have : Ok (F_least_of [d]) fun r => ∃ m ∈ xs, (∀ x ∈ xs, m ≤ x) ∧ r = fq m := by
    obtain ⟨x0, xs', rfl⟩ := List.exists_cons_of_ne_nil ne
    unfold F_least_of S_least_of
    rw [List.map_cons] at hd
    rcases hd with rfl | rfl
    all_goals
      tm_at "run"
      tm_at "pw"
      refine l_on (xs := x0 :: xs') (e := fq) (fun pre ρ => ∃ m, ρ = [some _, some (fq m), none] ∧ m ∈ x0 :: xs' ∧ ∀ x ∈ pre, m ≤ x) ⟨x0, rfl, List.mem_cons_self, fun x hx => by cases hx⟩ ?_ ?_
      · rintro ρ ⟨m, rfl, h1, h2⟩
        tm_at "pw"
        exact ⟨m, h1, h2, rfl⟩
      · rintro pre x post ρ e ⟨m, rfl, h1, h2⟩
        have hx : x ∈ x0 :: xs' := by rw [e]; simp
        tm_at "pw"
        refine ok_eq (compared_eq (h x hx) (h m h1) (by omega)) ?_
        tm_at "pw"
        refine w_d (fun z => ?_) fun z => ?_
        · have z := cmp_lt.mp z
          tm_at "pw"
          refine ⟨x, rfl, hx, fun y hy => ?_⟩
          rcases List.mem_append.mp hy with hy | hy
          · have := h2 y hy; grind
          · rw [List.mem_singleton.mp hy]; exact Rat.le_refl
        · have z : ¬ x < m := fun k => z (cmp_lt.mpr k)
          tm_at "pw"
          refine ⟨m, rfl, h1, fun y hy => ?_⟩
          rcases List.mem_append.mp hy with hy | hy
          · exact h2 y hy
          · rw [List.mem_singleton.mp hy]; grind
  obtain ⟨r, e, m, h1, h2, rfl⟩ := this
  exact ⟨m, h1, h2, e⟩
theorem most_eq (hd : Seq d (xs.map fq)) (h : ∀ x ∈ xs, Sz s x) (hs : s + s < 9000) (ne : xs ≠ []) : ∃ m ∈ xs, (∀ x ∈ xs, x ≤ m) ∧ F_greatest_of [d] = some (fq m) := by
  have : Ok (F_greatest_of [d]) fun r => ∃ m ∈ xs, (∀ x ∈ xs, x ≤ m) ∧ r = fq m := by
    obtain ⟨x0, xs', rfl⟩ := List.exists_cons_of_ne_nil ne
    unfold F_greatest_of S_greatest_of
    rw [List.map_cons] at hd
    rcases hd with rfl | rfl
    all_goals
      tm_at "run"
      tm_at "pw"
      refine l_on (xs := x0 :: xs') (e := fq) (fun pre ρ => ∃ m, ρ = [some _, some (fq m), none] ∧ m ∈ x0 :: xs' ∧ ∀ x ∈ pre, x ≤ m) ⟨x0, rfl, List.mem_cons_self, fun x hx => by cases hx⟩ ?_ ?_
      · rintro ρ ⟨m, rfl, h1, h2⟩
        tm_at "pw"
        exact ⟨m, h1, h2, rfl⟩
      · rintro pre x post ρ e ⟨m, rfl, h1, h2⟩
        have hx : x ∈ x0 :: xs' := by rw [e]; simp
        tm_at "pw"
        refine ok_eq (compared_eq (h x hx) (h m h1) (by omega)) ?_
        tm_at "pw"
        refine w_d (fun z => ?_) fun z => ?_
        · have z := cmp_gt.mp z
          tm_at "pw"
          refine ⟨x, rfl, hx, fun y hy => ?_⟩
          rcases List.mem_append.mp hy with hy | hy
          · have := h2 y hy; grind
          · rw [List.mem_singleton.mp hy]; exact Rat.le_refl
        · have z : ¬ m < x := fun k => z (cmp_gt.mpr k)
          tm_at "pw"
          refine ⟨m, rfl, h1, fun y hy => ?_⟩
          rcases List.mem_append.mp hy with hy | hy
          · exact h2 y hy
          · rw [List.mem_singleton.mp hy]; grind
  obtain ⟨r, e, m, h1, h2, rfl⟩ := this
  exact ⟨m, h1, h2, e⟩
end
end Lay

namespace Lay
open PySem PySem.Spec PyProof.Rows L2
local macro_rules | `(tactic| tm_at "len") => `(tactic| first | (simp only [List.length_cons, List.length_nil, sizeLine]; omega) | (simp [sizeLine]; omega) | (simp [sizeLine]; done))
local macro_rules | `(tactic| tm_at "pw1") => `(tactic| with_reducible first
  | refine s_seq ?_
  | refine o_op ?_
  | (refine o_var (d := ?d) ?e ?h; (case e => with_unfolding_all rfl))
  | tm_at "cst"
  | refine o_c ?_
  | refine o_cl ?_
  | refine o_cons ?_
  | refine o_nil ?_
  | refine s_set ?_
  | (refine s_own (by simp only [List.length_cons, List.length_nil, List.length_set]; omega) ?_)
  | refine s_ret ?_
  | refine s_if ?_
  | refine s_nop ?_
  | refine s_kill ?_
  | refine s_for ?_
  | refine o_it ?_
  | refine o_itl ?_
  | refine o_itt ?_
  | refine o_tup ?_
  | refine o_lst ?_
  | (refine And.intro (a := List.length _ ≤ sizeLine) (by tm_at "len") ?_)
  | refine o_t ?_
  | refine o_asB ?_
  | refine o_g1 ?_
  | refine o_if ?_
  | refine w_t ?_
  | refine w_f ?_
  | refine w_nt ?_
  | refine w_nf ?_
  | refine o_not ?_
  | refine o_notT ?_
  | refine o_and ?_
  | refine o_or ?_
  | refine o_un ?_
  | refine o_yes ?_
  | refine o_ch ?_
  | (refine o_callB ?_)
  | refine o_ixo ?_
  | refine o_sl ?_
  | refine o_noO ?_
  | refine o_someO ?_
  | refine o_name ?_
  | refine o_tupG ?_
  | refine o_consG ?_
  | refine o_nilG ?_
  | refine s_par ?_
  | (refine s_parM ?e ?h; (case e => with_unfolding_all rfl))
  | refine s_setG ?_
  | refine s_drop ?_
  | (refine s_retO (d := ?d) ?e ?h; (case e => with_unfolding_all rfl))
  | (refine s_mut (ds0 := ?d) ?e ?h; (case e => with_unfolding_all rfl))
  | (refine s_ins (ds0 := ?d) ?e ?h; (case e => with_unfolding_all rfl))
  | refine s_seti ?_
  | (refine s_aug (d := ?d) ?e ?h; (case e => with_unfolding_all rfl))
  | refine p_add ?_ | refine p_sub ?_ | refine p_lt ?_ | refine p_le ?_ | refine p_gt ?_ | refine p_ge ?_ | refine p_eq ?_ | refine p_ne ?_ | refine p_neg ?_ | refine p_abs ?_
  | refine p_intI ?_ | refine p_intB ?_ | refine p_lenL ?_ | refine p_lenT ?_ | refine p_tupL ?_ | refine p_tupT ?_ | refine p_lstL ?_ | refine p_lstT ?_ | refine p_isN ?_ | refine p_notN ?_
  | refine ex_two ?_
  | refine ex_int ?_ | refine ex_list ?_ | refine ex_tup ?_
  | (refine ex_ixo (ds := ?d) ?e ?h; (case e => with_unfolding_all rfl))
  | (refine ex_b (b := ?d) ?e ?h; (case e => with_unfolding_all rfl))
  | (refine ex_l (ds := ?d) ?e ?h; (case e => with_unfolding_all rfl))
  | refine o_enum ?_ | refine o_enumT ?_ | refine o_zip ?_ | refine o_zipM ?_ | refine o_rng1 ?_ | refine o_rng2 ?_
  | refine o_bor ?_ | refine o_borF ?_ | refine o_borT ?_
  | tm_at "spec")
local macro_rules | `(tactic| tm_at "pw") => `(tactic| repeat' (tm_at "pw1"))
local macro_rules | `(tactic| tm_at "pw1j") => `(tactic| with_reducible first
  | refine s_seq ?_
  | refine o_op ?_
  | (refine o_var (d := ?d) ?e ?h; (case e => with_unfolding_all rfl))
  | tm_at "cst"
  | refine o_c ?_
  | refine o_cl ?_
  | refine o_cons ?_
  | refine o_nil ?_
  | refine s_set ?_
  | (refine s_own (by simp only [List.length_cons, List.length_nil, List.length_set]; omega) ?_)
  | refine s_ret ?_
  | refine s_if ?_
  | refine s_nop ?_
  | refine s_kill ?_
  | refine s_for ?_
  | refine o_it ?_
  | refine o_itl ?_
  | refine o_itt ?_
  | refine o_tup ?_
  | refine o_lst ?_
  | (refine And.intro (a := List.length _ ≤ sizeLine) (by tm_at "len") ?_)
  | refine o_t ?_
  | refine o_asB ?_
  | refine o_g1 ?_
  | refine w_t ?_
  | refine w_f ?_
  | refine w_nt ?_
  | refine w_nf ?_
  | refine o_not ?_
  | refine o_notT ?_
  | refine o_and ?_
  | refine o_or ?_
  | refine o_un ?_
  | refine o_yes ?_
  | refine o_ch ?_
  | (refine o_callB ?_)
  | refine o_ixo ?_
  | refine o_sl ?_
  | refine o_noO ?_
  | refine o_someO ?_
  | refine o_name ?_
  | refine o_tupG ?_
  | refine o_consG ?_
  | refine o_nilG ?_
  | refine s_par ?_
  | (refine s_parM ?e ?h; (case e => with_unfolding_all rfl))
  | refine s_setG ?_
  | refine s_drop ?_
  | (refine s_retO (d := ?d) ?e ?h; (case e => with_unfolding_all rfl))
  | (refine s_mut (ds0 := ?d) ?e ?h; (case e => with_unfolding_all rfl))
  | (refine s_ins (ds0 := ?d) ?e ?h; (case e => with_unfolding_all rfl))
  | refine s_seti ?_
  | (refine s_aug (d := ?d) ?e ?h; (case e => with_unfolding_all rfl))
  | refine p_add ?_ | refine p_sub ?_ | refine p_lt ?_ | refine p_le ?_ | refine p_gt ?_ | refine p_ge ?_ | refine p_eq ?_ | refine p_ne ?_ | refine p_neg ?_ | refine p_abs ?_
  | refine p_intI ?_ | refine p_intB ?_ | refine p_lenL ?_ | refine p_lenT ?_ | refine p_tupL ?_ | refine p_tupT ?_ | refine p_lstL ?_ | refine p_lstT ?_ | refine p_isN ?_ | refine p_notN ?_
  | refine ex_two ?_
  | refine ex_int ?_ | refine ex_list ?_ | refine ex_tup ?_
  | (refine ex_ixo (ds := ?d) ?e ?h; (case e => with_unfolding_all rfl))
  | (refine ex_b (b := ?d) ?e ?h; (case e => with_unfolding_all rfl))
  | (refine ex_l (ds := ?d) ?e ?h; (case e => with_unfolding_all rfl))
  | refine o_enum ?_ | refine o_enumT ?_ | refine o_zip ?_ | refine o_zipM ?_ | refine o_rng1 ?_ | refine o_rng2 ?_
  | refine o_bor ?_ | refine o_borF ?_ | refine o_borT ?_
  | tm_at "spec")
local macro_rules | `(tactic| tm_at "pwj") => `(tactic| repeat' (tm_at "pw1j"))

local macro_rules | `(tactic| tm_at "cst") => `(tactic| with_reducible first | refine o_t01 ?_ | refine o_t11 ?_ | refine o_t21 ?_)
local macro_rules | `(tactic| tm_at "spec") => `(tactic| with_reducible first | refine p_fq0 ?_ | refine p_fq1 ?_ | refine p_two0 ?_ | refine p_two1 ?_ | refine p_hd0 ?_ | refine p_hdL0 ?_ | refine p_eqfq ?_ | refine p_nefq ?_)
local macro_rules | `(tactic| tm_at "run") => `(tactic| (refine ok_run ?_; (first | rw [env1] | rw [env2] | rw [env3] | rw [env0] | rw [env4] | rw [env5]); simp only [List.replicate_succ, List.replicate_zero]))
local macro_rules | `(tactic| tm_at "runF") => `(tactic| (refine ok_runF ?_; (first | rw [env1] | rw [env2] | rw [env3] | rw [env0] | rw [env4] | rw [env5]); simp only [List.replicate_succ, List.replicate_zero]))
local macro_rules | `(tactic| tm_at "runB") => `(tactic| (refine ok_runB ?_; (first | rw [env1] | rw [env2] | rw [env3] | rw [env0] | rw [env4] | rw [env5]); simp only [List.replicate_succ, List.replicate_zero]))
local macro_rules | `(tactic| tm_at "runBF") => `(tactic| (refine ok_runBF ?_; (first | rw [env1] | rw [env2] | rw [env3] | rw [env0] | rw [env4] | rw [env5]); simp only [List.replicate_succ, List.replicate_zero]))

/-! ## texts that are drawn -/
structure Tok0 (a : List Nat) : Prop where
  l : a.length ≤ 300
  c : Cps a
theorem Cps.app {a b : List Nat} (h : Cps a) (h' : Cps b) : Cps (a ++ b) := fun c hc => by
  rcases List.mem_append.mp hc with hc | hc
  · exact h c hc
  · exact h' c hc
theorem cps_num (i : Int) : Cps (numZ i) := fun c hc => by
  have h := TL.numL_digits i.natAbs
  unfold numZ at hc
  split at hc
  · rcases List.mem_cons.mp hc with rfl | hc
    · omega
    · have := h c hc; omega
  · have := h c hc; omega
theorem cps_txt (n d : Int) : Cps (txt n d) := (cps_num n).app (by
  split
  · intro c hc; cases hc
  · intro c hc
    rcases List.mem_cons.mp hc with rfl | hc
    · omega
    · exact cps_num d c hc)
theorem cps_repl : ∀ (n : Nat) (l : List Nat), l.length ≤ n → Cps l → Cps (StrLaws.replL [47] [47, 47] l) := fun n => by
  induction n with
  | zero =>
    intro l hl h
    have e : l = [] := List.eq_nil_of_length_eq_zero (by omega)
    rw [e, StrLaws.replL_nil]
    intro c hc; cases hc
  | succ n ih =>
    intro l hl h
    rcases l with _ | ⟨c, r⟩
    · rw [StrLaws.replL_nil]
      intro c hc; cases hc
    · have hr : Cps r := fun x hx => h x (List.mem_cons_of_mem _ hx)
      simp only [List.length_cons] at hl
      by_cases k : c = 47
      · rw [StrLaws.replL_hit (by simp) (by rw [k]; rfl)]
        refine Cps.app (fun x hx => ?_) (ih r (by omega) hr)
        simp at hx
        omega
      · rw [StrLaws.replL_miss (by
          intro z
          simp at z
          exact k z)]
        intro x hx
        rcases List.mem_cons.mp hx with rfl | hx
        · exact h _ List.mem_cons_self
        · exact ih r (by omega) hr x hx
theorem p_repl {a : List Nat} {Q : D → Prop} (l : a.length ≤ 83) (hc : Cps a) (q : ∀ b, Tok0 b → Q (Tx0 b)) : Ok (replD "/" "//" (Tx0 a)) Q := by
  have hl := TK.replace_len (SX.S a) "/" "//"
  have e : ("//" : Str).length = 2 := rfl
  have e2 : (SX.S a).length = a.length := SX.S_len a
  rw [e2, e] at hl
  refine ⟨.str (Txt.replace (SX.S a) "/" "//"), ?_, ?_⟩
  · unfold replD
    simp only
    rw [if_pos (by rw [e2, e]; omega)]
  · have := q (Txt.replace (SX.S a) "/" "//").cps.toList ⟨?_, ?_⟩
    · rw [show Tx0 (Txt.replace (SX.S a) "/" "//").cps.toList = .str (Txt.replace (SX.S a) "/" "//") by
        show PyData.str _ = _
        rw [SX.S_tl]] at this
      exact this
    · have : (Txt.replace (SX.S a) "/" "//").cps.toList.length = (Txt.replace (SX.S a) "/" "//").length := Array.length_toList
      omega
    · have r := StrLaws.replace_list (x := SX.S a) (y := "/") (z := "//") (by decide)
      rw [r]
      exact cps_repl _ _ (Nat.le_refl _) hc
theorem p_rep {k n : Nat} {Q : D → Prop} (hn : 2 ≤ n ∧ n ≤ 1000) (q : Q (Tx0 (List.replicate n k))) : Ok (repD (Tx0 [k]) (.int (n : Nat))) Q := by
  refine ⟨_, ?_, q⟩
  unfold repD
  simp only
  rw [if_pos (by refine ⟨by omega, by omega, ?_, ?_⟩ <;> rw [SX.S_len] <;> simp)]
  have e : repS (SX.S [k]) n = SX.S (List.replicate n k) := by
    refine TL.ext_tl ?_
    show (((List.replicate n (#[k] : Array Nat)).foldl (· ++ ·) #[]).toList) = _
    have : ∀ (m : Nat) (b : Array Nat), ((List.replicate m (#[k] : Array Nat)).foldl (· ++ ·) b).toList = b.toList ++ List.replicate m k := fun m => by
      induction m with
      | zero => intro b; simp
      | succ m ih =>
        intro b
        rw [List.replicate_succ, List.foldl_cons, ih, List.replicate_succ]
        simp
    rw [this]
    rfl
  rw [show ((n : Nat) : Int).toNat = n from rfl, e]
/-! the law's texts -/
theorem rchar_len {q c : Nat} (hq : q = 34 ∨ q = 39) (hc : c = 45 ∨ c = 47 ∨ (48 ≤ c ∧ c ≤ 57)) : (Builtin.Str.reprChar q c).length ≤ 1 := by
  have : c ∈ [45, 47, 48, 49, 50, 51, 52, 53, 54, 55, 56, 57] := by
    simp only [List.mem_cons, List.not_mem_nil, or_false]
    omega
  have all : ∀ c ∈ [45, 47, 48, 49, 50, 51, 52, 53, 54, 55, 56, 57], (Builtin.Str.reprChar 34 c).length ≤ 1 ∧ (Builtin.Str.reprChar 39 c).length ≤ 1 := by decide +kernel
  rcases hq with rfl | rfl
  · exact (all c this).1
  · exact (all c this).2
theorem txt_chars {n d : Int} : ∀ c ∈ txt n d, c = 45 ∨ c = 47 ∨ (48 ≤ c ∧ c ≤ 57) := fun c hc => by
  have num : ∀ i : Int, c ∈ numZ i → c = 45 ∨ c = 47 ∨ (48 ≤ c ∧ c ≤ 57) := fun i h => by
    have k := TL.numL_digits i.natAbs
    unfold numZ at h
    split at h
    · rcases List.mem_cons.mp h with rfl | h
      · exact .inl rfl
      · exact .inr (.inr (k c h))
    · exact .inr (.inr (k c h))
  unfold txt at hc
  rcases List.mem_append.mp hc with hc | hc
  · exact num n hc
  · split at hc
    · cases hc
    · rcases List.mem_cons.mp hc with rfl | hc
      · exact .inr (.inl rfl)
      · exact num d hc
theorem tx_txt {n d : Int} (h : B40 n) (h' : B40 d) : Tx 100 (Tx0 (txt n d)) := by
  refine ⟨rfl, ?_⟩
  have l := txt_len h h'
  have cs := txt_chars (n := n) (d := d)
  generalize txt n d = a at l cs
  show (reprText (SX.S a)).length ≤ 100
  rw [← reprLen_eq, ← Array.foldl_toList]
  have hq : reprQuote (SX.S a) = 34 ∨ reprQuote (SX.S a) = 39 := by
    unfold reprQuote
    split
    · exact .inl rfl
    · exact .inr rfl
  generalize reprQuote (SX.S a) = q at hq
  have : ∀ (l : List Nat) (m : Nat), (∀ c ∈ l, c = 45 ∨ c = 47 ∨ (48 ≤ c ∧ c ≤ 57)) → l.foldl (fun n c => n + (Builtin.Str.reprChar q c).length) m ≤ m + l.length := fun l => by
    induction l with
    | nil => intro m _; exact Nat.le_refl _
    | cons c l ih =>
      intro m h
      have := rchar_len hq (h c List.mem_cons_self)
      have := ih (m + (Builtin.Str.reprChar q c).length) fun x hx => h x (List.mem_cons_of_mem _ hx)
      rw [List.foldl_cons, List.length_cons]
      omega
  have := this a 2 cs
  show a.foldl _ 2 ≤ 100
  omega
theorem alikeT {n d : Int} (h : B40 n) (h' : B40 d) : F__law_alike [Tx0 (txt n d), Tx0 (txt n d)] = some (.bool true) := by
  refine ok_get ?_
  unfold F__law_alike S__law_alike
  tm_at "run"
  tm_at "pw"
  refine p_seq ?_
  tm_at "pw"
  refine w_d (fun z => ?_) fun z => absurd rfl z
  tm_at "pw"
  have sh := sh_T (cps_txt n d)
  refine p_repr sh (tx_txt h h') (by omega) (by simp only [sizeLine]; omega) ?_
  tm_at "pw"
  refine p_repr sh (tx_txt h h') (by omega) (by simp only [sizeLine]; omega) ?_
  tm_at "pw"
  exact p_eqStr rfl
end Lay

namespace Lay
open PySem PySem.Spec PyProof.Rows L2
local macro_rules | `(tactic| tm_at "len") => `(tactic| first | (simp only [List.length_cons, List.length_nil, sizeLine]; omega) | (simp [sizeLine]; omega) | (simp [sizeLine]; done))
local macro_rules | `(tactic| tm_at "pw1") => `(tactic| with_reducible first
  | refine s_seq ?_
  | refine o_op ?_
  | (refine o_var (d := ?d) ?e ?h; (case e => with_unfolding_all rfl))
  | tm_at "cst"
  | refine o_c ?_
  | refine o_cl ?_
  | refine o_cons ?_
  | refine o_nil ?_
  | refine s_set ?_
  | (refine s_own (by simp only [List.length_cons, List.length_nil, List.length_set]; omega) ?_)
  | refine s_ret ?_
  | refine s_if ?_
  | refine s_nop ?_
  | refine s_kill ?_
  | refine s_for ?_
  | refine o_it ?_
  | refine o_itl ?_
  | refine o_itt ?_
  | refine o_tup ?_
  | refine o_lst ?_
  | (refine And.intro (a := List.length _ ≤ sizeLine) (by tm_at "len") ?_)
  | refine o_t ?_
  | refine o_asB ?_
  | refine o_g1 ?_
  | refine o_if ?_
  | refine w_t ?_
  | refine w_f ?_
  | refine w_nt ?_
  | refine w_nf ?_
  | refine o_not ?_
  | refine o_notT ?_
  | refine o_and ?_
  | refine o_or ?_
  | refine o_un ?_
  | refine o_yes ?_
  | refine o_ch ?_
  | (refine o_callB ?_)
  | refine o_ixo ?_
  | refine o_sl ?_
  | refine o_noO ?_
  | refine o_someO ?_
  | refine o_name ?_
  | refine o_tupG ?_
  | refine o_consG ?_
  | refine o_nilG ?_
  | refine s_par ?_
  | (refine s_parM ?e ?h; (case e => with_unfolding_all rfl))
  | refine s_setG ?_
  | refine s_drop ?_
  | (refine s_retO (d := ?d) ?e ?h; (case e => with_unfolding_all rfl))
  | (refine s_mut (ds0 := ?d) ?e ?h; (case e => with_unfolding_all rfl))
  | (refine s_ins (ds0 := ?d) ?e ?h; (case e => with_unfolding_all rfl))
  | refine s_seti ?_
  | (refine s_aug (d := ?d) ?e ?h; (case e => with_unfolding_all rfl))
  | refine p_add ?_ | refine p_sub ?_ | refine p_lt ?_ | refine p_le ?_ | refine p_gt ?_ | refine p_ge ?_ | refine p_eq ?_ | refine p_ne ?_ | refine p_neg ?_ | refine p_abs ?_
  | refine p_intI ?_ | refine p_intB ?_ | refine p_lenL ?_ | refine p_lenT ?_ | refine p_tupL ?_ | refine p_tupT ?_ | refine p_lstL ?_ | refine p_lstT ?_ | refine p_isN ?_ | refine p_notN ?_
  | refine ex_two ?_
  | refine ex_int ?_ | refine ex_list ?_ | refine ex_tup ?_
  | (refine ex_ixo (ds := ?d) ?e ?h; (case e => with_unfolding_all rfl))
  | (refine ex_b (b := ?d) ?e ?h; (case e => with_unfolding_all rfl))
  | (refine ex_l (ds := ?d) ?e ?h; (case e => with_unfolding_all rfl))
  | refine o_enum ?_ | refine o_enumT ?_ | refine o_zip ?_ | refine o_zipM ?_ | refine o_rng1 ?_ | refine o_rng2 ?_
  | refine o_bor ?_ | refine o_borF ?_ | refine o_borT ?_
  | tm_at "spec")
local macro_rules | `(tactic| tm_at "pw") => `(tactic| repeat' (tm_at "pw1"))
local macro_rules | `(tactic| tm_at "pw1j") => `(tactic| with_reducible first
  | refine s_seq ?_
  | refine o_op ?_
  | (refine o_var (d := ?d) ?e ?h; (case e => with_unfolding_all rfl))
  | tm_at "cst"
  | refine o_c ?_
  | refine o_cl ?_
  | refine o_cons ?_
  | refine o_nil ?_
  | refine s_set ?_
  | (refine s_own (by simp only [List.length_cons, List.length_nil, List.length_set]; omega) ?_)
  | refine s_ret ?_
  | refine s_if ?_
  | refine s_nop ?_
  | refine s_kill ?_
  | refine s_for ?_
  | refine o_it ?_
  | refine o_itl ?_
  | refine o_itt ?_
  | refine o_tup ?_
  | refine o_lst ?_
  | (refine And.intro (a := List.length _ ≤ sizeLine) (by tm_at "len") ?_)
  | refine o_t ?_
  | refine o_asB ?_
  | refine o_g1 ?_
  | refine w_t ?_
  | refine w_f ?_
  | refine w_nt ?_
  | refine w_nf ?_
  | refine o_not ?_
  | refine o_notT ?_
  | refine o_and ?_
  | refine o_or ?_
  | refine o_un ?_
  | refine o_yes ?_
  | refine o_ch ?_
  | (refine o_callB ?_)
  | refine o_ixo ?_
  | refine o_sl ?_
  | refine o_noO ?_
  | refine o_someO ?_
  | refine o_name ?_
  | refine o_tupG ?_
  | refine o_consG ?_
  | refine o_nilG ?_
  | refine s_par ?_
  | (refine s_parM ?e ?h; (case e => with_unfolding_all rfl))
  | refine s_setG ?_
  | refine s_drop ?_
  | (refine s_retO (d := ?d) ?e ?h; (case e => with_unfolding_all rfl))
  | (refine s_mut (ds0 := ?d) ?e ?h; (case e => with_unfolding_all rfl))
  | (refine s_ins (ds0 := ?d) ?e ?h; (case e => with_unfolding_all rfl))
  | refine s_seti ?_
  | (refine s_aug (d := ?d) ?e ?h; (case e => with_unfolding_all rfl))
  | refine p_add ?_ | refine p_sub ?_ | refine p_lt ?_ | refine p_le ?_ | refine p_gt ?_ | refine p_ge ?_ | refine p_eq ?_ | refine p_ne ?_ | refine p_neg ?_ | refine p_abs ?_
  | refine p_intI ?_ | refine p_intB ?_ | refine p_lenL ?_ | refine p_lenT ?_ | refine p_tupL ?_ | refine p_tupT ?_ | refine p_lstL ?_ | refine p_lstT ?_ | refine p_isN ?_ | refine p_notN ?_
  | refine ex_two ?_
  | refine ex_int ?_ | refine ex_list ?_ | refine ex_tup ?_
  | (refine ex_ixo (ds := ?d) ?e ?h; (case e => with_unfolding_all rfl))
  | (refine ex_b (b := ?d) ?e ?h; (case e => with_unfolding_all rfl))
  | (refine ex_l (ds := ?d) ?e ?h; (case e => with_unfolding_all rfl))
  | refine o_enum ?_ | refine o_enumT ?_ | refine o_zip ?_ | refine o_zipM ?_ | refine o_rng1 ?_ | refine o_rng2 ?_
  | refine o_bor ?_ | refine o_borF ?_ | refine o_borT ?_
  | tm_at "spec")
local macro_rules | `(tactic| tm_at "pwj") => `(tactic| repeat' (tm_at "pw1j"))

local macro_rules | `(tactic| tm_at "cst") => `(tactic| with_reducible first | refine o_t01 ?_ | refine o_t11 ?_ | refine o_t21 ?_)
local macro_rules | `(tactic| tm_at "spec") => `(tactic| with_reducible first | refine p_fq0 ?_ | refine p_fq1 ?_ | refine p_two0 ?_ | refine p_two1 ?_ | refine p_hd0 ?_ | refine p_hdL0 ?_ | refine p_eqfq ?_ | refine p_nefq ?_)
local macro_rules | `(tactic| tm_at "run") => `(tactic| (refine ok_run ?_; (first | rw [env1] | rw [env2] | rw [env3] | rw [env0] | rw [env4] | rw [env5]); simp only [List.replicate_succ, List.replicate_zero]))
local macro_rules | `(tactic| tm_at "runF") => `(tactic| (refine ok_runF ?_; (first | rw [env1] | rw [env2] | rw [env3] | rw [env0] | rw [env4] | rw [env5]); simp only [List.replicate_succ, List.replicate_zero]))
local macro_rules | `(tactic| tm_at "runB") => `(tactic| (refine ok_runB ?_; (first | rw [env1] | rw [env2] | rw [env3] | rw [env0] | rw [env4] | rw [env5]); simp only [List.replicate_succ, List.replicate_zero]))
local macro_rules | `(tactic| tm_at "runBF") => `(tactic| (refine ok_runBF ?_; (first | rw [env1] | rw [env2] | rw [env3] | rw [env0] | rw [env4] | rw [env5]); simp only [List.replicate_succ, List.replicate_zero]))

theorem p_powI {a b : Int} {Q : D → Prop} (l : 0 ≤ b ∧ b ≤ 1000000 ∧ a.natAbs < 2 ^ 64) (h : Q (.int (a ^ b.toNat))) : Ok (powD (.int a) (.int b)) Q := ⟨_, by unfold powD iiD; simp only; rw [if_pos (decide_eq_true l)], h⟩
theorem divInt_sz {n : Int} {d : Nat} {s : Nat} (hn : n.natAbs < 2 ^ s) (h0 : 0 < d) (hd : d < 2 ^ s) : Sz s (Rat.divInt n (d : Nat)) := by
  constructor
  · rw [Rat.num_divInt]
    have e : ((d : Int).sign * n / (Int.gcd (d : Int) n : Nat)).natAbs ≤ n.natAbs := by
      rw [Int.sign_eq_one_of_pos (by omega), Int.one_mul]
      exact Int.natAbs_ediv_le_natAbs n _
    exact Nat.lt_of_le_of_lt e hn
  · rw [Rat.den_divInt, if_neg (by omega)]
    exact Nat.lt_of_le_of_lt (Nat.div_le_self _ _) hd
theorem sz_f40 {q : Rat} (h : Sz 62 q) : F40 q := ⟨Nat.lt_of_lt_of_le h.1 (by decide), by unfold B40; rw [Int.natAbs_natCast]; exact Nat.lt_of_lt_of_le h.2 (by decide)⟩
theorem num_s61 {a : Rat} (h : Num a) : Sz 61 a := (h.1.sn NNp (n := 61) (d := 21) (by decide) (by decide)).sz (by omega) (by omega)
theorem sz_negF {s : Nat} {q : Rat} (h : Sz s q) : Sz s (-q) := ⟨by rw [Rat.neg_num, Int.natAbs_neg]; exact h.1, by rw [Rat.neg_den]; exact h.2⟩
theorem fq_neg (q : Rat) : (.tuple [.int (-q.num), .int (q.den : Nat)] : D) = fq (-q) := rfl
set_option maxHeartbeats 2000000 in
theorem anyf_sp {m : Nat} {b : D} {Q : D → D → Prop} (hb : Bag m b) (hm : m + 10 < 990000) (k : ∀ q b', Sz 62 q → Bag (m + 10) b' → Q (fq q) b') : OkB (F__law_any_fraction b []) Q := by
  unfold F__law_any_fraction S__law_any_fraction
  tm_at "runB"
  tm_at "pw"
  refine number_sp (most := 20) hb (by omega) (by omega) (by omega) fun x b1 hx B1 => ?_
  tm_at "pw"
  refine take_sp (many := 6) B1 (by omega) (by omega) (by omega) fun v b2 hv B2 => ?_
  tm_at "pw"
  have fin : ∀ (q : Rat) (b3 : D) (P : D → D → Prop), Sz 62 q → Bag (m + 6) b3 → (∀ q b', Sz 62 q → Bag (m + 10) b' → P (fq q) b') →
      OkS (seqS (ifS (tE (opE eqD (callB F__law_take 0 (consA (cE (.int 8)) (nilA))) (cE (.int 0)))) (seqS (retS (tupE (consA (cE (.int 0)) (consA (cE (.int 1)) (nilA))))) (nopS)) (nopS))
        (seqS (retS (ifE (tE (opE eqD (callB F__law_take 0 (consA (cE (.int 3)) (nilA))) (cE (.int 0)))) (tupE (consA (unE negD (opE ixD (varE 1) (cE (.int 0)))) (consA (opE ixD (varE 1) (cE (.int 1))) (nilA)))) (varE 1))) (nopS)) [some b3, some (fq q)]) (At0 P .none) (At0 P) (fun _ => False) (fun _ => False) := fun q b3 P hq B3 k => by
    tm_at "pw"
    refine take_sp (many := 8) B3 (by omega) (by omega) (by omega) fun v b4 hv B4 => ?_
    tm_at "pw"
    refine w_d (fun z => ?_) fun z => ?_
    · tm_at "pw"
      exact at0 rfl (k 0 b4 (sz0.mono (by omega)) (B4.mono (by omega)))
    · tm_at "pw"
      refine take_sp (many := 3) B4 (by omega) (by omega) (by omega) fun v b5 hv B5 => ?_
      tm_at "pw"
      refine w_d (fun z => ?_) fun z => ?_
      · tm_at "pw"
        rw [fq_neg]
        exact at0 rfl (k _ b5 (sz_negF hq) (B5.mono (by omega)))
      · tm_at "pw"
        exact at0 rfl (k q b5 hq (B5.mono (by omega)))
  refine w_d (fun z => ?_) fun z => ?_
  · tm_at "pw"
    refine p_powI (by decide) ?_
    tm_at "pw"
    refine take_sp (many := 999) B2 (by omega) (by omega) (by omega) fun v b3 hv B3 => ?_
    tm_at "pw"
    refine p_powI (by decide) ?_
    tm_at "pw"
    rw [show ((10 : Int) ^ (9 : Int).toNat) = ((1000000000 : Nat) : Int) from rfl]
    refine take_sp (many := 1000000000) B3 (by omega) (by omega) (by omega) fun w b4 hw B4 => ?_
    tm_at "pw"
    rw [show ((10 : Int) ^ (12 : Int).toNat) = 1000000000000 from rfl, show 1 + (w : Int) = ((1 + w : Nat) : Int) by omega]
    refine ok_eq (lred_eq _ _ (by omega) (by
      have : (((1 + w : Nat) : Int)).natAbs.log2 ≤ 40 := log2_of (by rw [Int.natAbs_natCast]; omega)
      omega)) ?_
    refine s_nop ?_
    exact fin (Rat.divInt (1000000000000 - (v : Int)) ((1 + w : Nat) : Int)) _ Q (divInt_sz (n := 1000000000000 - (v : Int)) (d := 1 + w) (by omega) (by omega) (by omega)) (B4.mono (by omega)) k
  · refine s_nop ?_
    exact fin _ _ Q ((num_s61 hx).mono (by omega)) (B2.mono (by omega)) k
end Lay

namespace Lay
open PySem PySem.Spec PyProof.Rows L2
local macro_rules | `(tactic| tm_at "len") => `(tactic| first | (simp only [List.length_cons, List.length_nil, sizeLine]; omega) | (simp [sizeLine]; omega) | (simp [sizeLine]; done))
local macro_rules | `(tactic| tm_at "pw1") => `(tactic| with_reducible first
  | refine s_seq ?_
  | refine o_op ?_
  | (refine o_var (d := ?d) ?e ?h; (case e => with_unfolding_all rfl))
  | tm_at "cst"
  | refine o_c ?_
  | refine o_cl ?_
  | refine o_cons ?_
  | refine o_nil ?_
  | refine s_set ?_
  | (refine s_own (by simp only [List.length_cons, List.length_nil, List.length_set]; omega) ?_)
  | refine s_ret ?_
  | refine s_if ?_
  | refine s_nop ?_
  | refine s_kill ?_
  | refine s_for ?_
  | refine o_it ?_
  | refine o_itl ?_
  | refine o_itt ?_
  | refine o_tup ?_
  | refine o_lst ?_
  | (refine And.intro (a := List.length _ ≤ sizeLine) (by tm_at "len") ?_)
  | refine o_t ?_
  | refine o_asB ?_
  | refine o_g1 ?_
  | refine o_if ?_
  | refine w_t ?_
  | refine w_f ?_
  | refine w_nt ?_
  | refine w_nf ?_
  | refine o_not ?_
  | refine o_notT ?_
  | refine o_and ?_
  | refine o_or ?_
  | refine o_un ?_
  | refine o_yes ?_
  | refine o_ch ?_
  | (refine o_callB ?_)
  | refine o_ixo ?_
  | refine o_sl ?_
  | refine o_noO ?_
  | refine o_someO ?_
  | refine o_name ?_
  | refine o_tupG ?_
  | refine o_consG ?_
  | refine o_nilG ?_
  | refine s_par ?_
  | (refine s_parM ?e ?h; (case e => with_unfolding_all rfl))
  | refine s_setG ?_
  | refine s_drop ?_
  | (refine s_retO (d := ?d) ?e ?h; (case e => with_unfolding_all rfl))
  | (refine s_mut (ds0 := ?d) ?e ?h; (case e => with_unfolding_all rfl))
  | (refine s_ins (ds0 := ?d) ?e ?h; (case e => with_unfolding_all rfl))
  | refine s_seti ?_
  | (refine s_aug (d := ?d) ?e ?h; (case e => with_unfolding_all rfl))
  | refine p_add ?_ | refine p_sub ?_ | refine p_lt ?_ | refine p_le ?_ | refine p_gt ?_ | refine p_ge ?_ | refine p_eq ?_ | refine p_ne ?_ | refine p_neg ?_ | refine p_abs ?_
  | refine p_intI ?_ | refine p_intB ?_ | refine p_lenL ?_ | refine p_lenT ?_ | refine p_tupL ?_ | refine p_tupT ?_ | refine p_lstL ?_ | refine p_lstT ?_ | refine p_isN ?_ | refine p_notN ?_
  | refine ex_two ?_
  | refine ex_int ?_ | refine ex_list ?_ | refine ex_tup ?_
  | (refine ex_ixo (ds := ?d) ?e ?h; (case e => with_unfolding_all rfl))
  | (refine ex_b (b := ?d) ?e ?h; (case e => with_unfolding_all rfl))
  | (refine ex_l (ds := ?d) ?e ?h; (case e => with_unfolding_all rfl))
  | refine o_enum ?_ | refine o_enumT ?_ | refine o_zip ?_ | refine o_zipM ?_ | refine o_rng1 ?_ | refine o_rng2 ?_
  | refine o_bor ?_ | refine o_borF ?_ | refine o_borT ?_
  | tm_at "spec")
local macro_rules | `(tactic| tm_at "pw") => `(tactic| repeat' (tm_at "pw1"))
local macro_rules | `(tactic| tm_at "pw1j") => `(tactic| with_reducible first
  | refine s_seq ?_
  | refine o_op ?_
  | (refine o_var (d := ?d) ?e ?h; (case e => with_unfolding_all rfl))
  | tm_at "cst"
  | refine o_c ?_
  | refine o_cl ?_
  | refine o_cons ?_
  | refine o_nil ?_
  | refine s_set ?_
  | (refine s_own (by simp only [List.length_cons, List.length_nil, List.length_set]; omega) ?_)
  | refine s_ret ?_
  | refine s_if ?_
  | refine s_nop ?_
  | refine s_kill ?_
  | refine s_for ?_
  | refine o_it ?_
  | refine o_itl ?_
  | refine o_itt ?_
  | refine o_tup ?_
  | refine o_lst ?_
  | (refine And.intro (a := List.length _ ≤ sizeLine) (by tm_at "len") ?_)
  | refine o_t ?_
  | refine o_asB ?_
  | refine o_g1 ?_
  | refine w_t ?_
  | refine w_f ?_
  | refine w_nt ?_
  | refine w_nf ?_
  | refine o_not ?_
  | refine o_notT ?_
  | refine o_and ?_
  | refine o_or ?_
  | refine o_un ?_
  | refine o_yes ?_
  | refine o_ch ?_
  | (refine o_callB ?_)
  | refine o_ixo ?_
  | refine o_sl ?_
  | refine o_noO ?_
  | refine o_someO ?_
  | refine o_name ?_
  | refine o_tupG ?_
  | refine o_consG ?_
  | refine o_nilG ?_
  | refine s_par ?_
  | (refine s_parM ?e ?h; (case e => with_unfolding_all rfl))
  | refine s_setG ?_
  | refine s_drop ?_
  | (refine s_retO (d := ?d) ?e ?h; (case e => with_unfolding_all rfl))
  | (refine s_mut (ds0 := ?d) ?e ?h; (case e => with_unfolding_all rfl))
  | (refine s_ins (ds0 := ?d) ?e ?h; (case e => with_unfolding_all rfl))
  | refine s_seti ?_
  | (refine s_aug (d := ?d) ?e ?h; (case e => with_unfolding_all rfl))
  | refine p_add ?_ | refine p_sub ?_ | refine p_lt ?_ | refine p_le ?_ | refine p_gt ?_ | refine p_ge ?_ | refine p_eq ?_ | refine p_ne ?_ | refine p_neg ?_ | refine p_abs ?_
  | refine p_intI ?_ | refine p_intB ?_ | refine p_lenL ?_ | refine p_lenT ?_ | refine p_tupL ?_ | refine p_tupT ?_ | refine p_lstL ?_ | refine p_lstT ?_ | refine p_isN ?_ | refine p_notN ?_
  | refine ex_two ?_
  | refine ex_int ?_ | refine ex_list ?_ | refine ex_tup ?_
  | (refine ex_ixo (ds := ?d) ?e ?h; (case e => with_unfolding_all rfl))
  | (refine ex_b (b := ?d) ?e ?h; (case e => with_unfolding_all rfl))
  | (refine ex_l (ds := ?d) ?e ?h; (case e => with_unfolding_all rfl))
  | refine o_enum ?_ | refine o_enumT ?_ | refine o_zip ?_ | refine o_zipM ?_ | refine o_rng1 ?_ | refine o_rng2 ?_
  | refine o_bor ?_ | refine o_borF ?_ | refine o_borT ?_
  | tm_at "spec")
local macro_rules | `(tactic| tm_at "pwj") => `(tactic| repeat' (tm_at "pw1j"))

local macro_rules | `(tactic| tm_at "cst") => `(tactic| with_reducible first | refine o_t01 ?_ | refine o_t11 ?_ | refine o_t21 ?_)
local macro_rules | `(tactic| tm_at "spec") => `(tactic| with_reducible first | refine p_fq0 ?_ | refine p_fq1 ?_ | refine p_two0 ?_ | refine p_two1 ?_ | refine p_hd0 ?_ | refine p_hdL0 ?_ | refine p_eqfq ?_ | refine p_nefq ?_)
local macro_rules | `(tactic| tm_at "run") => `(tactic| (refine ok_run ?_; (first | rw [env1] | rw [env2] | rw [env3] | rw [env0] | rw [env4] | rw [env5]); simp only [List.replicate_succ, List.replicate_zero]))
local macro_rules | `(tactic| tm_at "runF") => `(tactic| (refine ok_runF ?_; (first | rw [env1] | rw [env2] | rw [env3] | rw [env0] | rw [env4] | rw [env5]); simp only [List.replicate_succ, List.replicate_zero]))
local macro_rules | `(tactic| tm_at "runB") => `(tactic| (refine ok_runB ?_; (first | rw [env1] | rw [env2] | rw [env3] | rw [env0] | rw [env4] | rw [env5]); simp only [List.replicate_succ, List.replicate_zero]))
local macro_rules | `(tactic| tm_at "runBF") => `(tactic| (refine ok_runBF ?_; (first | rw [env1] | rw [env2] | rw [env3] | rw [env0] | rw [env4] | rw [env5]); simp only [List.replicate_succ, List.replicate_zero]))

def TokD (d : D) : Prop := ∃ a, d = Tx0 a ∧ Tok0 a
theorem tok_c (x : Str) (h : (decide (x.cps.toList.length ≤ 300) && x.cps.toList.all (· < 1114112)) = true) : TokD (.str x) := by
  rw [Bool.and_eq_true, decide_eq_true_eq] at h
  exact ⟨x.cps.toList, by show PyData.str x = .str (SX.S x.cps.toList); rw [SX.S_tl], h.1, fun c hc => by simpa using List.all_eq_true.mp h.2 c hc⟩
theorem tok_l {a : List Nat} (l : a.length ≤ 300) (c : Cps a) : TokD (Tx0 a) := ⟨a, rfl, l, c⟩
theorem tok_cons {d : D} {ds : List D} (h : TokD d) (h' : ∀ x ∈ ds, TokD x) : ∀ x ∈ d :: ds, TokD x := fun x hx => by
  rcases List.mem_cons.mp hx with rfl | hx
  · exact h
  · exact h' x hx
theorem tok_nil : ∀ x ∈ ([] : List D), TokD x := fun x hx => (List.not_mem_nil hx).elim
theorem cps_rep {n k : Nat} (h : k < 1114112) : Cps (List.replicate n k) := fun c hc => by rw [List.eq_of_mem_replicate hc]; exact h
theorem cps_cons {c : Nat} {l : List Nat} (h : c < 1114112) (h' : Cps l) : Cps (c :: l) := fun x hx => by
  rcases List.mem_cons.mp hx with rfl | hx
  · exact h
  · exact h' x hx
theorem cps_dec {a : List Nat} (h : a.all (· < 1114112) = true) : Cps a := fun c hc => by simpa using List.all_eq_true.mp h c hc
set_option maxHeartbeats 4000000 in
theorem texts_sp {m : Nat} {b : D} {q : Rat} {Q : D → D → Prop} (hq : Sz 62 q) (hb : Bag m b) (hm : m + 40 < 990000) (k : ∀ (as : List (List Nat)) b', (∀ a ∈ as, Tok0 a) → Bag (m + 40) b' → Q (.list (as.map Tx0)) b') : OkB (F__law_texts b [fq q]) Q := by
  have f := sz_f40 hq
  have tl := txt_len f.n f.d
  have tc := cps_txt q.num q.den
  unfold F__law_texts S__law_texts
  tm_at "runB"
  tm_at "pw"
  refine ok_eq (ltext_eq f.n f.d) ?_
  generalize txt q.num q.den = t at *
  tm_at "pw"
  refine p_catS (a := [32]) (by simp; omega) ?_
  tm_at "pw"
  refine p_catS (b := [32]) (by simp; omega) ?_
  tm_at "pw"
  refine p_catS (a := [43]) (by simp; omega) ?_
  tm_at "pw"
  refine p_catS (a := [45]) (by simp; omega) ?_
  tm_at "pw"
  refine p_catS (a := [48]) (by simp; omega) ?_
  tm_at "pw"
  refine p_catS (b := [47, 49]) (by simp; omega) ?_
  tm_at "pw"
  refine p_catS (b := [47, 48]) (by simp; omega) ?_
  tm_at "pw"
  refine p_repl tl tc fun rp hrp => ?_
  tm_at "pw"
  refine p_catS (b := [48]) (by simp; omega) ?_
  tm_at "pw"
  refine p_rep (k := 57) (n := 40) (by omega) ?_
  tm_at "pw"
  refine p_rep (k := 57) (n := 41) (by omega) ?_
  tm_at "pw"
  refine p_rep (k := 55) (n := 40) (by omega) ?_
  tm_at "pw"
  refine p_catS (a := [49, 47]) (by simp) ?_
  tm_at "pw"
  refine p_rep (k := 55) (n := 41) (by omega) ?_
  tm_at "pw"
  refine p_catS (a := [49, 47]) (by simp) ?_
  tm_at "pw"
  refine o_ext (by simp [sizeLine]) ?_
  tm_at "pw"
  refine p_rep (k := 57) (n := 40) (by omega) ?_
  tm_at "pw"
  refine p_catS (a := [45]) (by simp) ?_
  tm_at "pw"
  refine p_rep (k := 57) (n := 41) (by omega) ?_
  tm_at "pw"
  refine p_catS (a := [45]) (by simp) ?_
  tm_at "pw"
  refine o_ext (by simp [sizeLine]) ?_
  tm_at "pw"
  refine mixed_sp (.inl rfl) hb (by simp; omega) (by simp) fun es b2 hp B2 => ?_
  have all : ∀ e ∈ es, TokD e := fun e he => by
    have he2 := hp.mem_iff.mp he
    clear he hp B2
    revert e
    simp only [List.cons_append, List.nil_append]
    repeat' (first | exact tok_nil | refine tok_cons ?_ ?_)
    all_goals first
      | exact tok_c _ (by decide +kernel)
      | exact ⟨rp, rfl, hrp⟩
      | exact tok_l (by first | omega | (simp; done) | (simp; omega)) (by first | exact tc | exact Cps.app tc (cps_dec rfl) | exact cps_rep (by omega) | exact cps_cons (by omega) tc | exact cps_cons (by omega) (cps_rep (by omega)) | exact cps_cons (by omega) (cps_cons (by omega) (cps_rep (by omega))))
  obtain ⟨as, rfl, has⟩ : ∃ as : List (List Nat), es = as.map Tx0 ∧ ∀ a ∈ as, Tok0 a := by
    clear hp
    induction es with
    | nil => exact ⟨[], rfl, fun a h => (List.not_mem_nil h).elim⟩
    | cons e es ih =>
      obtain ⟨a, rfl, ha⟩ := all e List.mem_cons_self
      obtain ⟨bs, rfl, hbs⟩ := ih fun e he => all e (List.mem_cons_of_mem _ he)
      exact ⟨a :: bs, rfl, fun c hc => by
        rcases List.mem_cons.mp hc with rfl | hc
        · exact ha
        · exact hbs c hc⟩
  tm_at "pw"
  refine p_takeL (n := 9) ?_
  rw [← List.map_take]
  exact at0 rfl (k _ b2 (fun a ha => has a (List.mem_of_mem_take ha)) (B2.mono (by simp)))
end Lay

namespace Lay
open PySem PySem.Spec PyProof.Rows L2
local macro_rules | `(tactic| tm_at "len") => `(tactic| first | (simp only [List.length_cons, List.length_nil, sizeLine]; omega) | (simp [sizeLine]; omega) | (simp [sizeLine]; done))
local macro_rules | `(tactic| tm_at "pw1") => `(tactic| with_reducible first
  | refine s_seq ?_
  | refine o_op ?_
  | (refine o_var (d := ?d) ?e ?h; (case e => with_unfolding_all rfl))
  | tm_at "cst"
  | refine o_c ?_
  | refine o_cl ?_
  | refine o_cons ?_
  | refine o_nil ?_
  | refine s_set ?_
  | (refine s_own (by simp only [List.length_cons, List.length_nil, List.length_set]; omega) ?_)
  | refine s_ret ?_
  | refine s_if ?_
  | refine s_nop ?_
  | refine s_kill ?_
  | refine s_for ?_
  | refine o_it ?_
  | refine o_itl ?_
  | refine o_itt ?_
  | refine o_tup ?_
  | refine o_lst ?_
  | (refine And.intro (a := List.length _ ≤ sizeLine) (by tm_at "len") ?_)
  | refine o_t ?_
  | refine o_asB ?_
  | refine o_g1 ?_
  | refine o_if ?_
  | refine w_t ?_
  | refine w_f ?_
  | refine w_nt ?_
  | refine w_nf ?_
  | refine o_not ?_
  | refine o_notT ?_
  | refine o_and ?_
  | refine o_or ?_
  | refine o_un ?_
  | refine o_yes ?_
  | refine o_ch ?_
  | (refine o_callB ?_)
  | refine o_ixo ?_
  | refine o_sl ?_
  | refine o_noO ?_
  | refine o_someO ?_
  | refine o_name ?_
  | refine o_tupG ?_
  | refine o_consG ?_
  | refine o_nilG ?_
  | refine s_par ?_
  | (refine s_parM ?e ?h; (case e => with_unfolding_all rfl))
  | refine s_setG ?_
  | refine s_drop ?_
  | (refine s_retO (d := ?d) ?e ?h; (case e => with_unfolding_all rfl))
  | (refine s_mut (ds0 := ?d) ?e ?h; (case e => with_unfolding_all rfl))
  | (refine s_ins (ds0 := ?d) ?e ?h; (case e => with_unfolding_all rfl))
  | refine s_seti ?_
  | (refine s_aug (d := ?d) ?e ?h; (case e => with_unfolding_all rfl))
  | refine p_add ?_ | refine p_sub ?_ | refine p_lt ?_ | refine p_le ?_ | refine p_gt ?_ | refine p_ge ?_ | refine p_eq ?_ | refine p_ne ?_ | refine p_neg ?_ | refine p_abs ?_
  | refine p_intI ?_ | refine p_intB ?_ | refine p_lenL ?_ | refine p_lenT ?_ | refine p_tupL ?_ | refine p_tupT ?_ | refine p_lstL ?_ | refine p_lstT ?_ | refine p_isN ?_ | refine p_notN ?_
  | refine ex_two ?_
  | refine ex_int ?_ | refine ex_list ?_ | refine ex_tup ?_
  | (refine ex_ixo (ds := ?d) ?e ?h; (case e => with_unfolding_all rfl))
  | (refine ex_b (b := ?d) ?e ?h; (case e => with_unfolding_all rfl))
  | (refine ex_l (ds := ?d) ?e ?h; (case e => with_unfolding_all rfl))
  | refine o_enum ?_ | refine o_enumT ?_ | refine o_zip ?_ | refine o_zipM ?_ | refine o_rng1 ?_ | refine o_rng2 ?_
  | refine o_bor ?_ | refine o_borF ?_ | refine o_borT ?_
  | tm_at "spec")
local macro_rules | `(tactic| tm_at "pw") => `(tactic| repeat' (tm_at "pw1"))
local macro_rules | `(tactic| tm_at "pw1j") => `(tactic| with_reducible first
  | refine s_seq ?_
  | refine o_op ?_
  | (refine o_var (d := ?d) ?e ?h; (case e => with_unfolding_all rfl))
  | tm_at "cst"
  | refine o_c ?_
  | refine o_cl ?_
  | refine o_cons ?_
  | refine o_nil ?_
  | refine s_set ?_
  | (refine s_own (by simp only [List.length_cons, List.length_nil, List.length_set]; omega) ?_)
  | refine s_ret ?_
  | refine s_if ?_
  | refine s_nop ?_
  | refine s_kill ?_
  | refine s_for ?_
  | refine o_it ?_
  | refine o_itl ?_
  | refine o_itt ?_
  | refine o_tup ?_
  | refine o_lst ?_
  | (refine And.intro (a := List.length _ ≤ sizeLine) (by tm_at "len") ?_)
  | refine o_t ?_
  | refine o_asB ?_
  | refine o_g1 ?_
  | refine w_t ?_
  | refine w_f ?_
  | refine w_nt ?_
  | refine w_nf ?_
  | refine o_not ?_
  | refine o_notT ?_
  | refine o_and ?_
  | refine o_or ?_
  | refine o_un ?_
  | refine o_yes ?_
  | refine o_ch ?_
  | (refine o_callB ?_)
  | refine o_ixo ?_
  | refine o_sl ?_
  | refine o_noO ?_
  | refine o_someO ?_
  | refine o_name ?_
  | refine o_tupG ?_
  | refine o_consG ?_
  | refine o_nilG ?_
  | refine s_par ?_
  | (refine s_parM ?e ?h; (case e => with_unfolding_all rfl))
  | refine s_setG ?_
  | refine s_drop ?_
  | (refine s_retO (d := ?d) ?e ?h; (case e => with_unfolding_all rfl))
  | (refine s_mut (ds0 := ?d) ?e ?h; (case e => with_unfolding_all rfl))
  | (refine s_ins (ds0 := ?d) ?e ?h; (case e => with_unfolding_all rfl))
  | refine s_seti ?_
  | (refine s_aug (d := ?d) ?e ?h; (case e => with_unfolding_all rfl))
  | refine p_add ?_ | refine p_sub ?_ | refine p_lt ?_ | refine p_le ?_ | refine p_gt ?_ | refine p_ge ?_ | refine p_eq ?_ | refine p_ne ?_ | refine p_neg ?_ | refine p_abs ?_
  | refine p_intI ?_ | refine p_intB ?_ | refine p_lenL ?_ | refine p_lenT ?_ | refine p_tupL ?_ | refine p_tupT ?_ | refine p_lstL ?_ | refine p_lstT ?_ | refine p_isN ?_ | refine p_notN ?_
  | refine ex_two ?_
  | refine ex_int ?_ | refine ex_list ?_ | refine ex_tup ?_
  | (refine ex_ixo (ds := ?d) ?e ?h; (case e => with_unfolding_all rfl))
  | (refine ex_b (b := ?d) ?e ?h; (case e => with_unfolding_all rfl))
  | (refine ex_l (ds := ?d) ?e ?h; (case e => with_unfolding_all rfl))
  | refine o_enum ?_ | refine o_enumT ?_ | refine o_zip ?_ | refine o_zipM ?_ | refine o_rng1 ?_ | refine o_rng2 ?_
  | refine o_bor ?_ | refine o_borF ?_ | refine o_borT ?_
  | tm_at "spec")
local macro_rules | `(tactic| tm_at "pwj") => `(tactic| repeat' (tm_at "pw1j"))

local macro_rules | `(tactic| tm_at "cst") => `(tactic| with_reducible first | refine o_t01 ?_ | refine o_t11 ?_ | refine o_t21 ?_)
local macro_rules | `(tactic| tm_at "spec") => `(tactic| with_reducible first | refine p_fq0 ?_ | refine p_fq1 ?_ | refine p_two0 ?_ | refine p_two1 ?_ | refine p_hd0 ?_ | refine p_hdL0 ?_ | refine p_eqfq ?_ | refine p_nefq ?_)
local macro_rules | `(tactic| tm_at "run") => `(tactic| (refine ok_run ?_; (first | rw [env1] | rw [env2] | rw [env3] | rw [env0] | rw [env4] | rw [env5]); simp only [List.replicate_succ, List.replicate_zero]))
local macro_rules | `(tactic| tm_at "runF") => `(tactic| (refine ok_runF ?_; (first | rw [env1] | rw [env2] | rw [env3] | rw [env0] | rw [env4] | rw [env5]); simp only [List.replicate_succ, List.replicate_zero]))
local macro_rules | `(tactic| tm_at "runB") => `(tactic| (refine ok_runB ?_; (first | rw [env1] | rw [env2] | rw [env3] | rw [env0] | rw [env4] | rw [env5]); simp only [List.replicate_succ, List.replicate_zero]))
local macro_rules | `(tactic| tm_at "runBF") => `(tactic| (refine ok_runBF ?_; (first | rw [env1] | rw [env2] | rw [env3] | rw [env0] | rw [env4] | rw [env5]); simp only [List.replicate_succ, List.replicate_zero]))

theorem fq_parts {n : Int} {d : Nat} {q : Rat} (h : (.tuple [.int n, .int (d : Nat)] : D) = fq q) : q.num = n ∧ q.den = d := by
  unfold fq at h
  simp only [PyData.tuple.injEq, List.cons.injEq, PyData.int.injEq, and_true] at h
  exact ⟨h.1.symm, by omega⟩
theorem near_far {k : Nat} (h : k < 2 ^ 60) (h0 : 0 < k) : ∃ qn qf : Rat, qn < qf ∧ Sz 62 qn ∧ Sz 62 qf ∧ (.tuple [.int ((k + 2 : Nat) : Int), .int ((k + 1 : Nat) : Int)] : D) = fq qn ∧ (.tuple [.int ((k + 1 : Nat) : Int), .int ((k : Nat) : Int)] : D) = fq qf := by
  have e1 := fq_lit (p := k + 2) (d := k + 1) (by omega) (by rw [show k + 2 = (k + 1) + 1 by omega]; simp)
  have e2 := fq_lit (p := k + 1) (d := k) (by omega) (by simp)
  obtain ⟨n1, d1⟩ := fq_parts e1
  obtain ⟨n2, d2⟩ := fq_parts e2
  refine ⟨_, _, ?_, ⟨?_, ?_⟩, ⟨?_, ?_⟩, e1, e2⟩
  · rw [Rat.lt_iff, n1, d1, n2, d2]
    have : (k + 2) * k < (k + 1) * (k + 1) := by
      simp only [Nat.add_mul, Nat.mul_add]
      omega
    exact_mod_cast this
  all_goals simp only [n1, d1, n2, d2]; omega
theorem tx_small {i : Int} (h : i.natAbs < 2 ^ 62) : Tx 1921 (.int i) := tx_int (by have := log2_of h; omega)
/-- ints and fractions in a list -/
def Ent (d : D) : Prop := (∃ i : Int, d = .int i ∧ i.natAbs < 2 ^ 62) ∨ ∃ q : Rat, d = fq q ∧ Sz 1000 q
theorem alikeE {ds : List D} (h : ∀ d ∈ ds, Ent d) (hl : ds.length ≤ 6) : F__law_alike [.list ds, .list ds] = some (.bool true) := by
  refine alike_eq (k := 2) (B := 23116) (sh_list fun d hd => ?_) ((tx_list (B := 3850) (n := 6) (fun d hd => ?_) hl).mono (by omega)) (by omega) (by simp only [sizeLine]; omega) (fun a z => by cases z)
  · rcases h d hd with ⟨i, rfl, _⟩ | ⟨q, rfl, _⟩
    · exact (sh_int i).mono (by omega)
    · exact sh_fq q
  · rcases h d hd with ⟨i, rfl, hi⟩ | ⟨q, rfl, hq⟩
    · exact (tx_small hi).mono (by omega)
    · exact tx_fq (hq.mono (by omega))
theorem cmp_e0' {a b : Rat} : cmpR a b = 0 ↔ a = b := by
  unfold cmpR
  split
  · rename_i h; simp; grind
  · split
    · rename_i h; simp; grind
    · simp; grind
theorem cmp_int (a b : Rat) : cmpR a b = (if decide (b < a) = true then (1 : Int) else 0) - (if decide (a < b) = true then 1 else 0) := by
  unfold cmpR
  by_cases h : a < b
  · rw [if_pos h]
    simp [h, show ¬ b < a by grind]
  · rw [if_neg h]
    by_cases k : b < a
    · simp [h, k]
    · simp [h, k]
theorem red_times {q : Rat} {f : Int} (hf : f ≠ 0) : Rat.divInt (q.num * f) ((q.den : Int) * f) = q := by
  rw [Rat.divInt_mul_right hf, Rat.num_divInt_den]
theorem w_andN {p : Prop} [Decidable p] {t : XT} {ρ : En} {PT : Bool → En → Prop} (h1 : p → OkE (t ρ) fun b ρ1 => b = true ∧ ρ1 = ρ) (h : PT false ρ) : (decide p = true → OkE (notT t ρ) PT) ∧ (decide p = false → PT false ρ) := by
  refine ⟨fun z => ?_, fun _ => h⟩
  obtain ⟨b, ρ1, e, rfl, rfl⟩ := h1 (of_decide_eq_true z)
  exact o_notT ⟨_, _, e, h⟩
theorem alikeF {q : Rat} (h : Sz 1900 q) : F__law_alike [fq q, fq q] = some (.bool true) := alike_eq (k := 1) (B := 3850) (sh_fq q) (tx_fq h) (by omega) (by simp only [sizeLine]; omega) (fun a z => by cases z)
set_option maxHeartbeats 8000000 in
theorem law_true (ns : List Int) : F_law [.list (ns.map .int)] = some (.bool true) := by
  obtain ⟨b0, e0, B0⟩ := bag_ok ns
  refine ok_get ?_
  unfold F_law S_law
  tm_at "run"
  tm_at "pw"
  refine ok_eq e0 ?_
  tm_at "pw"
  refine p_powI (by decide) ?_
  tm_at "pw"
  refine take_sp (many := 999) B0 (by omega) (by omega) (by omega) fun v b1 hv B1 => ?_
  tm_at "pw"
  obtain ⟨qn, qf, hlt, zn, zf, en, ef⟩ := near_far (k := 99999999999 + v) (by omega) (by omega)
  rw [show (10 : Int) ^ (11 : Int).toNat + (v : Int) = ((99999999999 + v + 1 : Nat) : Int) by
    rw [show (10 : Int) ^ (11 : Int).toNat = 100000000000 from rfl]; omega]
  rw [show ((99999999999 + v + 1 : Nat) : Int) + 1 = ((99999999999 + v + 2 : Nat) : Int) by omega, show ((99999999999 + v + 1 : Nat) : Int) - 1 = ((99999999999 + v : Nat) : Int) by omega, en, ef]
  have c1 : cmpR qn qf = -1 := by unfold cmpR; rw [if_pos hlt]
  have c2 : cmpR qf qn = 1 := by unfold cmpR; rw [if_neg (by grind), if_pos hlt]
  tm_at "pw"
  refine ok_eq (compared_eq zn zf (by omega)) ?_
  tm_at "pw"
  refine ok_eq (compared_eq zf zn (by omega)) ?_
  tm_at "pw"
  obtain ⟨m1, i1, a1, e1⟩ := least_eq (s := 62) (xs := [qf, qn]) (.inl rfl) (by simp [zn, zf]) (by omega) (by simp)
  have : m1 = qn := by have := a1 qn (by simp); simp at i1; grind
  subst this
  refine ok_eq e1 ?_
  tm_at "pw"
  obtain ⟨m2, i2, a2, e2⟩ := most_eq (s := 62) (xs := [m1, qf]) (.inr rfl) (by simp [zn, zf]) (by omega) (by simp)
  have : m2 = qf := by have := a2 qf (by simp); simp at i2; grind
  subst this
  refine ok_eq e2 ?_
  tm_at "pw"
  rw [c1, c2]
  refine ok_eq (alikeE (fun d hd => ?_) (by simp)) ?_
  · simp only [List.mem_cons, List.not_mem_nil, or_false] at hd
    rcases hd with rfl | rfl | rfl | rfl
    · exact .inl ⟨_, rfl, by decide⟩
    · exact .inl ⟨_, rfl, by decide⟩
    · exact .inr ⟨_, rfl, zn.mono (by omega)⟩
    · exact .inr ⟨_, rfl, zf.mono (by omega)⟩
  tm_at "pw"
  refine ⟨3, rfl, by omega, ?_⟩
  refine l_on (xs := List.range 3) (e := fun i => .int (i : Nat)) (fun pre ρ => ∃ b, ρ = [some (.list (ns.map .int)), some b, some (.int ((99999999999 + v + 1 : Nat) : Int)), some (fq m1), some (fq m2), none, none, none, none, none, none, none, none, none, none, none, none] ∧ Bag (1 + 200 * pre.length) b) ⟨b1, rfl, B1.mono (by simp)⟩ ?_ ?_
  · rintro ρ ⟨b, rfl, B⟩
    tm_at "pw"
    rfl
  · rintro pre i post ρ e ⟨b, rfl, B⟩
    have pl : pre.length < 3 := by
      have := congrArg List.length e
      simp at this
      omega
    tm_at "pw"
    refine anyf_sp B (by omega) fun q b2 hq B2 => ?_
    tm_at "pw"
    refine anyf_sp B2 (by omega) fun o b3 ho B3 => ?_
    tm_at "pw"
    refine p_powI (by decide) ?_
    tm_at "pw"
    refine some_sp (.inl rfl) B3 (by omega) (by simp) (by simp) fun d b4 hd B4 => ?_
    obtain ⟨f, rfl, f0, f1⟩ : ∃ f : Int, d = .int f ∧ f ≠ 0 ∧ f.natAbs < 2 ^ 31 := by
      simp only [List.mem_cons, List.not_mem_nil, or_false] at hd
      rcases hd with rfl | rfl | rfl | rfl | rfl
      · exact ⟨1, rfl, by decide, by decide⟩
      · exact ⟨-1, rfl, by decide, by decide⟩
      · exact ⟨6, rfl, by decide, by decide⟩
      · exact ⟨-35, rfl, by decide, by decide⟩
      · exact ⟨_, rfl, by decide, by decide⟩
    have lf := log2_of f1
    have ln := log2_of hq.1
    have ld := log2_of hq.2
    tm_at "pw"
    refine p_mul (by omega) ?_
    tm_at "pw"
    refine p_mul (by rw [Int.natAbs_natCast]; omega) ?_
    tm_at "pw"
    refine ok_eq (red_eq _ _ (Int.mul_ne_zero (den_ne q) f0) (by
      have := log2_mul hq.2 f1
      rw [Int.natAbs_mul, Int.natAbs_natCast]
      omega)) ?_
    rw [red_times f0]
    tm_at "pw"
    refine ok_eq (added_eq hq ho (by omega)) ?_
    tm_at "pw"
    refine ok_eq (lessened_eq hq ho (by omega)) ?_
    tm_at "pw"
    refine ok_eq (times_eq hq ho (by omega)) ?_
    tm_at "pw"
    refine ok_eq (compared_eq hq ho (by omega)) ?_
    tm_at "pw"
    refine ok_eq (ladded_eq hq ho (by omega)) ?_
    tm_at "pw"
    refine ok_eq (llessened_eq hq ho (by omega)) ?_
    tm_at "pw"
    refine ok_eq (ltimes_eq hq ho (by omega)) ?_
    tm_at "pw"
    refine ok_eq (lbelow_eq ho hq (by omega)) ?_
    tm_at "pw"
    refine ok_eq (lbelow_eq hq ho (by omega)) ?_
    tm_at "pw"
    refine o_app (by simp [sizeLine]) ?_
    tm_at "pw"
    rw [← cmp_int]
    have cz : (cmpR q o).natAbs < 2 ^ 62 := by unfold cmpR; split; decide; split <;> decide
    refine ok_eq (alikeE (fun d hd => ?_) (by simp)) ?_
    · simp only [List.mem_append, List.mem_cons, List.not_mem_nil, or_false] at hd
      rcases hd with rfl | rfl | rfl | rfl | rfl
      · exact .inr ⟨_, rfl, hq.mono (by omega)⟩
      · exact .inr ⟨_, rfl, (hq.add ho).mono (by omega)⟩
      · exact .inr ⟨_, rfl, (hq.sub ho).mono (by omega)⟩
      · exact .inr ⟨_, rfl, (hq.mul ho).mono (by omega)⟩
      · exact .inl ⟨_, rfl, cz⟩
    tm_at "pw"
    refine ok_eq (compared_eq hq hq (by omega)) ?_
    rw [show cmpR q q = 0 from cmp_e0'.mpr rfl]
    tm_at "pw"
    refine w_f ?_
    tm_at "pw"
    refine w_andN (fun z => ?_) ?_
    · have nz : o ≠ 0 := fun y => z (by rw [y]; rfl)
      tm_at "pw"
      refine ok_eq (over_eq hq ho (by omega) nz) ?_
      tm_at "pw"
      refine ok_eq (ldivided_eq hq ho (by omega) nz) ?_
      tm_at "pw"
      refine ok_eq (alikeF ((hq.div ho).mono (by omega))) ?_
      tm_at "pw"
      exact ⟨rfl, rfl⟩
    tm_at "pw"
    refine o_comp ?_
    tm_at "pw"
    refine take_sp (many := 6) B4 (by omega) (by omega) (by omega) fun w b5 hw B5 => ?_
    tm_at "pw"
    refine ⟨w, rfl, by omega, ?_⟩
    refine c_in (xs := List.range w) (e := fun i => .int (i : Nat)) (fun pre2 ys ρ => ∃ b' qs x, ρ = [some (.list (ns.map .int)), some b', some (.int ((99999999999 + v + 1 : Nat) : Int)), some (fq m1), some (fq m2), some (.int (i : Nat)), some (fq q), some (fq o), some (.int f), some (.list [fq q, fq (q + o), fq (q - o), fq (q * o), .int (cmpR q o)]), some (.list ([fq q, fq (q + o), fq (q - o), fq (q * o)] ++ [.int (cmpR q o)])), none, none, none, none, none, x] ∧ ys = qs.map fq ∧ qs.length = pre2.length ∧ (∀ a ∈ qs, Sz 62 a) ∧ Bag (1 + 200 * pre.length + 22 + 10 * pre2.length) b') ⟨b5, [], none, rfl, rfl, rfl, fun c h => (List.not_mem_nil h).elim, B5.mono (by simp)⟩ ?_ ?_
    · rintro ys ρ ⟨b6, qs, x, rfl, rfl, h1, h2, B6⟩
      rw [List.length_range] at h1 B6
      tm_at "pw"
      refine some_sp (.inl rfl) B6 (by omega) (by simp) (by simp) fun d b7 hd2 B7 => ?_
      have hS : Seq d (qs.map fq) := by
        simp only [List.mem_cons, List.not_mem_nil, or_false] at hd2
        rcases hd2 with rfl | rfl
        · exact .inl rfl
        · exact .inr rfl
      have sh : Sh 2 d := by
        rcases hS with rfl | rfl
        · exact sh_list fun e he => by obtain ⟨y, _, rfl⟩ := List.mem_map.mp he; exact sh_fq y
        · exact sh_tup fun e he => by obtain ⟨y, _, rfl⟩ := List.mem_map.mp he; exact sh_fq y
      have tx : Tx 23116 d := by
        have all : ∀ e ∈ qs.map fq, Tx 3850 e := fun e he => by
          obtain ⟨y, hy, rfl⟩ := List.mem_map.mp he
          exact tx_fq ((h2 y hy).mono (by omega))
        rcases hS with rfl | rfl
        · exact (tx_list (n := 6) all (by simp; omega)).mono (by omega)
        · exact (tx_tup (n := 6) all (by simp; omega)).mono (by omega)
      tm_at "pw"
      refine p_repr sh tx (by omega) (by simp only [sizeLine]; omega) ?_
      tm_at "pw"
      have ql : qs.length ≤ 5 := by omega
      have qb : qs.length * (62 + 1) ≤ 5 * 63 := Nat.mul_le_mul_right _ ql
      refine ok_eq (total_of hS h2 (by omega)) ?_
      tm_at "pw"
      refine ok_eq (ltotal_of (.inl rfl) h2 (by omega)) ?_
      tm_at "pw"
      refine ok_eq (alikeF ((sum_sz h2).mono (by omega))) ?_
      tm_at "pw"
      refine ok_eq (lasc_eq h2 (by omega) (by omega)) ?_
      tm_at "pw"
      refine ne_nilL (k := 1) (fun e he => by obtain ⟨y, _, rfl⟩ := List.mem_map.mp he; exact sh_fq y) (by omega) ?_
      tm_at "pw"
      rw [show (!(qs.map fq).isEmpty) = decide (qs ≠ []) by cases qs <;> simp]
      refine w_andN (fun z => ?_) ?_
      · obtain ⟨lo, lo1, lo2, lo3⟩ := least_eq hS h2 (by omega) z
        obtain ⟨hi, hi1, hi2, hi3⟩ := most_eq hS h2 (by omega) z
        tm_at "pw"
        refine ok_eq lo3 ?_
        tm_at "pw"
        refine ok_eq hi3 ?_
        tm_at "pw"
        have asd := asU_asd qs
        have hlo : (asU qs)[0]? = some lo := by
          cases e : asU qs with
          | nil => have := asU_mem.mpr lo1; rw [e] at this; cases this
          | cons y r =>
            have hy : y ∈ qs := asU_mem.mp (by rw [e]; exact List.mem_cons_self)
            have hm := asU_mem.mpr lo1
            rw [e] at hm asd
            have a := lo2 y hy
            rcases List.mem_cons.mp hm with k | k
            · rw [k]; rfl
            · have := (List.pairwise_cons.mp asd).1 lo k
              exact absurd this (by grind)
        have hhi : (asU qs).getLast? = some hi := by
          have ne : asU qs ≠ [] := fun y => by
            have := asU_mem.mpr hi1
            rw [y] at this
            cases this
          obtain ⟨L, y, e⟩ : ∃ L y, asU qs = L ++ [y] := ⟨(asU qs).dropLast, (asU qs).getLast ne, (List.dropLast_concat_getLast ne).symm⟩
          have hy : y ∈ qs := asU_mem.mp (by rw [e]; simp)
          have hm := asU_mem.mpr hi1
          rw [e] at hm asd ⊢
          have a := hi2 y hy
          rcases List.mem_append.mp hm with k | k
          · have := (List.pairwise_append.mp asd).2.2 hi k y (by simp)
            exact absurd this (by grind)
          · rw [List.mem_singleton.mp k]
            simp
        refine p_ixL (i := 0) (d := fq lo) (at_map hlo) ?_
        tm_at "pw"
        refine p_lastL (d := fq hi) (by rw [List.getLast?_map, hhi]; rfl) ?_
        tm_at "pw"
        refine ok_eq (alikeE (fun e he => ?_) (by simp)) ?_
        · simp only [List.mem_cons, List.not_mem_nil, or_false] at he
          rcases he with rfl | rfl
          · exact .inr ⟨_, rfl, (h2 lo lo1).mono (by omega)⟩
          · exact .inr ⟨_, rfl, (h2 hi hi1).mono (by omega)⟩
        tm_at "pw"
        exact ⟨rfl, rfl⟩
      tm_at "pw"
      have f4 := sz_f40 hq
      refine p_repr sh tx (by omega) (by simp only [sizeLine]; omega) ?_
      tm_at "pw"
      refine p_neStr ?_
      tm_at "pw"
      refine ok_eq (ftext_eq f4) ?_
      tm_at "pw"
      refine ok_eq (ltext_eq f4.n f4.d) ?_
      tm_at "pw"
      refine ok_eq (alikeT f4.n f4.d) ?_
      tm_at "pw"
      refine ok_eq (ltext_eq f4.n f4.d) ?_
      tm_at "pw"
      refine ok_eq (fin_eq (a := txt q.num q.den) (by have := txt_len f4.n f4.d; omega)) ?_
      rw [show rdD (txt q.num q.den) = fq q from back_eq f4]
      tm_at "pw"
      rw [show decide (q ≠ q) = false by simp]
      refine w_f ?_
      tm_at "pw"
      refine texts_sp hq B7 (by omega) fun as b8 has B8 => ?_
      tm_at "pw"
      refine l_on (xs := as) (e := Tx0) (fun _ ρ => ρ = [some (.list (ns.map .int)), some b8, some (.int ((99999999999 + v + 1 : Nat) : Int)), some (fq m1), some (fq m2), some (.int (i : Nat)), some (fq q), some (fq o), some (.int f), some (.list [fq q, fq (q + o), fq (q - o), fq (q * o), .int (cmpR q o)]), some (.list ([fq q, fq (q + o), fq (q - o), fq (q * o)] ++ [.int (cmpR q o)])), some (.list (qs.map fq)), some d, some (.str (PyData.shown d)), some (.list ((asU qs).map fq)), none, none]) rfl ?_ ?_
      · rintro ρ rfl
        tm_at "pw"
        exact ⟨b8, rfl, B8.mono (by rw [List.length_append]; simp only [List.length_cons, List.length_nil]; omega)⟩
      · rintro pre2 a post2 ρ e3 rfl
        have ta := has a (by rw [e3]; simp)
        tm_at "pw"
        refine ok_eq (fin_eq (a := a) ta.l) ?_
        tm_at "pw"
        refine ok_eq (lin_eq (a := a) ta.l ta.c) ?_
        tm_at "pw"
        have al : F__law_alike [rdD a, rdD a] = some (.bool true) := by
          rcases rdD_of a with h | ⟨y, hy, h⟩
          · rw [h]; exact alike_eq sh_none tx_none (by decide) (by decide) fun a z => by cases z
          · rw [h]
            refine alikeF ⟨?_, ?_⟩
            · exact Nat.lt_trans hy.n (Nat.lt_of_lt_of_le (by decide : 10 ^ 40 < 2 ^ 133) (Nat.pow_le_pow_right (by decide) (by omega)))
            · have := hy.d
              unfold B40 at this
              rw [Int.natAbs_natCast] at this
              exact Nat.lt_trans this (Nat.lt_of_lt_of_le (by decide : 10 ^ 40 < 2 ^ 133) (Nat.pow_le_pow_right (by decide) (by omega)))
        refine ok_eq al ?_
        tm_at "pw"
        rfl
    · rintro pre2 j post2 ys ρ e2 ⟨b', qs, x, rfl, rfl, h1, h2, h3⟩
      have pl2 : pre2.length < w := by
        have := congrArg List.length e2
        simp at this
        omega
      tm_at "pw"
      refine anyf_sp h3 (by omega) fun y b7 hy B7 => ?_
      refine ⟨b7, qs ++ [y], _, rfl, by simp, by simp [h1], fun c' hc' => ?_, B7.mono (by simp; omega)⟩
      rcases List.mem_append.mp hc' with hc' | hc'
      · exact h2 c' hc'
      · rw [List.mem_singleton.mp hc']; exact hy
end Lay

namespace Lay
open PySem PySem.Spec PyProof.Rows L2
def fnL : List He.DefD := [dD "common_divisor" s_common_divisor, dD "reduced" s_reduced, dD "added" s_added, dD "lessened" s_lessened, dD "times" s_times, dD "over" s_over, dD "compared" s_compared, dD "least_of" s_least_of, dD "greatest_of" s_greatest_of, dD "total" s_total, dD "fraction_text" s_fraction_text, dD "is_number_text" s_is_number_text, dD "fraction_in" s_fraction_in, dD "_law_take" s__law_take, dD "_law_common" s__law_common, dD "_law_reduced" s__law_reduced, dD "_law_some" s__law_some, dD "_law_number" s__law_number, dD "_law_mixed" s__law_mixed, dD "_law_bag" s__law_bag, dD "_law_alike" s__law_alike, dD "_law_added" s__law_added, dD "_law_lessened" s__law_lessened, dD "_law_multiplied" s__law_multiplied, dD "_law_is_below" s__law_is_below, dD "_law_divided" s__law_divided, dD "_law_total" s__law_total, dD "_law_ascending" s__law_ascending, dD "_law_any_fraction" s__law_any_fraction, dD "_law_text" s__law_text, dD "_law_in_text" s__law_in_text, dD "_law_texts" s__law_texts, dD "law" s_law]
def faL : List He.Fa := [.glo "common_divisor", .glo "reduced", .glo "added", .glo "lessened", .glo "times", .glo "over", .glo "compared", .glo "least_of", .glo "greatest_of", .glo "total", .glo "fraction_text", .glo "is_number_text", .glo "fraction_in", .glo "_law_take", .glo "_law_common", .glo "_law_reduced", .glo "_law_some", .glo "_law_number", .glo "_law_mixed", .glo "_law_bag", .glo "_law_alike", .glo "_law_added", .glo "_law_lessened", .glo "_law_multiplied", .glo "_law_is_below", .glo "_law_divided", .glo "_law_total", .glo "_law_ascending", .glo "_law_any_fraction", .glo "_law_text", .glo "_law_in_text", .glo "_law_texts", .glo "law", .free "len", .free "abs", .free "int", .free "str", .free "bool", .free "tuple", .free "list", .free "dict", .free "all", .free "any", .free "sum", .free "max", .free "min", .free "repr", .free "isinstance", .free "range", .free "enumerate", .free "zip", .free "sorted", .free "set"]
def csL : List (Str × D) := []
theorem bltL {C : Ct} (T : Top faL fnL csL C) : Blt C.mg := ⟨T.fi 33 rfl, T.fi 34 rfl, T.fi 35 rfl, T.fi 36 rfl, T.fi 37 rfl, T.fi 38 rfl, T.fi 39 rfl, T.fi 40 rfl, T.fi 41 rfl, T.fi 42 rfl, T.fi 43 rfl, T.fi 44 rfl, T.fi 45 rfl, T.fi 46 rfl, T.fi 47 rfl, T.fi 48 rfl, T.fi 49 rfl, T.fi 50 rfl, T.fi 51 rfl, T.fi 52 rfl⟩
set_option maxHeartbeats 0 in
theorem lawL {C : Ct} (T : Top faL fnL csL C) : Fn C "law" 5 ["_law_script"] (spP C.K 1 F_law) := by
  have B := bltL T
  have h_common_divisor := w_common_divisor B (T.fnI 0 0 rfl rfl)
  have h_reduced := w_reduced B h_common_divisor (T.fnI 1 1 rfl rfl)
  have h_added := w_added B h_reduced (T.fnI 2 2 rfl rfl)
  have h_lessened := w_lessened B h_reduced (T.fnI 3 3 rfl rfl)
  have h_times := w_times B h_reduced (T.fnI 4 4 rfl rfl)
  have h_over := w_over B h_reduced (T.fnI 5 5 rfl rfl)
  have h_compared := w_compared B (T.fnI 6 6 rfl rfl)
  have h_least_of := w_least_of B h_compared (T.fnI 7 7 rfl rfl)
  have h_greatest_of := w_greatest_of B h_compared (T.fnI 8 8 rfl rfl)
  have h_total := w_total B h_added (T.fnI 9 9 rfl rfl)
  have h_fraction_text := w_fraction_text B (T.fnI 10 10 rfl rfl)
  have h_is_number_text := w_is_number_text B (T.fnI 11 11 rfl rfl)
  have h_fraction_in := w_fraction_in B h_is_number_text h_reduced h_fraction_text (T.fnI 12 12 rfl rfl)
  have h__law_take := w__law_take B (T.fnI 13 13 rfl rfl)
  have h__law_common := w__law_common B (T.fnI 14 14 rfl rfl)
  have h__law_reduced := w__law_reduced B h__law_common (T.fnI 15 15 rfl rfl)
  have h__law_some := w__law_some B h__law_take (T.fnI 16 16 rfl rfl)
  have h__law_number := w__law_number B h__law_take h__law_reduced h__law_some (T.fnI 17 17 rfl rfl)
  have h__law_mixed := w__law_mixed B h__law_take (T.fnI 18 18 rfl rfl)
  have h__law_bag := w__law_bag B (T.fnI 19 19 rfl rfl)
  have h__law_alike := w__law_alike B (T.fnI 20 20 rfl rfl)
  have h__law_added := w__law_added B h__law_reduced (T.fnI 21 21 rfl rfl)
  have h__law_lessened := w__law_lessened B h__law_reduced (T.fnI 22 22 rfl rfl)
  have h__law_multiplied := w__law_multiplied B h__law_reduced (T.fnI 23 23 rfl rfl)
  have h__law_is_below := w__law_is_below B (T.fnI 24 24 rfl rfl)
  have h__law_divided := w__law_divided B h__law_reduced (T.fnI 25 25 rfl rfl)
  have h__law_total := w__law_total B h__law_added (T.fnI 26 26 rfl rfl)
  have h__law_ascending := w__law_ascending B h__law_is_below (T.fnI 27 27 rfl rfl)
  have h__law_any_fraction := w__law_any_fraction B h__law_number h__law_take h__law_reduced (T.fnI 28 28 rfl rfl)
  have h__law_text := w__law_text B (T.fnI 29 29 rfl rfl)
  have h__law_in_text := w__law_in_text B h__law_common h__law_text (T.fnI 30 30 rfl rfl)
  have h__law_texts := w__law_texts B h__law_text h__law_mixed (T.fnI 31 31 rfl rfl)
  have h_law := w_law B h__law_bag h__law_take h__law_alike h_compared h_least_of h_greatest_of h__law_any_fraction h__law_some h_reduced h_added h_lessened h_times h__law_added h__law_lessened h__law_multiplied h__law_is_below h_over h__law_divided h_total h__law_total h__law_ascending h_fraction_text h__law_text h_fraction_in h__law_texts h__law_in_text (T.fnI 32 32 rfl rfl)
  exact h_law
abbrev RL : PySem.W.OpenRow := PySem.W.OpenLaw.row PySem.Challenge.rw_soldwhole_k01_whole_fractions
abbrev hkL : PySem.W.Hook := hookL 4 faL fnL csL
def obL (s : PySem.W.SharedT) : AlL := obsLG 4 faL fnL csL (HandSHeadRun.getT s)
theorem obL_eq (s : PySem.W.SharedT) : obL s = hkL.obs s.abs := obsLG_eq (HandSHeadRun.getT_eq s)
def loose0 : List Str := ["common_divisor", "reduced", "added", "lessened", "times", "over", "compared", "least_of", "greatest_of", "total", "fraction_text", "is_number_text", "fraction_in", "_law_take", "_law_common", "_law_reduced", "_law_some", "_law_number", "_law_mixed", "_law_bag", "_law_alike", "_law_added", "_law_lessened", "_law_multiplied", "_law_is_below", "_law_divided", "_law_total", "_law_ascending", "_law_any_fraction", "_law_text"]
def loose1 : List Str := ["_law_in_text", "_law_texts"]
abbrev looseL : List Str := loose0 ++ loose1
set_option maxHeartbeats 0 in
theorem runL (w : World) : HandSHeadRun.RunEq RL (PySem.W.view RL.prog [34]) hkL obL 4000 looseL w := by
  intro os
  kernel_rfl
end Lay
open PySem PySem.W PySem.Calls PyProof.Rows
set_option maxHeartbeats 0 in
theorem Lay.endL (pure : ∀ ns : List Int, ns.length ≤ 63 → Lay.F_law [.list (ns.map .int)] = some (.bool true)) : PySem.Challenge.rw_soldwhole_k01_whole_fractions.Holds := by
  w_on; o_law
  refine HandSHeadRun.head_any (r := OpenLaw.row PySem.Challenge.rw_soldwhole_k01_whole_fractions) (q := view (OpenLaw.row PySem.Challenge.rw_soldwhole_k01_whole_fractions).prog [34]) (H := Lay.hkL) (ob := Lay.obL) (M := 4000) (loose := Lay.looseL) (d := HandSHeadRun.topDef (OpenLaw.row PySem.Challenge.rw_soldwhole_k01_whole_fractions).prog 34) (kwd := []) Lay.obL_eq
    (by kernel_rfl) (fun s => by kernel_rfl) Lay.runL (by kernel_rfl) (by kernel_rfl) (by kernel_rfl) (by rfl) (by first | assumption | decide +kernel) (by decide +kernel) ⟨rfl, rfl, rfl, rfl, rfl, by decide +kernel⟩ ?hw ?hc
  case hw => w_witness2
  case hc =>
    refine Lay.walkG (l := PySem.Challenge.rw_soldwhole_k01_whole_fractions) (n := 63) (k := 5) (x := "_law_script") rfl (by decide) (by kernel_rfl) ⟨rfl, by decide, by decide⟩ ?F
    intro w mg fa h Y G hmg0
    obtain ⟨K, KX, c⟩ := Y
    have en : (HandSHeadRun.topDef (OpenLaw.row PySem.Challenge.rw_soldwhole_k01_whole_fractions).prog 34).name = ("law" : PySem.Str) := by kernel_rfl
    refine ⟨K, Lay.spP K 1 Lay.F_law, KX, fun H a ns hl S => ?_, fun base kin nsb => ?_⟩
    · refine ⟨[], [.list (ns.map .int)], .bool true, rfl, fun _ q => (List.not_mem_nil q).elim, ?_, pure ns hl, fun v H' _ d => by cases d; rfl⟩
      exact .cons (Lay.Dat.scr S (by rw [List.length_map]; exact Nat.le_trans hl (by decide))) .nil
    · rw [en]
      exact Lay.lawL (Lay.Top.of (C := ⟨_, w, K, mg, base⟩) c kin nsb)

theorem PySem.Challenge.cw_soldwhole_k01_whole_fractions_holds : PySem.Challenge.rw_soldwhole_k01_whole_fractions.Holds := by
  exact Lay.endL fun ns _ => Lay.law_true ns
