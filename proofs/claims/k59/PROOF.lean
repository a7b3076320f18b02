import PyProof.Rows.All
import Wide.All
import OpenK.AllK
import Wide.FinOn
import HandS.ForMost
import HandS.ForExc
import HandS.CallSlots
import HandS.TupAny
import HandS.Conv
import HandS.Zip
import HandS.Strs
import KE.GoesEnum
import KE.GoesNew
import HandS.Style
import HandS.IsInst
import HandS.SortInts
import HandS.Deep
import HandS.SetFor
import HandS.Nested
import KE.GoesZip
import KE.GoesMore
import HandS.More
import HandS.Comp
import HandS.Flow
import HandS.WordsExc
import HandS.Codes
import HandS.NoneIn
import KE.DatumOrd
import PySem.Challenge.RW_seatedwell_k59_whole_lists_cut_short
set_option Elab.async false
set_option linter.all false
set_option maxRecDepth 100000
set_option maxHeartbeats 4000000
/-! DL1: pure data D over the hand layer; mutable lists as numbered cells; readings that speak of data alone. -/
namespace DL
open PySem PySem.Spec PyProof.Rows L2

/-- pure data; scr: a list that is read alone (the script); cel n: the n-th mutable list; obj: a def, a class -/
inductive D where
  | non | bl (b : Bool) | int (i : Int) | str (x : Str) | tup (xs : List D) | lst (xs : List D) | scr (xs : List D) | cel (n : Nat) | obj (a : Addr)
inductive Cl where
  | lst (xs : List D)
abbrev Cs := List Cl
abbrev Ev := List (Option D)

def off (m : List Addr) (H : Hp) : Hp := fun a => if a ∈ m then none else H a
theorem off_some {m : List Addr} {H : Hp} {a : Addr} {o : HO} : off m H a = some o ↔ a ∉ m ∧ H a = some o := by
  unfold off
  by_cases e : a ∈ m
  · rw [if_pos e]
    exact ⟨fun z => (nomatch z), fun z => absurd e z.1⟩
  · rw [if_neg e]
    exact ⟨fun z => ⟨e, z⟩, fun z => z.2⟩

mutual
def Rep (K : PySem.W.Frag) (m : List Addr) (H : Hp) : D → V → Prop
  | .non, v => v = .non
  | .bl b, v => v = .bl b
  | .int i, v => v = .int i
  | .str x, v => v = .str x
  | .tup ds, v => ∃ a vs o, v = .ref a ∧ H a = some (.frz o (.tup vs)) ∧ o.dict = none ∧ Reps K m H ds vs
  | .lst ds, v => ∃ a vs, v = .ref a ∧ H a = some (.lst vs) ∧ Reps K m H ds vs
  | .scr ds, v => ∃ a vs, v = .ref a ∧ SqL K H a vs ∧ Reps K m H ds vs
  | .cel n, v => ∃ a, v = .ref a ∧ m[n]? = some a
  | .obj a, v => v = .ref a
def Reps (K : PySem.W.Frag) (m : List Addr) (H : Hp) : List D → List V → Prop
  | [], vs => vs = []
  | d :: ds, vs => ∃ v vr, vs = v :: vr ∧ Rep K m H d v ∧ Reps K m H ds vr
end

theorem Rd.mono {H H' : Hp} (k : ∀ a o, H a = some o → H' a = some o) {a : Addr} {u : HO} (r : Rd H a u) : Rd H' a u := by
  rcases r with r | ⟨o, r⟩
  · exact .inl (k _ _ r)
  · exact .inr ⟨o, k _ _ r⟩
theorem SqL.mono {K : PySem.W.Frag} {H H' : Hp} (k : ∀ a o, H a = some o → H' a = some o) {a : Addr} {xs : List V} (r : SqL K H a xs) : SqL K H' a xs := by
  rcases r with r | r
  · exact .inl (Rd.mono k r)
  · exact .inr r
theorem SqT.mono {K : PySem.W.Frag} {H H' : Hp} (k : ∀ a o, H a = some o → H' a = some o) {a : Addr} {xs : List V} (r : SqT K H a xs) : SqT K H' a xs := by
  rcases r with r | r
  · exact .inl (Rd.mono k r)
  · exact .inr r
theorem pre_get {m m' : List Addr} (p : m <+: m') {n : Nat} {a : Addr} (h : m[n]? = some a) : m'[n]? = some a := by
  obtain ⟨t, rfl⟩ := p
  rw [List.getElem?_append_left (List.getElem?_eq_some_iff.mp h).1]
  exact h

mutual
theorem Rep.mono {K : PySem.W.Frag} {m m' : List Addr} {H H' : Hp} (p : m <+: m') (k : ∀ a o, H a = some o → H' a = some o) : ∀ (d : D) {v : V}, Rep K m H d v → Rep K m' H' d v
  | .non, _, r => r
  | .bl _, _, r => r
  | .int _, _, r => r
  | .str _, _, r => r
  | .tup ds, _, ⟨a, vs, o, e, s, z, r⟩ => ⟨a, vs, o, e, k _ _ s, z, Reps.mono p k ds r⟩
  | .lst ds, _, ⟨a, vs, e, s, r⟩ => ⟨a, vs, e, k _ _ s, Reps.mono p k ds r⟩
  | .scr ds, _, ⟨a, vs, e, s, r⟩ => ⟨a, vs, e, SqL.mono k s, Reps.mono p k ds r⟩
  | .cel n, _, ⟨a, e, g⟩ => ⟨a, e, pre_get p g⟩
  | .obj _, _, r => r
theorem Reps.mono {K : PySem.W.Frag} {m m' : List Addr} {H H' : Hp} (p : m <+: m') (k : ∀ a o, H a = some o → H' a = some o) : ∀ (ds : List D) {vs : List V}, Reps K m H ds vs → Reps K m' H' ds vs
  | [], _, r => r
  | d :: ds, _, ⟨v, vr, e, r, q⟩ => ⟨v, vr, e, Rep.mono p k d r, Reps.mono p k ds q⟩
end

theorem reps_iff {K : PySem.W.Frag} {m : List Addr} {H : Hp} : ∀ {ds : List D} {vs : List V}, Reps K m H ds vs ↔ ds.length = vs.length ∧ ∀ (i : Nat) d v, ds[i]? = some d → vs[i]? = some v → Rep K m H d v
  | [], vs => by
    constructor
    · intro r
      have e : vs = [] := r
      subst e
      exact ⟨rfl, fun i d v h => by simp at h⟩
    · intro ⟨e, _⟩
      exact List.eq_nil_of_length_eq_zero e.symm
  | d :: ds, vs => by
    constructor
    · intro ⟨v, vr, e, r, q⟩
      subst e
      obtain ⟨l, g⟩ := reps_iff.mp q
      refine ⟨by simp [l], fun i d' v' h1 h2 => ?_⟩
      cases i with
      | zero =>
        simp at h1 h2
        subst h1 h2
        exact r
      | succ i => exact g i d' v' (by simpa using h1) (by simpa using h2)
    · intro ⟨l, g⟩
      cases vs with
      | nil => simp at l
      | cons v vr =>
        refine ⟨v, vr, rfl, g 0 d v rfl rfl, reps_iff.mpr ⟨by simpa using l, fun i d' v' h1 h2 => g (i + 1) d' v' (by simpa using h1) (by simpa using h2)⟩⟩
section
variable {K : PySem.W.Frag} {m : List Addr} {H : Hp} {ds es : List D} {vs us : List V}
theorem Reps.length (r : Reps K m H ds vs) : ds.length = vs.length := (reps_iff.mp r).1
theorem Reps.get (r : Reps K m H ds vs) {i : Nat} {d : D} (h : ds[i]? = some d) : ∃ v, vs[i]? = some v ∧ Rep K m H d v := by
  obtain ⟨l, g⟩ := reps_iff.mp r
  have hi : i < vs.length := by rw [← l]; exact (List.getElem?_eq_some_iff.mp h).1
  exact ⟨vs[i], List.getElem?_eq_getElem hi, g i d _ h (List.getElem?_eq_getElem hi)⟩
theorem Reps.getV (r : Reps K m H ds vs) {i : Nat} {v : V} (h : vs[i]? = some v) : ∃ d, ds[i]? = some d ∧ Rep K m H d v := by
  obtain ⟨l, g⟩ := reps_iff.mp r
  have hi : i < ds.length := by rw [l]; exact (List.getElem?_eq_some_iff.mp h).1
  exact ⟨ds[i], List.getElem?_eq_getElem hi, g i _ v (List.getElem?_eq_getElem hi) h⟩
theorem Reps.nil : Reps K m H [] [] := rfl
theorem Reps.cons {d : D} {v : V} (r : Rep K m H d v) (q : Reps K m H ds vs) : Reps K m H (d :: ds) (v :: vs) := ⟨v, vs, rfl, r, q⟩
theorem Reps.one {d : D} {v : V} (r : Rep K m H d v) : Reps K m H [d] [v] := ⟨v, [], rfl, r, rfl⟩
theorem Reps.append : ∀ {ds : List D} {vs : List V}, Reps K m H ds vs → Reps K m H es us → Reps K m H (ds ++ es) (vs ++ us)
  | [], _, r, q => by
    have e : _ = [] := r
    subst e
    exact q
  | d :: ds, _, ⟨v, vr, e, r, t⟩, q => by
    subst e
    exact ⟨v, vr ++ us, rfl, r, Reps.append t q⟩
theorem Reps.take (n : Nat) (r : Reps K m H ds vs) : Reps K m H (ds.take n) (vs.take n) := by
  obtain ⟨l, g⟩ := reps_iff.mp r
  refine reps_iff.mpr ⟨by simp [l], fun i d v h1 h2 => ?_⟩
  rw [List.getElem?_take] at h1 h2
  split at h1
  · rename_i hi
    rw [if_pos hi] at h2
    exact g i d v h1 h2
  · cases h1
theorem Reps.drop (n : Nat) (r : Reps K m H ds vs) : Reps K m H (ds.drop n) (vs.drop n) := by
  obtain ⟨l, g⟩ := reps_iff.mp r
  refine reps_iff.mpr ⟨by simp [l], fun i d v h1 h2 => ?_⟩
  rw [List.getElem?_drop] at h1 h2
  exact g _ d v h1 h2
theorem Reps.set {d : D} {v : V} (n : Nat) (rd : Rep K m H d v) (r : Reps K m H ds vs) : Reps K m H (ds.set n d) (vs.set n v) := by
  obtain ⟨l, g⟩ := reps_iff.mp r
  refine reps_iff.mpr ⟨by simp [l], fun i d' v' h1 h2 => ?_⟩
  rw [List.getElem?_set] at h1 h2
  by_cases e : n = i
  · subst e
    rw [if_pos rfl] at h1 h2
    by_cases hl : n < ds.length
    · rw [if_pos hl] at h1
      rw [if_pos (l ▸ hl)] at h2
      cases h1
      cases h2
      exact rd
    · rw [if_neg hl] at h1
      cases h1
  · rw [if_neg e] at h1 h2
    exact g i d' v' h1 h2
theorem Reps.reverse (r : Reps K m H ds vs) : Reps K m H ds.reverse vs.reverse := by
  obtain ⟨l, g⟩ := reps_iff.mp r
  refine reps_iff.mpr ⟨by simp [l], fun i d v h1 h2 => ?_⟩
  have hi : i < ds.length := by simpa using (List.getElem?_eq_some_iff.mp h1).1
  rw [List.getElem?_reverse hi] at h1
  rw [List.getElem?_reverse (l ▸ hi)] at h2
  rw [← l] at h2
  exact g _ d v h1 h2
theorem Reps.eraseIdx : ∀ (i : Nat) {ds : List D} {vs : List V}, Reps K m H ds vs → Reps K m H (ds.eraseIdx i) (vs.eraseIdx i)
  | _, [], _, r => by
    have e : _ = [] := r
    subst e
    exact rfl
  | 0, d :: ds, _, ⟨v, vr, e, r, t⟩ => by
    subst e
    exact t
  | i + 1, d :: ds, _, ⟨v, vr, e, r, t⟩ => by
    subst e
    exact ⟨v, _, rfl, r, Reps.eraseIdx i t⟩
theorem Reps.dropLast (r : Reps K m H ds vs) : Reps K m H ds.dropLast vs.dropLast := by
  rw [List.dropLast_eq_take, List.dropLast_eq_take, r.length]
  exact r.take _
theorem Reps.ints : ∀ {ns : List Int}, Reps K m H (ns.map D.int) (ns.map V.int)
  | [] => rfl
  | n :: ns => ⟨.int n, _, rfl, rfl, Reps.ints⟩
theorem Reps.isEmpty (r : Reps K m H ds vs) : ds.isEmpty = vs.isEmpty := by
  have l := r.length
  cases ds <;> cases vs <;> first | rfl | (simp at l)
end

/-! ### the relation of a data state to an abstract heap -/
def CellOk (K : PySem.W.Frag) (m : List Addr) (H0 H : Hp) (a : Addr) : Cl → Prop
  | .lst ds => ∃ vs, H a = some (.lst vs) ∧ Reps K m H0 ds vs
abbrev hz (h m : List Addr) (H : Hp) : Hp := off (h ++ m) H
structure Rl (K : PySem.W.Frag) (h m : List Addr) (C : Cs) (H : Hp) : Prop where
  nd : (h ++ m).Nodup
  len : m.length = C.length
  cell : ∀ (n : Nat) c, C[n]? = some c → ∃ a, m[n]? = some a ∧ CellOk K m (hz h m H) H a c
  hid : ∀ a ∈ h, ∃ o, H a = some o
structure Ext (h m : List Addr) (H : Hp) (h' m' : List Addr) (H' : Hp) : Prop where
  suf : h <:+ h'
  pre : m <+: m'
  frz : ∀ a o, hz h m H a = some o → hz h' m' H' a = some o
  hid : ∀ a ∈ h, H' a = H a
theorem Ext.refl {h m : List Addr} {H : Hp} : Ext h m H h m H := ⟨List.suffix_refl _, List.prefix_refl _, fun _ _ e => e, fun _ _ => rfl⟩
theorem Ext.trans {h h1 h2 m m1 m2 : List Addr} {H H1 H2 : Hp} (a : Ext h m H h1 m1 H1) (b : Ext h1 m1 H1 h2 m2 H2) : Ext h m H h2 m2 H2 :=
  ⟨a.suf.trans b.suf, a.pre.trans b.pre, fun x o e => b.frz x o (a.frz x o e), fun x hx => (b.hid x (a.suf.subset hx)).trans (a.hid x hx)⟩
section
variable {K : PySem.W.Frag} {h m m' : List Addr} {C C' : Cs} {H H' : Hp} {d : D} {v : V} {ds : List D} {vs : List V}
theorem Ext.rep {h' : List Addr} (x : Ext h m H h' m' H') (r : Rep K m (hz h m H) d v) : Rep K m' (hz h' m' H') d v := Rep.mono x.pre x.frz d r
theorem Ext.reps {h' : List Addr} (x : Ext h m H h' m' H') (r : Reps K m (hz h m H) ds vs) : Reps K m' (hz h' m' H') ds vs := Reps.mono x.pre x.frz ds r
theorem hz_sub {a : Addr} {o : HO} (e : hz h m H a = some o) : H a = some o := (off_some.mp e).2
theorem Rep.real (r : Rep K m (hz h m H) d v) : Rep K m H d v := Rep.mono (List.prefix_refl _) (fun _ _ e => hz_sub e) d r
theorem Reps.real (r : Reps K m (hz h m H) ds vs) : Reps K m H ds vs := Reps.mono (List.prefix_refl _) (fun _ _ e => hz_sub e) ds r
theorem Rl.mem_there (R : Rl K h m C H) {a : Addr} (ha : a ∈ h ++ m) : ∃ o, H a = some o := by
  rcases List.mem_append.mp ha with z | z
  · exact R.hid a z
  · obtain ⟨n, hn, e⟩ := List.mem_iff_getElem.mp z
    have hc : n < C.length := R.len ▸ hn
    obtain ⟨b, hb, k⟩ := R.cell n C[n] (List.getElem?_eq_getElem hc)
    rw [List.getElem?_eq_getElem hn, e] at hb
    cases hb
    cases hcc : C[n] with
    | lst ds =>
      rw [hcc] at k
      obtain ⟨vs, q, _⟩ := k
      exact ⟨_, q⟩
theorem Rl.fresh (R : Rl K h m C H) {p : Addr} (np : H p = none) : p ∉ h ++ m := fun z => by
  obtain ⟨o, e⟩ := R.mem_there z
  rw [np] at e
  cases e
/-- a new object that is not written any more -/
theorem Rl.newF (R : Rl K h m C H) {p : Addr} {o : HO} (np : H p = none) : Ext h m H h m (upd H p o) ∧ Rl K h m C (upd H p o) ∧ hz h m (upd H p o) p = some o := by
  have nm := R.fresh np
  have hne : ∀ b, b ∈ h ++ m → b ≠ p := fun b hb e => nm (e ▸ hb)
  have hfz : ∀ a x, hz h m H a = some x → hz h m (upd H p o) a = some x := fun a x e => by
    obtain ⟨z1, z2⟩ := off_some.mp e
    exact off_some.mpr ⟨z1, by rw [upd_ne (ne_of_none z2 np)]; exact z2⟩
  refine ⟨⟨List.suffix_refl _, List.prefix_refl _, hfz, fun a ha => upd_ne (hne a (List.mem_append_left _ ha))⟩, ⟨R.nd, R.len, fun n c e => ?_, fun a ha => ?_⟩, off_some.mpr ⟨nm, upd_same⟩⟩
  · obtain ⟨a, ha, k⟩ := R.cell n c e
    refine ⟨a, ha, ?_⟩
    cases c with
    | lst ds =>
      obtain ⟨vs, q, r⟩ := k
      exact ⟨vs, by rw [upd_ne (ne_of_none q np)]; exact q, Reps.mono (List.prefix_refl _) hfz ds r⟩
  · obtain ⟨o', e⟩ := R.hid a ha
    exact ⟨o', by rw [upd_ne (ne_of_none e np)]; exact e⟩
/-- a new cell -/
theorem Rl.newC (R : Rl K h m C H) {p : Addr} (np : H p = none) (r : Reps K m (hz h m H) ds vs) :
    Ext h m H h (m ++ [p]) (upd H p (.lst vs)) ∧ Rl K h (m ++ [p]) (C ++ [.lst ds]) (upd H p (.lst vs)) ∧ Rep K (m ++ [p]) (hz h (m ++ [p]) (upd H p (.lst vs))) (.cel C.length) (.ref p) := by
  have nm := R.fresh np
  have hne : ∀ b, b ∈ h ++ m → b ≠ p := fun b hb e => nm (e ▸ hb)
  have ea : h ++ (m ++ [p]) = (h ++ m) ++ [p] := (List.append_assoc _ _ _).symm
  have hfz : ∀ a x, hz h m H a = some x → hz h (m ++ [p]) (upd H p (.lst vs)) a = some x := fun a x e => by
    obtain ⟨z1, z2⟩ := off_some.mp e
    have hap : a ≠ p := ne_of_none z2 np
    refine off_some.mpr ⟨?_, by rw [upd_ne hap]; exact z2⟩
    rw [ea]
    intro hm
    rcases List.mem_append.mp hm with z | z
    · exact z1 z
    · exact hap (by simpa using z)
  have pre : m <+: m ++ [p] := List.prefix_append _ _
  refine ⟨⟨List.suffix_refl _, pre, hfz, fun a ha => upd_ne (hne a (List.mem_append_left _ ha))⟩, ⟨?_, by simp [R.len], fun n c e => ?_, fun a ha => ?_⟩, ⟨p, rfl, ?_⟩⟩
  · rw [ea]
    refine List.nodup_append.mpr ⟨R.nd, by simp, fun a ha b hb => ?_⟩
    have : b = p := by simpa using hb
    subst this
    exact hne a ha
  · by_cases hn : n < C.length
    · rw [List.getElem?_append_left hn] at e
      obtain ⟨a, ha, k⟩ := R.cell n c e
      refine ⟨a, pre_get pre ha, ?_⟩
      cases c with
      | lst es =>
        obtain ⟨us, q, rr⟩ := k
        exact ⟨us, by rw [upd_ne (ne_of_none q np)]; exact q, Reps.mono pre hfz es rr⟩
    · have hn' : n = C.length := by
        have := (List.getElem?_eq_some_iff.mp e).1
        simp at this
        omega
      subst hn'
      simp at e
      subst e
      refine ⟨p, by rw [← R.len]; simp, vs, upd_same, Reps.mono pre hfz ds r⟩
  · obtain ⟨o', e⟩ := R.hid a ha
    exact ⟨o', by rw [upd_ne (ne_of_none e np)]; exact e⟩
  · rw [← R.len]
    simp
/-- a cell written -/
theorem Rl.write {n : Nat} {c : Cl} {a : Addr} (R : Rl K h m C H) (hc : C[n]? = some c) (ha : m[n]? = some a) (r : Reps K m (hz h m H) ds vs) :
    Ext h m H h m (upd H a (.lst vs)) ∧ Rl K h m (C.set n (.lst ds)) (upd H a (.lst vs)) := by
  have am : a ∈ m := List.mem_of_getElem? ha
  have nh : ∀ b ∈ h, b ≠ a := fun b hb e => (List.nodup_append.mp R.nd).2.2 b hb a am e
  have hfz : ∀ b x, hz h m H b = some x → hz h m (upd H a (.lst vs)) b = some x := fun b x e => by
    obtain ⟨z1, z2⟩ := off_some.mp e
    have hba : b ≠ a := fun z => z1 (z ▸ List.mem_append_right _ am)
    exact off_some.mpr ⟨z1, by rw [upd_ne hba]; exact z2⟩
  refine ⟨⟨List.suffix_refl _, List.prefix_refl _, hfz, fun b hb => upd_ne (nh b hb)⟩, ⟨R.nd, by simp [R.len], fun k c' e => ?_, fun b hb => ?_⟩⟩
  · rw [List.getElem?_set] at e
    by_cases hk : n = k
    · subst hk
      rw [if_pos rfl] at e
      split at e
      · cases e
        exact ⟨a, ha, vs, upd_same, Reps.mono (List.prefix_refl _) hfz ds r⟩
      · cases e
    · rw [if_neg hk] at e
      obtain ⟨b, hb, q⟩ := R.cell k c' e
      have hba : b ≠ a := fun z => by
        subst z
        have nd := (List.nodup_append.mp R.nd).2.1
        exact hk (nd_ix nd ha hb)
      refine ⟨b, hb, ?_⟩
      cases c' with
      | lst es =>
        obtain ⟨us, q1, q2⟩ := q
        exact ⟨us, by rw [upd_ne hba]; exact q1, Reps.mono (List.prefix_refl _) hfz es q2⟩
  · obtain ⟨o', e⟩ := R.hid b hb
    exact ⟨o', by rw [upd_ne (nh b hb)]; exact e⟩
end

/-! ### the frame -/
structure En (K : PySem.W.Frag) (m : List Addr) (H0 : Hp) (r : Ev) (σ : L2.St) : Prop where
  len : r.length = σ.length
  get : ∀ (i : Nat) d, r[i]? = some (some d) → ∃ v, σ[i]? = some (some v) ∧ Rep K m H0 d v
abbrev BS := List Addr → List Addr → Hp → Prop
def Stable (B : BS) : Prop := ∀ h m H m' H', B h m H → Ext h m H h m' H' → B h m' H'
structure Sta (K : PySem.W.Frag) (B : BS) (h m : List Addr) (C : Cs) (r : Ev) (σ : L2.St) (H : Hp) : Prop where
  rl : Rl K h m C H
  en : En K m (hz h m H) r σ
  base : B h m H
  st : Stable B
section
variable {K : PySem.W.Frag} {B : BS} {h m m' : List Addr} {C C' : Cs} {r : Ev} {σ : L2.St} {H H' : Hp}
theorem En.ext (e : En K m (hz h m H) r σ) (x : Ext h m H h m' H') : En K m' (hz h m' H') r σ :=
  ⟨e.len, fun i d q => let ⟨v, a, b⟩ := e.get i d q; ⟨v, a, x.rep b⟩⟩
theorem Sta.ext (S : Sta K B h m C r σ H) (x : Ext h m H h m' H') (R : Rl K h m' C' H') : Sta K B h m' C' r σ H' :=
  ⟨R, S.en.ext x, S.st _ _ _ _ _ S.base x, S.st⟩
theorem En.set {d : D} {v : V} {H0 : Hp} (e : En K m H0 r σ) (i : Nat) (q : Rep K m H0 d v) : En K m H0 (r.set i (some d)) (σ.set i (some v)) := by
  refine ⟨by simp [e.len], fun j d' h1 => ?_⟩
  rw [List.getElem?_set] at h1
  by_cases hj : i = j
  · subst hj
    rw [if_pos rfl] at h1
    split at h1
    · rename_i hl
      cases h1
      exact ⟨v, by rw [List.getElem?_set, if_pos rfl, if_pos (e.len ▸ hl)], q⟩
    · cases h1
  · rw [if_neg hj] at h1
    obtain ⟨v', a, b⟩ := e.get j d' h1
    exact ⟨v', by rw [List.getElem?_set, if_neg hj]; exact a, b⟩
theorem En.setN {H0 : Hp} (e : En K m H0 r σ) (i : Nat) (o : Option V) : En K m H0 (r.set i none) (σ.set i o) := by
  refine ⟨by simp [e.len], fun j d' h1 => ?_⟩
  rw [List.getElem?_set] at h1
  by_cases hj : i = j
  · subst hj
    rw [if_pos rfl] at h1
    split at h1 <;> cases h1
  · rw [if_neg hj] at h1
    obtain ⟨v', a, b⟩ := e.get j d' h1
    exact ⟨v', by rw [List.getElem?_set, if_neg hj]; exact a, b⟩
end

/-! ### the judgements -/
abbrev QD := D → Cs → Prop
abbrev RE := Ev → Cs → QD → Prop
abbrev RT := Ev → Cs → (Bool → Cs → Prop) → Prop
abbrev RA := Ev → Cs → (List D → Cs → Prop) → Prop
structure EndsD where
  nx : Ev → Cs → Prop
  rt : QD
  bk : Ev → Cs → Prop := fun _ _ => False
  ct : Ev → Cs → Prop := fun _ _ => False
abbrev RS := EndsD → Ev → Cs → Prop
/-- an exception: its class, what its at is -/
abbrev XQ := Value → Option D → Cs → Prop
abbrev XW := Value → Option D → Ev → Cs → Prop
def opt {α : Type} (o : Option α) (Q : α → Prop) : Prop := match o with
  | some a => Q a
  | none => False
theorem opt_some {α : Type} {a : α} {Q : α → Prop} : opt (some a) Q = Q a := rfl
theorem opt_none {α : Type} {Q : α → Prop} : opt none Q = False := rfl
theorem opt_iff {α : Type} {o : Option α} {Q : α → Prop} : opt o Q ↔ ∃ a, o = some a ∧ Q a := by
  cases o with
  | none => exact ⟨fun z => (nomatch z), fun ⟨_, z, _⟩ => (nomatch z)⟩
  | some a => exact ⟨fun z => ⟨a, rfl, z⟩, fun ⟨_, z, q⟩ => by cases z; exact q⟩

def upE (K : PySem.W.Frag) (B : BS) (t : RE) : TE := fun σ H Q => ∃ h m C r Q0, Sta K B h m C r σ H ∧ t r C Q0 ∧
  ∀ d C' m' H' v, Q0 d C' → Ext h m H h m' H' → Rl K h m' C' H' → Rep K m' (hz h m' H') d v → Q v H'
def upT (K : PySem.W.Frag) (B : BS) (t : RT) : TT := fun σ H Q => ∃ h m C r Q0, Sta K B h m C r σ H ∧ t r C Q0 ∧
  ∀ b C' m' H', Q0 b C' → Ext h m H h m' H' → Rl K h m' C' H' → Q b H'
def upA (K : PySem.W.Frag) (B : BS) (n : Nat) (t : RA) : TA := fun σ H Q => ∃ h m C r Q0, Sta K B h m C r σ H ∧ t r C Q0 ∧
  ∀ ds C' m' H' vs, Q0 ds C' → ds.length = n → Ext h m H h m' H' → Rl K h m' C' H' → Reps K m' (hz h m' H') ds vs → Q vs H'
def upS (K : PySem.W.Frag) (B : BS) (t : RS) : TS := fun D σ H => ∃ h m C r D0, Sta K B h m C r σ H ∧ t D0 r C ∧
  ∀ m' H' C', Ext h m H h m' H' → Rl K h m' C' H' →
    (∀ r' σ', D0.nx r' C' → Sta K B h m' C' r' σ' H' → D.nx σ' H') ∧
    (∀ r' σ', D0.bk r' C' → Sta K B h m' C' r' σ' H' → D.bk σ' H') ∧
    (∀ r' σ', D0.ct r' C' → Sta K B h m' C' r' σ' H' → D.ct σ' H') ∧
    (∀ d v, D0.rt d C' → Rep K m' (hz h m' H') d v → D.rt v H')
def XRep (K : PySem.W.Frag) (m : List Addr) (H0 : Hp) (dx : Option Addr) : Option D → Prop
  | none => dx = none
  | some d => ∃ a v, dx = some a ∧ H0 a = some (.xd [(("at" : Str), v)]) ∧ Rep K m H0 d v
def upW (K : PySem.W.Frag) (B : BS) (W : XW) : WX := fun cls dx σ H => ∃ h m C r od, Sta K B h m C r σ H ∧ XRep K m (hz h m H) dx od ∧ W cls od r C
structure DE (X : Cx) (B : BS) (e : Expr) (t : RE) : Prop where
  run : PE X e (upE X.K B t)
structure DT (X : Cx) (B : BS) (e : Expr) (t : RT) : Prop where
  run : PT X e (upT X.K B t)
structure DW (X : Cx) (B : BS) (e : Expr) (t : RT) : Prop where
  run : PW X e (upT X.K B t)
structure DA (X : Cx) (B : BS) (es : List Expr) (t : RA) : Prop where
  run : PA X es (upA X.K B es.length t)
structure DS (X : Cx) (B : BS) (st : Stmt) (t : RS) : Prop where
  run : PS X st (upS X.K B t)
structure DSs (X : Cx) (B : BS) (st : List Stmt) (t : RS) : Prop where
  run : PSs X st (upS X.K B t)

theorem pe_imp {X : Cx} {e : Expr} {t t' : TE} (p : PE X e t) (i : ∀ σ H Q, t' σ H Q → t σ H Q) : PE X e t' := ⟨fun pins s σ H Q I h => p.run pins s σ H Q I (i σ H Q h)⟩
theorem pt_imp {X : Cx} {e : Expr} {t t' : TT} (p : PT X e t) (i : ∀ σ H Q, t' σ H Q → t σ H Q) : PT X e t' := ⟨fun pins s σ H Q I h => p.run pins s σ H Q I (i σ H Q h)⟩
theorem pw_imp {X : Cx} {e : Expr} {t t' : TT} (p : PW X e t) (i : ∀ σ H Q, t' σ H Q → t σ H Q) : PW X e t' := ⟨fun wh pins s σ H Q I h => p.run wh pins s σ H Q I (i σ H Q h)⟩
theorem pa_imp {X : Cx} {e : List Expr} {t t' : TA} (p : PA X e t) (i : ∀ σ H Q, t' σ H Q → t σ H Q) : PA X e t' := ⟨fun pos pins s σ H Q I h => p.run pos pins s σ H Q I (i σ H Q h)⟩
theorem ps_imp {X : Cx} {e : Stmt} {t t' : TS} (p : PS X e t) (i : ∀ D σ H, t' D σ H → t D σ H) : PS X e t' := ⟨fun pins s σ H D I h => p.run pins s σ H D I (i D σ H h)⟩
theorem pss_imp {X : Cx} {e : List Stmt} {t t' : TS} (p : PSs X e t) (i : ∀ D σ H, t' D σ H → t D σ H) : PSs X e t' := ⟨fun pins s σ H D I h => p.run pins s σ H D I (i D σ H h)⟩

/-! ### names, constants -/
def dVar (i : Nat) : RE := fun r C Q => opt (r.getD i none) fun d => Q d C
def dC (d : D) : RE := fun _ C Q => Q d C
section
variable {X : Cx} {B : BS}
theorem getD_some {r : Ev} {i : Nat} {d : D} (h : r.getD i none = some d) : r[i]? = some (some d) := by
  rw [List.getD_eq_getElem?_getD] at h
  cases e : r[i]? with
  | none => rw [e] at h; cases h
  | some o => rw [e] at h; simp at h; rw [h]
theorem d_v (i : Nat) {x : Str} {pos : Pos} (hN : X.N[i]? = some x := by rfl) (hv : Vis X.env.scope x := by first | exact Or.inl rfl | exact Or.inr (Or.inl rfl) | exact Or.inr (Or.inr rfl))
    (hd : (x == ("__debug__" : Str)) = false := by decide) (hcd : (x == ("__classdict__" : Str)) = false := by decide) : DE X B (.Name x pos) (dVar i) := by
  refine ⟨pe_imp (pe_var hN hv hd hcd) fun σ H Q ⟨h, m, C, r, Q0, S, t, k⟩ => ?_⟩
  obtain ⟨d, e, q⟩ := opt_iff.mp t
  obtain ⟨v, hv, rp⟩ := S.en.get i d (getD_some e)
  exact ⟨v, hv, k d C m H v q Ext.refl S.rl rp⟩
theorem d_const {e : Expr} {v : V} {d : D} (p : PE X e (L2.tC v)) (rp : ∀ m H, Rep X.K m H d v) : DE X B e (dC d) :=
  ⟨pe_imp p fun σ H Q ⟨h, m, C, r, Q0, S, t, k⟩ => k d C m H v t Ext.refl S.rl (rp _ _)⟩
theorem d_int {i j pos} : DE X B (.Constant (.int i) j pos) (dC (.int i)) := d_const pe_int fun _ _ => rfl
theorem d_bl {b j pos} : DE X B (.Constant (.bool b) j pos) (dC (.bl b)) := d_const pe_bl fun _ _ => rfl
theorem d_non {j pos} : DE X B (.Constant .none j pos) (dC .non) := d_const pe_non fun _ _ => rfl
theorem d_str {x j pos} : DE X B (.Constant (.str x) j pos) (dC (.str x)) := d_const pe_str fun _ _ => rfl
theorem d_globI {x : Str} {i : Int} {t : Tok} {pos : Pos} (hg : Gl X x) (hm : X.mg x = some (.int i t)) (hd : (x == ("__debug__" : Str)) = false := by decide) : DE X B (.Name x pos) (dC (.int i)) :=
  d_const (pe_glob hg hm (show RelV (.int i) (.int i t) from ⟨t, rfl⟩) hd) fun _ _ => rfl
theorem d_globO {x : Str} {a : Addr} {pos : Pos} (hg : Gl X x) (hm : X.mg x = some (.ref a)) (hd : (x == ("__debug__" : Str)) = false := by decide) : DE X B (.Name x pos) (dC (.obj a)) :=
  d_const (pe_glob hg hm (show RelV (.ref a) (.ref a) from rfl) hd) fun _ _ => rfl
end
end DL
/-! DLT: tuples whose object is known to have no dict: made by displays, tuple(..), slices, sums; their methods. -/
namespace DL
open PySem PySem.Spec PyProof.Rows L2
section
variable {X : Cx} {pins : List (Addr × Obj)} {σ : L2.St} {H : Hp} {s : Shared}
/-- a tuple just laid -/
theorem Inv.tupF {h' : Heap} {vs : List Value} {xs : List V} {t' : Nat} (I : Inv X pins σ H { s with heap := h' }) (hz : xs.length ≤ sizeLine) (r : Vals xs vs) :
    Inv X pins σ (upd H h'.objs.size (.frz { cls := .type "tuple", data := .seq vs.toArray } (.tup xs))) { s with heap := h'.push { cls := .type "tuple", data := .seq vs.toArray }, toks := t' } :=
  Inv.laid (s := { s with heap := h' }) (t' := t') I (fun b o e => Heap.get?_push_of_some _ e) (Nat.le_refl _) ⟨Heap.get?_push_size _ rfl, hz, vs, r, IsTup.new _ _⟩
def tTupF (t : TA) : TE := fun σ H Q => t σ H fun xs H1 => xs.length ≤ sizeLine ∧ ∀ p o, H1 p = none → o.dict = none → Q (.ref p) (upd H1 p (.frz o (.tup xs)))
theorem pe_tupF {es : List Expr} {pos : Pos} {t : TA} {x1} (h : PA X es t) : PE X (.Tuple es x1 pos) (tTupF t) := by
  refine ⟨fun pins s σ H Q I hq => ?_⟩
  refine wpAny_Tuple_spliced (thn (h.run pos pins s σ H _ I hq) fun us s1 ⟨xs, H1, I1, r, z, q⟩ => ⟨by rw [← r.length]; exact z, ?_⟩)
  have hf : H1 s1.heap.objs.size = none := I1.hok.fresh (Nat.le_refl _)
  exact ⟨.ref s1.heap.objs.size, _, Inv.tupF (s := s1) (t' := s1.toks) I1 z r, rfl, q _ _ hf rfl⟩
def kTupF (K : PySem.W.Frag) (xs : List V) (H : Hp) (Q : VK) : Prop := ∃ p ys, xs = [.ref p] ∧
  ((SqL K H p ys ∧ ∀ l o, H l = none → o.dict = none → Q (.ref l) (upd H l (.frz o (.tup ys)))) ∨ (SqT K H p ys ∧ Q (.ref p) H))
theorem call_tupleF : CallR X (.type "tuple") (kTupF X.K) := by
  intro pins s σ H xs us Q I r h
  obtain ⟨p, ys, rfl, h⟩ := h
  obtain ⟨u, rfl, rx⟩ := vals1 r
  cases rx
  rcases h with ⟨hq, q⟩ | ⟨hq, q⟩
  · obtain ⟨its, r', pl, hz⟩ := I.list hq
    have hlen := r'.length
    refine call_tuple_list pl.isList (fun h' kp => ?_) (by simp only [List.size_toArray] <;> omega)
    have I1 : Inv X pins σ H { s with heap := h' } := I.kept (t' := s.toks) kp
    exact ⟨.ref h'.objs.size, _, Inv.tupF (s := s) (t' := s.toks) I1 hz r', rfl, q _ _ (I1.hok.fresh (Nat.le_refl _)) rfl⟩
  · obtain ⟨its, r', pl, hz⟩ := I.tuple hq
    exact call_tuple_same pl ⟨.ref p, H, I, rfl, q⟩
/-- t + u -/
def rCatF (K : PySem.W.Frag) : R2 := fun x y H Q => ∃ a b xs ys, x = .ref a ∧ y = .ref b ∧ SqT K H a xs ∧ SqT K H b ys ∧ xs.length + ys.length ≤ sizeLine ∧
  (xs = [] → Q (.ref b) H) ∧ (xs ≠ [] → ys = [] → Q (.ref a) H) ∧ (xs ≠ [] → ys ≠ [] → ∀ p o, H p = none → o.dict = none → Q (.ref p) (upd H p (.frz o (.tup (xs ++ ys)))))
theorem op_catF : OpR X (binaryOp .Add) (rCatF X.K) := by
  intro pins s σ H x y v u Q I rx ry h
  obtain ⟨a, b, xs, ys, rfl, rfl, ha, hb, hz, q0, q1, q2⟩ := h
  by_cases hx : xs = []
  · subst hx
    cases rx
    cases ry
    obtain ⟨its, r1, p1, _⟩ := I.tuple ha
    obtain ⟨its2, r2, p2, _⟩ := I.tuple hb
    cases r1
    exact cat_tup0 p1 p2 ⟨.ref b, H, I, rfl, q0 rfl⟩
  · cases rx
    cases ry
    obtain ⟨its, r1, p1, _⟩ := I.tuple ha
    obtain ⟨its2, r2, p2, _⟩ := I.tuple hb
    refine HT.cat_tup p1 p2 (fun z => hx (r1.nil_iff.mp z)) (fun z => ⟨.ref a, H, I, rfl, q1 hx (r2.nil_iff.mp z)⟩) (fun z => ?_) (by rw [← r1.length, ← r2.length]; exact hz)
    exact ⟨.ref s.heap.objs.size, _, Inv.tupF (s := s) (t' := s.toks) I (by rw [List.length_append]; exact hz) (r1.append r2), rfl, q2 hx (fun w => z (r2.nil_iff.mpr w)) _ _ (I.hok.fresh (Nat.le_refl _)) rfl⟩
/-- t[lo:hi] -/
def rSlF (K : PySem.W.Frag) : V → Option Int → Option Int → Hp → VK → Prop := fun x lo hi H Q => ∃ a xs, x = .ref a ∧ SqT K H a xs ∧
  (HT.sIx xs.length 0 lo = 0 ∧ HT.sIx xs.length xs.length hi = xs.length → Q (.ref a) H) ∧ (¬ (HT.sIx xs.length 0 lo = 0 ∧ HT.sIx xs.length xs.length hi = xs.length) → ∀ p o, H p = none → o.dict = none → Q (.ref p) (upd H p (.frz o (.tup (cutV xs lo hi)))))
theorem sl_tupF : SlR X (rSlF X.K) := by
  intro pins s σ H x v vl vu lo hi sl Q I rx hs pl pu h
  obtain ⟨a, xs, rfl, hx, q1, q2⟩ := h
  cases rx
  obtain ⟨its, r, ht, hz⟩ := I.tuple hx
  have hlen : its.toArray.size = xs.length := by rw [List.size_toArray]; exact r.length.symm
  refine ⟨"tuple", _, PyProof.Rows.slot_tuple_getitem.lookup, ht.typeIs, ?_⟩
  by_cases hw : HT.sIx xs.length 0 lo = 0 ∧ HT.sIx xs.length xs.length hi = xs.length
  · exact getItem_tuple_whole ht hs pl pu (by rw [hlen]; exact hw) ⟨.ref a, H, I, rfl, q1 hw⟩
  · refine HT.getItem_tuple_cut ht hs pl pu (by rw [hlen]; exact hw) ?_ (by rw [hlen]; exact hz)
    rw [hlen]
    exact ⟨.ref s.heap.objs.size, _, Inv.tupF (s := s) (t' := s.toks) I (Nat.le_trans (cutV_length xs lo hi) hz) ((r.drop (HT.sIx xs.length 0 lo)).take (HT.sIx xs.length xs.length hi - HT.sIx xs.length 0 lo)), rfl, q2 hw _ _ (I.hok.fresh (Nat.le_refl _)) rfl⟩
/-- a method of a known tuple -/
theorem tupF_is {a : Addr} {o : Obj} {xs : List V} (I : Inv X pins σ H s) (h : H a = some (.frz o (.tup xs))) (hd : o.dict = none) : s.TypeIs (.ref a) "tuple" ∧ ∀ b, Value.ref a = .ref b → ∃ ob, s.heap.get? b = some ob ∧ ob.dict = none := by
  obtain ⟨e, z, its, r, o', e', hc, n, hdt⟩ := I.hok a _ h
  rw [e] at e'
  cases e'
  exact ⟨⟨o, e, hc⟩, fun b q => by cases q; exact ⟨o, e, hd⟩⟩
def tBMT (r : V → List V → Hp → VK → Prop) (to : TE) (t : TA) : TE := fun σ H Q => to σ H fun x H1 => (∃ a o xs, x = .ref a ∧ H1 a = some (.frz o (.tup xs)) ∧ o.dict = none) ∧ t σ H1 fun xs H2 => r x xs H2 Q
theorem pe_bmT {o e : Expr} {es : List Expr} {to : TE} {t : TA} {name : Str} {apos cpos : Pos} {id : String} {r : V → List V → Hp → VK → Prop} (slot : Slot "tuple" name id) (hty : typeOf (.builtin id) = pure (.type "method_descriptor")) (hm : MtR X id r) (ho : PE X o to) (ha : PA X (e :: es) t)
    (hbase : attributeBase o name X.env (eval o X.env) = eval o X.env := by rfl)
    (hfew : ((backTo cpos (starEach (e :: es) X.env)).all (fun x => !x.1) && (backToKw cpos (keywordEach [] X.env)).all (fun x => x.1.isSome)
      && decide ((e :: es).length + ([] : List Keyword).length + (if ([] : List Keyword).isEmpty then 0 else 1) < 30)) = true := by rfl)
    (hline : (apos.endLine == cpos.line) = true := by rfl) (hs : starEach (e :: es) X.env = (false, eval e X.env) :: starEach es X.env := by rfl) (hplain : (backTo cpos (starEach es X.env)).any (·.1) = false := by rfl) :
    PE X (.Call (.Attribute o name apos) (e :: es) [] cpos) (tBMT r to t) := by
  refine ⟨fun pins s σ H Q I h => ?_⟩
  refine wpAny_Call_method_late hbase hfew hline rfl (thn (ho.run pins s σ H _ I h) fun v s1 ⟨x, H1, I1, r1, ty, q1⟩ => ?_)
  obtain ⟨a, ob, xs, rfl, h1, hd⟩ := ty
  cases r1
  obtain ⟨k1, k2⟩ := tupF_is I1 h1 hd
  refine ⟨"tuple", id, PySem.F.plainAttrs_tuple, slot, hty, k1, k2, ?_⟩
  have hA := ha.run cpos pins s1 σ H1 _ I1 q1
  rw [hs] at hA ⊢
  refine Calls.callWith_builtin (by show (false || (backTo cpos (starEach es X.env)).any (·.1)) = false; rw [hplain] <;> rfl) (Calls.evalArgs_plain ?_)
  exact thn hA fun us s2 ⟨vs, H2, I2, r2, q2⟩ => hm pins s2 σ H2 (.ref a) vs (.ref a) us Q I2 rfl r2 q2
def rTIndex (K : PySem.W.Frag) : V → List V → Hp → VK → Prop := fun x xs H Q => ∃ (a : Addr) (ys : List V) (y : V) (j : Nat) (z : V), x = V.ref a ∧ xs = [y] ∧ SqT K H a ys ∧ flatV y = true ∧ ys.all flatV = true ∧ ys[j]? = some z ∧ eqV z y = true ∧
  (∀ (m : Nat) (z' : V), m < j → ys[m]? = some z' → eqV z' y = false) ∧ Q (.int (j : Nat)) H
theorem mt_tindex : MtR X "tuple.index" (rTIndex X.K) := by
  intro pins s σ H x xs v us Q I rx rxs h
  obtain ⟨a, ys, y, j, z, rfl, rfl, hs, fy, fys, hz, hzj, hno, q⟩ := h
  cases rx
  obtain ⟨uy, rfl, ry⟩ := vals1 rxs
  obtain ⟨its, rv, pl, hlen⟩ := I.tuple hs
  obtain ⟨⟨cls, dd, data, sl⟩, ho, hc, n, hd⟩ := pl
  simp only at hc hd
  subst hc hd
  obtain ⟨u, hu, ru⟩ := rv.get hz
  obtain ⟨hjl, hje⟩ := List.getElem?_eq_some_iff.mp hu
  have hj : j < its.toArray.size := by simpa using hjl
  refine call_meets PySem.F.slot_tuple_index ⟨_, ho, rfl⟩ PySem.F.entry_tuple_index (PySem.F.args_tuple_index_2 _ _) (TI.tuple_indexAt a its.toArray n dd sl uy (eqU y) j hj ?_ ?_)
    ⟨ho, fun w hw => mem_eqAt ry fy rv fys w (by simpa using hw), ⟨.int (j : Nat), H, I.tok _, ⟨_, rfl⟩, q⟩⟩
  · have e1 : its.toArray[j] = u := by simpa using hje
    rw [e1, eqU_of ru (flat_at fys hz)]
    exact hzj
  · intro m hm hmj
    have hml : m < its.length := by simpa using hm
    have hmy : m < ys.length := by rw [rv.length]; exact hml
    obtain ⟨u2, hu2, ru2⟩ := rv.get (List.getElem?_eq_getElem hmy)
    have e2 : its.toArray[m] = u2 := by
      have := (List.getElem?_eq_some_iff.mp hu2).2
      simpa using this
    rw [e2, eqU_of ru2 (flat_at fys (List.getElem?_eq_getElem hmy))]
    exact hno m _ hmj (List.getElem?_eq_getElem hmy)
end
end DL
/-! DL2: expressions. -/
namespace DL
open PySem PySem.Spec PyProof.Rows L2

/-! ### sequences -/
def lsD (C : Cs) : D → Option (List D)
  | .lst xs => some xs
  | .cel n => match C[n]? with
    | some (.lst xs) => some xs
    | none => none
  | _ => none
/-- lists of any kind -/
def llD (C : Cs) : D → Option (List D)
  | .scr xs => some xs
  | d => lsD C d
def tpD : D → Option (List D)
  | .tup xs => some xs
  | _ => none
/-- lists and tuples -/
def sqD (C : Cs) : D → Option (List D)
  | .tup xs => some xs
  | d => llD C d
section
variable {K : PySem.W.Frag} {h m : List Addr} {C : Cs} {H : Hp} {d : D} {v : V} {ds : List D}
theorem ls_ok (R : Rl K h m C H) (r : Rep K m (hz h m H) d v) (e : lsD C d = some ds) : ∃ a vs, v = .ref a ∧ H a = some (.lst vs) ∧ Reps K m (hz h m H) ds vs := by
  cases d with
  | lst xs =>
    cases e
    obtain ⟨a, vs, e1, e2, e3⟩ := r
    exact ⟨a, vs, e1, hz_sub e2, e3⟩
  | cel n =>
    obtain ⟨a, e1, e2⟩ := r
    have e' : (match C[n]? with | some (.lst xs) => some xs | none => none) = some ds := e
    cases hc : C[n]? with
    | none => rw [hc] at e'; cases e'
    | some c =>
      cases c with
      | lst xs =>
        rw [hc] at e'
        cases e'
        obtain ⟨b, hb, vs, k1, k2⟩ := R.cell n _ hc
        rw [e2] at hb
        cases hb
        exact ⟨a, vs, e1, k1, k2⟩
  | _ => cases e
theorem ll_ok (R : Rl K h m C H) (r : Rep K m (hz h m H) d v) (e : llD C d = some ds) : ∃ a vs, v = .ref a ∧ SqL K H a vs ∧ Reps K m (hz h m H) ds vs := by
  cases d with
  | scr xs =>
    cases e
    obtain ⟨a, vs, e1, e2, e3⟩ := r
    exact ⟨a, vs, e1, SqL.mono (fun _ _ z => hz_sub z) e2, e3⟩
  | lst xs =>
    obtain ⟨a, vs, e1, e2, e3⟩ := ls_ok R r e
    exact ⟨a, vs, e1, .of e2, e3⟩
  | cel n =>
    obtain ⟨a, vs, e1, e2, e3⟩ := ls_ok R r e
    exact ⟨a, vs, e1, .of e2, e3⟩
  | _ => cases e
theorem tp_ok (R : Rl K h m C H) (r : Rep K m (hz h m H) d v) (e : tpD d = some ds) : ∃ a vs o, v = .ref a ∧ H a = some (.frz o (.tup vs)) ∧ o.dict = none ∧ Reps K m (hz h m H) ds vs := by
  cases d with
  | tup xs =>
    cases e
    obtain ⟨a, vs, o, e1, e2, e4, e3⟩ := r
    exact ⟨a, vs, o, e1, hz_sub e2, e4, e3⟩
  | _ => cases e
theorem sq_ok (R : Rl K h m C H) (r : Rep K m (hz h m H) d v) (e : sqD C d = some ds) : ∃ a vs, v = .ref a ∧ (SqL K H a vs ∨ SqT K H a vs) ∧ Reps K m (hz h m H) ds vs := by
  cases d with
  | tup ys =>
    cases e
    obtain ⟨a, vs, o, e1, e2, e4, e3⟩ := tp_ok R r rfl
    exact ⟨a, vs, e1, .inr (.inl (.inr ⟨o, e2⟩)), e3⟩
  | scr xs =>
    obtain ⟨a, vs, e1, e2, e3⟩ := ll_ok (ds := ds) R r e
    exact ⟨a, vs, e1, .inl e2, e3⟩
  | lst xs =>
    obtain ⟨a, vs, e1, e2, e3⟩ := ll_ok (ds := ds) R r e
    exact ⟨a, vs, e1, .inl e2, e3⟩
  | cel n =>
    obtain ⟨a, vs, e1, e2, e3⟩ := ll_ok (ds := ds) R r e
    exact ⟨a, vs, e1, .inl e2, e3⟩
  | _ => cases e
end

/-! ### what is wanted, carried on -/
def Con (K : PySem.W.Frag) (h m : List Addr) (H : Hp) (Q0 : QD) (Q : VK) : Prop :=
  ∀ d C' m' H' v, Q0 d C' → Ext h m H h m' H' → Rl K h m' C' H' → Rep K m' (hz h m' H') d v → Q v H'
section
variable {K : PySem.W.Frag} {h m m1 : List Addr} {C C1 : Cs} {H H1 : Hp} {Q0 : QD} {Q : VK}
theorem Con.ext (k : Con K h m H Q0 Q) (x : Ext h m H h m1 H1) : Con K h m1 H1 Q0 Q := fun d C' m' H' v q y R r => k d C' m' H' v q (x.trans y) R r
theorem Con.now (k : Con K h m H Q0 Q) (R : Rl K h m C H) {d : D} {v : V} (r : Rep K m (hz h m H) d v) (q : Q0 d C) : Q v H := k d C m H v q Ext.refl R r
theorem Con.int (k : Con K h m H Q0 Q) (R : Rl K h m C H) {i : Int} (q : Q0 (.int i) C) : Q (.int i) H := k.now (d := .int i) R rfl q
theorem Con.bl (k : Con K h m H Q0 Q) (R : Rl K h m C H) {i : Bool} (q : Q0 (.bl i) C) : Q (.bl i) H := k.now (d := .bl i) R rfl q
theorem Con.str (k : Con K h m H Q0 Q) (R : Rl K h m C H) {i : Str} (q : Q0 (.str i) C) : Q (.str i) H := k.now (d := .str i) R rfl q
theorem Con.non (k : Con K h m H Q0 Q) (R : Rl K h m C H) (q : Q0 .non C) : Q .non H := k.now (d := .non) R rfl q
/-- a new tuple -/
theorem Con.tup (k : Con K h m H Q0 Q) (R : Rl K h m C H) {ds : List D} {vs : List V} (r : Reps K m (hz h m H) ds vs) (q : Q0 (.tup ds) C) {p : Addr} {o : Obj} (np : H p = none) (hd : o.dict = none) : Q (.ref p) (upd H p (.frz o (.tup vs))) := by
  obtain ⟨x, R', e⟩ := R.newF (o := .frz o (.tup vs)) np
  exact k _ C m _ _ q x R' ⟨p, vs, o, rfl, e, hd, x.reps r⟩
/-- a new list -/
theorem Con.lst (k : Con K h m H Q0 Q) (R : Rl K h m C H) {ds : List D} {vs : List V} (r : Reps K m (hz h m H) ds vs) (q : Q0 (.lst ds) C) {p : Addr} (np : H p = none) : Q (.ref p) (upd H p (.lst vs)) := by
  obtain ⟨x, R', e⟩ := R.newF (o := .lst vs) np
  exact k _ C m _ _ q x R' ⟨p, vs, rfl, e, x.reps r⟩
/-- a new list as a cell -/
theorem Con.cel (k : Con K h m H Q0 Q) (R : Rl K h m C H) {ds : List D} {vs : List V} (r : Reps K m (hz h m H) ds vs) (q : Q0 (.cel C.length) (C ++ [.lst ds])) {p : Addr} (np : H p = none) : Q (.ref p) (upd H p (.lst vs)) := by
  obtain ⟨x, R', e⟩ := R.newC np r
  exact k _ _ _ _ _ q x R' e
end

/-! ### operators by data -/
abbrev O2 := D → D → Cs → QD → Prop
abbrev O1 := D → Cs → QD → Prop
def OpD (K : PySem.W.Frag) (r : R2) (o : O2) : Prop := ∀ h m C H d1 d2 v1 v2 Q0 Q, Rl K h m C H → Rep K m (hz h m H) d1 v1 → Rep K m (hz h m H) d2 v2 → o d1 d2 C Q0 → Con K h m H Q0 Q → r v1 v2 H Q
def UnD (K : PySem.W.Frag) (r : V → Hp → VK → Prop) (o : O1) : Prop := ∀ h m C H d v Q0 Q, Rl K h m C H → Rep K m (hz h m H) d v → o d C Q0 → Con K h m H Q0 Q → r v H Q
def dOp (o : O2) (ta tb : RE) : RE := fun r C Q => ta r C fun x C1 => tb r C1 fun y C2 => o x y C2 Q
def dUn (o : O1) (ta : RE) : RE := fun r C Q => ta r C fun x C1 => o x C1 Q
section
variable {X : Cx} {B : BS} {a b c : Expr} {ta tb tc : RE} {pos : Pos}
theorem up_op {K : PySem.W.Frag} {r : R2} {o : O2} (od : OpD K r o) {σ : L2.St} {H : Hp} {Q : VK} (h : upE K B (dOp o ta tb) σ H Q) : tOp r (upE K B ta) (upE K B tb) σ H Q := by
  obtain ⟨h, m, C, ρ, Q0, S, t, k⟩ := h
  refine ⟨h, m, C, ρ, _, S, t, fun d1 C1 m1 H1 v1 q1 x1 R1 r1 => ?_⟩
  refine ⟨h, m1, C1, ρ, _, S.ext x1 R1, q1, fun d2 C2 m2 H2 v2 q2 x2 R2 r2 => ?_⟩
  exact od h m2 C2 H2 d1 d2 v1 v2 Q0 Q R2 (x2.rep r1) r2 q2 (Con.ext k (x1.trans x2))
theorem d_op {op : Operator} {r : R2} {o : O2} (ho : OpR X (binaryOp op) r) (od : OpD X.K r o) (ha : DE X B a ta) (hb : DE X B b tb) : DE X B (.BinOp a op b pos) (dOp o ta tb) :=
  ⟨pe_imp (pe_op ho ha.run hb.run) fun σ H Q h => up_op od h⟩
theorem d_cmp {op : CmpOp} {r : R2} {o : O2} (ho : OpR X (compareOp op) r) (od : OpD X.K r o) (ha : DE X B a ta) (hb : DE X B b tb) (hm : behindInMarks op b = false) : DE X B (.Compare a [op] [b] pos) (dOp o ta tb) :=
  ⟨pe_imp (pe_cmpR ho ha.run hb.run hm) fun σ H Q h => up_op od h⟩
theorem d_un {op : UnaryOp} {r : V → Hp → VK → Prop} {o : O1} (ho : UnR X (unaryOp op) r) (od : UnD X.K r o) (ha : DE X B a ta) : DE X B (.UnaryOp op a pos) (dUn o ta) := by
  refine ⟨pe_imp (pe_un ho ha.run) fun σ H Q ⟨h, m, C, ρ, Q0, S, t, k⟩ => ?_⟩
  exact ⟨h, m, C, ρ, _, S, t, fun d1 C1 m1 H1 v1 q1 x1 R1 r1 => od h m1 C1 H1 d1 v1 Q0 Q R1 r1 q1 (Con.ext k x1)⟩
/-- a op b op' c -/
def dChain (o o' : O2) (ta tb tc : RE) : RE := fun r C Q => ta r C fun x C1 => tb r C1 fun y C2 => o x y C2 fun z C3 => match z with
  | .bl true => tc r C3 fun w C4 => o' y w C4 Q
  | .bl false => Q (.bl false) C3
  | _ => False
theorem d_chain {op op' : CmpOp} {q q' : R2} {o o' : O2} (ho : OpR X (compareOp op) q) (ho' : OpR X (compareOp op') q') (od : OpD X.K q o) (od' : OpD X.K q' o') (ha : DE X B a ta) (hb : DE X B b tb) (hc : DE X B c tc)
    (hm : lastMarks [op, op'] [b, c] = false := by with_unfolding_all rfl) : DE X B (.Compare a [op, op'] [b, c] pos) (dChain o o' ta tb tc) := by
  refine ⟨pe_imp (pe_chain ho ho' ha.run hb.run hc.run hm) fun σ H Q ⟨h, m, C, ρ, Q0, S, t, k⟩ => ?_⟩
  refine ⟨h, m, C, ρ, _, S, t, fun d1 C1 m1 H1 v1 q1 x1 R1 r1 => ?_⟩
  have S1 := S.ext x1 R1
  refine ⟨h, m1, C1, ρ, _, S1, q1, fun d2 C2 m2 H2 v2 q2 x2 R2 r2 => ?_⟩
  have S2 := S1.ext x2 R2
  refine od h m2 C2 H2 d1 d2 v1 v2 _ _ R2 (x2.rep r1) r2 q2 fun z C3 m3 H3 v3 q3 x3 R3 r3 => ?_
  cases z with
  | bl c =>
    refine ⟨c, r3, ?_⟩
    cases c with
    | true =>
      rw [if_pos rfl]
      refine ⟨h, m3, C3, ρ, _, S2.ext x3 R3, q3, fun d4 C4 m4 H4 v4 q4 x4 R4 r4 => ?_⟩
      exact od' h m4 C4 H4 d2 d4 v2 v4 Q0 Q R4 (x4.rep (x3.rep r2)) r4 q4 (Con.ext k (((x1.trans x2).trans x3).trans x4))
    | false =>
      rw [if_neg Bool.false_ne_true]
      exact k _ _ _ _ _ q3 ((x1.trans x2).trans x3) R3 rfl
  | _ => exact q3.elim

/-! ### tests -/
def dTest (t : RE) : RT := fun r C Q => t r C fun d C1 => match d with
  | .bl b => Q b C1
  | _ => False
theorem d_val {e : Expr} {t : RE} (h : DE X B e t) (he : ∀ whole, isTrue e X.env whole = (do let v ← whole; standAt e.pos; holding [v] (truthy v)) := by intro _; rfl) : DT X B e (dTest t) := by
  refine ⟨pt_imp (pt_val h.run he) fun σ H Q ⟨h, m, C, ρ, Q0, S, t, k⟩ => ?_⟩
  refine ⟨h, m, C, ρ, _, S, t, fun d1 C1 m1 H1 v1 q1 x1 R1 r1 => ?_⟩
  cases d1 with
  | bl b => exact ⟨b, r1, k b C1 m1 H1 q1 x1 R1⟩
  | _ => exact q1.elim
theorem d_cmpT {op : CmpOp} {r : R2} {o : O2} (ho : OpR X (compareOp op) r) (od : OpD X.K r o) (ha : DE X B a ta) (hb : DE X B b tb) (hm : behindInMarks op b = false) : DT X B (.Compare a [op] [b] pos) (dTest (dOp o ta tb)) := by
  refine ⟨pt_imp (pt_cmpR ho ha.run hb.run hm) fun σ H Q ⟨h, m, C, ρ, Q0, S, t, k⟩ => ?_⟩
  refine up_op (o := o) od ⟨h, m, C, ρ, _, S, t, fun d1 C1 m1 H1 v1 q1 x1 R1 r1 => ?_⟩
  cases d1 with
  | bl b => exact ⟨b, r1, k b C1 m1 H1 q1 x1 R1⟩
  | _ => exact q1.elim
theorem d_chainT {op op' : CmpOp} {q q' : R2} {o o' : O2} (ho : OpR X (compareOp op) q) (ho' : OpR X (compareOp op') q') (od : OpD X.K q o) (od' : OpD X.K q' o') (ha : DE X B a ta) (hb : DE X B b tb) (hc : DE X B c tc)
    (hm : lastMarks [op, op'] [b, c] = false := by with_unfolding_all rfl) : DT X B (.Compare a [op, op'] [b, c] pos) (dTest (dChain o o' ta tb tc)) := by
  refine ⟨pt_imp (pt_chain ho ho' ha.run hb.run hc.run hm) fun σ H Q ⟨h, m, C, ρ, Q0, S, t, k⟩ => ?_⟩
  refine ⟨h, m, C, ρ, _, S, t, fun d1 C1 m1 H1 v1 q1 x1 R1 r1 => ?_⟩
  have S1 := S.ext x1 R1
  refine ⟨h, m1, C1, ρ, _, S1, q1, fun d2 C2 m2 H2 v2 q2 x2 R2 r2 => ?_⟩
  have S2 := S1.ext x2 R2
  refine od h m2 C2 H2 d1 d2 v1 v2 _ _ R2 (x2.rep r1) r2 q2 fun z C3 m3 H3 v3 q3 x3 R3 r3 => ?_
  cases z with
  | bl c =>
    refine ⟨c, r3, ?_⟩
    cases c with
    | true =>
      rw [if_pos rfl]
      refine ⟨h, m3, C3, ρ, _, S2.ext x3 R3, q3, fun d4 C4 m4 H4 v4 q4 x4 R4 r4 => ?_⟩
      refine od' h m4 C4 H4 d2 d4 v2 v4 _ _ R4 (x4.rep (x3.rep r2)) r4 q4 fun z5 C5 m5 H5 v5 q5 x5 R5 r5 => ?_
      cases z5 with
      | bl b => exact ⟨b, r5, k b C5 m5 H5 q5 ((((x1.trans x2).trans x3).trans x4).trans x5) R5⟩
      | _ => exact q5.elim
    | false =>
      rw [if_neg Bool.false_ne_true]
      exact ⟨false, rfl, k _ _ _ _ q3 ((x1.trans x2).trans x3) R3⟩
  | _ => exact q3.elim
def dAnd (t u : RT) : RT := fun r C Q => t r C fun c C1 => if c = true then u r C1 Q else Q false C1
def dOr (t u : RT) : RT := fun r C Q => t r C fun c C1 => if c = true then Q true C1 else u r C1 Q
def dNot (t : RT) : RT := fun r C Q => t r C fun c C1 => Q (!c) C1
theorem ite_pushT {c : Bool} {A A' : Prop} {P : Prop} (h1 : c = true → A → P) (h2 : c = false → A' → P) (h : if c = true then A else A') : P := by
  cases c with
  | true => exact h1 rfl (by simpa using h)
  | false => exact h2 rfl (by simpa using h)
section
variable {t u : RT} {rest : List Expr}
theorem dw_pt {e : Expr} (h : DW X B e t) : DT X B e t := ⟨h.run.pt⟩
theorem dw_and1 (ha : DT X B a t) : DW X B (.BoolOp .And [a] pos) t := ⟨pw_and1 ha.run⟩
theorem dw_or1 (ha : DT X B a t) : DW X B (.BoolOp .Or [a] pos) t := ⟨pw_or1 ha.run⟩
theorem dw_and (ha : DT X B a t) (hb : DW X B (.BoolOp .And (b :: rest) pos) u) : DW X B (.BoolOp .And (a :: b :: rest) pos) (dAnd t u) := by
  refine ⟨pw_imp (pw_and ha.run hb.run) fun σ H Q ⟨h, m, C, ρ, Q0, S, t, k⟩ => ?_⟩
  refine ⟨h, m, C, ρ, _, S, t, fun c C1 m1 H1 q1 x1 R1 => ?_⟩
  cases c with
  | true => exact ⟨h, m1, C1, ρ, Q0, S.ext x1 R1, q1, fun d C2 m2 H2 q2 x2 R2 => k d C2 m2 H2 q2 (x1.trans x2) R2⟩
  | false => exact k _ _ _ _ q1 x1 R1
theorem dw_or (ha : DT X B a t) (hb : DW X B (.BoolOp .Or (b :: rest) pos) u) : DW X B (.BoolOp .Or (a :: b :: rest) pos) (dOr t u) := by
  refine ⟨pw_imp (pw_or ha.run hb.run) fun σ H Q ⟨h, m, C, ρ, Q0, S, t, k⟩ => ?_⟩
  refine ⟨h, m, C, ρ, _, S, t, fun c C1 m1 H1 q1 x1 R1 => ?_⟩
  cases c with
  | true => exact k _ _ _ _ q1 x1 R1
  | false => exact ⟨h, m1, C1, ρ, Q0, S.ext x1 R1, q1, fun d C2 m2 H2 q2 x2 R2 => k d C2 m2 H2 q2 (x1.trans x2) R2⟩
theorem dt_not (ha : DT X B a t) : DT X B (.UnaryOp .Not a pos) (dNot t) := by
  refine ⟨pt_imp (pt_not ha.run) fun σ H Q ⟨h, m, C, ρ, Q0, S, t, k⟩ => ?_⟩
  exact ⟨h, m, C, ρ, _, S, t, fun c C1 m1 H1 q1 x1 R1 => k _ _ _ _ q1 x1 R1⟩
end
/-- .. as values -/
def dAndV (ta tb : RE) : RE := fun r C Q => ta r C fun d C1 => match d with
  | .bl true => tb r C1 Q
  | .bl false => Q (.bl false) C1
  | _ => False
def dOrV (ta tb : RE) : RE := fun r C Q => ta r C fun d C1 => match d with
  | .bl true => Q (.bl true) C1
  | .bl false => tb r C1 Q
  | _ => False
def dNotV (ta : RE) : RE := fun r C Q => ta r C fun d C1 => match d with
  | .bl c => Q (.bl (!c)) C1
  | _ => False
theorem de_one {op : BoolOp} (h : DE X B a ta) : DE X B (.BoolOp op [a] pos) ta := ⟨pe_one h.run⟩
theorem de_and {rest : List Expr} (ha : DE X B a ta) (hb : DE X B (.BoolOp .And (b :: rest) pos) tb) : DE X B (.BoolOp .And (a :: b :: rest) pos) (dAndV ta tb) := by
  refine ⟨pe_imp (pe_and ha.run hb.run) fun σ H Q ⟨h, m, C, ρ, Q0, S, t, k⟩ => ?_⟩
  refine ⟨h, m, C, ρ, _, S, t, fun d C1 m1 H1 v1 q1 x1 R1 r1 => ?_⟩
  cases d with
  | bl c =>
    refine ⟨c, r1, ?_⟩
    cases c with
    | true => exact ⟨h, m1, C1, ρ, Q0, S.ext x1 R1, q1, Con.ext k x1⟩
    | false => exact k _ _ _ _ _ q1 x1 R1 rfl
  | _ => exact q1.elim
theorem de_or {rest : List Expr} (ha : DE X B a ta) (hb : DE X B (.BoolOp .Or (b :: rest) pos) tb) : DE X B (.BoolOp .Or (a :: b :: rest) pos) (dOrV ta tb) := by
  refine ⟨pe_imp (pe_or ha.run hb.run) fun σ H Q ⟨h, m, C, ρ, Q0, S, t, k⟩ => ?_⟩
  refine ⟨h, m, C, ρ, _, S, t, fun d C1 m1 H1 v1 q1 x1 R1 r1 => ?_⟩
  cases d with
  | bl c =>
    refine ⟨c, r1, ?_⟩
    cases c with
    | true => exact k _ _ _ _ _ q1 x1 R1 rfl
    | false => exact ⟨h, m1, C1, ρ, Q0, S.ext x1 R1, q1, Con.ext k x1⟩
  | _ => exact q1.elim
theorem de_not (ha : DE X B a ta) : DE X B (.UnaryOp .Not a pos) (dNotV ta) := by
  refine ⟨pe_imp (pe_not ha.run) fun σ H Q ⟨h, m, C, ρ, Q0, S, t, k⟩ => ?_⟩
  refine ⟨h, m, C, ρ, _, S, t, fun d C1 m1 H1 v1 q1 x1 R1 r1 => ?_⟩
  cases d with
  | bl c => exact ⟨c, r1, k _ _ _ _ _ q1 x1 R1 rfl⟩
  | _ => exact q1.elim
def dIf (t : RT) (ta tb : RE) : RE := fun r C Q => t r C fun c C1 => if c = true then ta r C1 Q else tb r C1 Q
theorem de_if {t : RT} (hc : DT X B c t) (ha : DE X B a ta) (hb : DE X B b tb) : DE X B (.IfExp c a b pos) (dIf t ta tb) := by
  refine ⟨pe_imp (pe_ifExp hc.run ha.run hb.run) fun σ H Q ⟨h, m, C, ρ, Q0, S, t, k⟩ => ?_⟩
  refine ⟨h, m, C, ρ, _, S, t, fun c C1 m1 H1 q1 x1 R1 => ?_⟩
  cases c with
  | true => exact ⟨h, m1, C1, ρ, Q0, S.ext x1 R1, q1, Con.ext k x1⟩
  | false => exact ⟨h, m1, C1, ρ, Q0, S.ext x1 R1, q1, Con.ext k x1⟩
end

/-! ### the operators -/
section
variable {X : Cx} {K : PySem.W.Frag}
def oI (g : Int → Int → D) : O2 := fun x y C Q => match x, y with
  | .int i, .int j => Q (g i j) C
  | _, _ => False
def oIc (P : Int → Int → Prop) (g : Int → Int → D) : O2 := fun x y C Q => match x, y with
  | .int i, .int j => P i j ∧ Q (g i j) C
  | _, _ => False
theorem od_I {g : Int → Int → D} {g' : Int → Int → V} (e : ∀ i j m H, Rep K m H (g i j) (g' i j)) : OpD K (rI0 g') (oI g) := by
  intro h m C H d1 d2 v1 v2 Q0 Q R r1 r2 o k
  cases d1 <;> first | exact o.elim | skip
  cases d2 <;> first | exact o.elim | skip
  exact ⟨_, _, r1, r2, k.now R (e _ _ _ _) o⟩
theorem od_Ic {P : Int → Int → Prop} {g : Int → Int → D} {g' : Int → Int → V} (e : ∀ i j m H, Rep K m H (g i j) (g' i j)) : OpD K (rI P g') (oIc P g) := by
  intro h m C H d1 d2 v1 v2 Q0 Q R r1 r2 o k
  cases d1 <;> first | exact o.elim | skip
  cases d2 <;> first | exact o.elim | skip
  exact ⟨_, _, r1, r2, o.1, k.now R (e _ _ _ _) o.2⟩
theorem OpD.or {r r' : R2} {o : O2} (h : ∀ h m C H d1 d2 v1 v2 Q0 Q, Rl K h m C H → Rep K m (hz h m H) d1 v1 → Rep K m (hz h m H) d2 v2 → o d1 d2 C Q0 → Con K h m H Q0 Q → r v1 v2 H Q ∨ r' v1 v2 H Q) : OpD K (fun x y H Q => r x y H Q ∨ r' x y H Q) o := h
def oAdd : O2 := fun x y C Q => match x, y with
  | .int i, .int j => Q (.int (i + j)) C
  | .str x, .str y => x.length + y.length ≤ sizeLine ∧ Q (.str (x ++ y)) C
  | .tup xs, .tup ys => xs.length + ys.length ≤ sizeLine ∧ Q (.tup (xs ++ ys)) C
  | x, y => opt (lsD C x) fun xs => opt (lsD C y) fun ys => xs.length + ys.length ≤ sizeLine ∧ Q (.lst (xs ++ ys)) C
def rAddA (K : PySem.W.Frag) : R2 := fun x y H Q => (rI0 (fun i j => .int (i + j)) x y H Q ∨ (∃ i j, x = .str i ∧ y = .str j ∧ i.length + j.length ≤ sizeLine ∧ Q (.str (i ++ j)) H)) ∨ (rCatF K x y H Q ∨ rCat x y H Q)
theorem op_addA : OpR X (binaryOp .Add) (rAddA X.K) := (op_add.or op_add_str).or (op_catF.or op_cat)
theorem od_addL {h m : List Addr} {C : Cs} {H : Hp} {d1 d2 : D} {v1 v2 : V} {Q0 : QD} {Q : VK} (R : Rl K h m C H) (r1 : Rep K m (hz h m H) d1 v1) (r2 : Rep K m (hz h m H) d2 v2)
    (o : opt (lsD C d1) fun xs => opt (lsD C d2) fun ys => xs.length + ys.length ≤ sizeLine ∧ Q0 (.lst (xs ++ ys)) C) (k : Con K h m H Q0 Q) : rCat v1 v2 H Q := by
  obtain ⟨xs, e1, o⟩ := opt_iff.mp o
  obtain ⟨ys, e2, hl, q⟩ := opt_iff.mp o
  obtain ⟨a, vs, rfl, h1, p1⟩ := ls_ok R r1 e1
  obtain ⟨b, us, rfl, h2, p2⟩ := ls_ok R r2 e2
  exact ⟨a, b, vs, us, rfl, rfl, h1, h2, by rw [← p1.length, ← p2.length]; exact hl, fun p np => k.lst R (p1.append p2) q np⟩
theorem od_add : OpD K (rAddA K) oAdd := by
  intro h m C H d1 d2 v1 v2 Q0 Q R r1 r2 o k
  have L : (opt (lsD C d1) fun xs => opt (lsD C d2) fun ys => xs.length + ys.length ≤ sizeLine ∧ Q0 (.lst (xs ++ ys)) C) → rAddA K v1 v2 H Q := fun o => .inr (.inr (od_addL R r1 r2 o k))
  cases d1 with
  | int i =>
    cases d2 <;> first | exact (L o) | skip
    exact .inl (.inl ⟨_, _, r1, r2, k.int R o⟩)
  | str i =>
    cases d2 <;> first | exact (L o) | skip
    exact .inl (.inr ⟨_, _, r1, r2, o.1, k.str R o.2⟩)
  | tup xs =>
    cases d2 <;> first | exact (L o) | skip
    rename_i ys
    obtain ⟨a, vs, o1, rfl, h1, z1, p1⟩ := tp_ok R r1 rfl
    obtain ⟨b, us, o2, rfl, h2, z2, p2⟩ := tp_ok R r2 rfl
    refine .inr (.inl ⟨a, b, vs, us, rfl, rfl, .inl (.inr ⟨o1, h1⟩), .inl (.inr ⟨o2, h2⟩), by rw [← p1.length, ← p2.length]; exact o.1, fun e => ?_, fun e e' => ?_, fun _ _ p ob np hd => k.tup R (p1.append p2) o.2 np hd⟩)
    · subst e
      have ex : xs = [] := List.eq_nil_of_length_eq_zero p1.length
      subst ex
      exact k.now R r2 o.2
    · subst e'
      have ey : ys = [] := List.eq_nil_of_length_eq_zero p2.length
      subst ey
      have o2 := o.2
      rw [List.append_nil] at o2
      exact k.now R r1 o2
  | _ => exact L o
end
section
variable {X : Cx} {B : BS} {a b c : Expr} {ta tb tc : RE} {pos : Pos}
theorem d_add (ha : DE X B a ta) (hb : DE X B b tb) : DE X B (.BinOp a .Add b pos) (dOp oAdd ta tb) := d_op op_addA od_add ha hb
abbrev oSub : O2 := oI fun i j => .int (i - j)
theorem d_sub (ha : DE X B a ta) (hb : DE X B b tb) : DE X B (.BinOp a .Sub b pos) (dOp oSub ta tb) := d_op op_sub (od_I fun _ _ _ _ => rfl) ha hb
abbrev oFdiv : O2 := oIc CDiv fun i j => .int (i / j)
theorem d_fdiv (ha : DE X B a ta) (hb : DE X B b tb) : DE X B (.BinOp a .FloorDiv b pos) (dOp oFdiv ta tb) := d_op op_fdiv (od_Ic fun _ _ _ _ => rfl) ha hb
abbrev oMod : O2 := oIc (fun _ j => 0 < j) fun i j => .int (i % j)
theorem d_mod (ha : DE X B a ta) (hb : DE X B b tb) : DE X B (.BinOp a .Mod b pos) (dOp oMod ta tb) := d_op op_mod (od_Ic fun _ _ _ _ => rfl) ha hb
abbrev oPow : O2 := oIc CPow fun i j => .int (i ^ j.toNat)
theorem d_pow (ha : DE X B a ta) (hb : DE X B b tb) : DE X B (.BinOp a .Pow b pos) (dOp oPow ta tb) := d_op op_pow (od_Ic fun _ _ _ _ => rfl) ha hb
abbrev oMulI : O2 := oIc CMul fun i j => .int (i * j)
/-- int * int, list * int -/
def oMul : O2 := fun x y C Q => match x, y with
  | .int i, .int j => CMul i j ∧ Q (.int (i * j)) C
  | x, .int k => opt (lsD C x) fun xs => (-(2 ^ 63) ≤ k ∧ k < 2 ^ 63 ∧ xs.length * k.toNat ≤ sizeLine) ∧ Q (.lst (List.replicate k.toNat xs).flatten) C
  | _, _ => False
theorem Reps.rep {K : PySem.W.Frag} {m : List Addr} {H : Hp} {ds : List D} {vs : List V} (r : Reps K m H ds vs) : ∀ k : Nat, Reps K m H (List.replicate k ds).flatten (List.replicate k vs).flatten
  | 0 => rfl
  | k + 1 => by
    rw [List.replicate_succ, List.replicate_succ, List.flatten_cons, List.flatten_cons]
    exact r.append (Reps.rep r k)
theorem d_mul (ha : DE X B a ta) (hb : DE X B b tb) : DE X B (.BinOp a .Mult b pos) (dOp oMul ta tb) := by
  refine d_op (op_mul.or op_rep) (fun h m C H d1 d2 v1 v2 Q0 Q R r1 r2 o k => ?_) ha hb
  cases d2 with
  | int j =>
    have L : (opt (lsD C d1) fun xs => (-(2 ^ 63) ≤ j ∧ j < 2 ^ 63 ∧ xs.length * j.toNat ≤ sizeLine) ∧ Q0 (.lst (List.replicate j.toNat xs).flatten) C) → rRep v1 v2 H Q := fun o => by
      obtain ⟨xs, e1, ⟨b1, b2, b3⟩, q⟩ := opt_iff.mp o
      obtain ⟨a, vs, rfl, h1, p1⟩ := ls_ok R r1 e1
      exact ⟨a, j, vs, rfl, r2, h1, b1, b2, by rw [← p1.length]; exact b3, fun p np => k.lst R (p1.rep _) q np⟩
    cases d1 with
    | int i => exact .inl ⟨_, _, r1, r2, o.1, k.int R o.2⟩
    | _ => exact .inr (L o)
  | _ => cases d1 <;> exact o.elim
abbrev oNeg : O1 := fun x C Q => match x with
  | .int i => Q (.int (-i)) C
  | _ => False
theorem d_neg (ha : DE X B a ta) : DE X B (.UnaryOp .USub a pos) (dUn oNeg ta) := by
  refine d_un un_neg (fun h m C H d v Q0 Q R r o k => ?_) ha
  cases d <;> first | exact o.elim | skip
  exact ⟨_, r, k.int R o⟩

/-! ### comparisons -/
abbrev oLt : O2 := oI fun i j => .bl (decide (i < j))
abbrev oLe : O2 := oI fun i j => .bl (decide (i ≤ j))
abbrev oGt : O2 := oI fun i j => .bl (decide (j < i))
abbrev oGe : O2 := oI fun i j => .bl (decide (j ≤ i))
theorem d_lt (ha : DE X B a ta) (hb : DE X B b tb) : DE X B (.Compare a [.Lt] [b] pos) (dOp oLt ta tb) := d_cmp op_lt (od_I fun _ _ _ _ => rfl) ha hb (nomark _)
theorem d_le (ha : DE X B a ta) (hb : DE X B b tb) : DE X B (.Compare a [.LtE] [b] pos) (dOp oLe ta tb) := d_cmp op_le (od_I fun _ _ _ _ => rfl) ha hb (nomark _)
theorem d_gt (ha : DE X B a ta) (hb : DE X B b tb) : DE X B (.Compare a [.Gt] [b] pos) (dOp oGt ta tb) := d_cmp op_gt (od_I fun _ _ _ _ => rfl) ha hb (nomark _)
theorem d_ge (ha : DE X B a ta) (hb : DE X B b tb) : DE X B (.Compare a [.GtE] [b] pos) (dOp oGe ta tb) := d_cmp op_ge (od_I fun _ _ _ _ => rfl) ha hb (nomark _)
theorem dt_lt (ha : DE X B a ta) (hb : DE X B b tb) : DT X B (.Compare a [.Lt] [b] pos) (dTest (dOp oLt ta tb)) := d_cmpT op_lt (od_I fun _ _ _ _ => rfl) ha hb (nomark _)
theorem dt_le (ha : DE X B a ta) (hb : DE X B b tb) : DT X B (.Compare a [.LtE] [b] pos) (dTest (dOp oLe ta tb)) := d_cmpT op_le (od_I fun _ _ _ _ => rfl) ha hb (nomark _)
theorem dt_gt (ha : DE X B a ta) (hb : DE X B b tb) : DT X B (.Compare a [.Gt] [b] pos) (dTest (dOp oGt ta tb)) := d_cmpT op_gt (od_I fun _ _ _ _ => rfl) ha hb (nomark _)
theorem dt_ge (ha : DE X B a ta) (hb : DE X B b tb) : DT X B (.Compare a [.GtE] [b] pos) (dTest (dOp oGe ta tb)) := d_cmpT op_ge (od_I fun _ _ _ _ => rfl) ha hb (nomark _)
/-- a <= b <= c and its kin -/
theorem d_leLt (ha : DE X B a ta) (hb : DE X B b tb) (hc : DE X B c tc) (hm : lastMarks [.LtE, .Lt] [b, c] = false := by with_unfolding_all rfl) : DE X B (.Compare a [.LtE, .Lt] [b, c] pos) (dChain oLe oLt ta tb tc) := d_chain op_le op_lt (od_I fun _ _ _ _ => rfl) (od_I fun _ _ _ _ => rfl) ha hb hc hm
theorem d_leLe (ha : DE X B a ta) (hb : DE X B b tb) (hc : DE X B c tc) (hm : lastMarks [.LtE, .LtE] [b, c] = false := by with_unfolding_all rfl) : DE X B (.Compare a [.LtE, .LtE] [b, c] pos) (dChain oLe oLe ta tb tc) := d_chain op_le op_le (od_I fun _ _ _ _ => rfl) (od_I fun _ _ _ _ => rfl) ha hb hc hm
theorem d_ltLt (ha : DE X B a ta) (hb : DE X B b tb) (hc : DE X B c tc) (hm : lastMarks [.Lt, .Lt] [b, c] = false := by with_unfolding_all rfl) : DE X B (.Compare a [.Lt, .Lt] [b, c] pos) (dChain oLt oLt ta tb tc) := d_chain op_lt op_lt (od_I fun _ _ _ _ => rfl) (od_I fun _ _ _ _ => rfl) ha hb hc hm
theorem dt_leLt (ha : DE X B a ta) (hb : DE X B b tb) (hc : DE X B c tc) (hm : lastMarks [.LtE, .Lt] [b, c] = false := by with_unfolding_all rfl) : DT X B (.Compare a [.LtE, .Lt] [b, c] pos) (dTest (dChain oLe oLt ta tb tc)) := d_chainT op_le op_lt (od_I fun _ _ _ _ => rfl) (od_I fun _ _ _ _ => rfl) ha hb hc hm
theorem dt_leLe (ha : DE X B a ta) (hb : DE X B b tb) (hc : DE X B c tc) (hm : lastMarks [.LtE, .LtE] [b, c] = false := by with_unfolding_all rfl) : DT X B (.Compare a [.LtE, .LtE] [b, c] pos) (dTest (dChain oLe oLe ta tb tc)) := d_chainT op_le op_le (od_I fun _ _ _ _ => rfl) (od_I fun _ _ _ _ => rfl) ha hb hc hm
theorem dt_ltLt (ha : DE X B a ta) (hb : DE X B b tb) (hc : DE X B c tc) (hm : lastMarks [.Lt, .Lt] [b, c] = false := by with_unfolding_all rfl) : DT X B (.Compare a [.Lt, .Lt] [b, c] pos) (dTest (dChain oLt oLt ta tb tc)) := d_chainT op_lt op_lt (od_I fun _ _ _ _ => rfl) (od_I fun _ _ _ _ => rfl) ha hb hc hm
/-- is None -/
def isNon : D → Bool
  | .non => true
  | _ => false
theorem rep_isNon {K : PySem.W.Frag} {m : List Addr} {H : Hp} {d : D} {v : V} (r : Rep K m H d v) : decide (v = .non) = isNon d := by
  cases d with
  | non =>
    have e : v = .non := r
    subst e
    rfl
  | bl _ => have e : v = .bl _ := r; subst e; rfl
  | int _ => have e : v = .int _ := r; subst e; rfl
  | str _ => have e : v = .str _ := r; subst e; rfl
  | tup _ => obtain ⟨a, vs, _, rfl, _⟩ := r; rfl
  | lst _ => obtain ⟨a, vs, rfl, _⟩ := r; rfl
  | scr _ => obtain ⟨a, vs, rfl, _⟩ := r; rfl
  | cel _ => obtain ⟨a, rfl, _⟩ := r; rfl
  | obj _ => have e : v = .ref _ := r; subst e; rfl
abbrev oIsN : O2 := fun x y C Q => match y with
  | .non => Q (.bl (isNon x)) C
  | _ => False
abbrev oNotN : O2 := fun x y C Q => match y with
  | .non => Q (.bl (!isNon x)) C
  | _ => False
theorem od_isN {K : PySem.W.Frag} : OpD K (fun x y H Q => y = .non ∧ Q (.bl (decide (x = .non))) H) oIsN := by
  intro h m C H d1 d2 v1 v2 Q0 Q R r1 r2 o k
  cases d2 <;> first | exact o.elim | skip
  refine ⟨r2, ?_⟩
  rw [rep_isNon r1]
  exact k.bl R o
theorem od_notN {K : PySem.W.Frag} : OpD K (fun x y H Q => y = .non ∧ Q (.bl (!decide (x = .non))) H) oNotN := by
  intro h m C H d1 d2 v1 v2 Q0 Q R r1 r2 o k
  cases d2 <;> first | exact o.elim | skip
  refine ⟨r2, ?_⟩
  rw [rep_isNon r1]
  exact k.bl R o
theorem d_isN (ha : DE X B a ta) (hb : DE X B b tb) : DE X B (.Compare a [.Is] [b] pos) (dOp oIsN ta tb) := d_cmp op_isN od_isN ha hb (nomark _)
theorem d_notN (ha : DE X B a ta) (hb : DE X B b tb) : DE X B (.Compare a [.IsNot] [b] pos) (dOp oNotN ta tb) := d_cmp op_notN od_notN ha hb (nomark _)
theorem dt_isN (ha : DE X B a ta) (hb : DE X B b tb) : DT X B (.Compare a [.Is] [b] pos) (dTest (dOp oIsN ta tb)) := d_cmpT op_isN od_isN ha hb (nomark _)
theorem dt_notN (ha : DE X B a ta) (hb : DE X B b tb) : DT X B (.Compare a [.IsNot] [b] pos) (dTest (dOp oNotN ta tb)) := d_cmpT op_notN od_notN ha hb (nomark _)
end
end DL
/-! DL3: equality, in, indexes, slices, displays, builtin functions, methods. -/
namespace DL
open PySem PySem.Spec PyProof.Rows L2

/-! ### equality -/
mutual
def pd : D → PyData
  | .non => .none
  | .bl b => .bool b
  | .int i => .int i
  | .str x => .str x
  | .tup xs => .tuple (pds xs)
  | .lst xs => .list (pds xs)
  | .scr xs => .list (pds xs)
  | .cel _ => .none
  | .obj _ => .none
def pds : List D → List PyData
  | [] => []
  | x :: xs => pd x :: pds xs
end
/-! plain data of at most that depth -/
mutual
def shp : Nat → D → Bool
  | _, .non => true
  | _, .bl _ => true
  | _, .int _ => true
  | _, .str x => PyData.strOk x
  | 0, .tup _ => false
  | n + 1, .tup xs => shps n xs
  | 0, .lst _ => false
  | n + 1, .lst xs => shps n xs
  | 0, .scr _ => false
  | n + 1, .scr xs => shps n xs
  | _, .cel _ => false
  | _, .obj _ => false
def shps : Nat → List D → Bool
  | _, [] => true
  | n, x :: xs => shp n x && shps n xs
end
mutual
theorem shp_ok : ∀ (n : Nat) (d : D), shp n d = true → (pd d).canLay0 = true ∧ (pd d).depth ≤ n
  | n, .non, _ => ⟨by simp [pd, PyData.canLay0], by simp [pd, PyData.depth]⟩
  | n, .bl _, _ => ⟨by simp [pd, PyData.canLay0], by simp [pd, PyData.depth]⟩
  | n, .int _, _ => ⟨by simp [pd, PyData.canLay0], by simp [pd, PyData.depth]⟩
  | n, .str x, h => ⟨by simpa [pd, PyData.canLay0, shp] using h, by simp [pd, PyData.depth]⟩
  | 0, .tup _, h => by simp [shp] at h
  | n + 1, .tup xs, h => by
    obtain ⟨h1, h2⟩ := shps_ok n xs (by simpa [shp] using h)
    exact ⟨by simpa [pd, PyData.canLay0] using h1, by simpa [pd, PyData.depth] using h2⟩
  | 0, .lst _, h => by simp [shp] at h
  | n + 1, .lst xs, h => by
    obtain ⟨h1, h2⟩ := shps_ok n xs (by simpa [shp] using h)
    exact ⟨by simpa [pd, PyData.canLay0] using h1, by simpa [pd, PyData.depth] using h2⟩
  | 0, .scr _, h => by simp [shp] at h
  | n + 1, .scr xs, h => by
    obtain ⟨h1, h2⟩ := shps_ok n xs (by simpa [shp] using h)
    exact ⟨by simpa [pd, PyData.canLay0] using h1, by simpa [pd, PyData.depth] using h2⟩
  | _, .cel _, h => by simp [shp] at h
  | _, .obj _, h => by simp [shp] at h
theorem shps_ok : ∀ (n : Nat) (ds : List D), shps n ds = true → PyData.canLayAll0 (pds ds) = true ∧ PyData.depthAll (pds ds) ≤ n
  | n, [], _ => ⟨by simp [pds, PyData.canLayAll0], by simp [pds, PyData.depthAll]⟩
  | n, d :: ds, h => by
    have h' : shp n d = true ∧ shps n ds = true := by simpa [shps] using h
    obtain ⟨a1, a2⟩ := shp_ok n d h'.1
    obtain ⟨b1, b2⟩ := shps_ok n ds h'.2
    exact ⟨by simp [pds, PyData.canLayAll0, a1, b1], by simp only [pds, PyData.depthAll]; omega⟩
end
theorem shp_shaped {n : Nat} {d : D} (hn : n ≤ 64) (h : shp n d = true) : SeqAt.shaped (pd d) = true := by
  obtain ⟨a, b⟩ := shp_ok n d h
  unfold SeqAt.shaped
  rw [a, Bool.true_and]
  exact decide_eq_true (Nat.le_trans b hn)
mutual
theorem dp_of {K : PySem.W.Frag} {m : List Addr} {H : Hp} : ∀ (n : Nat) (d : D) {v : V}, shp n d = true → Rep K m H d v → Dp K H v (pd d)
  | _, .non, _, _, r => by have e := r; cases e; exact .non
  | _, .bl _, _, _, r => by have e : _ = _ := r; subst e; exact .bl _
  | _, .int _, _, _, r => by have e : _ = _ := r; subst e; exact .int _
  | _, .str _, _, _, r => by have e : _ = _ := r; subst e; exact .str _
  | 0, .tup _, _, h, _ => by simp [shp] at h
  | n + 1, .tup xs, _, h, r => by
    obtain ⟨a, vs, o, rfl, e, _, q⟩ := r
    exact .tup (.inl (.inr ⟨o, e⟩)) (dps_of n xs (by simpa [shp] using h) q)
  | 0, .lst _, _, h, _ => by simp [shp] at h
  | n + 1, .lst xs, _, h, r => by
    obtain ⟨a, vs, rfl, e, q⟩ := r
    exact .lst (.of e) (dps_of n xs (by simpa [shp] using h) q)
  | 0, .scr _, _, h, _ => by simp [shp] at h
  | n + 1, .scr xs, _, h, r => by
    obtain ⟨a, vs, rfl, e, q⟩ := r
    exact .lst e (dps_of n xs (by simpa [shp] using h) q)
  | _, .cel _, _, h, _ => by simp [shp] at h
  | _, .obj _, _, h, _ => by simp [shp] at h
theorem dps_of {K : PySem.W.Frag} {m : List Addr} {H : Hp} : ∀ (n : Nat) (ds : List D) {vs : List V}, shps n ds = true → Reps K m H ds vs → DpAll K H vs (pds ds)
  | _, [], _, _, r => by have e : _ = _ := r; subst e; exact .nil
  | n, d :: ds, _, h, r => by
    have h' : shp n d = true ∧ shps n ds = true := by simpa [shps] using h
    obtain ⟨v, vr, rfl, r1, r2⟩ := r
    exact .cons (dp_of n d h'.1 r1) (dps_of n ds h'.2 r2)
end
/-- a value read for ==: a cell is its list -/
def rdC (C : Cs) : D → D
  | .cel n => match C[n]? with
    | some (.lst xs) => .lst xs
    | none => .cel n
  | d => d
def eqD (x y : D) : Bool := PyData.eqv (pd x) (pd y)
def oEqN (neg : Bool) : O2 := fun x y C Q => match x, y with
  | .int i, .int j => Q (.bl (if neg then !decide (i = j) else decide (i = j))) C
  | x, y => shp 60 (rdC C x) = true ∧ shp 60 (rdC C y) = true ∧ Q (.bl (if neg then !eqD (rdC C x) (rdC C y) else eqD (rdC C x) (rdC C y))) C
abbrev oEq : O2 := oEqN false
abbrev oNe : O2 := oEqN true
theorem rdC_dp {K : PySem.W.Frag} {h m : List Addr} {C : Cs} {H : Hp} {d : D} {v : V} (R : Rl K h m C H) (r : Rep K m (hz h m H) d v) (s : shp 60 (rdC C d) = true) : Dp K H v (pd (rdC C d)) := by
  cases d with
  | cel n =>
    obtain ⟨a, rfl, e2⟩ := r
    cases hc : C[n]? with
    | none => simp [rdC, hc, shp] at s
    | some c =>
      cases c with
      | lst xs =>
        obtain ⟨b, hb, vs, k1, k2⟩ := R.cell n _ hc
        rw [e2] at hb
        cases hb
        have e : rdC C (.cel n) = .lst xs := by simp [rdC, hc]
        rw [e] at s ⊢
        exact dp_of (m := m) (H := H) 60 (.lst xs) s ⟨a, vs, rfl, k1, Reps.real k2⟩
  | _ => exact dp_of (m := m) (H := H) 60 _ s (Rep.real r)
theorem eqD_int (i j : Int) : eqD (.int i) (.int j) = decide (i = j) := by
  show PyData.eqv (.int i) (.int j) = _
  rw [PyData.eqv, Bool.beq_eq_decide_eq]
theorem oEqN_gen {neg : Bool} {x y : D} {C : Cs} {Q : QD} (o : oEqN neg x y C Q) : shp 60 (rdC C x) = true ∧ shp 60 (rdC C y) = true ∧ Q (.bl (if neg then !eqD (rdC C x) (rdC C y) else eqD (rdC C x) (rdC C y))) C := by
  cases x with
  | int i =>
    cases y with
    | int j =>
      refine ⟨rfl, rfl, ?_⟩
      show Q (.bl (if neg then !eqD (.int i) (.int j) else eqD (.int i) (.int j))) C
      rw [eqD_int]
      exact o
    | _ => exact o
  | _ => exact o
section
variable {X : Cx} {B : BS} {a b c : Expr} {ta tb tc : RE} {pos : Pos}
theorem od_eqN {K : PySem.W.Frag} : OpD K (rEqD K) (oEqN false) := by
  intro h m C H d1 d2 v1 v2 Q0 Q R r1 r2 o k
  obtain ⟨s1, s2, q⟩ := oEqN_gen o
  refine ⟨_, _, rdC_dp R r1 s1, rdC_dp R r2 s2, shp_shaped (by omega) s1, shp_shaped (by omega) s2, ?_⟩
  exact k.bl R q
theorem od_neN {K : PySem.W.Frag} : OpD K (rNeD K) (oEqN true) := by
  intro h m C H d1 d2 v1 v2 Q0 Q R r1 r2 o k
  obtain ⟨s1, s2, q⟩ := oEqN_gen o
  refine ⟨_, _, rdC_dp R r1 s1, rdC_dp R r2 s2, shp_shaped (by omega) s1, shp_shaped (by omega) s2, ?_⟩
  exact k.bl R q
variable {k : Nat} (hr : Room k X.A)
include hr
theorem d_eq (ha : DE X B a ta) (hb : DE X B b tb) : DE X B (.Compare a [.Eq] [b] pos) (dOp oEq ta tb) := d_cmp (op_eqD hr.units) od_eqN ha hb (nomark _)
theorem d_ne (ha : DE X B a ta) (hb : DE X B b tb) : DE X B (.Compare a [.NotEq] [b] pos) (dOp oNe ta tb) := d_cmp (op_neD hr.units) od_neN ha hb (nomark _)
theorem dt_eq (ha : DE X B a ta) (hb : DE X B b tb) : DT X B (.Compare a [.Eq] [b] pos) (dTest (dOp oEq ta tb)) := d_cmpT (op_eqD hr.units) od_eqN ha hb (nomark _)
theorem dt_ne (ha : DE X B a ta) (hb : DE X B b tb) : DT X B (.Compare a [.NotEq] [b] pos) (dTest (dOp oNe ta tb)) := d_cmpT (op_neD hr.units) od_neN ha hb (nomark _)
end

/-! ### in -/
def flatD : D → Bool
  | .non => true
  | .bl _ => true
  | .int _ => true
  | .str _ => true
  | _ => false
section
variable {K : PySem.W.Frag} {m : List Addr} {H : Hp} {d e : D} {v u : V} {ds : List D} {vs : List V}
theorem flat_rep (r : Rep K m H d v) (f : flatD d = true) : flatV v = true := by
  cases d <;> first | (cases f; done) | (have e : v = _ := r; subst e; rfl)
theorem flats_rep : ∀ {ds : List D} {vs : List V}, Reps K m H ds vs → ds.all flatD = true → vs.all flatV = true
  | [], _, r, _ => by have e : _ = _ := r; subst e; rfl
  | d :: ds, _, ⟨v, vr, e, r, q⟩, f => by
    subst e
    rw [List.all_cons, Bool.and_eq_true] at f ⊢
    exact ⟨flat_rep r f.1, flats_rep q f.2⟩
theorem eqV_rep (r1 : Rep K m H d v) (r2 : Rep K m H e u) (f1 : flatD d = true) (f2 : flatD e = true) : eqV v u = eqD d e := by
  cases d <;> first | (cases f1; done) | skip
  all_goals cases e <;> first | (cases f2; done) | skip
  all_goals
    have e1 : v = _ := r1
    have e2 : u = _ := r2
    subst e1 e2
    unfold eqD
    simp [pd, PyData.eqv, eqV]
theorem any_rep (r : Rep K m H e u) (f : flatD e = true) : ∀ {ds : List D} {vs : List V}, Reps K m H ds vs → ds.all flatD = true → vs.any (fun y => eqV y u) = ds.any fun y => eqD y e
  | [], _, q, _ => by have z : _ = _ := q; subst z; rfl
  | d :: ds, _, ⟨v, vr, z, p, q⟩, g => by
    subst z
    rw [List.all_cons, Bool.and_eq_true] at g
    rw [List.any_cons, List.any_cons, eqV_rep p r g.1 f, any_rep r f q g.2]
end
/-- x in ys: flat things, or a list of plain data -/
def oInN (neg : Bool) : O2 := fun x y C Q => opt (sqD C y) fun ys =>
  ((flatD x = true ∧ ys.all flatD = true) ∨ ((llD C y).isSome = true ∧ shp 60 x = true ∧ shps 59 ys = true)) ∧ Q (.bl (if neg then !ys.any (fun z => eqD z x) else ys.any fun z => eqD z x)) C
theorem pds_map : ∀ ds : List D, pds ds = ds.map pd
  | [] => rfl
  | d :: ds => by rw [pds, pds_map ds]; rfl
theorem ll_sq {C : Cs} {d : D} {ys zs : List D} (h : llD C d = some ys) (h2 : sqD C d = some zs) : zs = ys := by
  cases d <;> simp_all [sqD, llD, lsD]
section
variable {X : Cx} {B : BS} {a b c : Expr} {ta tb tc : RE} {pos : Pos}
theorem od_in {K : PySem.W.Frag} {neg : Bool} : OpD K (fun x y H Q => rIn K neg x y H Q ∨ (if neg then rNotInD K x y H Q else rInD K x y H Q)) (oInN neg) := by
  intro h m C H d1 d2 v1 v2 Q0 Q R r1 r2 o k
  obtain ⟨ys, e, c, q⟩ := opt_iff.mp o
  rcases c with ⟨f1, f2⟩ | ⟨l, s1, s2⟩
  · refine .inl ?_
    obtain ⟨a, vs, rfl, hq, rs⟩ := sq_ok R r2 e
    refine ⟨a, vs, rfl, hq, flat_rep r1 f1, flats_rep rs f2, ?_⟩
    have ea : inV v1 vs = ys.any fun z => eqD z d1 := any_rep r1 f1 rs f2
    cases neg with
    | true => rw [if_pos rfl] at q ⊢; rw [ea]; exact k.bl R q
    | false => rw [if_neg Bool.false_ne_true] at q ⊢; rw [ea]; exact k.bl R q
  · refine .inr ?_
    cases el : llD C d2 with
    | none => rw [el] at l; cases l
    | some zs =>
      have ez := ll_sq el e
      subst ez
      obtain ⟨a, vs, rfl, hq, rs⟩ := ll_ok R r2 el
      have hs : shp 60 (.lst ys) = true := by simpa [shp] using s2
      have dl : Dp K H (.ref a) (.list (pds ys)) := .lst hq (dps_of 59 ys s2 (Reps.real rs))
      have sl : SeqAt.shaped (.list (pds ys)) = true := shp_shaped (n := 60) (d := .lst ys) (by omega) hs
      have ea : (pds ys).any (fun z => PyData.eqv z (pd d1)) = ys.any fun z => eqD z d1 := by
        rw [pds_map, List.any_map]
        rfl
      cases neg with
      | true =>
        rw [if_pos rfl] at q ⊢
        refine ⟨pd d1, pds ys, dp_of 60 d1 s1 (Rep.real r1), dl, shp_shaped (by omega) s1, sl, ?_⟩
        rw [ea]
        exact k.bl R q
      | false =>
        rw [if_neg Bool.false_ne_true] at q ⊢
        refine ⟨pd d1, pds ys, dp_of 60 d1 s1 (Rep.real r1), dl, shp_shaped (by omega) s1, sl, ?_⟩
        rw [ea]
        exact k.bl R q
variable {k : Nat} (hr : Room k X.A)
include hr
theorem units65 : X.A.units + 65 < cLine := by have := hr.un; omega
theorem op_inA : OpR X (compareOp .In) (fun x y H Q => rIn X.K false x y H Q ∨ (if false then rNotInD X.K x y H Q else rInD X.K x y H Q)) := op_in_seq.or (op_inD (units65 hr))
theorem op_notInA : OpR X (compareOp .NotIn) (fun x y H Q => rIn X.K true x y H Q ∨ (if true then rNotInD X.K x y H Q else rInD X.K x y H Q)) := op_notIn_seq.or (op_notInD (units65 hr))
theorem d_in (ha : DE X B a ta) (hb : DE X B b tb) (hm : behindInMarks .In b = false := by rfl) : DE X B (.Compare a [.In] [b] pos) (dOp (oInN false) ta tb) := d_cmp (op_inA hr) od_in ha hb hm
theorem d_notIn (ha : DE X B a ta) (hb : DE X B b tb) (hm : behindInMarks .NotIn b = false := by rfl) : DE X B (.Compare a [.NotIn] [b] pos) (dOp (oInN true) ta tb) := d_cmp (op_notInA hr) od_in ha hb hm
theorem dt_in (ha : DE X B a ta) (hb : DE X B b tb) (hm : behindInMarks .In b = false := by rfl) : DT X B (.Compare a [.In] [b] pos) (dTest (dOp (oInN false) ta tb)) := d_cmpT (op_inA hr) od_in ha hb hm
theorem dt_notIn (ha : DE X B a ta) (hb : DE X B b tb) (hm : behindInMarks .NotIn b = false := by rfl) : DT X B (.Compare a [.NotIn] [b] pos) (dTest (dOp (oInN true) ta tb)) := d_cmpT (op_notInA hr) od_in ha hb hm
end

/-! ### indexes -/
theorem atI_reps {K : PySem.W.Frag} {m : List Addr} {H : Hp} {ds : List D} {vs : List V} (r : Reps K m H ds vs) {i : Int} {d : D} (h : atI ds i = some d) : ∃ v, atI vs i = some v ∧ Rep K m H d v := by
  unfold atI at h ⊢
  rw [← r.length]
  cases e : ixN ds.length i with
  | none => rw [e] at h; cases h
  | some j =>
    rw [e] at h
    obtain ⟨v, hv, q⟩ := r.get (show ds[j]? = some d from h)
    exact ⟨v, hv, q⟩
/-- x[i], for a text, a list, a tuple -/
def oIx : O2 := fun x y C Q => match y with
  | .int i => match x with
    | .str z => z.length ≤ sizeLine ∧ opt (atI z.cps.toList i) fun c => Q (.str ⟨#[c]⟩) C
    | x => opt (sqD C x) fun xs => opt (atI xs i) fun d => Q d C
  | _ => False
section
variable {X : Cx} {B : BS} {a b c : Expr} {ta tb tc : RE} {pos : Pos}
theorem od_ix {K : PySem.W.Frag} : OpD K (rIx K) oIx := by
  intro h m C H d1 d2 v1 v2 Q0 Q R r1 r2 o k
  cases d2 <;> first | exact o.elim | skip
  rename_i i
  have L : (opt (sqD C d1) fun xs => opt (atI xs i) fun d => Q0 d C) → rIx K v1 v2 H Q := fun o => by
    obtain ⟨xs, e, o⟩ := opt_iff.mp o
    obtain ⟨d, e2, q⟩ := opt_iff.mp o
    obtain ⟨a, vs, rfl, hq, rs⟩ := sq_ok R r1 e
    obtain ⟨v, hv, rv⟩ := atI_reps rs e2
    rcases hq with hq | hq
    · exact .inl ⟨a, vs, i, v, rfl, r2, hq, hv, k.now R rv q⟩
    · exact .inr (.inl ⟨a, vs, i, v, rfl, r2, hq, hv, k.now R rv q⟩)
  cases d1 with
  | str z =>
    obtain ⟨hl, o⟩ := o
    obtain ⟨ch, e, q⟩ := opt_iff.mp o
    exact .inr (.inr ⟨z, i, ch, r1, r2, hl, e, k.str R q⟩)
  | _ => exact L o
theorem d_ix (ha : DE X B a ta) (hb : DE X B b tb) (hs : PlainIx b := by exact fun _ _ => rfl) : DE X B (.Subscript a b pos) (dOp oIx ta tb) :=
  ⟨pe_imp (pe_ix ix_seq ha.run hb.run hs) fun σ H Q h => up_op od_ix h⟩
end

/-! ### slices -/
abbrev RO := Ev → Cs → (Option Int → Cs → Prop) → Prop
def upO (K : PySem.W.Frag) (B : BS) (t : RO) : TO := fun σ H Q => ∃ h m C r Q0, Sta K B h m C r σ H ∧ t r C Q0 ∧
  ∀ b C' m' H', Q0 b C' → Ext h m H h m' H' → Rl K h m' C' H' → Q b H'
structure DO (X : Cx) (B : BS) (e : Option Expr) (t : RO) : Prop where
  run : PO X e (upO X.K B t)
def dNo : RO := fun _ C Q => Q none C
def dPart (t : RE) : RO := fun r C Q => t r C fun d C1 => match d with
  | .int i => Q (some i) C1
  | _ => False
def cutD (xs : List D) (lo hi : Option Int) : List D := (xs.drop (HT.sIx xs.length 0 lo)).take (HT.sIx xs.length xs.length hi - HT.sIx xs.length 0 lo)
def oSl (C : Cs) (x : D) (lo hi : Option Int) (Q : QD) : Prop := match x with
  | .str z => z.length ≤ sizeLine ∧ Q (.str (cutS z lo hi)) C
  | .tup xs => Q (.tup (cutD xs lo hi)) C
  | x => opt (llD C x) fun xs => Q (.lst (cutD xs lo hi)) C
/-- the same, a new cell -/
def oSlC (C : Cs) (x : D) (lo hi : Option Int) (Q : QD) : Prop := opt (llD C x) fun xs => Q (.cel C.length) (C ++ [.lst (cutD xs lo hi)])
def dSl (o : Cs → D → Option Int → Option Int → QD → Prop) (t : RE) (tl th : RO) : RE := fun r C Q => t r C fun x C1 => tl r C1 fun l C2 => th r C2 fun u C3 => o C3 x l u Q
section
variable {X : Cx} {B : BS} {e : Expr} {te : RE} {lo hi : Option Expr} {tl th : RO} {pos p2 : Pos}
theorem do_no : DO X B none dNo := by
  refine ⟨⟨fun pins s σ H Q I ⟨h, m, C, r, Q0, S, t, k⟩ => ?_⟩⟩
  exact po_none.run pins s σ H Q I (k none C m H t Ext.refl S.rl)
theorem do_some {e : Expr} {te : RE} (he : DE X B e te) : DO X B (some e) (dPart te) := by
  refine ⟨⟨fun pins s σ H Q I ⟨h, m, C, r, Q0, S, t, k⟩ => ?_⟩⟩
  refine (po_some he.run).run pins s σ H Q I ⟨h, m, C, r, _, S, t, fun d C1 m1 H1 v1 q1 x1 R1 r1 => ?_⟩
  cases d <;> first | exact q1.elim | skip
  exact ⟨_, r1, k _ _ _ _ q1 x1 R1⟩
theorem Reps.cut {K : PySem.W.Frag} {m : List Addr} {H : Hp} {ds : List D} {vs : List V} (r : Reps K m H ds vs) (lo hi : Option Int) : Reps K m H (cutD ds lo hi) (cutV vs lo hi) := by
  unfold cutD cutV
  rw [r.length]
  exact (r.drop _).take _
theorem sl_strA : SlR X (fun x lo hi H Q => ∃ z, x = .str z ∧ z.length ≤ sizeLine ∧ Q (.str (cutS z lo hi)) H) := by
  intro pins s σ H x v vl vu lo hi sl Q I rx hs pl pu h
  exact sl_str pins s σ H x v vl vu lo hi sl Q I rx hs pl pu h
def rSlAll (K : PySem.W.Frag) : V → Option Int → Option Int → Hp → VK → Prop := fun x lo hi H Q => (rSlF K x lo hi H Q ∨ rSlL K x lo hi H Q) ∨ (∃ z, x = .str z ∧ z.length ≤ sizeLine ∧ Q (.str (cutS z lo hi)) H)
theorem sl_all : SlR X (rSlAll X.K) := (sl_tupF.or sl_list).or sl_strA
theorem d_slG {o : Cs → D → Option Int → Option Int → QD → Prop} (ho : ∀ h m C H d v lo hi Q0 Q, Rl X.K h m C H → Rep X.K m (hz h m H) d v → o C d lo hi Q0 → Con X.K h m H Q0 Q → rSlAll X.K v lo hi H Q) (he : DE X B e te) (hl : DO X B lo tl) (hu : DO X B hi th) :
    DE X B (.Subscript e (.Slice lo hi none p2) pos) (dSl o te tl th) := by
  refine ⟨pe_imp (pe_slice sl_all he.run hl.run hu.run) fun σ H Q ⟨h, m, C, r, Q0, S, t, k⟩ => ?_⟩
  refine ⟨h, m, C, r, _, S, t, fun d1 C1 m1 H1 v1 q1 x1 R1 r1 => ?_⟩
  have S1 := S.ext x1 R1
  refine ⟨h, m1, C1, r, _, S1, q1, fun l C2 m2 H2 q2 x2 R2 => ?_⟩
  have S2 := S1.ext x2 R2
  refine ⟨h, m2, C2, r, _, S2, q2, fun u C3 m3 H3 q3 x3 R3 => ?_⟩
  exact ho h m3 C3 H3 d1 v1 l u Q0 Q R3 (x3.rep (x2.rep r1)) q3 (Con.ext k ((x1.trans x2).trans x3))
theorem d_sl (he : DE X B e te) (hl : DO X B lo tl) (hu : DO X B hi th) : DE X B (.Subscript e (.Slice lo hi none p2) pos) (dSl oSl te tl th) := by
  refine d_slG (fun h m C H d v lo hi Q0 Q R r o k => ?_) he hl hu
  have L : (opt (llD C d) fun xs => Q0 (.lst (cutD xs lo hi)) C) → rSlAll X.K v lo hi H Q := fun o => by
    obtain ⟨xs, e1, q⟩ := opt_iff.mp o
    obtain ⟨a, vs, rfl, hq, rs⟩ := ll_ok R r e1
    exact .inl (.inr ⟨a, vs, rfl, hq, fun p np => k.lst R (rs.cut lo hi) q np⟩)
  cases d with
  | str z => exact .inr ⟨z, r, o.1, k.str R o.2⟩
  | tup xs =>
    obtain ⟨a, vs, ob, rfl, e, hd, rs⟩ := tp_ok R r rfl
    refine .inl (.inl ⟨a, vs, rfl, .inl (.inr ⟨ob, e⟩), fun hw => ?_, fun hw p o' np hd => k.tup R (rs.cut lo hi) o np hd⟩)
    have ec : cutD xs lo hi = xs := by
      unfold cutD
      rw [← rs.length] at hw
      rw [hw.1, hw.2]
      simp
    have o' : Q0 (.tup (cutD xs lo hi)) C := o
    rw [ec] at o'
    exact k.now R r o'
  | _ => exact L o
theorem d_slC (he : DE X B e te) (hl : DO X B lo tl) (hu : DO X B hi th) : DE X B (.Subscript e (.Slice lo hi none p2) pos) (dSl oSlC te tl th) := by
  refine d_slG (fun h m C H d v lo hi Q0 Q R r o k => ?_) he hl hu
  obtain ⟨xs, e1, q⟩ := opt_iff.mp o
  obtain ⟨a, vs, rfl, hq, rs⟩ := ll_ok R r e1
  exact .inl (.inr ⟨a, vs, rfl, hq, fun p np => k.cel R (rs.cut lo hi) q np⟩)
/-- x[::-1] of a list -/
def dRev (te : RE) : RE := fun r C Q => te r C fun d C1 => opt (llD C1 d) fun xs => Q (.lst xs.reverse) C1
def dRevC (te : RE) : RE := fun r C Q => te r C fun d C1 => opt (llD C1 d) fun xs => Q (.cel C1.length) (C1 ++ [.lst xs.reverse])
theorem d_rev {k : Nat} {p1 p3 : Pos} (he : DE X B e te) : DE X B (.Subscript e (.Slice none none (some (.UnaryOp .USub (.Constant (.int 1) k p1) p2)) p3) pos) (dRev te) := by
  refine ⟨pe_imp (pe_revL he.run) fun σ H Q ⟨h, m, C, r, Q0, S, t, k⟩ => ?_⟩
  refine ⟨h, m, C, r, _, S, t, fun d1 C1 m1 H1 v1 q1 x1 R1 r1 => ?_⟩
  obtain ⟨xs, e1, q⟩ := opt_iff.mp q1
  obtain ⟨a, vs, rfl, hq, rs⟩ := ll_ok R1 r1 e1
  exact ⟨a, vs, rfl, hq, fun p np => Con.lst (Con.ext k x1) R1 rs.reverse q np⟩
theorem d_revC {k : Nat} {p1 p3 : Pos} (he : DE X B e te) : DE X B (.Subscript e (.Slice none none (some (.UnaryOp .USub (.Constant (.int 1) k p1) p2)) p3) pos) (dRevC te) := by
  refine ⟨pe_imp (pe_revL he.run) fun σ H Q ⟨h, m, C, r, Q0, S, t, k⟩ => ?_⟩
  refine ⟨h, m, C, r, _, S, t, fun d1 C1 m1 H1 v1 q1 x1 R1 r1 => ?_⟩
  obtain ⟨xs, e1, q⟩ := opt_iff.mp q1
  obtain ⟨a, vs, rfl, hq, rs⟩ := ll_ok R1 r1 e1
  exact ⟨a, vs, rfl, hq, fun p np => Con.cel (Con.ext k x1) R1 rs.reverse q np⟩
end
end DL
/-! DL4: arguments, displays, builtin functions, methods of lists and tuples. -/
namespace DL
open PySem PySem.Spec PyProof.Rows L2

/-! ### arguments, displays -/
def dNil : RA := fun _ C Q => Q [] C
def dCons (ta : RE) (tr : RA) : RA := fun r C Q => ta r C fun x C1 => tr r C1 fun xs C2 => Q (x :: xs) C2
def dTup (t : RA) : RE := fun r C Q => t r C fun ds C1 => Q (.tup ds) C1
def dLst (t : RA) : RE := fun r C Q => t r C fun ds C1 => Q (.lst ds) C1
def dLstC (t : RA) : RE := fun r C Q => t r C fun ds C1 => Q (.cel C1.length) (C1 ++ [.lst ds])
section
variable {X : Cx} {B : BS} {e : Expr} {es : List Expr} {te : RE} {t : RA} {pos : Pos}
theorem da_nil : DA X B [] dNil := by
  refine ⟨pa_imp pa_nil fun σ H Q ⟨h, m, C, r, Q0, S, t, k⟩ => ?_⟩
  exact k [] C m H [] t rfl Ext.refl S.rl rfl
theorem da_cons (ha : DE X B e te) (hr : DA X B es t) (hs : starEach (e :: es) X.env = (false, eval e X.env) :: starEach es X.env := by rfl) : DA X B (e :: es) (dCons te t) := by
  refine ⟨pa_imp (pa_cons ha.run hr.run hs) fun σ H Q ⟨h, m, C, r, Q0, S, t, k⟩ => ?_⟩
  refine ⟨h, m, C, r, _, S, t, fun d C1 m1 H1 v1 q1 x1 R1 r1 => ?_⟩
  refine ⟨h, m1, C1, r, _, S.ext x1 R1, q1, fun ds C2 m2 H2 vs q2 hl x2 R2 r2 => ?_⟩
  exact k (d :: ds) C2 m2 H2 (v1 :: vs) q2 (by simp [hl]) (x1.trans x2) R2 (.cons (x2.rep r1) r2)
theorem small_line {n : Nat} (h : n ≤ 1000) : n ≤ sizeLine := Nat.le_trans h (by decide)
theorem d_tup {x1} (h : DA X B es t) (hz : es.length ≤ 1000 := by decide) : DE X B (.Tuple es x1 pos) (dTup t) := by
  refine ⟨pe_imp (pe_tupF h.run) fun σ H Q ⟨h, m, C, r, Q0, S, t, k⟩ => ?_⟩
  refine ⟨h, m, C, r, _, S, t, fun ds C1 m1 H1 vs q1 hl x1 R1 r1 => ⟨by rw [← r1.length, hl]; exact small_line hz, fun p o np hd => ?_⟩⟩
  exact Con.tup (Con.ext k x1) R1 r1 q1 np hd
theorem d_lst (h : DA X B es t) (hz : es.length ≤ 1000 := by decide) : DE X B (.List es pos) (dLst t) := by
  refine ⟨pe_imp (pe_lst h.run) fun σ H Q ⟨h, m, C, r, Q0, S, t, k⟩ => ?_⟩
  refine ⟨h, m, C, r, _, S, t, fun ds C1 m1 H1 vs q1 hl x1 R1 r1 => ⟨by rw [← r1.length, hl]; exact small_line hz, fun p np => ?_⟩⟩
  exact Con.lst (Con.ext k x1) R1 r1 q1 np
theorem d_lstC (h : DA X B es t) (hz : es.length ≤ 1000 := by decide) : DE X B (.List es pos) (dLstC t) := by
  refine ⟨pe_imp (pe_lst h.run) fun σ H Q ⟨h, m, C, r, Q0, S, t, k⟩ => ?_⟩
  refine ⟨h, m, C, r, _, S, t, fun ds C1 m1 H1 vs q1 hl x1 R1 r1 => ⟨by rw [← r1.length, hl]; exact small_line hz, fun p np => ?_⟩⟩
  exact Con.cel (Con.ext k x1) R1 r1 q1 np
end

/-! ### calls of built-ins by data -/
abbrev OA := List D → Cs → QD → Prop
def CallD (K : PySem.W.Frag) (r : List V → Hp → VK → Prop) (o : OA) : Prop := ∀ h m C H ds vs Q0 Q, Rl K h m C H → Reps K m (hz h m H) ds vs → o ds C Q0 → Con K h m H Q0 Q → r vs H Q
def dCB (o : OA) (t : RA) : RE := fun r C Q => t r C fun ds C1 => o ds C1 Q
section
variable {K : PySem.W.Frag} {m : List Addr} {H : Hp} {d e : D} {vs : List V}
theorem reps1 (r : Reps K m H [d] vs) : ∃ v, vs = [v] ∧ Rep K m H d v := by
  obtain ⟨v, vr, rfl, r1, r2⟩ := r
  have e : vr = [] := r2
  subst e
  exact ⟨v, rfl, r1⟩
theorem reps2 (r : Reps K m H [d, e] vs) : ∃ v u, vs = [v, u] ∧ Rep K m H d v ∧ Rep K m H e u := by
  obtain ⟨v, vr, rfl, r1, r2⟩ := r
  obtain ⟨u, rfl, r3⟩ := reps1 r2
  exact ⟨v, u, rfl, r1, r3⟩
theorem reps0 (r : Reps K m H [] vs) : vs = [] := r
end
section
variable {X : Cx} {B : BS} {e : Expr} {es : List Expr} {t : RA} {x : Str} {p pos : Pos} {id T : String} {r : List V → Hp → VK → Prop} {o : OA}
theorem up_cb {K : PySem.W.Frag} {n : Nat} (od : CallD K r o) {σ : L2.St} {H : Hp} {Q : VK} (h : upE K B (dCB o t) σ H Q) : tCB r (upA K B n t) σ H Q := by
  obtain ⟨h, m, C, ρ, Q0, S, t, k⟩ := h
  exact ⟨h, m, C, ρ, _, S, t, fun ds C1 m1 H1 vs q1 hl x1 R1 r1 => od h m1 C1 H1 ds vs Q0 Q R1 r1 q1 (Con.ext k x1)⟩
theorem d_cb (hc : CallR X (.builtin id) r) (od : CallD X.K r o) (hg : Gl X x) (hm : X.mg x = none) (hv : bootBuiltins x = some (.builtin id)) (ha : DA X B (e :: es) t) (hn : x ≠ "__name__" := by decide) (hdb : (x == ("__debug__" : Str)) = false := by decide)
    (he : starEach (e :: es) X.env = (false, eval e X.env) :: starEach es X.env := by rfl) (hpl : (backTo pos (starEach es X.env)).any (·.1) = false := by rfl) :
    DE X B (.Call (.Name x p) (e :: es) [] pos) (dCB o t) :=
  ⟨pe_imp (pe_callB hc hg hm hv ha.run hn hdb he hpl) fun σ H Q h => up_cb od h⟩
theorem d_ct (hc : CallR X (.type T) r) (od : CallD X.K r o) (hg : Gl X x) (hm : X.mg x = none) (hv : bootBuiltins x = some (.type T)) (ha : DA X B (e :: es) t) (hn : x ≠ "__name__" := by decide) (hdb : (x == ("__debug__" : Str)) = false := by decide)
    (he : starEach (e :: es) X.env = (false, eval e X.env) :: starEach es X.env := by rfl) (hpl : (backTo pos (starEach es X.env)).any (·.1) = false := by rfl) :
    DE X B (.Call (.Name x p) (e :: es) [] pos) (dCB o t) :=
  ⟨pe_imp (pe_callTy hc hg hm hv ha.run hn hdb he hpl) fun σ H Q h => up_cb od h⟩
end
def oLen : OA := fun ds C Q => match ds with
  | [.str z] => z.length ≤ sizeLine ∧ Q (.int z.length) C
  | [d] => opt (sqD C d) fun xs => Q (.int xs.length) C
  | _ => False
theorem cd_len {K : PySem.W.Frag} : CallD K (fun xs H Q => ∃ x n, xs = [x] ∧ LenV K x H n ∧ Q (.int n) H) oLen := by
  intro h m C H ds vs Q0 Q R rs o k
  match ds, o with
  | [d], o =>
    obtain ⟨v, rfl, r⟩ := reps1 rs
    have L : (opt (sqD C d) fun xs => Q0 (.int xs.length) C) → ∃ x n, [v] = [x] ∧ LenV K x H n ∧ Q (.int n) H := fun o => by
      obtain ⟨xs, e, q⟩ := opt_iff.mp o
      obtain ⟨a, us, rfl, hq, ru⟩ := sq_ok R r e
      refine ⟨.ref a, us.length, rfl, ?_, ?_⟩
      · rcases hq with hq | hq
        · exact .inl ⟨us, hq, rfl⟩
        · exact .inr ⟨us, hq, rfl⟩
      · rw [← ru.length]
        exact k.int R q
    cases d with
    | str z =>
      have e : v = .str z := r
      subst e
      exact ⟨.str z, z.length, rfl, ⟨o.1, rfl⟩, k.int R o.2⟩
    | _ => exact L o
  | [], o => exact o.elim
  | a :: b :: l, o =>
    cases a <;> exact (False.elim o)
def oTuple : OA := fun ds C Q => match ds with
  | [d] => opt (sqD C d) fun xs => Q (.tup xs) C
  | _ => False
theorem cd_tuple {K : PySem.W.Frag} : CallD K (kTupF K) oTuple := by
  intro h m C H ds vs Q0 Q R rs o k
  match ds, o with
  | [d], o =>
    obtain ⟨v, rfl, r⟩ := reps1 rs
    obtain ⟨xs, e, q⟩ := opt_iff.mp o
    have L : llD C d = some xs → kTupF K [v] H Q := fun e => by
      obtain ⟨a, us, rfl, hq, ru⟩ := ll_ok R r e
      exact ⟨a, us, rfl, .inl ⟨hq, fun l o nl hd => k.tup R ru q nl hd⟩⟩
    cases d with
    | tup ys =>
      cases e
      obtain ⟨a, us, ob, rfl, e, hd, ru⟩ := tp_ok R r rfl
      exact ⟨a, us, rfl, .inr ⟨.inl (.inr ⟨ob, e⟩), k.now R r q⟩⟩
    | _ => exact L e
  | [], o => exact o.elim
  | _ :: _ :: _, o => exact o.elim
def oList : OA := fun ds C Q => match ds with
  | [d] => opt (sqD C d) fun xs => Q (.lst xs) C
  | _ => False
def oListC : OA := fun ds C Q => match ds with
  | [d] => opt (sqD C d) fun xs => Q (.cel C.length) (C ++ [.lst xs])
  | _ => False
abbrev rListOf (K : PySem.W.Frag) : List V → Hp → VK → Prop := fun xs H Q => ∃ p ys, xs = [.ref p] ∧ (SqL K H p ys ∨ SqT K H p ys) ∧ ∀ l, H l = none → Q (.ref l) (upd H l (.lst ys))
theorem cd_list {K : PySem.W.Frag} : CallD K (rListOf K) oList := by
  intro h m C H ds vs Q0 Q R rs o k
  match ds, o with
  | [d], o =>
    obtain ⟨v, rfl, r⟩ := reps1 rs
    obtain ⟨xs, e, q⟩ := opt_iff.mp o
    obtain ⟨a, us, rfl, hq, ru⟩ := sq_ok R r e
    exact ⟨a, us, rfl, hq, fun l nl => k.lst R ru q nl⟩
  | [], o => exact o.elim
  | _ :: _ :: _, o => exact o.elim
theorem cd_listC {K : PySem.W.Frag} : CallD K (rListOf K) oListC := by
  intro h m C H ds vs Q0 Q R rs o k
  match ds, o with
  | [d], o =>
    obtain ⟨v, rfl, r⟩ := reps1 rs
    obtain ⟨xs, e, q⟩ := opt_iff.mp o
    obtain ⟨a, us, rfl, hq, ru⟩ := sq_ok R r e
    exact ⟨a, us, rfl, hq, fun l nl => k.cel R ru q nl⟩
  | [], o => exact o.elim
  | _ :: _ :: _, o => exact o.elim
def oAbs : OA := fun ds C Q => match ds with
  | [.int i] => Q (.int (if i < 0 then -i else i)) C
  | _ => False
theorem cd_abs {K : PySem.W.Frag} : CallD K (fun xs H Q => ∃ i, xs = [.int i] ∧ Q (.int (if i < 0 then -i else i)) H) oAbs := by
  intro h m C H ds vs Q0 Q R rs o k
  match ds, o with
  | [.int i], o =>
    obtain ⟨v, rfl, r⟩ := reps1 rs
    have e : v = .int i := r
    subst e
    exact ⟨i, rfl, k.int R o⟩
def oInt : OA := fun ds C Q => match ds with
  | [.int i] => Q (.int i) C
  | _ => False
theorem cd_int {K : PySem.W.Frag} : CallD K (fun xs H Q => (∃ i, xs = [.int i] ∧ Q (.int i) H) ∨ ∃ k, xs = [.bl k] ∧ Q (.int (if k then 1 else 0)) H) oInt := by
  intro h m C H ds vs Q0 Q R rs o k
  match ds, o with
  | [.int i], o =>
    obtain ⟨v, rfl, r⟩ := reps1 rs
    have e : v = .int i := r
    subst e
    exact .inl ⟨i, rfl, k.int R o⟩
def oStrI : OA := fun ds C Q => match ds with
  | [.int i] => i.natAbs.log2 < 1920 ∧ Q (.str (toString i)) C
  | _ => False
theorem cd_strI {K : PySem.W.Frag} : CallD K (fun xs H Q => ∃ i, xs = [.int i] ∧ i.natAbs.log2 < 1920 ∧ Q (.str (toString i)) H) oStrI := by
  intro h m C H ds vs Q0 Q R rs o k
  match ds, o with
  | [.int i], o =>
    obtain ⟨v, rfl, r⟩ := reps1 rs
    have e : v = .int i := r
    subst e
    exact ⟨i, rfl, o.1, k.str R o.2⟩
def oMax2 : OA := fun ds C Q => match ds with
  | [.int i, .int j] => Q (.int (if j > i then j else i)) C
  | _ => False
theorem cd_max2 {K : PySem.W.Frag} : CallD K (fun xs H Q => ∃ i j, xs = [.int i, .int j] ∧ Q (.int (if j > i then j else i)) H) oMax2 := by
  intro h m C H ds vs Q0 Q R rs o k
  match ds, o with
  | [.int i, .int j], o =>
    obtain ⟨v, u, rfl, r1, r2⟩ := reps2 rs
    have e1 : v = .int i := r1
    have e2 : u = .int j := r2
    subst e1 e2
    exact ⟨i, j, rfl, k.int R o⟩
def oMin2 : OA := fun ds C Q => match ds with
  | [.int i, .int j] => Q (.int (if j < i then j else i)) C
  | _ => False
theorem cd_min2 {K : PySem.W.Frag} : CallD K (fun xs H Q => ∃ i j, xs = [.int i, .int j] ∧ Q (.int (if j < i then j else i)) H) oMin2 := by
  intro h m C H ds vs Q0 Q R rs o k
  match ds, o with
  | [.int i, .int j], o =>
    obtain ⟨v, u, rfl, r1, r2⟩ := reps2 rs
    have e1 : v = .int i := r1
    have e2 : u = .int j := r2
    subst e1 e2
    exact ⟨i, j, rfl, k.int R o⟩
/-- lists of bools, of ints -/
def blsD : List D → Option (List Bool)
  | [] => some []
  | .bl b :: ds => (blsD ds).map (b :: ·)
  | _ => none
def intsD : List D → Option (List Int)
  | [] => some []
  | .int b :: ds => (intsD ds).map (b :: ·)
  | _ => none
theorem bls_rep {K : PySem.W.Frag} {m : List Addr} {H : Hp} : ∀ {ds : List D} {vs : List V} {bs : List Bool}, Reps K m H ds vs → blsD ds = some bs → vs = bs.map V.bl
  | [], _, _, r, e => by
    cases e
    exact r
  | d :: ds, _, bs, ⟨v, vr, z, r, q⟩, e => by
    subst z
    cases d <;> first | (cases e; done) | skip
    cases e2 : blsD ds with
    | none => simp [blsD, e2] at e
    | some cs =>
      simp [blsD, e2] at e
      subst e
      have e1 : v = .bl _ := r
      rw [e1, bls_rep q e2]
      rfl
theorem ints_rep {K : PySem.W.Frag} {m : List Addr} {H : Hp} : ∀ {ds : List D} {vs : List V} {bs : List Int}, Reps K m H ds vs → intsD ds = some bs → vs = bs.map V.int
  | [], _, _, r, e => by
    cases e
    exact r
  | d :: ds, _, bs, ⟨v, vr, z, r, q⟩, e => by
    subst z
    cases d <;> first | (cases e; done) | skip
    cases e2 : intsD ds with
    | none => simp [intsD, e2] at e
    | some cs =>
      simp [intsD, e2] at e
      subst e
      have e1 : v = .int _ := r
      rw [e1, ints_rep q e2]
      rfl
theorem blsD_map : ∀ bs : List Bool, blsD (bs.map D.bl) = some bs
  | [] => rfl
  | b :: bs => by rw [List.map_cons, blsD, blsD_map bs]; rfl
theorem intsD_map : ∀ bs : List Int, intsD (bs.map D.int) = some bs
  | [] => rfl
  | b :: bs => by rw [List.map_cons, intsD, intsD_map bs]; rfl
def oAll : OA := fun ds C Q => match ds with
  | [d] => opt (llD C d) fun xs => opt (blsD xs) fun bs => Q (.bl (bs.all id)) C
  | _ => False
def oAny : OA := fun ds C Q => match ds with
  | [d] => opt (llD C d) fun xs => opt (blsD xs) fun bs => Q (.bl (bs.any id)) C
  | _ => False
theorem cd_all {K : PySem.W.Frag} : CallD K (rAll K) oAll := by
  intro h m C H ds vs Q0 Q R rs o k
  match ds, o with
  | [d], o =>
    obtain ⟨v, rfl, r⟩ := reps1 rs
    obtain ⟨xs, e, o⟩ := opt_iff.mp o
    obtain ⟨bs, e2, q⟩ := opt_iff.mp o
    obtain ⟨a, us, rfl, hq, ru⟩ := ll_ok R r e
    rw [bls_rep ru e2] at hq
    exact ⟨a, bs, rfl, hq, k.bl R q⟩
  | [], o => exact o.elim
  | _ :: _ :: _, o => exact o.elim
theorem cd_any {K : PySem.W.Frag} : CallD K (rAny K) oAny := by
  intro h m C H ds vs Q0 Q R rs o k
  match ds, o with
  | [d], o =>
    obtain ⟨v, rfl, r⟩ := reps1 rs
    obtain ⟨xs, e, o⟩ := opt_iff.mp o
    obtain ⟨bs, e2, q⟩ := opt_iff.mp o
    obtain ⟨a, us, rfl, hq, ru⟩ := ll_ok R r e
    rw [bls_rep ru e2] at hq
    exact ⟨a, bs, rfl, hq, k.bl R q⟩
  | [], o => exact o.elim
  | _ :: _ :: _, o => exact o.elim
def oSum : OA := fun ds C Q => match ds with
  | [d] => opt (llD C d) fun xs => opt (intsD xs) fun ns => Q (.int ns.sum) C
  | _ => False
theorem cd_sum {K : PySem.W.Frag} : CallD K (rSum K) oSum := by
  intro h m C H ds vs Q0 Q R rs o k
  match ds, o with
  | [d], o =>
    obtain ⟨v, rfl, r⟩ := reps1 rs
    obtain ⟨xs, e, o⟩ := opt_iff.mp o
    obtain ⟨bs, e2, q⟩ := opt_iff.mp o
    obtain ⟨a, us, rfl, hq, ru⟩ := ll_ok R r e
    rw [ints_rep ru e2] at hq
    exact ⟨a, bs, rfl, hq, k.int R q⟩
  | [], o => exact o.elim
  | _ :: _ :: _, o => exact o.elim
def oMaxL : OA := fun ds C Q => match ds with
  | [d] => opt (llD C d) fun xs => opt (intsD xs) fun ns => 0 < ns.length ∧ ∀ m, m ∈ ns → (∀ y, y ∈ ns → y ≤ m) → Q (.int m) C
  | _ => False
theorem cd_maxL {K : PySem.W.Frag} : CallD K (rMax K) oMaxL := by
  intro h m C H ds vs Q0 Q R rs o k
  match ds, o with
  | [d], o =>
    obtain ⟨v, rfl, r⟩ := reps1 rs
    obtain ⟨xs, e, o⟩ := opt_iff.mp o
    obtain ⟨bs, e2, hl, q⟩ := opt_iff.mp o
    obtain ⟨a, us, rfl, hq, ru⟩ := ll_ok R r e
    rw [ints_rep ru e2] at hq
    exact ⟨a, bs, rfl, hq, hl, fun mm h1 h2 => k.int R (q mm h1 h2)⟩
  | [], o => exact o.elim
  | _ :: _ :: _, o => exact o.elim
/-- sorted(ints) -/
def oSorted : OA := fun ds C Q => match ds with
  | [d] => opt (llD C d) fun xs => opt (intsD xs) fun ns => ∀ ns' : List Int, ns'.Perm ns → ns'.Pairwise (· ≤ ·) → Q (.lst (ns'.map D.int)) C
  | _ => False
theorem cd_sorted {K : PySem.W.Frag} : CallD K (rSortedI K) oSorted := by
  intro h m C H ds vs Q0 Q R rs o k
  match ds, o with
  | [d], o =>
    obtain ⟨v, rfl, r⟩ := reps1 rs
    obtain ⟨xs, e, o⟩ := opt_iff.mp o
    obtain ⟨bs, e2, q⟩ := opt_iff.mp o
    obtain ⟨a, us, rfl, hq, ru⟩ := ll_ok R r e
    rw [ints_rep ru e2] at hq
    exact ⟨a, bs, rfl, hq, fun ns' p h1 h2 np => k.lst R Reps.ints (q ns' h1 h2) np⟩
  | [], o => exact o.elim
  | _ :: _ :: _, o => exact o.elim

/-! ### the built-in functions by name -/
section
variable {X : Cx} {B : BS} {e : Expr} {es : List Expr} {t : RA} {p pos : Pos}
theorem d_len (hm : X.mg "len" = none) (ha : DA X B [e] t) (hg : Gl X "len" := by rfl) (he : starEach (e :: []) X.env = (false, eval e X.env) :: starEach [] X.env := by rfl) : DE X B (.Call (.Name "len" p) [e] [] pos) (dCB oLen t) :=
  d_cb call_len cd_len hg hm PySem.boot_len ha (by decide) (by decide) he rfl
theorem d_tuple (hm : X.mg "tuple" = none) (ha : DA X B [e] t) (hg : Gl X "tuple" := by rfl) (he : starEach (e :: []) X.env = (false, eval e X.env) :: starEach [] X.env := by rfl) : DE X B (.Call (.Name "tuple" p) [e] [] pos) (dCB oTuple t) :=
  d_ct call_tupleF cd_tuple hg hm boot_tuple ha (by decide) (by decide) he rfl
theorem d_list (hm : X.mg "list" = none) (ha : DA X B [e] t) (hg : Gl X "list" := by rfl) (he : starEach (e :: []) X.env = (false, eval e X.env) :: starEach [] X.env := by rfl) : DE X B (.Call (.Name "list" p) [e] [] pos) (dCB oList t) :=
  d_ct call_list_of cd_list hg hm (by decide +kernel) ha (by decide) (by decide) he rfl
theorem d_listC (hm : X.mg "list" = none) (ha : DA X B [e] t) (hg : Gl X "list" := by rfl) (he : starEach (e :: []) X.env = (false, eval e X.env) :: starEach [] X.env := by rfl) : DE X B (.Call (.Name "list" p) [e] [] pos) (dCB oListC t) :=
  d_ct call_list_of cd_listC hg hm (by decide +kernel) ha (by decide) (by decide) he rfl
theorem d_abs (hm : X.mg "abs" = none) (ha : DA X B [e] t) (hg : Gl X "abs" := by rfl) (he : starEach (e :: []) X.env = (false, eval e X.env) :: starEach [] X.env := by rfl) : DE X B (.Call (.Name "abs" p) [e] [] pos) (dCB oAbs t) :=
  d_cb call_abs cd_abs hg hm (by decide +kernel) ha (by decide) (by decide) he rfl
theorem d_intC (hm : X.mg "int" = none) (ha : DA X B [e] t) (hg : Gl X "int" := by rfl) (he : starEach (e :: []) X.env = (false, eval e X.env) :: starEach [] X.env := by rfl) : DE X B (.Call (.Name "int" p) [e] [] pos) (dCB oInt t) :=
  d_ct call_int1 cd_int hg hm (by decide +kernel) ha (by decide) (by decide) he rfl
theorem d_strI (hm : X.mg "str" = none) (ha : DA X B [e] t) (hg : Gl X "str" := by rfl) (he : starEach (e :: []) X.env = (false, eval e X.env) :: starEach [] X.env := by rfl) : DE X B (.Call (.Name "str" p) [e] [] pos) (dCB oStrI t) :=
  d_ct call_str_int cd_strI hg hm (by decide +kernel) ha (by decide) (by decide) he rfl
theorem d_max2 {e2 : Expr} (hc : X.calm = true) (hm : X.mg "max" = none) (ha : DA X B [e, e2] t) (hg : Gl X "max" := by rfl) (he : starEach (e :: [e2]) X.env = (false, eval e X.env) :: starEach [e2] X.env := by rfl) (hpl : (backTo pos (starEach [e2] X.env)).any (·.1) = false := by rfl) : DE X B (.Call (.Name "max" p) [e, e2] [] pos) (dCB oMax2 t) :=
  d_cb (call_max2 hc) cd_max2 hg hm (by decide +kernel) ha (by decide) (by decide) he hpl
theorem d_min2 {e2 : Expr} (hc : X.calm = true) (hm : X.mg "min" = none) (ha : DA X B [e, e2] t) (hg : Gl X "min" := by rfl) (he : starEach (e :: [e2]) X.env = (false, eval e X.env) :: starEach [e2] X.env := by rfl) (hpl : (backTo pos (starEach [e2] X.env)).any (·.1) = false := by rfl) : DE X B (.Call (.Name "min" p) [e, e2] [] pos) (dCB oMin2 t) :=
  d_cb (call_min2 hc) cd_min2 hg hm (by decide +kernel) ha (by decide) (by decide) he hpl
theorem d_all (hc : X.calm = true) (hm : X.mg "all" = none) (ha : DA X B [e] t) (hg : Gl X "all" := by rfl) (he : starEach (e :: []) X.env = (false, eval e X.env) :: starEach [] X.env := by rfl) : DE X B (.Call (.Name "all" p) [e] [] pos) (dCB oAll t) :=
  d_cb (cr_all hc) cd_all hg hm (by decide +kernel) ha (by decide) (by decide) he rfl
theorem d_any (hc : X.calm = true) (hm : X.mg "any" = none) (ha : DA X B [e] t) (hg : Gl X "any" := by rfl) (he : starEach (e :: []) X.env = (false, eval e X.env) :: starEach [] X.env := by rfl) : DE X B (.Call (.Name "any" p) [e] [] pos) (dCB oAny t) :=
  d_cb (cr_any hc) cd_any hg hm (by decide +kernel) ha (by decide) (by decide) he rfl
theorem d_sum (hc : X.calm = true) (hm : X.mg "sum" = none) (ha : DA X B [e] t) (hg : Gl X "sum" := by rfl) (he : starEach (e :: []) X.env = (false, eval e X.env) :: starEach [] X.env := by rfl) : DE X B (.Call (.Name "sum" p) [e] [] pos) (dCB oSum t) :=
  d_cb (cr_sum hc) cd_sum hg hm (by decide +kernel) ha (by decide) (by decide) he rfl
theorem d_maxL (hc : X.calm = true) (hm : X.mg "max" = none) (ha : DA X B [e] t) (hg : Gl X "max" := by rfl) (he : starEach (e :: []) X.env = (false, eval e X.env) :: starEach [] X.env := by rfl) : DE X B (.Call (.Name "max" p) [e] [] pos) (dCB oMaxL t) :=
  d_cb (cr_max hc) cd_maxL hg hm (by decide +kernel) ha (by decide) (by decide) he rfl
theorem d_sorted (hm : X.mg "sorted" = none) (ha : DA X B [e] t) (hg : Gl X "sorted" := by rfl) (he : starEach (e :: []) X.env = (false, eval e X.env) :: starEach [] X.env := by rfl) : DE X B (.Call (.Name "sorted" p) [e] [] pos) (dCB oSorted t) :=
  d_cb cr_sortedI cd_sorted hg hm (by decide +kernel) ha (by decide) (by decide) he rfl
end

/-! ### isinstance against built-in classes -/
def tyOf : D → Option String
  | .non => some "NoneType"
  | .bl _ => some "bool"
  | .int _ => some "int"
  | .str _ => some "str"
  | .tup _ => some "tuple"
  | .lst _ => some "list"
  | .scr _ => some "list"
  | .cel _ => some "list"
  | .obj _ => none
def isTy (T : String) (d : D) : Option Bool := (tyOf d).bind fun t => kitB t T
theorem tyx_of {K : PySem.W.Frag} {h m : List Addr} {C : Cs} {H : Hp} {d : D} {v : V} {t : String} (R : Rl K h m C H) (r : Rep K m (hz h m H) d v) (e : tyOf d = some t) : TyX K H v (.type t) := by
  cases d <;> cases e
  · have z : v = _ := r
    subst z
    exact .base .non
  · have z : v = _ := r
    subst z
    exact .base (.bl _)
  · have z : v = _ := r
    subst z
    exact .base (.int _)
  · have z : v = _ := r
    subst z
    exact .base (.str _)
  · obtain ⟨a, vs, o, rfl, e, hd, _⟩ := r
    exact .fTuple (hz_sub e)
  · obtain ⟨a, vs, rfl, e, _⟩ := r
    exact .base (.lst (hz_sub e))
  · obtain ⟨a, vs, rfl, e, _⟩ := r
    rcases e with (e | ⟨o, e⟩) | ⟨o, its, n, e1, e2, _⟩
    · exact .base (.lst (hz_sub e))
    · exact .base (.frz (hz_sub e))
    · exact .kList e1 e2
  · rename_i n
    obtain ⟨a, rfl, e⟩ := r
    have hl : n < m.length := (List.getElem?_eq_some_iff.mp e).1
    rw [R.len] at hl
    obtain ⟨b, hb, k⟩ := R.cell _ _ (List.getElem?_eq_getElem hl)
    rw [e] at hb
    cases hb
    cases hc : C[n] with
    | lst ds =>
      rw [hc] at k
      obtain ⟨vs, q, _⟩ := k
      exact .base (.lst q)
/-- isinstance(e, T) -/
def dIsi (T : String) (te : RE) : RE := fun r C Q => te r C fun d C1 => opt (isTy T d) fun b => Q (.bl b) C1
section
variable {X : Cx} {B : BS} {e : Expr} {te : RE} {x y : Str} {p p2 pos : Pos} {T : String}
theorem d_isi (hm : X.mg "isinstance" = none) (he : DE X B e te) (hmT : X.mg y = none) (hvT : bootBuiltins y = some (.type T)) (hgT : Gl X y := by rfl) (hg : Gl X "isinstance" := by rfl) (hn : y ≠ "__name__" := by decide) (hdb : (y == ("__debug__" : Str)) = false := by decide)
    (hs : starEach [e, .Name y p2] X.env = (false, eval e X.env) :: starEach [.Name y p2] X.env := by rfl) (hs2 : starEach [.Name y p2] X.env = (false, eval (.Name y p2) X.env) :: starEach [] X.env := by rfl) (hpl : (backTo pos (starEach [.Name y p2] X.env)).any (·.1) = false := by rfl) :
    DE X B (.Call (.Name "isinstance" p) [e, .Name y p2] [] pos) (dIsi T te) := by
  have hT : PE X (.Name y p2) (tC (.ty T)) := pe_bltn hgT hmT hvT (show L2.RelV (.ty T) (.type T) from rfl) hn hdb
  refine ⟨pe_imp (pe_callB call_isi hg hm (by decide +kernel) (pa_cons he.run (pa_cons hT pa_nil hs2) hs) (by decide) (by decide) hs hpl) fun σ H Q ⟨h, m, C, r, Q0, S, t, k⟩ => ?_⟩
  refine ⟨h, m, C, r, _, S, t, fun d C1 m1 H1 v1 q1 x1 R1 r1 => ?_⟩
  obtain ⟨b, e1, q⟩ := opt_iff.mp q1
  unfold isTy at e1
  cases et : tyOf d with
  | none => rw [et] at e1; cases e1
  | some t =>
    rw [et] at e1
    exact ⟨v1, .ty T, .type t, .type T, b, rfl, .ty T, tyx_of R1 r1 et, kit_ty e1, Con.bl (Con.ext k x1) R1 q⟩
/-- isinstance(e, (S, T)) -/
def dIsi2 (S T : String) (te : RE) : RE := fun r C Q => te r C fun d C1 => opt (isTy S d) fun b => opt (isTy T d) fun c => Q (.bl (b || c)) C1
theorem d_isi2 {y2 : Str} {p3 p4 : Pos} {k2 : Nat} {S : String} (hm : X.mg "isinstance" = none) (he : DE X B e te) (hmT : X.mg y = none) (hvT : bootBuiltins y = some (.type S)) (hmT2 : X.mg y2 = none) (hvT2 : bootBuiltins y2 = some (.type T)) (hgT : Gl X y := by rfl) (hgT2 : Gl X y2 := by rfl) (hg : Gl X "isinstance" := by rfl)
    (hn : y ≠ "__name__" := by decide) (hdb : (y == ("__debug__" : Str)) = false := by decide) (hn2 : y2 ≠ "__name__" := by decide) (hdb2 : (y2 == ("__debug__" : Str)) = false := by decide)
    (hs : starEach [e, .Tuple [.Name y p2, .Name y2 p3] k2 p4] X.env = (false, eval e X.env) :: starEach [.Tuple [.Name y p2, .Name y2 p3] k2 p4] X.env := by rfl)
    (hs2 : starEach [.Tuple [.Name y p2, .Name y2 p3] k2 p4] X.env = (false, eval (.Tuple [.Name y p2, .Name y2 p3] k2 p4) X.env) :: starEach [] X.env := by rfl) (hpl : (backTo pos (starEach [.Tuple [.Name y p2, .Name y2 p3] k2 p4] X.env)).any (·.1) = false := by rfl)
    (hs3 : starEach [.Name y p2, .Name y2 p3] X.env = (false, eval (.Name y p2) X.env) :: starEach [.Name y2 p3] X.env := by rfl) (hs4 : starEach [.Name y2 p3] X.env = (false, eval (.Name y2 p3) X.env) :: starEach [] X.env := by rfl) :
    DE X B (.Call (.Name "isinstance" p) [e, .Tuple [.Name y p2, .Name y2 p3] k2 p4] [] pos) (dIsi2 S T te) := by
  have h1 : PE X (.Name y p2) (tC (.ty S)) := pe_bltn hgT hmT hvT (show L2.RelV (.ty S) (.type S) from rfl) hn hdb
  have h2 : PE X (.Name y2 p3) (tC (.ty T)) := pe_bltn hgT2 hmT2 hvT2 (show L2.RelV (.ty T) (.type T) from rfl) hn2 hdb2
  refine ⟨pe_imp (pe_callB call_isiT hg hm (by decide +kernel) (pa_cons he.run (pa_cons (pe_tup (pa_cons h1 (pa_cons h2 pa_nil hs4) hs3)) pa_nil hs2) hs) (by decide) (by decide) hs hpl) fun σ H Q ⟨h, m, C, r, Q0, Sx, t, k⟩ => ?_⟩
  refine ⟨h, m, C, r, _, Sx, t, fun d C1 m1 H1 v1 q1 x1 R1 r1 => ⟨by show 2 ≤ sizeLine; decide, fun tp np => ?_⟩⟩
  obtain ⟨b, e1, q1⟩ := opt_iff.mp q1
  obtain ⟨c, e2, q⟩ := opt_iff.mp q1
  unfold isTy at e1 e2
  cases et : tyOf d with
  | none => rw [et] at e1; cases e1
  | some t =>
    rw [et] at e1 e2
    obtain ⟨x2, R2, _⟩ := R1.newF (o := .tup [.ty S, .ty T]) np
    refine ⟨v1, tp, [.ty S, .ty T], .type t, [.type S, .type T], b || c, rfl, upd_same, .cons (.ty S) (.cons (.ty T) .nil), tyx_of R2 (x2.rep r1) et, ?_, Con.bl (Con.ext k (x1.trans x2)) R2 q⟩
    refine kitAny_cons (kit_ty e1) (fun hb => ?_) (fun hb => by rw [hb]; rfl)
    refine kitAny_cons (kit_ty e2) (fun hc => ?_) (fun hc => by rw [hc]; simp)
    rw [hb, hc]
    exact kitAny_nil
end
end DL
/-! DLI: what is walked: lists and tuples, enumerate, zip, range; each told by its items. -/
namespace DL
open PySem PySem.Spec PyProof.Rows L2

/-! ### a source: a list (true) or a tuple (false) -/
def SrcAt (K : PySem.W.Frag) (k : Bool) (H : Hp) (a : Addr) (xs : List V) : Prop := if k = true then SqL K H a xs else SqT K H a xs
def ItAt (k : Bool) (h : Heap) (it a : Addr) (i : Nat) : Prop := if k = true then h.IsListIter it a i else h.IsTupleIter it a i
def Ct (k : Bool) (h : Heap) (a : Addr) (its : Array Value) : Prop := if k = true then h.IsList a its else h.IsTuple a its
section
variable {X : Cx} {pins : List (Addr × Obj)} {σ : L2.St} {H : Hp} {s : Shared} {k : Bool} {a it : Addr} {xs ys : List V}
theorem Inv.src (I : Inv X pins σ H s) (h : SrcAt X.K k H a xs) : ∃ its : List Value, Vals xs its ∧ Ct k s.heap a its.toArray ∧ xs.length ≤ sizeLine ∧ a < s.heap.objs.size := by
  cases k with
  | true =>
    obtain ⟨its, r, p, z⟩ := I.list h
    exact ⟨its, r, p.isList, z, p.lt⟩
  | false =>
    obtain ⟨its, r, p, z⟩ := I.tuple h
    obtain ⟨o, ho, _⟩ := id p
    exact ⟨its, r, p, z, Heap.lt_size ho⟩
theorem Inv.src_inj (I : Inv X pins σ H s) (h : SrcAt X.K k H a xs) (h' : SrcAt X.K k H a ys) : xs = ys := by
  cases k with
  | true => exact I.list_inj h h'
  | false => exact I.tuple_inj h h'
theorem draws_of {P : Program} {w : World} {A : Around} (hh : A.handled = none) (hne : a ≠ it) (its : Array Value) : Draws P w A it [it, a] its.size (fun i v => its[i]? = some v) (fun i h => ItAt k h it a i ∧ Ct k h a its) := by
  cases k with
  | true => exact Draws.list hh it a hne its
  | false => exact Draws.tuple hh it a hne its
theorem ItAt.at {h h' : Heap} {i : Nat} (x : ItAt k h it a i) (f : ∀ o, h.get? it = some o → h'.get? it = some o) : ItAt k h' it a i := by
  cases k with
  | true => exact Heap.IsListIter.at x f
  | false => exact Heap.IsTupleIter.at x f
theorem ItAt.ob {h : Heap} {i : Nat} (x : ItAt k h it a i) : ∃ o, h.get? it = some o ∧ ∀ v, o.data ≠ .cell v := by
  cases k with
  | true =>
    obtain ⟨o, e, _, d⟩ := x
    exact ⟨o, e, fun v z => by rw [d] at z; cases z⟩
  | false =>
    obtain ⟨o, e, _, d⟩ := x
    exact ⟨o, e, fun v z => by rw [d] at z; cases z⟩
end
theorem enum_endT {prog : Program} {w : World} {A : Around} {E : Value → Shared → Prop} {s : Shared} {e it l : Addr} {i : Nat} {items : Array Value} {old : Value} {Q : Option Value → Shared → Prop} (hh : A.handled = none)
    (he : IsEnum s.heap e it i old) (hit : s.heap.IsTupleIter it l i) (hl : s.heap.IsTuple l items) (hx : items[i]? = none)
    (hQ : ∀ h', Heap.ExtBut it s.heap h' → Q none { s with heap := h' }) : wpAny (model prog w) A (pyNext (.ref e)) Q E s := by
  have hT : s.TypeIs (.ref e) "enumerate" := ⟨_, he, rfl⟩
  unfold pyNext
  refine wpAny_bind (wpAny_attempt (wpAny_callSpecial?_slot (name := Str.ofString "__next__") hT F.slot_enumerate_next
    (wpAny_call_entry F.slot_enumerate_next hT F.entry_enumerate_next ?_ (F.args_enumerate_next_1 _))))
  show wpAny _ _ (field (.ref e) 2 >>= _) _ _ _
  refine wpAny_bind (wpAny_field he rfl (x := .ref it) rfl ?_)
  refine wpAny_bind (wpAny_nextOf_tuple_end hh hit hl hx fun h' x he' hx' => ?_)
  obtain ⟨o, ho, hc⟩ := hx'
  refine wpAny_bind (wpAny_isInstance (T := "StopIteration") (b := true) ⟨o, ho, hc⟩ isSubtype_stop ?_)
  exact wpAny_pure (hQ _ he')
/-! ### enumerate -/
def IteG (K : PySem.W.Frag) (k : Bool) (a : Addr) : It :=
  ⟨fun i H => ∃ (xs : List V) (x : V), SrcAt K k H a xs ∧ xs[i]? = some x,
   fun i H v H' => ∃ T o x, v = .ref T ∧ H T = none ∧ o.dict = none ∧ H' = upd H T (.frz o (.tup [.int (i : Nat), x])) ∧ ∀ xs, SrcAt K k H a xs → xs[i]? = some x,
   fun i H => ∃ xs : List V, SrcAt K k H a xs ∧ xs.length ≤ i⟩
theorem turn_enumG {P : Program} {w : World} {K : PySem.W.Frag} {elts : List Expr} {kk : Nat} {tpos : Pos} (k : Bool) (a e it : Addr) (hne : e ≠ it) (ha : a ≠ it) (hea : e ≠ a) :
    Turn P w K (.Tuple elts kk tpos) (IteG K k a) [e, it] e (fun i h => (∃ old, IsEnum h e it ((i : Nat) : Int) old) ∧ ItAt k h it a i) where
  mem := by simp
  obj := fun i h st b hb => by
    obtain ⟨⟨old, he⟩, hi⟩ := st
    have e' : b = e ∨ b = it := by simpa using hb
    rcases e' with z | z
    · rw [z]; exact ⟨_, he, fun v q => nomatch q⟩
    · rw [z]; exact hi.ob
  keep := fun i h h' st kp => let ⟨⟨old, he⟩, hi⟩ := st; ⟨⟨old, kp e (by simp) _ he⟩, hi.at fun o q => kp it (by simp) o q⟩
  item := by
    intro X hP hw hK hc i pins s σ H E I hf st hg
    subst hP hw hK
    obtain ⟨⟨old, he⟩, hit⟩ := st
    obtain ⟨xs, x, hq, hx⟩ := hg
    obtain ⟨its, rv, ct, hz, hal⟩ := Inv.src I hq
    obtain ⟨u, hu, ru⟩ := rv.get hx
    have hel : e < s.heap.objs.size := Heap.lt_size he
    have hil : it < s.heap.objs.size := by obtain ⟨o, q, _⟩ := hit.ob; exact Heap.lt_size q
    have D := draws_of (P := X.prog) (w := X.w) (A := X.A.in1) (k := k) (a := a) (it := it) (I.ok.hd hc) ha its.toArray
    have hlt : i < its.toArray.size := by simpa using (List.getElem?_eq_some_iff.mp hu).1
    refine wpAny_pyNext_enum_itemC D he ⟨hit, ct⟩ hlt hne (by simp [hne, hea]) fun x' h' tk hP ho hst' hT hsz hk => ?_
    have ex : x' = u := by
      have hP' : its[i]? = some x' := by simpa using hP
      rw [hu] at hP'
      exact (Option.some.inj hP').symm
    subst ex
    refine ⟨_, rfl, wpAny_letOwnedTupleGo_enum (s := { s with heap := h', toks := tk + 1 }) ho fun h'' he' sb => ?_⟩
    have hT2 : h''.get? s.heap.objs.size = some { cls := .type "tuple", data := .seq #[.int i tk, x'] } := (sb.2 _ (Nat.ne_of_gt hel)).trans hT
    have new : ObjOk X.prog X.w (upd H s.heap.objs.size (.frz { cls := .type "tuple", data := .seq #[.int i tk, x'] } (.tup [.int (i : Nat), x]))) h'' s.heap.objs.size (.frz { cls := .type "tuple", data := .seq #[.int i tk, x'] } (.tup [.int (i : Nat), x])) :=
      ⟨hT2, by show 2 ≤ sizeLine; decide, [.int i tk, x'], .cons ⟨_, rfl⟩ (.cons ru .nil), ⟨_, hT2, rfl, _, rfl⟩⟩
    have I1 := I.turnedNew (t' := tk + 1) (ch := [e, it]) (fun b ob hb q => (sb.2 b (fun z => hb (by simp [z]))).trans (hk b ob (fun z => hb (by simp [z])) (fun z => hb (by simp [z])) q)) hf (Nat.le_refl _) new
    refine ⟨.ref s.heap.objs.size, _, I1, rfl, ⟨_, _, x, rfl, I.hok.fresh (Nat.le_refl _), rfl, rfl, fun ys hy => by rw [Inv.src_inj I hy hq]; exact hx⟩, ⟨⟨x', ?_⟩, hst'.1.at fun o q => (sb.2 it (Ne.symm hne)).trans q⟩, fun b hb => ?_⟩
    · have e1 : ((i + 1 : Nat) : Int) = (i : Int) + 1 := by omega
      rw [e1]; exact he'
    · have hb' : b < s.heap.objs.size := by
        have e' : b = e ∨ b = it := by simpa using hb
        rcases e' with z | z
        · rw [z]; exact hel
        · rw [z]; exact hil
      rw [upd_ne (Nat.ne_of_lt hb')]
      exact (hf b hb).1
  done := by
    intro X hP hw hK hc i pins s σ H E I hf st hg
    subst hP hw hK
    obtain ⟨⟨old, he⟩, hit⟩ := st
    obtain ⟨xs, hq, hx⟩ := hg
    obtain ⟨its, rv, ct, hz, hal⟩ := Inv.src I hq
    obtain ⟨f0, f1, f2, f3, f4, f5⟩ := hf it (by simp)
    have hl := rv.length
    cases k with
    | true => exact wpAny_pyNext_enum_end (I.ok.hd hc) he hit ct (by simp; omega) fun h' eb => ⟨rfl, I.turned (t' := s.toks) (fun b o hb q => eb b o hb q) f0 f1 f3 f4 f5⟩
    | false => exact enum_endT (I.ok.hd hc) he hit ct (by simp; omega) fun h' eb => ⟨rfl, I.turned (t' := s.toks) (fun b o hb q => eb b o hb q) f0 f1 f3 f4 f5⟩
  self := fun A i s Q E st h => let ⟨⟨_, he⟩, _⟩ := st; wpAny_pyIter_enum he h
set_option maxHeartbeats 1000000 in
theorem meets_enumerate_new1 {v : Value} {o : Obj} {H : Heap → Prop} (B : Begins v o H) :
    Meets (Builtin.«enumerate.__new__» ⟨[.type "enumerate", v], []⟩) (fun _ R s => H s.heap ∧
      R (.ok (.ret (.ref (s.heap.push o).objs.size))) { s with heap := (s.heap.push o).push { cls := .type "enumerate", data := .fields #[.none, .bool false, .ref s.heap.objs.size, rawInt 0, .none, .none] } }) :=
  .of_wp fun prog w A R s h => by
    obtain ⟨hp, g, d, tk, os⟩ := s; obtain ⟨h1, h⟩ := h
    have hsub := sub_enumerate
    have q1 : ∀ {A' : Around} {E : Value → Shared → Prop} {Q : Value → Shared → Prop}, Q (.ref hp.objs.size) ⟨hp.push o, g, d, tk, os⟩ → wpAny (model prog w) A' (pyIter v) Q E ⟨hp, g, d, tk, os⟩ :=
      fun q => B.iter prog w _ _ ⟨hp, g, d, tk, os⟩ _ h1 q
    wp_walk using q1
    refine wpAny_stack_any fun st => wpAny_pure ?_
    split
    · rename_i c _ _ _ _ _
      cases (c == Value.type "enumerate")
      · wp_walk using q1
        exact ⟨_, rfl, h⟩
      · wp_walk using q1
        exact ⟨_, rfl, h⟩
    · wp_walk using q1
      exact ⟨_, rfl, h⟩
theorem call_enumerate1 {prog : Program} {w : World} {A : Around} {E : Value → Shared → Prop} {s : Shared} {v : Value} {o : Obj} {H : Heap → Prop} {Q : Value → Shared → Prop} (B : Begins v o H) (h1 : H s.heap)
    (h : ∀ h', IsEnum h' (s.heap.objs.size + 1) s.heap.objs.size 0 .none → h'.get? s.heap.objs.size = some o → h'.objs.size = s.heap.objs.size + 2 →
      (∀ b o, s.heap.get? b = some o → h'.get? b = some o) → Q (.ref (s.heap.objs.size + 1)) { s with heap := h' }) :
    wpAny (model prog w) A (call (.type "enumerate") [v]) Q E s := by
  refine callType_new F.called_enumerate (by decide) (F.typeCall_enumerate_1 _) (F.newCall_enumerate_1 _) (fun obj => F.args_object_init_2 obj _) F.entry_enumerate_new
    (meets_enumerate_new1 B) ⟨h1, ?_⟩
  have hz : (s.heap.push o).objs.size = s.heap.objs.size + 1 := Heap.size_push ..
  show _ ∧ _
  rw [hz]
  have he : IsEnum ((s.heap.push o).push { cls := .type "enumerate", data := .fields #[.none, .bool false, .ref s.heap.objs.size, rawInt 0, .none, .none] }) (s.heap.objs.size + 1) s.heap.objs.size 0 .none := by
    have := Heap.get?_push_size (s.heap.push o) (o := { cls := .type "enumerate", data := .fields #[.none, .bool false, .ref s.heap.objs.size, rawInt 0, .none, .none] }) rfl
    rw [hz] at this; exact this
  refine ⟨⟨_, he, rfl⟩, h _ he (Heap.get?_push_of_some _ (Heap.get?_push_size _ B.free)) (by rw [Heap.size_push, hz]) fun b o x => Heap.get?_push_of_some _ (Heap.get?_push_of_some _ x)⟩
/-! ### zip -/
def ItzG (K : PySem.W.Frag) (k1 k2 : Bool) (a b : Addr) : It :=
  ⟨fun i H => ∃ (xs ys : List V) (x y : V), SrcAt K k1 H a xs ∧ SrcAt K k2 H b ys ∧ xs[i]? = some x ∧ ys[i]? = some y,
   fun i H v H' => ∃ T o x y, v = .ref T ∧ H T = none ∧ o.dict = none ∧ H' = upd H T (.frz o (.tup [x, y])) ∧ (∀ xs, SrcAt K k1 H a xs → xs[i]? = some x) ∧ ∀ ys, SrcAt K k2 H b ys → ys[i]? = some y,
   fun i H => ∃ xs ys : List V, SrcAt K k1 H a xs ∧ SrcAt K k2 H b ys ∧ i = min xs.length ys.length⟩
theorem turn_zipG {P : Program} {w : World} {K : PySem.W.Frag} {elts : List Expr} {kk : Nat} {tpos : Pos} (k1 k2 : Bool) {a b z TI TO i1 i2 : Addr} (S : ZipSep2 z TI TO i1 i2 [i1, a] [i2, b]) (na : a ≠ i1) (nb : b ≠ i2) :
    Turn P w K (.Tuple elts kk tpos) (ItzG K k1 k2 a b) [z, TI, TO, i1, i2] z (fun i h => IsZip h z TI TO .none ∧ IsTupOf2 h TI (.ref i1) (.ref i2) ∧ (∃ x y, IsTupOf2 h TO x y) ∧ ItAt k1 h i1 a i ∧ ItAt k2 h i2 b i) where
  mem := by simp
  obj := fun i h st c hc => by
    obtain ⟨hz, hTI, ⟨x, y, hTO⟩, h1, h2⟩ := st
    have e' : c = z ∨ c = TI ∨ c = TO ∨ c = i1 ∨ c = i2 := by simpa using hc
    rcases e' with q | q | q | q | q
    · rw [q]; exact ⟨_, hz, fun v q => nomatch q⟩
    · rw [q]; exact ⟨_, hTI, fun v q => nomatch q⟩
    · rw [q]; exact ⟨_, hTO, fun v q => nomatch q⟩
    · rw [q]; exact h1.ob
    · rw [q]; exact h2.ob
  keep := fun i h h' st kp => by
    obtain ⟨hz, hTI, ⟨x, y, hTO⟩, h1, h2⟩ := st
    exact ⟨kp z (by simp) _ hz, kp TI (by simp) _ hTI, ⟨x, y, kp TO (by simp) _ hTO⟩, h1.at fun o q => kp i1 (by simp) o q, h2.at fun o q => kp i2 (by simp) o q⟩
  item := by
    intro X hP hw hK hc i pins s σ H E I hf st hg
    subst hP hw hK
    obtain ⟨hz, hTI, ⟨x0, y0, hTO⟩, h1, h2⟩ := st
    obtain ⟨xs, ys, x, y, hqx, hqy, hx, hy⟩ := hg
    obtain ⟨its, rv, c1, _, _⟩ := Inv.src I hqx
    obtain ⟨its2, rv2, c2, _, _⟩ := Inv.src I hqy
    obtain ⟨u, hu, ru⟩ := rv.get hx
    obtain ⟨u2, hu2, ru2⟩ := rv2.get hy
    have hzl : z < s.heap.objs.size := Heap.lt_size hz
    have D1 := draws_of (P := X.prog) (w := X.w) (A := X.A.in1) (k := k1) (a := a) (it := i1) (I.ok.hd hc) na its.toArray
    have D2 := draws_of (P := X.prog) (w := X.w) (A := X.A.in1) (k := k2) (a := b) (it := i2) (I.ok.hd hc) nb its2.toArray
    have l1 : i < its.toArray.size := by simpa using (List.getElem?_eq_some_iff.mp hu).1
    have l2 : i < its2.toArray.size := by simpa using (List.getElem?_eq_some_iff.mp hu2).1
    have dz1 : i1 ≠ z := fun e => S.zf1 (by simp [e])
    have dz2 : i2 ≠ z := fun e => S.zf2 (by simp [e])
    refine wpAny_pyNext_zipD2_item S D1 D2 hz hTI hTO ⟨h1, c1⟩ ⟨h2, c2⟩ l1 l2 fun x1 x2 h' tk p1 p2 z' TO' h1' h2' hT hsz hk => ?_
    have e1 : x1 = u := by
      have p : its[i]? = some x1 := by simpa using p1
      rw [hu] at p
      exact (Option.some.inj p).symm
    have e2 : x2 = u2 := by
      have p : its2[i]? = some x2 := by simpa using p2
      rw [hu2] at p
      exact (Option.some.inj p).symm
    subst e1 e2
    refine ⟨_, rfl, wpAny_letOwnedTupleGo_zip (s := { s with heap := h', toks := tk }) z' fun h'' z'' sb => ?_⟩
    have hT2 : h''.get? s.heap.objs.size = some { cls := .type "tuple", data := .seq #[x1, x2] } := (sb.2 _ (Nat.ne_of_gt hzl)).trans hT
    have new : ObjOk X.prog X.w (upd H s.heap.objs.size (.frz { cls := .type "tuple", data := .seq #[x1, x2] } (.tup [x, y]))) h'' s.heap.objs.size (.frz { cls := .type "tuple", data := .seq #[x1, x2] } (.tup [x, y])) :=
      ⟨hT2, by show 2 ≤ sizeLine; decide, [x1, x2], .cons ru (.cons ru2 .nil), ⟨_, hT2, rfl, _, rfl⟩⟩
    have I1 := I.turnedNew (t' := tk) (ch := [z, TI, TO, i1, i2]) (fun c o hb q => (sb.2 c (fun q' => hb (by simp [q']))).trans (hk c o (fun q' => hb (by simp [q'])) (fun q' => hb (by simp [q'])) (fun q' => hb (by simp [q'])) (fun q' => hb (by simp [q'])) q)) hf (Nat.le_refl _) new
    refine ⟨.ref s.heap.objs.size, _, I1, rfl, ⟨_, _, x, y, rfl, I.hok.fresh (Nat.le_refl _), rfl, rfl, fun l hl => by rw [Inv.src_inj I hl hqx]; exact hx, fun l hl => by rw [Inv.src_inj I hl hqy]; exact hy⟩, ⟨z'', ?_, ⟨x1, x2, ?_⟩, ?_, ?_⟩, fun c hcm => ?_⟩
    · exact (sb.2 _ S.TIz).trans (hk _ _ S.TIz S.TITO S.TIi1 S.TIi2 hTI)
    · exact (sb.2 _ S.TOz).trans TO'
    · exact h1'.1.at fun o q => (sb.2 _ dz1).trans q
    · exact h2'.1.at fun o q => (sb.2 _ dz2).trans q
    · have hlt : c < s.heap.objs.size := by
        have e' : c = z ∨ c = TI ∨ c = TO ∨ c = i1 ∨ c = i2 := by simpa using hcm
        rcases e' with q | q | q | q | q
        · rw [q]; exact hzl
        · rw [q]; exact Heap.lt_size hTI
        · rw [q]; exact Heap.lt_size hTO
        · rw [q]; obtain ⟨_, e1, _⟩ := h1.ob; exact Heap.lt_size e1
        · rw [q]; obtain ⟨_, e2, _⟩ := h2.ob; exact Heap.lt_size e2
      rw [upd_ne (Nat.ne_of_lt hlt)]
      exact (hf c hcm).1
  done := by
    intro X hP hw hK hc i pins s σ H E I hf st hg
    subst hP hw hK
    obtain ⟨hz, hTI, ⟨x0, y0, hTO⟩, h1, h2⟩ := st
    obtain ⟨xs, ys, hqx, hqy, hend⟩ := hg
    obtain ⟨its, rv, c1, _, _⟩ := Inv.src I hqx
    obtain ⟨its2, rv2, c2, _, _⟩ := Inv.src I hqy
    have D1 := draws_of (P := X.prog) (w := X.w) (A := X.A.in1) (k := k1) (a := a) (it := i1) (I.ok.hd hc) na its.toArray
    have D2 := draws_of (P := X.prog) (w := X.w) (A := X.A.in1) (k := k2) (a := b) (it := i2) (I.ok.hd hc) nb its2.toArray
    have l1 := rv.length
    have l2 := rv2.length
    have s1 : its.toArray.size = xs.length := by simp [l1]
    have s2 : its2.toArray.size = ys.length := by simp [l2]
    refine wpAny_pyNext_zipD2_end S D1 D2 hz hTI hTO ⟨h1, c1⟩ ⟨h2, c2⟩ (by omega) (by omega) (by omega) fun h' tk hk => ⟨rfl, Inv.turnedL (h' := h') (t' := tk) (ch := [z, TI, TO, i1, i2]) I (fun c o hb q =>
      hk c o (fun q' => hb (by simp [q'])) (fun q' => hb (by simp [q'])) (fun q' => hb (by simp [q'])) (fun q' => hb (by simp [q'])) q) hf⟩
  self := fun A i s Q E st h => wpAny_pyIter_zip st.1 h

/-! ### the judgement: an iterator told by its items; G: what must stand of the cells at each turn -/
def JOk (K : PySem.W.Frag) (J : It) (h m : List Addr) (H : Hp) (items : List D) (G : Cs → Prop) : Prop :=
  ∀ h' m' C H', Ext h m H h' m' H' → Rl K h' m' C H' → G C →
    (∀ i, i < items.length → J.go i H') ∧ J.stop items.length H' ∧
    ∀ i v H2, i < items.length → J.yld i H' v H2 → ∃ d, items[i]? = some d ∧ Ext h' m' H' h' m' H2 ∧ Rl K h' m' C H2 ∧ Rep K m' (hz h' m' H2) d v
abbrev RI := Ev → Cs → (List D → (Cs → Prop) → Cs → Prop) → Prop
def upI (K : PySem.W.Frag) (B : BS) (t : RI) : TI := fun σ H R => ∃ h m C r Q0, Sta K B h m C r σ H ∧ t r C Q0 ∧
  ∀ items G C' m' H' J, Q0 items G C' → items.length ≤ sizeLine → Ext h m H h m' H' → Rl K h m' C' H' → G C' → JOk K J h m' H' items G → R J H'
structure DI (X : Cx) (B : BS) (tg iter : Expr) (t : RI) : Prop where
  run : PI X tg iter (upI X.K B t)
/-- a source of data at a place -/
def Src (K : PySem.W.Frag) (k : Bool) (a : Addr) (h m : List Addr) (H : Hp) (ds : List D) (G : Cs → Prop) : Prop :=
  ∀ h' m' C H', Ext h m H h' m' H' → Rl K h' m' C H' → G C → ∃ vs, SrcAt K k H' a vs ∧ Reps K m' (hz h' m' H') ds vs
section
variable {K : PySem.W.Frag} {h m : List Addr} {C : Cs} {H : Hp} {d : D} {v : V} {ds : List D}
/-- which kind it is -/
def isLst : D → Bool
  | .tup _ => false
  | _ => true
theorem src_of (r : Rep K m (hz h m H) d v) (R : Rl K h m C H) (e : sqD C d = some ds) : ∃ a, v = .ref a ∧ Src K (isLst d) a h m H ds fun C' => sqD C' d = some ds := by
  obtain ⟨a, vs, rfl, _⟩ := sq_ok R r e
  refine ⟨a, rfl, fun h' m' C' H' x R' g => ?_⟩
  have r' := x.rep r
  have L : llD C' d = some ds → isLst d = true → ∃ vs, SrcAt K (isLst d) H' a vs ∧ Reps K m' (hz h' m' H') ds vs := fun e el => by
    obtain ⟨a', us, e1, e2, e3⟩ := ll_ok R' r' e
    cases e1
    rw [el]
    exact ⟨us, e2, e3⟩
  cases d with
  | tup xs =>
    cases g
    obtain ⟨a', us, o, e1, e2, _, e3⟩ := tp_ok R' r' rfl
    cases e1
    exact ⟨us, (.inl (.inr ⟨o, e2⟩) : SqT K H' _ us), e3⟩
  | lst xs => exact L g rfl
  | scr xs => exact L g rfl
  | cel n => exact L g rfl
  | _ => cases e
/-- a plain walk over a source -/
def ItG (K : PySem.W.Frag) (k : Bool) (a : Addr) : It := if k = true then Itl K a else Itt K a
theorem jok_seq {k : Bool} {a : Addr} {G : Cs → Prop} (S : Src K k a h m H ds G) : JOk K (ItG K k a) h m H ds G := by
  intro h' m' C H' x R g
  obtain ⟨vs, hs, rs⟩ := S h' m' C H' x R g
  have hl := rs.length
  cases k with
  | true =>
    refine ⟨fun i hi => ⟨vs, vs[i]'(hl ▸ hi), hs, List.getElem?_eq_getElem _⟩, ⟨vs, hs, by omega⟩, fun i v H2 hi y => ?_⟩
    obtain ⟨rfl, y⟩ := y
    obtain ⟨d, e, rd⟩ := rs.getV (y vs hs)
    exact ⟨d, e, Ext.refl, R, rd⟩
  | false =>
    refine ⟨fun i hi => ⟨vs, vs[i]'(hl ▸ hi), hs, List.getElem?_eq_getElem _⟩, ⟨vs, hs, by omega⟩, fun i v H2 hi y => ?_⟩
    obtain ⟨rfl, y⟩ := y
    obtain ⟨d, e, rd⟩ := rs.getV (y vs hs)
    exact ⟨d, e, Ext.refl, R, rd⟩
def enumD (ds : List D) : List D := ds.mapIdx fun i d => .tup [.int (i : Nat), d]
theorem jok_enum {k : Bool} {a : Addr} {G : Cs → Prop} (S : Src K k a h m H ds G) : JOk K (IteG K k a) h m H (enumD ds) G := by
  intro h' m' C H' x R g
  obtain ⟨vs, hs, rs⟩ := S h' m' C H' x R g
  have hl := rs.length
  have hle : (enumD ds).length = ds.length := by simp [enumD]
  rw [hle]
  refine ⟨fun i hi => ⟨vs, vs[i]'(hl ▸ hi), hs, List.getElem?_eq_getElem _⟩, ⟨vs, hs, by omega⟩, fun i v H2 hi y => ?_⟩
  obtain ⟨T, o, w, rfl, nT, hd, rfl, y⟩ := y
  obtain ⟨d, e, rd⟩ := rs.getV (y vs hs)
  obtain ⟨x2, R2, e2⟩ := R.newF (o := .frz o (.tup [.int (i : Nat), w])) nT
  refine ⟨.tup [.int (i : Nat), d], by simp [enumD, List.getElem?_mapIdx, e], x2, R2, T, _, o, rfl, e2, hd, ?_⟩
  exact .cons (show Rep K m' _ (.int (i : Nat)) (.int (i : Nat)) from rfl) (.one (x2.rep rd))
def zipD (ds es : List D) : List D := List.zipWith (fun x y => .tup [x, y]) ds es
theorem jok_zip {k1 k2 : Bool} {a b : Addr} {es : List D} {G G' : Cs → Prop} (S : Src K k1 a h m H ds G) (S' : Src K k2 b h m H es G') : JOk K (ItzG K k1 k2 a b) h m H (zipD ds es) fun C => G C ∧ G' C := by
  intro h' m' C H' x R ⟨g, g'⟩
  obtain ⟨vs, hs, rs⟩ := S h' m' C H' x R g
  obtain ⟨us, hu, ru⟩ := S' h' m' C H' x R g'
  have hl := rs.length
  have hl2 := ru.length
  have hle : (zipD ds es).length = min ds.length es.length := by simp [zipD]
  rw [hle]
  refine ⟨fun i hi => ⟨vs, us, vs[i]'(by omega), us[i]'(by omega), hs, hu, List.getElem?_eq_getElem _, List.getElem?_eq_getElem _⟩, ⟨vs, us, hs, hu, by omega⟩, fun i v H2 hi y => ?_⟩
  obtain ⟨T, o, w, z, rfl, nT, hd, rfl, y1, y2⟩ := y
  obtain ⟨d, e, rd⟩ := rs.getV (y1 vs hs)
  obtain ⟨d2, e2, rd2⟩ := ru.getV (y2 us hu)
  obtain ⟨x2, R2, e3⟩ := R.newF (o := .frz o (.tup [w, z])) nT
  refine ⟨.tup [d, d2], ?_, x2, R2, T, _, o, rfl, e3, hd, .cons (x2.rep rd) (.one (x2.rep rd2))⟩
  unfold zipD
  rw [List.getElem?_zipWith, e, e2]
def rngD (lo : Int) (n : Nat) : List D := (List.range n).map fun (i : Nat) => .int (lo + (i : Int))
theorem rngD_length (lo : Int) (n : Nat) : (rngD lo n).length = n := by simp [rngD]
theorem jok_range {lo : Int} {n : Nat} : JOk K (Itr lo n) h m H (rngD lo n) fun _ => True := by
  intro h' m' C H' x R _
  rw [rngD_length]
  refine ⟨fun i hi => hi, Nat.le_refl n, fun i v H2 hi y => ?_⟩
  obtain ⟨rfl, rfl⟩ := y
  exact ⟨.int (lo + i), by simp [rngD, hi], Ext.refl, R, rfl⟩
end
section
variable {X : Cx} {B : BS} {tg e e2 : Expr} {te : RE}
def iSeq (te : RE) : RI := fun r C Q => te r C fun d C1 => opt (sqD C1 d) fun xs => Q xs (fun C' => sqD C' d = some xs) C1
theorem di_seq (he : DE X B e te) : DI X B tg e (iSeq te) := by
  refine ⟨⟨fun pins s σ H R I ⟨h, m, C, r, Q0, S, t, k⟩ => ?_⟩⟩
  refine thn (he.run.run pins s σ H (fun v H1 => ∃ a k, v = .ref a ∧ (∃ vs, SrcAt X.K k H1 a vs) ∧ ((∃ vs : List V, vs.length ≤ sizeLine → True) ) ∧ ((∀ vs, SrcAt X.K k H1 a vs → vs.length ≤ sizeLine) → R (ItG X.K k a) H1)) I ⟨h, m, C, r, _, S, t, fun d C1 m1 H1 v1 q1 x1 R1 r1 => ?_⟩) fun v s1 ⟨x, H1, I1, r1, q1⟩ => ?_
  · obtain ⟨xs, e1, q⟩ := opt_iff.mp q1
    obtain ⟨a, rfl, sr⟩ := src_of r1 R1 e1
    obtain ⟨vs, hs, rs⟩ := sr h m1 C1 H1 Ext.refl R1 e1
    refine ⟨a, isLst d, rfl, ⟨vs, hs⟩, ⟨[], fun _ => trivial⟩, fun hz => k xs _ C1 m1 H1 _ q (by rw [rs.length]; exact hz vs hs) x1 R1 e1 (jok_seq sr)⟩
  · obtain ⟨a, k, rfl, ⟨vs, hs⟩, _, q⟩ := q1
    cases r1
    obtain ⟨its, rv, ct, hz, hal⟩ := Inv.src I1 hs
    have q' := q fun us hu => by rw [Inv.src_inj I1 hu hs]; exact hz
    have fresh : ∀ b ∈ [s1.heap.objs.size], FpOk X pins H1 b := fun b hb => by
      have e : b = s1.heap.objs.size := by simpa using hb
      subst e
      exact I1.fpOk (Nat.le_refl _) (I1.hok.fresh (Nat.le_refl _))
    cases k with
    | true =>
      refine wpAny_pyIter_list (show s1.heap.IsList a its.toArray from ct) ?_
      exact ⟨s1.heap.objs.size, [s1.heap.objs.size], _, _, H1, rfl, I1.kept (t' := s1.toks) fun b o e => Heap.get?_push_of_some _ e, turn_list a _, ⟨_, Heap.get?_push_size _ rfl, rfl, rfl⟩, fresh, q'⟩
    | false =>
      refine wpAny_pyIter_tuple (show s1.heap.IsTuple a its.toArray from ct) ?_
      exact ⟨s1.heap.objs.size, [s1.heap.objs.size], _, _, H1, rfl, I1.kept (t' := s1.toks) fun b o e => Heap.get?_push_of_some _ e, turn_tuple a _, ⟨_, Heap.get?_push_size _ rfl, rfl, rfl⟩, fresh, q'⟩
def iEnu (te : RE) : RI := fun r C Q => te r C fun d C1 => opt (sqD C1 d) fun xs => Q (enumD xs) (fun C' => sqD C' d = some xs) C1
theorem one_value {pos : Pos} {pins : List (Addr × Obj)} {s : Shared} {σ : L2.St} {H : Hp} {te : TE} {R : V → Hp → Prop} {Q : List Value → Shared → Prop} (he : PE X e te) (I : Inv X pins σ H s) (h : te σ H R)
    (hf : ∀ v s2 x H2, Inv X pins σ H2 s2 → L2.RelV x v → R x H2 → Q [v] s2) (na : starEach [e] X.env = (false, eval e X.env) :: starEach [] X.env := by rfl) : wpAny (model X.prog X.w) X.A (spliced (backTo pos (starEach [e] X.env))) Q X.xe s := by
  refine thn ((pa_cons he pa_nil na).run pos pins s σ H (fun vs H1 => ∃ v, vs = [v] ∧ R v H1) I (?_ : tCons te tNil σ H _)) fun us s1 ⟨vs, H1, I1, r1, v, e, q⟩ => ?_
  · have : te σ H (fun x H1 => (fun vs H1 => ∃ v, vs = [v] ∧ R v H1) [x] H1) := by
      have e : (fun x H1 => (fun vs H1 => ∃ v, vs = [v] ∧ R v H1) [x] H1) = R := by
        funext x H1
        exact propext ⟨fun ⟨v, z, q⟩ => by cases z; exact q, fun q => ⟨x, rfl, q⟩⟩
      rw [e]
      exact h
    exact this
  · subst e
    obtain ⟨u, rfl, ru⟩ := vals1 r1
    exact hf u s1 v H1 I1 ru q
theorem di_enum {p pos tpos : Pos} {elts : List Expr} {kk : Nat} (hm : X.mg "enumerate" = none) (he : DE X B e te) (hg : Gl X "enumerate" := by rfl) (hs : starEach [e] X.env = [(false, eval e X.env)] := by rfl) :
    DI X B (.Tuple elts kk tpos) (.Call (.Name "enumerate" p) [e] [] pos) (iEnu te) := by
  refine ⟨⟨fun pins s σ H R I ⟨h, m, C, r, Q0, S, t, k⟩ => ?_⟩⟩
  refine Call_ (ld_blt I hg hm PyProof.Rows.boot_enumerate (PyProof.Rows.callWith_type1 (one_value (R := fun v H1 => ∃ a k, v = .ref a ∧ (∃ vs, SrcAt X.K k H1 a vs) ∧ ((∀ vs, SrcAt X.K k H1 a vs → vs.length ≤ sizeLine) → R (IteG X.K k a) H1)) he.run I ⟨h, m, C, r, _, S, t, fun d C1 m1 H1 v1 q1 x1 R1 r1 => ?_⟩ (fun v s1 x H1 I1 r1 q1 => ?_) hs) hs rfl))
  · obtain ⟨xs, e1, q⟩ := opt_iff.mp q1
    obtain ⟨a, rfl, sr⟩ := src_of r1 R1 e1
    obtain ⟨vs, hs, rs⟩ := sr h m1 C1 H1 Ext.refl R1 e1
    refine ⟨a, isLst d, rfl, ⟨vs, hs⟩, fun hz => k _ _ C1 m1 H1 _ q (by simp only [enumD, List.length_mapIdx]; rw [rs.length]; exact hz vs hs) x1 R1 e1 (jok_enum sr)⟩
  · obtain ⟨a, k, rfl, ⟨vs, hs⟩, q⟩ := q1
    cases r1
    obtain ⟨its, rv, ct, hz, hal⟩ := Inv.src I1 hs
    have q' := q fun us hu => by rw [Inv.src_inj I1 hu hs]; exact hz
    have ne1 : a ≠ s1.heap.objs.size := Nat.ne_of_lt hal
    have ne2 : s1.heap.objs.size + 1 ≠ a := Nat.ne_of_gt (Nat.lt_succ_of_lt hal)
    have fin : ∀ h', IsEnum h' (s1.heap.objs.size + 1) s1.heap.objs.size 0 .none → ItAt k h' s1.heap.objs.size a 0 → (∀ b o, s1.heap.get? b = some o → h'.get? b = some o) →
        PIE X pins σ (.Tuple elts kk tpos) R (.ref (s1.heap.objs.size + 1)) { s1 with heap := h' } := fun h' he hit hk => by
      have I2 : Inv X pins σ H1 { s1 with heap := h' } := I1.kept (t' := s1.toks) hk
      refine ⟨s1.heap.objs.size + 1, [s1.heap.objs.size + 1, s1.heap.objs.size], _, _, H1, rfl, I2, turn_enumG k a (s1.heap.objs.size + 1) s1.heap.objs.size (Nat.succ_ne_self _) ne1 ne2, ⟨⟨.none, he⟩, hit⟩, fun b hb => ?_, q'⟩
      have e' : b = s1.heap.objs.size + 1 ∨ b = s1.heap.objs.size := by simpa using hb
      have hle : s1.heap.objs.size ≤ b := by
        rcases e' with z | z
        · rw [z]; exact Nat.le_add_right _ _
        · rw [z]; exact Nat.le_refl _
      exact I1.fpOk hle (I1.hok.fresh hle)
    cases k with
    | true => exact call_enumerate1 (begins_list a its.toArray) ct fun h' he ho hsz hk => wpAny_pyIter_enum he (fin h' he ⟨_, ho, rfl, rfl⟩ hk)
    | false => exact call_enumerate1 (begins_tuple a its.toArray) ct fun h' he ho hsz hk => wpAny_pyIter_enum he (fin h' he ⟨_, ho, rfl, rfl⟩ hk)
end
end DL
/-! DL5: zip, range; targets, statements, loops, comprehensions. -/
namespace DL
open PySem PySem.Spec PyProof.Rows L2
section
variable {X : Cx} {B : BS} {tg e e2 : Expr} {te te2 : RE}
def iZip2 (te te2 : RE) : RI := fun r C Q => te r C fun d C1 => te2 r C1 fun d2 C2 => opt (sqD C2 d) fun xs => opt (sqD C2 d2) fun ys => Q (zipD xs ys) (fun C' => sqD C' d = some xs ∧ sqD C' d2 = some ys) C2
theorem di_zip {p pos tpos : Pos} {elts : List Expr} {kk : Nat} (hm : X.mg "zip" = none) (he : DE X B e te) (he2 : DE X B e2 te2) (hg : Gl X "zip" := by rfl) (hs : starEach [e, e2] X.env = (false, eval e X.env) :: starEach [e2] X.env := by rfl)
    (hs2 : starEach [e2] X.env = (false, eval e2 X.env) :: starEach [] X.env := by rfl) (hpl : (backTo pos (starEach [e2] X.env)).any (·.1) = false := by rfl) :
    DI X B (.Tuple elts kk tpos) (.Call (.Name "zip" p) [e, e2] [] pos) (iZip2 te te2) := by
  refine ⟨⟨fun pins s σ H R I ⟨h, m, C, r, Q0, S, t, k⟩ => ?_⟩⟩
  refine Call_ (ld_blt I hg hm PyProof.Rows.boot_zip (PyProof.Rows.callWith_type1 (thn ((da_cons he (da_cons he2 da_nil hs2) hs).run.run pos pins s σ H
    (fun vs H1 => ∃ a b k1 k2, vs = [.ref a, .ref b] ∧ (∃ vs, SrcAt X.K k1 H1 a vs) ∧ (∃ vs, SrcAt X.K k2 H1 b vs) ∧ ((∀ vs, SrcAt X.K k1 H1 a vs → vs.length ≤ sizeLine) → R (ItzG X.K k1 k2 a b) H1)) I
    ⟨h, m, C, r, fun ds C2 => ∃ d d2, ds = [d, d2] ∧ opt (sqD C2 d) fun xs => opt (sqD C2 d2) fun ys => Q0 (zipD xs ys) (fun C' => sqD C' d = some xs ∧ sqD C' d2 = some ys) C2, S, ?_, fun ds C2 m2 H2 vs q2 hl x2 R2 r2 => ?_⟩) fun us s1 ⟨vs, H1, I1, r1, q1⟩ => ?_) hs hpl))
  · have e0 : (fun d C1 => dCons te2 dNil r C1 fun ds C2 => ∃ d' d2, d :: ds = [d', d2] ∧ opt (sqD C2 d') fun xs => opt (sqD C2 d2) fun ys => Q0 (zipD xs ys) (fun C' => sqD C' d' = some xs ∧ sqD C' d2 = some ys) C2)
        = fun d C1 => te2 r C1 fun d2 C2 => opt (sqD C2 d) fun xs => opt (sqD C2 d2) fun ys => Q0 (zipD xs ys) (fun C' => sqD C' d = some xs ∧ sqD C' d2 = some ys) C2 := by
      funext d C1
      show te2 r C1 _ = te2 r C1 _
      congr 1
      funext d2 C2
      refine propext ⟨fun ⟨a, b, z, q⟩ => by cases z; exact q, fun q => ⟨d, d2, rfl, q⟩⟩
    show te r C _
    rw [e0]
    exact t
  · obtain ⟨d, d2, rfl, q⟩ := q2
    obtain ⟨xs, e1, q⟩ := opt_iff.mp q
    obtain ⟨ys, e2, q⟩ := opt_iff.mp q
    obtain ⟨v1, v2, rfl, p1, p2⟩ := reps2 r2
    obtain ⟨a, rfl, sr⟩ := src_of p1 R2 e1
    obtain ⟨b, rfl, sr2⟩ := src_of p2 R2 e2
    obtain ⟨vs, hs, rs⟩ := sr h m2 C2 H2 Ext.refl R2 e1
    obtain ⟨us, hu, ru⟩ := sr2 h m2 C2 H2 Ext.refl R2 e2
    refine ⟨a, b, isLst d, isLst d2, rfl, ⟨vs, hs⟩, ⟨us, hu⟩, fun hz => k _ _ C2 m2 H2 _ q ?_ x2 R2 ⟨e1, e2⟩ (jok_zip sr sr2)⟩
    have := hz vs hs
    have hl1 := rs.length
    simp only [zipD, List.length_zipWith]
    omega
  · obtain ⟨a, b, k1, k2, rfl, ⟨vs, hs'⟩, ⟨us', hu'⟩, q⟩ := q1
    obtain ⟨u1, u2, rfl, z1, z2⟩ := vals2 r1
    cases z1
    cases z2
    obtain ⟨its, rv, ct, hz, hal⟩ := Inv.src I1 hs'
    obtain ⟨its2, rv2, ct2, hz2, hbl⟩ := Inv.src I1 hu'
    have q' := q fun us hu => by rw [Inv.src_inj I1 hu hs']; exact hz
    have fin : ∀ h', IsZip h' (s1.heap.objs.size + 4) (s1.heap.objs.size + 2) (s1.heap.objs.size + 3) .none → IsTupOf2 h' (s1.heap.objs.size + 2) (.ref s1.heap.objs.size) (.ref (s1.heap.objs.size + 1)) → IsTupOf2 h' (s1.heap.objs.size + 3) .none .none →
        ItAt k1 h' s1.heap.objs.size a 0 → ItAt k2 h' (s1.heap.objs.size + 1) b 0 → (∀ c o, s1.heap.get? c = some o → h'.get? c = some o) → PIE X pins σ (.Tuple elts kk tpos) R (.ref (s1.heap.objs.size + 4)) { s1 with heap := h' } := fun h' hz hTI hTO h1 h2 hk => by
      have I2 : Inv X pins σ H1 { s1 with heap := h' } := I1.kept (t' := s1.toks) hk
      have sep : ZipSep2 (s1.heap.objs.size + 4) (s1.heap.objs.size + 2) (s1.heap.objs.size + 3) s1.heap.objs.size (s1.heap.objs.size + 1) [s1.heap.objs.size, a] [s1.heap.objs.size + 1, b] := by
        have ha : a < s1.heap.objs.size := hal
        have hb : b < s1.heap.objs.size := hbl
        generalize s1.heap.objs.size = n at ha hb
        have ha' : @LT.lt Nat instLTNat a n := ha
        have hb' : @LT.lt Nat instLTNat b n := hb
        have ni : ∀ {c x y : Nat}, c ≠ x → c ≠ y → c ∉ [x, y] := fun h1 h2 hm => by
          rcases List.mem_cons.mp hm with z | z
          · exact h1 z
          · exact h2 (by simpa using z)
        exact ⟨(show (n + 2 : Nat) ≠ n + 4 by omega), (show (n + 3 : Nat) ≠ n + 4 by omega), (show (n + 2 : Nat) ≠ n + 3 by omega), (show (n + 2 : Nat) ≠ n by omega), List.mem_cons_self,
          ni (by omega) (show (n + 4 : Nat) ≠ a by omega), ni (by omega) (show (n + 3 : Nat) ≠ a by omega), (show (n + 2 : Nat) ≠ n + 1 by omega), List.mem_cons_self,
          ni (by omega) (show (n + 4 : Nat) ≠ b by omega), ni (by omega) (show (n + 3 : Nat) ≠ b by omega), ni (show (n : Nat) ≠ n + 1 by omega) (show (n : Nat) ≠ b by omega), ni (show (n + 1 : Nat) ≠ n by omega) (show (n + 1 : Nat) ≠ a by omega)⟩
      refine ⟨s1.heap.objs.size + 4, [s1.heap.objs.size + 4, s1.heap.objs.size + 2, s1.heap.objs.size + 3, s1.heap.objs.size, s1.heap.objs.size + 1], _, _, H1, rfl, I2, turn_zipG k1 k2 sep (Nat.ne_of_lt hal) (Nat.ne_of_lt (Nat.lt_succ_of_lt hbl)), ⟨hz, hTI, ⟨_, _, hTO⟩, h1, h2⟩, fun c hcm => ?_, q'⟩
      have e' : c = s1.heap.objs.size + 4 ∨ c = s1.heap.objs.size + 2 ∨ c = s1.heap.objs.size + 3 ∨ c = s1.heap.objs.size ∨ c = s1.heap.objs.size + 1 := by simpa using hcm
      have hle : s1.heap.objs.size ≤ c := by
        rcases e' with z | z | z | z | z
        · rw [z]; exact Nat.le_add_right _ _
        · rw [z]; exact Nat.le_add_right _ _
        · rw [z]; exact Nat.le_add_right _ _
        · rw [z]; exact Nat.le_refl _
        · rw [z]; exact Nat.le_add_right _ _
      exact I1.fpOk hle (I1.hok.fresh hle)
    cases k1 <;> cases k2
    · exact zip_begins2 (begins_tuple a its.toArray) (begins_tuple b its2.toArray) ct ct2 fun h' hz hTI hTO o1 o2 hsz hk => wpAny_pyIter_zip hz (fin h' hz hTI hTO ⟨_, o1, rfl, rfl⟩ ⟨_, o2, rfl, rfl⟩ hk)
    · exact zip_begins2 (begins_tuple a its.toArray) (begins_list b its2.toArray) ct ct2 fun h' hz hTI hTO o1 o2 hsz hk => wpAny_pyIter_zip hz (fin h' hz hTI hTO ⟨_, o1, rfl, rfl⟩ ⟨_, o2, rfl, rfl⟩ hk)
    · exact zip_begins2 (begins_list a its.toArray) (begins_tuple b its2.toArray) ct ct2 fun h' hz hTI hTO o1 o2 hsz hk => wpAny_pyIter_zip hz (fin h' hz hTI hTO ⟨_, o1, rfl, rfl⟩ ⟨_, o2, rfl, rfl⟩ hk)
    · exact zip_begins2 (begins_list a its.toArray) (begins_list b its2.toArray) ct ct2 fun h' hz hTI hTO o1 o2 hsz hk => wpAny_pyIter_zip hz (fin h' hz hTI hTO ⟨_, o1, rfl, rfl⟩ ⟨_, o2, rfl, rfl⟩ hk)
theorem line_eq : (2 : Int) ^ 24 = (sizeLine : Nat) := by decide
def iR1 (te : RE) : RI := fun r C Q => te r C fun d C1 => match d with
  | .int j => (-(2 ^ 62) ≤ j ∧ j ≤ 2 ^ 24) ∧ Q (rngD 0 j.toNat) (fun _ => True) C1
  | _ => False
theorem pi_imp {iter : Expr} {w w' : TI} (p : PI X tg iter w) (i : ∀ σ H R, w' σ H R → w σ H R) : PI X tg iter w' := ⟨fun pins s σ H R I h => p.run pins s σ H R I (i σ H R h)⟩
theorem di_range1 {p pos : Pos} (hm : X.mg "range" = none) (he : DE X B e te) (hg : Gl X "range" := by rfl) (hs : starEach [e] X.env = (false, eval e X.env) :: starEach [] X.env := by rfl) (hs' : starEach [e] X.env = [(false, eval e X.env)] := by rfl) : DI X B tg (.Call (.Name "range" p) [e] [] pos) (iR1 te) := by
  refine ⟨pi_imp (pi_range1 hg hm (pa_cons he.run pa_nil hs) hs') fun σ H R ⟨h, m, C, r, Q0, S, t, k⟩ => ?_⟩
  refine ⟨h, m, C, r, _, S, t, fun d C1 m1 H1 v1 q1 x1 R1 r1 => ?_⟩
  cases d <;> first | exact q1.elim | skip
  rename_i j
  have e : v1 = .int j := r1
  subst e
  obtain ⟨⟨b1, b2⟩, q⟩ := q1
  have l : (rngD 0 j.toNat).length ≤ sizeLine := by
    rw [rngD_length]
    have := line_eq
    omega
  exact ⟨j, rfl, b1, by have : (2 : Int) ^ 24 < 2 ^ 62 := by decide
                        omega, k _ _ C1 m1 H1 _ q l x1 R1 trivial jok_range⟩
def iR2 (ta tb : RE) : RI := fun r C Q => ta r C fun d C1 => tb r C1 fun e C2 => match d, e with
  | .int i, .int j => (-(2 ^ 24) ≤ i ∧ i ≤ 2 ^ 24 ∧ -(2 ^ 24) ≤ j ∧ j ≤ 2 ^ 24 ∧ j - i ≤ 2 ^ 24) ∧ Q (rngD i (j - i).toNat) (fun _ => True) C2
  | _, _ => False
theorem di_range2 {p pos : Pos} (hm : X.mg "range" = none) (he : DE X B e te) (he2 : DE X B e2 te2) (hg : Gl X "range" := by rfl) (hs1 : starEach [e, e2] X.env = (false, eval e X.env) :: starEach [e2] X.env := by rfl) (hs3 : starEach [e2] X.env = (false, eval e2 X.env) :: starEach [] X.env := by rfl)
    (hs : starEach [e, e2] X.env = [(false, eval e X.env), (false, eval e2 X.env)] := by rfl) (hs2 : starEach [e2] X.env = [(false, eval e2 X.env)] := by rfl) : DI X B tg (.Call (.Name "range" p) [e, e2] [] pos) (iR2 te te2) := by
  refine ⟨pi_imp (pi_range2 hg hm (pa_cons he.run (pa_cons he2.run pa_nil hs3) hs1) hs hs2) fun σ H R ⟨h, m, C, r, Q0, S, t, k⟩ => ?_⟩
  refine ⟨h, m, C, r, _, S, t, fun d C1 m1 H1 v1 q1 x1 R1 r1 => ?_⟩
  refine ⟨h, m1, C1, r, _, S.ext x1 R1, q1, fun d2 C2 m2 H2 v2 q2 x2 R2 r2 => ?_⟩
  cases d <;> first | exact q2.elim | skip
  cases d2 <;> first | exact q2.elim | skip
  rename_i i j
  have e : v1 = .int i := r1
  have e' : v2 = .int j := r2
  subst e e'
  obtain ⟨⟨b1, b2, b3, b4, b5⟩, q⟩ := q2
  have l : (rngD i (j - i).toNat).length ≤ sizeLine := by
    rw [rngD_length]
    have := line_eq
    omega
  have big : (2 : Int) ^ 24 < 2 ^ 62 := by decide
  exact ⟨i, j, rfl, ⟨by omega, by omega, by omega, by omega⟩, k _ _ C2 m2 H2 _ q l (x1.trans x2) R2 trivial jok_range⟩
end

/-! ### targets -/
abbrev RG := D → Ev → Cs → (Ev → Cs → Prop) → Prop
abbrev RGs := List D → Ev → Cs → (Ev → Cs → Prop) → Prop
def upG (K : PySem.W.Frag) (B : BS) (vs : List Nat) (g : RG) : TG := fun v σ H Q => ∃ h m C r d Q0, Sta K B h m C r σ H ∧ Rep K m (hz h m H) d v ∧ g d r C Q0 ∧
  ∀ r' C' m' H' σ', Q0 r' C' → Ext h m H h m' H' → Sta K B h m' C' r' σ' H' → wipe σ' vs = wipe σ vs → Q σ' H'
def upGs (K : PySem.W.Frag) (B : BS) (vs : List Nat) (g : RGs) : TGs := fun us σ H Q => ∃ h m C r ds Q0, Sta K B h m C r σ H ∧ Reps K m (hz h m H) ds us ∧ g ds r C Q0 ∧
  ∀ r' C' m' H' σ', Q0 r' C' → Ext h m H h m' H' → Sta K B h m' C' r' σ' H' → wipe σ' vs = wipe σ vs → Q σ' H'
structure DG (X : Cx) (B : BS) (vs : List Nat) (tg : Expr) (g : RG) : Prop where
  run : PG X tg (upG X.K B vs g)
structure DGs (X : Cx) (B : BS) (vs : List Nat) (tg : List Expr) (g : RGs) : Prop where
  run : PGs X tg (upGs X.K B vs g)
theorem pg_imp {X : Cx} {tg : Expr} {t t' : TG} (p : PG X tg t) (i : ∀ v σ H Q, t' v σ H Q → t v σ H Q) : PG X tg t' := ⟨fun pins s σ H v u Q I r h => p.run pins s σ H v u Q I r (i v σ H Q h)⟩
theorem pgs_imp {X : Cx} {tg : List Expr} {t t' : TGs} (p : PGs X tg t) (i : ∀ v σ H Q, t' v σ H Q → t v σ H Q) : PGs X tg t' := ⟨fun pins s σ H v u Q I r h => p.run pins s σ H v u Q I r (i v σ H Q h)⟩
theorem wipe_set_out {σ : L2.St} {i : Nat} {o : Option V} : ∀ vs : List Nat, i ∉ vs → wipe (σ.set i o) vs = (wipe σ vs).set i o
  | [], _ => rfl
  | v :: vs, h => by
    have h1 : v ≠ i := fun e => h (e ▸ List.mem_cons_self)
    unfold wipe
    rw [wipe_set_out vs fun z => h (List.mem_cons_of_mem _ z), List.set_comm _ _ h1]
theorem wipe_set {σ : L2.St} {i : Nat} {o : Option V} : ∀ vs : List Nat, i ∈ vs → wipe (σ.set i o) vs = wipe σ vs
  | v :: vs, h => by
    unfold wipe
    by_cases hm : i ∈ vs
    · rw [wipe_set vs hm]
    · have e : v = i := by
        rcases List.mem_cons.mp h with z | z
        · exact z.symm
        · exact absurd z hm
      subst e
      rw [wipe_set_out vs hm, List.set_set]
def gN (i : Nat) : RG := fun d r C Q => Q (r.set i (some d)) C
def gT (g : RGs) : RG := fun d r C Q => match d with
  | .tup ds => g ds r C Q
  | _ => False
def gL (g : RGs) : RG := fun d r C Q => opt (llD C d) fun ds => g ds r C Q
def gNi : RGs := fun ds r C Q => match ds with
  | [] => Q r C
  | _ => False
def gCo (g : RG) (gs : RGs) : RGs := fun ds r C Q => match ds with
  | d :: es => g d r C fun r' C' => gs es r' C' Q
  | [] => False
section
variable {X : Cx} {B : BS} {vs : List Nat} {pos : Pos}
theorem dg_n {i : Nat} {x : Str} (hN : X.N.Nodup) (hi : X.N[i]? = some x) (hx : Loc X.env.scope x) (hv : i ∈ vs) (hf : X.fn x = true ∨ X.env.scope.names.lookup x = some .local := by first | exact .inl rfl | exact .inr rfl | assumption) : DG X B vs (.Name x pos) (gN i) := by
  refine ⟨pg_imp (pg_name hN hi hx hf) fun v σ H Q ⟨h, m, C, r, d, Q0, S, rp, t, k⟩ => ?_⟩
  exact k _ C m H _ t Ext.refl ⟨S.rl, S.en.set i rp, S.base, S.st⟩ (wipe_set vs hv)
theorem dgs_nil : DGs X B vs [] gNi := by
  refine ⟨pgs_imp pgs_nil fun us σ H Q ⟨h, m, C, r, ds, Q0, S, rp, t, k⟩ => ?_⟩
  cases ds with
  | nil => exact ⟨rp, k r C m H σ t Ext.refl S rfl⟩
  | cons d ds => exact t.elim
theorem dgs_cons {e : Expr} {es : List Expr} {g : RG} {gs : RGs} (h1 : DG X B vs e g) (h2 : DGs X B vs es gs) (hs : (assignEach (e :: es) X.env).map (·.2) = assign e X.env :: (assignEach es X.env).map (·.2) := by rfl) : DGs X B vs (e :: es) (gCo g gs) := by
  refine ⟨pgs_imp (pgs_cons h1.run h2.run hs) fun us σ H Q ⟨h, m, C, r, ds, Q0, S, rp, t, k⟩ => ?_⟩
  cases ds with
  | nil => exact t.elim
  | cons d ds =>
    obtain ⟨v, vr, rfl, r1, r2⟩ := rp
    refine ⟨v, vr, rfl, h, m, C, r, d, _, S, r1, t, fun r' C' m' H' σ' q x S' w => ?_⟩
    exact ⟨h, m', C', r', ds, Q0, S', x.reps r2, q, fun r2 C2 m2 H2 σ2 q2 x2 S2 w2 => k r2 C2 m2 H2 σ2 q2 (x.trans x2) S2 (w2.trans w)⟩
theorem Reps.glen {K : PySem.W.Frag} {m : List Addr} {H : Hp} {ds : List D} {vs : List V} (r : Reps K m H ds vs) {n : Nat} (h : ds.length = n) : vs.length = n := by rw [← r.length]; exact h
/-- how many things a tuple target takes -/
def gLen : RGs → Nat → Prop := fun g n => ∀ ds r C Q, g ds r C Q → ds.length = n
theorem gLen_nil : gLen gNi 0 := fun ds r C Q h => by
  cases ds with
  | nil => rfl
  | cons d ds => exact h.elim
theorem dg_tup {es : List Expr} {k : Nat} {g : RGs} {n : Nat} (hc : X.calm = true) (h : DGs X B vs es g) (hn : (assignEach es X.env).length = n := by rfl) (hst : (assignEach es X.env).findIdx? (·.1) = none := by rfl) : DG X B vs (.Tuple es k pos) (fun d r C Q => match d with
    | .tup ds => ds.length = n ∧ g ds r C Q
    | _ => False) := by
  refine ⟨pg_imp (pg_tup hc h.run hn hst) fun v σ H Q ⟨h, m, C, r, d, Q0, S, rp, t, k⟩ => ?_⟩
  cases d <;> first | exact t.elim | skip
  obtain ⟨hl, t⟩ := t
  obtain ⟨a, us, o, rfl, e, hd, rs⟩ := rp
  exact ⟨a, us, rfl, .inl (.inr ⟨o, hz_sub e⟩), rs.glen hl, h, m, C, r, _, Q0, S, rs, t, k⟩
/-- o[i] = v -/
def oSet (o i d : D) (C : Cs) (Q : Cs → Prop) : Prop := match o, i with
  | .cel n, .int k => opt (lsD C (.cel n)) fun xs => opt (ixN xs.length k) fun j => Q (C.set n (.lst (xs.set j d)))
  | _, _ => False
def gSb (to ti : RE) : RG := fun d r C Q => to r C fun o C1 => ti r C1 fun i C2 => oSet o i d C2 fun C3 => Q r C3
theorem dg_sub {o i : Expr} {to ti : RE} (ho : DE X B o to) (hi : DE X B i ti) (ha : ∀ v, assign (.Subscript o i pos) X.env v = (do
      let ov ← holding [v] (eval o X.env)
      let iv ← holding [v, ov] (eval i X.env)
      standAt pos
      holding [v, ov, iv] (setItem ov iv v)
      release [v, ov, iv] []) := by intro _; rfl) : DG X B vs (.Subscript o i pos) (gSb to ti) := by
  refine ⟨pg_imp (pg_sub ho.run hi.run set_list ha) fun v σ H Q ⟨h, m, C, r, d, Q0, S, rp, t, k⟩ => ?_⟩
  refine ⟨h, m, C, r, _, S, t, fun od C1 m1 H1 v1 q1 x1 R1 r1 => ?_⟩
  have S1 := S.ext x1 R1
  refine ⟨h, m1, C1, r, _, S1, q1, fun id C2 m2 H2 v2 q2 x2 R2 r2 => ?_⟩
  have S2 := S1.ext x2 R2
  cases od <;> first | exact q2.elim | skip
  cases id <;> first | exact q2.elim | skip
  rename_i n j
  obtain ⟨xs, e1, q⟩ := opt_iff.mp q2
  obtain ⟨jj, e2, q⟩ := opt_iff.mp q
  obtain ⟨a, rfl, ea⟩ := x2.rep r1
  have hc : C2[n]? = some (.lst xs) := by
    have e1' : (match C2[n]? with | some (.lst xs) => some xs | none => none) = some xs := e1
    cases hc : C2[n]? with
    | none => rw [hc] at e1'; cases e1'
    | some c => cases c; rw [hc] at e1'; cases e1'; rfl
  obtain ⟨b, hb, us, k1, k2⟩ := R2.cell n _ hc
  rw [ea] at hb
  cases hb
  have rd : Rep X.K m2 (hz h m2 H2) d v := x2.rep (x1.rep rp)
  obtain ⟨x3, R3⟩ := R2.write hc ea (k2.set jj rd)
  exact ⟨a, us, j, jj, rfl, r2, k1, by rw [← k2.length]; exact e2, k _ _ _ _ σ q ((x1.trans x2).trans x3) (S2.ext x3 R3) rfl⟩
end

/-! ### small statements -/
def sSet (i : Nat) (te : RE) : RS := fun D r C => te r C fun d C1 => D.nx (r.set i (some d)) C1
def sAsg (te : RE) (g : RG) : RS := fun D r C => te r C fun d C1 => g d r C1 D.nx
def sDrop (te : RE) : RS := fun D r C => te r C fun _ C1 => D.nx r C1
def sRet (te : RE) : RS := fun D r C => te r C D.rt
def sRetN : RS := fun D _ C => D.rt .non C
def sIf (c : RT) (t u : RS) : RS := fun D r C => c r C fun b C1 => if b = true then t D r C1 else u D r C1
def sNext : RS := fun D r C => D.nx r C
def sSeq (t u : RS) : RS := fun D r C => t { D with nx := u D } r C
def sBrk : RS := fun D r C => D.bk r C
def sCnt : RS := fun D r C => D.ct r C
def sPar (i j : Nat) (ta : RA) : RS := fun D r C => ta r C fun ds C1 => match ds with
  | [d, e] => D.nx ((r.set i (some d)).set j (some e)) C1
  | _ => False
def sPar3 (i j l : Nat) (ta : RA) : RS := fun D r C => ta r C fun ds C1 => match ds with
  | [d, e, f] => D.nx (((r.set i (some d)).set j (some e)).set l (some f)) C1
  | _ => False
section
variable {X : Cx} {B : BS} {st : Stmt} {rest : List Stmt} {t u : RS} {e : Expr} {te : RE} {pos : Pos}
/-- what follows, once more at a later state -/
def Fol (K : PySem.W.Frag) (B : BS) (h m : List Addr) (H : Hp) (D0 : EndsD) (D : Ends) : Prop := ∀ m' H' C', Ext h m H h m' H' → Rl K h m' C' H' →
    (∀ r' σ', D0.nx r' C' → Sta K B h m' C' r' σ' H' → D.nx σ' H') ∧
    (∀ r' σ', D0.bk r' C' → Sta K B h m' C' r' σ' H' → D.bk σ' H') ∧
    (∀ r' σ', D0.ct r' C' → Sta K B h m' C' r' σ' H' → D.ct σ' H') ∧
    (∀ d v, D0.rt d C' → Rep K m' (hz h m' H') d v → D.rt v H')
theorem Fol.ext {K : PySem.W.Frag} {h m m1 : List Addr} {H H1 : Hp} {D0 : EndsD} {D : Ends} (k : Fol K B h m H D0 D) (x : Ext h m H h m1 H1) : Fol K B h m1 H1 D0 D := fun m' H' C' y R => k m' H' C' (x.trans y) R
theorem Fol.nx {K : PySem.W.Frag} {h m : List Addr} {C : Cs} {H : Hp} {D0 : EndsD} {D : Ends} {r : Ev} {σ : L2.St} (k : Fol K B h m H D0 D) (S : Sta K B h m C r σ H) (q : D0.nx r C) : D.nx σ H := (k m H C Ext.refl S.rl).1 r σ q S
theorem ds_set {i : Nat} {x : Str} {pos' : Pos} (hN : X.N.Nodup) (hi : X.N[i]? = some x) (hx : Loc X.env.scope x) (he : DE X B e te) (hs : swapsWith e (some (.Name x pos')) pos.line X.env = pure false := by rfl) (hf : X.fn x = true ∨ X.env.scope.names.lookup x = some .local := by first | exact .inl rfl | exact .inr rfl | assumption) :
    DS X B (.Assign [.Name x pos'] e pos) (sSet i te) := by
  refine ⟨ps_imp (ps_set hN hi hx he.run hs hf) fun D σ H ⟨h, m, C, r, D0, S, t, k⟩ => ?_⟩
  refine ⟨h, m, C, r, _, S, t, fun d C1 m1 H1 v1 q1 x1 R1 r1 => ?_⟩
  have S1 := S.ext x1 R1
  exact Fol.nx (Fol.ext k x1) ⟨R1, S1.en.set i r1, S1.base, S1.st⟩ q1
theorem ds_asg {tg : Expr} {g : RG} {vs : List Nat} (he : DE X B e te) (hg : DG X B vs tg g) (hs : swapsWithSole [tg] e pos.line X.env = pure false := by rfl) (hw : swappedStores [tg] e X.env = pure none := by rfl)
    (h1 : (assignEach [tg] X.env).map (·.2) = [assign tg X.env] := by rfl) : DS X B (.Assign [tg] e pos) (sAsg te g) := by
  refine ⟨ps_imp (ps_asg he.run hg.run hs hw h1) fun D σ H ⟨h, m, C, r, D0, S, t, k⟩ => ?_⟩
  refine ⟨h, m, C, r, _, S, t, fun d C1 m1 H1 v1 q1 x1 R1 r1 => ?_⟩
  exact ⟨h, m1, C1, r, d, _, S.ext x1 R1, r1, q1, fun r' C' m' H' σ' q x S' _ => Fol.nx (Fol.ext k (x1.trans x)) S' q⟩
theorem ds_par {i j : Nat} {x y : Str} {a b : Expr} {ta : RA} {px py pt : Pos} {kt k2 pt2} (hc : X.calm = true) (hN : X.N.Nodup) (hi : X.N[i]? = some x) (hj : X.N[j]? = some y) (hij : i ≠ j)
    (hx : X.env.scope.names.lookup x = some .local) (hy : X.env.scope.names.lookup y = some .local) (ha : DA X B [a, b] ta)
    (hw : swappedStores [.Tuple [.Name x px, .Name y py] kt pt] (.Tuple [a, b] k2 pt2) X.env = pure (some [x, y]) := by rfl)
    (hs : swapsWithSole [.Tuple [.Name x px, .Name y py] kt pt] (.Tuple [a, b] k2 pt2) pos.line X.env = pure false := by rfl) :
    DS X B (.Assign [.Tuple [.Name x px, .Name y py] kt pt] (.Tuple [a, b] k2 pt2) pos) (sPar i j ta) := by
  refine ⟨ps_imp (L2.ps_par hc hN hi hj hij hx hy ha.run hw hs) fun D σ H ⟨h, m, C, r, D0, S, t, k⟩ => ?_⟩
  refine ⟨h, m, C, r, _, S, t, fun ds C1 m1 H1 vs q1 hl x1 R1 r1 => ?_⟩
  match ds, q1 with
  | [d, e], q1 =>
    obtain ⟨v, w, rfl, p1, p2⟩ := reps2 r1
    have S1 := S.ext x1 R1
    exact ⟨v, w, rfl, Fol.nx (Fol.ext k x1) ⟨R1, (S1.en.set i p1).set j p2, S1.base, S1.st⟩ q1⟩
theorem ds_par3 {i j l : Nat} {x y z : Str} {a b c : Expr} {ta : RA} {px py pz pt : Pos} {kt k2 pt2} (hc : X.calm = true) (hN : X.N.Nodup) (hi : X.N[i]? = some x) (hj : X.N[j]? = some y) (hl : X.N[l]? = some z) (hij : i ≠ j) (hil : i ≠ l) (hjl : j ≠ l)
    (hx : X.env.scope.names.lookup x = some .local) (hy : X.env.scope.names.lookup y = some .local) (hz' : X.env.scope.names.lookup z = some .local) (ha : DA X B [a, b, c] ta)
    (hw : swappedStores [.Tuple [.Name x px, .Name y py, .Name z pz] kt pt] (.Tuple [a, b, c] k2 pt2) X.env = pure (some [x, y, z]) := by rfl)
    (hs : swapsWithSole [.Tuple [.Name x px, .Name y py, .Name z pz] kt pt] (.Tuple [a, b, c] k2 pt2) pos.line X.env = pure false := by rfl) :
    DS X B (.Assign [.Tuple [.Name x px, .Name y py, .Name z pz] kt pt] (.Tuple [a, b, c] k2 pt2) pos) (sPar3 i j l ta) := by
  refine ⟨ps_imp (L2.ps_par3 hc hN hi hj hl hij hil hjl hx hy hz' ha.run hw hs) fun D σ H ⟨h, m, C, r, D0, S, t, k⟩ => ?_⟩
  refine ⟨h, m, C, r, _, S, t, fun ds C1 m1 H1 vs q1 hl x1 R1 r1 => ?_⟩
  match ds, q1 with
  | [d, e, f], q1 =>
    obtain ⟨v, vr, rfl, p1, p2⟩ := r1
    obtain ⟨v2, v3, rfl, p3, p4⟩ := reps2 p2
    have S1 := S.ext x1 R1
    exact ⟨v, v2, v3, rfl, Fol.nx (Fol.ext k x1) ⟨R1, ((S1.en.set i p1).set j p3).set l p4, S1.base, S1.st⟩ q1⟩
theorem ds_expr (he : DE X B e te) (hs : swapsWith e none pos.line X.env = pure false := by rfl) : DS X B (.Expr e pos) (sDrop te) := by
  refine ⟨ps_imp (ps_expr he.run hs) fun D σ H ⟨h, m, C, r, D0, S, t, k⟩ => ?_⟩
  exact ⟨h, m, C, r, _, S, t, fun d C1 m1 H1 v1 q1 x1 R1 r1 => Fol.nx (Fol.ext k x1) (S.ext x1 R1) q1⟩
theorem ds_doc {x j pos pos'} : DS X B (.Expr (.Constant (.str x) j pos) pos') sNext := by
  refine ⟨ps_imp ps_doc fun D σ H ⟨h, m, C, r, D0, S, t, k⟩ => Fol.nx k S t⟩
theorem ds_ret (he : DE X B e te) : DS X B (.Return (some e) pos) (sRet te) := by
  refine ⟨ps_imp (ps_ret he.run) fun D σ H ⟨h, m, C, r, D0, S, t, k⟩ => ?_⟩
  exact ⟨h, m, C, r, _, S, t, fun d C1 m1 H1 v1 q1 x1 R1 r1 => (k m1 H1 C1 x1 R1).2.2.2 d v1 q1 r1⟩
theorem ds_retN : DS X B (.Return none pos) sRetN := by
  refine ⟨ps_imp ps_retN fun D σ H ⟨h, m, C, r, D0, S, t, k⟩ => (k m H C Ext.refl S.rl).2.2.2 .non .non t rfl⟩
theorem ds_pass : DS X B (.Pass pos) sNext := by
  refine ⟨ps_imp ps_pass fun D σ H ⟨h, m, C, r, D0, S, t, k⟩ => Fol.nx k S t⟩
theorem ds_break : DS X B (.Break pos) sBrk := by
  refine ⟨ps_imp ps_break fun D σ H ⟨h, m, C, r, D0, S, t, k⟩ => (k m H C Ext.refl S.rl).2.1 r σ t S⟩
theorem ds_cont : DS X B (.Continue pos) sCnt := by
  refine ⟨ps_imp ps_continue fun D σ H ⟨h, m, C, r, D0, S, t, k⟩ => (k m H C Ext.refl S.rl).2.2.1 r σ t S⟩
theorem dss_nil : DSs X B [] sNext := by
  refine ⟨pss_imp pss_nil fun D σ H ⟨h, m, C, r, D0, S, t, k⟩ => Fol.nx k S t⟩
theorem dss_one (h1 : DS X B st t) : DSs X B [st] t := ⟨pss_one h1.run⟩
theorem dss_cons (h1 : DS X B st t) (h2 : DSs X B rest u) : DSs X B (st :: rest) (sSeq t u) := by
  refine ⟨pss_imp (pss_cons h1.run h2.run) fun D σ H ⟨h, m, C, r, D0, S, t, k⟩ => ?_⟩
  refine ⟨h, m, C, r, _, S, t, fun m' H' C' x R => ?_⟩
  obtain ⟨k1, k2, k3, k4⟩ := k m' H' C' x R
  exact ⟨fun r' σ' q S' => ⟨h, m', C', r', D0, S', q, Fol.ext k x⟩, k2, k3, k4⟩
theorem ds_if {c : Expr} {a b : List Stmt} {tc : RT} (hc : DT X B c tc) (ha : DSs X B a t) (hb : DSs X B b u) : DS X B (.If c a b pos) (sIf tc t u) := by
  refine ⟨ps_imp (ps_if hc.run ha.run hb.run) fun D σ H ⟨h, m, C, r, D0, S, t, k⟩ => ?_⟩
  refine ⟨h, m, C, r, _, S, t, fun b C1 m1 H1 q1 x1 R1 => ?_⟩
  cases b with
  | true => exact ⟨h, m1, C1, r, D0, S.ext x1 R1, q1, Fol.ext k x1⟩
  | false => exact ⟨h, m1, C1, r, D0, S.ext x1 R1, q1, Fol.ext k x1⟩
/-- name op= e -/
def sAug (i : Nat) (o : O2) (te : RE) : RS := fun D r C => opt (r.getD i none) fun x => te r C fun y C1 => o x y C1 fun z C2 => D.nx (r.set i (some z)) C2
theorem ds_aug {i : Nat} {x : Str} {op : Operator} {q : R2} {o : O2} {pos' : Pos} (hN : X.N.Nodup) (hi : X.N[i]? = some x) (hx : Loc X.env.scope x) (he : DE X B e te) (ho : PIp X op q) (od : OpD X.K q o) (hf : X.fn x = true ∨ X.env.scope.names.lookup x = some .local := by first | exact .inl rfl | exact .inr rfl | assumption) :
    DS X B (.AugAssign (.Name x pos') op e pos) (sAug i o te) := by
  refine ⟨ps_imp (ps_aug hN hi hx he.run ho hf) fun D σ H ⟨h, m, C, r, D0, S, t, k⟩ => ?_⟩
  obtain ⟨d, e, t⟩ := opt_iff.mp t
  obtain ⟨v, hv, rp⟩ := S.en.get i d (getD_some e)
  refine ⟨v, hv, h, m, C, r, _, S, t, fun d2 C2 m2 H2 v2 q2 x2 R2 r2 => ?_⟩
  refine od h m2 C2 H2 d d2 v v2 _ _ R2 (x2.rep rp) r2 q2 fun z C3 m3 H3 v3 q3 x3 R3 r3 => ?_
  have S3 := (S.ext x2 R2).ext x3 R3
  exact Fol.nx (Fol.ext k (x2.trans x3)) ⟨R3, S3.en.set i r3, S3.base, S3.st⟩ q3
theorem ds_augAdd {i : Nat} {x : Str} {pos' : Pos} (hN : X.N.Nodup) (hi : X.N[i]? = some x) (hx : Loc X.env.scope x) (he : DE X B e te) (hf : X.fn x = true ∨ X.env.scope.names.lookup x = some .local := by first | exact .inl rfl | exact .inr rfl | assumption) :
    DS X B (.AugAssign (.Name x pos') .Add e pos) (sAug i (oI fun i j => .int (i + j)) te) := ds_aug hN hi hx he iop_add (od_I fun _ _ _ _ => rfl) hf
theorem ds_augSub {i : Nat} {x : Str} {pos' : Pos} (hN : X.N.Nodup) (hi : X.N[i]? = some x) (hx : Loc X.env.scope x) (he : DE X B e te) (hf : X.fn x = true ∨ X.env.scope.names.lookup x = some .local := by first | exact .inl rfl | exact .inr rfl | assumption) :
    DS X B (.AugAssign (.Name x pos') .Sub e pos) (sAug i (oI fun i j => .int (i - j)) te) := ds_aug hN hi hx he iop_sub (od_I fun _ _ _ _ => rfl) hf
end
end DL
/-! DL6: for, while, list comprehensions. -/
namespace DL
open PySem PySem.Spec PyProof.Rows L2
theorem ite_t {p q : Prop} (h : p) : if true = true then p else q := h
theorem ite_f {p q : Prop} (h : q) : if false = true then p else q := h
def sFor (it : RI) (g : RG) (body : RS) : RS := fun D r C => it r C fun items G C1 => ∃ I : Nat → Ev → Cs → Prop, I 0 r C1 ∧ (∀ i r C, i ≤ items.length → I i r C → G C) ∧
  (∀ i d r C, items[i]? = some d → I i r C → g d r C fun r2 C2 => body { nx := I (i + 1), rt := D.rt, bk := D.nx, ct := I (i + 1) } r2 C2) ∧ ∀ r C, I items.length r C → D.nx r C
def sWhile (c : RT) (body : RS) : RS := fun D r C => ∃ W : Nat → Ev → Cs → Prop, (∃ n, W n r C) ∧ ∀ n r C, W n r C → c r C fun b C1 =>
  if b = true then body { nx := fun r C => ∃ k, k < n ∧ W k r C, rt := D.rt, bk := D.nx, ct := fun r C => ∃ k, k < n ∧ W k r C } r C1 else D.nx r C1
section
variable {X : Cx} {B : BS} {tg iter c : Expr} {body : List Stmt} {it : RI} {g : RG} {t : RS} {tc : RT} {pos : Pos} {vs : List Nat}
theorem ds_for (hp : PassesOwn (model X.prog X.w) X.A X.env X.xe) (hc : X.calm = true) (hi : DI X B tg iter it) (hg : DG X B vs tg g) (hb : DSs X B body t)
    (hs : ∀ x, foldedSetIterable iter X.env x = pure x := by intro _; rfl) : DS X B (.For tg iter body [] pos) (sFor it g t) := by
  refine ⟨ps_imp (ps_for hp hc hi.run hg.run hb.run hs) fun D σ H ⟨h, m, C, r, D0, S, t, k⟩ => ?_⟩
  refine ⟨h, m, C, r, _, S, t, fun items G C1 m1 H1 J q hz x R gd jok => ?_⟩
  obtain ⟨I, i0, iG, step, stop⟩ := q
  refine ⟨fun i n σ' H' => n = items.length - i ∧ i ≤ items.length ∧ ∃ m' C' r', Ext h m1 H1 h m' H' ∧ Sta X.K B h m' C' r' σ' H' ∧ I i r' C', ⟨_, rfl, Nat.zero_le _, m1, C1, r, Ext.refl, S.ext x R, i0⟩, ?_⟩
  rintro i n σ' H' ⟨hn, hi, m', C', r', x', S', q'⟩
  obtain ⟨j1, j2, j3⟩ := jok h m' C' H' x' S'.rl (iG i r' C' hi q')
  by_cases hlt : i < items.length
  · refine .inr ⟨j1 i hlt, fun σ2 H2 => ∃ n', n' < n ∧ n' = items.length - (i + 1) ∧ (i + 1) ≤ items.length ∧ ∃ m2 C2 r2, Ext h m1 H1 h m2 H2 ∧ Sta X.K B h m2 C2 r2 σ2 H2 ∧ I (i + 1) r2 C2, fun σ2 H2 ⟨n', a, b⟩ => ⟨n', a, b⟩, fun v H2 y => ?_⟩
    obtain ⟨d, e, x2, R2, rd⟩ := j3 i v H2 hlt y
    have S2 := S'.ext x2 R2
    refine ⟨h, m', C', r', d, _, S2, rd, step i d r' C' e q', fun r3 C3 m3 H3 σ3 q3 x3 S3 _ => ?_⟩
    have xx := (x'.trans x2).trans x3
    have nxt : ∀ m4 H4 C4 r4 σ4, Ext h m3 H3 h m4 H4 → I (i + 1) r4 C4 → Sta X.K B h m4 C4 r4 σ4 H4 → ∃ n', n' < n ∧ n' = items.length - (i + 1) ∧ (i + 1) ≤ items.length ∧ ∃ m2 C2 r2, Ext h m1 H1 h m2 H4 ∧ Sta X.K B h m2 C2 r2 σ4 H4 ∧ I (i + 1) r2 C2 := fun m4 H4 C4 r4 σ4 x4 q4 S4 =>
      ⟨_, by omega, rfl, hlt, m4, C4, r4, xx.trans x4, S4, q4⟩
    refine ⟨h, m3, C3, r3, _, S3, q3, fun m4 H4 C4 x4 R4 => ?_⟩
    obtain ⟨k1, k2, k3, k4⟩ := k m4 H4 C4 ((x.trans xx).trans x4) R4
    exact ⟨fun r4 σ4 q4 S4 => nxt m4 H4 C4 r4 σ4 x4 q4 S4, fun r4 σ4 q4 S4 => k1 r4 σ4 q4 S4, fun r4 σ4 q4 S4 => nxt m4 H4 C4 r4 σ4 x4 q4 S4, k4⟩
  · have e : i = items.length := by omega
    subst e
    exact .inl ⟨j2, Fol.nx (Fol.ext k (x.trans x')) S' (stop r' C' q')⟩
theorem ds_while (hp : PassesOwn (model X.prog X.w) X.A X.env X.xe) (hc : DT X B c tc) (hb : DSs X B body t) : DS X B (.While c body [] pos) (sWhile tc t) := by
  refine ⟨ps_imp (ps_while hp hc.run hb.run) fun D σ H ⟨h, m, C, r, D0, S, t, k⟩ => ?_⟩
  obtain ⟨W, ⟨n0, w0⟩, step⟩ := t
  refine ⟨fun n σ' H' => ∃ m' C' r', Ext h m H h m' H' ∧ Sta X.K B h m' C' r' σ' H' ∧ W n r' C', ⟨n0, m, C, r, Ext.refl, S, w0⟩, ?_⟩
  rintro n σ' H' ⟨m', C', r', x', S', q'⟩
  refine ⟨h, m', C', r', _, S', step n r' C' q', fun b C2 m2 H2 q2 x2 R2 => ?_⟩
  have S2 := S'.ext x2 R2
  have xx := x'.trans x2
  cases b with
  | false =>
    refine ite_f ?_
    exact Fol.nx (Fol.ext k xx) S2 q2
  | true =>
    refine ite_t ?_
    have nxt : ∀ m4 H4 C4 r4 σ4, Ext h m2 H2 h m4 H4 → (∃ k, k < n ∧ W k r4 C4) → Sta X.K B h m4 C4 r4 σ4 H4 → ∃ n', n' < n ∧ ∃ m' C' r', Ext h m H h m' H4 ∧ Sta X.K B h m' C' r' σ4 H4 ∧ W n' r' C' := fun m4 H4 C4 r4 σ4 x4 ⟨j, hj, q4⟩ S4 =>
      ⟨j, hj, m4, C4, r4, xx.trans x4, S4, q4⟩
    refine ⟨fun σ4 H4 => ∃ n', n' < n ∧ ∃ m' C' r', Ext h m H h m' H4 ∧ Sta X.K B h m' C' r' σ4 H4 ∧ W n' r' C', fun _ _ z => z, h, m2, C2, r', _, S2, q2, fun m4 H4 C4 x4 R4 => ?_⟩
    obtain ⟨k1, k2, k3, k4⟩ := k m4 H4 C4 (xx.trans x4) R4
    exact ⟨fun r4 σ4 q4 S4 => nxt m4 H4 C4 r4 σ4 x4 q4 S4, fun r4 σ4 q4 S4 => k1 r4 σ4 q4 S4, fun r4 σ4 q4 S4 => nxt m4 H4 C4 r4 σ4 x4 q4 S4, k4⟩
end

/-! ### list comprehensions -/
def wipeD (r : Ev) : List Nat → Ev
  | [] => r
  | v :: vs => (wipeD r vs).set v none
theorem En.wipe {K : PySem.W.Frag} {m : List Addr} {H0 : Hp} {r : Ev} {σ : L2.St} (e : En K m H0 r σ) : ∀ vs, En K m H0 (wipeD r vs) (L2.wipe σ vs)
  | [] => e
  | v :: vs => (En.wipe e vs).setN v none
theorem wipe_idem (σ : L2.St) (vs : List Nat) : wipe (wipe σ vs) vs = wipe σ vs := by
  refine List.ext_getElem? fun i => ?_
  have key : ∀ (us : List Nat) (τ : L2.St), (wipe τ us)[i]? = if i ∈ us then (if i < τ.length then some none else none) else τ[i]? := by
    intro us
    induction us with
    | nil => intro τ; simp [wipe]
    | cons v us ih =>
      intro τ
      show ((wipe τ us).set v none)[i]? = _
      rw [List.getElem?_set, ih, wipe_length]
      by_cases h : v = i
      · subst h
        simp
      · rw [if_neg h]
        have : (i ∈ v :: us) ↔ i ∈ us := by
          simp only [List.mem_cons]
          constructor
          · rintro (z | z)
            · exact absurd z.symm h
            · exact z
          · exact .inr
        simp only [this]
  rw [key, wipe_length]
  split
  · rename_i h
    rw [key, if_pos h]
  · rfl
abbrev BT : BS := fun _ _ _ => True
theorem stBT : Stable BT := fun _ _ _ _ _ _ _ => trivial
/-- the conditions of a comprehension -/
structure DTs (X : Cx) (B : BS) (es : List Expr) (t : RT) : Prop where
  run : PTs X es (upT X.K B t)
theorem pts_imp {X : Cx} {e : List Expr} {t t' : TT} (p : PTs X e t) (i : ∀ σ H Q, t' σ H Q → t σ H Q) : PTs X e t' := ⟨fun pins s σ H Q I h => p.run pins s σ H Q I (i σ H Q h)⟩
def cNil : RT := fun _ C Q => Q true C
section
variable {X : Cx} {B : BS} {e : Expr} {t : RT}
theorem dts_nil : DTs X B [] cNil := ⟨pts_imp pts_nil fun σ H Q ⟨h, m, C, r, Q0, S, t, k⟩ => k true C m H t Ext.refl S.rl⟩
theorem dts_one (he : DT X B e t) : DTs X B [e] t := ⟨pts_imp (pts_one he.run) fun σ H Q h => h⟩
end
/-- adding the list under way -/
theorem Rl.push {K : PySem.W.Frag} {h m : List Addr} {C : Cs} {H : Hp} (R : Rl K h m C H) {p : Addr} {o : HO} (np : H p = none) : Ext h m H (p :: h) m (upd H p o) ∧ Rl K (p :: h) m C (upd H p o) := by
  have nm := R.fresh np
  have hne : ∀ b, b ∈ h ++ m → b ≠ p := fun b hb e => nm (e ▸ hb)
  have hfz : ∀ a x, hz h m H a = some x → hz (p :: h) m (upd H p o) a = some x := fun a x e => by
    obtain ⟨z1, z2⟩ := off_some.mp e
    have hap : a ≠ p := ne_of_none z2 np
    exact off_some.mpr ⟨fun z => (List.mem_cons.mp z).elim hap z1, by rw [upd_ne hap]; exact z2⟩
  refine ⟨⟨List.suffix_cons _ _, List.prefix_refl _, hfz, fun a ha => upd_ne (hne a (List.mem_append_left _ ha))⟩, ⟨List.nodup_cons.mpr ⟨nm, R.nd⟩, R.len, fun n c e => ?_, fun a ha => ?_⟩⟩
  · obtain ⟨a, ha, k⟩ := R.cell n c e
    refine ⟨a, ha, ?_⟩
    cases c with
    | lst ds =>
      obtain ⟨vs, q, r⟩ := k
      exact ⟨vs, by rw [upd_ne (ne_of_none q np)]; exact q, Reps.mono (List.prefix_refl _) hfz ds r⟩
  · rcases List.mem_cons.mp ha with z | z
    · exact ⟨o, by rw [z]; exact upd_same⟩
    · obtain ⟨o', e⟩ := R.hid a z
      exact ⟨o', by rw [upd_ne (ne_of_none e np)]; exact e⟩
/-- writing a hidden object -/
theorem Rl.writeH {K : PySem.W.Frag} {h m : List Addr} {C : Cs} {H : Hp} (R : Rl K h m C H) {p : Addr} {o : HO} (hp : p ∈ h) : (∀ a x, hz h m H a = some x → hz h m (upd H p o) a = some x) ∧ Rl K h m C (upd H p o) := by
  have hfz : ∀ a x, hz h m H a = some x → hz h m (upd H p o) a = some x := fun a x e => by
    obtain ⟨z1, z2⟩ := off_some.mp e
    have hap : a ≠ p := fun z => z1 (z ▸ List.mem_append_left _ hp)
    exact off_some.mpr ⟨z1, by rw [upd_ne hap]; exact z2⟩
  refine ⟨hfz, ⟨R.nd, R.len, fun n c e => ?_, fun a ha => ?_⟩⟩
  · obtain ⟨a, ha, k⟩ := R.cell n c e
    have hap : a ≠ p := fun z => (List.nodup_append.mp R.nd).2.2 p hp a (List.mem_of_getElem? ha) z.symm
    refine ⟨a, ha, ?_⟩
    cases c with
    | lst ds =>
      obtain ⟨vs, q, r⟩ := k
      exact ⟨vs, by rw [upd_ne hap]; exact q, Reps.mono (List.prefix_refl _) hfz ds r⟩
  · obtain ⟨o', e⟩ := R.hid a ha
    by_cases z : a = p
    · exact ⟨o, by rw [z]; exact upd_same⟩
    · exact ⟨o', by rw [upd_ne z]; exact e⟩
/-- a block's text is in order -/
def isFn : ScopeKind → Bool
  | .function => true
  | _ => false
def blkB (N : List Str) (sc scope : Scope) (own : List (Str × Nat)) : Bool :=
  isFn scope.kind && scope.names.all (fun y => scope.names.lookup y.1 == some y.2) && own.all (fun p => N[p.2]? == some p.1) &&
  scope.names.all (fun y => !(y.2 == .free) || (sc.names.lookup y.1 == some .cell || sc.names.lookup y.1 == some .free)) &&
  scope.names.all (fun y => !(y.2 == .local || y.2 == .cell) || ((own.map (·.1)).contains y.1 || !N.contains y.1))
abbrev Bk (X : Cx) (scope : Scope) (s : Shared) (H : Hp) (c : Addr) (cl : List (Str × Addr)) (fp : List Addr) : Cx := X.blk s H scope (compEnvC scope cl c X.env) fp
def dLcB (K0 : Bool) (it : RI) (g : RG) (tt : RT) (te : RE) (own : List Nat) : RE := fun r C Q => it r C fun items G C1 => ∃ I : Nat → List D → Cs → Prop, I 0 [] C1 ∧ (∀ i acc C, i ≤ items.length → I i acc C → G C) ∧
  (∀ i d acc C, items[i]? = some d → I i acc C → g d (wipeD r own) C fun r2 C2 => tt r2 C2 fun b C3 => if b = true then te r2 C3 fun y C4 => I (i + 1) (acc ++ [y]) C4 else I (i + 1) acc C3) ∧
  ∀ acc C, I items.length acc C → if K0 = true then Q (.cel C.length) (C ++ [.lst acc]) else Q (.lst acc) C
/-- the list is not written any more -/
abbrev dLc := dLcB false
/-- the list is a cell -/
abbrev dLcC := dLcB true
section
variable {X : Cx} {B : BS} {elt tg iter : Expr} {ifs : List Expr} {scope : Scope} {own : List (Str × Nat)} {pos : Pos} {it : RI} {g : RG} {tt : RT} {te : RE}
/-- the walk's reading, from the reading by data -/
theorem lc_up (K0 : Bool) {K : PySem.W.Frag} {σ : L2.St} {H : Hp} {Q : VK} {vs : List Nat} (z : upE K B (dLcB K0 it g tt te vs) σ H Q) :
    tLc (upI K B it) (upG K BT vs g) (upT K BT tt) (upE K BT te) vs σ H Q := by
  obtain ⟨h, m, C, r, Q0, S, t, k⟩ := z
  refine ⟨h, m, C, r, _, S, t, fun items G C1 m1 H1 J q hzl x R gd jok => ?_⟩
  intro P hP
  obtain ⟨I, i0, iG, step, stop⟩ := q
  obtain ⟨xp, Rp⟩ := R.push (o := .lst []) hP
  refine ⟨fun i n H' => n = items.length - i ∧ i ≤ items.length ∧ ∃ m' C' acc us, Ext h m1 H1 (P :: h) m' H' ∧ Rl K (P :: h) m' C' H' ∧ H' P = some (.lst us) ∧ Reps K m' (hz (P :: h) m' H') acc us ∧ acc.length ≤ i ∧ I i acc C',
    ⟨_, rfl, Nat.zero_le _, m1, C1, [], [], xp, Rp, upd_same, Reps.nil, Nat.le_refl _, i0⟩, ?_⟩
  rintro i n H' ⟨hn, hi, m', C', acc, us, x', R', eP, ru, hal, q'⟩
  -- seen from before the list was made
  obtain ⟨j1, j2, j3⟩ : (∀ i, i < items.length → J.go i H') ∧ J.stop items.length H' ∧ ∀ i v H2, i < items.length → J.yld i H' v H2 → ∃ d, items[i]? = some d ∧ Ext (P :: h) m' H' (P :: h) m' H2 ∧ Rl K (P :: h) m' C' H2 ∧ Rep K m' (hz (P :: h) m' H2) d v :=
    jok (P :: h) m' C' H' x' R' (iG i acc C' hi q')
  by_cases hlt : i < items.length
  · refine .inr ⟨j1 i hlt, fun H2 => ∃ n', n' < n ∧ n' = items.length - (i + 1) ∧ (i + 1) ≤ items.length ∧ ∃ m' C' acc us, Ext h m1 H1 (P :: h) m' H2 ∧ Rl K (P :: h) m' C' H2 ∧ H2 P = some (.lst us) ∧ Reps K m' (hz (P :: h) m' H2) acc us ∧ acc.length ≤ i + 1 ∧ I (i + 1) acc C', fun H2 ⟨n', a, b⟩ => ⟨n', a, b⟩, fun v H2 y => ?_⟩
    obtain ⟨d, e, x2, R2, rd⟩ := j3 i v H2 hlt y
    have S2 : Sta K BT (P :: h) m' C' (wipeD r vs) (wipe σ vs) H2 := by
      have e0 : En K m1 (hz h m1 H1) r σ := S.en.ext x
      have e1 : En K m' (hz (P :: h) m' H2) r σ := ⟨e0.len, fun i d q => let ⟨v, a, b⟩ := e0.get i d q; ⟨v, a, (x'.trans x2).rep b⟩⟩
      exact ⟨R2, e1.wipe vs, trivial, stBT⟩
    refine ⟨P :: h, m', C', wipeD r vs, d, _, S2, rd, step i d acc C' e q', fun r3 C3 m3 H3 σ3 q3 x3 S3 hw => ⟨hw.trans (wipe_idem σ vs), ?_⟩⟩
    refine ⟨P :: h, m3, C3, r3, _, S3, q3, fun b C4 m4 H4 q4 x4 R4 => ?_⟩
    have S4 := S3.ext x4 R4
    have xx := ((x'.trans x2).trans x3).trans x4
    cases b with
    | false =>
      refine ite_f ?_
      exact ⟨_, by omega, rfl, hlt, m4, C4, acc, us, xx, R4, by rw [x4.hid P List.mem_cons_self, x3.hid P List.mem_cons_self, x2.hid P List.mem_cons_self]; exact eP, x4.reps (x3.reps (x2.reps ru)), by omega, q4⟩
    | true =>
      refine ite_t ?_
      refine ⟨P :: h, m4, C4, r3, _, S4, q4, fun y C5 m5 H5 w q5 x5 R5 r5 => ?_⟩
      have ru5 := x5.reps (x4.reps (x3.reps (x2.reps ru)))
      have eP5 : H5 P = some (.lst us) := by rw [x5.hid P List.mem_cons_self, x4.hid P List.mem_cons_self, x3.hid P List.mem_cons_self, x2.hid P List.mem_cons_self]; exact eP
      obtain ⟨f6, R6⟩ := R5.writeH (p := P) (o := .lst (us ++ [w])) List.mem_cons_self
      have x6 := xx.trans x5
      refine ⟨us, eP5, by rw [← ru5.length]; omega, _, by omega, rfl, hlt, m5, C5, acc ++ [y], us ++ [w], ⟨x6.suf, x6.pre, fun a o e => f6 a o (x6.frz a o e), fun a ha => ?_⟩, R6, upd_same, Reps.mono (List.prefix_refl _) f6 _ (ru5.append (Reps.one r5)), by simp; omega, q5⟩
      rw [upd_ne, x6.hid a ha]
      intro z
      subst z
      have := R'.nd
      exact (List.nodup_cons.mp this).1 (List.mem_append_left _ ha)
  · have e : i = items.length := by omega
    subst e
    have nP : P ∉ h ++ m' := (List.nodup_cons.mp R'.nd).1
    refine .inl ⟨j2, ?_⟩
    have fin := stop acc C' q'
    have hsub : ∀ a o, hz (P :: h) m' H' a = some o → a ≠ P ∧ hz h m' H' a = some o := fun a o e => by
      obtain ⟨z1, z2⟩ := off_some.mp e
      exact ⟨fun z => z1 (z ▸ List.mem_cons_self), off_some.mpr ⟨fun z => z1 (List.mem_cons_of_mem _ z), z2⟩⟩
    have Rh : Rl K h m' C' H' := ⟨(List.nodup_cons.mp R'.nd).2, R'.len, fun n c e => by
      obtain ⟨a, ha, k⟩ := R'.cell n c e
      refine ⟨a, ha, ?_⟩
      cases c with
      | lst ds =>
        obtain ⟨vs, q, r⟩ := k
        exact ⟨vs, q, Reps.mono (List.prefix_refl _) (fun a o e => (hsub a o e).2) ds r⟩, fun a ha => R'.hid a (List.mem_cons_of_mem _ ha)⟩
    have xh : Ext h m1 H1 h m' H' := ⟨List.suffix_refl _, x'.pre, fun a o e => (hsub a o (x'.frz a o e)).2, x'.hid⟩
    cases K0 with
    | false =>
      rw [if_neg (by simp)] at fin
      exact k (.lst acc) C' m' H' (.ref P) fin (x.trans xh) Rh ⟨P, us, rfl, off_some.mpr ⟨nP, eP⟩, Reps.mono (List.prefix_refl _) (fun a o e => (hsub a o e).2) acc ru⟩
    | true =>
      rw [if_pos rfl] at fin
      have ea : h ++ (m' ++ [P]) = (h ++ m') ++ [P] := (List.append_assoc _ _ _).symm
      have hm2 : ∀ a o, hz (P :: h) m' H' a = some o → hz h (m' ++ [P]) H' a = some o := fun a o e => by
        obtain ⟨z0, z⟩ := hsub a o e
        obtain ⟨z1, z2⟩ := off_some.mp z
        refine off_some.mpr ⟨?_, z2⟩
        rw [ea]
        intro hm
        rcases List.mem_append.mp hm with w | w
        · exact z1 w
        · exact z0 (by simpa using w)
      have pre : m' <+: m' ++ [P] := List.prefix_append _ _
      refine k (.cel C'.length) (C' ++ [.lst acc]) (m' ++ [P]) H' (.ref P) fin (x.trans ⟨List.suffix_refl _, x'.pre.trans pre, fun a o e => hm2 a o (x'.frz a o e), x'.hid⟩) ⟨?_, by simp [R'.len], fun n c e => ?_, Rh.hid⟩ ⟨P, rfl, ?_⟩
      · rw [ea]
        exact List.nodup_append.mpr ⟨Rh.nd, by simp, fun a ha b hb e => nP (by have : b = P := by simpa using hb
                                                                               rw [← this, ← e]; exact ha)⟩
      · by_cases hn : n < C'.length
        · rw [List.getElem?_append_left hn] at e
          obtain ⟨a, ha, k⟩ := R'.cell n c e
          refine ⟨a, pre_get pre ha, ?_⟩
          cases c with
          | lst es =>
            obtain ⟨us, q, rr⟩ := k
            exact ⟨us, q, Reps.mono pre hm2 es rr⟩
        · have hn' : n = C'.length := by
            have := (List.getElem?_eq_some_iff.mp e).1
            simp at this
            omega
          subst hn'
          simp at e
          subst e
          exact ⟨P, by rw [← R'.len]; simp, us, eP, Reps.mono pre hm2 acc ru⟩
      · rw [← R'.len]
        simp
theorem blk_of {N : List Str} {sc scope : Scope} {own : List (Str × Nat)} (h : blkB N sc scope own = true) : BlkOk N sc scope own := by
  unfold blkB at h
  simp only [Bool.and_eq_true, List.all_eq_true] at h
  obtain ⟨⟨⟨⟨h1, h2⟩, h3⟩, h4⟩, h5⟩ := h
  refine ⟨?_, fun y hy => by simpa using h2 y hy, fun p hp => by simpa using h3 p hp, fun y hy e => ?_, fun y hy e => ?_⟩
  · cases hk : scope.kind <;> rw [hk] at h1 <;> first | rfl | cases h1
  · have := h4 y hy
    rw [e] at this
    simpa using this
  · have := h5 y hy
    rcases e with e | e <;> rw [e] at this <;> simpa using this
theorem de_lc (K0 : Bool) (hc : X.calm = true) (hN : X.N.Nodup) (ok : BlkOk X.N X.env.scope scope own) (hi : DI X B tg iter it)
    (hb : ∀ (s : Shared) (H : Hp) (c : Addr) (cl : List (Str × Addr)) (fp : List Addr), DG (Bk X scope s H c cl fp) BT (own.map (·.2)) tg g ∧ DTs (Bk X scope s H c cl fp) BT ifs tt ∧ DE (Bk X scope s H c cl fp) BT elt te)
    (hs : ∀ x, foldedSetIterable iter X.env x = pure x := by intro _; rfl) : DE X B (.ListComp elt [⟨tg, iter, ifs, 0⟩] scope pos) (dLcB K0 it g tt te (own.map (·.2))) :=
  ⟨pe_imp (pe_lc (g := upG X.K BT (own.map (·.2)) g) (tt := upT X.K BT tt) (te := upE X.K BT te) hc hN hi.run ok (fun s H c cl fp => (hb s H c cl fp).1.run) (fun s H c cl fp => (hb s H c cl fp).2.1.run) (fun s H c cl fp => (hb s H c cl fp).2.2.run) hs) fun σ H Q z => lc_up K0 z⟩
/-- name = [..], the name a plain local -/
theorem ds_setLc (K0 : Bool) {i : Nat} {y : Str} {py spos : Pos} (hc : X.calm = true) (hN : X.N.Nodup) (ok : BlkOk X.N X.env.scope scope own) (hy : X.N[i]? = some y) (hyl : X.env.scope.names.lookup y = some .local) (hi : DI X B tg iter it)
    (hb : ∀ (s : Shared) (H : Hp) (c : Addr) (cl : List (Str × Addr)) (fp : List Addr), DG (Bk X scope s H c cl fp) BT (own.map (·.2)) tg g ∧ DTs (Bk X scope s H c cl fp) BT ifs tt ∧ DE (Bk X scope s H c cl fp) BT elt te)
    (hsw : swapsWith (.ListComp elt [⟨tg, iter, ifs, 0⟩] scope pos) (some (.Name y py)) spos.line X.env = pure true := by rfl) (hs : ∀ x, foldedSetIterable iter X.env x = pure x := by intro _; rfl) :
    DS X B (.Assign [.Name y py] (.ListComp elt [⟨tg, iter, ifs, 0⟩] scope pos) spos) (sSet i (dLcB K0 it g tt te (own.map (·.2)))) := by
  refine ⟨ps_imp (ps_setLc (g := upG X.K BT (own.map (·.2)) g) (tt := upT X.K BT tt) (te := upE X.K BT te) hc hN hy hyl hsw hi.run ok (fun s H c cl fp => (hb s H c cl fp).1.run) (fun s H c cl fp => (hb s H c cl fp).2.1.run) (fun s H c cl fp => (hb s H c cl fp).2.2.run) hs) fun D σ H ⟨h, m, C, r, D0, S, t, k⟩ => ?_⟩
  refine lc_up (B := B) K0 ⟨h, m, C, r, _, S, t, fun d C1 m1 H1 v1 q1 x1 R1 r1 => ?_⟩
  have S1 := S.ext x1 R1
  exact Fol.nx (Fol.ext k x1) ⟨R1, S1.en.set i r1, S1.base, S1.st⟩ q1
end
end DL
/-! DL7: methods of lists and tuples; list(range), tuple(range). -/
namespace DL
open PySem PySem.Spec PyProof.Rows L2
abbrev OM := D → List D → Cs → QD → Prop
def MetD (K : PySem.W.Frag) (r : V → List V → Hp → VK → Prop) (o : OM) : Prop := ∀ h m C H d ds v vs Q0 Q, Rl K h m C H → Rep K m (hz h m H) d v → Reps K m (hz h m H) ds vs → o d ds C Q0 → Con K h m H Q0 Q → r v vs H Q
def dMl (o : OM) (to : RE) (t : RA) : RE := fun r C Q => to r C fun d C1 => opt (llD C1 d) fun _ => t r C1 fun ds C2 => o d ds C2 Q
def dMl0 (o : OM) (to : RE) : RE := fun r C Q => to r C fun d C1 => opt (llD C1 d) fun _ => o d [] C1 Q
def isTupD : D → Bool
  | .tup _ => true
  | _ => false
def dMt (o : OM) (to : RE) (t : RA) : RE := fun r C Q => to r C fun d C1 => isTupD d = true ∧ t r C1 fun ds C2 => o d ds C2 Q
section
variable {X : Cx} {B : BS} {o e : Expr} {es : List Expr} {to : RE} {t : RA} {name : Str} {apos cpos : Pos} {id : String} {rr : V → List V → Hp → VK → Prop} {om : OM}
theorem d_ml (slot : Slot "list" name id) (hty : typeOf (.builtin id) = pure (.type "method_descriptor")) (hm : MtR X id rr) (od : MetD X.K rr om) (ho : DE X B o to) (ha : DA X B (e :: es) t)
    (hbase : attributeBase o name X.env (eval o X.env) = eval o X.env := by rfl)
    (hfew : ((backTo cpos (starEach (e :: es) X.env)).all (fun x => !x.1) && (backToKw cpos (keywordEach [] X.env)).all (fun x => x.1.isSome)
      && decide ((e :: es).length + ([] : List Keyword).length + (if ([] : List Keyword).isEmpty then 0 else 1) < 30)) = true := by rfl)
    (hline : (apos.endLine == cpos.line) = true := by rfl) (hs : starEach (e :: es) X.env = (false, eval e X.env) :: starEach es X.env := by rfl) (hplain : (backTo cpos (starEach es X.env)).any (·.1) = false := by rfl) :
    DE X B (.Call (.Attribute o name apos) (e :: es) [] cpos) (dMl om to t) := by
  refine ⟨pe_imp (pe_bm PySem.F.plainAttrs_list slot hty hm ho.run ha.run hbase hfew hline hs hplain) fun σ H Q ⟨h, m, C, r, Q0, S, t, k⟩ => ?_⟩
  refine ⟨h, m, C, r, _, S, t, fun d C1 m1 H1 v1 q1 x1 R1 r1 => ?_⟩
  obtain ⟨xs, e1, q⟩ := opt_iff.mp q1
  obtain ⟨a, us, rfl, hq, ru⟩ := ll_ok R1 r1 e1
  refine ⟨.inl ⟨rfl, us, hq⟩, h, m1, C1, r, _, S.ext x1 R1, q, fun ds C2 m2 H2 vs q2 hl x2 R2 r2 => ?_⟩
  exact od h m2 C2 H2 d ds _ vs Q0 Q R2 (x2.rep r1) r2 q2 (Con.ext k (x1.trans x2))
theorem d_ml0 (slot : Slot "list" name id) (hty : typeOf (.builtin id) = pure (.type "method_descriptor")) (hm : MtR X id rr) (od : MetD X.K rr om) (ho : DE X B o to)
    (hbase : attributeBase o name X.env (eval o X.env) = eval o X.env := by rfl) (hline : (apos.endLine == cpos.line) = true := by rfl) :
    DE X B (.Call (.Attribute o name apos) [] [] cpos) (dMl0 om to) := by
  refine ⟨pe_imp (pe_bm0 PySem.F.plainAttrs_list slot hty hm ho.run hbase hline) fun σ H Q ⟨h, m, C, r, Q0, S, t, k⟩ => ?_⟩
  refine ⟨h, m, C, r, _, S, t, fun d C1 m1 H1 v1 q1 x1 R1 r1 => ?_⟩
  obtain ⟨xs, e1, q⟩ := opt_iff.mp q1
  obtain ⟨a, us, rfl, hq, ru⟩ := ll_ok R1 r1 e1
  refine ⟨.inl ⟨rfl, us, hq⟩, ?_⟩
  exact od h m1 C1 H1 d [] _ [] Q0 Q R1 r1 rfl q (Con.ext k x1)
theorem d_mt (slot : Slot "tuple" name id) (hty : typeOf (.builtin id) = pure (.type "method_descriptor")) (hm : MtR X id rr) (od : MetD X.K rr om) (ho : DE X B o to) (ha : DA X B (e :: es) t)
    (hbase : attributeBase o name X.env (eval o X.env) = eval o X.env := by rfl)
    (hfew : ((backTo cpos (starEach (e :: es) X.env)).all (fun x => !x.1) && (backToKw cpos (keywordEach [] X.env)).all (fun x => x.1.isSome)
      && decide ((e :: es).length + ([] : List Keyword).length + (if ([] : List Keyword).isEmpty then 0 else 1) < 30)) = true := by rfl)
    (hline : (apos.endLine == cpos.line) = true := by rfl) (hs : starEach (e :: es) X.env = (false, eval e X.env) :: starEach es X.env := by rfl) (hplain : (backTo cpos (starEach es X.env)).any (·.1) = false := by rfl) :
    DE X B (.Call (.Attribute o name apos) (e :: es) [] cpos) (dMt om to t) := by
  refine ⟨pe_imp (pe_bmT slot hty hm ho.run ha.run hbase hfew hline hs hplain) fun σ H Q ⟨h, m, C, r, Q0, S, t, k⟩ => ?_⟩
  refine ⟨h, m, C, r, _, S, t, fun d C1 m1 H1 v1 q1 x1 R1 r1 => ?_⟩
  obtain ⟨ht, q⟩ := q1
  cases d <;> first | (cases ht; done) | skip
  have r1' := r1
  obtain ⟨a, us, ob, rfl, e, hd, ru⟩ := r1'
  refine ⟨⟨a, ob, us, rfl, hz_sub e, hd⟩, h, m1, C1, r, _, S.ext x1 R1, q, fun ds C2 m2 H2 vs q2 hl x2 R2 r2 => ?_⟩
  exact od h m2 C2 H2 _ ds _ vs Q0 Q R2 (x2.rep r1) r2 q2 (Con.ext k (x1.trans x2))
end
section
variable {K : PySem.W.Frag} {h m : List Addr} {C : Cs} {H : Hp} {v : V} {xs : List D} {n : Nat}
theorem cel_ok (R : Rl K h m C H) (r : Rep K m (hz h m H) (.cel n) v) (e : lsD C (.cel n) = some xs) : ∃ a us, v = .ref a ∧ m[n]? = some a ∧ C[n]? = some (.lst xs) ∧ H a = some (.lst us) ∧ Reps K m (hz h m H) xs us := by
  obtain ⟨a, rfl, ea⟩ := r
  have hc : C[n]? = some (.lst xs) := by
    have e1' : (match C[n]? with | some (.lst xs) => some xs | none => none) = some xs := e
    cases hc : C[n]? with
    | none => rw [hc] at e1'; cases e1'
    | some c => cases c; rw [hc] at e1'; cases e1'; rfl
  obtain ⟨b, hb, us, k1, k2⟩ := R.cell n _ hc
  rw [ea] at hb
  cases hb
  exact ⟨a, us, rfl, ea, hc, k1, k2⟩
theorem Con.wr {Q0 : QD} {Q : VK} {a : Addr} {ys : List D} {us : List V} {d : D} {w : V} (k : Con K h m H Q0 Q) (R : Rl K h m C H) (hc : C[n]? = some (.lst xs)) (ha : m[n]? = some a) (ru : Reps K m (hz h m H) ys us) (rd : Rep K m (hz h m H) d w) (q : Q0 d (C.set n (.lst ys))) : Q w (upd H a (.lst us)) := by
  obtain ⟨x, R'⟩ := R.write hc ha ru
  exact k d _ m _ w q x R' (x.rep rd)
end
def oApp : OM := fun d ds C Q => match d, ds with
  | .cel n, [y] => opt (lsD C (.cel n)) fun xs => xs.length < sizeLine ∧ Q .non (C.set n (.lst (xs ++ [y])))
  | _, _ => False
theorem md_app {K : PySem.W.Frag} : MetD K rAppend oApp := by
  intro h m C H d ds v vs Q0 Q R r rs o k
  match d, ds, o with
  | .cel n, [y], o =>
    obtain ⟨xs, e, hl, q⟩ := opt_iff.mp o
    obtain ⟨a, us, rfl, ha, hc, hH, ru⟩ := cel_ok R r e
    obtain ⟨w, rfl, rw'⟩ := reps1 rs
    exact ⟨a, us, w, rfl, rfl, hH, by rw [← ru.length]; exact hl, k.wr R hc ha (ru.append (.one rw')) (d := .non) rfl q⟩
def oPop : OM := fun d ds C Q => match d, ds with
  | .cel n, [] => opt (lsD C (.cel n)) fun xs => opt xs[xs.length - 1]? fun y => Q y (C.set n (.lst xs.dropLast))
  | _, _ => False
theorem md_pop {K : PySem.W.Frag} : MetD K rPop oPop := by
  intro h m C H d ds v vs Q0 Q R r rs o k
  match d, ds, o with
  | .cel n, [], o =>
    obtain ⟨xs, e, o⟩ := opt_iff.mp o
    obtain ⟨y, ey, q⟩ := opt_iff.mp o
    obtain ⟨a, us, rfl, ha, hc, hH, ru⟩ := cel_ok R r e
    obtain rfl := reps0 rs
    obtain ⟨w, ew, rw'⟩ := ru.get ey
    exact ⟨a, us, w, rfl, rfl, hH, by rw [← ru.length]; exact ew, k.wr R hc ha ru.dropLast rw' q⟩
def oPopAt : OM := fun d ds C Q => match d, ds with
  | .cel n, [.int i] => opt (lsD C (.cel n)) fun xs => (-(2 ^ 63) ≤ i ∧ i < 2 ^ 63) ∧ opt (seqIndex? i xs.length) fun j => opt xs[j]? fun y => Q y (C.set n (.lst (xs.eraseIdx j)))
  | _, _ => False
theorem md_popAt {K : PySem.W.Frag} : MetD K rPopAt oPopAt := by
  intro h m C H d ds v vs Q0 Q R r rs o k
  match d, ds, o with
  | .cel n, [.int i], o =>
    obtain ⟨xs, e, ⟨b1, b2⟩, o⟩ := opt_iff.mp o
    obtain ⟨j, ej, o⟩ := opt_iff.mp o
    obtain ⟨y, ey, q⟩ := opt_iff.mp o
    obtain ⟨a, us, rfl, ha, hc, hH, ru⟩ := cel_ok R r e
    obtain ⟨u, rfl, r1⟩ := reps1 rs
    have e1 : u = .int i := r1
    subst e1
    obtain ⟨w, ew, rw'⟩ := ru.get ey
    exact ⟨a, us, i, j, w, rfl, rfl, hH, b1, b2, by rw [← ru.length]; exact ej, ew, k.wr R hc ha (ru.eraseIdx j) rw' q⟩
abbrev rInsert : V → List V → Hp → VK → Prop := fun x vs H Q => ∃ (l : Addr) (xs : List V) (i : Int) (y : V), x = .ref l ∧ vs = [.int i, y] ∧ H l = some (.lst xs) ∧ xs.length < sizeLine ∧ 0 ≤ i ∧ i < 2 ^ 63 ∧
    Q .non (upd H l (.lst (xs.take i.toNat ++ [y] ++ xs.drop i.toNat)))
def oIns : OM := fun d ds C Q => match d, ds with
  | .cel n, [.int i, y] => opt (lsD C (.cel n)) fun xs => (xs.length < sizeLine ∧ 0 ≤ i ∧ i < 2 ^ 63) ∧ Q .non (C.set n (.lst (xs.take i.toNat ++ [y] ++ xs.drop i.toNat)))
  | _, _ => False
theorem md_ins {K : PySem.W.Frag} : MetD K rInsert oIns := by
  intro h m C H d ds v vs Q0 Q R r rs o k
  match d, ds, o with
  | .cel n, [.int i, y], o =>
    obtain ⟨xs, e, ⟨hl, b1, b2⟩, q⟩ := opt_iff.mp o
    obtain ⟨a, us, rfl, ha, hc, hH, ru⟩ := cel_ok R r e
    obtain ⟨u, w, rfl, r1, rw'⟩ := reps2 rs
    have e1 : u = .int i := r1
    subst e1
    exact ⟨a, us, i, w, rfl, rfl, hH, by rw [← ru.length]; exact hl, b1, b2, k.wr R hc ha (((ru.take _).append (.one rw')).append (ru.drop _)) (d := .non) rfl q⟩
def oCnt : OM := fun d ds C Q => match ds with
  | [.int k] => opt (llD C d) fun xs => opt (intsD xs) fun ns => Q (.int (ns.count k : Nat)) C
  | _ => False
theorem md_cnt {K : PySem.W.Frag} : MetD K (rCntI K) oCnt := by
  intro h m C H d ds v vs Q0 Q R r rs o k
  match ds, o with
  | [.int i], o =>
    obtain ⟨xs, e, o⟩ := opt_iff.mp o
    obtain ⟨ns, e2, q⟩ := opt_iff.mp o
    obtain ⟨a, us, rfl, hq, ru⟩ := ll_ok R r e
    rw [ints_rep ru e2] at hq
    obtain ⟨u, rfl, r1⟩ := reps1 rs
    have e1 : u = .int i := r1
    subst e1
    exact ⟨a, ns, i, rfl, rfl, hq, k.int R q⟩
def oRem : OM := fun d ds C Q => match d, ds with
  | .cel n, [.int i] => opt (lsD C (.cel n)) fun xs => opt (intsD xs) fun ns => i ∈ ns ∧ Q .non (C.set n (.lst ((ns.erase i).map D.int)))
  | _, _ => False
theorem idxOf_spec {ns : List Int} {i : Int} (h : i ∈ ns) : ns[ns.idxOf i]? = some i ∧ ∀ m : Nat, m < ns.idxOf i → ns[m]? ≠ some i := by
  have hl : ns.idxOf i < ns.length := List.idxOf_lt_length_iff.mpr h
  refine ⟨by rw [List.getElem?_eq_getElem hl, List.getElem_idxOf], fun m hm e => ?_⟩
  obtain ⟨h1, h2⟩ := List.getElem?_eq_some_iff.mp e
  have := List.not_of_lt_findIdx (xs := ns) (p := (· == i)) (i := m) (by simpa [List.idxOf] using hm)
  simp [h2] at this
theorem erase_idx {ns : List Int} {i : Int} : ns.eraseIdx (ns.idxOf i) = ns.erase i := by
  rw [List.erase_eq_eraseIdx_of_idxOf rfl]
theorem md_rem {K : PySem.W.Frag} : MetD K rRemI oRem := by
  intro h m C H d ds v vs Q0 Q R r rs o k
  match d, ds, o with
  | .cel n, [.int i], o =>
    obtain ⟨xs, e, o⟩ := opt_iff.mp o
    obtain ⟨ns, e2, hm, q⟩ := opt_iff.mp o
    obtain ⟨a, us, rfl, ha, hc, hH, ru⟩ := cel_ok R r e
    rw [ints_rep ru e2] at hH
    obtain ⟨u, rfl, r1⟩ := reps1 rs
    have e1 : u = .int i := r1
    subst e1
    obtain ⟨i1, i2⟩ := idxOf_spec hm
    refine ⟨a, ns, i, ns.idxOf i, rfl, rfl, hH, i1, i2, ?_⟩
    rw [erase_idx]
    exact k.wr R hc ha Reps.ints (d := .non) rfl q
theorem eqV_ints {i j : Int} : eqV (.int i) (.int j) = (i == j) := by first | rfl | simp [eqV]
def oIdx : OM := fun d ds C Q => match ds with
  | [.int k] => opt (llD C d) fun xs => opt (intsD xs) fun ns => k ∈ ns ∧ Q (.int (ns.idxOf k : Nat)) C
  | _ => False
def oIdxT : OM := fun d ds C Q => match d, ds with
  | .tup xs, [.int k] => opt (intsD xs) fun ns => k ∈ ns ∧ Q (.int (ns.idxOf k : Nat)) C
  | _, _ => False
theorem ints_flat (ns : List Int) : (ns.map V.int).all flatV = true := by
  rw [List.all_map]
  exact List.all_eq_true.mpr fun _ _ => rfl
theorem md_idx {K : PySem.W.Frag} : MetD K (rIndex K) oIdx := by
  intro h m C H d ds v vs Q0 Q R r rs o k
  match ds, o with
  | [.int i], o =>
    obtain ⟨xs, e, o⟩ := opt_iff.mp o
    obtain ⟨ns, e2, hm, q⟩ := opt_iff.mp o
    obtain ⟨a, us, rfl, hq, ru⟩ := ll_ok R r e
    rw [ints_rep ru e2] at hq
    obtain ⟨u, rfl, r1⟩ := reps1 rs
    have e1 : u = .int i := r1
    subst e1
    obtain ⟨i1, i2⟩ := idxOf_spec hm
    refine ⟨a, ns.map V.int, .int i, ns.idxOf i, .int i, rfl, rfl, hq, rfl, ints_flat ns, by rw [List.getElem?_map, i1]; rfl, by rw [eqV_ints]; simp, fun mm z' hmm hz => ?_, k.int R q⟩
    rw [List.getElem?_map] at hz
    cases hg : ns[mm]? with
    | none => rw [hg] at hz; cases hz
    | some w =>
      rw [hg] at hz
      cases hz
      rw [eqV_ints]
      exact beq_eq_false_iff_ne.mpr fun z => i2 mm hmm (by rw [hg, z])
theorem md_idxT {K : PySem.W.Frag} : MetD K (rTIndex K) oIdxT := by
  intro h m C H d ds v vs Q0 Q R r rs o k
  match d, ds, o with
  | .tup xs, [.int i], o =>
    obtain ⟨ns, e2, hm, q⟩ := opt_iff.mp o
    obtain ⟨a, us, ob, rfl, e, hd, ru⟩ := tp_ok R r rfl
    rw [ints_rep ru e2] at e
    obtain ⟨u, rfl, r1⟩ := reps1 rs
    have e1 : u = .int i := r1
    subst e1
    obtain ⟨i1, i2⟩ := idxOf_spec hm
    refine ⟨a, ns.map V.int, .int i, ns.idxOf i, .int i, rfl, rfl, .inl (.inr ⟨ob, e⟩), rfl, ints_flat ns, by rw [List.getElem?_map, i1]; rfl, by rw [eqV_ints]; simp, fun mm z' hmm hz => ?_, k.int R q⟩
    rw [List.getElem?_map] at hz
    cases hg : ns[mm]? with
    | none => rw [hg] at hz; cases hz
    | some w =>
      rw [hg] at hz
      cases hz
      rw [eqV_ints]
      exact beq_eq_false_iff_ne.mpr fun z => i2 mm hmm (by rw [hg, z])
/-- xs.sort(), ints -/
def oSort : OM := fun d ds C Q => match d, ds with
  | .cel n, [] => opt (lsD C (.cel n)) fun xs => opt (intsD xs) fun ns => ∀ ns' : List Int, ns'.Perm ns → ns'.Pairwise (· ≤ ·) → Q .non (C.set n (.lst (ns'.map D.int)))
  | _, _ => False
theorem md_sort {K : PySem.W.Frag} : MetD K rSortI oSort := by
  intro h m C H d ds v vs Q0 Q R r rs o k
  match d, ds, o with
  | .cel n, [], o =>
    obtain ⟨xs, e, o⟩ := opt_iff.mp o
    obtain ⟨ns, e2, q⟩ := opt_iff.mp o
    obtain ⟨a, us, rfl, ha, hc, hH, ru⟩ := cel_ok R r e
    rw [ints_rep ru e2] at hH
    obtain rfl := reps0 rs
    exact ⟨a, ns, rfl, rfl, hH, fun ns' p1 p2 => k.wr R hc ha Reps.ints (d := .non) rfl (q ns' p1 p2)⟩
section
variable {X : Cx} {B : BS} {o e : Expr} {es : List Expr} {to : RE} {t : RA} {apos cpos : Pos}
theorem d_append (ho : DE X B o to) (ha : DA X B [e] t) (hbase : attributeBase o "append" X.env (eval o X.env) = eval o X.env := by rfl) (hline : (apos.endLine == cpos.line) = true := by rfl)
    (hs : starEach [e] X.env = (false, eval e X.env) :: starEach [] X.env := by rfl) (hfew : ((backTo cpos (starEach (e :: []) X.env)).all (fun x => !x.1) && (backToKw cpos (keywordEach [] X.env)).all (fun x => x.1.isSome) && decide ((e :: ([] : List Expr)).length + ([] : List Keyword).length + (if ([] : List Keyword).isEmpty then 0 else 1) < 30)) = true := by rfl) : DE X B (.Call (.Attribute o "append" apos) [e] [] cpos) (dMl oApp to t) :=
  d_ml PySem.F.slot_list_append rfl mt_append md_app ho ha hbase hfew hline hs rfl
theorem d_pop (ho : DE X B o to) (hbase : attributeBase o "pop" X.env (eval o X.env) = eval o X.env := by rfl) (hline : (apos.endLine == cpos.line) = true := by rfl) : DE X B (.Call (.Attribute o "pop" apos) [] [] cpos) (dMl0 oPop to) :=
  d_ml0 PySem.F.slot_list_pop rfl mt_pop md_pop ho hbase hline
theorem d_popAt (ho : DE X B o to) (ha : DA X B [e] t) (hbase : attributeBase o "pop" X.env (eval o X.env) = eval o X.env := by rfl) (hline : (apos.endLine == cpos.line) = true := by rfl)
    (hs : starEach [e] X.env = (false, eval e X.env) :: starEach [] X.env := by rfl) (hfew : ((backTo cpos (starEach (e :: []) X.env)).all (fun x => !x.1) && (backToKw cpos (keywordEach [] X.env)).all (fun x => x.1.isSome) && decide ((e :: ([] : List Expr)).length + ([] : List Keyword).length + (if ([] : List Keyword).isEmpty then 0 else 1) < 30)) = true := by rfl) : DE X B (.Call (.Attribute o "pop" apos) [e] [] cpos) (dMl oPopAt to t) :=
  d_ml PySem.F.slot_list_pop rfl mt_popAt md_popAt ho ha hbase hfew hline hs rfl
theorem d_count (ho : DE X B o to) (ha : DA X B [e] t) (hbase : attributeBase o "count" X.env (eval o X.env) = eval o X.env := by rfl) (hline : (apos.endLine == cpos.line) = true := by rfl)
    (hs : starEach [e] X.env = (false, eval e X.env) :: starEach [] X.env := by rfl) (hfew : ((backTo cpos (starEach (e :: []) X.env)).all (fun x => !x.1) && (backToKw cpos (keywordEach [] X.env)).all (fun x => x.1.isSome) && decide ((e :: ([] : List Expr)).length + ([] : List Keyword).length + (if ([] : List Keyword).isEmpty then 0 else 1) < 30)) = true := by rfl) : DE X B (.Call (.Attribute o "count" apos) [e] [] cpos) (dMl oCnt to t) :=
  d_ml PySem.F.slot_list_count rfl mt_lcount md_cnt ho ha hbase hfew hline hs rfl
theorem d_remove (ho : DE X B o to) (ha : DA X B [e] t) (hbase : attributeBase o "remove" X.env (eval o X.env) = eval o X.env := by rfl) (hline : (apos.endLine == cpos.line) = true := by rfl)
    (hs : starEach [e] X.env = (false, eval e X.env) :: starEach [] X.env := by rfl) (hfew : ((backTo cpos (starEach (e :: []) X.env)).all (fun x => !x.1) && (backToKw cpos (keywordEach [] X.env)).all (fun x => x.1.isSome) && decide ((e :: ([] : List Expr)).length + ([] : List Keyword).length + (if ([] : List Keyword).isEmpty then 0 else 1) < 30)) = true := by rfl) : DE X B (.Call (.Attribute o "remove" apos) [e] [] cpos) (dMl oRem to t) :=
  d_ml PySem.F.slot_list_remove rfl mt_remove md_rem ho ha hbase hfew hline hs rfl
theorem d_index (ho : DE X B o to) (ha : DA X B [e] t) (hbase : attributeBase o "index" X.env (eval o X.env) = eval o X.env := by rfl) (hline : (apos.endLine == cpos.line) = true := by rfl)
    (hs : starEach [e] X.env = (false, eval e X.env) :: starEach [] X.env := by rfl) (hfew : ((backTo cpos (starEach (e :: []) X.env)).all (fun x => !x.1) && (backToKw cpos (keywordEach [] X.env)).all (fun x => x.1.isSome) && decide ((e :: ([] : List Expr)).length + ([] : List Keyword).length + (if ([] : List Keyword).isEmpty then 0 else 1) < 30)) = true := by rfl) : DE X B (.Call (.Attribute o "index" apos) [e] [] cpos) (dMl oIdx to t) :=
  d_ml PySem.F.slot_list_index rfl mt_index md_idx ho ha hbase hfew hline hs rfl
theorem d_indexT (ho : DE X B o to) (ha : DA X B [e] t) (hbase : attributeBase o "index" X.env (eval o X.env) = eval o X.env := by rfl) (hline : (apos.endLine == cpos.line) = true := by rfl)
    (hs : starEach [e] X.env = (false, eval e X.env) :: starEach [] X.env := by rfl) (hfew : ((backTo cpos (starEach (e :: []) X.env)).all (fun x => !x.1) && (backToKw cpos (keywordEach [] X.env)).all (fun x => x.1.isSome) && decide ((e :: ([] : List Expr)).length + ([] : List Keyword).length + (if ([] : List Keyword).isEmpty then 0 else 1) < 30)) = true := by rfl) : DE X B (.Call (.Attribute o "index" apos) [e] [] cpos) (dMt oIdxT to t) :=
  d_mt PySem.F.slot_tuple_index rfl mt_tindex md_idxT ho ha hbase hfew hline hs rfl
theorem d_sort (ho : DE X B o to) (hbase : attributeBase o "sort" X.env (eval o X.env) = eval o X.env := by rfl) (hline : (apos.endLine == cpos.line) = true := by rfl) : DE X B (.Call (.Attribute o "sort" apos) [] [] cpos) (dMl0 oSort to) :=
  d_ml0 PySem.F.slot_list_sort rfl mt_sortI md_sort ho hbase hline
theorem d_insert {e2 : Expr} (ho : DE X B o to) (ha : DA X B [e, e2] t) (hbase : attributeBase o "insert" X.env (eval o X.env) = eval o X.env := by rfl) (hline : (apos.endLine == cpos.line) = true := by rfl)
    (hs : starEach [e, e2] X.env = (false, eval e X.env) :: starEach [e2] X.env := by rfl) (hpl : (backTo cpos (starEach [e2] X.env)).any (·.1) = false := by rfl) (hfew : ((backTo cpos (starEach (e :: [e2]) X.env)).all (fun x => !x.1) && (backToKw cpos (keywordEach [] X.env)).all (fun x => x.1.isSome) && decide ((e :: [e2]).length + ([] : List Keyword).length + (if ([] : List Keyword).isEmpty then 0 else 1) < 30)) = true := by rfl) : DE X B (.Call (.Attribute o "insert" apos) [e, e2] [] cpos) (dMl oIns to t) :=
  d_ml PySem.F.slot_list_insert rfl mt_insert md_ins ho ha hbase hfew hline hs hpl
end

/-! ### list(range(..)), tuple(range(..)) -/
abbrev RR := Ev → Cs → (Int → Int → Cs → Prop) → Prop
def upR (K : PySem.W.Frag) (B : BS) (t : RR) : L2.St → Hp → (Int → Int → Hp → Prop) → Prop := fun σ H Q => ∃ h m C r Q0, Sta K B h m C r σ H ∧ t r C Q0 ∧
  ∀ i j C' m' H', Q0 i j C' → Ext h m H h m' H' → Rl K h m' C' H' → Q i j H'
structure DR (X : Cx) (B : BS) (e : Expr) (t : RR) : Prop where
  run : PRg X e (upR X.K B t)
theorem prg_imp {X : Cx} {e : Expr} {t t' : L2.St → Hp → (Int → Int → Hp → Prop) → Prop} (p : PRg X e t) (i : ∀ σ H Q, t' σ H Q → t σ H Q) : PRg X e t' := fun pins s σ H Q I h => p pins s σ H Q I (i σ H Q h)
def rR1 (ta : RE) : RR := fun r C Q => ta r C fun d C1 => match d with
  | .int j => Q 0 j C1
  | _ => False
def rR2 (ta tb : RE) : RR := fun r C Q => ta r C fun d C1 => tb r C1 fun e C2 => match d, e with
  | .int i, .int j => Q i j C2
  | _, _ => False
section
variable {X : Cx} {B : BS} {e e2 : Expr} {te te2 : RE} {tr : RR} {p pos : Pos}
theorem dr_1 (hm : X.mg "range" = none) (he : DE X B e te) (hg : Gl X "range" := by rfl) (hs : starEach [e] X.env = (false, eval e X.env) :: starEach [] X.env := by rfl) : DR X B (.Call (.Name "range" p) [e] [] pos) (rR1 te) := by
  refine ⟨prg_imp (prg_1 hg hm he.run hs) fun σ H R ⟨h, m, C, r, Q0, S, t, k⟩ => ⟨h, m, C, r, _, S, t, fun d C1 m1 H1 v1 q1 x1 R1 r1 => ?_⟩⟩
  cases d <;> first | exact q1.elim | skip
  exact ⟨_, r1, k _ _ C1 m1 H1 q1 x1 R1⟩
theorem dr_2 (hm : X.mg "range" = none) (he : DE X B e te) (he2 : DE X B e2 te2) (hg : Gl X "range" := by rfl) (hs : starEach [e, e2] X.env = (false, eval e X.env) :: starEach [e2] X.env := by rfl) (hs2 : starEach [e2] X.env = (false, eval e2 X.env) :: starEach [] X.env := by rfl)
    (hpl : (backTo pos (starEach [e2] X.env)).any (·.1) = false := by rfl) : DR X B (.Call (.Name "range" p) [e, e2] [] pos) (rR2 te te2) := by
  refine ⟨prg_imp (prg_2 hg hm he.run he2.run hs hs2 hpl) fun σ H R ⟨h, m, C, r, Q0, S, t, k⟩ => ⟨h, m, C, r, _, S, t, fun d C1 m1 H1 v1 q1 x1 R1 r1 => ?_⟩⟩
  refine ⟨h, m1, C1, r, _, S.ext x1 R1, q1, fun d2 C2 m2 H2 v2 q2 x2 R2 r2 => ?_⟩
  cases d <;> first | exact q2.elim | skip
  cases d2 <;> first | exact q2.elim | skip
  exact ⟨_, _, r1, r2, k _ _ C2 m2 H2 q2 (x1.trans x2) R2⟩
theorem rgV_eq (a b : Int) : rgV a b = ((List.range (b - a).toNat).map fun (i : Nat) => (a + (i : Int))).map V.int := by
  rw [List.map_map]; rfl
theorem rngD_eq (a : Int) (n : Nat) : rngD a n = ((List.range n).map fun (i : Nat) => (a + (i : Int))).map D.int := by
  unfold rngD
  rw [List.map_map]; rfl
theorem rng_reps {K : PySem.W.Frag} {m : List Addr} {H : Hp} {a b : Int} : Reps K m H (rngD a (b - a).toNat) (rgV a b) := by
  rw [rgV_eq, rngD_eq]
  exact Reps.ints
def rgOk (i j : Int) : Prop := -(2 ^ 24) ≤ i ∧ i ≤ 2 ^ 24 ∧ -(2 ^ 24) ≤ j ∧ j ≤ 2 ^ 24 ∧ j - i ≤ 2 ^ 24
theorem rgOk_ok {i j : Int} (h : rgOk i j) : RgOk i j := by
  obtain ⟨a, b, c, d, e⟩ := h
  have big : (2 : Int) ^ 24 < 2 ^ 62 := by decide
  have b2 : (2 : Int) ^ 24 = 16777216 := by decide
  have b3 : (2 : Nat) ^ 24 = 16777216 := by decide
  exact ⟨by omega, by omega, by omega, by omega, by omega⟩
def dLstR (C0 : Bool) (tr : RR) : RE := fun r C Q => tr r C fun i j C1 => rgOk i j ∧ if C0 = true then Q (.cel C1.length) (C1 ++ [.lst (rngD i (j - i).toNat)]) else Q (.lst (rngD i (j - i).toNat)) C1
theorem d_listR (C0 : Bool) (hc : X.calm = true) (hm : X.mg "list" = none) (he : DR X B e tr) (hg : Gl X "list" := by rfl) (hs : starEach [e] X.env = (false, eval e X.env) :: starEach [] X.env := by rfl) : DE X B (.Call (.Name "list" p) [e] [] pos) (dLstR C0 tr) := by
  refine ⟨pe_imp (pe_listRg hc hg hm he.run hs) fun σ H Q ⟨h, m, C, r, Q0, S, t, k⟩ => ⟨h, m, C, r, _, S, t, fun i j C1 m1 H1 q1 x1 R1 => ?_⟩⟩
  obtain ⟨ok, q⟩ := q1
  refine ⟨rgOk_ok ok, fun p np => ?_⟩
  cases C0 with
  | true => exact Con.cel (Con.ext k x1) R1 rng_reps q np
  | false => exact Con.lst (Con.ext k x1) R1 rng_reps q np
def dTupR (tr : RR) : RE := fun r C Q => tr r C fun i j C1 => rgOk i j ∧ Q (.tup (rngD i (j - i).toNat)) C1
def tTupRgF (te : L2.St → Hp → (Int → Int → Hp → Prop) → Prop) : TE := fun σ H Q => te σ H fun a b H1 => RgOk a b ∧ ∀ q o, H1 q = none → o.dict = none → Q (.ref q) (upd H1 q (.frz o (.tup (rgV a b))))
theorem pe_tupRgF {te : L2.St → Hp → (Int → Int → Hp → Prop) → Prop} (hc : X.calm = true) (hg : Gl X "tuple") (hm : X.mg "tuple" = none) (he : PRg X e te) (na : starEach [e] X.env = (false, eval e X.env) :: starEach [] X.env := by rfl) : PE X (.Call (.Name "tuple" p) [e] [] pos) (tTupRgF te) := by
  refine ⟨fun pins s σ H Q I h => ?_⟩
  refine Call_ (ld_blt I hg hm boot_tuple (PyProof.Rows.callWith_type1 (args_cons (thn (he pins s σ H _ I h) fun x s1 ⟨r, a, b, t, u, v, H1, ex, hr, I1, ok, q⟩ => args_nil ?_) na) na))
  subst ex
  obtain ⟨b1, b2, b3, b4, b5⟩ := ok
  refine call_tuple_range (n := (b - a).toNat) (I1.ok.hd hc) hr (small_one b1 b2 b3 b4) (rangeSize_nat a b) b5 fun h' tk acc hk hi => ?_
  have I2 : L2.Inv X pins σ H1 { s1 with heap := h', toks := tk } := I1.kept hk
  have hv := vals_rg hi
  have := Inv.tupF (s := { s1 with heap := h', toks := tk }) (t' := tk) I2 (by rw [rgV_length, sizeLine_eq]; omega) hv
  rw [Array.toArray_toList] at this
  exact ⟨.ref h'.objs.size, _, this, rfl, q _ _ (I2.hok.fresh (Nat.le_refl _)) rfl⟩
theorem d_tupR (hc : X.calm = true) (hm : X.mg "tuple" = none) (he : DR X B e tr) (hg : Gl X "tuple" := by rfl) (hs : starEach [e] X.env = (false, eval e X.env) :: starEach [] X.env := by rfl) : DE X B (.Call (.Name "tuple" p) [e] [] pos) (dTupR tr) := by
  refine ⟨pe_imp (pe_tupRgF hc hg hm he.run hs) fun σ H Q ⟨h, m, C, r, Q0, S, t, k⟩ => ⟨h, m, C, r, _, S, t, fun i j C1 m1 H1 q1 x1 R1 => ?_⟩⟩
  obtain ⟨ok, q⟩ := q1
  exact ⟨rgOk_ok ok, fun p o np hd => Con.tup (Con.ext k x1) R1 rng_reps q np hd⟩
end
end DL
/-! DL8: defs and their calls. -/
namespace DL
open PySem PySem.Spec PyProof.Rows L2
abbrev SpD := List D → Cs → QD → XQ → Prop
def spUp (K : PySem.W.Frag) (n : Nat) (sp : SpD) : Sp := fun vs H Q E => ∃ h m C ds Q0 E0, Rl K h m C H ∧ Reps K m (hz h m H) ds vs ∧ ds.length = n ∧ sp ds C Q0 E0 ∧ Con K h m H Q0 Q ∧
  ∀ cls od C' m' H' dx, E0 cls od C' → Ext h m H h m' H' → Rl K h m' C' H' → XRep K m' (hz h m' H') dx od → E cls dx H'
theorem spUp_len {K : PySem.W.Frag} {n : Nat} {sp : SpD} {vs : List V} {H : Hp} {Q : VK} {E : XK} (h : spUp K n sp vs H Q E) : vs.length = n := by
  obtain ⟨h, m, C, ds, Q0, E0, R, r, l, _⟩ := h
  rw [← r.length, l]

/-! ### cells that stay -/
mutual
/-- no cell from k on -/
def lo (k : Nat) : D → Bool
  | .cel n => decide (n < k)
  | .tup xs => los k xs
  | .lst xs => los k xs
  | .scr xs => los k xs
  | _ => true
def los (k : Nat) : List D → Bool
  | [] => true
  | x :: xs => lo k x && los k xs
end
def loC (k : Nat) : Cl → Bool
  | .lst xs => los k xs
def loCs (k : Nat) (C : Cs) : Bool := C.all (loC k)
mutual
/-- the cells of sel stay, others are read alone from now on -/
inductive Fz (C : Cs) (sel : List Nat) : D → D → Prop
  | non : Fz C sel .non .non
  | bl {b} : Fz C sel (.bl b) (.bl b)
  | int {b} : Fz C sel (.int b) (.int b)
  | str {b} : Fz C sel (.str b) (.str b)
  | obj {b} : Fz C sel (.obj b) (.obj b)
  | tup {xs ys} : Fzs C sel xs ys → Fz C sel (.tup xs) (.tup ys)
  | lst {xs ys} : Fzs C sel xs ys → Fz C sel (.lst xs) (.lst ys)
  | scr {xs ys} : Fzs C sel xs ys → Fz C sel (.scr xs) (.scr ys)
  | keep {j n : Nat} : sel[j]? = some n → Fz C sel (.cel n) (.cel j)
  | gone {n : Nat} {xs ys} : n ∉ sel → C[n]? = some (.lst xs) → Fzs C sel xs ys → Fz C sel (.cel n) (.lst ys)
inductive Fzs (C : Cs) (sel : List Nat) : List D → List D → Prop
  | nil : Fzs C sel [] []
  | cons {x y xs ys} : Fz C sel x y → Fzs C sel xs ys → Fzs C sel (x :: xs) (y :: ys)
end
/-- behind a call: C1 the cells at its end, k: how many there were, ks: the new ones that stay -/
def fin (C : Cs) (d : D) (C1 : Cs) (Q : QD) : Prop := ∃ (ks : List Nat) (d' : D) (C2 : Cs), ks.Nodup ∧ (∀ n ∈ ks, C.length ≤ n ∧ n < C1.length) ∧ C2.length = C.length + ks.length ∧ C.length ≤ C1.length ∧
  (∀ j n xs, (List.range C.length ++ ks)[j]? = some n → C1[n]? = some (.lst xs) → (j < C.length ∧ C[j]? = some (.lst xs) ∧ C2[j]? = some (.lst xs)) ∨ ∃ ys, C2[j]? = some (.lst ys) ∧ Fzs C1 (List.range C.length ++ ks) xs ys) ∧
  Fz C1 (List.range C.length ++ ks) d d' ∧ Q d' C2
mutual
theorem fz_lo {C : Cs} {sel : List Nat} {k : Nat} (hs : ∀ n, n < k → sel[n]? = some n) : ∀ d : D, lo k d = true → Fz C sel d d
  | .non, _ => .non
  | .bl _, _ => .bl
  | .int _, _ => .int
  | .str _, _ => .str
  | .obj _, _ => .obj
  | .tup xs, h => .tup (fzs_lo hs xs (by simpa [lo] using h))
  | .lst xs, h => .lst (fzs_lo hs xs (by simpa [lo] using h))
  | .scr xs, h => .scr (fzs_lo hs xs (by simpa [lo] using h))
  | .cel n, h => .keep (hs n (by simpa [lo] using h))
theorem fzs_lo {C : Cs} {sel : List Nat} {k : Nat} (hs : ∀ n, n < k → sel[n]? = some n) : ∀ ds : List D, los k ds = true → Fzs C sel ds ds
  | [], _ => .nil
  | d :: ds, h => by
    have h' : lo k d = true ∧ los k ds = true := by simpa [los] using h
    exact .cons (fz_lo hs d h'.1) (fzs_lo hs ds h'.2)
end
theorem sel_get {k : Nat} {ks : List Nat} : ∀ n, n < k → (List.range k ++ ks)[n]? = some n := fun n h => by
  rw [List.getElem?_append_left (by simpa using h)]
  simp [h]
theorem lsc_get {C : Cs} {n : Nat} (h : n < C.length) : ∃ xs, C[n]? = some (.lst xs) := by
  cases e : C[n] with
  | lst xs => exact ⟨xs, by rw [List.getElem?_eq_getElem h, e]⟩
/-- nothing was written but new cells, all dropped -/
theorem fin_same {C : Cs} {d : D} {more : Cs} {Q : QD} (h : lo C.length d = true) (q : Q d C) : fin C d (C ++ more) Q := by
  refine ⟨[], d, C, .nil, fun n hn => (nomatch hn), by simp, by simp, fun j n xs e1 e2 => ?_, fz_lo sel_get d h, q⟩
  rw [List.append_nil] at e1
  have hj : j < C.length := by simpa using (List.getElem?_eq_some_iff.mp e1).1
  have e : j = n := by
    have := (List.getElem?_eq_some_iff.mp e1).2
    simpa using this
  subst e
  rw [List.getElem?_append_left hj] at e2
  exact .inl ⟨hj, e2, e2⟩
theorem fin_same0 {C : Cs} {d : D} {Q : QD} (h : lo C.length d = true) (q : Q d C) : fin C d C Q := by
  have := fin_same (more := []) h q
  rwa [List.append_nil] at this
/-- a new cell is given back, read alone from now on -/
theorem fin_lst {C : Cs} {more : Cs} {xs : List D} {n : Nat} {Q : QD} (hn : C.length ≤ n) (e : (C ++ more)[n]? = some (.lst xs)) (h : los C.length xs = true) (q : Q (.lst xs) C) : fin C (.cel n) (C ++ more) Q := by
  refine ⟨[], .lst xs, C, .nil, fun n hn => (nomatch hn), by simp, by simp, fun j n xs e1 e2 => ?_, .gone ?_ e (fzs_lo sel_get xs h), q⟩
  · rw [List.append_nil] at e1
    have hj : j < C.length := by simpa using (List.getElem?_eq_some_iff.mp e1).1
    have e : j = n := by
      have := (List.getElem?_eq_some_iff.mp e1).2
      simpa using this
    subst e
    rw [List.getElem?_append_left hj] at e2
    exact .inl ⟨hj, e2, e2⟩
  · simp; omega
/-- a new cell is given back and stays one -/
theorem fin_keep {C : Cs} {more : Cs} {xs : List D} {n : Nat} {Q : QD} (hn : C.length ≤ n) (e : (C ++ more)[n]? = some (.lst xs)) (h : los C.length xs = true) (q : Q (.cel C.length) (C ++ [.lst xs])) : fin C (.cel n) (C ++ more) Q := by
  refine ⟨[n], .cel C.length, C ++ [.lst xs], by simp, fun k hk => ?_, by simp, by simp, fun j k ys e1 e2 => ?_, .keep (by simp), q⟩
  · have : k = n := by simpa using hk
    subst this
    exact ⟨hn, (List.getElem?_eq_some_iff.mp e).1⟩
  · by_cases hj : j < C.length
    · rw [sel_get j hj] at e1
      cases e1
      rw [List.getElem?_append_left hj] at e2
      exact .inl ⟨hj, e2, by rw [List.getElem?_append_left hj]; exact e2⟩
    · have : j = C.length ∧ k = n := by
        rw [List.getElem?_append_right (by simpa using hj)] at e1
        simp at e1
        cases hq : j - C.length with
        | zero => rw [hq] at e1; simp at e1; exact ⟨by omega, e1.symm⟩
        | succ i => rw [hq] at e1; simp at e1
      obtain ⟨rfl, rfl⟩ := this
      rw [e] at e2
      cases e2
      exact .inr ⟨xs, by simp, fzs_lo sel_get xs h⟩
/-- old cells were written, all new ones are dropped -/
theorem fin_wr {C C1 : Cs} {d : D} {Q : QD} (hl : C.length ≤ C1.length) (h : lo C.length d = true) (hc : loCs C.length (C1.take C.length) = true) (q : Q d (C1.take C.length)) : fin C d C1 Q := by
  refine ⟨[], d, C1.take C.length, .nil, fun n hn => (nomatch hn), by simp; omega, hl, fun j n xs e1 e2 => ?_, fz_lo sel_get d h, q⟩
  rw [List.append_nil] at e1
  have hj : j < C.length := by simpa using (List.getElem?_eq_some_iff.mp e1).1
  have e : j = n := by
    have := (List.getElem?_eq_some_iff.mp e1).2
    simpa using this
  subst e
  have e3 : (C1.take C.length)[j]? = some (.lst xs) := by rw [List.getElem?_take, if_pos hj]; exact e2
  have := List.all_eq_true.mp hc _ (List.mem_of_getElem? e3)
  exact .inr ⟨xs, e3, fzs_lo sel_get xs this⟩

/-! ### the rule for fin -/
section
variable {K : PySem.W.Frag} {h m m' : List Addr} {C C' : Cs} {H H' : Hp}
mutual
theorem rep_lo {m : List Addr} {H0 : Hp} : ∀ (d : D) {v : V}, Rep K m H0 d v → lo m.length d = true
  | .non, _, _ => rfl
  | .bl _, _, _ => rfl
  | .int _, _, _ => rfl
  | .str _, _, _ => rfl
  | .obj _, _, _ => rfl
  | .tup ds, _, ⟨a, vs, o, e, s, z, r⟩ => by simpa [lo] using reps_lo ds r
  | .lst ds, _, ⟨a, vs, e, s, r⟩ => by simpa [lo] using reps_lo ds r
  | .scr ds, _, ⟨a, vs, e, s, r⟩ => by simpa [lo] using reps_lo ds r
  | .cel n, _, ⟨a, e, g⟩ => by simpa [lo] using (List.getElem?_eq_some_iff.mp g).1
theorem reps_lo {m : List Addr} {H0 : Hp} : ∀ (ds : List D) {vs : List V}, Reps K m H0 ds vs → los m.length ds = true
  | [], _, _ => rfl
  | d :: ds, _, ⟨v, vr, e, r, q⟩ => by
    have h1 := rep_lo d r
    have h2 := reps_lo ds q
    simp [los, h1, h2]
end
theorem Rl.lo (R : Rl K h m C H) : loCs C.length C = true := by
  refine List.all_eq_true.mpr fun c hc => ?_
  obtain ⟨n, hn, e⟩ := List.mem_iff_getElem.mp hc
  obtain ⟨a, _, k⟩ := R.cell n c (by rw [List.getElem?_eq_getElem hn, e])
  cases c with
  | lst xs =>
    obtain ⟨vs, _, r⟩ := k
    rw [← R.len]
    exact reps_lo xs r
mutual
theorem rep_fz {sel : List Nat} {m2 : List Addr} {H2 : Hp} (R : Rl K h m' C' H') (hm : ∀ (j n : Nat) a, sel[j]? = some n → m'[n]? = some a → m2[j]? = some a) (hk : ∀ a o, hz h m' H' a = some o → H2 a = some o)
    (hg : ∀ (n : Nat) a, n ∉ sel → m'[n]? = some a → ∀ o, H' a = some o → H2 a = some o) : ∀ {d e : D} {v : V}, Fz C' sel d e → Rep K m' (hz h m' H') d v → Rep K m2 H2 e v
  | _, _, _, .non, r => r
  | _, _, _, .bl, r => r
  | _, _, _, .int, r => r
  | _, _, _, .str, r => r
  | _, _, _, .obj, r => r
  | _, _, _, .tup f, ⟨a, vs, o, e, s, z, r⟩ => ⟨a, vs, o, e, hk _ _ s, z, reps_fz R hm hk hg f r⟩
  | _, _, _, .lst f, ⟨a, vs, e, s, r⟩ => ⟨a, vs, e, hk _ _ s, reps_fz R hm hk hg f r⟩
  | _, _, _, .scr f, ⟨a, vs, e, s, r⟩ => ⟨a, vs, e, SqL.mono hk s, reps_fz R hm hk hg f r⟩
  | _, _, _, .keep e, ⟨a, e1, g⟩ => ⟨a, e1, hm _ _ a e g⟩
  | _, _, _, @Fz.gone _ _ n xs ys hn e f, ⟨a, e1, g⟩ => by
    obtain ⟨b, hb, k⟩ := R.cell n _ e
    rw [g] at hb
    cases hb
    obtain ⟨us, q1, q2⟩ := k
    exact ⟨a, us, e1, hg n a hn g _ q1, reps_fz R hm hk hg f q2⟩
theorem reps_fz {sel : List Nat} {m2 : List Addr} {H2 : Hp} (R : Rl K h m' C' H') (hm : ∀ (j n : Nat) a, sel[j]? = some n → m'[n]? = some a → m2[j]? = some a) (hk : ∀ a o, hz h m' H' a = some o → H2 a = some o)
    (hg : ∀ (n : Nat) a, n ∉ sel → m'[n]? = some a → ∀ o, H' a = some o → H2 a = some o) : ∀ {ds es : List D} {vs : List V}, Fzs C' sel ds es → Reps K m' (hz h m' H') ds vs → Reps K m2 H2 es vs
  | _, _, _, .nil, r => r
  | _, _, _, .cons f g, ⟨v, vr, e, r, q⟩ => ⟨v, vr, e, rep_fz R hm hk hg f r, reps_fz R hm hk hg g q⟩
end
theorem sel_lt {C : Cs} {C1 : Cs} {ks : List Nat} (hks : ∀ n ∈ ks, C.length ≤ n ∧ n < C1.length) (hl : C.length ≤ C1.length) : ∀ n ∈ List.range C.length ++ ks, n < C1.length := fun n hn => by
  rcases List.mem_append.mp hn with z | z
  · have := List.mem_range.mp z
    omega
  · exact (hks n z).2
/-- a call's end -/
theorem fin_core {d : D} {v : V} {Q0 : QD} (R0 : Rl K h m C H) (x : Ext h m H h m' H') (R : Rl K h m' C' H') (r : Rep K m' (hz h m' H') d v) (f : fin C d C' Q0) :
    ∃ d' C2 m2, Q0 d' C2 ∧ Ext h m H h m2 H' ∧ Rl K h m2 C2 H' ∧ Rep K m2 (hz h m2 H') d' v ∧ ∀ a o, hz h m' H' a = some o → hz h m2 H' a = some o := by
  obtain ⟨ks, d', C2, nd, hks, l2, hl, hc, fd, q⟩ := f
  have hsl := sel_lt hks hl
  let sel := List.range C.length ++ ks
  have hselnd : sel.Nodup := List.nodup_append.mpr ⟨List.nodup_range, nd, fun a ha b hb e => by
    have h1 := List.mem_range.mp ha
    have h2 := (hks b hb).1
    omega⟩
  let m2 : List Addr := sel.map fun n => m'.getD n 0
  have hsm : ∀ n ∈ sel, ∃ a, m'[n]? = some a ∧ m'.getD n 0 = a := fun n hn => by
    have : n < m'.length := by rw [R.len]; exact hsl n hn
    exact ⟨m'[n], List.getElem?_eq_getElem this, by simp [List.getD_eq_getElem?_getD, this]⟩
  have hm : ∀ (j n : Nat) a, sel[j]? = some n → m'[n]? = some a → m2[j]? = some a := fun j n a e1 e2 => by
    show (sel.map _)[j]? = _
    rw [List.getElem?_map, e1]
    simp [List.getD_eq_getElem?_getD, e2]
  have hm' : ∀ (j : Nat) a, m2[j]? = some a → ∃ n : Nat, sel[j]? = some n ∧ m'[n]? = some a := fun j a e => by
    have e : (sel.map fun n => m'.getD n 0)[j]? = some a := e
    rw [List.getElem?_map] at e
    cases hs : sel[j]? with
    | none => rw [hs] at e; cases e
    | some n =>
      rw [hs] at e
      obtain ⟨b, h1, h2⟩ := hsm n (List.mem_of_getElem? hs)
      refine ⟨n, rfl, ?_⟩
      have : m'.getD n 0 = a := by simpa using e
      rw [h1, ← h2, this]
  have sub : ∀ a ∈ m2, a ∈ m' := fun a ha => by
    obtain ⟨j, hj, e⟩ := List.mem_iff_getElem.mp ha
    obtain ⟨n, _, e2⟩ := hm' j a (by rw [List.getElem?_eq_getElem hj, e])
    exact List.mem_of_getElem? e2
  have mnd := (List.nodup_append.mp R.nd).2.1
  have m2nd : m2.Nodup := by
    refine List.pairwise_iff_getElem.mpr fun i j hi hj hij ee => ?_
    obtain ⟨n1, a1, a2⟩ := hm' i _ (List.getElem?_eq_getElem hi)
    obtain ⟨n2, b1, b2⟩ := hm' j _ (List.getElem?_eq_getElem hj)
    rw [ee] at a2
    have := nd_ix mnd a2 b2
    subst this
    have := nd_ix hselnd a1 b1
    omega
  have pre : m <+: m2 := by
    have hml : m.length = C.length := R0.len
    refine List.prefix_iff_getElem?.mpr fun i hi => ?_
    have e1 : m'[i]? = some m[i] := pre_get x.pre (List.getElem?_eq_getElem hi)
    exact hm i i _ (sel_get i (by omega)) e1
  have hk : ∀ a o, hz h m' H' a = some o → hz h m2 H' a = some o := fun a o e => by
    obtain ⟨z1, z2⟩ := off_some.mp e
    refine off_some.mpr ⟨fun z => ?_, z2⟩
    rcases List.mem_append.mp z with w | w
    · exact z1 (List.mem_append_left _ w)
    · exact z1 (List.mem_append_right _ (sub a w))
  have hg : ∀ (n : Nat) a, n ∉ sel → m'[n]? = some a → ∀ o, H' a = some o → hz h m2 H' a = some o := fun n a hn e o eo => by
    refine off_some.mpr ⟨fun z => ?_, eo⟩
    rcases List.mem_append.mp z with w | w
    · exact (List.nodup_append.mp R.nd).2.2 a w a (List.mem_of_getElem? e) rfl
    · obtain ⟨j, hj, e2⟩ := List.mem_iff_getElem.mp w
      obtain ⟨n2, e3, e4⟩ := hm' j a (by rw [List.getElem?_eq_getElem hj, e2])
      have := nd_ix mnd e e4
      subst this
      exact hn (List.mem_of_getElem? e3)
  have x2 : Ext h m H h m2 H' := ⟨List.suffix_refl _, pre, fun a o e => hk a o (x.frz a o e), x.hid⟩
  refine ⟨d', C2, m2, q, x2, ⟨?_, by show (sel.map _).length = _; rw [List.length_map, l2]; simp [sel], fun j c e => ?_, R.hid⟩, rep_fz R hm hk hg fd r, hk⟩
  · refine List.nodup_append.mpr ⟨(List.nodup_append.mp R.nd).1, m2nd, fun a ha b hb e => (List.nodup_append.mp R.nd).2.2 a ha b (sub b hb) e⟩
  · have hj : j < sel.length := by
      have := (List.getElem?_eq_some_iff.mp e).1
      show j < (List.range C.length ++ ks).length
      simp
      omega
    have e1 : sel[j]? = some sel[j] := List.getElem?_eq_getElem hj
    have hlt := hsl sel[j] (List.getElem_mem hj)
    obtain ⟨xs, ex⟩ := lsc_get hlt
    obtain ⟨a, ha, us, q1, q2⟩ := R.cell _ _ ex
    refine ⟨a, hm j _ a e1 ha, ?_⟩
    rcases hc j _ xs e1 ex with ⟨hjc, ec, e2⟩ | ⟨ys, e2, fz⟩
    · rw [e2] at e
      cases e
      obtain ⟨b, hb, ws, w1, w2⟩ := R0.cell j _ ec
      have e5 : sel[j]? = some j := sel_get j hjc
      rw [e1] at e5
      have e6 : m'[j]? = some a := by
        have : sel[j] = j := by simpa using e5
        rw [this] at ha
        exact ha
      have e7 : m'[j]? = some b := pre_get x.pre hb
      rw [e6] at e7
      cases e7
      -- the same cell: its items read as they did at the end
      refine ⟨us, q1, ?_⟩
      have hlo : los C.length xs = true := by
        have := reps_lo xs w2
        rw [R0.len] at this
        exact this
      exact reps_fz R hm hk hg (fzs_lo sel_get xs hlo) q2
    · rw [e2] at e
      cases e
      exact ⟨us, q1, reps_fz R hm hk hg fz q2⟩
theorem fin_ok {d : D} {v : V} {Q0 : QD} {Q : VK} (R0 : Rl K h m C H) (x : Ext h m H h m' H') (R : Rl K h m' C' H') (r : Rep K m' (hz h m' H') d v) (f : fin C d C' Q0) (k : Con K h m H Q0 Q) : Q v H' := by
  obtain ⟨d', C2, m2, q, x2, R2, r2, _⟩ := fin_core R0 x R r f
  exact k d' C2 m2 H' v q x2 R2 r2
end
/-- .. of an exception -/
def finX (C : Cs) (od : Option D) (C1 : Cs) (Q : Option D → Cs → Prop) : Prop := match od with
  | none => fin C .non C1 fun _ C2 => Q none C2
  | some d => fin C d C1 fun d' C2 => Q (some d') C2
theorem finX_ok {K : PySem.W.Frag} {h m m' : List Addr} {C C' : Cs} {H H' : Hp} {od : Option D} {dx : Option Addr} {Q0 : Option D → Cs → Prop} (R0 : Rl K h m C H) (x : Ext h m H h m' H') (R : Rl K h m' C' H') (r : XRep K m' (hz h m' H') dx od) (f : finX C od C' Q0) :
    ∃ od' C2 m2, Q0 od' C2 ∧ Ext h m H h m2 H' ∧ Rl K h m2 C2 H' ∧ XRep K m2 (hz h m2 H') dx od' := by
  cases od with
  | none =>
    obtain ⟨d', C2, m2, q, x2, R2, r2, _⟩ := fin_core (d := .non) (v := .non) R0 x R rfl f
    exact ⟨none, C2, m2, q, x2, R2, r⟩
  | some d =>
    obtain ⟨a, v, e1, e2, r1⟩ := r
    obtain ⟨d', C2, m2, q, x2, R2, r2, k⟩ := fin_core R0 x R r1 f
    exact ⟨some d', C2, m2, q, x2, R2, a, v, e1, k _ _ e2, r2⟩
end DL
/-! DL9: the rule for a def, the rule for its call. -/
namespace DL
open PySem PySem.Spec PyProof.Rows L2
def startD (N : List Str) (ds : List D) : Ev := ds.map some ++ List.replicate (N.length - ds.length) none
def spOf (N : List Str) (rd : XW → RS) : SpD := fun ds C Q E => los C.length ds = true → loCs C.length C = true →
  rd (fun cls od _ C' => finX C od C' fun od' C2 => E cls od' C2) { nx := fun _ C' => fin C .non C' Q, rt := fun d C' => fin C d C' Q } (startD N ds) C
def TakesD (X : Cx) (B : BS) (W : XW) : Prop := Takes X (upW X.K B W)
theorem takes0D {X : Cx} {B : BS} : TakesD X B (fun _ _ _ _ => False) := fun _ _ x => by
  obtain ⟨_, _, _, _, _, _, _, _, _, _, _, _, _, _, _, _, h, m, C, r, od, _, _, z⟩ := x
  exact z.elim
section
variable {P : Program} {w : World} {K : PySem.W.Frag} {mg : Str → Option Value} {base : Heap}
theorem start_en {m : List Addr} {H0 : Hp} {N : List Str} {ds : List D} {vs : List V} (r : Reps K m H0 ds vs) : En K m H0 (startD N ds) (L2.start N vs) := by
  have hl := r.length
  refine ⟨by simp [startD, L2.start, hl], fun i d e => ?_⟩
  unfold startD at e
  by_cases hi : i < ds.length
  · rw [List.getElem?_append_left (by simpa using hi), List.getElem?_map] at e
    cases hd : ds[i]? with
    | none => rw [hd] at e; cases e
    | some d' =>
      rw [hd] at e
      have : d' = d := by simpa using e
      subst this
      obtain ⟨v, hv, rp⟩ := r.get hd
      refine ⟨v, ?_, rp⟩
      unfold L2.start
      rw [List.getElem?_append_left (by simpa [← hl] using hi), List.getElem?_map, hv]
      rfl
  · rw [List.getElem?_append_right (by simpa using Nat.le_of_not_lt hi)] at e
    rw [List.getElem?_replicate] at e
    split at e <;> cases e
theorem dl_fn {x qual : Str} {st : Stmt} {f : Addr} {fd : FuncData} {N ps : List Str} {k : Nat} (F : Fun K x qual st f fd) (S : FnScope N ps (defScope st)) (rd : XW → RS)
    (hb : ∀ (cdv : Value) (A : Around) (outer : List Env) (s : Shared) (H : Hp) (E : XK) (B : BS) (W : XW), Room k (A.deeper (envOfC qual (defScope st) s.heap.objs.size f cdv)) →
      TakesD (cxOf (L2.CX P w) P w K mg base N qual (defScope st) f cdv A outer s H E) B W → DSs (cxOf (L2.CX P w) P w K mg base N qual (defScope st) f cdv A outer s H E) B (defBody st) (rd W)) :
    FnOk P w K mg base (L2.CX P w) (k + 1) f fd ps (spUp K ps.length (spOf N rd)) := by
  refine Fun.okX F S (fun vs H Q E h => spUp_len h) fun cdv A outer s H vs Q E hr hsp => ?_
  obtain ⟨h, m, C, ds, Q0, E0, R, r, l, sp, kk, kx⟩ := hsp
  let B : BS := fun h' m' H' => h' = h ∧ Ext h m H h m' H'
  have stB : Stable B := fun h1 m1 H1 m2 H2 ⟨e, x⟩ y => ⟨e, by subst e; exact x.trans y⟩
  have tk : TakesD (cxOf (L2.CX P w) P w K mg base N qual (defScope st) f cdv A outer s H E) B (fun cls od _ C' => finX C od C' fun od' C2 => E0 cls od' C2) := by
    refine Takes.imp (takes_of (X := cxOf (L2.CX P w) P w K mg base N qual (defScope st) f cdv A outer s H E) (E := E) rfl rfl rfl rfl) fun cls dx σ H' z => ?_
    obtain ⟨h', m', C', r', od, S', xr, q⟩ := z
    obtain ⟨e, x⟩ := S'.base
    subst e
    obtain ⟨od', C2, m2, q2, x2, R2, r2⟩ := finX_ok R x S'.rl xr q
    exact kx cls od' C2 m2 H' dx q2 x2 R2 r2
  refine ⟨_, (hb cdv A outer s H E B _ hr tk).run, ?_⟩
  have hlo : los C.length ds = true := by rw [← R.len]; exact reps_lo ds r
  refine ⟨h, m, C, startD N ds, _, ⟨R, start_en r, ⟨rfl, Ext.refl⟩, stB⟩, sp hlo R.lo, fun m' H' C' x R' => ⟨fun r' σ' q S' => fin_ok (d := .non) (v := .non) R x R' rfl q kk, fun _ _ z => z.elim, fun _ _ z => z.elim, fun d v q rr => fin_ok R x R' rr q kk⟩⟩
/-- a def as its callers know it -/
structure Fn (P : Program) (w : World) (K : PySem.W.Frag) (mg : Str → Option Value) (base : Heap) (k : Nat) (x : Str) (st : Stmt) (ps : List Str) (sp : SpD) : Prop where
  ex : ∃ f fd qual, Fun K x qual st f fd ∧ mg x = some (.ref f) ∧ FnOk P w K mg base (L2.CX P w) k f fd ps (spUp K ps.length sp)
theorem Fn.mono {j k : Nat} {x : Str} {st : Stmt} {ps : List Str} {sp : SpD} (F : Fn P w K mg base j x st ps sp) (h : j ≤ k) : Fn P w K mg base k x st ps sp := by
  obtain ⟨f, fd, q, a, b, c⟩ := F.ex
  exact ⟨f, fd, q, a, b, c.mono h⟩
theorem Fn.imp {k : Nat} {x : Str} {st : Stmt} {ps : List Str} {sp sp' : SpD} (F : Fn P w K mg base k x st ps sp) (h : ∀ ds C Q E, ds.length = ps.length → sp' ds C Q E → sp ds C Q E) : Fn P w K mg base k x st ps sp' := by
  obtain ⟨f, fd, q, a, b, c⟩ := F.ex
  refine ⟨f, fd, q, a, b, c.imp fun vs H Q E z => ?_⟩
  obtain ⟨h', m, C, ds, Q0, E0, R, r, l, sp, kk, kx⟩ := z
  exact ⟨h', m, C, ds, Q0, E0, R, r, l, h ds C Q0 E0 l sp, kk, kx⟩
end
/-- how a def's arguments bind -/
def BindP (x : Str) (st : Stmt) (ps : List Str) : Prop := ∀ (qual : Str) (kV doc pm : Value) (an : Option Addr) (cdv ct : Value) (us : List Value), us.length = ps.length →
  bindArgs (PySem.W.fnOf x qual (defArgs st) (defBody st) (defScope st) .none kV doc pm an cdv ct) ⟨us, []⟩ = pure (ps.zip us)
def pick {α : Type} (p : List Nat) (xs : List α) : List α := p.filterMap (xs[·]?)
def BindK (x : Str) (st : Stmt) (ps ks : List Str) (n1 : Nat) (p : List Nat) : Prop := ∀ (qual : Str) (kV doc pm : Value) (an : Option Addr) (cdv ct : Value) (us ws : List Value), us.length = n1 → ws.length = ks.length →
  bindArgs (PySem.W.fnOf x qual (defArgs st) (defBody st) (defScope st) .none kV doc pm an cdv ct) ⟨us, ks.zip ws⟩ = pure (ps.zip (us ++ pick p ws))
theorem pick_reps {K : PySem.W.Frag} {m : List Addr} {H : Hp} {ds : List D} {vs : List V} (r : Reps K m H ds vs) : ∀ p : List Nat, Reps K m H (pick p ds) (pick p vs)
  | [] => rfl
  | i :: p => by
    have ih := pick_reps r p
    unfold pick at ih ⊢
    cases e : ds[i]? with
    | none =>
      have e2 : vs[i]? = none := by
        rw [List.getElem?_eq_none_iff] at e ⊢
        rw [← r.length]
        exact e
      rw [List.filterMap_cons, List.filterMap_cons, e, e2]
      exact ih
    | some d =>
      obtain ⟨v, hv, rp⟩ := r.get e
      rw [List.filterMap_cons, List.filterMap_cons, e, hv]
      exact Reps.cons rp ih
theorem pick_vals {vs : List V} {us : List Value} (r : Vals vs us) : ∀ p : List Nat, Vals (pick p vs) (pick p us)
  | [] => .nil
  | i :: p => by
    have ih := pick_vals r p
    unfold pick at ih ⊢
    cases e : vs[i]? with
    | none =>
      have e2 : us[i]? = none := by
        rw [List.getElem?_eq_none_iff] at e ⊢
        rw [← r.length]
        exact e
      rw [List.filterMap_cons, List.filterMap_cons, e, e2]
      exact ih
    | some d =>
      obtain ⟨v, hv, rp⟩ := r.get e
      rw [List.filterMap_cons, List.filterMap_cons, e, hv]
      exact .cons rp ih
theorem pick_len {α : Type} {xs : List α} : ∀ {p : List Nat}, p.all (· < xs.length) = true → (pick p xs).length = p.length
  | [], _ => rfl
  | i :: p, h => by
    have h' : i < xs.length ∧ p.all (· < xs.length) = true := by simpa using h
    unfold pick
    rw [List.filterMap_cons, List.getElem?_eq_getElem h'.1]
    show ((pick p xs).length + 1) = _
    rw [pick_len h'.2]
    rfl
def dCall (sp : SpD) (W : XW) (t : RA) : RE := fun r C Q => t r C fun ds C1 => sp ds C1 Q fun cls od C' => W cls od r C'
def dCallK (sp : SpD) (p : List Nat) (W : XW) (t tk : RA) : RE := fun r C Q => t r C fun ds C1 => tk r C1 fun es C2 => sp (ds ++ pick p es) C2 Q fun cls od C' => W cls od r C'
/-- the keywords' values -/
structure DK (X : Cx) (B : BS) (kws : List Keyword) (t : RA) : Prop where
  run : PK X kws (upA X.K B kws.length t)
theorem pk_imp {X : Cx} {kws : List Keyword} {t t' : TA} (p : PK X kws t) (i : ∀ σ H Q, t' σ H Q → t σ H Q) : PK X kws t' := ⟨fun pos pins s σ H Q I h => p.run pos pins s σ H Q I (i σ H Q h)⟩
section
variable {X : Cx} {B : BS} {W : XW} {k : Nat} {x : Str} {st : Stmt} {ps ks : List Str} {sp : SpD} {e : Expr} {es : List Expr} {kws : List Keyword} {te : RE} {t tk' : RA} {p pos kpos : Pos} {pm : List Nat} {nm : Option Str}
theorem dk_nil : DK X B [] dNil := by
  refine ⟨pk_imp pk_nil fun σ H Q ⟨h, m, C, r, Q0, S, t, k⟩ => ?_⟩
  exact k [] C m H [] t rfl Ext.refl S.rl rfl
theorem dk_cons (ha : DE X B e te) (hr : DK X B kws t) : DK X B (⟨nm, e, kpos⟩ :: kws) (dCons te t) := by
  refine ⟨pk_imp (pk_cons ha.run hr.run) fun σ H Q ⟨h, m, C, r, Q0, S, t, k⟩ => ?_⟩
  refine ⟨h, m, C, r, _, S, t, fun d C1 m1 H1 v1 q1 x1 R1 r1 => ?_⟩
  refine ⟨h, m1, C1, r, _, S.ext x1 R1, q1, fun ds C2 m2 H2 vs q2 hl x2 R2 r2 => ?_⟩
  exact k (d :: ds) C2 m2 H2 (v1 :: vs) q2 (by simp [hl]) (x1.trans x2) R2 (.cons (x2.rep r1) r2)
theorem call_up {σ : L2.St} {H1 : Hp} {Q : VK} {h m1 : List Addr} {C1 : Cs} {r : Ev} {ds : List D} {vs : List V} {Q0 : QD} {n : Nat} (S : Sta X.K B h m1 C1 r σ H1) (rs : Reps X.K m1 (hz h m1 H1) ds vs) (hl : ds.length = n)
    (q : sp ds C1 Q0 fun cls od C' => W cls od r C') (k : Con X.K h m1 H1 Q0 Q) : spUp X.K n sp vs H1 Q (WE (upW X.K B W) σ) :=
  ⟨h, m1, C1, ds, Q0, _, S.rl, rs, hl, q, k, fun cls od C' m' H' dx q' x R xr => ⟨h, m', C', r, od, S.ext x R, xr, q'⟩⟩
theorem d_call (F : Fn X.prog X.w X.K X.mg X.base k x st ps sp) (hb : BindP x st ps) (hr : Room k X.A) (tk : TakesD X B W) (ha : DA X B (e :: es) t) (hlen : (e :: es).length = ps.length := by rfl) (hg : Gl X x := by rfl)
    (hdb : (x == ("__debug__" : Str)) = false := by decide) (he : starEach (e :: es) X.env = (false, eval e X.env) :: starEach es X.env := by rfl) (hpl : (backTo pos (starEach es X.env)).any (·.1) = false := by rfl) :
    DE X B (.Call (.Name x p) (e :: es) [] pos) (dCall sp W t) := by
  obtain ⟨f, fd, qual, F0, hm, ok⟩ := F.ex
  have bd : Binds X.K fd ps [] := F0.binds fun kV doc pm an cdv ct us hu => hb qual kV doc pm an cdv ct us hu
  refine ⟨pe_imp (pe_callSD (dvs := []) (ds := []) ok hr hg hm F0.kp bd .nil (fun σ => passAt tk σ) ha.run hdb he hpl) fun σ H Q ⟨h, m, C, r, Q0, S, t, k⟩ => ?_⟩
  refine ⟨h, m, C, r, _, S, t, fun ds C1 m1 H1 vs q1 hl x1 R1 r1 => ?_⟩
  show spUp X.K ps.length sp (vs ++ []) H1 Q _
  rw [List.append_nil]
  exact call_up (S.ext x1 R1) r1 (hl.trans hlen) q1 (Con.ext k x1)
theorem run_fnKD {CX : CXT} {f : Addr} {fd : FuncData} {sp : Sp} {E : L2.St → XK} {pins : List (Addr × Obj)} {σ : L2.St} {H : Hp} {s : Shared} {Q : VK} {us ws : List Value} {vs zs : List V} (F : FnOk X.prog X.w X.K X.mg X.base CX k f fd ps sp) (hr : Room k X.A)
    (hb : bindArgs fd ⟨us, ks.zip ws⟩ = pure (ps.zip (us ++ pick pm ws))) (hx : PassesAt CX X σ (E σ))
    (I : L2.Inv X pins σ H s) (r : Vals vs us) (rz : Vals zs ws) (h : sp (vs ++ pick pm zs) H Q (E σ)) : wpAny (model X.prog X.w) X.A (call (.ref f) us (ks.zip ws)) (EP X pins σ Q) X.xe s := by
  have r2 : Vals (vs ++ pick pm zs) (us ++ pick pm ws) := r.append (pick_vals rz pm)
  refine wpAny_call (codeAny_mono (F.run X.A X.stack s H ⟨us, ks.zip ws⟩ (us ++ pick pm ws) (vs ++ pick pm zs) Q (E σ) hr I.env0 (.of_eq hb) r2 h) fun r s' hq => ?_)
  cases r with
  | error e => exact hx pins H s e s' I hq
  | ok fl =>
    cases fl with
    | ret u => exact I.after hq
    | next => exact False.elim hq
    | brk => exact False.elim hq
    | cont => exact False.elim hq
theorem d_callK (F : Fn X.prog X.w X.K X.mg X.base k x st ps sp) (hb : BindK x st ps ks (e :: es).length pm) (hr : Room k X.A) (tk : TakesD X B W) (ha : DA X B (e :: es) t) (hkw : DK X B kws tk') (hkl : kws.length = ks.length := by rfl)
    (hpm : pm.all (· < kws.length) = true := by decide) (hlen : (e :: es).length + pm.length = ps.length := by rfl) (hg : Gl X x := by rfl)
    (hall : (backToKw pos (keywordEach kws X.env)).all (·.1.isSome) = true := by rfl) (hks : (backToKw pos (keywordEach kws X.env)).filterMap (·.1) = ks := by rfl)
    (hdb : (x == ("__debug__" : Str)) = false := by decide) (he : starEach (e :: es) X.env = (false, eval e X.env) :: starEach es X.env := by rfl)
    (hpl : ((backTo pos (starEach (e :: es) X.env)).any (·.1) || (backToKw pos (keywordEach kws X.env)).any (·.1.isNone)) = false := by rfl) :
    DE X B (.Call (.Name x p) (e :: es) kws pos) (dCallK sp pm W t tk') := by
  obtain ⟨f, fd, qual, F0, hm, ok⟩ := F.ex
  refine ⟨⟨fun pins s σ H Q I ⟨h, m, C, r, Q0, S, t, k⟩ => ?_⟩⟩
  refine wpAny_Call_Name_kw (ld_glob I hg hm ?_ hdb)
  refine PySem.W.callWith_KW (h₀ := X.base) I.ok.mod.kin F0.kp hall (thn (ha.run.run pos pins s σ H (fun vs H1 => vs.length = (e :: es).length ∧ upA X.K B kws.length tk' σ H1 fun zs H2 => zs.length = kws.length ∧ spUp X.K ps.length sp (vs ++ pick pm zs) H2 Q (WE (upW X.K B W) σ)) I
    ⟨h, m, C, r, _, S, t, fun ds C1 m1 H1 vs q1 hl x1 R1 r1 => ⟨by rw [← r1.length, hl], h, m1, C1, r, _, S.ext x1 R1, q1, fun es' C2 m2 H2 zs q2 hl2 x2 R2 r2 => ⟨by rw [← r2.length, hl2], ?_⟩⟩⟩) fun us s1 ⟨vs, H1, I1, r1, hvl, q⟩ => ?_) hpl he
  · refine call_up ((S.ext x1 R1).ext x2 R2) ((x2.reps r1).append (pick_reps r2 pm)) ?_ q2 (Con.ext k (x1.trans x2))
    rw [List.length_append, hl, pick_len (by rw [hl2]; exact hpm)]
    exact hlen
  · refine thn (hkw.run.run pos pins s1 σ H1 _ I1 q) fun ws s2 ⟨zs, H2, I2, rz, hzl, q2⟩ => ⟨I2.kIn, ?_⟩
    rw [hks]
    obtain ⟨oc, od, kV, doc, pmm, an, cdv, ct, osl, rfl, lk, hcd⟩ := F0.ex
    exact run_fnKD ok hr (hb qual kV doc pmm an cdv ct us ws (by rw [← r1.length, hvl]) (by rw [← rz.length, hzl, hkl])) (passAt tk σ) I2 r1 rz q2
theorem d_callK0 (F : Fn X.prog X.w X.K X.mg X.base k x st ps sp) (hb : BindK x st ps ks 0 pm) (hr : Room k X.A) (tk : TakesD X B W) (hkw : DK X B kws tk') (hkl : kws.length = ks.length := by rfl)
    (hpm : pm.all (· < kws.length) = true := by decide) (hlen : pm.length = ps.length := by rfl) (hg : Gl X x := by rfl)
    (hall : (backToKw pos (keywordEach kws X.env)).all (·.1.isSome) = true := by rfl) (hks : (backToKw pos (keywordEach kws X.env)).filterMap (·.1) = ks := by rfl)
    (hdb : (x == ("__debug__" : Str)) = false := by decide)
    (hpl : ((backTo pos (starEach [] X.env)).any (·.1) || (backToKw pos (keywordEach kws X.env)).any (·.1.isNone)) = false := by rfl) :
    DE X B (.Call (.Name x p) [] kws pos) (dCallK sp pm W dNil tk') := by
  obtain ⟨f, fd, qual, F0, hm, ok⟩ := F.ex
  refine ⟨⟨fun pins s σ H Q I ⟨h, m, C, r, Q0, S, t, k⟩ => ?_⟩⟩
  refine wpAny_Call_Name_kw (ld_glob I hg hm ?_ hdb)
  refine PySem.W.callWith_KW0 (h₀ := X.base) I.ok.mod.kin F0.kp hall ?_ hpl
  refine thn (hkw.run.run pos pins s σ H (fun zs H2 => zs.length = kws.length ∧ spUp X.K ps.length sp ([] ++ pick pm zs) H2 Q (WE (upW X.K B W) σ)) I
    ⟨h, m, C, r, _, S, t, fun es' C2 m2 H2 zs q2 hl2 x2 R2 r2 => ⟨by rw [← r2.length, hl2], ?_⟩⟩) fun ws s2 ⟨zs, H2, I2, rz, hzl, q2⟩ => ⟨I2.kIn, ?_⟩
  · refine call_up (S.ext x2 R2) (pick_reps r2 pm) ?_ q2 (Con.ext k x2)
    show (pick pm es').length = _
    rw [pick_len (by rw [hl2]; exact hpm)]
    exact hlen
  · rw [hks]
    obtain ⟨oc, od, kV, doc, pmm, an, cdv, ct, osl, rfl, lk, hcd⟩ := F0.ex
    exact run_fnKD (vs := []) (us := []) ok hr (hb qual kV doc pmm an cdv ct [] ws rfl (by rw [← rz.length, hzl, hkl])) (passAt tk σ) I2 .nil rz q2
end
end DL
/-! DLA: is with None, True, False; list + list as a new cell; targets from lists; bits; a module's int. -/
namespace DL
open PySem PySem.Spec PyProof.Rows L2
def isSameB (x y : D) : Bool := match y with
  | .non => isNon x
  | .bl c => match x with
    | .bl b => b == c
    | _ => false
  | _ => false
def isConst : D → Bool
  | .non => true
  | .bl _ => true
  | _ => false
def oIs (neg : Bool) : O2 := fun x y C Q => isConst y = true ∧ Q (.bl (if neg then !isSameB x y else isSameB x y)) C
def isSameV (x y : V) : Bool := match y with
  | .non => decide (x = .non)
  | .bl c => match x with
    | .bl b => b == c
    | _ => false
  | _ => false
def rIsC (neg : Bool) : R2 := fun x y H Q => (y = .non ∨ ∃ c, y = .bl c) ∧ Q (.bl (if neg then !isSameV x y else isSameV x y)) H
section
variable {X : Cx}
theorem is_bl {M : Model} {A : Around} {E : Value → Shared → Prop} {s : Shared} {x : V} {u : Value} {c : Bool} {R : Bool → Shared → Prop} (r : L2.RelV x u) (q : R (isSameV x (.bl c)) s) : wpAny M A (isSame u (.bool c)) R E s := by
  have eq_ : ∀ {u : Value} {b : Bool}, plainIs u (.bool c) = true → (u == Value.bool c) = b → R b s → wpAny M A (isSame u (.bool c)) R E s := fun h1 h2 q => wpAny_isSame_plain h1 (by rw [h2]; exact q)
  cases x with
  | ref a => cases r; exact eq_ rfl rfl q
  | non => cases r; exact eq_ rfl rfl q
  | bl b => cases r; exact eq_ (b := b == c) rfl (by cases b <;> cases c <;> rfl) q
  | int i => obtain ⟨t, rfl⟩ := r; exact eq_ rfl rfl q
  | str x => obtain ⟨t, rfl⟩ := r; exact eq_ rfl rfl q
  | byt x => obtain ⟨t, rfl⟩ := r; exact eq_ rfl rfl q
  | flt x => obtain ⟨t, rfl⟩ := r; exact eq_ rfl rfl q
  | ty n => cases r; exact eq_ rfl rfl q
theorem op_isC : OpR X (compareOp .Is) (rIsC false) := by
  intro pins s σ H x y v u Q I rx ry h
  obtain ⟨rfl | ⟨c, rfl⟩, q⟩ := h
  · exact op_isN pins s σ H x .non v u Q I rx ry ⟨rfl, q⟩
  · cases ry
    show wpAny _ _ ((isSame v (Value.bool c)) >>= fun z => pure (Value.bool z)) _ _ s
    exact wpAny_bind (is_bl rx (wpAny_pure (fin_bl I q rfl)))
theorem op_notC : OpR X (compareOp .IsNot) (rIsC true) := by
  intro pins s σ H x y v u Q I rx ry h
  obtain ⟨rfl | ⟨c, rfl⟩, q⟩ := h
  · exact op_notN pins s σ H x .non v u Q I rx ry ⟨rfl, q⟩
  · cases ry
    show wpAny _ _ ((isSame v (Value.bool c)) >>= fun z => pure (Value.bool (!z))) _ _ s
    exact wpAny_bind (is_bl rx (wpAny_pure (fin_bl I q rfl)))
theorem od_is {K : PySem.W.Frag} {neg : Bool} : OpD K (rIsC neg) (oIs neg) := by
  intro h m C H d1 d2 v1 v2 Q0 Q R r1 r2 o k
  obtain ⟨hc, q⟩ := o
  cases d2 <;> first | (cases hc; done) | skip
  · have e : v2 = .non := r2
    subst e
    refine ⟨.inl rfl, ?_⟩
    have e2 : isSameV v1 .non = isSameB d1 .non := rep_isNon r1
    rw [e2]
    exact k.bl R q
  · rename_i c
    have e : v2 = .bl c := r2
    subst e
    refine ⟨.inr ⟨c, rfl⟩, ?_⟩
    have e2 : isSameV v1 (.bl c) = isSameB d1 (.bl c) := by
      cases d1 with
      | non => have e : v1 = .non := r1; subst e; rfl
      | bl _ => have e : v1 = .bl _ := r1; subst e; rfl
      | int _ => have e : v1 = .int _ := r1; subst e; rfl
      | str _ => have e : v1 = .str _ := r1; subst e; rfl
      | tup _ => obtain ⟨a, vs, _, rfl, _⟩ := r1; rfl
      | lst _ => obtain ⟨a, vs, rfl, _⟩ := r1; rfl
      | scr _ => obtain ⟨a, vs, rfl, _⟩ := r1; rfl
      | cel _ => obtain ⟨a, rfl, _⟩ := r1; rfl
      | obj _ => have e : v1 = .ref _ := r1; subst e; rfl
    rw [e2]
    exact k.bl R q
end
section
variable {X : Cx} {B : BS} {a b : Expr} {ta tb : RE} {pos : Pos}
theorem d_is (ha : DE X B a ta) (hb : DE X B b tb) : DE X B (.Compare a [.Is] [b] pos) (dOp (oIs false) ta tb) := d_cmp op_isC od_is ha hb (nomark _)
theorem d_isNot (ha : DE X B a ta) (hb : DE X B b tb) : DE X B (.Compare a [.IsNot] [b] pos) (dOp (oIs true) ta tb) := d_cmp op_notC od_is ha hb (nomark _)
theorem dt_is (ha : DE X B a ta) (hb : DE X B b tb) : DT X B (.Compare a [.Is] [b] pos) (dTest (dOp (oIs false) ta tb)) := d_cmpT op_isC od_is ha hb (nomark _)
theorem dt_isNot (ha : DE X B a ta) (hb : DE X B b tb) : DT X B (.Compare a [.IsNot] [b] pos) (dTest (dOp (oIs true) ta tb)) := d_cmpT op_notC od_is ha hb (nomark _)
def oAddC : O2 := fun x y C Q => opt (lsD C x) fun xs => opt (lsD C y) fun ys => xs.length + ys.length ≤ sizeLine ∧ Q (.cel C.length) (C ++ [.lst (xs ++ ys)])
theorem d_addC (ha : DE X B a ta) (hb : DE X B b tb) : DE X B (.BinOp a .Add b pos) (dOp oAddC ta tb) := by
  refine d_op op_cat (fun h m C H d1 d2 v1 v2 Q0 Q R r1 r2 o k => ?_) ha hb
  obtain ⟨xs, e1, o⟩ := opt_iff.mp o
  obtain ⟨ys, e2, hl, q⟩ := opt_iff.mp o
  obtain ⟨a, vs, rfl, h1, p1⟩ := ls_ok R r1 e1
  obtain ⟨b, us, rfl, h2, p2⟩ := ls_ok R r2 e2
  exact ⟨a, b, vs, us, rfl, rfl, h1, h2, by rw [← p1.length, ← p2.length]; exact hl, fun p np => k.cel R (p1.append p2) q np⟩
abbrev oAnd : O2 := oI fun i j => .int (Builtin.bitAnd i j)
abbrev oOr : O2 := oI fun i j => .int (Builtin.bitOr i j)
abbrev oShr : O2 := oIc (fun _ j => 0 ≤ j) fun i j => .int (i / 2 ^ j.toNat)
abbrev oShl : O2 := oIc CPow fun i j => .int (i * 2 ^ j.toNat)
theorem d_band (ha : DE X B a ta) (hb : DE X B b tb) : DE X B (.BinOp a .BitAnd b pos) (dOp oAnd ta tb) := d_op op_and (od_I fun _ _ _ _ => rfl) ha hb
theorem d_bor (ha : DE X B a ta) (hb : DE X B b tb) : DE X B (.BinOp a .BitOr b pos) (dOp oOr ta tb) := d_op op_or (od_I fun _ _ _ _ => rfl) ha hb
theorem d_shr (ha : DE X B a ta) (hb : DE X B b tb) : DE X B (.BinOp a .RShift b pos) (dOp oShr ta tb) := d_op op_shr (od_Ic fun _ _ _ _ => rfl) ha hb
theorem d_shl (ha : DE X B a ta) (hb : DE X B b tb) : DE X B (.BinOp a .LShift b pos) (dOp oShl ta tb) := d_op op_shl (od_Ic fun _ _ _ _ => rfl) ha hb
/-- a module's int -/
theorem d_globE {x : Str} {i : Int} {pos : Pos} (hm : ∃ t, X.mg x = some (.int i t)) (hg : Gl X x := by rfl) (hd : (x == ("__debug__" : Str)) = false := by decide) : DE X B (.Name x pos) (dC (.int i)) := by
  obtain ⟨t, hm⟩ := hm
  exact d_globI hg hm hd
end
theorem pg_or {X : Cx} {tg : Expr} {t t' : TG} (p : PG X tg t) (p' : PG X tg t') : PG X tg (fun v σ H Q => t v σ H Q ∨ t' v σ H Q) := ⟨fun pins s σ H v u Q I r h => h.elim (p.run pins s σ H v u Q I r) (p'.run pins s σ H v u Q I r)⟩
/-- a tuple as a target, of a tuple or a list -/
def gTup (n : Nat) (g : RGs) : RG := fun d r C Q => opt (sqD C d) fun ds => ds.length = n ∧ g ds r C Q
theorem dg_tupA {X : Cx} {B : BS} {vs : List Nat} {pos : Pos} {es : List Expr} {k : Nat} {g : RGs} {n : Nat} (hc : X.calm = true) (h : DGs X B vs es g) (hn : (assignEach es X.env).length = n := by rfl) (hst : (assignEach es X.env).findIdx? (·.1) = none := by rfl) : DG X B vs (.Tuple es k pos) (gTup n g) := by
  refine ⟨pg_imp (pg_or (pg_unl hc h.run hn hst) (pg_tup hc h.run hn hst)) fun v σ H Q ⟨h, m, C, r, d, Q0, S, rp, t, k⟩ => ?_⟩
  obtain ⟨ds, e, hl, t⟩ := opt_iff.mp t
  obtain ⟨a, us, rfl, hq, ru⟩ := sq_ok S.rl rp e
  rcases hq with hq | hq
  · exact .inl ⟨a, us, rfl, hq, ru.glen hl, h, m, C, r, _, Q0, S, ru, t, k⟩
  · exact .inr ⟨a, us, rfl, hq, ru.glen hl, h, m, C, r, _, Q0, S, ru, t, k⟩
/-! ### ends -/
theorem fn_none {P : Program} {w : World} {K : PySem.W.Frag} {mg : Str → Option Value} {base : Heap} {k : Nat} {x qual : Str} {st : Stmt} {ps : List Str} {f : Addr} {fd : FuncData} (F : Fun K x qual st f fd) (hm : mg x = some (.ref f)) : Fn P w K mg base k x st ps (fun _ _ _ _ => False) :=
  ⟨f, fd, qual, F, hm, ⟨fun vs H Q E h => spUp_len h, fun A outer s H args us vs Q E hr e0 hb r z => by
    obtain ⟨h, m, C, ds, Q0, E0, R, r, l, sp, _⟩ := z
    exact sp.elim⟩⟩
theorem law_sp {K : PySem.W.Frag} {sp : SpD} {H : Hp} {a : Addr} {ns : List Int} (hS : SqL K H a (ns.map V.int)) (h : sp [.scr (ns.map D.int)] [] (fun d _ => d = .bl true) fun _ _ _ => False) :
    spUp K 1 sp [.ref a] H (fun v _ => v = .bl true) fun _ _ _ => False := by
  have hz0 : hz [] [] H = H := by
    funext b
    unfold hz off
    rw [if_neg (by simp)]
  refine ⟨[], [], [], [.scr (ns.map D.int)], fun d _ => d = .bl true, fun _ _ _ => False, ⟨.nil, rfl, fun n c e => by simp at e, fun a ha => by simp at ha⟩, Reps.one ⟨a, ns.map V.int, rfl, by rw [hz0]; exact hS, Reps.ints⟩, rfl, h, fun d C' m' H' v q x R r => ?_, fun cls od C' m' H' dx q _ _ _ => q⟩
  subst q
  exact r
theorem cx_false {P : Program} {w : World} {outer : List Env} {H : Hp} {s : Shared} {e : Value} {s' : Shared} (h : L2.CX P w outer H s (fun _ _ _ => False) e s') : False := by
  obtain ⟨_, _, _, _, _, _, _, _, _, _, _, _, z⟩ := h
  exact z
end DL
/-! DLX: sorted(a tuple of ints). -/
namespace DL
open PySem PySem.Spec PyProof.Rows L2
section
variable {prog : Program} {w : World} {A : Around} {E : Value → Shared → Prop} {s : Shared}
theorem collect_tup {l : Addr} {vs : List Value} {Q : List Value → Shared → Prop} (hl : s.heap.IsTuple l vs.toArray) (hz : vs.length ≤ sizeLine)
    (hq : Q vs { s with heap := (s.heap.push (seqObj "list" #[] 0)).update s.heap.objs.size (Obj.mapSeq (· ++ vs.toArray)) }) : wpAny (model prog w) A (collect (.ref l)) Q E s := by
  obtain ⟨o, ho, hc, n, hd⟩ := hl
  have new : (s.heap.push (seqObj "list" #[] 0)).get? s.heap.objs.size = some (seqObj "list" #[] 0) := Heap.get?_push_size _ rfl
  unfold collect
  refine wpAny_bind (wpAny_runValue (codeAny_builtin entry_proto_collect' ?_))
  show wpAny _ _ (newList [] >>= fun v => again (.builtin "list.__iadd__" ⟨[v, .ref l], []⟩)) _ _ s
  refine wpAny_bind (wpAny_newList ?_)
  refine wpAny_pure ⟨Code.quiet_builtin _ (by decide +kernel), ?_⟩
  refine codeAny_builtin entry_list_iadd' ?_
  show wpAny _ _ (Builtin.List.listExtendWith (.ref s.heap.objs.size) (.ref l) (.ref s.heap.objs.size)) _ _
    { s with heap := s.heap.push (seqObj "list" #[] 0) }
  unfold Builtin.List.listExtendWith
  have there := Heap.get?_push_of_some (seqObj "list" #[] 0) ho
  refine wpAny_bind (wpAny_typeOf (T := "tuple") ⟨o, there, hc⟩ ?_)
  have tt : (Value.type "tuple" == Value.type "tuple") = true := by rfl
  have c1 : (Builtin.List.listSameRef (.ref s.heap.objs.size) (.ref l) || Value.type "tuple" == Value.type "list" || Value.type "tuple" == Value.type "tuple") = true := by
    rw [tt, Bool.or_true]
  rw [if_pos c1]
  refine wpAny_bind (listItems_at there hd ?_)
  refine wpAny_bind (listItems_at (xs := #[]) (n := 0) new rfl ?_)
  rw [if_neg (by simp)]
  refine wpAny_bind (listUpdate_at (xs := #[]) (n := 0) new rfl ?_ (Nat.zero_le _) ?_)
  rotate_left
  · show (#[] ++ vs.toArray).size ≤ sizeLine + 1
    rw [Array.size_append, List.size_toArray]
    show 0 + vs.length ≤ sizeLine + 1
    omega
  refine wpAny_pure ?_
  show wpAny _ A (load s.heap.objs.size >>= fun o => match o.data with
      | .seq xs _ => pure xs.toList
      | _ => unsupported "internal:collect") Q E { s with heap := (s.heap.push (seqObj "list" #[] 0)).update s.heap.objs.size (Obj.mapSeq (· ++ vs.toArray)) }
  refine wpAny_bind (wpAny_load (get?_update_seq new _) ?_)
  show wpAny _ _ (pure ((#[] : Array Value) ++ vs.toArray).toList) _ _ _
  have e : ((#[] : Array Value) ++ vs.toArray).toList = vs := by simp
  rw [e]
  exact wpAny_pure hq
theorem sorted_tup {l : Addr} {vs : List Value} {ltv : Value → Value → Bool} {Q : Value → Shared → Prop} (O : SrtO.Swo ltv) (hl : s.heap.IsTuple l vs.toArray) (hz : vs.length ≤ sizeLine)
    (hS : 2 ≤ vs.length → ∀ (h₁ : Heap) (a : Addr), h₁.get? a = some (seqObj "list" vs.toArray 0) → (∀ b o, s.heap.get? b = some o → b ≠ a ∧ h₁.get? b = some o) → SrtO.SortableO prog w A.in1.in1 { s with heap := h₁ } a vs ltv)
    (h : ∀ out : List Value, SrtO.Srtd ltv out → SrtO.Stb ltv out vs → Q (.ref (s.heap.objs.size + 1)) { s with heap := sortedAll s.heap vs out.toArray }) :
    wpAny (model prog w) A (PySem.call (.builtin "sorted") [.ref l]) Q E s := by
  refine Calls.call_function_entry kind_sorted plain_sorted entry_sorted (args_sorted1 _) ?_
  unfold Builtin.«sorted»
  refine wpAny_bind (m := checkCount "sorted" 1 1 _) (wpAny_pure ?_)
  refine wpAny_bind (collect_tup hl hz ?_)
  refine wpAny_bind (wpAny_newList ?_ hz)
  have len1 : ((s.heap.push (seqObj "list" #[] 0)).update s.heap.objs.size (Obj.mapSeq (· ++ vs.toArray))).objs.size = s.heap.objs.size + 1 := by rw [Heap.size_update, size_push']
  have at1 : (((s.heap.push (seqObj "list" #[] 0)).update s.heap.objs.size (Obj.mapSeq (· ++ vs.toArray))).push (seqObj "list" vs.toArray 0)).get? (s.heap.objs.size + 1) = some (seqObj "list" vs.toArray 0) := (congrArg _ len1.symm).trans (Heap.get?_push_size _ rfl)
  have old : ∀ b o, s.heap.get? b = some o → b ≠ s.heap.objs.size + 1 ∧ (((s.heap.push (seqObj "list" #[] 0)).update s.heap.objs.size (Obj.mapSeq (· ++ vs.toArray))).push (seqObj "list" vs.toArray 0)).get? b = some o := fun b o q => by
    have lt : b < s.heap.objs.size := Heap.lt_size q
    refine ⟨Nat.ne_of_lt (Nat.lt_succ_of_lt lt), Heap.get?_push_of_some _ ((Heap.get?_update_ne _ _ _ _ (Nat.ne_of_lt lt)).trans (Heap.get?_push_of_some _ q))⟩
  show wpAny _ _ _ _ _ { s with heap := ((s.heap.push (seqObj "list" #[] 0)).update s.heap.objs.size (Obj.mapSeq (· ++ vs.toArray))).push (seqObj "list" vs.toArray 0) }
  rw [len1]
  refine wpAny_bind (wpAny_holding (wpAny_call_entry slot_list_sort ⟨_, at1, rfl⟩ entry_list_sort (SrtO.list_sort_ord O at1 hz (fun h2 => hS h2 _ _ at1 old) fun out hs hb => ⟨_, rfl, wpAny_pure ⟨_, rfl, h out hs hb⟩⟩) (args_list_sort _)))
end
def rSortedT2 (K : PySem.W.Frag) : List V → Hp → VK → Prop := fun vs H Q => ∃ (a : Addr) (ns : List Int), vs = [V.ref a] ∧ SqT K H a (ns.map V.int) ∧ ∀ ns' : List Int, ns'.Perm ns → ns'.Pairwise (· ≤ ·) → ∀ p, H p = none → Q (.ref p) (upd H p (.lst (ns'.map V.int)))
theorem cr_sortedT2 {X : Cx} : CallR X (.builtin "sorted") (rSortedT2 X.K) := by
  intro pins s σ H vs us Q I r h
  obtain ⟨a, ns, rfl, hs, q⟩ := h
  obtain ⟨its, rv, hl, hz⟩ := I.tuple hs
  rw [Vals.ref1 r]
  have hi := rv.ints
  refine sorted_tup SrtO.swo_int (show s.heap.IsTuple a its.toArray from hl) (by rw [← rv.length]; exact hz) (fun h2 h₁ a' _ _ => SrtO.ints_sortable hi h2) fun out h1 h2 => ?_
  obtain ⟨k1, k2, k3⟩ := SrtO.ints_out hi h1 h2
  obtain ⟨ep, he'⟩ := PyProof.Rows.sortedAll_at s.heap its out.toArray
  have hlen : ((out.map SrtO.iv).map V.int).length ≤ sizeLine := by
    rw [List.length_map] at hz
    rw [List.length_map, k2.length_eq]
    exact hz
  exact ⟨.ref _, upd H (s.heap.objs.size + 1) (.lst ((out.map SrtO.iv).map V.int)), I.laid (t' := s.toks) (fun _ _ => PyProof.Rows.sortedAll_old) (Nat.le_succ _) ⟨hlen, out, ep, vals_of_ints k1, he'⟩, rfl, q _ k2 k3 _ (I.hok.fresh (Nat.le_succ _))⟩
/-- sorted of a list or a tuple of ints; the second: a new cell -/
def oSortA : OA := fun ds C Q => match ds with
  | [d] => opt (sqD C d) fun xs => opt (intsD xs) fun ns => ∀ ns' : List Int, ns'.Perm ns → ns'.Pairwise (· ≤ ·) → Q (.lst (ns'.map D.int)) C
  | _ => False
def oSortC : OA := fun ds C Q => match ds with
  | [d] => opt (sqD C d) fun xs => opt (intsD xs) fun ns => ∀ ns' : List Int, ns'.Perm ns → ns'.Pairwise (· ≤ ·) → Q (.cel C.length) (C ++ [.lst (ns'.map D.int)])
  | _ => False
theorem cd_sortA {K : PySem.W.Frag} : CallD K (fun vs H Q => rSortedI K vs H Q ∨ rSortedT2 K vs H Q) oSortA := by
  intro h m C H ds vs Q0 Q R rs o k
  match ds, o with
  | [d], o =>
    obtain ⟨v, rfl, r⟩ := reps1 rs
    obtain ⟨xs, e, o⟩ := opt_iff.mp o
    obtain ⟨bs, e2, q⟩ := opt_iff.mp o
    obtain ⟨a, us, rfl, hq, ru⟩ := sq_ok R r e
    rw [ints_rep ru e2] at hq
    rcases hq with hq | hq
    · exact .inl ⟨a, bs, rfl, hq, fun ns' p h1 h2 np => k.lst R Reps.ints (q ns' h1 h2) np⟩
    · exact .inr ⟨a, bs, rfl, hq, fun ns' h1 h2 p np => k.lst R Reps.ints (q ns' h1 h2) np⟩
  | [], o => exact o.elim
  | _ :: _ :: _, o => exact o.elim
theorem cd_sortC {K : PySem.W.Frag} : CallD K (fun vs H Q => rSortedI K vs H Q ∨ rSortedT2 K vs H Q) oSortC := by
  intro h m C H ds vs Q0 Q R rs o k
  match ds, o with
  | [d], o =>
    obtain ⟨v, rfl, r⟩ := reps1 rs
    obtain ⟨xs, e, o⟩ := opt_iff.mp o
    obtain ⟨bs, e2, q⟩ := opt_iff.mp o
    obtain ⟨a, us, rfl, hq, ru⟩ := sq_ok R r e
    rw [ints_rep ru e2] at hq
    rcases hq with hq | hq
    · exact .inl ⟨a, bs, rfl, hq, fun ns' p h1 h2 np => k.cel R Reps.ints (q ns' h1 h2) np⟩
    · exact .inr ⟨a, bs, rfl, hq, fun ns' h1 h2 p np => k.cel R Reps.ints (q ns' h1 h2) np⟩
  | [], o => exact o.elim
  | _ :: _ :: _, o => exact o.elim
section
variable {X : Cx} {B : BS} {e : Expr} {t : RA} {p pos : Pos}
theorem d_sortA (hm : X.mg "sorted" = none) (ha : DA X B [e] t) (hg : Gl X "sorted" := by rfl) (he : starEach (e :: []) X.env = (false, eval e X.env) :: starEach [] X.env := by rfl) : DE X B (.Call (.Name "sorted" p) [e] [] pos) (dCB oSortA t) :=
  d_cb (cr_sortedI.or cr_sortedT2) cd_sortA hg hm (by decide +kernel) ha (by decide) (by decide) he rfl
theorem d_sortC (hm : X.mg "sorted" = none) (ha : DA X B [e] t) (hg : Gl X "sorted" := by rfl) (he : starEach (e :: []) X.env = (false, eval e X.env) :: starEach [] X.env := by rfl) : DE X B (.Call (.Name "sorted" p) [e] [] pos) (dCB oSortC t) :=
  d_cb (cr_sortedI.or cr_sortedT2) cd_sortC hg hm (by decide +kernel) ha (by decide) (by decide) he rfl
end
end DL
/-! DLV: steps through a reading, one rule a combinator. -/
namespace DL
open PySem PySem.Spec PyProof.Rows L2
section
variable {r : Ev} {C : Cs} {Q : QD} {D : EndsD} {t u : RS} {te ta tb tc : RE} {d : DL.D} {i j : Nat}
theorem v_seq (h : t { D with nx := u D } r C) : sSeq t u D r C := h
theorem v_set (h : te r C fun d C1 => D.nx (r.set i (some d)) C1) : sSet i te D r C := h
theorem v_asg {g : RG} (h : te r C fun d C1 => g d r C1 D.nx) : sAsg te g D r C := h
theorem v_drop (h : te r C fun _ C1 => D.nx r C1) : sDrop te D r C := h
theorem v_ret (h : te r C D.rt) : sRet te D r C := h
theorem v_retN (h : D.rt .non C) : sRetN D r C := h
theorem v_if {c : RT} (h : c r C fun b C1 => if b = true then t D r C1 else u D r C1) : sIf c t u D r C := h
theorem v_next (h : D.nx r C) : sNext D r C := h
theorem v_brk (h : D.bk r C) : sBrk D r C := h
theorem v_cnt (h : D.ct r C) : sCnt D r C := h
theorem v_par {ra : RA} (h : ra r C fun ds C1 => match ds with
  | [d, e] => D.nx ((r.set i (some d)).set j (some e)) C1
  | _ => False) : sPar i j ra D r C := h
theorem v_par3 {l : Nat} {ra : RA} (h : ra r C fun ds C1 => match ds with
  | [d, e, f] => D.nx (((r.set i (some d)).set j (some e)).set l (some f)) C1
  | _ => False) : sPar3 i j l ra D r C := h
theorem v_aug {o : O2} {x : DL.D} (e : r.getD i none = some x) (h : te r C fun y C1 => o x y C1 fun z C2 => D.nx (r.set i (some z)) C2) : sAug i o te D r C := by
  unfold sAug
  rw [e]
  exact h
theorem v_var (e : r.getD i none = some d) (h : Q d C) : dVar i r C Q := by
  unfold dVar
  rw [e]
  exact h
theorem v_c (h : Q d C) : dC d r C Q := h
theorem v_op {o : O2} (h : ta r C fun x C1 => tb r C1 fun y C2 => o x y C2 Q) : dOp o ta tb r C Q := h
theorem v_un {o : O1} (h : ta r C fun x C1 => o x C1 Q) : dUn o ta r C Q := h
theorem v_chain {o o' : O2} (h : ta r C fun x C1 => tb r C1 fun y C2 => o x y C2 fun z C3 => match z with
  | .bl true => tc r C3 fun w C4 => o' y w C4 Q
  | .bl false => Q (.bl false) C3
  | _ => False) : dChain o o' ta tb tc r C Q := h
theorem v_ifE {c : RT} (h : c r C fun b C1 => if b = true then ta r C1 Q else tb r C1 Q) : dIf c ta tb r C Q := h
theorem v_cons {tr : RA} {Q : List DL.D → Cs → Prop} (h : ta r C fun x C1 => tr r C1 fun xs C2 => Q (x :: xs) C2) : dCons ta tr r C Q := h
theorem v_nil {Q : List DL.D → Cs → Prop} (h : Q [] C) : dNil r C Q := h
theorem v_tup {ra : RA} (h : ra r C fun ds C1 => Q (.tup ds) C1) : dTup ra r C Q := h
theorem v_lst {ra : RA} (h : ra r C fun ds C1 => Q (.lst ds) C1) : dLst ra r C Q := h
theorem v_lstC {ra : RA} (h : ra r C fun ds C1 => Q (.cel C1.length) (C1 ++ [.lst ds])) : dLstC ra r C Q := h
theorem v_cb {o : OA} {ra : RA} (h : ra r C fun ds C1 => o ds C1 Q) : dCB o ra r C Q := h
theorem v_call {sp : SpD} {W : XW} {ra : RA} (h : ra r C fun ds C1 => sp ds C1 Q fun cls od C' => W cls od r C') : dCall sp W ra r C Q := h
theorem v_callK {sp : SpD} {W : XW} {p : List Nat} {ra rk : RA} (h : ra r C fun ds C1 => rk r C1 fun es C2 => sp (ds ++ pick p es) C2 Q fun cls od C' => W cls od r C') : dCallK sp p W ra rk r C Q := h
theorem v_ml {o : OM} {ra : RA} (h : ta r C fun d C1 => opt (llD C1 d) fun _ => ra r C1 fun ds C2 => o d ds C2 Q) : dMl o ta ra r C Q := h
theorem v_ml0 {o : OM} (h : ta r C fun d C1 => opt (llD C1 d) fun _ => o d [] C1 Q) : dMl0 o ta r C Q := h
theorem v_mt {o : OM} {ra : RA} (h : ta r C fun d C1 => isTupD d = true ∧ ra r C1 fun ds C2 => o d ds C2 Q) : dMt o ta ra r C Q := h
theorem v_sl {o : Cs → DL.D → Option Int → Option Int → QD → Prop} {tl th : RO} (h : te r C fun x C1 => tl r C1 fun l C2 => th r C2 fun u C3 => o C3 x l u Q) : dSl o te tl th r C Q := h
theorem v_no {Q : Option Int → Cs → Prop} (h : Q none C) : dNo r C Q := h
theorem v_part {Q : Option Int → Cs → Prop} (h : te r C fun d C1 => match d with
  | .int i => Q (some i) C1
  | _ => False) : dPart te r C Q := h
theorem v_rev (h : te r C fun d C1 => opt (llD C1 d) fun xs => Q (.lst xs.reverse) C1) : dRev te r C Q := h
theorem v_revC (h : te r C fun d C1 => opt (llD C1 d) fun xs => Q (.cel C1.length) (C1 ++ [.lst xs.reverse])) : dRevC te r C Q := h
theorem v_isi {T : String} (h : te r C fun d C1 => opt (isTy T d) fun b => Q (.bl b) C1) : dIsi T te r C Q := h
theorem v_isi2 {T U : String} (h : te r C fun d C1 => opt (isTy T d) fun b => opt (isTy U d) fun c => Q (.bl (b || c)) C1) : dIsi2 T U te r C Q := h
theorem v_andV (h : ta r C fun d C1 => match d with
  | .bl true => tb r C1 Q
  | .bl false => Q (.bl false) C1
  | _ => False) : dAndV ta tb r C Q := by
  unfold dAndV
  have e : (fun (d : DL.D) C1 => match d with
    | .bl true => tb r C1 Q
    | .bl false => Q (.bl false) C1
    | _ => False) = (fun d C1 => match d with
    | .bl b => if b = true then tb r C1 Q else Q (.bl false) C1
    | _ => False) := by
    funext d C1
    cases d with
    | bl b => cases b <;> rfl
    | _ => rfl
  first
    | exact h
    | (rw [e] at h; exact h)
theorem v_orV (h : ta r C fun d C1 => match d with
  | .bl true => Q (.bl true) C1
  | .bl false => tb r C1 Q
  | _ => False) : dOrV ta tb r C Q := by
  unfold dOrV
  have e : (fun (d : DL.D) C1 => match d with
    | .bl true => Q (.bl true) C1
    | .bl false => tb r C1 Q
    | _ => False) = (fun d C1 => match d with
    | .bl b => if b = true then Q (.bl true) C1 else tb r C1 Q
    | _ => False) := by
    funext d C1
    cases d with
    | bl b => cases b <;> rfl
    | _ => rfl
  first
    | exact h
    | (rw [e] at h; exact h)
theorem v_notV (h : ta r C fun d C1 => match d with
  | .bl true => Q (.bl false) C1
  | .bl false => Q (.bl true) C1
  | _ => False) : dNotV ta r C Q := by
  unfold dNotV
  refine Eq.mp (congrArg (ta r C) ?_) h
  funext d C1
  cases d with
  | bl b => cases b <;> rfl
  | _ => rfl
end
section
variable {r : Ev} {C : Cs} {Q : Bool → Cs → Prop} {t u : RT} {te : RE}
theorem v_test (h : te r C fun d C1 => match d with
  | .bl b => Q b C1
  | _ => False) : dTest te r C Q := h
theorem v_and (h : t r C fun c C1 => if c = true then u r C1 Q else Q false C1) : dAnd t u r C Q := h
theorem v_or (h : t r C fun c C1 => if c = true then Q true C1 else u r C1 Q) : dOr t u r C Q := h
theorem v_not (h : t r C fun c C1 => Q (!c) C1) : dNot t r C Q := h
theorem v_cNil (h : Q true C) : cNil r C Q := h
end
section
variable {r : Ev} {C : Cs} {Q : Ev → Cs → Prop} {d : D} {ds : List D} {g : RG} {gs : RGs} {i n : Nat}
theorem v_gN (h : Q (r.set i (some d)) C) : gN i d r C Q := h
theorem v_gNi (h : Q r C) : gNi [] r C Q := h
theorem v_gCo (h : g d r C fun r' C' => gs ds r' C' Q) : gCo g gs (d :: ds) r C Q := h
theorem v_gTupT (h : ds.length = n ∧ gs ds r C Q) : gTup n gs (.tup ds) r C Q := h
theorem v_gTupL (h : ds.length = n ∧ gs ds r C Q) : gTup n gs (.lst ds) r C Q := h
theorem v_gSb {to ti : RE} (h : to r C fun o C1 => ti r C1 fun i C2 => oSet o i d C2 fun C3 => Q r C3) : gSb to ti d r C Q := h
end
section
variable {r : Ev} {C : Cs} {Q : List D → (Cs → Prop) → Cs → Prop} {te te2 : RE}
theorem v_iSeq (h : te r C fun d C1 => opt (sqD C1 d) fun xs => Q xs (fun C' => sqD C' d = some xs) C1) : iSeq te r C Q := h
theorem v_iEnu (h : te r C fun d C1 => opt (sqD C1 d) fun xs => Q (enumD xs) (fun C' => sqD C' d = some xs) C1) : iEnu te r C Q := h
theorem v_iZip (h : te r C fun d C1 => te2 r C1 fun d2 C2 => opt (sqD C2 d) fun xs => opt (sqD C2 d2) fun ys => Q (zipD xs ys) (fun C' => sqD C' d = some xs ∧ sqD C' d2 = some ys) C2) : iZip2 te te2 r C Q := h
theorem v_iR1 (h : te r C fun d C1 => match d with
  | .int j => (-(2 ^ 62) ≤ j ∧ j ≤ 2 ^ 24) ∧ Q (rngD 0 j.toNat) (fun _ => True) C1
  | _ => False) : iR1 te r C Q := h
theorem v_iR2 (h : te r C fun d C1 => te2 r C1 fun e C2 => match d, e with
  | .int i, .int j => (-(2 ^ 24) ≤ i ∧ i ≤ 2 ^ 24 ∧ -(2 ^ 24) ≤ j ∧ j ≤ 2 ^ 24 ∧ j - i ≤ 2 ^ 24) ∧ Q (rngD i (j - i).toNat) (fun _ => True) C2
  | _, _ => False) : iR2 te te2 r C Q := h
theorem v_rR1 {Q : Int → Int → Cs → Prop} (h : te r C fun d C1 => match d with
  | .int j => Q 0 j C1
  | _ => False) : rR1 te r C Q := h
theorem v_rR2 {Q : Int → Int → Cs → Prop} (h : te r C fun d C1 => te2 r C1 fun e C2 => match d, e with
  | .int i, .int j => Q i j C2
  | _, _ => False) : rR2 te te2 r C Q := h
theorem v_lstR {C0 : Bool} {tr : RR} {Q : QD} (h : tr r C fun i j C1 => rgOk i j ∧ if C0 = true then Q (.cel C1.length) (C1 ++ [.lst (rngD i (j - i).toNat)]) else Q (.lst (rngD i (j - i).toNat)) C1) : dLstR C0 tr r C Q := h
theorem v_tupR {tr : RR} {Q : QD} (h : tr r C fun i j C1 => rgOk i j ∧ Q (.tup (rngD i (j - i).toNat)) C1) : dTupR tr r C Q := h
end
section
variable {C : Cs} {Q : QD} {i j : Int} {g : Int → Int → D} {P : Int → Int → Prop} {d : D} {xs ys : List D} {b c : Bool} {n : Nat}
theorem w_I (h : Q (g i j) C) : oI g (.int i) (.int j) C Q := h
theorem w_Ic (p : P i j) (h : Q (g i j) C) : oIc P g (.int i) (.int j) C Q := ⟨p, h⟩
theorem w_addI (h : Q (.int (i + j)) C) : oAdd (.int i) (.int j) C Q := h
theorem w_addT (hl : xs.length + ys.length ≤ sizeLine) (h : Q (.tup (xs ++ ys)) C) : oAdd (.tup xs) (.tup ys) C Q := ⟨hl, h⟩
theorem w_addL (hl : xs.length + ys.length ≤ sizeLine) (h : Q (.lst (xs ++ ys)) C) : oAdd (.lst xs) (.lst ys) C Q := ⟨hl, h⟩
theorem w_mulI (p : CMul i j) (h : Q (.int (i * j)) C) : oMul (.int i) (.int j) C Q := ⟨p, h⟩
theorem w_neg (h : Q (.int (-i)) C) : oNeg (.int i) C Q := h
theorem w_lenT (h : Q (.int xs.length) C) : oLen [.tup xs] C Q := h
theorem w_lenL (h : Q (.int xs.length) C) : oLen [.lst xs] C Q := h
theorem w_lenS (h : Q (.int xs.length) C) : oLen [.scr xs] C Q := h
theorem w_lenC (e : lsD C (.cel n) = some xs) (h : Q (.int xs.length) C) : oLen [.cel n] C Q := by
  show opt (lsD C (.cel n)) _
  rw [e]
  exact h
theorem w_ixT (e : atI xs i = some d) (h : Q d C) : oIx (.tup xs) (.int i) C Q := by
  show opt (atI xs i) _
  rw [e]
  exact h
theorem w_ixL (e : atI xs i = some d) (h : Q d C) : oIx (.lst xs) (.int i) C Q := by
  show opt (atI xs i) _
  rw [e]
  exact h
theorem w_ixS (e : atI xs i = some d) (h : Q d C) : oIx (.scr xs) (.int i) C Q := by
  show opt (atI xs i) _
  rw [e]
  exact h
theorem w_ixC (e0 : lsD C (.cel n) = some xs) (e : atI xs i = some d) (h : Q d C) : oIx (.cel n) (.int i) C Q := by
  show opt (lsD C (.cel n)) _
  rw [e0]
  show opt (atI xs i) _
  rw [e]
  exact h
theorem w_slT {lo hi : Option Int} (h : Q (.tup (cutD xs lo hi)) C) : oSl C (.tup xs) lo hi Q := h
theorem w_slL {lo hi : Option Int} (h : Q (.lst (cutD xs lo hi)) C) : oSl C (.lst xs) lo hi Q := h
theorem w_slS {lo hi : Option Int} (h : Q (.lst (cutD xs lo hi)) C) : oSl C (.scr xs) lo hi Q := h
theorem w_tupT (h : Q (.tup xs) C) : oTuple [.tup xs] C Q := h
theorem w_tupL (h : Q (.tup xs) C) : oTuple [.lst xs] C Q := h
theorem w_tupC (e0 : lsD C (.cel n) = some xs) (h : Q (.tup xs) C) : oTuple [.cel n] C Q := by
  show opt (lsD C (.cel n)) _
  rw [e0]
  exact h
theorem w_listT (h : Q (.lst xs) C) : oList [.tup xs] C Q := h
theorem w_listL (h : Q (.lst xs) C) : oList [.lst xs] C Q := h
theorem w_listCT (h : Q (.cel C.length) (C ++ [.lst xs])) : oListC [.tup xs] C Q := h
theorem w_listCL (h : Q (.cel C.length) (C ++ [.lst xs])) : oListC [.lst xs] C Q := h
theorem w_abs (h : Q (.int (if i < 0 then -i else i)) C) : oAbs [.int i] C Q := h
theorem w_int (h : Q (.int i) C) : oInt [.int i] C Q := h
theorem w_max2 (h : Q (.int (if j > i then j else i)) C) : oMax2 [.int i, .int j] C Q := h
theorem w_min2 (h : Q (.int (if j < i then j else i)) C) : oMin2 [.int i, .int j] C Q := h
theorem w_is {neg : Bool} {x y : D} (p : isConst y = true) (h : Q (.bl (if neg then !isSameB x y else isSameB x y)) C) : oIs neg x y C Q := ⟨p, h⟩
theorem w_app (e : lsD C (.cel n) = some xs) (hl : xs.length < sizeLine) (h : Q .non (C.set n (.lst (xs ++ [d])))) : oApp (.cel n) [d] C Q := by
  show opt (lsD C (.cel n)) _
  rw [e]
  exact ⟨hl, h⟩
theorem w_pop {y : D} (e : lsD C (.cel n) = some xs) (ey : xs[xs.length - 1]? = some y) (h : Q y (C.set n (.lst xs.dropLast))) : oPop (.cel n) [] C Q := by
  show opt (lsD C (.cel n)) _
  rw [e]
  show opt (xs[xs.length - 1]?) _
  rw [ey]
  exact h
theorem w_popAt {k : Nat} {y : D} (e : lsD C (.cel n) = some xs) (hi : i = k) (hk : k < 2 ^ 62) (ey : xs[k]? = some y) (h : Q y (C.set n (.lst (xs.eraseIdx k)))) : oPopAt (.cel n) [.int i] C Q := by
  show opt (lsD C (.cel n)) _
  rw [e]
  subst hi
  have hl : k < xs.length := (List.getElem?_eq_some_iff.mp ey).1
  refine ⟨⟨by omega, by omega⟩, ?_⟩
  have es : seqIndex? (k : Int) xs.length = some k := by
    unfold seqIndex?
    simp only [show ¬ ((k : Int) < 0) by omega, if_false]
    rw [if_pos (by simp; omega)]
    simp
  rw [es]
  show opt (xs[k]?) _
  rw [ey]
  exact h
theorem w_ins (e : lsD C (.cel n) = some xs) (hl : xs.length < sizeLine ∧ 0 ≤ i ∧ i < 2 ^ 63) (h : Q .non (C.set n (.lst (xs.take i.toNat ++ [d] ++ xs.drop i.toNat)))) : oIns (.cel n) [.int i, d] C Q := by
  show opt (lsD C (.cel n)) _
  rw [e]
  exact ⟨hl, h⟩
theorem opt_ok {α : Type} {o : Option α} {a : α} {Q : α → Prop} (e : o = some a) (h : Q a) : opt o Q := by
  rw [e]
  exact h
theorem ite_dec {p : Prop} [Decidable p] {A B : Prop} (h1 : p → A) (h2 : ¬ p → B) : if decide p = true then A else B := by
  by_cases h : p
  · rw [if_pos (decide_eq_true h)]
    exact h1 h
  · rw [if_neg (by simp [h])]
    exact h2 h
theorem ite_ndec {p : Prop} [Decidable p] {A B : Prop} (h1 : ¬ p → A) (h2 : p → B) : if (!decide p) = true then A else B := by
  by_cases h : p
  · rw [if_neg (by simp [h])]
    exact h2 h
  · rw [if_pos (by simp [h])]
    exact h1 h
theorem ite_b {b : Bool} {A B : Prop} (h1 : b = true → A) (h2 : b = false → B) : if b = true then A else B := by
  cases b
  · exact h2 rfl
  · exact h1 rfl
theorem ite_nb {b : Bool} {A B : Prop} (h1 : b = false → A) (h2 : b = true → B) : if (!b) = true then A else B := by
  cases b
  · exact h1 rfl
  · exact h2 rfl
theorem ite_true' {A B : Prop} (h : A) : if true = true then A else B := h
theorem ite_false' {A B : Prop} (h : B) : if false = true then A else B := h
end

/-! ### cells -/
theorem lsD_new {C : Cs} {xs : List D} : lsD (C ++ [.lst xs]) (.cel C.length) = some xs := by
  simp [lsD]
theorem lsD_at {C : Cs} {xs : List D} {n : Nat} (h : C[n]? = some (.lst xs)) : lsD C (.cel n) = some xs := by
  show (match C[n]? with | some (.lst xs) => some xs | none => none) = some xs
  rw [h]
theorem set_new {C : Cs} {x y : Cl} : (C ++ [x]).set C.length y = C ++ [y] := by
  rw [List.set_append_right _ _ (Nat.le_refl _)]
  simp
/-! ### plain data has no cell -/
theorem los_ints (k : Nat) : ∀ ns : List Int, los k (ns.map D.int) = true
  | [] => rfl
  | n :: ns => by
    show (lo k (.int n) && los k (ns.map D.int)) = true
    rw [los_ints k ns]
    rfl
theorem los_append {k : Nat} : ∀ {xs ys : List D}, los k (xs ++ ys) = (los k xs && los k ys)
  | [], ys => by simp [los]
  | x :: xs, ys => by
    show (lo k x && los k (xs ++ ys)) = _
    rw [los_append]
    simp [los, Bool.and_assoc]
theorem los_iff {k : Nat} : ∀ {xs : List D}, los k xs = true ↔ ∀ x ∈ xs, lo k x = true
  | [] => by simp [los]
  | x :: xs => by simp [los, los_iff]
theorem los_mem {k : Nat} {xs : List D} {x : D} (h : los k xs = true) (m : x ∈ xs) : lo k x = true := los_iff.mp h x m
/-- a comprehension's question -/
abbrev LcEx (items : List D) (G : Cs → Prop) (C1 : Cs) (rw' : Ev) (g : RG) (tt : RT) (te : RE) (K0 : Bool) (Q : QD) : Prop := ∃ I : Nat → List D → Cs → Prop, I 0 [] C1 ∧ (∀ i acc C, i ≤ items.length → I i acc C → G C) ∧
  (∀ i d acc C, items[i]? = some d → I i acc C → g d rw' C fun r2 C2 => tt r2 C2 fun b C3 => if b = true then te r2 C3 fun y C4 => I (i + 1) (acc ++ [y]) C4 else I (i + 1) acc C3) ∧
  ∀ acc C, I items.length acc C → if K0 = true then Q (.cel C.length) (C ++ [.lst acc]) else Q (.lst acc) C
section
variable {r : Ev} {C : Cs} {Q : QD} {i : Nat}
theorem v_varG (h : opt (r.getD i none) fun d => Q d C) : dVar i r C Q := h
theorem w_ixG {x : D} {j : Int} (h : opt (sqD C x) fun xs => opt (atI xs j) fun d => Q d C) : oIx x (.int j) C Q := by
  cases x <;> first | exact h | exact h.elim
theorem w_gTupG {n : Nat} {gs : RGs} {d : D} {Q : Ev → Cs → Prop} (h : opt (sqD C d) fun ds => ds.length = n ∧ gs ds r C Q) : gTup n gs d r C Q := h
theorem v_for {it : RI} {g : RG} {body : RS} {D : EndsD} (h : it r C fun items G C1 => ∃ I : Nat → Ev → Cs → Prop, I 0 r C1 ∧ (∀ i r C, i ≤ items.length → I i r C → G C) ∧
  (∀ i d r C, items[i]? = some d → I i r C → g d r C fun r2 C2 => body { nx := I (i + 1), rt := D.rt, bk := D.nx, ct := I (i + 1) } r2 C2) ∧ ∀ r C, I items.length r C → D.nx r C) : sFor it g body D r C := h
theorem v_while {c : RT} {body : RS} {D : EndsD} (h : ∃ W : Nat → Ev → Cs → Prop, (∃ n, W n r C) ∧ ∀ n r C, W n r C → c r C fun b C1 =>
  if b = true then body { nx := fun r C => ∃ k, k < n ∧ W k r C, rt := D.rt, bk := D.nx, ct := fun r C => ∃ k, k < n ∧ W k r C } r C1 else D.nx r C1) : sWhile c body D r C := h
theorem v_lc {K0 : Bool} {it : RI} {g : RG} {tt : RT} {te : RE} {own : List Nat} (h : it r C fun items G C1 => LcEx items G C1 (wipeD r own) g tt te K0 Q) : dLcB K0 it g tt te own r C Q := h
end
theorem shps_ints (k : Nat) : ∀ ns : List Int, shps k (ns.map D.int) = true
  | [] => by cases k <;> rfl
  | n :: ns => by
    have ih := shps_ints k ns
    show (shp k (.int n) && shps k (ns.map D.int)) = true
    rw [ih]
    cases k <;> rfl
theorem rdC_at {C : Cs} {n : Nat} {xs : List D} (h : C[n]? = some (.lst xs)) : rdC C (.cel n) = .lst xs := by
  show (match C[n]? with | some (.lst xs) => .lst xs | none => .cel n) = D.lst xs
  rw [h]
theorem eqv_nil : ∀ xs : List D, PyData.eqv (pd (.lst xs)) (pd (.lst [])) = xs.isEmpty
  | [] => by simp [pd, pds, PyData.eqv, PyData.eqvAll]
  | x :: xs => by simp [pd, pds, PyData.eqv, PyData.eqvAll]
section
variable {C : Cs} {Q : QD} {i j : Int} {n : Nat} {xs : List D} {neg : Bool}
theorem w_eqI (h : Q (.bl (decide (i = j))) C) : oEq (.int i) (.int j) C Q := h
theorem w_neI (h : Q (.bl (!decide (i = j))) C) : oNe (.int i) (.int j) C Q := h
theorem w_neNilC (e : C[n]? = some (.lst xs)) (s : shps 59 xs = true) (h : Q (.bl (!xs.isEmpty)) C) : oNe (.cel n) (.lst []) C Q := by
  refine ⟨by rw [rdC_at e]; exact s, rfl, ?_⟩
  rw [rdC_at e]
  show Q (.bl (!PyData.eqv (pd (.lst xs)) (pd (.lst [])))) C
  rw [eqv_nil]
  exact h
theorem w_eqNilC (e : C[n]? = some (.lst xs)) (s : shps 59 xs = true) (h : Q (.bl xs.isEmpty) C) : oEq (.cel n) (.lst []) C Q := by
  refine ⟨by rw [rdC_at e]; exact s, rfl, ?_⟩
  rw [rdC_at e]
  show Q (.bl (PyData.eqv (pd (.lst xs)) (pd (.lst [])))) C
  rw [eqv_nil]
  exact h
theorem w_neNilL (s : shps 59 xs = true) (h : Q (.bl (!xs.isEmpty)) C) : oNe (.lst xs) (.lst []) C Q := by
  refine ⟨s, rfl, ?_⟩
  show Q (.bl (!PyData.eqv (pd (.lst xs)) (pd (.lst [])))) C
  rw [eqv_nil]
  exact h
theorem w_eqNilL (s : shps 59 xs = true) (h : Q (.bl xs.isEmpty) C) : oEq (.lst xs) (.lst []) C Q := by
  refine ⟨s, rfl, ?_⟩
  show Q (.bl (PyData.eqv (pd (.lst xs)) (pd (.lst [])))) C
  rw [eqv_nil]
  exact h
end
theorem atI_neg1 {α : Type} (xs : List α) (x : α) : atI (xs ++ [x]) (-1) = some x := by
  unfold atI ixN
  have e : (-1 + ((xs ++ [x]).length : Int)).toNat = xs.length := by rw [List.length_append, List.length_singleton]; omega
  rw [if_neg (by decide), if_pos (by rw [List.length_append, List.length_singleton]; omega), e]
  show (xs ++ [x])[xs.length]? = some x
  simp
theorem atI_n {α : Type} {xs : List α} {i : Int} {n : Nat} {x : α} (hi : i = n) (h : xs[n]? = some x) : atI xs i = some x := by
  unfold atI ixN
  have hl := (List.getElem?_eq_some_iff.mp h).1
  subst hi
  rw [if_pos (by omega), if_pos (by omega)]
  show xs[((n : Int)).toNat]? = some x
  rw [Int.toNat_natCast]
  exact h
theorem snoc_cases {α : Type} (xs : List α) : xs = [] ∨ ∃ ys y, xs = ys ++ [y] := by
  cases e : xs.reverse with
  | nil => exact .inl (by simpa using e)
  | cons y ys => exact .inr ⟨ys.reverse, y, by have := congrArg List.reverse e; simpa using this⟩
theorem ite_nil {xs : List D} {A B : Prop} (h1 : xs ≠ [] → A) (h2 : xs = [] → B) : if (!xs.isEmpty) = true then A else B := by
  cases xs with
  | nil => exact h2 rfl
  | cons x xs => exact h1 (by simp)
theorem ite_isnil {xs : List D} {A B : Prop} (h1 : xs = [] → A) (h2 : xs ≠ [] → B) : if xs.isEmpty = true then A else B := by
  cases xs with
  | nil => exact h1 rfl
  | cons x xs => exact h2 (by simp)
theorem ixN_n {l n : Nat} {i : Int} (hi : i = n) (h : n < l) : ixN l i = some n := by
  unfold ixN
  subst hi
  rw [if_pos (by omega), if_pos (by omega), Int.toNat_natCast]
theorem w_setC {n k : Nat} {i : Int} {d : D} {xs : List D} {C : Cs} {Q : Cs → Prop} (e : lsD C (.cel n) = some xs) (hi : i = k) (hk : k < xs.length) (h : Q (C.set n (.lst (xs.set k d)))) : oSet (.cel n) (.int i) d C Q := by
  show opt (lsD C (.cel n)) _
  rw [e]
  show opt (ixN xs.length i) _
  rw [ixN_n hi hk]
  exact h
theorem v_C {P : Cs → Prop} {C C' : Cs} (e : C = C') (h : P C') : P C := by
  rw [e]
  exact h
theorem shps_iff {k : Nat} : ∀ {xs : List D}, shps k xs = true ↔ ∀ x ∈ xs, shp k x = true
  | [] => by simp [shps]
  | x :: xs => by simp [shps, shps_iff]
theorem iT_tuple_non : isTy "tuple" .non = some false := by
  show kitB "NoneType" "tuple" = some false
  decide +kernel
theorem iT_tuple_bl {b : Bool} : isTy "tuple" (.bl b) = some false := by
  show kitB "bool" "tuple" = some false
  decide +kernel
theorem iT_tuple_int {i : Int} : isTy "tuple" (.int i) = some false := by
  show kitB "int" "tuple" = some false
  decide +kernel
theorem iT_tuple_str {x : Str} : isTy "tuple" (.str x) = some false := by
  show kitB "str" "tuple" = some false
  decide +kernel
theorem iT_tuple_tup {xs : List D} : isTy "tuple" (.tup xs) = some true := by
  show kitB "tuple" "tuple" = some true
  decide +kernel
theorem iT_tuple_lst {xs : List D} : isTy "tuple" (.lst xs) = some false := by
  show kitB "list" "tuple" = some false
  decide +kernel
theorem iT_tuple_scr {xs : List D} : isTy "tuple" (.scr xs) = some false := by
  show kitB "list" "tuple" = some false
  decide +kernel
theorem iT_tuple_cel {n : Nat} : isTy "tuple" (.cel n) = some false := by
  show kitB "list" "tuple" = some false
  decide +kernel
theorem iT_int_non : isTy "int" .non = some false := by
  show kitB "NoneType" "int" = some false
  decide +kernel
theorem iT_int_bl {b : Bool} : isTy "int" (.bl b) = some true := by
  show kitB "bool" "int" = some true
  decide +kernel
theorem iT_int_int {i : Int} : isTy "int" (.int i) = some true := by
  show kitB "int" "int" = some true
  decide +kernel
theorem iT_int_str {x : Str} : isTy "int" (.str x) = some false := by
  show kitB "str" "int" = some false
  decide +kernel
theorem iT_int_tup {xs : List D} : isTy "int" (.tup xs) = some false := by
  show kitB "tuple" "int" = some false
  decide +kernel
theorem iT_int_lst {xs : List D} : isTy "int" (.lst xs) = some false := by
  show kitB "list" "int" = some false
  decide +kernel
theorem iT_int_scr {xs : List D} : isTy "int" (.scr xs) = some false := by
  show kitB "list" "int" = some false
  decide +kernel
theorem iT_int_cel {n : Nat} : isTy "int" (.cel n) = some false := by
  show kitB "list" "int" = some false
  decide +kernel
theorem iT_bool_non : isTy "bool" .non = some false := by
  show kitB "NoneType" "bool" = some false
  decide +kernel
theorem iT_bool_bl {b : Bool} : isTy "bool" (.bl b) = some true := by
  show kitB "bool" "bool" = some true
  decide +kernel
theorem iT_bool_int {i : Int} : isTy "bool" (.int i) = some false := by
  show kitB "int" "bool" = some false
  decide +kernel
theorem iT_bool_str {x : Str} : isTy "bool" (.str x) = some false := by
  show kitB "str" "bool" = some false
  decide +kernel
theorem iT_bool_tup {xs : List D} : isTy "bool" (.tup xs) = some false := by
  show kitB "tuple" "bool" = some false
  decide +kernel
theorem iT_bool_lst {xs : List D} : isTy "bool" (.lst xs) = some false := by
  show kitB "list" "bool" = some false
  decide +kernel
theorem iT_bool_scr {xs : List D} : isTy "bool" (.scr xs) = some false := by
  show kitB "list" "bool" = some false
  decide +kernel
theorem iT_bool_cel {n : Nat} : isTy "bool" (.cel n) = some false := by
  show kitB "list" "bool" = some false
  decide +kernel
theorem iT_str_non : isTy "str" .non = some false := by
  show kitB "NoneType" "str" = some false
  decide +kernel
theorem iT_str_bl {b : Bool} : isTy "str" (.bl b) = some false := by
  show kitB "bool" "str" = some false
  decide +kernel
theorem iT_str_int {i : Int} : isTy "str" (.int i) = some false := by
  show kitB "int" "str" = some false
  decide +kernel
theorem iT_str_str {x : Str} : isTy "str" (.str x) = some true := by
  show kitB "str" "str" = some true
  decide +kernel
theorem iT_str_tup {xs : List D} : isTy "str" (.tup xs) = some false := by
  show kitB "tuple" "str" = some false
  decide +kernel
theorem iT_str_lst {xs : List D} : isTy "str" (.lst xs) = some false := by
  show kitB "list" "str" = some false
  decide +kernel
theorem iT_str_scr {xs : List D} : isTy "str" (.scr xs) = some false := by
  show kitB "list" "str" = some false
  decide +kernel
theorem iT_str_cel {n : Nat} : isTy "str" (.cel n) = some false := by
  show kitB "list" "str" = some false
  decide +kernel
theorem iT_list_non : isTy "list" .non = some false := by
  show kitB "NoneType" "list" = some false
  decide +kernel
theorem iT_list_bl {b : Bool} : isTy "list" (.bl b) = some false := by
  show kitB "bool" "list" = some false
  decide +kernel
theorem iT_list_int {i : Int} : isTy "list" (.int i) = some false := by
  show kitB "int" "list" = some false
  decide +kernel
theorem iT_list_str {x : Str} : isTy "list" (.str x) = some false := by
  show kitB "str" "list" = some false
  decide +kernel
theorem iT_list_tup {xs : List D} : isTy "list" (.tup xs) = some false := by
  show kitB "tuple" "list" = some false
  decide +kernel
theorem iT_list_lst {xs : List D} : isTy "list" (.lst xs) = some true := by
  show kitB "list" "list" = some true
  decide +kernel
theorem iT_list_scr {xs : List D} : isTy "list" (.scr xs) = some true := by
  show kitB "list" "list" = some true
  decide +kernel
theorem iT_list_cel {n : Nat} : isTy "list" (.cel n) = some true := by
  show kitB "list" "list" = some true
  decide +kernel
theorem w_is_non_non {C : Cs} {Q : QD} (h : Q (.bl true) C) : oIs false .non .non C Q := ⟨rfl, h⟩
theorem w_is_t_non {C : Cs} {Q : QD} (h : Q (.bl false) C) : oIs false (.bl true) .non C Q := ⟨rfl, h⟩
theorem w_is_f_non {C : Cs} {Q : QD} (h : Q (.bl false) C) : oIs false (.bl false) .non C Q := ⟨rfl, h⟩
theorem w_is_int_non {i : Int} {C : Cs} {Q : QD} (h : Q (.bl false) C) : oIs false (.int i) .non C Q := ⟨rfl, h⟩
theorem w_is_str_non {x : Str} {C : Cs} {Q : QD} (h : Q (.bl false) C) : oIs false (.str x) .non C Q := ⟨rfl, h⟩
theorem w_is_tup_non {xs : List D} {C : Cs} {Q : QD} (h : Q (.bl false) C) : oIs false (.tup xs) .non C Q := ⟨rfl, h⟩
theorem w_is_lst_non {xs : List D} {C : Cs} {Q : QD} (h : Q (.bl false) C) : oIs false (.lst xs) .non C Q := ⟨rfl, h⟩
theorem w_is_scr_non {xs : List D} {C : Cs} {Q : QD} (h : Q (.bl false) C) : oIs false (.scr xs) .non C Q := ⟨rfl, h⟩
theorem w_is_cel_non {n : Nat} {C : Cs} {Q : QD} (h : Q (.bl false) C) : oIs false (.cel n) .non C Q := ⟨rfl, h⟩
theorem w_is_non_t {C : Cs} {Q : QD} (h : Q (.bl false) C) : oIs false .non (.bl true) C Q := ⟨rfl, h⟩
theorem w_is_t_t {C : Cs} {Q : QD} (h : Q (.bl true) C) : oIs false (.bl true) (.bl true) C Q := ⟨rfl, h⟩
theorem w_is_f_t {C : Cs} {Q : QD} (h : Q (.bl false) C) : oIs false (.bl false) (.bl true) C Q := ⟨rfl, h⟩
theorem w_is_int_t {i : Int} {C : Cs} {Q : QD} (h : Q (.bl false) C) : oIs false (.int i) (.bl true) C Q := ⟨rfl, h⟩
theorem w_is_str_t {x : Str} {C : Cs} {Q : QD} (h : Q (.bl false) C) : oIs false (.str x) (.bl true) C Q := ⟨rfl, h⟩
theorem w_is_tup_t {xs : List D} {C : Cs} {Q : QD} (h : Q (.bl false) C) : oIs false (.tup xs) (.bl true) C Q := ⟨rfl, h⟩
theorem w_is_lst_t {xs : List D} {C : Cs} {Q : QD} (h : Q (.bl false) C) : oIs false (.lst xs) (.bl true) C Q := ⟨rfl, h⟩
theorem w_is_scr_t {xs : List D} {C : Cs} {Q : QD} (h : Q (.bl false) C) : oIs false (.scr xs) (.bl true) C Q := ⟨rfl, h⟩
theorem w_is_cel_t {n : Nat} {C : Cs} {Q : QD} (h : Q (.bl false) C) : oIs false (.cel n) (.bl true) C Q := ⟨rfl, h⟩
theorem w_is_non_f {C : Cs} {Q : QD} (h : Q (.bl false) C) : oIs false .non (.bl false) C Q := ⟨rfl, h⟩
theorem w_is_t_f {C : Cs} {Q : QD} (h : Q (.bl false) C) : oIs false (.bl true) (.bl false) C Q := ⟨rfl, h⟩
theorem w_is_f_f {C : Cs} {Q : QD} (h : Q (.bl true) C) : oIs false (.bl false) (.bl false) C Q := ⟨rfl, h⟩
theorem w_is_int_f {i : Int} {C : Cs} {Q : QD} (h : Q (.bl false) C) : oIs false (.int i) (.bl false) C Q := ⟨rfl, h⟩
theorem w_is_str_f {x : Str} {C : Cs} {Q : QD} (h : Q (.bl false) C) : oIs false (.str x) (.bl false) C Q := ⟨rfl, h⟩
theorem w_is_tup_f {xs : List D} {C : Cs} {Q : QD} (h : Q (.bl false) C) : oIs false (.tup xs) (.bl false) C Q := ⟨rfl, h⟩
theorem w_is_lst_f {xs : List D} {C : Cs} {Q : QD} (h : Q (.bl false) C) : oIs false (.lst xs) (.bl false) C Q := ⟨rfl, h⟩
theorem w_is_scr_f {xs : List D} {C : Cs} {Q : QD} (h : Q (.bl false) C) : oIs false (.scr xs) (.bl false) C Q := ⟨rfl, h⟩
theorem w_is_cel_f {n : Nat} {C : Cs} {Q : QD} (h : Q (.bl false) C) : oIs false (.cel n) (.bl false) C Q := ⟨rfl, h⟩
theorem w_in_non_non {C : Cs} {Q : QD} (h : Q (.bl false) C) : oIs true .non .non C Q := ⟨rfl, h⟩
theorem w_in_t_non {C : Cs} {Q : QD} (h : Q (.bl true) C) : oIs true (.bl true) .non C Q := ⟨rfl, h⟩
theorem w_in_f_non {C : Cs} {Q : QD} (h : Q (.bl true) C) : oIs true (.bl false) .non C Q := ⟨rfl, h⟩
theorem w_in_int_non {i : Int} {C : Cs} {Q : QD} (h : Q (.bl true) C) : oIs true (.int i) .non C Q := ⟨rfl, h⟩
theorem w_in_str_non {x : Str} {C : Cs} {Q : QD} (h : Q (.bl true) C) : oIs true (.str x) .non C Q := ⟨rfl, h⟩
theorem w_in_tup_non {xs : List D} {C : Cs} {Q : QD} (h : Q (.bl true) C) : oIs true (.tup xs) .non C Q := ⟨rfl, h⟩
theorem w_in_lst_non {xs : List D} {C : Cs} {Q : QD} (h : Q (.bl true) C) : oIs true (.lst xs) .non C Q := ⟨rfl, h⟩
theorem w_in_scr_non {xs : List D} {C : Cs} {Q : QD} (h : Q (.bl true) C) : oIs true (.scr xs) .non C Q := ⟨rfl, h⟩
theorem w_in_cel_non {n : Nat} {C : Cs} {Q : QD} (h : Q (.bl true) C) : oIs true (.cel n) .non C Q := ⟨rfl, h⟩
theorem w_in_non_t {C : Cs} {Q : QD} (h : Q (.bl true) C) : oIs true .non (.bl true) C Q := ⟨rfl, h⟩
theorem w_in_t_t {C : Cs} {Q : QD} (h : Q (.bl false) C) : oIs true (.bl true) (.bl true) C Q := ⟨rfl, h⟩
theorem w_in_f_t {C : Cs} {Q : QD} (h : Q (.bl true) C) : oIs true (.bl false) (.bl true) C Q := ⟨rfl, h⟩
theorem w_in_int_t {i : Int} {C : Cs} {Q : QD} (h : Q (.bl true) C) : oIs true (.int i) (.bl true) C Q := ⟨rfl, h⟩
theorem w_in_str_t {x : Str} {C : Cs} {Q : QD} (h : Q (.bl true) C) : oIs true (.str x) (.bl true) C Q := ⟨rfl, h⟩
theorem w_in_tup_t {xs : List D} {C : Cs} {Q : QD} (h : Q (.bl true) C) : oIs true (.tup xs) (.bl true) C Q := ⟨rfl, h⟩
theorem w_in_lst_t {xs : List D} {C : Cs} {Q : QD} (h : Q (.bl true) C) : oIs true (.lst xs) (.bl true) C Q := ⟨rfl, h⟩
theorem w_in_scr_t {xs : List D} {C : Cs} {Q : QD} (h : Q (.bl true) C) : oIs true (.scr xs) (.bl true) C Q := ⟨rfl, h⟩
theorem w_in_cel_t {n : Nat} {C : Cs} {Q : QD} (h : Q (.bl true) C) : oIs true (.cel n) (.bl true) C Q := ⟨rfl, h⟩
theorem w_in_non_f {C : Cs} {Q : QD} (h : Q (.bl true) C) : oIs true .non (.bl false) C Q := ⟨rfl, h⟩
theorem w_in_t_f {C : Cs} {Q : QD} (h : Q (.bl true) C) : oIs true (.bl true) (.bl false) C Q := ⟨rfl, h⟩
theorem w_in_f_f {C : Cs} {Q : QD} (h : Q (.bl false) C) : oIs true (.bl false) (.bl false) C Q := ⟨rfl, h⟩
theorem w_in_int_f {i : Int} {C : Cs} {Q : QD} (h : Q (.bl true) C) : oIs true (.int i) (.bl false) C Q := ⟨rfl, h⟩
theorem w_in_str_f {x : Str} {C : Cs} {Q : QD} (h : Q (.bl true) C) : oIs true (.str x) (.bl false) C Q := ⟨rfl, h⟩
theorem w_in_tup_f {xs : List D} {C : Cs} {Q : QD} (h : Q (.bl true) C) : oIs true (.tup xs) (.bl false) C Q := ⟨rfl, h⟩
theorem w_in_lst_f {xs : List D} {C : Cs} {Q : QD} (h : Q (.bl true) C) : oIs true (.lst xs) (.bl false) C Q := ⟨rfl, h⟩
theorem w_in_scr_f {xs : List D} {C : Cs} {Q : QD} (h : Q (.bl true) C) : oIs true (.scr xs) (.bl false) C Q := ⟨rfl, h⟩
theorem w_in_cel_f {n : Nat} {C : Cs} {Q : QD} (h : Q (.bl true) C) : oIs true (.cel n) (.bl false) C Q := ⟨rfl, h⟩
theorem ite_nt {A B : Prop} (h : B) : if (!true) = true then A else B := h
theorem ite_nf {A B : Prop} (h : A) : if (!false) = true then A else B := h
theorem isTyG {T : String} {d : D} {Q : Bool → Prop} (h : opt (isTy T d) Q) : opt (isTy T d) Q := h
theorem oIsG {neg : Bool} {x y : D} {C : Cs} {Q : QD} (h : oIs neg x y C Q) : oIs neg x y C Q := h
theorem sIx_k (n d k : Nat) : HT.sIx n d (some ((k : Nat) : Int)) = min k n := HT.sIx_nat n d k
theorem cutD_hi (xs : List D) (k : Nat) : cutD xs none (some (k : Int)) = xs.take k := by
  unfold cutD
  rw [HT.sIx_none, HT.sIx_nat, List.drop_zero, Nat.sub_zero]
  rcases Nat.le_total k xs.length with h | h
  · rw [Nat.min_eq_left h]
  · rw [Nat.min_eq_right h, List.take_length, List.take_of_length_le h]
theorem cutD_lo (xs : List D) (k : Nat) : cutD xs (some (k : Int)) none = xs.drop k := by
  unfold cutD
  rw [HT.sIx_none, HT.sIx_nat]
  rcases Nat.le_total k xs.length with h | h
  · rw [Nat.min_eq_left h]
    exact List.take_of_length_le (by simp)
  · rw [Nat.min_eq_right h, Nat.sub_self, List.take_zero, List.drop_of_length_le h]
theorem cutD_both (xs : List D) (a b : Nat) : cutD xs (some (a : Int)) (some (b : Int)) = (xs.take b).drop a := by
  unfold cutD
  rw [HT.sIx_nat, HT.sIx_nat]
  rw [List.drop_take]
  rcases Nat.le_total a xs.length with h | h
  · rw [Nat.min_eq_left h]
    rcases Nat.le_total b xs.length with h2 | h2
    · rw [Nat.min_eq_left h2]
    · rw [Nat.min_eq_right h2, List.take_of_length_le (by simp), List.take_of_length_le (by simp; omega)]
  · rw [Nat.min_eq_right h, List.drop_of_length_le (Nat.le_refl _), List.drop_of_length_le h]
    simp
theorem cutD_loI (xs : List D) {i : Int} (h : 0 ≤ i) : cutD xs (some i) none = xs.drop i.toNat := by
  obtain ⟨k, rfl⟩ := Int.eq_ofNat_of_zero_le h
  exact cutD_lo xs k
theorem cutD_hiI (xs : List D) {i : Int} (h : 0 ≤ i) : cutD xs none (some i) = xs.take i.toNat := by
  obtain ⟨k, rfl⟩ := Int.eq_ofNat_of_zero_le h
  exact cutD_hi xs k
theorem cutD_bothI (xs : List D) {i j : Int} (h : 0 ≤ i) (h2 : 0 ≤ j) : cutD xs (some i) (some j) = (xs.take j.toNat).drop i.toNat := by
  obtain ⟨k, rfl⟩ := Int.eq_ofNat_of_zero_le h
  obtain ⟨l, rfl⟩ := Int.eq_ofNat_of_zero_le h2
  exact cutD_both xs k l
/-! ### comprehensions that change no cell -/
def lcK (f : Option D) (Y : D → Cs → Prop) (Z : Cs → Prop) (C : Cs) : Prop := match f with
  | some y => Y y C
  | none => Z C
theorem lc_ok {α : Type} {xs : List α} {e : α → D} {items : List D} (f : α → Option D) {G : Cs → Prop} {C : Cs} {r : Ev} {g : RG} {tt : RT} {te : RE} {K0 : Bool} {Q : QD} (hi : items = xs.map e) (hG : G C)
    (hs : ∀ x ∈ xs, ∀ (Y : D → Cs → Prop) (Z : Cs → Prop), lcK (f x) Y Z C → g (e x) r C fun r2 C2 => tt r2 C2 fun b C3 => if b = true then te r2 C3 Y else Z C3)
    (k : if K0 = true then Q (.cel C.length) (C ++ [.lst (xs.filterMap f)]) else Q (.lst (xs.filterMap f)) C) : LcEx items G C r g tt te K0 Q := by
  subst hi
  refine ⟨fun i acc C' => C' = C ∧ acc = (xs.take i).filterMap f, ⟨rfl, by simp⟩, fun i acc C' _ h => by rw [h.1]; exact hG, ?_, ?_⟩
  · rintro i d acc C' hd ⟨rfl, rfl⟩
    rw [List.getElem?_map] at hd
    cases hx : xs[i]? with
    | none => rw [hx] at hd; cases hd
    | some x =>
      rw [hx] at hd
      obtain rfl : e x = d := by simpa using hd
      have et : (xs.take (i + 1)).filterMap f = (xs.take i).filterMap f ++ (f x).toList := by
        rw [List.take_add_one, hx, List.filterMap_append]
        cases hf : f x <;> simp [hf]
      refine hs x (List.mem_of_getElem? hx) (fun y C4 => C4 = C' ∧ ((xs.take i).filterMap f ++ [y]) = (xs.take (i + 1)).filterMap f) (fun C3 => C3 = C' ∧ (xs.take i).filterMap f = (xs.take (i + 1)).filterMap f) ?_
      cases hf : f x with
      | none => exact ⟨rfl, by rw [et, hf]; simp⟩
      | some y => exact ⟨rfl, by rw [et, hf]; rfl⟩
  · rintro acc C' ⟨rfl, rfl⟩
    rw [List.length_map, List.take_length]
    exact k
/-! ### == of lists and tuples of ints -/
theorem eqvAll_ints : ∀ as bs : List Int, PyData.eqvAll (pds (as.map D.int)) (pds (bs.map D.int)) = decide (as = bs)
  | [], [] => by simp [pds, PyData.eqvAll]
  | [], b :: bs => by simp [pds, PyData.eqvAll]
  | a :: as, [] => by simp [pds, PyData.eqvAll]
  | a :: as, b :: bs => by
    have ih := eqvAll_ints as bs
    simp only [List.map_cons, pds, PyData.eqvAll, ih, pd, PyData.eqv]
    by_cases h : a = b <;> by_cases h2 : as = bs <;> simp [h, h2]
theorem eqD_tints (as bs : List Int) : eqD (.tup (as.map D.int)) (.tup (bs.map D.int)) = decide (as = bs) := by
  show PyData.eqv (.tuple (pds (as.map D.int))) (.tuple (pds (bs.map D.int))) = _
  rw [PyData.eqv, eqvAll_ints]
theorem eqD_lints (as bs : List Int) : eqD (.lst (as.map D.int)) (.lst (bs.map D.int)) = decide (as = bs) := by
  show PyData.eqv (.list (pds (as.map D.int))) (.list (pds (bs.map D.int))) = _
  rw [PyData.eqv, eqvAll_ints]
theorem shp_tints (n : Nat) (as : List Int) : shp (n + 1) (.tup (as.map D.int)) = true := by simpa [shp] using shps_ints n as
theorem shp_lints (n : Nat) (as : List Int) : shp (n + 1) (.lst (as.map D.int)) = true := by simpa [shp] using shps_ints n as
section
variable {C : Cs} {Q : QD} {as bs ns : List Int} {i : Int}
theorem w_eqT (h : Q (.bl (decide (as = bs))) C) : oEq (.tup (as.map D.int)) (.tup (bs.map D.int)) C Q := ⟨shp_tints 59 as, shp_tints 59 bs, by show Q (.bl (eqD _ _)) C; rw [show rdC C (.tup (as.map D.int)) = .tup (as.map D.int) from rfl, show rdC C (.tup (bs.map D.int)) = .tup (bs.map D.int) from rfl, eqD_tints]; exact h⟩
theorem w_neT (h : Q (.bl (!decide (as = bs))) C) : oNe (.tup (as.map D.int)) (.tup (bs.map D.int)) C Q := ⟨shp_tints 59 as, shp_tints 59 bs, by show Q (.bl (!eqD _ _)) C; rw [show rdC C (.tup (as.map D.int)) = .tup (as.map D.int) from rfl, show rdC C (.tup (bs.map D.int)) = .tup (bs.map D.int) from rfl, eqD_tints]; exact h⟩
theorem w_eqL (h : Q (.bl (decide (as = bs))) C) : oEq (.lst (as.map D.int)) (.lst (bs.map D.int)) C Q := ⟨shp_lints 59 as, shp_lints 59 bs, by show Q (.bl (eqD _ _)) C; rw [show rdC C (.lst (as.map D.int)) = .lst (as.map D.int) from rfl, show rdC C (.lst (bs.map D.int)) = .lst (bs.map D.int) from rfl, eqD_lints]; exact h⟩
theorem w_neL (h : Q (.bl (!decide (as = bs))) C) : oNe (.lst (as.map D.int)) (.lst (bs.map D.int)) C Q := ⟨shp_lints 59 as, shp_lints 59 bs, by show Q (.bl (!eqD _ _)) C; rw [show rdC C (.lst (as.map D.int)) = .lst (as.map D.int) from rfl, show rdC C (.lst (bs.map D.int)) = .lst (bs.map D.int) from rfl, eqD_lints]; exact h⟩
theorem any_ints (i : Int) : ∀ ns : List Int, (ns.map D.int).any (fun z => eqD z (.int i)) = ns.contains i
  | [] => rfl
  | n :: ns => by
    rw [List.map_cons, List.any_cons, any_ints i ns, List.contains_cons, eqD_int]
    congr 1
    rw [Bool.beq_eq_decide_eq]
    exact decide_eq_decide.mpr eq_comm
theorem flat_ints : ∀ ns : List Int, (ns.map D.int).all flatD = true
  | [] => rfl
  | n :: ns => by
    rw [List.map_cons, List.all_cons, flat_ints ns]
    rfl
theorem w_inT (h : Q (.bl (ns.contains i)) C) : oInN false (.int i) (.tup (ns.map D.int)) C Q := ⟨.inl ⟨rfl, flat_ints ns⟩, by show Q (.bl ((ns.map D.int).any fun z => eqD z (.int i))) C; rw [any_ints]; exact h⟩
theorem w_inL (h : Q (.bl (ns.contains i)) C) : oInN false (.int i) (.lst (ns.map D.int)) C Q := ⟨.inl ⟨rfl, flat_ints ns⟩, by show Q (.bl ((ns.map D.int).any fun z => eqD z (.int i))) C; rw [any_ints]; exact h⟩
theorem w_idxT (hm : i ∈ ns) (h : Q (.int (ns.idxOf i : Nat)) C) : oIdxT (.tup (ns.map D.int)) [.int i] C Q := by
  show opt (intsD (ns.map D.int)) _
  rw [intsD_map]
  exact ⟨hm, h⟩
theorem w_sorted (h : ∀ ns' : List Int, ns'.Perm ns → ns'.Pairwise (· ≤ ·) → Q (.lst (ns'.map D.int)) C) : oSortA [.lst (ns.map D.int)] C Q := by
  show opt (intsD (ns.map D.int)) _
  rw [intsD_map]
  exact h
theorem w_sortT (h : ∀ ns' : List Int, ns'.Perm ns → ns'.Pairwise (· ≤ ·) → Q (.lst (ns'.map D.int)) C) : oSortA [.tup (ns.map D.int)] C Q := by
  show opt (intsD (ns.map D.int)) _
  rw [intsD_map]
  exact h
end
/-! ### more ends of calls -/
theorem fin_wrL {C C1 : Cs} {n : Nat} {xs : List D} {Q : QD} (hl : C.length ≤ C1.length) (hn : C.length ≤ n) (e : C1[n]? = some (.lst xs)) (h : los C.length xs = true) (hc : loCs C.length (C1.take C.length) = true) (q : Q (.lst xs) (C1.take C.length)) : fin C (.cel n) C1 Q := by
  refine ⟨[], .lst xs, C1.take C.length, .nil, fun n hn => (nomatch hn), by simp; omega, hl, fun j m xs e1 e2 => ?_, .gone ?_ e (fzs_lo sel_get xs h), q⟩
  · rw [List.append_nil] at e1
    have hj : j < C.length := by simpa using (List.getElem?_eq_some_iff.mp e1).1
    have e : j = m := by
      have := (List.getElem?_eq_some_iff.mp e1).2
      simpa using this
    subst e
    have e3 : (C1.take C.length)[j]? = some (.lst xs) := by rw [List.getElem?_take, if_pos hj]; exact e2
    have := List.all_eq_true.mp hc _ (List.mem_of_getElem? e3)
    exact .inr ⟨xs, e3, fzs_lo sel_get xs this⟩
  · simp; omega
theorem fin_wrC {C C1 : Cs} {n : Nat} {xs : List D} {Q : QD} (hl : C.length ≤ C1.length) (hn : C.length ≤ n) (e : C1[n]? = some (.lst xs)) (h : los C.length xs = true) (hc : loCs C.length (C1.take C.length) = true) (q : Q (.cel C.length) (C1.take C.length ++ [.lst xs])) : fin C (.cel n) C1 Q := by
  have hnl := (List.getElem?_eq_some_iff.mp e).1
  have ht : (C1.take C.length).length = C.length := by simp; omega
  refine ⟨[n], .cel C.length, C1.take C.length ++ [.lst xs], by simp, fun k hk => ?_, by simp; omega, hl, fun j m ys e1 e2 => ?_, .keep (by simp), q⟩
  · have : k = n := by simpa using hk
    subst this
    exact ⟨hn, hnl⟩
  · by_cases hj : j < C.length
    · rw [sel_get j hj] at e1
      cases e1
      have e3 : (C1.take C.length)[j]? = some (.lst ys) := by rw [List.getElem?_take, if_pos hj]; exact e2
      have := List.all_eq_true.mp hc _ (List.mem_of_getElem? e3)
      exact .inr ⟨ys, by rw [List.getElem?_append_left (by omega)]; exact e3, fzs_lo sel_get ys this⟩
    · have : j = C.length ∧ m = n := by
        rw [List.getElem?_append_right (by simpa using hj)] at e1
        simp at e1
        cases hq : j - C.length with
        | zero => rw [hq] at e1; simp at e1; exact ⟨by omega, e1.symm⟩
        | succ i => rw [hq] at e1; simp at e1
      obtain ⟨rfl, rfl⟩ := this
      rw [e] at e2
      cases e2
      exact .inr ⟨xs, by rw [List.getElem?_append_right (by omega), ht, Nat.sub_self]; rfl, fzs_lo sel_get xs h⟩
theorem w_isTup {xs : List D} {P : Prop} (h : P) : isTupD (.tup xs) = true ∧ P := ⟨rfl, h⟩
theorem w_addCL {C : Cs} {Q : QD} {n : Nat} {xs ys : List D} (e : lsD C (.cel n) = some xs) (hl : xs.length + ys.length ≤ sizeLine) (h : Q (.lst (xs ++ ys)) C) : oAdd (.cel n) (.lst ys) C Q := by
  show opt (lsD C (.cel n)) _
  rw [e]
  exact ⟨hl, h⟩
theorem w_addLL {C : Cs} {Q : QD} {xs ys : List D} (hl : xs.length + ys.length ≤ sizeLine) (h : Q (.cel C.length) (C ++ [.lst (xs ++ ys)])) : oAddC (.lst xs) (.lst ys) C Q := ⟨hl, h⟩
theorem line_le {n : Nat} (h : n ≤ 100000) : n ≤ sizeLine := Nat.le_trans h (by decide)
theorem line_lt {n : Nat} (h : n < 100000) : n < sizeLine := Nat.lt_of_lt_of_le h (by decide)
/-- a call's end: plain data, the old cells as they are now -/
theorem fin_any {C C0 J : Cs} {d : D} {Q : QD} (hl : C0.length = C.length) (h : lo C.length d = true) (hc : loCs C.length C0 = true) (q : Q d C0) : fin C d (C0 ++ J) Q := by
  refine fin_wr (by rw [List.length_append, hl]; exact Nat.le_add_right _ _) h ?_ ?_
  · rw [List.take_left' hl]
    exact hc
  · rw [List.take_left' hl]
    exact q
theorem fin_any0 {C C0 : Cs} {d : D} {Q : QD} (hl : C0.length = C.length) (h : lo C.length d = true) (hc : loCs C.length C0 = true) (q : Q d C0) : fin C d C0 Q := by
  have := fin_any (J := []) hl h hc q
  rwa [List.append_nil] at this
theorem w_listL2 {C : Cs} {Q : QD} {xs : List D} (h : Q (.lst xs) C) : oList [.lst xs] C Q := h
theorem w_listC2 {C : Cs} {Q : QD} {n : Nat} {xs : List D} (e : lsD C (.cel n) = some xs) (h : Q (.lst xs) C) : oList [.cel n] C Q := by
  show opt (lsD C (.cel n)) _
  rw [e]
  exact h
theorem w_neTn {as : List Int} {C : Cs} {Q : QD} (h : Q (.bl (!decide (as = []))) C) : oNe (.tup (as.map D.int)) (.tup []) C Q := w_neT (bs := []) h
theorem w_eqTn {as : List Int} {C : Cs} {Q : QD} (h : Q (.bl (decide (as = []))) C) : oEq (.tup (as.map D.int)) (.tup []) C Q := w_eqT (bs := []) h
theorem w_neLn {as : List Int} {C : Cs} {Q : QD} (h : Q (.bl (!decide (as = []))) C) : oNe (.lst (as.map D.int)) (.lst []) C Q := w_neL (bs := []) h
theorem w_eqLn {as : List Int} {C : Cs} {Q : QD} (h : Q (.bl (decide (as = []))) C) : oEq (.lst (as.map D.int)) (.lst []) C Q := w_eqL (bs := []) h
theorem fm_filter (p : Int → Bool) : ∀ xs : List Int, xs.filterMap (fun z => if p z = true then some (D.int z) else none) = (xs.filter p).map D.int
  | [] => rfl
  | x :: xs => by
    have ih := fm_filter p xs
    by_cases hx : p x = true
    · rw [List.filterMap_cons, if_pos hx, List.filter_cons_of_pos hx, ih]
      rfl
    · rw [List.filterMap_cons, if_neg hx, List.filter_cons_of_neg hx, ih]
/-- a and b, both sides known -/
theorem andV_bl {x y : Bool} {A : Prop} {Q : Bool → Prop} (h : Q (x && y)) (ha : x = true → Q y → A) : match D.bl x with
    | .bl true => (x = true → A)
    | .bl false => Q false
    | _ => False := by
  cases x
  · exact h
  · exact fun e => ha e h
end DL
/-! DLY: t[::-1] of a tuple. -/
namespace DL
open PySem PySem.Spec PyProof PyProof.Rows L2 HT

theorem rev_range (l : List Value) : ((List.range l.length).filterMap fun (m : Nat) => l[(((l.length : Int) - 1) + (m : Int) * (-1)).toNat]?) = l.reverse := by
  refine List.ext_getElem? fun i => ?_
  have e : ∀ (xs : List Nat), (∀ m ∈ xs, m < l.length) → (xs.filterMap fun (m : Nat) => l[(((l.length : Int) - 1) + (m : Int) * (-1)).toNat]?) = xs.map fun m => l[l.length - 1 - m]?.getD default := fun xs h => by
    induction xs with
    | nil => rfl
    | cons m ms ih =>
      have hm := h m (by simp)
      have e1 : (((l.length : Int) - 1) + (m : Int) * (-1)).toNat = l.length - 1 - m := by omega
      have e2 : l[l.length - 1 - m]? = some (l[l.length - 1 - m]'(by omega)) := List.getElem?_eq_getElem (by omega)
      rw [List.filterMap_cons, e1, e2, List.map_cons, e2, ih fun m hm => h m (by simp [hm])]
      rfl
  rw [e _ (fun m hm => List.mem_range.mp hm)]
  by_cases hi : i < l.length
  · rw [List.getElem?_map, List.getElem?_range hi, List.getElem?_reverse hi]
    have e2 : l[l.length - 1 - i]? = some (l[l.length - 1 - i]'(by omega)) := List.getElem?_eq_getElem (by omega)
    show some (l[l.length - 1 - i]?.getD default) = _
    rw [e2]
    rfl
  · rw [List.getElem?_eq_none (by simp; omega), List.getElem?_eq_none (by simp; omega)]
section
variable {prog : Program} {w : World} {A : Around} {E : Value → Shared → Prop} {s : Shared}
theorem sliceApplied_rev {sl : Addr} {vl vu vs : Value} {n : Nat} {Q : Int × Int × Nat → Shared → Prop} (hs : s.heap.IsSliceOf sl vl vu vs) (pl : IsPart vl none) (pu : IsPart vu none) (ps : IsPart vs (some (-1)))
    (h : Q ((n : Int) - 1, -1, n) s) : wpAny (model prog w) A (Builtin.Slice.sliceApplied (.ref sl) (pure (n : Int))) Q E s := by
  obtain ⟨os, hos, hcs, hds⟩ := id hs
  unfold Builtin.Slice.sliceApplied Builtin.Slice.sliceFields
  refine wpAny_bind (wpAny_bind (wpAny_field hos hds (x := vl) rfl (wpAny_bind (wpAny_field hos hds (x := vu) rfl (wpAny_bind (wpAny_field hos hds (x := vs) rfl (wpAny_pure ?_)))))))
  refine wpAny_bind (slicePart_ ps ?_)
  show wpAny _ _ (if ((-1 : Int) == 0) = true then _ else _) _ _ s
  rw [if_neg (by decide)]
  refine wpAny_bind (slicePart_ pl (wpAny_bind (slicePart_ pu (wpAny_bind (wpAny_pure ?_)))))
  show wpAny _ _ (pure ((n : Int) - 1, (-1 : Int), Builtin.Slice.slicePlaces ((n : Int) - 1) (-1) (-1))) _ _ s
  have e : Builtin.Slice.slicePlaces ((n : Int) - 1) (-1) (-1) = n := by
    unfold Builtin.Slice.slicePlaces
    rw [if_neg (by decide)]
    split
    · have : ((n : Int) - 1 - -1 - 1) / -(-1) = (n : Int) - 1 := by
        rw [show -(-1 : Int) = 1 by decide, Int.ediv_one]
        omega
      rw [this]
      omega
    · omega
  rw [e]
  exact wpAny_pure h
theorem getItem_tuple_rev {t sl : Addr} {items : Array Value} {vl vu vs : Value} {Q : Value → Shared → Prop} (ht : IsTup s.heap t items) (hs : s.heap.IsSliceOf sl vl vu vs) (pl : IsPart vl none) (pu : IsPart vu none) (ps : IsPart vs (some (-1)))
    (h : Q (.ref s.heap.objs.size) { s with heap := s.heap.push { cls := .type "tuple", data := .seq items.toList.reverse.toArray } })
    (hsz : items.size ≤ sizeLine) : wpAny (model prog w) A (getItem (.ref t) (.ref sl)) Q E s := by
  have htake : sizeOk (.seq items.toList.reverse.toArray) := by
    show items.toList.reverse.toArray.size ≤ sizeLine
    simpa using hsz
  obtain ⟨os, hos, hcs, hds⟩ := id hs
  have hTs : s.TypeIs (.ref sl) "slice" := ⟨os, hos, hcs⟩
  unfold getItem
  try with_reducible refine wpAny_holding ?_
  first | refine wpAny_bind (wpAny_pure ?_) | skip
  refine wpAny_bind (wpAny_sequenceKey ht.typeIs (by decide) ?_)
  refine wpAny_bind (wpAny_callSpecial?_slot (name := Str.ofString "__getitem__") ht.typeIs PyProof.Rows.slot_tuple_getitem
    (wpAny_call_entry PyProof.Rows.slot_tuple_getitem ht.typeIs entry_tuple_getitem ?_ (args_tuple_getitem _ _)))
  show wpAny _ _ (Builtin.Tuple.tupleItemsOf (.ref t) >>= _) _ _ s
  refine wpAny_bind (tupleItemsOf_ ht ?_)
  refine wpAny_bind (wpAny_typeOf hTs ?_)
  rw [if_pos (by decide)]
  refine wpAny_bind (sliceApplied_rev hs pl pu ps ?_)
  have hno : ¬ ((((items.size : Int) - 1) == 0 && (-1 : Int) == 1 && items.size == items.size) = true) := by
    intro q
    rw [Bool.and_eq_true, Bool.and_eq_true] at q
    exact absurd q.1.2 (by decide)
  show wpAny _ _ (if (((items.size : Int) - 1) == 0 && (-1 : Int) == 1 && items.size == items.size) = true then _ else _) _ _ s
  have e : ((List.range items.size).filterMap fun (m : Nat) => items[(((items.size : Int) - 1) + (m : Int) * (-1)).toNat]?) = items.toList.reverse := by
    have := rev_range items.toList
    simp only [Array.length_toList, Array.getElem?_toList] at this
    exact this
  rw [if_neg hno, e]
  first
    | exact wpAny_bind (m := Builtin.Tuple.tupleExact _) (wpAny_newObj_type (wpAny_pure ⟨_, rfl, wpAny_pure h⟩) htake)
    | exact wpAny_bind (m := Builtin.Tuple.tupleExact _) (wpAny_newObj_type (wpAny_bind (wpAny_pure (wpAny_pure ⟨_, rfl, wpAny_pure h⟩))) htake)
    | exact wpAny_bind (wpAny_bind (m := Builtin.Tuple.tupleExact _) (wpAny_newObj_type (wpAny_pure (wpAny_pure ⟨_, rfl, wpAny_pure h⟩)) htake))
    | exact wpAny_bind (wpAny_bind (m := Builtin.Tuple.tupleExact _) (wpAny_newObj_type (wpAny_pure ⟨_, rfl, wpAny_pure h⟩) htake))
end
def tRevA (K : PySem.W.Frag) (te : TE) : TE := fun σ H Q => te σ H fun x H1 => (∃ a xs, x = .ref a ∧ SqT K H1 a xs ∧ ∀ p o, H1 p = none → o.dict = none → Q (.ref p) (upd H1 p (.frz o (.tup xs.reverse)))) ∨
  (∃ a xs, x = .ref a ∧ SqL K H1 a xs ∧ ∀ p, H1 p = none → Q (.ref p) (upd H1 p (.lst xs.reverse)))
theorem pe_revA {X : Cx} {e : Expr} {te : TE} {k : Nat} {p1 p2 p3 pos : Pos} (he : PE X e te) : PE X (.Subscript e (.Slice none none (some (.UnaryOp .USub (.Constant (.int 1) k p1) p2)) p3) pos) (tRevA X.K te) := by
  refine ⟨fun pins s σ H Q I h => ?_⟩
  refine Subscript_ (thn (he.run pins s σ H _ I h) fun v s1 ⟨x, H1, I1, r1, q1⟩ => ?_)
  have hst : PO X (some (.UnaryOp .USub (.Constant (.int 1) k p1) p2)) (tPart (tUn (rU fun i => .int (-i)) (tC (.int 1)))) := po_some (pe_un un_neg pe_int)
  refine wpAny_Slice (thn (po_none.run pins s1 σ H1 (fun o H2 => o = none ∧ H2 = H1) I1 ⟨rfl, rfl⟩) fun vl s2 ⟨l, H2, I2, pl, el, e2⟩ => ?_)
  subst el e2
  refine thn (po_none.run pins s2 σ H2 (fun o H3 => o = none ∧ H3 = H2) I2 ⟨rfl, rfl⟩) fun vu s3 ⟨u, H3, I3, pu, eu, e3⟩ => ?_
  subst eu e3
  refine thn (hst.run pins s3 σ H3 (fun o H4 => o = some (-1) ∧ H4 = H3) I3 ⟨1, rfl, -1, rfl, rfl, rfl⟩) fun vs s4 ⟨o, H4, I4, ps, eo, e4⟩ => ?_
  subst eo e4
  have I5 : Inv X pins σ H4 { s4 with heap := s4.heap.push { cls := .type "slice", data := .fields #[vl, vu, vs] } } := I4.kept (t' := s4.toks) fun b ob q => Heap.get?_push_of_some _ q
  rcases q1 with ⟨a, xs, ex, hx, q⟩ | ⟨a, xs, ex, hx, q⟩
  · subst ex
    cases r1
    obtain ⟨its, r, ht, hz⟩ := I5.tuple hx
    have hlen : its.toArray.size = xs.length := by rw [List.size_toArray]; exact r.length.symm
    show wpAny (model X.prog X.w) X.A (subscriptTail e (.Slice none none (some (.UnaryOp .USub (.Constant (.int 1) k p1) p2)) p3) (.ref a) (.ref s4.heap.objs.size)) (EP X pins σ Q) X.xe { s4 with heap := s4.heap.push { cls := .type "slice", data := .fields #[vl, vu, vs] } }
    refine tail_any (ops := [.ref a, .ref s4.heap.objs.size]) ht.typeIs (PyProof.Rows.slot_tuple_getitem.lookup) ?_ (by with_unfolding_all rfl)
    refine getItem_tuple_rev ht (Heap.IsSliceOf.new _ vl vu vs) pl pu ps ?_ (by rw [hlen]; exact hz)
    exact ⟨.ref _, _, Inv.tupF (t' := s4.toks) I5 (by rw [List.length_reverse]; exact hz) r.reverse, rfl, q _ _ (I5.hok.fresh (Nat.le_refl _)) rfl⟩
  · subst ex
    cases r1
    obtain ⟨its, r, ht, hz⟩ := I5.list hx
    have hlen := r.length
    show wpAny (model X.prog X.w) X.A (subscriptTail e (.Slice none none (some (.UnaryOp .USub (.Constant (.int 1) k p1) p2)) p3) (.ref a) (.ref s4.heap.objs.size)) (EP X pins σ Q) X.xe { s4 with heap := s4.heap.push { cls := .type "slice", data := .fields #[vl, vu, vs] } }
    refine tail_any (ops := [.ref a, .ref s4.heap.objs.size]) ht.isList.typeIs (PySem.slot_list_getitem.lookup) ?_ (by with_unfolding_all rfl)
    refine wpAny_getItem_list_slice ht.isList (Heap.IsSliceOf.new _ vl vu vs) pl pu ps (by decide) ?_ (by rw [List.size_toArray]; omega)
    rw [PySem.W.krv_pick]
    refine ⟨.ref _, _, I5.laid (t' := s4.toks) (o := .lst xs.reverse) (fun b ob q => Heap.get?_push_of_some _ q) (Nat.le_refl _) ?_, rfl, q _ (I5.hok.fresh (Nat.le_refl _))⟩
    exact ⟨by rw [List.length_reverse]; exact hz, _, 0, r.reverse, Heap.get?_push_size _ rfl⟩
/-- x[::-1] of a tuple or list -/
def dRevA (te : RE) : RE := fun r C Q => te r C fun d C1 => match d with
  | .tup xs => Q (.tup xs.reverse) C1
  | d => opt (llD C1 d) fun xs => Q (.lst xs.reverse) C1
theorem d_revA {X : Cx} {B : BS} {e : Expr} {te : RE} {p2 pos : Pos} {k : Nat} {p1 p3 : Pos} (he : DE X B e te) : DE X B (.Subscript e (.Slice none none (some (.UnaryOp .USub (.Constant (.int 1) k p1) p2)) p3) pos) (dRevA te) := by
  refine ⟨pe_imp (pe_revA he.run) fun σ H Q ⟨h, m, C, r, Q0, S, t, k⟩ => ?_⟩
  refine ⟨h, m, C, r, _, S, t, fun d1 C1 m1 H1 v1 q1 x1 R1 r1 => ?_⟩
  have L : (opt (llD C1 d1) fun xs => Q0 (.lst xs.reverse) C1) → (∃ a xs, v1 = .ref a ∧ SqT X.K H1 a xs ∧ ∀ p o, H1 p = none → o.dict = none → Q (.ref p) (upd H1 p (.frz o (.tup xs.reverse)))) ∨
      (∃ a xs, v1 = .ref a ∧ SqL X.K H1 a xs ∧ ∀ p, H1 p = none → Q (.ref p) (upd H1 p (.lst xs.reverse))) := fun o => by
    obtain ⟨xs, e1, q⟩ := opt_iff.mp o
    obtain ⟨a, vs, rfl, hq, rs⟩ := ll_ok R1 r1 e1
    exact .inr ⟨a, vs, rfl, hq, fun p np => Con.lst (Con.ext k x1) R1 rs.reverse q np⟩
  cases d1 with
  | tup xs =>
    obtain ⟨a, vs, ob, rfl, e, hd, rs⟩ := tp_ok R1 r1 rfl
    exact .inl ⟨a, vs, rfl, .inl (.inr ⟨ob, e⟩), fun p o np hd => Con.tup (Con.ext k x1) R1 rs.reverse q1 np hd⟩
  | _ => exact L q1
/-! ### o[i] op= e, o a list that is written -/
theorem pget_list {X : Cx} : PGet X (fun o i H Q => ∃ p xs k z, o = .ref p ∧ i = .int k ∧ SqL X.K H p xs ∧ atI xs k = some z ∧ Q z H) := by
  intro pins s σ H x y v u Q I rx ry h
  obtain ⟨p, xs, i, z, rfl, rfl, hq, he, q⟩ := h
  cases rx
  obtain ⟨t, rfl⟩ := ry
  obtain ⟨its, r, pl, hz⟩ := I.list hq
  obtain ⟨j, h1, h2, h3, h4, h5⟩ := atI_get he
  obtain ⟨w, ew, rw'⟩ := r.get h2
  have hl := r.length
  have hn := line63
  have fin : EP X pins σ Q w s := ⟨z, H, I, rw', q⟩
  by_cases h0 : 0 ≤ i
  · have hj : i.toNat = j := by
      rw [seqIndex_of h0 h5] at h1
      exact Option.some.inj h1
    exact wpAny_getItem_list pl.isList h0 (by omega) (by rw [hj]; simpa using ew) fin
  · have hj : (i + (its.toArray.size : Int)).toNat = j := by
      rw [seqIndex_neg (by omega) h4] at h1
      rw [List.size_toArray, ← hl]
      exact Option.some.inj h1
    exact wpAny_getItem_list_neg pl.isList (by omega) (by rw [List.size_toArray] <;> omega) (by omega) (by rw [hj]; simpa using ew) fin
def sAugS (op : O2) (to ti te : RE) : RS := fun D r C => to r C fun o C1 => ti r C1 fun i C2 => match o, i with
  | .cel n, .int k => opt (lsD C2 (.cel n)) fun xs => opt (atI xs k) fun x => te r C2 fun y C3 => op x y C3 fun z C4 => oSet (.cel n) (.int k) z C4 fun C5 => D.nx r C5
  | _, _ => False
theorem lsD_cel {C : Cs} {n : Nat} {xs : List D} (e : lsD C (.cel n) = some xs) : C[n]? = some (.lst xs) := by
  have e1' : (match C[n]? with | some (.lst xs) => some xs | none => none) = some xs := e
  cases hc : C[n]? with
  | none => rw [hc] at e1'; cases e1'
  | some c => cases c; rw [hc] at e1'; cases e1'; rfl
theorem ds_augS {X : Cx} {B : BS} {o i e : Expr} {to ti te : RE} {tpos pos : Pos} {op : Operator} {q : R2} {od : O2} (ho : DE X B o to) (hi : DE X B i ti) (he : DE X B e te) (hp : PIp X op q) (hod : OpD X.K q od)
    (ha : ∀ ov iv new, augStore i ov iv new = (do holding [new, ov, iv] (setItem ov iv new); release [new, ov, iv] []; pure .next) := by intros; rfl) : DS X B (.AugAssign (.Subscript o i tpos) op e pos) (sAugS od to ti te) := by
  refine ⟨ps_imp (ps_augS ho.run hi.run pget_list he.run hp set_list ha) fun D σ H ⟨h, m, C, r, D0, S, t, k⟩ => ?_⟩
  refine ⟨h, m, C, r, _, S, t, fun d1 C1 m1 H1 v1 q1 x1 R1 r1 => ?_⟩
  have S1 := S.ext x1 R1
  refine ⟨h, m1, C1, r, _, S1, q1, fun d2 C2 m2 H2 v2 q2 x2 R2 r2 => ?_⟩
  have S2 := S1.ext x2 R2
  cases d1 <;> first | exact q2.elim | skip
  cases d2 <;> first | exact q2.elim | skip
  rename_i n kk
  obtain ⟨xs, e1, q2⟩ := opt_iff.mp q2
  obtain ⟨x, e2, q2⟩ := opt_iff.mp q2
  have hc := lsD_cel e1
  obtain ⟨a, rfl, ea⟩ := x2.rep r1
  obtain ⟨a', us, e3, hq, rs⟩ := ll_ok R2 (show Rep X.K m2 (hz h m2 H2) (.cel n) (.ref a) from ⟨a, rfl, ea⟩) (show llD C2 (.cel n) = some xs from e1)
  cases e3
  obtain ⟨w, hw, rw'⟩ := atI_reps rs e2
  refine ⟨a, us, kk, w, rfl, r2, hq, hw, h, m2, C2, r, _, S2, q2, fun d4 C4 m4 H4 v4 q4 x4 R4 r4 => ?_⟩
  refine hod h m4 C4 H4 x d4 w v4 _ _ R4 (x4.rep rw') r4 q4 fun z C5 m5 H5 v5 q5 x5 R5 r5 => ?_
  have S5 := (S2.ext x4 R4).ext x5 R5
  obtain ⟨ys, f1, q5⟩ := opt_iff.mp q5
  obtain ⟨jj, f2, q5⟩ := opt_iff.mp q5
  have hc5 := lsD_cel f1
  obtain ⟨b, hb, us5, k1, k2⟩ := R5.cell n _ hc5
  have ea5 := (x4.trans x5).rep (show Rep X.K m2 (hz h m2 H2) (.cel n) (.ref a) from ⟨a, rfl, ea⟩)
  obtain ⟨a2, e6, ea5⟩ := ea5
  cases e6
  rw [ea5] at hb
  cases hb
  obtain ⟨x6, R6⟩ := R5.write hc5 ea5 (k2.set jj r5)
  refine ⟨a, us5, kk, jj, rfl, r2, k1, by rw [← k2.length]; exact f2, ?_⟩
  exact Fol.nx (Fol.ext k (((x1.trans x2).trans (x4.trans x5)).trans x6)) (S5.ext x6 R6) q5
theorem ds_augSA {X : Cx} {B : BS} {o i e : Expr} {to ti te : RE} {tpos pos : Pos} (ho : DE X B o to) (hi : DE X B i ti) (he : DE X B e te)
    (ha : ∀ ov iv new, augStore i ov iv new = (do holding [new, ov, iv] (setItem ov iv new); release [new, ov, iv] []; pure .next) := by intros; rfl) : DS X B (.AugAssign (.Subscript o i tpos) .Add e pos) (sAugS (oI fun i j => .int (i + j)) to ti te) := ds_augS ho hi he iop_add (od_I fun _ _ _ _ => rfl) ha
theorem ds_augSS {X : Cx} {B : BS} {o i e : Expr} {to ti te : RE} {tpos pos : Pos} (ho : DE X B o to) (hi : DE X B i ti) (he : DE X B e te)
    (ha : ∀ ov iv new, augStore i ov iv new = (do holding [new, ov, iv] (setItem ov iv new); release [new, ov, iv] []; pure .next) := by intros; rfl) : DS X B (.AugAssign (.Subscript o i tpos) .Sub e pos) (sAugS (oI fun i j => .int (i - j)) to ti te) := ds_augS ho hi he iop_sub (od_I fun _ _ _ _ => rfl) ha
end DL
/-! DLZ: max of a list of pairs of whole numbers; lists times a number, a new cell. -/
namespace DL
open PySem PySem.Spec PyProof PyProof.Rows L2 HT
abbrev PI := Int × Int
def prD2 (p : PI) : PyData := .tuple [.int p.1, .int p.2]
theorem toD_pair (p : PI) : PySem.W.Datum.toD p = prD2 p := rfl
def rMaxP (K : PySem.W.Frag) : List V → Hp → VK → Prop := fun vs H Q => ∃ (a : Addr) (us : List V) (p : PI) (ps : List PI), vs = [V.ref a] ∧ SqL K H a us ∧ DpAll K H us ((p :: ps).map prD2) ∧
  ∀ (i : Nat) u, us[i]? = some u → (p :: ps)[i]? = some (PySem.W.maxOf p ps) → Q u H
theorem prD2_inj {p q : PI} (h : prD2 p = prD2 q) : p = q := by
  obtain ⟨a, b⟩ := p
  obtain ⟨c, d⟩ := q
  simp only [prD2, PyData.tuple.injEq, List.cons.injEq, PyData.int.injEq, and_true] at h
  rw [h.1, h.2]
theorem vals_at {us : List V} {its : List Value} (r : Vals us its) {i : Nat} {v : Value} (h : its[i]? = some v) : ∃ u, us[i]? = some u ∧ RelV u v := by
  induction r generalizing i with
  | nil => cases h
  | cons a b ih =>
    cases i with
    | zero => cases h; exact ⟨_, rfl, a⟩
    | succ i => exact ih h
theorem cr_maxP {X : Cx} {k : Nat} (hc : X.calm = true) (hr : Room k X.A) : CallR X (.builtin "max") (rMaxP X.K) := by
  intro pins s σ H vs us Q I r h
  obtain ⟨a, xs, p, ps, rfl, hs, hd, q⟩ := h
  obtain ⟨its, rv, hl, _⟩ := I.list hs
  rw [Vals.ref1 r]
  obtain ⟨as, h4⟩ := Dp.readsAll I _ _ _ hd rv
  have hu : X.A.units + 1 + PySem.W.Datum.depth PI < cLine := by
    have := hr.un
    show X.A.units + 1 + 1 < cLine
    omega
  refine PySem.W.max_list_datum (α := PI) (x := p) (xs := ps) (I.ok.hd hc) hl.isList ⟨as, h4⟩ hu fun i v h' tk hi ho hk => ?_
  obtain ⟨bs, ho⟩ := ho
  have hi' : its[i]? = some v := by simpa using hi
  obtain ⟨bs', r', hlt, _, _⟩ := PySem.W.readsAll_atA (vs := its.toArray) h4 i v hi
  obtain ⟨e, _⟩ := reads_det (fun b o e _ => hk b o e) r' ho
  obtain ⟨u, hu', ru⟩ := vals_at rv hi'
  refine ⟨u, H, I.kept hk, ru, q i u hu' ?_⟩
  have hlt' : i < (p :: ps).length := by simpa using hlt
  have e2 : prD2 (PySem.W.maxOf p ps) = prD2 ((p :: ps)[i]'hlt') := by
    have e : prD2 (PySem.W.maxOf p ps) = ((p :: ps).map prD2).getD i .none := e
    rw [e, List.getD_eq_getElem?_getD, List.getElem?_map, List.getElem?_eq_getElem hlt']
    rfl
  rw [List.getElem?_eq_getElem hlt', prD2_inj e2]
/-- pairs of ints -/
def pairsD : List D → Option (List PI)
  | [] => some []
  | .tup [.int a, .int b] :: xs => match pairsD xs with
    | some ps => some ((a, b) :: ps)
    | none => none
  | _ => none
theorem pairsD_map (ps : List PI) : pairsD (ps.map fun p => D.tup [.int p.1, .int p.2]) = some ps := by
  induction ps with
  | nil => rfl
  | cons p ps ih =>
    obtain ⟨a, b⟩ := p
    show (match pairsD (ps.map fun p => D.tup [.int p.1, .int p.2]) with | some ps => some ((a, b) :: ps) | none => none) = _
    rw [ih]
theorem pairsD_eq : ∀ {xs : List D} {ps : List PI}, pairsD xs = some ps → xs = ps.map fun p => D.tup [.int p.1, .int p.2]
  | [], ps, h => by cases h; rfl
  | x :: xs, ps, h => by
    unfold pairsD at h
    split at h
    · rename_i e
      cases e
    · rename_i a b ys e
      cases e
      split at h
      · rename_i ps' e'
        cases h
        rw [pairsD_eq e']
        rfl
      · cases h
    · cases h
def maxP (ps : List PI) : PI := match ps with
  | [] => (0, 0)
  | p :: ps => PySem.W.maxOf p ps
def oMaxP : OA := fun ds C Q => match ds with
  | [d] => opt (llD C d) fun xs => opt (pairsD xs) fun ps => ps ≠ [] ∧ Q (.tup [.int (maxP ps).1, .int (maxP ps).2]) C
  | _ => False
theorem shps_pairs (ps : List PI) : shps 1 (ps.map fun p => D.tup [.int p.1, .int p.2]) = true := by
  induction ps with
  | nil => rfl
  | cons p ps ih =>
    show (true && shps 1 (ps.map fun p => D.tup [.int p.1, .int p.2])) = true
    rw [ih]
    rfl
theorem reps_at {K : PySem.W.Frag} {m : List Addr} {H : Hp} {ds : List D} {vs : List V} (r : Reps K m H ds vs) {i : Nat} {d : D} {v : V} (h : ds[i]? = some d) (h2 : vs[i]? = some v) : Rep K m H d v := by
  obtain ⟨v', e, q⟩ := r.get h
  rw [h2] at e
  cases e
  exact q
theorem cd_maxP {K : PySem.W.Frag} : CallD K (rMaxP K) oMaxP := by
  intro h m C H ds vs Q0 Q R rs o k
  match ds, o with
  | [d], o =>
    obtain ⟨xs, e1, o⟩ := opt_iff.mp o
    obtain ⟨ps, e2, hne, q⟩ := opt_iff.mp o
    obtain ⟨v, rfl, r1⟩ := reps1 rs
    obtain ⟨a, us, rfl, hq, ru⟩ := ll_ok R r1 e1
    have ex := pairsD_eq e2
    subst ex
    cases ps with
    | nil => exact absurd rfl hne
    | cons p ps =>
      have hd := dps_of 1 _ (shps_pairs (p :: ps)) (Reps.real ru)
      have e3 : pds ((p :: ps).map fun p => D.tup [.int p.1, .int p.2]) = (p :: ps).map prD2 := by
        rw [pds_map, List.map_map]
        rfl
      rw [e3] at hd
      refine ⟨a, us, p, ps, rfl, hq, hd, fun i u hu hp => ?_⟩
      have hdi : ((p :: ps).map fun p => D.tup [.int p.1, .int p.2])[i]? = some (.tup [.int (PySem.W.maxOf p ps).1, .int (PySem.W.maxOf p ps).2]) := by
        rw [List.getElem?_map, hp]
        rfl
      exact k.now R (reps_at ru hdi hu) q
  | [], o => exact o.elim
  | _ :: _ :: _, o => exact o.elim
theorem d_maxP {X : Cx} {B : BS} {e : Expr} {t : RA} {p pos : Pos} {k : Nat} (hr : Room k X.A) (hc : X.calm = true) (hm : X.mg "max" = none) (ha : DA X B [e] t) (hg : Gl X "max" := by rfl) (he : starEach (e :: []) X.env = (false, eval e X.env) :: starEach [] X.env := by rfl) : DE X B (.Call (.Name "max" p) [e] [] pos) (dCB oMaxP t) :=
  d_cb (cr_maxP hc hr) cd_maxP hg hm (by decide +kernel) ha (by decide) (by decide) he rfl
/-! ### xs * n, a new cell -/
def oMulC : O2 := fun x y C Q => match y with
  | .int k => opt (lsD C x) fun xs => (-(2 ^ 63) ≤ k ∧ k < 2 ^ 63 ∧ xs.length * k.toNat ≤ sizeLine) ∧ Q (.cel C.length) (C ++ [.lst (List.replicate k.toNat xs).flatten])
  | _ => False
theorem d_mulC {X : Cx} {B : BS} {a b : Expr} {ta tb : RE} {pos : Pos} (ha : DE X B a ta) (hb : DE X B b tb) : DE X B (.BinOp a .Mult b pos) (dOp oMulC ta tb) := by
  refine d_op op_rep (fun h m C H d1 d2 v1 v2 Q0 Q R r1 r2 o k => ?_) ha hb
  cases d2 <;> first | exact o.elim | skip
  rename_i j
  obtain ⟨xs, e1, ⟨b1, b2, b3⟩, q⟩ := opt_iff.mp o
  obtain ⟨a, vs, rfl, h1, p1⟩ := ls_ok R r1 e1
  exact ⟨a, j, vs, rfl, r2, h1, b1, b2, by rw [← p1.length]; exact b3, fun p np => k.cel R (p1.rep _) q np⟩
/-! ### max of ints or pairs, min of ints -/
def rMaxA (K : PySem.W.Frag) : List V → Hp → VK → Prop := fun vs H Q => rMax K vs H Q ∨ rMaxP K vs H Q
theorem cr_maxA {X : Cx} {k : Nat} (hc : X.calm = true) (hr : Room k X.A) : CallR X (.builtin "max") (rMaxA X.K) := by
  intro pins s σ H vs us Q I r h
  rcases h with h | h
  · exact cr_max hc pins s σ H vs us Q I r h
  · exact cr_maxP hc hr pins s σ H vs us Q I r h
def oMaxA : OA := fun ds C Q => match ds with
  | [d] => opt (llD C d) fun xs => match intsD xs with
    | some ns => 0 < ns.length ∧ ∀ m, m ∈ ns → (∀ y, y ∈ ns → y ≤ m) → Q (.int m) C
    | none => opt (pairsD xs) fun ps => ps ≠ [] ∧ Q (.tup [.int (maxP ps).1, .int (maxP ps).2]) C
  | _ => False
theorem cd_maxA {K : PySem.W.Frag} : CallD K (rMaxA K) oMaxA := by
  intro h m C H ds vs Q0 Q R rs o k
  match ds, o with
  | [d], o =>
    obtain ⟨xs, e1, o⟩ := opt_iff.mp o
    cases e2 : intsD xs with
    | some ns =>
      rw [e2] at o
      exact .inl (cd_maxL h m C H [d] vs Q0 Q R rs (opt_iff.mpr ⟨xs, e1, opt_iff.mpr ⟨ns, e2, o⟩⟩) k)
    | none =>
      rw [e2] at o
      exact .inr (cd_maxP h m C H [d] vs Q0 Q R rs (opt_iff.mpr ⟨xs, e1, o⟩) k)
  | [], o => exact o.elim
  | _ :: _ :: _, o => exact o.elim
theorem d_maxA {X : Cx} {B : BS} {e : Expr} {t : RA} {p pos : Pos} {k : Nat} (hr : Room k X.A) (hc : X.calm = true) (hm : X.mg "max" = none) (ha : DA X B [e] t) (hg : Gl X "max" := by rfl) (he : starEach (e :: []) X.env = (false, eval e X.env) :: starEach [] X.env := by rfl) : DE X B (.Call (.Name "max" p) [e] [] pos) (dCB oMaxA t) :=
  d_cb (cr_maxA hc hr) cd_maxA hg hm (by decide +kernel) ha (by decide) (by decide) he rfl
def oMinL : OA := fun ds C Q => match ds with
  | [d] => opt (llD C d) fun xs => opt (intsD xs) fun ns => 0 < ns.length ∧ ∀ m, m ∈ ns → (∀ y, y ∈ ns → m ≤ y) → Q (.int m) C
  | _ => False
theorem cd_minL {K : PySem.W.Frag} : CallD K (rMin K) oMinL := by
  intro h m C H ds vs Q0 Q R rs o k
  match ds, o with
  | [d], o =>
    obtain ⟨xs, e1, o⟩ := opt_iff.mp o
    obtain ⟨ns, e2, hl, q⟩ := opt_iff.mp o
    obtain ⟨v, rfl, r1⟩ := reps1 rs
    obtain ⟨a, us, rfl, hq, ru⟩ := ll_ok R r1 e1
    rw [ints_rep ru e2] at hq
    exact ⟨a, ns, rfl, hq, hl, fun m h1 h2 => k.int R (q m h1 h2)⟩
  | [], o => exact o.elim
  | _ :: _ :: _, o => exact o.elim
theorem d_minL {X : Cx} {B : BS} {e : Expr} {t : RA} {p pos : Pos} (hc : X.calm = true) (hm : X.mg "min" = none) (ha : DA X B [e] t) (hg : Gl X "min" := by rfl) (he : starEach (e :: []) X.env = (false, eval e X.env) :: starEach [] X.env := by rfl) : DE X B (.Call (.Name "min" p) [e] [] pos) (dCB oMinL t) :=
  d_cb (cr_min hc) cd_minL hg hm (by decide +kernel) ha (by decide) (by decide) he rfl
/-! ### xs.index(x), plain data -/
def oIdxD : OM := fun d ds C Q => match ds with
  | [y] => opt (llD C d) fun xs => (shp 60 y = true ∧ shps 59 xs = true ∧ xs.any (fun z => eqD z y) = true) ∧ Q (.int (xs.findIdx (fun z => eqD z y) : Nat)) C
  | _ => False
theorem md_idxD {K : PySem.W.Frag} : MetD K (rIndexD K) oIdxD := by
  intro h m C H d ds v vs Q0 Q R r rs o k
  match ds, o with
  | [y], o =>
    obtain ⟨xs, e, ⟨s1, s2, s3⟩, q⟩ := opt_iff.mp o
    obtain ⟨a, us, rfl, hq, ru⟩ := ll_ok R r e
    obtain ⟨u, rfl, r1⟩ := reps1 rs
    have hs : shp 60 (.lst xs) = true := by simpa [shp] using s2
    have dl : Dp K H (.ref a) (.list (pds xs)) := .lst hq (dps_of 59 xs s2 (Reps.real ru))
    have sl : SeqAt.shaped (.list (pds xs)) = true := shp_shaped (n := 60) (d := .lst xs) (by omega) hs
    have hlt : xs.findIdx (fun z => eqD z y) < xs.length := List.findIdx_lt_length_of_exists (List.any_eq_true.mp s3)
    refine ⟨a, u, pd y, pds xs, xs.findIdx fun z => eqD z y, pd (xs[xs.findIdx fun z => eqD z y]'hlt), rfl, rfl, dl, dp_of 60 y s1 (Rep.real r1), sl, shp_shaped (by omega) s1, ?_, ?_, fun j z' hj hz => ?_, k.int R q⟩
    · rw [pds_map, List.getElem?_map, List.getElem?_eq_getElem hlt]
      rfl
    · exact List.findIdx_getElem (w := hlt)
    · rw [pds_map, List.getElem?_map] at hz
      have hjl : j < xs.length := Nat.lt_trans hj hlt
      rw [List.getElem?_eq_getElem hjl] at hz
      cases hz
      have := List.not_of_lt_findIdx hj
      have e : eqD xs[j] y = false := Bool.eq_false_iff.mpr (by simpa using this)
      exact e
  | [], o => exact o.elim
  | _ :: _ :: _, o => exact o.elim
theorem d_indexD {X : Cx} {B : BS} {o e : Expr} {to : RE} {t : RA} {apos cpos : Pos} {k : Nat} (hr : Room k X.A) (ho : DE X B o to) (ha : DA X B [e] t) (hbase : attributeBase o "index" X.env (eval o X.env) = eval o X.env := by rfl) (hline : (apos.endLine == cpos.line) = true := by rfl)
    (hs : starEach [e] X.env = (false, eval e X.env) :: starEach [] X.env := by rfl) (hfew : ((backTo cpos (starEach (e :: []) X.env)).all (fun x => !x.1) && (backToKw cpos (keywordEach [] X.env)).all (fun x => x.1.isSome) && decide ((e :: ([] : List Expr)).length + ([] : List Keyword).length + (if ([] : List Keyword).isEmpty then 0 else 1) < 30)) = true := by rfl) : DE X B (.Call (.Attribute o "index" apos) [e] [] cpos) (dMl oIdxD to t) :=
  d_ml PySem.F.slot_list_index rfl (mt_indexD (by have := hr.un; omega)) md_idxD ho ha hbase hfew hline hs rfl
end DL
/-! TL1: the typed layer: encoders, worlds (who owns which cell), programs on plain Lean data. -/
namespace TL
open PySem PySem.Spec PyProof.Rows L2 DL

/-! ### programs: what is wanted of a value, what of an exception -/
abbrev XP := Value → Option D → Prop
abbrev M (α : Type) := (α → Prop) → XP → Prop
def M.rt {α : Type} (a : α) : M α := fun K _ => K a
def M.bd {α β : Type} (m : M α) (f : α → M β) : M β := fun K X => m (fun a => f a K X) X
def M.as {α : Type} (P : Prop) (m : M α) : M α := fun K X => P ∧ m K X
def M.er {α : Type} (c : Value) (o : Option D) : M α := fun _ X => X c o
/-- any number below the bound -/
def anyM (n : Int) : M Int := fun K _ => (0 < n ∧ n < 1073741824) ∧ ∀ v, 0 ≤ v → v < n → K v
def ofM {α : Type} (xs : List α) : M α := fun K _ => (xs ≠ [] ∧ xs.length < 1000000) ∧ ∀ x, x ∈ xs → K x
def mixM {α : Type} (xs : List α) : M (List α) := fun K _ => xs.length < 100000 ∧ ∀ ys : List α, ys.Perm xs → K ys
inductive Res (σ ρ : Type) where
  | nx (s : σ) | bk (s : σ) | rt (v : ρ)
def Res.go {σ ρ α : Type} (r : Res σ ρ) (f : ρ → α) (g : σ → α) : α := match r with
  | .nx s => g s
  | .bk s => g s
  | .rt v => f v
def forR {α σ ρ : Type} : List α → σ → (σ → α → M (Res σ ρ)) → M (Res σ ρ)
  | [], s, _ => M.rt (.nx s)
  | x :: xs, s, f => M.bd (f s x) fun r => match r with
    | .nx s' => forR xs s' f
    | .bk s' => M.rt (.bk s')
    | .rt v => M.rt (.rt v)
def forS {α σ : Type} : List α → σ → (σ → α → M σ) → M σ
  | [], s, _ => M.rt s
  | x :: xs, s, f => M.bd (f s x) fun s' => forS xs s' f
def whileR {σ ρ : Type} (s0 : σ) (c : σ → M Bool) (f : σ → M (Res σ ρ)) : M (Res σ ρ) := fun K X => ∃ W : Nat → σ → Prop, (∃ n, W n s0) ∧
  ∀ n s, W n s → c s (fun b => if b = true then f s (fun r => match r with
    | .nx s' => ∃ m, m < n ∧ W m s'
    | .bk s' => K (.bk s')
    | .rt v => K (.rt v)) X else K (.nx s)) X
def whileS {σ : Type} (s0 : σ) (c : σ → M Bool) (f : σ → M σ) : M σ := fun K X => ∃ W : Nat → σ → Prop, (∃ n, W n s0) ∧
  ∀ n s, W n s → c s (fun b => if b = true then f s (fun s' => ∃ m, m < n ∧ W m s') X else K s) X
/-- a comprehension: none: left out -/
def compM {α β : Type} : List α → (α → M (Option β)) → M (List β)
  | [], _ => M.rt []
  | x :: xs, f => M.bd (f x) fun o => M.bd (compM xs f) fun ys => M.rt (o.toList ++ ys)

/-! ### encoders -/
abbrev eI : Int → D := D.int
abbrev eB : Bool → D := D.bl
abbrev eS : Str → D := D.str
abbrev eD : D → D := fun d => d
def eN : Unit → D := fun _ => .non
section
variable {α β γ δ ε ζ η : Type}
def eT (e : α → D) (xs : List α) : D := .tup (xs.map e)
def eL (e : α → D) (xs : List α) : D := .lst (xs.map e)
def eO (e : α → D) : Option α → D
  | none => .non
  | some a => e a
def eP1 (e1 : α → D) (p : α) : D := .tup [e1 p]
def eP2 (e1 : α → D) (e2 : β → D) (p : α × β) : D := .tup [e1 p.1, e2 p.2]
def eP3 (e1 : α → D) (e2 : β → D) (e3 : γ → D) (p : α × β × γ) : D := .tup [e1 p.1, e2 p.2.1, e3 p.2.2]
def eP4 (e1 : α → D) (e2 : β → D) (e3 : γ → D) (e4 : δ → D) (p : α × β × γ × δ) : D := .tup [e1 p.1, e2 p.2.1, e3 p.2.2.1, e4 p.2.2.2]
def eP5 (e1 : α → D) (e2 : β → D) (e3 : γ → D) (e4 : δ → D) (e5 : ε → D) (p : α × β × γ × δ × ε) : D := .tup [e1 p.1, e2 p.2.1, e3 p.2.2.1, e4 p.2.2.2.1, e5 p.2.2.2.2]
def eP6 (e1 : α → D) (e2 : β → D) (e3 : γ → D) (e4 : δ → D) (e5 : ε → D) (e6 : ζ → D) (p : α × β × γ × δ × ε × ζ) : D := .tup [e1 p.1, e2 p.2.1, e3 p.2.2.1, e4 p.2.2.2.1, e5 p.2.2.2.2.1, e6 p.2.2.2.2.2]
def eP7 (e1 : α → D) (e2 : β → D) (e3 : γ → D) (e4 : δ → D) (e5 : ε → D) (e6 : ζ → D) (e7 : η → D) (p : α × β × γ × δ × ε × ζ × η) : D := .tup [e1 p.1, e2 p.2.1, e3 p.2.2.1, e4 p.2.2.2.1, e5 p.2.2.2.2.1, e6 p.2.2.2.2.2.1, e7 p.2.2.2.2.2.2]
end
/-- no cell within -/
class Cln {α : Type} (e : α → D) : Prop where
  cl : ∀ k x, lo k (e x) = true
section
variable {α β γ δ ε ζ η : Type} {e : α → D} {e2 : β → D} {e3 : γ → D} {e4 : δ → D} {e5 : ε → D} {e6 : ζ → D} {e7 : η → D}
instance : Cln eI := ⟨fun _ _ => rfl⟩
instance : Cln eB := ⟨fun _ _ => rfl⟩
instance : Cln eS := ⟨fun _ _ => rfl⟩
instance : Cln eN := ⟨fun _ _ => rfl⟩
theorem los_map [h : Cln e] (k : Nat) : ∀ xs : List α, los k (xs.map e) = true
  | [] => rfl
  | x :: xs => by
    show (lo k (e x) && los k (xs.map e)) = true
    rw [h.cl, los_map k xs]
    rfl
instance [Cln e] : Cln (eT e) := ⟨fun k xs => los_map k xs⟩
instance [Cln e] : Cln (eL e) := ⟨fun k xs => los_map k xs⟩
instance [h : Cln e] : Cln (eO e) := ⟨fun k x => by
  cases x with
  | none => rfl
  | some a => exact h.cl k a⟩
theorem lo_c1 (k : Nat) {x : D} {xs : List D} (h : lo k x = true) (h2 : los k xs = true) : los k (x :: xs) = true := by
  show (lo k x && los k xs) = true
  rw [h, h2]
  rfl
instance [h : Cln e] : Cln (eP1 e) := ⟨fun k p => lo_c1 k (h.cl k _) rfl⟩
instance [h : Cln e] [h2 : Cln e2] : Cln (eP2 e e2) := ⟨fun k p => lo_c1 k (h.cl k _) (lo_c1 k (h2.cl k _) rfl)⟩
instance [h : Cln e] [h2 : Cln e2] [h3 : Cln e3] : Cln (eP3 e e2 e3) := ⟨fun k p => lo_c1 k (h.cl k _) (lo_c1 k (h2.cl k _) (lo_c1 k (h3.cl k _) rfl))⟩
instance [h : Cln e] [h2 : Cln e2] [h3 : Cln e3] [h4 : Cln e4] : Cln (eP4 e e2 e3 e4) := ⟨fun k p => lo_c1 k (h.cl k _) (lo_c1 k (h2.cl k _) (lo_c1 k (h3.cl k _) (lo_c1 k (h4.cl k _) rfl)))⟩
instance [h : Cln e] [h2 : Cln e2] [h3 : Cln e3] [h4 : Cln e4] [h5 : Cln e5] : Cln (eP5 e e2 e3 e4 e5) := ⟨fun k p => lo_c1 k (h.cl k _) (lo_c1 k (h2.cl k _) (lo_c1 k (h3.cl k _) (lo_c1 k (h4.cl k _) (lo_c1 k (h5.cl k _) rfl))))⟩
instance [h : Cln e] [h2 : Cln e2] [h3 : Cln e3] [h4 : Cln e4] [h5 : Cln e5] [h6 : Cln e6] : Cln (eP6 e e2 e3 e4 e5 e6) := ⟨fun k p => lo_c1 k (h.cl k _) (lo_c1 k (h2.cl k _) (lo_c1 k (h3.cl k _) (lo_c1 k (h4.cl k _) (lo_c1 k (h5.cl k _) (lo_c1 k (h6.cl k _) rfl)))))⟩
instance [h : Cln e] [h2 : Cln e2] [h3 : Cln e3] [h4 : Cln e4] [h5 : Cln e5] [h6 : Cln e6] [h7 : Cln e7] : Cln (eP7 e e2 e3 e4 e5 e6 e7) := ⟨fun k p => lo_c1 k (h.cl k _) (lo_c1 k (h2.cl k _) (lo_c1 k (h3.cl k _) (lo_c1 k (h4.cl k _) (lo_c1 k (h5.cl k _) (lo_c1 k (h6.cl k _) (lo_c1 k (h7.cl k _) rfl))))))⟩
end
mutual
theorem lo_up {k j : Nat} (h : k ≤ j) : ∀ d : D, lo k d = true → lo j d = true
  | .non, _ => rfl
  | .bl _, _ => rfl
  | .int _, _ => rfl
  | .str _, _ => rfl
  | .obj _, _ => rfl
  | .tup xs, g => los_up h xs g
  | .lst xs, g => los_up h xs g
  | .scr xs, g => los_up h xs g
  | .cel n, g => by
    have : n < k := of_decide_eq_true g
    exact decide_eq_true (Nat.lt_of_lt_of_le this h)
theorem los_up {k j : Nat} (h : k ≤ j) : ∀ ds : List D, los k ds = true → los j ds = true
  | [], _ => rfl
  | d :: ds, g => by
    have g' : (lo k d && los k ds) = true := g
    rw [Bool.and_eq_true] at g'
    exact lo_c1 j (lo_up h d g'.1) (los_up h ds g'.2)
end
/-- a plain value that is compared by == as Lean's = -/
class EqE {α : Type} [DecidableEq α] (e : α → D) (k : outParam Nat) : Prop where
  sh : ∀ x, shp k (e x) = true
  eq : ∀ x y, eqD (e x) (e y) = decide (x = y)
/-- never None -/
class NNon {α : Type} (e : α → D) : Prop where
  ne : ∀ x, isNon (e x) = false
  eq : ∀ x, eqD .non (e x) = false ∧ eqD (e x) .non = false
mutual
theorem shp_up {k j : Nat} (h : k ≤ j) : ∀ d : D, shp k d = true → shp j d = true := fun d g => by
  cases d with
  | non => cases j <;> rfl
  | bl b => cases j <;> rfl
  | int b => cases j <;> rfl
  | str x => cases j <;> cases k <;> exact g
  | tup xs =>
    cases k with
    | zero => cases g
    | succ k =>
      cases j with
      | zero => omega
      | succ j => exact shps_up (Nat.le_of_succ_le_succ h) xs g
  | lst xs =>
    cases k with
    | zero => cases g
    | succ k =>
      cases j with
      | zero => omega
      | succ j => exact shps_up (Nat.le_of_succ_le_succ h) xs g
  | scr xs =>
    cases k with
    | zero => cases g
    | succ k =>
      cases j with
      | zero => omega
      | succ j => exact shps_up (Nat.le_of_succ_le_succ h) xs g
  | cel n => cases k <;> cases g
  | obj n => cases k <;> cases g
theorem shps_up {k j : Nat} (h : k ≤ j) : ∀ ds : List D, shps k ds = true → shps j ds = true
  | [], _ => by cases j <;> rfl
  | d :: ds, g => by
    have g' : (shp k d && shps k ds) = true := by cases k <;> exact g
    rw [Bool.and_eq_true] at g'
    have a := shp_up h d g'.1
    have b := shps_up h ds g'.2
    have : (shp j d && shps j ds) = true := by rw [a, b]; rfl
    cases j <;> exact this
end
theorem shps_c {k : Nat} {x : D} {xs : List D} (h : shp k x = true) (h2 : shps k xs = true) : shps k (x :: xs) = true := by
  have : (shp k x && shps k xs) = true := by rw [h, h2]; rfl
  cases k <;> exact this
theorem shps_n {k : Nat} : shps k [] = true := by cases k <;> rfl
theorem shps_map {α : Type} {e : α → D} {k : Nat} (h : ∀ x, shp k (e x) = true) : ∀ xs : List α, shps k (xs.map e) = true
  | [] => shps_n
  | x :: xs => shps_c (h x) (shps_map h xs)
theorem eqvAll_map {α : Type} [DecidableEq α] {e : α → D} (h : ∀ x y, eqD (e x) (e y) = decide (x = y)) : ∀ xs ys : List α, PyData.eqvAll (pds (xs.map e)) (pds (ys.map e)) = decide (xs = ys)
  | [], [] => by simp [pds, PyData.eqvAll]
  | [], y :: ys => by simp [pds, PyData.eqvAll]
  | x :: xs, [] => by simp [pds, PyData.eqvAll]
  | x :: xs, y :: ys => by
    have ih := eqvAll_map h xs ys
    have hx : PyData.eqv (pd (e x)) (pd (e y)) = decide (x = y) := h x y
    simp only [List.map_cons, pds, PyData.eqvAll, ih, hx]
    by_cases h1 : x = y <;> by_cases h2 : xs = ys <;> simp [h1, h2]
theorem eqD_tup (xs ys : List D) : eqD (.tup xs) (.tup ys) = PyData.eqvAll (pds xs) (pds ys) := by
  show PyData.eqv (.tuple (pds xs)) (.tuple (pds ys)) = _
  rw [PyData.eqv]
theorem eqD_lst (xs ys : List D) : eqD (.lst xs) (.lst ys) = PyData.eqvAll (pds xs) (pds ys) := by
  show PyData.eqv (.list (pds xs)) (.list (pds ys)) = _
  rw [PyData.eqv]
theorem eqvAll_c (x y : D) (xs ys : List D) : PyData.eqvAll (pds (x :: xs)) (pds (y :: ys)) = (eqD x y && PyData.eqvAll (pds xs) (pds ys)) := by
  simp only [pds, PyData.eqvAll, eqD]
theorem eqvAll_n : PyData.eqvAll (pds []) (pds []) = true := by simp [pds, PyData.eqvAll]
section
variable {α β γ δ ε : Type} [DecidableEq α] [DecidableEq β] [DecidableEq γ] [DecidableEq δ] [DecidableEq ε] {e : α → D} {e2 : β → D} {e3 : γ → D} {e4 : δ → D} {e5 : ε → D} {k k2 k3 k4 k5 : Nat}
instance : EqE eI 0 := ⟨fun _ => rfl, fun x y => eqD_int x y⟩
instance : EqE eB 0 := ⟨fun _ => rfl, fun x y => by
  show PyData.eqv (.bool x) (.bool y) = _
  rw [PyData.eqv]
  cases x <;> cases y <;> rfl⟩
instance : EqE eN 0 := ⟨fun _ => rfl, fun x y => by
  show PyData.eqv .none .none = _
  rw [PyData.eqv]
  rfl⟩
instance [h : EqE e k] : EqE (eT e) (k + 1) := ⟨fun xs => shps_map h.sh xs, fun xs ys => by
  show eqD (.tup (xs.map e)) (.tup (ys.map e)) = _
  rw [eqD_tup, eqvAll_map h.eq]⟩
instance [h : EqE e k] : EqE (eL e) (k + 1) := ⟨fun xs => shps_map h.sh xs, fun xs ys => by
  show eqD (.lst (xs.map e)) (.lst (ys.map e)) = _
  rw [eqD_lst, eqvAll_map h.eq]⟩
instance [h : EqE e k] [n : NNon e] : EqE (eO e) k := ⟨fun x => by
  cases x with
  | none => cases k <;> rfl
  | some a => exact h.sh a, fun x y => by
  cases x with
  | none =>
    cases y with
    | none => show PyData.eqv .none .none = _; rw [PyData.eqv]; rfl
    | some b => exact (n.eq b).1.trans (by simp)
  | some a =>
    cases y with
    | none => exact (n.eq a).2.trans (by simp)
    | some b => exact (h.eq a b).trans (by simp)⟩
instance [h : EqE e k] [h2 : EqE e2 k2] : EqE (eP2 e e2) (max k k2 + 1) := ⟨fun p => by
  show shps (max k k2) [e p.1, e2 p.2] = true
  exact shps_c (shp_up (Nat.le_max_left _ _) _ (h.sh _)) (shps_c (shp_up (Nat.le_max_right _ _) _ (h2.sh _)) shps_n), fun p q => by
  show eqD (.tup [e p.1, e2 p.2]) (.tup [e q.1, e2 q.2]) = _
  rw [eqD_tup, eqvAll_c, eqvAll_c, eqvAll_n, h.eq, h2.eq]
  obtain ⟨a, b⟩ := p
  obtain ⟨c, d⟩ := q
  by_cases h1 : a = c <;> by_cases h2 : b = d <;> simp [h1, h2]⟩
instance [h : EqE e k] [h2 : EqE e2 k2] [h3 : EqE e3 k3] : EqE (eP3 e e2 e3) (max k (max k2 k3) + 1) := ⟨fun p => by
  show shps (max k (max k2 k3)) [e p.1, e2 p.2.1, e3 p.2.2] = true
  exact shps_c (shp_up (by omega) _ (h.sh _)) (shps_c (shp_up (by omega) _ (h2.sh _)) (shps_c (shp_up (by omega) _ (h3.sh _)) shps_n)), fun p q => by
  show eqD (.tup [e p.1, e2 p.2.1, e3 p.2.2]) (.tup [e q.1, e2 q.2.1, e3 q.2.2]) = _
  rw [eqD_tup, eqvAll_c, eqvAll_c, eqvAll_c, eqvAll_n, h.eq, h2.eq, h3.eq]
  obtain ⟨a, b, c⟩ := p
  obtain ⟨a2, b2, c2⟩ := q
  by_cases h1 : a = a2 <;> by_cases h2 : b = b2 <;> by_cases h3 : c = c2 <;> simp [h1, h2, h3]⟩
instance [h : EqE e k] : EqE (eP1 e) (k + 1) := ⟨fun p => by
  show shps k [e p] = true
  exact shps_c (h.sh _) shps_n, fun p q => by
  show eqD (.tup [e p]) (.tup [e q]) = _
  rw [eqD_tup, eqvAll_c, eqvAll_n, h.eq, Bool.and_true]⟩
instance : NNon eI := ⟨fun _ => rfl, fun x => by constructor <;> simp [eqD, pd, PyData.eqv]⟩
instance : NNon eB := ⟨fun _ => rfl, fun x => by constructor <;> simp [eqD, pd, PyData.eqv]⟩
instance : NNon eS := ⟨fun _ => rfl, fun x => by constructor <;> simp [eqD, pd, PyData.eqv]⟩
end
section
variable {α β γ δ ε : Type} {e : α → D} {e2 : β → D} {e3 : γ → D} {e4 : δ → D} {e5 : ε → D}
instance : NNon (eT e) := ⟨fun _ => rfl, fun x => by constructor <;> simp [eT, eqD, pd, PyData.eqv]⟩
instance : NNon (eL e) := ⟨fun _ => rfl, fun x => by constructor <;> simp [eL, eqD, pd, PyData.eqv]⟩
instance : NNon (eP1 e) := ⟨fun _ => rfl, fun x => by constructor <;> simp [eP1, eqD, pd, PyData.eqv]⟩
instance : NNon (eP2 e e2) := ⟨fun _ => rfl, fun x => by constructor <;> simp [eP2, eqD, pd, PyData.eqv]⟩
instance : NNon (eP3 e e2 e3) := ⟨fun _ => rfl, fun x => by constructor <;> simp [eP3, eqD, pd, PyData.eqv]⟩
instance : NNon (eP4 e e2 e3 e4) := ⟨fun _ => rfl, fun x => by constructor <;> simp [eP4, eqD, pd, PyData.eqv]⟩
instance : NNon (eP5 e e2 e3 e4 e5) := ⟨fun _ => rfl, fun x => by constructor <;> simp [eP5, eqD, pd, PyData.eqv]⟩
end
instance : Inhabited D := ⟨.non⟩

/-! ### worlds -/
def DealHd (C : Cs) : Prop := ∃ (cs : List Int) (b : Int), C[0]? = some (.lst [.cel 1, .int b]) ∧ C[1]? = some (.lst (cs.map D.int)) ∧ cs.length ≤ 48
/-- dl: the cells 0 and 1 are a source of draws; C0: the cells at the call's start; ps: those of them that the def knows; cs: its own -/
structure Wl where
  dl : Bool
  C0 : Cs
  ps : List (Nat × List D)
  cs : List (Nat × List D)
def Wl.all (w : Wl) : List (Nat × List D) := w.ps ++ w.cs
def Wl.put (w : Wl) (k : Nat) (ys : List D) : Wl := ⟨w.dl, w.C0, w.ps.modify k fun p => (p.1, ys), w.cs.modify (k - w.ps.length) fun p => if k < w.ps.length then p else (p.1, ys)⟩
def Wl.add (w : Wl) (n : Nat) (ys : List D) : Wl := ⟨w.dl, w.C0, w.ps, w.cs ++ [(n, ys)]⟩
structure Own (w : Wl) (C : Cs) : Prop where
  len : w.C0.length ≤ C.length
  new : ∀ p ∈ w.cs, w.C0.length ≤ p.1
  par : ∀ p ∈ w.ps, p.1 < w.C0.length ∧ (w.dl = true → 2 ≤ p.1)
  at' : ∀ p ∈ w.all, C[p.1]? = some (.lst p.2) ∧ los 0 p.2 = true
  nd : (w.all.map Prod.fst).Nodup
  old : ∀ i, i < w.C0.length → (∀ p ∈ w.ps, p.1 ≠ i) → (w.dl = true → 2 ≤ i) → C[i]? = w.C0[i]?
  deal : w.dl = true → DealHd C ∧ 2 ≤ w.C0.length
theorem Own.start {C : Cs} : Own ⟨false, C, [], []⟩ C := ⟨Nat.le_refl _, fun _ h => (nomatch h), fun _ h => (nomatch h), fun _ h => (nomatch h), .nil, fun _ _ _ _ => rfl, fun h => (nomatch h)⟩
theorem DealHd.len {C : Cs} (h : DealHd C) : 2 ≤ C.length := by
  obtain ⟨cs, b, _, h1, _⟩ := h
  exact (List.getElem?_eq_some_iff.mp h1).1
theorem Own.startD {C : Cs} (h : DealHd C) : Own ⟨true, C, [], []⟩ C := ⟨Nat.le_refl _, fun _ h => (nomatch h), fun _ h => (nomatch h), fun _ h => (nomatch h), .nil, fun _ _ _ _ => rfl, fun _ => ⟨h, h.len⟩⟩
theorem Own.startP {C : Cs} {n : Nat} {xs : List D} (h : C[n]? = some (.lst xs)) (hc : los 0 xs = true) : Own ⟨false, C, [(n, xs)], []⟩ C := by
  refine ⟨Nat.le_refl _, fun _ h => (nomatch h), fun p hp => ?_, fun p hp => ?_, by simp [Wl.all], fun _ _ _ _ => rfl, fun h => (nomatch h)⟩
  · obtain rfl := List.mem_singleton.mp hp
    exact ⟨(List.getElem?_eq_some_iff.mp h).1, fun h => (nomatch h)⟩
  · obtain rfl := List.mem_singleton.mp hp
    exact ⟨h, hc⟩
theorem Own.startDP {C : Cs} {n : Nat} {xs : List D} (hd : DealHd C) (h : C[n]? = some (.lst xs)) (h2 : 2 ≤ n) (hc : los 0 xs = true) : Own ⟨true, C, [(n, xs)], []⟩ C := by
  refine ⟨Nat.le_refl _, fun _ h => (nomatch h), fun p hp => ?_, fun p hp => ?_, by simp [Wl.all], fun _ _ _ _ => rfl, fun _ => ⟨hd, hd.len⟩⟩
  · obtain rfl := List.mem_singleton.mp hp
    exact ⟨(List.getElem?_eq_some_iff.mp h).1, fun _ => h2⟩
  · obtain rfl := List.mem_singleton.mp hp
    exact ⟨h, hc⟩
theorem Own.startP2 {C : Cs} {n m : Nat} {xs ys : List D} (h : C[n]? = some (.lst xs)) (g : C[m]? = some (.lst ys)) (hnm : n ≠ m) (hc : los 0 xs = true) (gc : los 0 ys = true) : Own ⟨false, C, [(n, xs), (m, ys)], []⟩ C := by
  refine ⟨Nat.le_refl _, fun _ h => (nomatch h), fun p hp => ?_, fun p hp => ?_, by simp [Wl.all, hnm], fun _ _ _ _ => rfl, fun h => (nomatch h)⟩
  · simp only [List.mem_cons, List.not_mem_nil, or_false] at hp
    rcases hp with rfl | rfl
    · exact ⟨(List.getElem?_eq_some_iff.mp h).1, fun h => (nomatch h)⟩
    · exact ⟨(List.getElem?_eq_some_iff.mp g).1, fun h => (nomatch h)⟩
  · simp only [Wl.all, List.append_nil, List.mem_cons, List.not_mem_nil, or_false] at hp
    rcases hp with rfl | rfl
    · exact ⟨h, hc⟩
    · exact ⟨g, gc⟩
section
variable {w : Wl} {C : Cs} {n k : Nat} {xs ys ds : List D}
theorem Own.lt (O : Own w C) {p : Nat × List D} (h : p ∈ w.all) : p.1 < C.length := (List.getElem?_eq_some_iff.mp (O.at' p h).1).1
theorem Own.get (O : Own w C) (h : w.all[k]? = some (n, xs)) : C[n]? = some (.lst xs) := (O.at' _ (List.mem_of_getElem? h)).1
theorem Own.two (O : Own w C) (hd : w.dl = true) {p : Nat × List D} (h : p ∈ w.all) : 2 ≤ p.1 := by
  rcases List.mem_append.mp h with z | z
  · exact (O.par p z).2 hd
  · exact Nat.le_trans (O.deal hd).2 (O.new p z)
theorem DealHd.up {C C' : Cs} (h : DealHd C) (e0 : C'[0]? = C[0]?) (e1 : C'[1]? = C[1]?) : DealHd C' := by
  obtain ⟨cs, b, h0, h1, hl⟩ := h
  exact ⟨cs, b, by rw [e0]; exact h0, by rw [e1]; exact h1, hl⟩
theorem Own.junk (O : Own w C) (J : Cs) : Own w (C ++ J) := by
  have ha : ∀ i, i < C.length → (C ++ J)[i]? = C[i]? := fun i h => List.getElem?_append_left h
  refine ⟨by rw [List.length_append]; have := O.len; omega, O.new, O.par, fun p hp => ⟨?_, (O.at' p hp).2⟩, O.nd, fun i hi h1 h2 => ?_, fun hd => ⟨?_, (O.deal hd).2⟩⟩
  · rw [ha _ (O.lt hp)]
    exact (O.at' p hp).1
  · rw [ha _ (by have := O.len; omega)]
    exact O.old i hi h1 h2
  · have := (O.deal hd).1.len
    exact (O.deal hd).1.up (ha _ (by omega)) (ha _ (by omega))
theorem Own.push (O : Own w C) (hc : los 0 ds = true) : Own (w.add C.length ds) (C ++ [.lst ds]) := by
  have J := O.junk [.lst ds]
  refine ⟨J.len, fun p hp => ?_, J.par, fun p hp => ?_, ?_, J.old, J.deal⟩
  · rcases List.mem_append.mp hp with z | z
    · exact O.new p z
    · obtain rfl := List.mem_singleton.mp z
      exact O.len
  · have hp' : p ∈ w.all ++ [(C.length, ds)] := by simpa [Wl.all, Wl.add] using hp
    rcases List.mem_append.mp hp' with z | z
    · exact J.at' p z
    · obtain rfl := List.mem_singleton.mp z
      exact ⟨by simp, hc⟩
  · have e : (w.add C.length ds).all = w.all ++ [(C.length, ds)] := by simp [Wl.all, Wl.add]
    rw [e, List.map_append]
    refine List.nodup_append.mpr ⟨O.nd, by simp, fun a ha b hb => ?_⟩
    obtain ⟨p, hp, rfl⟩ := List.mem_map.mp ha
    have : b = C.length := by simpa using hb
    subst this
    exact Nat.ne_of_lt (O.lt hp)
theorem Wl.put_all : (w.put k ys).all = w.all.modify k fun p => (p.1, ys) := by
  unfold Wl.put Wl.all
  rcases Nat.lt_or_ge k w.ps.length with h | h
  · refine List.ext_getElem? fun i => ?_
    have e : (fun p : Nat × List D => if k < w.ps.length then p else (p.1, ys)) = id := by
      funext p
      rw [if_pos h]
      rfl
    rw [e, List.modify_id, List.getElem?_modify]
    by_cases hi : i < w.ps.length
    · rw [List.getElem?_append_left (by simpa using hi), List.getElem?_append_left hi, List.getElem?_modify]
    · rw [List.getElem?_append_right (by simpa using Nat.le_of_not_lt hi), List.getElem?_append_right (Nat.le_of_not_lt hi), List.length_modify]
      have hk : k ≠ i := by omega
      simp [hk]
  · refine List.ext_getElem? fun i => ?_
    have e : (fun p : Nat × List D => if k < w.ps.length then p else (p.1, ys)) = fun p => (p.1, ys) := by
      funext p
      rw [if_neg (by omega)]
    have e2 : w.ps.modify k (fun p => (p.1, ys)) = w.ps := by
      refine List.ext_getElem? fun j => ?_
      rw [List.getElem?_modify]
      by_cases hj : k = j
      · subst hj
        rw [List.getElem?_eq_none h]
        rfl
      · simp [hj]
    rw [e, e2, List.getElem?_modify]
    by_cases hi : i < w.ps.length
    · rw [List.getElem?_append_left hi, List.getElem?_append_left hi]
      have hk : k ≠ i := by omega
      simp [hk]
    · rw [List.getElem?_append_right (Nat.le_of_not_lt hi), List.getElem?_append_right (Nat.le_of_not_lt hi), List.getElem?_modify]
      have : (k - w.ps.length = i - w.ps.length) = (k = i) := by
        apply propext
        omega
      simp only [this]
theorem mod_fst (l : List (Nat × List D)) (k : Nat) : (l.modify k fun p => (p.1, ys)).map Prod.fst = l.map Prod.fst := by
  refine List.ext_getElem? fun i => ?_
  rw [List.getElem?_map, List.getElem?_map, List.getElem?_modify]
  cases l[i]? with
  | none => rfl
  | some p => by_cases h : k = i <;> simp [h]
/-- what stands at the numbers of a list of pairs -/
theorem nd_at {l : List (Nat × List D)} (nd : (l.map Prod.fst).Nodup) {i j : Nat} {p q : Nat × List D} (hi : l[i]? = some p) (hj : l[j]? = some q) (e : p.1 = q.1) : i = j := by
  have h1 : (l.map Prod.fst)[i]? = some p.1 := by rw [List.getElem?_map, hi]; rfl
  have h2 : (l.map Prod.fst)[j]? = some p.1 := by rw [List.getElem?_map, hj, e]; rfl
  exact nd_ix nd h1 h2
/-- cells that differ from C at n alone -/
theorem Own.putG {C' : Cs} (O : Own w C) (h : w.all[k]? = some (n, xs)) (hl : C'.length = C.length) (hn : C'[n]? = some (.lst ys)) (ho : ∀ i, i ≠ n → (w.dl = true → 2 ≤ i) → C'[i]? = C[i]?) (hd : w.dl = true → DealHd C') (hc : los 0 ys = true) : Own (w.put k ys) C' := by
  have hm := List.mem_of_getElem? h
  have hps : ∀ p ∈ (w.put k ys).ps, ∃ q ∈ w.ps, q.1 = p.1 := fun p hp => by
    have e : (w.put k ys).ps.map Prod.fst = w.ps.map Prod.fst := mod_fst _ _
    have : p.1 ∈ w.ps.map Prod.fst := e ▸ List.mem_map_of_mem hp
    obtain ⟨q, hq, e⟩ := List.mem_map.mp this
    exact ⟨q, hq, e⟩
  have hcs : ∀ p ∈ (w.put k ys).cs, ∃ q ∈ w.cs, q.1 = p.1 := fun p hp => by
    have e : (w.put k ys).cs.map Prod.fst = w.cs.map Prod.fst := by
      unfold Wl.put
      show (w.cs.modify _ _).map Prod.fst = _
      by_cases hk : k < w.ps.length
      · simp only [hk, if_true]
        refine List.ext_getElem? fun i => ?_
        rw [List.getElem?_map, List.getElem?_map, List.getElem?_modify]
        cases w.cs[i]? with
        | none => rfl
        | some p => simp
      · simp only [hk, if_false]
        exact mod_fst _ _
    have : p.1 ∈ w.cs.map Prod.fst := e ▸ List.mem_map_of_mem hp
    obtain ⟨q, hq, e⟩ := List.mem_map.mp this
    exact ⟨q, hq, e⟩
  refine ⟨hl ▸ O.len, fun p hp => ?_, fun p hp => ?_, fun p hp => ?_, ?_, fun i hi h1 h2 => ?_, fun hh => ⟨hd hh, (O.deal hh).2⟩⟩
  · obtain ⟨q, hq, e⟩ := hcs p hp
    exact e ▸ O.new q hq
  · obtain ⟨q, hq, e⟩ := hps p hp
    exact e ▸ O.par q hq
  · rw [Wl.put_all] at hp
    obtain ⟨i, hi⟩ := List.mem_iff_getElem?.mp hp
    rw [List.getElem?_modify] at hi
    cases hq : w.all[i]? with
    | none => rw [hq] at hi; cases hi
    | some q =>
      rw [hq] at hi
      by_cases e : k = i
      · subst e
        rw [h] at hq
        cases hq
        simp at hi
        subst hi
        exact ⟨hn, hc⟩
      · simp [e] at hi
        subst hi
        have hqm := List.mem_of_getElem? hq
        have ne : q.1 ≠ n := fun z => e (nd_at O.nd h hq z.symm)
        rw [ho _ ne (fun hh => O.two hh hqm)]
        exact O.at' q hqm
  · rw [Wl.put_all, mod_fst]
    exact O.nd
  · have hne : i ≠ n := fun z => by
      subst z
      rcases List.mem_append.mp hm with z | z
      · have : i ∈ (w.put k ys).ps.map Prod.fst := by
          rw [show (w.put k ys).ps.map Prod.fst = w.ps.map Prod.fst from mod_fst _ _]
          exact List.mem_map_of_mem (f := Prod.fst) z
        obtain ⟨p, hp, e⟩ := List.mem_map.mp this
        exact h1 p hp e
      · have := O.new _ z
        have : w.C0.length ≤ i := this
        have hi' : i < w.C0.length := hi
        omega
    rw [ho _ hne h2]
    refine O.old i hi (fun p hp e => ?_) h2
    have : i ∈ (w.put k ys).ps.map Prod.fst := by
      rw [show (w.put k ys).ps.map Prod.fst = w.ps.map Prod.fst from mod_fst _ _]
      exact e ▸ List.mem_map_of_mem (f := Prod.fst) hp
    obtain ⟨p', hp', e'⟩ := List.mem_map.mp this
    exact h1 p' hp' e'
theorem Own.put (O : Own w C) (h : w.all[k]? = some (n, xs)) (hc : los 0 ys = true) : Own (w.put k ys) (C.set n (.lst ys)) := by
  have hm := List.mem_of_getElem? h
  have hlt := O.lt hm
  refine O.putG h (by simp) (by simp [hlt]) (fun i hi _ => List.getElem?_set_ne (Ne.symm hi)) (fun hd => ?_) hc
  have h2 : 2 ≤ n := O.two hd hm
  exact (O.deal hd).1.up (List.getElem?_set_ne (by omega)) (List.getElem?_set_ne (by omega))
/-- some cells are not looked at any more -/
theorem Own.keep (ks : List Nat) (O : Own w C) (hk : ks.Nodup := by decide) : Own ⟨w.dl, w.C0, w.ps, pick ks w.cs⟩ C := by
  have sub : ∀ p ∈ pick ks w.cs, p ∈ w.cs := fun p hp => by
    obtain ⟨i, _, e⟩ := List.mem_filterMap.mp hp
    exact List.mem_of_getElem? e
  refine ⟨O.len, fun p hp => O.new p (sub p hp), O.par, fun p hp => ?_, ?_, O.old, O.deal⟩
  · rcases List.mem_append.mp hp with z | z
    · exact O.at' p (List.mem_append_left _ z)
    · exact O.at' p (List.mem_append_right _ (sub p z))
  · have nd := O.nd
    unfold Wl.all at nd ⊢
    rw [List.map_append] at nd ⊢
    obtain ⟨n1, n2, n3⟩ := List.nodup_append.mp nd
    refine List.nodup_append.mpr ⟨n1, ?_, fun a ha b hb => ?_⟩
    · unfold pick
      show ((ks.filterMap fun i => w.cs[i]?).map Prod.fst).Nodup
      have key : ∀ ks : List Nat, ks.Nodup → ((ks.filterMap fun i => w.cs[i]?).map Prod.fst).Nodup := fun ks => by
        induction ks with
        | nil => intro _; exact .nil
        | cons j js ih =>
          intro hk
          obtain ⟨h1, h2⟩ := List.nodup_cons.mp hk
          rw [List.filterMap_cons]
          cases hj : w.cs[j]? with
          | none => exact ih h2
          | some p =>
            rw [List.map_cons]
            refine List.nodup_cons.mpr ⟨fun hm => ?_, ih h2⟩
            obtain ⟨q, hq, e⟩ := List.mem_map.mp hm
            obtain ⟨i, hi, eq⟩ := List.mem_filterMap.mp hq
            have := nd_at n2 hj eq e.symm
            subst this
            exact h1 hi
      exact key ks hk
    · obtain ⟨q, hq, e⟩ := List.mem_map.mp hb
      exact e ▸ n3 a ha q.1 (List.mem_map_of_mem (f := Prod.fst) (sub q hq))
end
/-! ### behind a call -/
structure Up (dl : Bool) (qs : List (Nat × List D)) (C C' : Cs) : Prop where
  len : C'.length = C.length
  at' : ∀ p ∈ qs, C'[p.1]? = some (.lst p.2) ∧ los 0 p.2 = true
  old : ∀ i, (∀ p ∈ qs, p.1 ≠ i) → (dl = true → 2 ≤ i) → C'[i]? = C[i]?
  deal : dl = true → DealHd C'
section
variable {w : Wl} {C C' C1 : Cs} {n k m j : Nat} {xs ys zs us ds : List D} {dl : Bool}
theorem Own.up0 (O : Own w C) (u : Up dl [] C C') (hd : dl = true → w.dl = true := by first | exact fun h => h | exact fun h => (nomatch h) | exact fun _ => rfl) : Own w C' := by
  have ho : ∀ i, (w.dl = true → 2 ≤ i) → C'[i]? = C[i]? := fun i h => u.old i (fun p hp => (nomatch hp)) fun e => h (hd e)
  refine ⟨u.len ▸ O.len, O.new, O.par, fun p hp => ⟨?_, (O.at' p hp).2⟩, O.nd, fun i hi h1 h2 => ?_, fun hh => ⟨?_, (O.deal hh).2⟩⟩
  · rw [ho _ fun hh => O.two hh hp]
    exact (O.at' p hp).1
  · rw [ho i h2]
    exact O.old i hi h1 h2
  · cases dl with
    | true => exact u.deal rfl
    | false => exact (O.deal hh).1.up (u.old _ (fun p hp => (nomatch hp)) fun e => (nomatch e)) (u.old _ (fun p hp => (nomatch hp)) fun e => (nomatch e))
theorem Own.up1 (O : Own w C) (h : w.all[k]? = some (n, xs)) (u : Up dl [(n, ys)] C C') (hd : dl = true → w.dl = true := by first | exact fun h => h | exact fun h => (nomatch h) | exact fun _ => rfl) : Own (w.put k ys) C' := by
  have hm := List.mem_of_getElem? h
  refine O.putG h u.len (u.at' _ (List.mem_singleton.mpr rfl)).1 (fun i hi h2 => u.old i (fun p hp => ?_) fun e => h2 (hd e)) (fun hh => ?_) (u.at' _ (List.mem_singleton.mpr rfl)).2
  · obtain rfl := List.mem_singleton.mp hp
    exact Ne.symm hi
  · cases dl with
    | true => exact u.deal rfl
    | false =>
      have h2 : 2 ≤ n := O.two hh hm
      have : ∀ i, i < 2 → C'[i]? = C[i]? := fun i hi => u.old i (fun p hp => by
        obtain rfl := List.mem_singleton.mp hp
        show n ≠ i
        omega) fun e => (nomatch e)
      exact (O.deal hh).1.up (this 0 (by omega)) (this 1 (by omega))
theorem Own.up2 (O : Own w C) (h : w.all[k]? = some (n, xs)) (g : w.all[j]? = some (m, zs)) (u : Up dl [(n, ys), (m, us)] C C') (hkj : k ≠ j := by decide) (hd : dl = true → w.dl = true := by first | exact fun h => h | exact fun h => (nomatch h) | exact fun _ => rfl) : Own ((w.put k ys).put j us) C' := by
  have hnm : n ≠ m := fun e => hkj (nd_at O.nd h g e)
  have an := u.at' (n, ys) (by simp)
  have am := u.at' (m, us) (by simp)
  have hmn := List.mem_of_getElem? h
  have hmm := List.mem_of_getElem? g
  -- by way of C' with m as it was
  have hml := O.lt hmm
  have gm := O.get g
  have cm := (O.at' _ hmm).2
  let C2 := C'.set m (.lst zs)
  have hm' : m < C'.length := u.len ▸ hml
  have ho : ∀ i, i ≠ n → i ≠ m → (w.dl = true → 2 ≤ i) → C'[i]? = C[i]? := fun i h1 h2 h3 => u.old i (fun p hp => by
    simp only [List.mem_cons, List.not_mem_nil, or_false] at hp
    rcases hp with rfl | rfl
    · exact Ne.symm h1
    · exact Ne.symm h2) fun e => h3 (hd e)
  have hD : w.dl = true → DealHd C' := fun hh => by
    cases dl with
    | true => exact u.deal rfl
    | false =>
      have h2 : 2 ≤ n := O.two hh hmn
      have h3 : 2 ≤ m := O.two hh hmm
      have : ∀ i, i < 2 → C'[i]? = C[i]? := fun i hi => u.old i (fun p hp => by
        simp only [List.mem_cons, List.not_mem_nil, or_false] at hp
        rcases hp with rfl | rfl
        · show n ≠ i; omega
        · show m ≠ i; omega) fun e => (nomatch e)
      exact (O.deal hh).1.up (this 0 (by omega)) (this 1 (by omega))
  have O2 : Own (w.put k ys) C2 := by
    refine O.putG h (by simp [C2, u.len]) (by simp only [C2]; rw [List.getElem?_set_ne (Ne.symm hnm)]; exact an.1) (fun i hi h2 => ?_) (fun hh => ?_) an.2
    · by_cases e : i = m
      · subst e
        simp only [C2]
        rw [gm]
        simp [hm']
      · simp only [C2]
        rw [List.getElem?_set_ne (Ne.symm e)]
        exact ho i hi e h2
    · have h3 : 2 ≤ m := O.two hh hmm
      exact (hD hh).up (List.getElem?_set_ne (by omega)) (List.getElem?_set_ne (by omega))
  have g2 : (w.put k ys).all[j]? = some (m, zs) := by
    rw [Wl.put_all, List.getElem?_modify, g]
    simp [hkj]
  refine O2.putG g2 (by simp [C2]) am.1 (fun i hi h2 => ?_) hD am.2
  simp only [C2]
  rw [List.getElem?_set_ne (Ne.symm hi)]
end
/-! ### a call's end -/
section
variable {C C1 : Cs} {dl : Bool} {ps cs : List (Nat × List D)} {d : D} {Q : QD}
theorem Own.upd (O : Own ⟨dl, C, ps, cs⟩ C1) : Up dl ps C (C1.take C.length) := by
  have hl : C.length ≤ C1.length := O.len
  have tk : ∀ i, i < C.length → (C1.take C.length)[i]? = C1[i]? := fun i hi => by rw [List.getElem?_take, if_pos hi]
  refine ⟨by simp; omega, fun p hp => ?_, fun i h1 h2 => ?_, fun hd => ?_⟩
  · have := (O.par p hp).1
    rw [tk _ this]
    exact O.at' p (List.mem_append_left _ hp)
  · by_cases hi : i < C.length
    · rw [tk i hi]
      exact O.old i hi h1 h2
    · rw [List.getElem?_eq_none (by simp; omega), List.getElem?_eq_none (by omega)]
  · obtain ⟨g, h2⟩ := O.deal hd
    have h2 : 2 ≤ C.length := h2
    exact g.up (tk 0 (by omega)) (tk 1 (by omega))
theorem Own.loCs (O : Own ⟨dl, C, ps, cs⟩ C1) (hlc : loCs C.length C = true) : loCs C.length (C1.take C.length) = true := by
  have u := O.upd
  refine List.all_eq_true.mpr fun c hc => ?_
  obtain ⟨i, hi⟩ := List.mem_iff_getElem?.mp hc
  have hil : i < C.length := u.len ▸ (List.getElem?_eq_some_iff.mp hi).1
  by_cases hp : ∃ p ∈ ps, p.1 = i
  · obtain ⟨p, hp, rfl⟩ := hp
    obtain ⟨e, hcl⟩ := u.at' p hp
    rw [e] at hi
    cases hi
    exact los_up (Nat.zero_le _) _ hcl
  · by_cases h2 : dl = true → 2 ≤ i
    · have e := u.old i (fun p h1 e => hp ⟨p, h1, e⟩) h2
      rw [e] at hi
      exact List.all_eq_true.mp hlc _ (List.mem_of_getElem? hi)
    · have hdl : dl = true := by
        cases dl with
        | true => rfl
        | false => exact absurd (fun h => (nomatch h)) h2
      have hi2 : i < 2 := by
        rcases Nat.lt_or_ge i 2 with h | h
        · exact h
        · exact absurd (fun _ => h) h2
      obtain ⟨zs, b, g0, g1, _⟩ := u.deal hdl
      have h2l : 2 ≤ C.length := (O.deal hdl).2
      rcases (show i = 0 ∨ i = 1 by omega) with rfl | rfl
      · rw [g0] at hi
        cases hi
        show (decide (1 < C.length) && (true && true)) = true
        rw [decide_eq_true (show 1 < C.length by omega)]
        rfl
      · rw [g1] at hi
        cases hi
        exact los_ints _ zs
/-- plain data is returned -/
theorem Own.fin (O : Own ⟨dl, C, ps, cs⟩ C1) (hlc : DL.loCs C.length C = true) (hd : lo C.length d = true) (k : ∀ C', Up dl ps C C' → Q d C') : fin C d C1 Q :=
  fin_wr O.len hd (O.loCs hlc) (k _ O.upd)
/-- a list of the def's own is returned, read alone from now on -/
theorem Own.finL {j n : Nat} {xs : List D} (O : Own ⟨dl, C, ps, cs⟩ C1) (hlc : DL.loCs C.length C = true) (h : cs[j]? = some (n, xs)) (k : ∀ C', Up dl ps C C' → Q (.lst xs) C') : DL.fin C (.cel n) C1 Q := by
  have hm := List.mem_of_getElem? h
  obtain ⟨e, hc⟩ := O.at' _ (List.mem_append_right _ hm)
  exact fin_wrL O.len (O.new _ hm) e (los_up (Nat.zero_le _) _ hc) (O.loCs hlc) (k _ O.upd)
/-- .. and may be written -/
theorem Own.finC {j n : Nat} {xs : List D} (O : Own ⟨dl, C, ps, cs⟩ C1) (hlc : DL.loCs C.length C = true) (h : cs[j]? = some (n, xs)) (k : ∀ C', Up dl ps C C' → los 0 xs = true → Q (.cel C'.length) (C' ++ [.lst xs])) : DL.fin C (.cel n) C1 Q := by
  have hm := List.mem_of_getElem? h
  obtain ⟨e, hc⟩ := O.at' _ (List.mem_append_right _ hm)
  refine fin_wrC O.len (O.new _ hm) e (los_up (Nat.zero_le _) _ hc) (O.loCs hlc) ?_
  have u := O.upd
  have := k _ u hc
  rw [u.len] at this
  exact this
end
end TL
/-! TL2: expressions that write nothing: what they are, in plain Lean data. -/
namespace TL
open PySem PySem.Spec PyProof.Rows L2 DL
/-! ### plain Lean -/
section
variable {α β : Type}
def gi [Inhabited α] (xs : List α) (i : Int) : α := (atI xs i).getD default
def inb (n : Nat) (i : Int) : Prop := -(n : Int) ≤ i ∧ i < n
theorem atI_map (e : α → β) (xs : List α) (i : Int) : atI (xs.map e) i = (atI xs i).map e := by
  unfold atI
  rw [List.length_map]
  cases ixN xs.length i with
  | none => rfl
  | some j => simp
theorem inb_at [Inhabited α] {xs : List α} {i : Int} (h : inb xs.length i) : atI xs i = some (gi xs i) := by
  have : ∃ a, atI xs i = some a := by
    unfold atI ixN
    obtain ⟨h1, h2⟩ := h
    by_cases h0 : 0 ≤ i
    · rw [if_pos h0, if_pos h2]
      exact ⟨xs[i.toNat], List.getElem?_eq_getElem (by omega)⟩
    · rw [if_neg h0, if_pos h1]
      exact ⟨xs[(i + xs.length).toNat], List.getElem?_eq_getElem (by omega)⟩
  obtain ⟨a, e⟩ := this
  unfold gi
  rw [e]
  rfl
theorem inb_of {n : Nat} {i : Int} (h : 0 ≤ i) (h2 : i < n) : inb n i := ⟨by omega, h2⟩
theorem gi_nat [Inhabited α] {xs : List α} {i : Int} (h : 0 ≤ i) : gi xs i = xs.getD i.toNat default := by
  unfold gi atI ixN
  rw [if_pos h]
  by_cases h2 : i < xs.length
  · rw [if_pos h2, List.getD_eq_getElem?_getD]
    rfl
  · rw [if_neg h2, List.getD_eq_getElem?_getD, List.getElem?_eq_none (by omega)]
    rfl
theorem gi_ofNat [Inhabited α] {xs : List α} {i : Nat} : gi xs (i : Int) = xs.getD i default := by
  rw [gi_nat (by omega)]
  rfl
theorem gi_mem [Inhabited α] {xs : List α} {i : Int} (h : inb xs.length i) : gi xs i ∈ xs := by
  have := inb_at h
  unfold atI at this
  cases hx : ixN xs.length i with
  | none => rw [hx] at this; cases this
  | some j => rw [hx] at this; exact List.mem_of_getElem? this
theorem gi_map [Inhabited α] [Inhabited β] {f : α → β} {xs : List α} {i : Int} (h : inb xs.length i) : gi (xs.map f) i = f (gi xs i) := by
  unfold gi
  rw [atI_map, inb_at h]
  rfl
def cut (xs : List α) (lo hi : Option Int) : List α := (xs.drop (HT.sIx xs.length 0 lo)).take (HT.sIx xs.length xs.length hi - HT.sIx xs.length 0 lo)
theorem cut_map (e : α → D) (xs : List α) (lo hi : Option Int) : DL.cutD (xs.map e) lo hi = (cut xs lo hi).map e := by
  unfold DL.cutD cut
  rw [List.length_map, List.map_take, List.map_drop]
theorem cut_hi (xs : List α) {i : Int} (h : 0 ≤ i) : cut xs none (some i) = xs.take i.toNat := by
  obtain ⟨k, rfl⟩ := Int.eq_ofNat_of_zero_le h
  unfold cut
  rw [HT.sIx_none, HT.sIx_nat, List.drop_zero, Nat.sub_zero]
  rcases Nat.le_total k xs.length with h | h
  · rw [Nat.min_eq_left h]
    rfl
  · rw [Nat.min_eq_right h, List.take_length, List.take_of_length_le (by omega)]
theorem cut_lo (xs : List α) {i : Int} (h : 0 ≤ i) : cut xs (some i) none = xs.drop i.toNat := by
  obtain ⟨k, rfl⟩ := Int.eq_ofNat_of_zero_le h
  unfold cut
  rw [HT.sIx_none, HT.sIx_nat]
  rcases Nat.le_total k xs.length with h | h
  · rw [Nat.min_eq_left h]
    exact List.take_of_length_le (by simp)
  · rw [Nat.min_eq_right h, Nat.sub_self, List.take_zero, List.drop_of_length_le (by omega)]
theorem cut_both (xs : List α) {i j : Int} (h : 0 ≤ i) (h2 : 0 ≤ j) : cut xs (some i) (some j) = (xs.take j.toNat).drop i.toNat := by
  obtain ⟨a, rfl⟩ := Int.eq_ofNat_of_zero_le h
  obtain ⟨b, rfl⟩ := Int.eq_ofNat_of_zero_le h2
  unfold cut
  rw [HT.sIx_nat, HT.sIx_nat]
  show _ = (xs.take b).drop a
  rw [List.drop_take]
  rcases Nat.le_total a xs.length with h | h
  · rw [Nat.min_eq_left h]
    rcases Nat.le_total b xs.length with h2 | h2
    · rw [Nat.min_eq_left h2]
    · rw [Nat.min_eq_right h2, List.take_of_length_le (by simp), List.take_of_length_le (by simp; omega)]
  · rw [Nat.min_eq_right h, List.drop_of_length_le (Nat.le_refl _), List.drop_of_length_le h]
    simp
def maxL : List Int → Int
  | [] => 0
  | [x] => x
  | x :: y :: r => max x (maxL (y :: r))
def minL : List Int → Int
  | [] => 0
  | [x] => x
  | x :: y :: r => min x (minL (y :: r))
theorem maxL_mem : ∀ {xs : List Int}, xs ≠ [] → maxL xs ∈ xs
  | [], h => absurd rfl h
  | [x], _ => List.mem_singleton.mpr rfl
  | x :: y :: r, _ => by
    have ih := maxL_mem (xs := y :: r) (by simp)
    unfold maxL
    rcases Int.le_total x (maxL (y :: r)) with h | h
    · rw [Int.max_eq_right h]
      exact List.mem_cons_of_mem _ ih
    · rw [Int.max_eq_left h]
      exact List.mem_cons_self
theorem maxL_le : ∀ {xs : List Int}, ∀ z ∈ xs, z ≤ maxL xs
  | [], z, h => by cases h
  | [x], z, h => by rw [List.mem_singleton.mp h]; exact Int.le_refl _
  | x :: y :: r, z, h => by
    have ih := maxL_le (xs := y :: r)
    unfold maxL
    rcases List.mem_cons.mp h with rfl | h
    · exact Int.le_max_left _ _
    · exact Int.le_trans (ih z h) (Int.le_max_right _ _)
theorem maxL_eq {xs : List Int} {m : Int} (h1 : m ∈ xs) (h2 : ∀ y ∈ xs, y ≤ m) : m = maxL xs := Int.le_antisymm (maxL_le m h1) (h2 _ (maxL_mem (List.ne_nil_of_mem h1)))
theorem minL_mem : ∀ {xs : List Int}, xs ≠ [] → minL xs ∈ xs
  | [], h => absurd rfl h
  | [x], _ => List.mem_singleton.mpr rfl
  | x :: y :: r, _ => by
    have ih := minL_mem (xs := y :: r) (by simp)
    unfold minL
    rcases Int.le_total x (minL (y :: r)) with h | h
    · rw [Int.min_eq_left h]
      exact List.mem_cons_self
    · rw [Int.min_eq_right h]
      exact List.mem_cons_of_mem _ ih
theorem minL_le : ∀ {xs : List Int}, ∀ z ∈ xs, minL xs ≤ z
  | [], z, h => by cases h
  | [x], z, h => by rw [List.mem_singleton.mp h]; exact Int.le_refl _
  | x :: y :: r, z, h => by
    have ih := minL_le (xs := y :: r)
    unfold minL
    rcases List.mem_cons.mp h with rfl | h
    · exact Int.min_le_left _ _
    · exact Int.le_trans (Int.min_le_right _ _) (ih z h)
theorem minL_eq {xs : List Int} {m : Int} (h1 : m ∈ xs) (h2 : ∀ y ∈ xs, m ≤ y) : m = minL xs := Int.le_antisymm (h2 _ (minL_mem (List.ne_nil_of_mem h1))) (minL_le m h1)
def sortI (xs : List Int) : List Int := xs.mergeSort fun a b => decide (a ≤ b)
theorem sortI_perm (xs : List Int) : (sortI xs).Perm xs := List.mergeSort_perm _ _
theorem sortI_le (xs : List Int) : (sortI xs).Pairwise (· ≤ ·) := by
  have := List.pairwise_mergeSort (le := fun a b : Int => decide (a ≤ b)) (by simp; omega) (by simp; omega) xs
  simpa [sortI] using this
theorem sort_unique : ∀ {xs ys : List Int}, xs.Perm ys → xs.Pairwise (· ≤ ·) → ys.Pairwise (· ≤ ·) → xs = ys
  | [], ys, p, _, _ => (List.nil_perm.mp p).symm
  | x :: xs, [], p, _, _ => absurd p.symm (by simp)
  | x :: xs, y :: ys, p, h1, h2 => by
    obtain ⟨a1, a2⟩ := List.pairwise_cons.mp h1
    obtain ⟨b1, b2⟩ := List.pairwise_cons.mp h2
    have hx : x ∈ y :: ys := p.mem_iff.mp List.mem_cons_self
    have hy : y ∈ x :: xs := p.mem_iff.mpr List.mem_cons_self
    have e : x = y := by
      rcases List.mem_cons.mp hx with e | e
      · exact e
      rcases List.mem_cons.mp hy with e' | e'
      · exact e'.symm
      exact Int.le_antisymm (a1 _ e') (b1 _ e)
    subst e
    rw [sort_unique (List.perm_cons x |>.mp p) a2 b2]
theorem sortI_eq {xs ys : List Int} (p : ys.Perm xs) (h : ys.Pairwise (· ≤ ·)) : ys = sortI xs := sort_unique (p.trans (sortI_perm xs).symm) h (sortI_le xs)
def irange (a b : Int) : List Int := (List.range (b - a).toNat).map fun (i : Nat) => a + (i : Int)
theorem mem_irange {a b x : Int} : x ∈ irange a b ↔ a ≤ x ∧ x < b := by
  unfold irange
  rw [List.mem_map]
  constructor
  · rintro ⟨i, hi, rfl⟩
    have := List.mem_range.mp hi
    omega
  · rintro ⟨h1, h2⟩
    exact ⟨(x - a).toNat, List.mem_range.mpr (by omega), by omega⟩
theorem irange_len {a b : Int} : (irange a b).length = (b - a).toNat := by simp [irange]
theorem irange_nodup (a b : Int) : (irange a b).Nodup := by
  unfold irange
  rw [List.nodup_iff_pairwise_ne, List.pairwise_map]
  exact (List.nodup_range (n := (b - a).toNat)).imp fun {x y} h e => h (by omega)
def enumI (xs : List α) : List (Int × α) := xs.mapIdx fun i x => ((i : Int), x)
theorem enumI_map (e : α → D) (xs : List α) : enumD (xs.map e) = (enumI xs).map (eP2 eI e) := by
  unfold enumD enumI
  refine List.ext_getElem? fun i => ?_
  rw [List.getElem?_mapIdx, List.getElem?_map, List.getElem?_map, List.getElem?_mapIdx]
  cases xs[i]? <;> rfl
theorem zip_map (e : α → D) (f : β → D) (xs : List α) (ys : List β) : zipD (xs.map e) (ys.map f) = (xs.zip ys).map (eP2 e f) := by
  unfold zipD
  rw [List.zipWith_map]
  induction xs generalizing ys with
  | nil => rfl
  | cons x xs ih =>
    cases ys with
    | nil => rfl
    | cons y ys =>
      show _ :: List.zipWith _ xs ys = _
      rw [ih]
      rfl
end
def tyB (T : String) (d : D) : Bool := (isTy T d).getD false
def isObj : D → Bool
  | .obj _ => true
  | _ => false

/-! ### the judgements -/
def JE (w : Wl) (r : Ev) (t : RE) (d : D) : Prop := ∀ C, Own w C → ∀ Q : QD, Q d C → t r C Q
def JT (w : Wl) (r : Ev) (t : RT) (b : Bool) : Prop := ∀ C, Own w C → ∀ Q : Bool → Cs → Prop, Q b C → t r C Q
def JA (w : Wl) (r : Ev) (t : RA) (ds : List D) : Prop := ∀ C, Own w C → ∀ Q : List D → Cs → Prop, Q ds C → t r C Q
def JO (w : Wl) (r : Ev) (t : RO) (o : Option Int) : Prop := ∀ C, Own w C → ∀ Q : Option Int → Cs → Prop, Q o C → t r C Q
def JR (w : Wl) (r : Ev) (t : RR) (a b : Int) : Prop := ∀ C, Own w C → ∀ Q : Int → Int → Cs → Prop, Q a b C → t r C Q
def JI (w : Wl) (r : Ev) (t : RI) (ds : List D) (Gs : Cs → Prop) : Prop := (∀ C, Own w C → Gs C) ∧ ∀ C, Own w C → ∀ Q : List D → (Cs → Prop) → Cs → Prop, (∀ G : Cs → Prop, (∀ C', Gs C' → G C') → Q ds G C) → t r C Q
def J1 (w : Wl) (o : O1) (x d : D) : Prop := ∀ C, Own w C → ∀ Q : QD, Q d C → o x C Q
def J2 (w : Wl) (o : O2) (x y d : D) : Prop := ∀ C, Own w C → ∀ Q : QD, Q d C → o x y C Q
def JF (w : Wl) (o : OA) (ds : List D) (d : D) : Prop := ∀ C, Own w C → ∀ Q : QD, Q d C → o ds C Q
def JM (w : Wl) (o : OM) (x : D) (ds : List D) (d : D) : Prop := ∀ C, Own w C → ∀ Q : QD, Q d C → o x ds C Q
def JG (g : RG) (d : D) (r r' : Ev) : Prop := ∀ C (Q : Ev → Cs → Prop), Q r' C → g d r C Q
def JGs (g : RGs) (ds : List D) (r r' : Ev) : Prop := ∀ C (Q : Ev → Cs → Prop), Q r' C → g ds r C Q
/-- x reads as the sequence ds -/
structure Sv (w : Wl) (d : D) (ds : List D) (Gs : Cs → Prop) : Prop where
  now : ∀ C, Own w C → Gs C
  rd : ∀ C, Gs C → sqD C d = some ds
structure Lv (w : Wl) (d : D) (ds : List D) (Gs : Cs → Prop) : Prop extends Sv w d ds Gs where
  ll : ∀ C, Gs C → llD C d = some ds
abbrev GT : Cs → Prop := fun _ => True
section
variable {w : Wl} {r : Ev} {α β γ δ : Type} {e : α → D} {f : β → D} {g : γ → D} {h : δ → D} {ds : List D} {n k : Nat}
theorem sv_T {xs : List α} : Sv w (eT e xs) (xs.map e) GT := ⟨fun _ _ => trivial, fun _ _ => rfl⟩
theorem lv_L {xs : List α} : Lv w (eL e xs) (xs.map e) GT := ⟨⟨fun _ _ => trivial, fun _ _ => rfl⟩, fun _ _ => rfl⟩
theorem sv_L {xs : List α} : Sv w (eL e xs) (xs.map e) GT := lv_L.toSv
theorem lv_C (k : Nat) (hk : w.all[k]? = some (n, ds)) : Lv w (.cel n) ds (fun C => C[n]? = some (.lst ds)) := ⟨⟨fun _ O => O.get hk, fun C e => lsD_at e⟩, fun C e => lsD_at e⟩
theorem sv_C (k : Nat) (hk : w.all[k]? = some (n, ds)) : Sv w (.cel n) ds (fun C => C[n]? = some (.lst ds)) := (lv_C k hk).toSv
theorem sv_S {xs : List α} : Sv w (.scr (xs.map e)) (xs.map e) GT := ⟨fun _ _ => trivial, fun _ _ => rfl⟩
theorem sv_D {xs : List D} : Sv w (.tup xs) xs GT := ⟨fun _ _ => trivial, fun _ _ => rfl⟩
theorem sv_P2 {p : α × α} : Sv w (eP2 e e p) ([p.1, p.2].map e) GT := ⟨fun _ _ => trivial, fun _ _ => rfl⟩
theorem sv_P3 {p : α × α × α} : Sv w (eP3 e e e p) ([p.1, p.2.1, p.2.2].map e) GT := ⟨fun _ _ => trivial, fun _ _ => rfl⟩
/-! ### expressions -/
variable {ta tb tc te : RE} {ra rb : RA} {x y z d : D} {o o' : O2} {a b c : Bool}
theorem je_var {i : Nat} (hv : r.getD i none = some d) : JE w r (dVar i) d := fun C _ Q q => v_var hv q
theorem je_c : JE w r (dC d) d := fun C _ Q q => q
theorem je_op (ha : JE w r ta x) (hb : JE w r tb y) (ho : J2 w o x y d) : JE w r (dOp o ta tb) d := fun C O Q q => ha C O _ (hb C O _ (ho C O _ q))
theorem je_un {o : O1} (ha : JE w r ta x) (ho : J1 w o x d) : JE w r (dUn o ta) d := fun C O Q q => ha C O _ (ho C O _ q)
theorem je_chain (ha : JE w r ta x) (hb : JE w r tb y) (ho : J2 w o x y (eB a)) (hc : a = true → JE w r tc z) (ho' : a = true → J2 w o' y z (eB b)) : JE w r (dChain o o' ta tb tc) (eB (a && b)) := fun C O Q q => ha C O _ (hb C O _ (ho C O _ (by
  cases a with
  | true => exact hc rfl C O _ (ho' rfl C O _ q)
  | false => exact q)))
theorem je_if {t : RT} {u v : α} (hc : JT w r t c) (ha : c = true → JE w r ta (e u)) (hb : c = false → JE w r tb (e v)) : JE w r (dIf t ta tb) (e (if c = true then u else v)) := fun C O Q q => hc C O _ (by
  cases c with
  | true => exact ha rfl C O _ q
  | false => exact hb rfl C O _ q)
theorem je_tup (h : JA w r ra ds) : JE w r (dTup ra) (.tup ds) := fun C O Q q => h C O _ q
theorem je_tupT {xs : List α} (h : JA w r ra (xs.map e)) : JE w r (dTup ra) (eT e xs) := fun C O Q q => h C O _ q
theorem je_lstL {xs : List α} (h : JA w r ra (xs.map e)) : JE w r (dLst ra) (eL e xs) := fun C O Q q => h C O _ q
theorem ja_nil : JA w r dNil [] := fun C O Q q => q
theorem ja_cons (ha : JE w r ta x) (hb : JA w r ra ds) : JA w r (dCons ta ra) (x :: ds) := fun C O Q q => ha C O _ (hb C O _ q)
theorem ja_m0 : JA w r dNil (([] : List α).map e) := fun C O Q q => q
theorem ja_m1 {u : α} {xs : List α} (ha : JE w r ta (e u)) (hb : JA w r ra (xs.map e)) : JA w r (dCons ta ra) ((u :: xs).map e) := fun C O Q q => ha C O _ (hb C O _ q)
theorem je_cb {o : OA} (ha : JA w r ra ds) (ho : JF w o ds d) : JE w r (dCB o ra) d := fun C O Q q => ha C O _ (ho C O _ q)
theorem jo_no : JO w r dNo none := fun C O Q q => q
theorem jo_part {i : Int} (h : JE w r te (eI i)) : JO w r (dPart te) (some i) := fun C O Q q => h C O _ q
theorem je_slT {xs : List α} {tl th : RO} {l u : Option Int} (hx : JE w r te (eT e xs)) (hl : JO w r tl l) (hu : JO w r th u) : JE w r (dSl oSl te tl th) (eT e (cut xs l u)) := fun C O Q q => hx C O _ (hl C O _ (hu C O _ (by
  show Q (.tup (DL.cutD (xs.map e) l u)) C
  rw [cut_map]
  exact q)))
theorem je_slL {xs : List α} {tl th : RO} {l u : Option Int} {Gs : Cs → Prop} (hx : JE w r te d) (hv : Lv w d (xs.map e) Gs) (hl : JO w r tl l) (hu : JO w r th u) : JE w r (dSl oSl te tl th) (eL e (cut xs l u)) := fun C O Q q => hx C O _ (hl C O _ (hu C O _ (by
  have q' : Q (.lst (DL.cutD (xs.map e) l u)) C := by rw [cut_map]; exact q
  have el := hv.ll C (hv.now C O)
  unfold oSl
  cases d with
  | str s => cases el
  | tup s => cases el
  | _ =>
    show opt (llD C _) _
    rw [el]
    exact q')))
theorem je_rev {xs : List α} {Gs : Cs → Prop} (hx : JE w r te d) (hv : Lv w d (xs.map e) Gs) : JE w r (dRev te) (eL e xs.reverse) := fun C O Q q => hx C O _ (by
  show opt (llD C d) _
  rw [hv.ll C (hv.now C O)]
  show Q (.lst (xs.map e).reverse) C
  rw [← List.map_reverse]
  exact q)
theorem je_isi {T : String} (hx : JE w r te d) (hb : isTy T d = some b) : JE w r (dIsi T te) (eB b) := fun C O Q q => hx C O _ (by
  show opt (isTy T d) _
  rw [hb]
  exact q)
theorem je_isi2 {T U : String} (hx : JE w r te d) (hb : isTy T d = some a) (hc : isTy U d = some b) : JE w r (dIsi2 T U te) (eB (a || b)) := fun C O Q q => hx C O _ (by
  show opt (isTy T d) _
  rw [hb]
  show opt (isTy U d) _
  rw [hc]
  exact q)
theorem je_and (ha : JE w r ta (eB a)) (hb : a = true → JE w r tb (eB b)) : JE w r (dAndV ta tb) (eB (a && b)) := fun C O Q q => v_andV (ha C O _ (by
  cases a with
  | true => exact hb rfl C O _ q
  | false => exact q))
theorem je_or (ha : JE w r ta (eB a)) (hb : a = false → JE w r tb (eB b)) : JE w r (dOrV ta tb) (eB (a || b)) := fun C O Q q => v_orV (ha C O _ (by
  cases a with
  | false => exact hb rfl C O _ q
  | true => exact q))
theorem je_not (ha : JE w r ta (eB a)) : JE w r (dNotV ta) (eB (!a)) := fun C O Q q => v_notV (ha C O _ (by
  cases a <;> exact q))
theorem je_call {sp : SpD} {W : XW} (ha : JA w r ra ds) (h : ∀ C Q E, Q d C → sp ds C Q E) : JE w r (dCall sp W ra) d := fun C O Q q => ha C O _ (h C Q _ q)
theorem je_callO {sp : SpD} {W : XW} (ha : JA w r ra ds) (h : ∀ C, Own w C → ∀ Q E, Q d C → sp ds C Q E) : JE w r (dCall sp W ra) d := fun C O Q q => ha C O _ (h C O Q _ q)
theorem je_callK {sp : SpD} {W : XW} {p : List Nat} {es : List D} (ha : JA w r ra ds) (hb : JA w r rb es) (h : ∀ C Q E, Q d C → sp (ds ++ pick p es) C Q E) : JE w r (dCallK sp p W ra rb) d := fun C O Q q => ha C O _ (hb C O _ (h C Q _ q))
theorem je_ml {om : OM} {us : List D} {Gs : Cs → Prop} (hx : JE w r te x) (hv : Lv w x us Gs) (ha : JA w r ra ds) (ho : JM w om x ds d) : JE w r (dMl om te ra) d := fun C O Q q => hx C O _ (by
  show opt (llD C x) _
  rw [hv.ll C (hv.now C O)]
  exact ha C O _ (ho C O _ q))
theorem je_mt {om : OM} (hx : JE w r te x) (hv : isTupD x = true) (ha : JA w r ra ds) (ho : JM w om x ds d) : JE w r (dMt om te ra) d := fun C O Q q => hx C O _ ⟨hv, ha C O _ (ho C O _ q)⟩
theorem rng_ir (i j : Int) : rngD i (j - i).toNat = (irange i j).map eI := by
  rw [rngD_eq]
  rfl
theorem je_tupR {tr : RR} {i j : Int} (hr : JR w r tr i j) (hk : rgOk i j) : JE w r (dTupR tr) (eT eI (irange i j)) := fun C O Q q => hr C O _ ⟨hk, by rw [rng_ir]; exact q⟩
theorem je_lstR {tr : RR} {i j : Int} (hr : JR w r tr i j) (hk : rgOk i j) : JE w r (dLstR false tr) (eL eI (irange i j)) := fun C O Q q => hr C O _ ⟨hk, by rw [rng_ir]; exact q⟩
theorem jr_1 {i : Int} (h : JE w r te (eI i)) : JR w r (rR1 te) 0 i := fun C O Q q => h C O _ q
theorem jr_2 {i j : Int} (h : JE w r ta (eI i)) (h2 : JE w r tb (eI j)) : JR w r (rR2 ta tb) i j := fun C O Q q => h C O _ (h2 C O _ q)
/-! ### tests -/
variable {t u : RT}
theorem jt_test (h : JE w r te (eB b)) : JT w r (dTest te) b := fun C O Q q => h C O _ q
theorem jt_and (ha : JT w r t a) (hb : a = true → JT w r u b) : JT w r (dAnd t u) (a && b) := fun C O Q q => ha C O _ (by
  cases a with
  | true => exact hb rfl C O _ q
  | false => exact q)
theorem jt_or (ha : JT w r t a) (hb : a = false → JT w r u b) : JT w r (dOr t u) (a || b) := fun C O Q q => ha C O _ (by
  cases a with
  | false => exact hb rfl C O _ q
  | true => exact q)
theorem jt_not (ha : JT w r t a) : JT w r (dNot t) (!a) := fun C O Q q => ha C O _ q
/-! ### what is walked -/
variable {Gs Gs' : Cs → Prop} {us : List D}
theorem ji_seq (hx : JE w r te d) (s : Sv w d ds Gs) : JI w r (iSeq te) ds Gs := ⟨s.now, fun C O Q q => hx C O _ (by
  show opt (sqD C d) _
  rw [s.rd C (s.now C O)]
  exact q _ fun C' g => s.rd C' g)⟩
theorem ji_enu {xs : List α} (hx : JE w r te d) (s : Sv w d (xs.map e) Gs) : JI w r (iEnu te) ((enumI xs).map (eP2 eI e)) Gs := ⟨s.now, fun C O Q q => hx C O _ (by
  show opt (sqD C d) _
  rw [s.rd C (s.now C O)]
  show Q (enumD (xs.map e)) _ C
  rw [enumI_map]
  exact q _ fun C' g => s.rd C' g)⟩
theorem ji_zip {xs : List α} {ys : List β} (hx : JE w r ta x) (hy : JE w r tb y) (s : Sv w x (xs.map e) Gs) (s' : Sv w y (ys.map f) Gs') : JI w r (iZip2 ta tb) ((xs.zip ys).map (eP2 e f)) (fun C => Gs C ∧ Gs' C) := ⟨fun C O => ⟨s.now C O, s'.now C O⟩, fun C O Q q => hx C O _ (hy C O _ (by
  show opt (sqD C x) _
  rw [s.rd C (s.now C O)]
  show opt (sqD C y) _
  rw [s'.rd C (s'.now C O)]
  show Q (zipD (xs.map e) (ys.map f)) _ C
  rw [zip_map]
  exact q _ fun C' g => ⟨s.rd C' g.1, s'.rd C' g.2⟩))⟩
theorem ji_r1 {i : Int} (h : JE w r te (eI i)) (hk : -(2 ^ 62) ≤ i ∧ i ≤ 2 ^ 24) : JI w r (iR1 te) ((irange 0 i).map eI) GT := ⟨fun _ _ => trivial, fun C O Q q => h C O _ ⟨hk, by
  have := rng_ir 0 i
  rw [Int.sub_zero] at this
  rw [this]
  exact q _ fun _ _ => trivial⟩⟩
theorem ji_r2 {i j : Int} (h : JE w r ta (eI i)) (h2 : JE w r tb (eI j)) (hk : rgOk i j) : JI w r (iR2 ta tb) ((irange i j).map eI) GT := ⟨fun _ _ => trivial, fun C O Q q => h C O _ (h2 C O _ ⟨hk, by rw [rng_ir]; exact q _ fun _ _ => trivial⟩)⟩
/-! ### targets -/
theorem jg_n {i : Nat} {r : Ev} : JG (gN i) d r (r.set i (some d)) := fun C Q q => q
theorem jg_nil {r : Ev} : JGs gNi [] r r := fun C Q q => q
theorem jg_cons {g : RG} {gs : RGs} {r r1 r2 : Ev} (h : JG g d r r1) (h2 : JGs gs ds r1 r2) : JGs (gCo g gs) (d :: ds) r r2 := fun C Q q => h C _ (h2 C _ q)
theorem jg_tup {gs : RGs} {n : Nat} {r r1 : Ev} (h : JGs gs ds r r1) (hl : ds.length = n) : JG (gTup n gs) (.tup ds) r r1 := fun C Q q => ⟨hl, h C _ q⟩
theorem jg_lst {gs : RGs} {n : Nat} {r r1 : Ev} (h : JGs gs ds r r1) (hl : ds.length = n) : JG (gTup n gs) (.lst ds) r r1 := fun C Q q => ⟨hl, h C _ q⟩
/-! ### comprehensions -/
variable {it : RI} {gg : RG} {tt : RT} {own : List Nat}
theorem je_lc {xs : List α} {r' : α → Ev} (hi : JI w r it (xs.map e) Gs) (hg : ∀ x, JG gg (e x) (wipeD r own) (r' x)) (p : α → Bool) (v : α → β) (ht : ∀ x, x ∈ xs → JT w (r' x) tt (p x)) (he : ∀ x, x ∈ xs → p x = true → JE w (r' x) te (f (v x))) :
    JE w r (dLcB false it gg tt te own) (eL f ((xs.filter p).map v)) := fun C O Q q => by
  refine v_lc (hi.2 C O _ fun G hG => ?_)
  refine lc_ok (e := e) (fun x => if p x = true then some (f (v x)) else none) rfl (hG C (hi.1 C O)) (fun x hx Y Z k => ?_) ?_
  · refine hg x C _ (ht x hx C O _ ?_)
    unfold lcK at k
    cases hp : p x with
    | true =>
      rw [hp, if_pos rfl] at k
      exact he x hx hp C O _ k
    | false =>
      rw [hp] at k
      exact k
  · have e1 : ∀ ys : List α, (ys.filterMap fun x => if p x = true then some (f (v x)) else none) = ((ys.filter p).map v).map f := fun ys => by
      induction ys with
      | nil => rfl
      | cons y ys ih =>
        rw [List.filterMap_cons]
        by_cases hp : p y = true
        · rw [if_pos hp, List.filter_cons_of_pos hp, ih]
          rfl
        · rw [if_neg hp, List.filter_cons_of_neg hp, ih]
    rw [e1]
    exact q
theorem je_lc0 {xs : List α} {r' : α → Ev} (hi : JI w r it (xs.map e) Gs) (hg : ∀ x, JG gg (e x) (wipeD r own) (r' x)) (v : α → β) (he : ∀ x, x ∈ xs → JE w (r' x) te (f (v x))) :
    JE w r (dLcB false it gg cNil te own) (eL f (xs.map v)) := fun C O Q q => by
  have := je_lc (tt := cNil) hi hg (fun _ => true) v (fun x _ C O Q q => q) (fun x hx _ => he x hx) C O Q
  refine this ?_
  have e1 : xs.filter (fun _ => true) = xs := List.filter_eq_self.mpr fun _ _ => rfl
  rw [e1]
  exact q
end
/-! ### operators on plain data -/
section
variable {w : Wl} {α β γ : Type} {e : α → D} {f : β → D} {i j : Int} {x y d : D} {b : Bool}
theorem j1_neg : J1 w oNeg (eI i) (eI (-i)) := fun _ _ _ q => q
theorem j2_add : J2 w oAdd (eI i) (eI j) (eI (i + j)) := fun _ _ _ q => q
theorem j2_sub : J2 w oSub (eI i) (eI j) (eI (i - j)) := fun _ _ _ q => q
theorem j2_mul (h : CMul i j) : J2 w oMul (eI i) (eI j) (eI (i * j)) := fun _ _ _ q => ⟨h, q⟩
theorem j2_fdiv (h : CDiv i j) : J2 w oFdiv (eI i) (eI j) (eI (i / j)) := fun _ _ _ q => ⟨h, q⟩
theorem j2_mod (h : 0 < j) : J2 w oMod (eI i) (eI j) (eI (i % j)) := fun _ _ _ q => ⟨h, q⟩
theorem j2_pow (h : CPow i j) : J2 w oPow (eI i) (eI j) (eI (i ^ j.toNat)) := fun _ _ _ q => ⟨h, q⟩
theorem j2_addT {xs ys : List α} (h : xs.length + ys.length ≤ 100000) : J2 w oAdd (eT e xs) (eT e ys) (eT e (xs ++ ys)) := fun _ _ Q q => ⟨line_le (by rw [List.length_map, List.length_map]; exact h), by rw [← List.map_append]; exact q⟩
theorem j2_addLG {xs ys : List α} {Gs Gs' : Cs → Prop} (hx : Lv w x (xs.map e) Gs) (hy : Lv w y (ys.map e) Gs') (h : xs.length + ys.length ≤ 100000) (nx : ∀ zs, x ≠ .scr zs) (ny : ∀ zs, y ≠ .scr zs) : J2 w oAdd x y (eL e (xs ++ ys)) := fun C O Q q => by
  have e1 := hx.ll C (hx.now C O)
  have e2 := hy.ll C (hy.now C O)
  have l1 : lsD C x = some (xs.map e) := by
    cases x <;> first | exact e1 | exact absurd rfl (nx _)
  have l2 : lsD C y = some (ys.map e) := by
    cases y <;> first | exact e2 | exact absurd rfl (ny _)
  have k : opt (lsD C x) fun xs => opt (lsD C y) fun ys => xs.length + ys.length ≤ sizeLine ∧ Q (.lst (xs ++ ys)) C := by
    rw [l1]
    show opt (lsD C y) _
    rw [l2]
    exact ⟨line_le (by rw [List.length_map, List.length_map]; exact h), by rw [← List.map_append]; exact q⟩
  unfold oAdd
  cases x <;> first | exact k | (cases e1)
theorem j2_addL {xs ys : List α} (h : xs.length + ys.length ≤ 100000) : J2 w oAdd (eL e xs) (eL e ys) (eL e (xs ++ ys)) := j2_addLG lv_L lv_L h (fun _ z => (nomatch z)) fun _ z => (nomatch z)
theorem j2_mulL {xs : List α} {k : Int} (h : 0 ≤ k ∧ xs.length * k.toNat ≤ 100000) (hk : k < 1000000) : J2 w oMul (eL e xs) (eI k) (eL e (List.replicate k.toNat xs).flatten) := fun C O Q q => by
  show opt (lsD C (.lst (xs.map e))) (fun zs => (-(2 ^ 63) ≤ k ∧ k < 2 ^ 63 ∧ zs.length * k.toNat ≤ sizeLine) ∧ Q (.lst (List.replicate k.toNat zs).flatten) C)
  refine ⟨⟨by omega, by omega, line_le (by rw [List.length_map]; exact h.2)⟩, ?_⟩
  have : (List.replicate k.toNat (xs.map e)).flatten = (List.replicate k.toNat xs).flatten.map e := by
    rw [List.map_flatten, List.map_replicate]
  rw [this]
  exact q
theorem j2_lt : J2 w oLt (eI i) (eI j) (eB (decide (i < j))) := fun _ _ _ q => q
theorem j2_le : J2 w oLe (eI i) (eI j) (eB (decide (i ≤ j))) := fun _ _ _ q => q
theorem j2_gt : J2 w oGt (eI i) (eI j) (eB (decide (j < i))) := fun _ _ _ q => q
theorem j2_ge : J2 w oGe (eI i) (eI j) (eB (decide (j ≤ i))) := fun _ _ _ q => q
theorem rdC_shp {C : Cs} {k : Nat} {d : D} (h : shp k d = true) : rdC C d = d := by
  cases d with
  | cel n => cases k <;> cases h
  | _ => rfl
theorem j2_eqG {neg : Bool} (hx : ∀ C, Own w C → shp 60 (rdC C x) = true) (hy : ∀ C, Own w C → shp 60 (rdC C y) = true) (h : ∀ C, Own w C → eqD (rdC C x) (rdC C y) = b) : J2 w (oEqN neg) x y (eB (if neg then !b else b)) := fun C O Q q => by
  have k : shp 60 (rdC C x) = true ∧ shp 60 (rdC C y) = true ∧ Q (.bl (if neg then !eqD (rdC C x) (rdC C y) else eqD (rdC C x) (rdC C y))) C := ⟨hx C O, hy C O, by rw [h C O]; exact q⟩
  unfold oEqN
  cases x <;> cases y <;> first | exact k | skip
  rename_i i j
  have := h C O
  have e2 : eqD (rdC C (.int i)) (rdC C (.int j)) = decide (i = j) := eqD_int i j
  rw [e2] at this
  show Q (.bl (if neg then !decide (i = j) else decide (i = j))) C
  rw [this]
  exact q
variable {k : Nat}
theorem j2_eq [DecidableEq α] [h : EqE e k] {u v : α} (hk : k ≤ 60 := by decide) : J2 w oEq (e u) (e v) (eB (decide (u = v))) :=
  j2_eqG (neg := false) (fun C _ => by rw [rdC_shp (h.sh u)]; exact shp_up hk _ (h.sh u)) (fun C _ => by rw [rdC_shp (h.sh v)]; exact shp_up hk _ (h.sh v)) fun C _ => by rw [rdC_shp (h.sh u), rdC_shp (h.sh v)]; exact h.eq u v
theorem j2_ne [DecidableEq α] [h : EqE e k] {u v : α} (hk : k ≤ 60 := by decide) : J2 w oNe (e u) (e v) (eB (!decide (u = v))) :=
  j2_eqG (neg := true) (fun C _ => by rw [rdC_shp (h.sh u)]; exact shp_up hk _ (h.sh u)) (fun C _ => by rw [rdC_shp (h.sh v)]; exact shp_up hk _ (h.sh v)) fun C _ => by rw [rdC_shp (h.sh u), rdC_shp (h.sh v)]; exact h.eq u v
/-- a cell on the left -/
theorem j2_eqCG {neg : Bool} [DecidableEq α] [h : EqE e k] {us vs : List α} {n : Nat} (m : Nat) (hm : w.all[m]? = some (n, us.map e)) (hk : k ≤ 59) : J2 w (oEqN neg) (.cel n) (eL e vs) (eB (if neg then !decide (us = vs) else decide (us = vs))) := by
  have er : ∀ C, Own w C → rdC C (.cel n) = eL e us := fun C O => by
    show (match C[n]? with | some (.lst xs) => D.lst xs | none => .cel n) = _
    rw [O.get hm]
    rfl
  have hs : ∀ vs : List α, shp (k + 1) (eL e vs) = true := fun vs => (inferInstance : EqE (eL e) (k + 1)).sh vs
  have e1 : eqD (eL e us) (eL e vs) = decide (us = vs) := (inferInstance : EqE (eL e) (k + 1)).eq us vs
  exact j2_eqG (fun C O => by rw [er C O]; exact shp_up (by omega) _ (hs us)) (fun C _ => by rw [rdC_shp (hs vs)]; exact shp_up (by omega) _ (hs vs)) fun C O => by rw [er C O, rdC_shp (hs vs), e1]
theorem j2_eqC [DecidableEq α] [h : EqE e k] {us vs : List α} {n : Nat} (m : Nat) (hm : w.all[m]? = some (n, us.map e)) (hk : k ≤ 59 := by decide) : J2 w oEq (.cel n) (eL e vs) (eB (decide (us = vs))) := j2_eqCG (neg := false) m hm hk
theorem j2_neC [DecidableEq α] [h : EqE e k] {us vs : List α} {n : Nat} (m : Nat) (hm : w.all[m]? = some (n, us.map e)) (hk : k ≤ 59 := by decide) : J2 w oNe (.cel n) (eL e vs) (eB (!decide (us = vs))) := j2_eqCG (neg := true) m hm hk
/-- anything -/
theorem j2_eqD (hx : shp 60 x = true) (hy : shp 60 y = true) : J2 w oEq x y (eB (eqD x y)) := j2_eqG (neg := false) (b := eqD x y) (fun C _ => by rw [rdC_shp hx]; exact hx) (fun C _ => by rw [rdC_shp hy]; exact hy) fun C _ => by rw [rdC_shp hx, rdC_shp hy]
theorem j2_neD (hx : shp 60 x = true) (hy : shp 60 y = true) : J2 w oNe x y (eB (!eqD x y)) := j2_eqG (neg := true) (b := eqD x y) (fun C _ => by rw [rdC_shp hx]; exact hx) (fun C _ => by rw [rdC_shp hy]; exact hy) fun C _ => by rw [rdC_shp hx, rdC_shp hy]
class Flat (e : α → D) : Prop where
  fl : ∀ x, flatD (e x) = true
instance : Flat eI := ⟨fun _ => rfl⟩
instance : Flat eB := ⟨fun _ => rfl⟩
instance [h : Flat e] : Flat (eO e) := ⟨fun x => by
  cases x with
  | none => rfl
  | some a => exact h.fl a⟩
theorem any_eq [DecidableEq α] [h : EqE e k] (u : α) : ∀ xs : List α, ((xs.map e).any fun z => eqD z (e u)) = decide (u ∈ xs)
  | [] => rfl
  | x :: xs => by
    rw [List.map_cons, List.any_cons, any_eq u xs, h.eq]
    by_cases h2 : u ∈ xs <;> simp [h2, eq_comm (a := x)]
theorem flat_map [h : Flat e] : ∀ xs : List α, (xs.map e).all flatD = true
  | [] => rfl
  | x :: xs => by rw [List.map_cons, List.all_cons, h.fl, flat_map xs]; rfl
theorem j2_inG {neg : Bool} [DecidableEq α] [h : EqE e k] [Flat e] {u : α} {xs : List α} {Gs : Cs → Prop} (s : Sv w d (xs.map e) Gs) : J2 w (oInN neg) (e u) d (eB (if neg then !decide (u ∈ xs) else decide (u ∈ xs))) := fun C O Q q => by
  show opt (sqD C d) _
  rw [s.rd C (s.now C O)]
  refine ⟨.inl ⟨Flat.fl u, flat_map xs⟩, ?_⟩
  rw [any_eq]
  exact q
theorem j2_in [DecidableEq α] [h : EqE e k] [Flat e] {u : α} {xs : List α} {Gs : Cs → Prop} (s : Sv w d (xs.map e) Gs) : J2 w (oInN false) (e u) d (eB (decide (u ∈ xs))) := j2_inG s
theorem j2_ini [DecidableEq α] [h : EqE e k] [Flat e] {u : α} {xs : List α} {inst : Decidable (u ∈ xs)} {Gs : Cs → Prop} (s : Sv w d (xs.map e) Gs) : J2 w (oInN false) (e u) d (eB (decide (u ∈ xs))) := by
  have e : inst = List.instDecidableMemOfLawfulBEq u xs := Subsingleton.elim _ _
  subst e
  exact j2_inG s
theorem j2_nin [DecidableEq α] [h : EqE e k] [Flat e] {u : α} {xs : List α} {Gs : Cs → Prop} (s : Sv w d (xs.map e) Gs) : J2 w (oInN true) (e u) d (eB (!decide (u ∈ xs))) := j2_inG s
theorem j2_nini [DecidableEq α] [h : EqE e k] [Flat e] {u : α} {xs : List α} {inst : Decidable (u ∈ xs)} {Gs : Cs → Prop} (s : Sv w d (xs.map e) Gs) : J2 w (oInN true) (e u) d (eB (!decide (u ∈ xs))) := by
  have e : inst = List.instDecidableMemOfLawfulBEq u xs := Subsingleton.elim _ _
  subst e
  exact j2_inG s
theorem j2_inLG {neg : Bool} [DecidableEq α] [h : EqE e k] {u : α} {xs : List α} {Gs : Cs → Prop} (s : Lv w d (xs.map e) Gs) (hk : k ≤ 59) : J2 w (oInN neg) (e u) d (eB (if neg then !decide (u ∈ xs) else decide (u ∈ xs))) := fun C O Q q => by
  show opt (sqD C d) _
  rw [s.rd C (s.now C O)]
  refine ⟨.inr ⟨by rw [s.ll C (s.now C O)]; rfl, shp_up (by omega) _ (h.sh u), shps_up hk _ (shps_map h.sh xs)⟩, ?_⟩
  rw [any_eq]
  exact q
theorem j2_inL [DecidableEq α] [h : EqE e k] {u : α} {xs : List α} {Gs : Cs → Prop} (s : Lv w d (xs.map e) Gs) (hk : k ≤ 59 := by decide) : J2 w (oInN false) (e u) d (eB (decide (u ∈ xs))) := j2_inLG s hk
theorem j2_inLi [DecidableEq α] [h : EqE e k] {u : α} {xs : List α} {inst : Decidable (u ∈ xs)} {Gs : Cs → Prop} (s : Lv w d (xs.map e) Gs) (hk : k ≤ 59 := by decide) : J2 w (oInN false) (e u) d (eB (decide (u ∈ xs))) := by
  have e : inst = List.instDecidableMemOfLawfulBEq u xs := Subsingleton.elim _ _
  subst e
  exact j2_inLG s hk
theorem j2_ninL [DecidableEq α] [h : EqE e k] {u : α} {xs : List α} {Gs : Cs → Prop} (s : Lv w d (xs.map e) Gs) (hk : k ≤ 59 := by decide) : J2 w (oInN true) (e u) d (eB (!decide (u ∈ xs))) := j2_inLG s hk
theorem j2_ninLi [DecidableEq α] [h : EqE e k] {u : α} {xs : List α} {inst : Decidable (u ∈ xs)} {Gs : Cs → Prop} (s : Lv w d (xs.map e) Gs) (hk : k ≤ 59 := by decide) : J2 w (oInN true) (e u) d (eB (!decide (u ∈ xs))) := by
  have e : inst = List.instDecidableMemOfLawfulBEq u xs := Subsingleton.elim _ _
  subst e
  exact j2_inLG s hk
theorem j2_inDG {neg : Bool} {ys : List D} {Gs : Cs → Prop} (s : Sv w d ys Gs) (hx : flatD x = true) (hy : ys.all flatD = true) : J2 w (oInN neg) x d (eB (if neg then !ys.any (fun z => eqD z x) else ys.any fun z => eqD z x)) := fun C O Q q => by
  show opt (sqD C d) _
  rw [s.rd C (s.now C O)]
  exact ⟨.inl ⟨hx, hy⟩, q⟩
theorem j2_inD {ys : List D} {Gs : Cs → Prop} (s : Sv w d ys Gs) (hx : flatD x = true) (hy : ys.all flatD = true) : J2 w (oInN false) x d (eB (ys.any fun z => eqD z x)) := j2_inDG s hx hy
theorem j2_ninD {ys : List D} {Gs : Cs → Prop} (s : Sv w d ys Gs) (hx : flatD x = true) (hy : ys.all flatD = true) : J2 w (oInN true) x d (eB (!ys.any fun z => eqD z x)) := j2_inDG s hx hy
theorem sq_ix {C : Cs} {Q : QD} {ds : List D} (es : sqD C x = some ds) {d' : D} (h : atI ds i = some d') (q : Q d' C) : oIx x (.int i) C Q := by
  have k : opt (sqD C x) fun xs => opt (atI xs i) fun d => Q d C := by
    rw [es]
    show opt (atI ds i) _
    rw [h]
    exact q
  unfold oIx
  cases x <;> first | exact k | (cases es)
theorem j2_ix [Inhabited α] {xs : List α} {Gs : Cs → Prop} (s : Sv w x (xs.map e) Gs) (h : inb xs.length i) : J2 w oIx x (eI i) (e (gi xs i)) := fun C O Q q =>
  sq_ix (s.rd C (s.now C O)) (by rw [atI_map, inb_at h]; rfl) q
theorem j2_ixP {ds : List D} (h : atI ds i = some d) : J2 w oIx (.tup ds) (.int i) d := fun C O Q q => sq_ix (x := .tup ds) rfl h q
theorem j2_isN [h : NNon e] {v : Option α} : J2 w (oIs false) (eO e v) .non (eB v.isNone) := fun C O Q q => ⟨rfl, by
  cases v with
  | none => exact q
  | some a =>
    show Q (.bl (isNon (e a))) C
    rw [h.ne a]
    exact q⟩
theorem j2_notN [h : NNon e] {v : Option α} : J2 w (oIs true) (eO e v) .non (eB v.isSome) := fun C O Q q => ⟨rfl, by
  cases v with
  | none => exact q
  | some a =>
    show Q (.bl (!isNon (e a))) C
    rw [h.ne a]
    exact q⟩
theorem j2_isD : J2 w (oIs false) x .non (eB (isNon x)) := fun C O Q q => ⟨rfl, q⟩
theorem j2_notD : J2 w (oIs true) x .non (eB (!isNon x)) := fun C O Q q => ⟨rfl, q⟩
theorem j2_isB : J2 w (oIs false) x (.bl b) (eB (isSameB x (.bl b))) := fun C O Q q => ⟨rfl, q⟩
theorem j2_isNB : J2 w (oIs true) x (.bl b) (eB (!isSameB x (.bl b))) := fun C O Q q => ⟨rfl, q⟩
theorem j2_isN0 [h : NNon e] {v : α} : J2 w (oIs false) (e v) .non (eB false) := fun C O Q q => ⟨rfl, by
  show Q (.bl (isNon (e v))) C
  rw [h.ne]
  exact q⟩
theorem j2_notN0 [h : NNon e] {v : α} : J2 w (oIs true) (e v) .non (eB true) := fun C O Q q => ⟨rfl, by
  show Q (.bl (!isNon (e v))) C
  rw [h.ne]
  exact q⟩
/-! ### builtins -/
theorem jf_len {xs : List α} {Gs : Cs → Prop} (s : Sv w d (xs.map e) Gs) : JF w oLen [d] (eI (xs.length : Nat)) := fun C O Q q => by
  have es := s.rd C (s.now C O)
  have k : opt (sqD C d) fun xs => Q (.int (xs.length : Nat)) C := by
    rw [es]
    show Q (.int ((xs.map e).length : Nat)) C
    rw [List.length_map]
    exact q
  unfold oLen
  cases d <;> first | exact k | (cases es)
theorem jf_tuple {xs : List α} {Gs : Cs → Prop} (s : Sv w d (xs.map e) Gs) : JF w oTuple [d] (eT e xs) := fun C O Q q => by
  show opt (sqD C d) _
  rw [s.rd C (s.now C O)]
  exact q
theorem jf_list {xs : List α} {Gs : Cs → Prop} (s : Sv w d (xs.map e) Gs) : JF w oList [d] (eL e xs) := fun C O Q q => by
  show opt (sqD C d) _
  rw [s.rd C (s.now C O)]
  exact q
theorem jf_all {bs : List Bool} {Gs : Cs → Prop} (s : Lv w d (bs.map eB) Gs) : JF w oAll [d] (eB (bs.all id)) := fun C O Q q => by
  show opt (llD C d) _
  rw [s.ll C (s.now C O)]
  show opt (blsD (bs.map D.bl)) _
  rw [blsD_map]
  exact q
theorem jf_any {bs : List Bool} {Gs : Cs → Prop} (s : Lv w d (bs.map eB) Gs) : JF w oAny [d] (eB (bs.any id)) := fun C O Q q => by
  show opt (llD C d) _
  rw [s.ll C (s.now C O)]
  show opt (blsD (bs.map D.bl)) _
  rw [blsD_map]
  exact q
theorem jf_sum {xs : List Int} {Gs : Cs → Prop} (s : Lv w d (xs.map eI) Gs) : JF w oSum [d] (eI xs.sum) := fun C O Q q => by
  show opt (llD C d) _
  rw [s.ll C (s.now C O)]
  show opt (intsD (xs.map D.int)) _
  rw [intsD_map]
  exact q
theorem jf_maxL {xs : List Int} {Gs : Cs → Prop} (s : Lv w d (xs.map eI) Gs) (h : xs ≠ []) : JF w oMaxL [d] (eI (maxL xs)) := fun C O Q q => by
  show opt (llD C d) _
  rw [s.ll C (s.now C O)]
  show opt (intsD (xs.map D.int)) _
  rw [intsD_map]
  exact ⟨List.length_pos_iff.mpr h, fun m h1 h2 => by rw [maxL_eq h1 h2]; exact q⟩
theorem jf_abs : JF w oAbs [eI i] (eI (i.natAbs : Nat)) := fun C O Q q => by
  show Q (.int (if i < 0 then -i else i)) C
  have : (if i < 0 then -i else i) = (i.natAbs : Int) := by
    split <;> omega
  rw [this]
  exact q
theorem jf_int : JF w oInt [eI i] (eI i) := fun _ _ _ q => q
theorem jf_str (h : i.natAbs.log2 < 1920) : JF w oStrI [eI i] (eS (toString i)) := fun _ _ _ q => ⟨h, q⟩
theorem jf_max2 : JF w oMax2 [eI i, eI j] (eI (max i j)) := fun C O Q q => by
  show Q (.int (if j > i then j else i)) C
  have : (if j > i then j else i) = max i j := by
    split <;> omega
  rw [this]
  exact q
theorem jf_min2 : JF w oMin2 [eI i, eI j] (eI (min i j)) := fun C O Q q => by
  show Q (.int (if j < i then j else i)) C
  have : (if j < i then j else i) = min i j := by
    split <;> omega
  rw [this]
  exact q
theorem jf_sorted {xs : List Int} {Gs : Cs → Prop} (s : Sv w d (xs.map eI) Gs) : JF w oSortA [d] (eL eI (sortI xs)) := fun C O Q q => by
  show opt (sqD C d) _
  rw [s.rd C (s.now C O)]
  show opt (intsD (xs.map D.int)) _
  rw [intsD_map]
  exact fun ns' h1 h2 => by rw [sortI_eq h1 h2]; exact q
/-! ### methods that write nothing -/
theorem jm_idxT {xs : List Int} (h : i ∈ xs) : JM w oIdxT (eT eI xs) [eI i] (eI (xs.idxOf i : Nat)) := fun C O Q q => by
  show opt (intsD (xs.map D.int)) _
  rw [intsD_map]
  exact ⟨h, q⟩
theorem jm_idx {xs : List Int} {Gs : Cs → Prop} (s : Lv w d (xs.map eI) Gs) (h : i ∈ xs) : JM w oIdx d [eI i] (eI (xs.idxOf i : Nat)) := fun C O Q q => by
  show opt (llD C d) _
  rw [s.ll C (s.now C O)]
  show opt (intsD (xs.map D.int)) _
  rw [intsD_map]
  exact ⟨h, q⟩
theorem jm_cnt {xs : List Int} {Gs : Cs → Prop} (s : Lv w d (xs.map eI) Gs) : JM w oCnt d [eI i] (eI (xs.count i : Nat)) := fun C O Q q => by
  show opt (llD C d) _
  rw [s.ll C (s.now C O)]
  show opt (intsD (xs.map D.int)) _
  rw [intsD_map]
  exact q
/-! ### any value -/
theorem tyB_of {T : String} (hT : T = "tuple" ∨ T = "int" ∨ T = "bool" ∨ T = "str" ∨ T = "list") (h : isObj d = false) : isTy T d = some (tyB T d) := by
  have : ∃ c, isTy T d = some c := by
    rcases hT with rfl | rfl | rfl | rfl | rfl
    · cases d
      · exact ⟨_, iT_tuple_non⟩
      · exact ⟨_, iT_tuple_bl⟩
      · exact ⟨_, iT_tuple_int⟩
      · exact ⟨_, iT_tuple_str⟩
      · exact ⟨_, iT_tuple_tup⟩
      · exact ⟨_, iT_tuple_lst⟩
      · exact ⟨_, iT_tuple_scr⟩
      · exact ⟨_, iT_tuple_cel⟩
      · cases h
    · cases d
      · exact ⟨_, iT_int_non⟩
      · exact ⟨_, iT_int_bl⟩
      · exact ⟨_, iT_int_int⟩
      · exact ⟨_, iT_int_str⟩
      · exact ⟨_, iT_int_tup⟩
      · exact ⟨_, iT_int_lst⟩
      · exact ⟨_, iT_int_scr⟩
      · exact ⟨_, iT_int_cel⟩
      · cases h
    · cases d
      · exact ⟨_, iT_bool_non⟩
      · exact ⟨_, iT_bool_bl⟩
      · exact ⟨_, iT_bool_int⟩
      · exact ⟨_, iT_bool_str⟩
      · exact ⟨_, iT_bool_tup⟩
      · exact ⟨_, iT_bool_lst⟩
      · exact ⟨_, iT_bool_scr⟩
      · exact ⟨_, iT_bool_cel⟩
      · cases h
    · cases d
      · exact ⟨_, iT_str_non⟩
      · exact ⟨_, iT_str_bl⟩
      · exact ⟨_, iT_str_int⟩
      · exact ⟨_, iT_str_str⟩
      · exact ⟨_, iT_str_tup⟩
      · exact ⟨_, iT_str_lst⟩
      · exact ⟨_, iT_str_scr⟩
      · exact ⟨_, iT_str_cel⟩
      · cases h
    · cases d
      · exact ⟨_, iT_list_non⟩
      · exact ⟨_, iT_list_bl⟩
      · exact ⟨_, iT_list_int⟩
      · exact ⟨_, iT_list_str⟩
      · exact ⟨_, iT_list_tup⟩
      · exact ⟨_, iT_list_lst⟩
      · exact ⟨_, iT_list_scr⟩
      · exact ⟨_, iT_list_cel⟩
      · cases h
  obtain ⟨c, hc⟩ := this
  unfold tyB
  rw [hc]
  rfl
end
end TL
/-! TL3: statements, cells, loops, draws. -/
namespace TL
open PySem PySem.Spec PyProof.Rows L2 DL
theorem bd_ap {α β : Type} {m : M α} {f : α → M β} {K : β → Prop} {X : XP} (h : M.bd m f K X) : m (fun a => f a K X) X := h
theorem rt_ap {α : Type} {a : α} {K : α → Prop} {X : XP} (h : M.rt a K X) : K a := h
theorem as_ap {α : Type} {P : Prop} {m : M α} {K : α → Prop} {X : XP} (h : M.as P m K X) : P ∧ m K X := h
theorem it_ap {α : Type} {c : Bool} {m n : M α} {K : α → Prop} {X : XP} (hc : c = true) (h : (if c = true then m else n) K X) : m K X := by rw [if_pos hc] at h; exact h
theorem if_ap {α : Type} {c : Bool} {m n : M α} {K : α → Prop} {X : XP} (hc : c = false) (h : (if c = true then m else n) K X) : n K X := by rw [if_neg (by rw [hc]; exact Bool.false_ne_true)] at h; exact h
section
variable {w : Wl} {r : Ev} {C : Cs} {α β γ σ ρ : Type} {e : α → D} {f : β → D} {d : D} {ds : List D} {Q : QD} {n i : Nat}
theorem st_e {t : RE} (O : Own w C) (h : JE w r t d) (q : Q d C) : t r C Q := h C O Q q
theorem st_t {t : RT} {b : Bool} {Q : Bool → Cs → Prop} (O : Own w C) (h : JT w r t b) (q : Q b C) : t r C Q := h C O Q q
theorem st_a {t : RA} {Q : List D → Cs → Prop} (O : Own w C) (h : JA w r t ds) (q : Q ds C) : t r C Q := h C O Q q
theorem st_r {t : RR} {a b : Int} {Q : Int → Int → Cs → Prop} (O : Own w C) (h : JR w r t a b) (q : Q a b C) : t r C Q := h C O Q q
theorem st_o {t : RO} {a : Option Int} {Q : Option Int → Cs → Prop} (O : Own w C) (h : JO w r t a) (q : Q a C) : t r C Q := h C O Q q
theorem st_1 {o : O1} {x : D} (O : Own w C) (h : J1 w o x d) (q : Q d C) : o x C Q := h C O Q q
theorem st_2 {o : O2} {x y : D} (O : Own w C) (h : J2 w o x y d) (q : Q d C) : o x y C Q := h C O Q q
theorem st_f {o : OA} {xs : List D} (O : Own w C) (h : JF w o xs d) (q : Q d C) : o xs C Q := h C O Q q
theorem st_m {o : OM} {x : D} {xs : List D} (O : Own w C) (h : JM w o x xs d) (q : Q d C) : o x xs C Q := h C O Q q
theorem st_g {g : RG} {r' : Ev} {Q : Ev → Cs → Prop} (h : JG g d r r') (q : Q r' C) : g d r C Q := h C Q q
/-! ### where ways meet -/
theorem st_join {m : M σ} {K : σ → Prop} {X : XP} {t : RS} {D : EndsD} (h : m K X) (R : σ → Ev → Cs → Prop) (h1 : ∀ K' nx, m K' X → (∀ s r' C', R s r' C' → K' s → nx r' C') → t { D with nx := nx } r C) (h2 : ∀ s r' C', R s r' C' → K s → D.nx r' C') : t D r C := h1 K D.nx h h2
theorem st_joinR {m : M (Res σ ρ)} {K : Res σ ρ → Prop} {X : XP} {t : RS} {D : EndsD} (h : m K X) (R : σ → Ev → Cs → Prop) (KR : ρ → Prop) (hKR : ∀ v, K (.rt v) → KR v) (h1 : ∀ K' nx, m K' X → (∀ s r' C', R s r' C' → K' (.nx s) → nx r' C') → (∀ v, K' (.rt v) → KR v) → t { D with nx := nx } r C) (h2 : ∀ s r' C', R s r' C' → K (.nx s) → D.nx r' C') : t D r C := h1 K D.nx h h2 hKR
theorem jt_join {m : M Bool} {K : Bool → Prop} {X : XP} {t : RT} {Q : Bool → Cs → Prop} (h : m K X) (w' : Wl) (h1 : ∀ (K' : Bool → Prop) (Q' : Bool → Cs → Prop), m K' X → (∀ b C', Own w' C' → K' b → Q' b C') → t r C Q') (h2 : ∀ b C', Own w' C' → K b → Q b C') : t r C Q := h1 K Q h h2
theorem je_join {m : M α} {K : α → Prop} {X : XP} {t : RE} (h : m K X) (w' : Wl) (e : α → D) (h1 : ∀ (K' : α → Prop) (Q' : QD), m K' X → (∀ v C', Own w' C' → K' v → Q' (e v) C') → t r C Q') (h2 : ∀ v C', Own w' C' → K v → Q (e v) C') : t r C Q := h1 K Q h h2
theorem jc_join {m : M (List α)} {K : List α → Prop} {X : XP} {t : RE} (h : m K X) (w' : Wl) (e : α → D) (h1 : ∀ (K' : List α → Prop) (Q' : QD), m K' X → (∀ v n C', Own (w'.add n (v.map e)) C' → K' v → Q' (.cel n) C') → t r C Q') (h2 : ∀ v n C', Own (w'.add n (v.map e)) C' → K v → Q (.cel n) C') : t r C Q := h1 K Q h h2
/-! ### new cells -/
def JN (w : Wl) (r : Ev) (t : RE) (ds : List D) : Prop := ∀ C, Own w C → ∀ Q : QD, (∀ n C', Own (w.add n ds) C' → Q (.cel n) C') → t r C Q
theorem st_n {t : RE} (O : Own w C) (h : JN w r t ds) (k : ∀ n C', Own (w.add n ds) C' → Q (.cel n) C') : t r C Q := h C O Q k
theorem new_c (O : Own w C) (hc : los 0 ds = true) (k : ∀ n C', Own (w.add n ds) C' → Q (.cel n) C') : Q (.cel C.length) (C ++ [.lst ds]) := k _ _ (O.push hc)
variable {te ta tb : RE} {ra : RA} {x y : D} {Gs Gs' : Cs → Prop}
theorem jn_lst [Cln e] {xs : List α} (h : JA w r ra (xs.map e)) : JN w r (dLstC ra) (xs.map e) := fun C O Q k => h C O _ (new_c O (los_map 0 xs) k)
theorem jn_list [Cln e] {xs : List α} (h : JE w r te x) (s : Sv w x (xs.map e) Gs) : JN w r (dCB oListC (dCons te dNil)) (xs.map e) := fun C O Q k => h C O _ (by
  show opt (sqD C x) _
  rw [s.rd C (s.now C O)]
  exact new_c O (los_map 0 xs) k)
theorem jn_sort {xs : List Int} (h : JE w r te x) (s : Sv w x (xs.map eI) Gs) : JN w r (dCB oSortC (dCons te dNil)) ((sortI xs).map eI) := fun C O Q k => h C O _ (by
  show opt (sqD C x) _
  rw [s.rd C (s.now C O)]
  show opt (intsD (xs.map D.int)) _
  rw [intsD_map]
  exact fun ns' h1 h2 => by rw [sortI_eq h1 h2]; exact new_c O (los_map 0 _) k)
theorem jn_range {tr : RR} {a b : Int} (h : JR w r tr a b) (hk : rgOk a b) : JN w r (dLstR true tr) ((irange a b).map eI) := fun C O Q k => h C O _ ⟨hk, by
  rw [rng_ir]
  exact new_c O (los_map 0 _) k⟩
theorem jn_sl [Cln e] {xs : List α} {tl th : RO} {l u : Option Int} (h : JE w r te x) (s : Lv w x (xs.map e) Gs) (hl : JO w r tl l) (hu : JO w r th u) : JN w r (dSl oSlC te tl th) ((cut xs l u).map e) := fun C O Q k => h C O _ (hl C O _ (hu C O _ (by
  show opt (llD C x) _
  rw [s.ll C (s.now C O)]
  show Q (.cel C.length) (C ++ [.lst (DL.cutD (xs.map e) l u)])
  rw [cut_map]
  exact new_c O (los_map 0 _) k)))
theorem jn_add [Cln e] {xs ys : List α} (hx : JE w r ta x) (hy : JE w r tb y) (s : Lv w x (xs.map e) Gs) (s' : Lv w y (ys.map e) Gs') (h : xs.length + ys.length ≤ 100000) (nx : ∀ zs, x ≠ .scr zs) (ny : ∀ zs, y ≠ .scr zs) : JN w r (dOp oAddC ta tb) ((xs ++ ys).map e) := fun C O Q k => hx C O _ (hy C O _ (by
  have e1 := s.ll C (s.now C O)
  have e2 := s'.ll C (s'.now C O)
  have l1 : lsD C x = some (xs.map e) := by
    cases x <;> first | exact e1 | exact absurd rfl (nx _)
  have l2 : lsD C y = some (ys.map e) := by
    cases y <;> first | exact e2 | exact absurd rfl (ny _)
  show opt (lsD C x) _
  rw [l1]
  show opt (lsD C y) _
  rw [l2]
  refine ⟨line_le (by rw [List.length_map, List.length_map]; exact h), ?_⟩
  rw [← List.map_append]
  exact new_c O (los_map 0 _) k))
theorem jn_rev [Cln e] {xs : List α} (h : JE w r te x) (s : Lv w x (xs.map e) Gs) : JN w r (dRevC te) (xs.reverse.map e) := fun C O Q k => h C O _ (by
  show opt (llD C x) _
  rw [s.ll C (s.now C O)]
  show Q (.cel C.length) (C ++ [.lst (xs.map e).reverse])
  rw [← List.map_reverse]
  exact new_c O (los_map 0 _) k)
theorem jn_if {t : RT} {u v : List D} {b : Bool} (hc : JT w r t b) (ha : b = true → JN w r ta u) (hb : b = false → JN w r tb v) : JN w r (dIf t ta tb) (if b = true then u else v) := fun C O Q k => hc C O _ (by
  cases b with
  | true => exact ha rfl C O _ k
  | false => exact hb rfl C O _ k)
variable {it : RI} {gg : RG} {tt : RT} {own : List Nat}
theorem jn_lc [Cln f] {xs : List α} {r' : α → Ev} (hi : JI w r it (xs.map e) Gs) (hg : ∀ x, JG gg (e x) (wipeD r own) (r' x)) (p : α → Bool) (v : α → β) (ht : ∀ x, x ∈ xs → JT w (r' x) tt (p x)) (he : ∀ x, x ∈ xs → p x = true → JE w (r' x) te (f (v x))) :
    JN w r (dLcB true it gg tt te own) (((xs.filter p).map v).map f) := fun C O Q k => by
  refine v_lc (hi.2 C O _ fun G hG => ?_)
  refine lc_ok (e := e) (fun x => if p x = true then some (f (v x)) else none) rfl (hG C (hi.1 C O)) (fun x hx Y Z k => ?_) ?_
  · refine hg x C _ (ht x hx C O _ ?_)
    unfold lcK at k
    cases hp : p x with
    | true =>
      rw [hp, if_pos rfl] at k
      exact he x hx hp C O _ k
    | false =>
      rw [hp] at k
      exact k
  · have e1 : ∀ ys : List α, (ys.filterMap fun x => if p x = true then some (f (v x)) else none) = ((ys.filter p).map v).map f := fun ys => by
      induction ys with
      | nil => rfl
      | cons y ys ih =>
        rw [List.filterMap_cons]
        by_cases hp : p y = true
        · rw [if_pos hp, List.filter_cons_of_pos hp, ih]
          rfl
        · rw [if_neg hp, List.filter_cons_of_neg hp, ih]
    rw [e1]
    exact new_c O (los_map 0 _) k
theorem jn_lc0 [Cln f] {xs : List α} {r' : α → Ev} (hi : JI w r it (xs.map e) Gs) (hg : ∀ x, JG gg (e x) (wipeD r own) (r' x)) (v : α → β) (he : ∀ x, x ∈ xs → JE w (r' x) te (f (v x))) :
    JN w r (dLcB true it gg cNil te own) ((xs.map v).map f) := fun C O Q k => by
  have := jn_lc (tt := cNil) hi hg (fun _ => true) v (fun x _ C O Q q => q) (fun x hx _ => he x hx) C O Q
  have e1 : xs.filter (fun _ => true) = xs := List.filter_eq_self.mpr fun _ _ => rfl
  rw [e1] at this
  exact this k
theorem xn_list [Cln e] {xs : List α} (O : Own w C) (s : Sv w x (xs.map e) Gs) (k : ∀ n C', Own (w.add n (xs.map e)) C' → Q (.cel n) C') : oListC [x] C Q := by
  show opt (sqD C x) _
  rw [s.rd C (s.now C O)]
  exact new_c O (los_map 0 xs) k
theorem xn_sorted {e : Int → D} {xs : List Int} (O : Own w C) (s : Sv w x (xs.map eI) Gs) (k : ∀ n C', Own (w.add n ((sortI xs).map eI)) C' → Q (.cel n) C') : oSortC [x] C Q := by
  show opt (sqD C x) _
  rw [s.rd C (s.now C O)]
  show opt (intsD (xs.map D.int)) _
  rw [intsD_map]
  exact fun ns' h1 h2 => by rw [sortI_eq h1 h2]; exact new_c O (los_map 0 _) k
/-! ### cells written -/
def delI {α : Type} (xs : List α) (i : Int) : List α := match ixN xs.length i with
  | some j => xs.eraseIdx j
  | none => xs
def setI {α : Type} (xs : List α) (i : Int) (v : α) : List α := match ixN xs.length i with
  | some j => xs.set j v
  | none => xs
def insI {α : Type} (xs : List α) (i : Int) (v : α) : List α := xs.take i.toNat ++ [v] ++ xs.drop i.toNat
theorem map_eraseG {α β : Type} (e : α → β) : ∀ (l : List α) (i : Nat), (l.eraseIdx i).map e = (l.map e).eraseIdx i
  | [], i => by simp
  | x :: xs, 0 => rfl
  | x :: xs, i + 1 => by
    show e x :: (xs.eraseIdx i).map e = e x :: (xs.map e).eraseIdx i
    rw [map_eraseG e xs i]
theorem inb_ix {m : Nat} {i : Int} (h : inb m i) : ∃ j, ixN m i = some j ∧ j < m := by
  obtain ⟨h1, h2⟩ := h
  unfold ixN
  by_cases h0 : 0 ≤ i
  · rw [if_pos h0, if_pos h2]
    exact ⟨_, rfl, by omega⟩
  · rw [if_neg h0, if_pos h1]
    exact ⟨_, rfl, by omega⟩
theorem setI_nat {α : Type} {xs : List α} {i : Int} {v : α} (h : 0 ≤ i) : setI xs i v = xs.set i.toNat v := by
  unfold setI ixN
  rw [if_pos h]
  by_cases h2 : i < xs.length
  · rw [if_pos h2]
  · rw [if_neg h2]
    show xs = _
    exact (List.set_eq_of_length_le (by omega)).symm
theorem delI_nat {α : Type} {xs : List α} {i : Int} (h : 0 ≤ i) : delI xs i = xs.eraseIdx i.toNat := by
  unfold delI ixN
  rw [if_pos h]
  by_cases h2 : i < xs.length
  · rw [if_pos h2]
  · rw [if_neg h2]
    show xs = _
    exact (List.eraseIdx_of_length_le (by omega)).symm
variable {j : Nat} {v : α} {xs : List α} {a : Int}
theorem xm_app [Cln e] (k : Nat) (O : Own w C) (hk : w.all[k]? = some (n, xs.map e)) (hl : xs.length < 100000) (q : ∀ C', Own (w.put k ((xs ++ [v]).map e)) C' → Q .non C') : oApp (.cel n) [e v] C Q := by
  refine w_app (lsD_at (O.get hk)) (by rw [List.length_map]; exact line_lt hl) ?_
  have : xs.map e ++ [e v] = (xs ++ [v]).map e := by simp
  rw [this]
  exact q _ (O.put hk (los_map 0 _))
theorem xm_pop [Inhabited α] [Cln e] (k : Nat) (O : Own w C) (hk : w.all[k]? = some (n, xs.map e)) (hl : xs ≠ []) (q : ∀ C', Own (w.put k (xs.dropLast.map e)) C' → Q (e (gi xs (-1))) C') : oPop (.cel n) [] C Q := by
  have h0 := List.length_pos_iff.mpr hl
  have ev : gi xs (-1) = xs[xs.length - 1] := by
    have hb : inb xs.length (-1) := ⟨by omega, by omega⟩
    have := inb_at hb
    unfold atI ixN at this
    rw [if_neg (by omega), if_pos hb.1] at this
    have e2 : ((-1 : Int) + xs.length).toNat = xs.length - 1 := by omega
    rw [e2] at this
    have t2 : xs[xs.length - 1]? = some (gi xs (-1)) := this
    rw [List.getElem?_eq_getElem (by omega)] at t2
    exact (Option.some.inj t2).symm
  refine w_pop (lsD_at (O.get hk)) (y := e (gi xs (-1))) ?_ ?_
  · rw [List.length_map, List.getElem?_map, List.getElem?_eq_getElem (by omega), ev]
    rfl
  · rw [← List.map_dropLast]
    exact q _ (O.put hk (los_map 0 _))
theorem xm_popAt [Inhabited α] [Cln e] (k : Nat) (O : Own w C) (hk : w.all[k]? = some (n, xs.map e)) (hl : inb xs.length a ∧ xs.length ≤ 100000) (q : ∀ C', Own (w.put k ((delI xs a).map e)) C' → Q (e (gi xs a)) C') : oPopAt (.cel n) [eI a] C Q := by
  show opt (lsD C (.cel n)) _
  rw [lsD_at (O.get hk)]
  obtain ⟨j, hj, hjl⟩ := inb_ix hl.1
  have hs : seqIndex? a (xs.map e).length = some j := by
    rw [List.length_map]
    exact (ixN_seq hj).1
  have hb := hl.1
  unfold inb at hb
  refine ⟨⟨by omega, by omega⟩, ?_⟩
  rw [hs]
  show opt (xs.map e)[j]? _
  have ev : xs[j]? = some (gi xs a) := by
    have := inb_at hl.1
    unfold atI at this
    rw [hj] at this
    exact this
  rw [List.getElem?_map, ev]
  show Q (e (gi xs a)) (C.set n (.lst ((xs.map e).eraseIdx j)))
  have ed : (xs.map e).eraseIdx j = (delI xs a).map e := by
    unfold delI
    rw [hj]
    exact (map_eraseG e xs j).symm
  rw [ed]
  exact q _ (O.put hk (los_map 0 _))
theorem xm_ins [Cln e] (k : Nat) (O : Own w C) (hk : w.all[k]? = some (n, xs.map e)) (hl : xs.length < 100000 ∧ 0 ≤ a ∧ a < 1000000) (q : ∀ C', Own (w.put k ((insI xs a v).map e)) C' → Q .non C') : oIns (.cel n) [eI a, e v] C Q := by
  refine w_ins (lsD_at (O.get hk)) ⟨by rw [List.length_map]; exact line_lt hl.1, hl.2.1, by omega⟩ ?_
  have : (xs.map e).take a.toNat ++ [e v] ++ (xs.map e).drop a.toNat = (insI xs a v).map e := by
    unfold insI
    simp [List.map_take, List.map_drop]
  rw [this]
  exact q _ (O.put hk (los_map 0 _))
theorem xm_rem {xs : List Int} (k : Nat) (O : Own w C) (hk : w.all[k]? = some (n, xs.map eI)) (hl : a ∈ xs) (q : ∀ C', Own (w.put k ((xs.erase a).map eI)) C' → Q .non C') : oRem (.cel n) [eI a] C Q := by
  show opt (lsD C (.cel n)) _
  rw [lsD_at (O.get hk)]
  show opt (intsD (xs.map D.int)) _
  rw [intsD_map]
  exact ⟨hl, q _ (O.put hk (los_map 0 _))⟩
theorem xm_sort {xs : List Int} (k : Nat) (O : Own w C) (hk : w.all[k]? = some (n, xs.map eI)) (q : ∀ C', Own (w.put k ((sortI xs).map eI)) C' → Q .non C') : oSort (.cel n) [] C Q := by
  show opt (lsD C (.cel n)) _
  rw [lsD_at (O.get hk)]
  show opt (intsD (xs.map D.int)) _
  rw [intsD_map]
  exact fun ns' h1 h2 => by rw [sortI_eq h1 h2]; exact q _ (O.put hk (los_map 0 _))
theorem xm_set [Cln e] {Q : Cs → Prop} (k : Nat) (O : Own w C) (hk : w.all[k]? = some (n, xs.map e)) (hl : inb xs.length a) (q : ∀ C', Own (w.put k ((setI xs a v).map e)) C' → Q C') : oSet (.cel n) (eI a) (e v) C Q := by
  obtain ⟨j, hj, hjl⟩ := inb_ix hl
  show opt (lsD C (.cel n)) _
  rw [lsD_at (O.get hk)]
  show opt (ixN (xs.map e).length a) _
  rw [List.length_map, hj]
  show Q (C.set n (.lst ((xs.map e).set j (e v))))
  have : (xs.map e).set j (e v) = (setI xs a v).map e := by
    unfold setI
    rw [hj, List.map_set]
  rw [this]
  exact q _ (O.put hk (los_map 0 _))
/-! ### loops -/
variable {body : RS} {D : EndsD} {K : Res σ ρ → Prop} {KS : σ → Prop} {X : XP}
theorem st_for {g : σ → α → M (Res σ ρ)} {s0 : σ} (O : Own w C) (hi : JI w r it (xs.map e) Gs) (h : forR xs s0 g K X) (R : σ → Ev → Cs → Prop) (KR : ρ → Prop) (hKR : ∀ v, K (.rt v) → KR v) (hKB : ∀ s, K (.bk s) → K (.nx s)) (h0 : R s0 r C) (hG : ∀ s r' C', R s r' C' → Gs C')
    (hb : ∀ s x, x ∈ xs → ∀ r' C' (K' : Res σ ρ → Prop) (nx bk : Ev → Cs → Prop), R s r' C' → g s x K' X → (∀ s' r2 C2, R s' r2 C2 → K' (.nx s') → nx r2 C2) → (∀ s' r2 C2, R s' r2 C2 → K' (.bk s') → bk r2 C2) → (∀ v, K' (.rt v) → KR v) → gg (e x) r' C' fun r2 C2 => body { nx := nx, rt := D.rt, bk := bk, ct := nx } r2 C2)
    (hk : ∀ s r' C', R s r' C' → K (.nx s) → D.nx r' C') : sFor it gg body D r C := by
  refine hi.2 C O _ fun G hG' => ?_
  refine ⟨fun i r' C' => ∃ s, R s r' C' ∧ forR (xs.drop i) s g K X, ⟨s0, h0, by rw [List.drop_zero]; exact h⟩, fun i r' C' _ ⟨s, hs, _⟩ => hG' _ (hG s r' C' hs), ?_, ?_⟩
  · rintro i d r' C' hd ⟨s, hs, hf⟩
    rw [List.getElem?_map] at hd
    cases hx : xs[i]? with
    | none => rw [hx] at hd; cases hd
    | some x =>
      rw [hx] at hd
      obtain rfl : e x = d := by simpa using hd
      have hil := (List.getElem?_eq_some_iff.mp hx).1
      have ed : xs.drop i = x :: xs.drop (i + 1) := by
        rw [List.drop_eq_getElem_cons hil]
        congr 1
        rw [List.getElem?_eq_getElem hil] at hx
        exact Option.some.inj hx
      rw [ed] at hf
      refine hb s x (List.mem_of_getElem? hx) r' C' _ _ _ hs hf (fun s' r2 C2 a b => ⟨s', a, b⟩) (fun s' r2 C2 a b => hk s' r2 C2 a (hKB s' b)) hKR
  · rintro r' C' ⟨s, hs, hf⟩
    rw [List.length_map, List.drop_length] at hf
    exact hk s r' C' hs hf
theorem st_forS {g : σ → α → M σ} {s0 : σ} (O : Own w C) (hi : JI w r it (xs.map e) Gs) (h : forS xs s0 g KS X) (R : σ → Ev → Cs → Prop) (h0 : R s0 r C) (hG : ∀ s r' C', R s r' C' → Gs C')
    (hb : ∀ s x, x ∈ xs → ∀ r' C' (K' : σ → Prop) (nx bk : Ev → Cs → Prop), R s r' C' → g s x K' X → (∀ s' r2 C2, R s' r2 C2 → K' s' → nx r2 C2) → gg (e x) r' C' fun r2 C2 => body { nx := nx, rt := D.rt, bk := bk, ct := nx } r2 C2)
    (hk : ∀ s r' C', R s r' C' → KS s → D.nx r' C') : sFor it gg body D r C := by
  refine hi.2 C O _ fun G hG' => ?_
  refine ⟨fun i r' C' => ∃ s, R s r' C' ∧ forS (xs.drop i) s g KS X, ⟨s0, h0, by rw [List.drop_zero]; exact h⟩, fun i r' C' _ ⟨s, hs, _⟩ => hG' _ (hG s r' C' hs), ?_, ?_⟩
  · rintro i d r' C' hd ⟨s, hs, hf⟩
    rw [List.getElem?_map] at hd
    cases hx : xs[i]? with
    | none => rw [hx] at hd; cases hd
    | some x =>
      rw [hx] at hd
      obtain rfl : e x = d := by simpa using hd
      have hil := (List.getElem?_eq_some_iff.mp hx).1
      have ed : xs.drop i = x :: xs.drop (i + 1) := by
        rw [List.drop_eq_getElem_cons hil]
        congr 1
        rw [List.getElem?_eq_getElem hil] at hx
        exact Option.some.inj hx
      rw [ed] at hf
      exact hb s x (List.mem_of_getElem? hx) r' C' _ _ _ hs hf (fun s' r2 C2 a b => ⟨s', a, b⟩)
  · rintro r' C' ⟨s, hs, hf⟩
    rw [List.length_map, List.drop_length] at hf
    exact hk s r' C' hs hf
theorem st_while {c : σ → M Bool} {g : σ → M (Res σ ρ)} {s0 : σ} {tc : RT} (h : whileR s0 c g K X) (R : σ → Ev → Cs → Prop) (KR : ρ → Prop) (hKR : ∀ v, K (.rt v) → KR v) (hKB : ∀ s, K (.bk s) → K (.nx s)) (h0 : R s0 r C)
    (hb : ∀ s r' C' (K1 : Bool → Prop) (K' : Res σ ρ → Prop) (nx bk : Ev → Cs → Prop), R s r' C' → c s K1 X → (K1 true → g s K' X) → (K1 false → K (.nx s)) → (∀ s' r2 C2, R s' r2 C2 → K' (.nx s') → nx r2 C2) → (∀ s' r2 C2, R s' r2 C2 → K' (.bk s') → bk r2 C2) → (∀ v, K' (.rt v) → KR v) → (∀ r2 C2, R s r2 C2 → K (.nx s) → D.nx r2 C2) →
      tc r' C' fun b C1 => if b = true then body { nx := nx, rt := D.rt, bk := bk, ct := nx } r' C1 else D.nx r' C1)
    (hk : ∀ s r' C', R s r' C' → K (.nx s) → D.nx r' C') : sWhile tc body D r C := by
  obtain ⟨W, ⟨n0, w0⟩, step⟩ := h
  refine ⟨fun n r' C' => ∃ s, R s r' C' ∧ W n s, ⟨n0, s0, h0, w0⟩, ?_⟩
  rintro n r' C' ⟨s, hs, hw⟩
  refine hb s r' C' _ (fun q => match q with
    | .nx s' => ∃ m, m < n ∧ W m s'
    | .bk s' => K (.bk s')
    | .rt v => K (.rt v)) _ _ hs (step n s hw) (fun z => ?_) (fun z => ?_) (fun s' r2 C2 a b => ?_) (fun s' r2 C2 a b => hk s' r2 C2 a (hKB s' b)) hKR fun r2 C2 a b => hk s r2 C2 a b
  · rw [if_pos rfl] at z
    exact z
  · rw [if_neg Bool.false_ne_true] at z
    exact z
  · obtain ⟨m, hm, hw⟩ := b
    exact ⟨m, hm, s', a, hw⟩
theorem st_whileS {c : σ → M Bool} {g : σ → M σ} {s0 : σ} {tc : RT} (h : whileS s0 c g KS X) (R : σ → Ev → Cs → Prop) (h0 : R s0 r C)
    (hb : ∀ s r' C' (K1 : Bool → Prop) (K' : σ → Prop) (nx bk : Ev → Cs → Prop), R s r' C' → c s K1 X → (K1 true → g s K' X) → (K1 false → KS s) → (∀ s' r2 C2, R s' r2 C2 → K' s' → nx r2 C2) → (∀ r2 C2, R s r2 C2 → KS s → D.nx r2 C2) →
      tc r' C' fun b C1 => if b = true then body { nx := nx, rt := D.rt, bk := bk, ct := nx } r' C1 else D.nx r' C1)
    (hk : ∀ s r' C', R s r' C' → KS s → D.nx r' C') : sWhile tc body D r C := by
  obtain ⟨W, ⟨n0, w0⟩, step⟩ := h
  refine ⟨fun n r' C' => ∃ s, R s r' C' ∧ W n s, ⟨n0, s0, h0, w0⟩, ?_⟩
  rintro n r' C' ⟨s, hs, hw⟩
  refine hb s r' C' _ (fun s' => ∃ m, m < n ∧ W m s') _ _ hs (step n s hw) (fun z => ?_) (fun z => ?_) (fun s' r2 C2 a b => ?_) fun r2 C2 a b => hk s r2 C2 a b
  · rw [if_pos rfl] at z
    exact z
  · rw [if_neg Bool.false_ne_true] at z
    exact z
  · obtain ⟨m, hm, hw⟩ := b
    exact ⟨m, hm, s', a, hw⟩
/-! ### comprehensions that draw -/
theorem st_lcG {K0 : Bool} {g : α → M (Option β)} {KL : List β → Prop} (O : Own w C) (hi : JI w r it (xs.map e) Gs) (h : compM xs g KL X)
    (hs : ∀ x, x ∈ xs → ∀ C' (K' : Option β → Prop) (Y : DL.D → Cs → Prop) (Z : Cs → Prop), Own w C' → g x K' X → (∀ b C2, Own w C2 → K' (some b) → Y (f b) C2) → (∀ C2, Own w C2 → K' none → Z C2) → gg (e x) (wipeD r own) C' fun r2 C2 => tt r2 C2 fun b C3 => if b = true then te r2 C3 Y else Z C3)
    (k : ∀ bs C', Own w C' → KL bs → if K0 = true then Q (.cel C'.length) (C' ++ [.lst (bs.map f)]) else Q (.lst (bs.map f)) C') : dLcB K0 it gg tt te own r C Q := by
  refine hi.2 C O _ fun G hG' => ?_
  refine ⟨fun i acc C' => ∃ bs, acc = bs.map f ∧ Own w C' ∧ compM (xs.drop i) g (fun ys => KL (bs ++ ys)) X, ⟨[], rfl, O, by rw [List.drop_zero]; exact h⟩, fun i acc C' _ ⟨bs, _, o, _⟩ => hG' _ (hi.1 _ o), ?_, ?_⟩
  · rintro i d acc C' hd ⟨bs, rfl, o, hf⟩
    rw [List.getElem?_map] at hd
    cases hx : xs[i]? with
    | none => rw [hx] at hd; cases hd
    | some x =>
      rw [hx] at hd
      obtain rfl : e x = d := by simpa using hd
      have hil := (List.getElem?_eq_some_iff.mp hx).1
      have ed : xs.drop i = x :: xs.drop (i + 1) := by
        rw [List.drop_eq_getElem_cons hil]
        congr 1
        rw [List.getElem?_eq_getElem hil] at hx
        exact Option.some.inj hx
      rw [ed] at hf
      refine hs x (List.mem_of_getElem? hx) C' _ _ _ o hf (fun b C2 o2 z => ⟨bs ++ [b], by simp, o2, ?_⟩) fun C2 o2 z => ⟨bs, rfl, o2, ?_⟩
      · have z' : compM (xs.drop (i + 1)) g (fun ys => KL (bs ++ ([b] ++ ys))) X := z
        simpa [List.append_assoc] using z'
      · have z' : compM (xs.drop (i + 1)) g (fun ys => KL (bs ++ ([] ++ ys))) X := z
        simpa using z'
  · rintro acc C' ⟨bs, rfl, o, hf⟩
    rw [List.length_map, List.drop_length] at hf
    have hf' : KL (bs ++ []) := hf
    rw [List.append_nil] at hf'
    exact k bs C' o hf'
theorem st_lc {g : α → M (Option β)} {KL : List β → Prop} (O : Own w C) (hi : JI w r it (xs.map e) Gs) (h : compM xs g KL X)
    (hs : ∀ x, x ∈ xs → ∀ C' (K' : Option β → Prop) (Y : DL.D → Cs → Prop) (Z : Cs → Prop), Own w C' → g x K' X → (∀ b C2, Own w C2 → K' (some b) → Y (f b) C2) → (∀ C2, Own w C2 → K' none → Z C2) → gg (e x) (wipeD r own) C' fun r2 C2 => tt r2 C2 fun b C3 => if b = true then te r2 C3 Y else Z C3)
    (k : ∀ bs C', Own w C' → KL bs → Q (eL f bs) C') : dLcB false it gg tt te own r C Q := st_lcG (K0 := false) O hi h hs fun bs C' o z => k bs C' o z
theorem st_lcC [Cln f] {g : α → M (Option β)} {KL : List β → Prop} (O : Own w C) (hi : JI w r it (xs.map e) Gs) (h : compM xs g KL X)
    (hs : ∀ x, x ∈ xs → ∀ C' (K' : Option β → Prop) (Y : DL.D → Cs → Prop) (Z : Cs → Prop), Own w C' → g x K' X → (∀ b C2, Own w C2 → K' (some b) → Y (f b) C2) → (∀ C2, Own w C2 → K' none → Z C2) → gg (e x) (wipeD r own) C' fun r2 C2 => tt r2 C2 fun b C3 => if b = true then te r2 C3 Y else Z C3)
    (k : ∀ bs n C', Own (w.add n (bs.map f)) C' → KL bs → Q (.cel n) C') : dLcB true it gg tt te own r C Q := st_lcG (K0 := true) O hi h hs fun bs C' o z => k bs _ _ (o.push (los_map 0 bs)) z
end
end TL
/-! TL4: what else the printed proofs name. -/
namespace TL
open PySem PySem.Spec PyProof.Rows L2 DL
section
variable {w : Wl} {r : Ev} {C C' C0 : Cs} {α β : Type} {e : α → D} {f : β → D} {d d' : D} {ds : List D} {Q : QD} {n m i j : Nat} {a b c : Bool} {x y : D}
/-! ### facts of tests -/
theorem isn_f {o : Option α} (h : o.isNone = false) : o.isSome = true := by cases o <;> first | rfl | cases h
theorem and_l (h : (a && b) = true) : a = true := (Bool.and_eq_true _ _ ▸ h).1
theorem and_r (h : (a && b) = true) : b = true := (Bool.and_eq_true _ _ ▸ h).2
theorem or_l (h : (a || b) = false) : a = false := by cases a <;> first | rfl | cases h
theorem or_r (h : (a || b) = false) : b = false := by cases b <;> first | rfl | (cases a <;> cases h)
theorem not_t (h : (!a) = true) : a = false := by cases a <;> first | rfl | cases h
theorem not_f (h : (!a) = false) : a = true := by cases a <;> first | rfl | cases h
/-! ### from one type to another -/
def og [Inhabited α] (o : Option α) : α := o.getD default
theorem og_eq [Inhabited α] {o : Option α} (h : o.isSome = true) : eO e o = e (og o) := by
  cases o with
  | none => cases h
  | some a => rfl
variable {t : RE}
theorem je_og [Inhabited α] {o : Option α} (h : o.isSome = true) (p : JE w r t (eO e o)) : JE w r t (e (og o)) := by
  rw [← og_eq (e := e) h]
  exact p
theorem je_cast (h : d = d') (p : JE w r t d) : JE w r t d' := h ▸ p
theorem je_eq (h : d = d') (p : JE w r t d) : JE w r t d' := h ▸ p
theorem st_cast (h : d' = d) (q : Q d C) : Q d' C := h ▸ q
theorem st_cI {v : Int} (h : d = .int v) (q : Q (eI v) C) : Q d C := h ▸ q
def dI : D → Int
  | .int i => i
  | _ => 0
def dB : D → Bool
  | .bl b => b
  | _ => false
def dS : D → Str
  | .str s => s
  | _ => ⟨#[]⟩
/-- a sequence's items -/
def sqs : D → List D
  | .tup xs => xs
  | .lst xs => xs
  | .scr xs => xs
  | _ => []
def isSqD : D → Bool
  | .tup _ => true
  | .lst _ => true
  | .scr _ => true
  | _ => false
def dT (g : D → α) (d : D) : List α := (sqs d).map g
def dL (g : D → α) (d : D) : List α := (sqs d).map g
def dO (g : D → α) : D → Option α
  | .non => none
  | d => some (g d)
def dP2 [Inhabited α] [Inhabited β] (g : D → α) (g2 : D → β) (d : D) : α × β := (g (gi (sqs d) 0), g2 (gi (sqs d) 1))
def dP3 {γ : Type} (g : D → α) (g2 : D → β) (g3 : D → γ) (d : D) : α × β × γ := (g (gi (sqs d) 0), g2 (gi (sqs d) 1), g3 (gi (sqs d) 2))
theorem dT_eT {g : D → α} (h : ∀ x, g (e x) = x) (xs : List α) : dT g (eT e xs) = xs := by
  show (xs.map e).map g = xs
  rw [List.map_map]
  exact (List.map_congr_left (g := id) fun x _ => h x).trans (List.map_id _)
theorem sq_D (h : isSqD d = true) : sqD C d = some (sqs d) := by cases d <;> first | rfl | cases h
theorem sv_sq (h : isSqD d = true) : Sv w d (sqs d) GT := ⟨fun _ _ => trivial, fun _ _ => sq_D h⟩
def giD (d : D) (i : Int) : D := gi (sqs d) i
def inbD (d : D) (i : Int) : Prop := isSqD d = true ∧ inb (sqs d).length i
theorem j2_ixD {i : Int} (h : inbD x i) : J2 w oIx x (eI i) (giD x i) := fun C O Q q => sq_ix (sq_D h.1) (inb_at h.2) q
theorem ji_D (hx : JE w r t d) (h : isSqD d = true) : JI w r (iSeq t) ((sqs d).map eD) GT := by
  have : (sqs d).map eD = sqs d := List.map_id' _
  rw [this]
  exact ji_seq hx (sv_sq h)
theorem len_D (xs : List D) : xs.map eD = xs := List.map_id' _
theorem sv_sqm (h : isSqD d = true) : Sv w d ((sqs d).map eD) GT := by
  rw [len_D]
  exact sv_sq h
theorem jf_lenD (h : isSqD d = true) : JF w oLen [d] (eI ((sqs d).length : Nat)) := jf_len (sv_sqm h)
theorem jf_tupleD (h : isSqD d = true) : JF w oTuple [d] (eT eD (sqs d)) := jf_tuple (sv_sqm h)
theorem jf_listD (h : isSqD d = true) : JF w oList [d] (eL eD (sqs d)) := jf_list (sv_sqm h)
theorem obj_eO [Cln e] {o : Option α} (h : ∀ x, isObj (e x) = false) : isObj (eO e o) = false := by
  cases o with
  | none => rfl
  | some a => exact h a
theorem j2_band {i j : Int} : J2 w oAnd (eI i) (eI j) (eI (Builtin.bitAnd i j)) := fun _ _ _ q => q
theorem j2_bor {i j : Int} : J2 w oOr (eI i) (eI j) (eI (Builtin.bitOr i j)) := fun _ _ _ q => q
theorem j2_shr {i j : Int} (h : 0 ≤ j) : J2 w oShr (eI i) (eI j) (eI (i / 2 ^ j.toNat)) := fun _ _ _ q => ⟨h, q⟩
theorem j2_shl {i j : Int} (h : CPow i j) : J2 w oShl (eI i) (eI j) (eI (i * 2 ^ j.toNat)) := fun _ _ _ q => ⟨h, q⟩
theorem j2_addS {s z : Str} (h : s.length + z.length ≤ sizeLine) : J2 w oAdd (eS s) (eS z) (eS (s ++ z)) := fun _ _ _ q => ⟨h, q⟩
variable {ra rb : RA} {es : List D}
theorem je_tupP (h : JA w r ra ds) (hd : .tup ds = d) : JE w r (dTup ra) d := hd ▸ je_tup h
theorem je_callKO {sp : SpD} {W : XW} {p : List Nat} (ha : JA w r ra ds) (hb : JA w r rb es) (h : ∀ C, Own w C → ∀ Q E, Q d C → sp (ds ++ pick p es) C Q E) : JE w r (dCallK sp p W ra rb) d := fun C O Q q => ha C O _ (hb C O _ (h C O Q _ q))
theorem xs_slT {xs : List α} {l u : Option Int} (q : Q (eT e (cut xs l u)) C) : oSl C (eT e xs) l u Q := by
  show Q (.tup (DL.cutD (xs.map e) l u)) C
  rw [cut_map]
  exact q
theorem xs_slL {xs : List α} {Gs : Cs → Prop} {l u : Option Int} (O : Own w C) (hv : Lv w d (xs.map e) Gs) (q : Q (eL e (cut xs l u)) C) : oSl C d l u Q := by
  have q' : Q (.lst (DL.cutD (xs.map e) l u)) C := by rw [cut_map]; exact q
  have el := hv.ll C (hv.now C O)
  unfold oSl
  cases d with
  | str s => cases el
  | tup s => cases el
  | _ =>
    show opt (llD C _) _
    rw [el]
    exact q'
theorem xs_tupR {a b : Int} (rg : rgOk a b) (q : Q (eT eI (irange a b)) C) : rgOk a b ∧ Q (.tup (rngD a (b - a).toNat)) C := ⟨rg, by rw [rng_ir]; exact q⟩
theorem xs_lstR {a b : Int} (rg : rgOk a b) (q : Q (eL eI (irange a b)) C) : rgOk a b ∧ (if false = true then Q (.cel C.length) (C ++ [.lst (rngD a (b - a).toNat)]) else Q (.lst (rngD a (b - a).toNat)) C) := ⟨rg, by rw [rng_ir]; exact q⟩
theorem Own.two' {k : Nat} {xs : List D} (O : Own w C) (hd : w.dl = true) (h : w.all[k]? = some (n, xs)) : 2 ≤ n := O.two hd (List.mem_of_getElem? h)
theorem nd_ne {xs ys : List D} (O : Own w C) (i j : Nat) (hi : w.all[i]? = some (n, xs)) (hj : w.all[j]? = some (m, ys)) (hij : i ≠ j := by decide) : n ≠ m := fun e => hij (nd_at O.nd hi hj e)
/-! ### a call that changes nothing -/
theorem cs_ext {C C' : Cs} (h : ∀ i : Nat, C'[i]? = C[i]?) : C' = C := List.ext_getElem? h
theorem up_eq0 (u : Up false [] C C') : C' = C := cs_ext fun i => u.old i (fun p hp => (nomatch hp)) fun h => (nomatch h)
theorem up_eq1 {xs : List D} (u : Up false [(n, xs)] C C') (h : C[n]? = some (.lst xs)) : C' = C := cs_ext fun i => by
  by_cases e : n = i
  · subst e
    rw [h]
    exact (u.at' _ (List.mem_singleton.mpr rfl)).1
  · exact u.old i (fun p hp => by obtain rfl := List.mem_singleton.mp hp; exact e) fun h => (nomatch h)
theorem up_eq2 {xs ys : List D} (u : Up false [(n, xs), (m, ys)] C C') (h : C[n]? = some (.lst xs)) (g : C[m]? = some (.lst ys)) : C' = C := cs_ext fun i => by
  by_cases e : n = i
  · subst e
    rw [h]
    exact (u.at' (n, xs) (by simp)).1
  · by_cases e2 : m = i
    · subst e2
      rw [g]
      exact (u.at' (m, ys) (by simp)).1
    · exact u.old i (fun p hp => by
        simp only [List.mem_cons, List.not_mem_nil, or_false] at hp
        rcases hp with rfl | rfl
        · exact e
        · exact e2) fun h => (nomatch h)
theorem jg_D2 {gs : RGs} {r r1 : Ev} (h : isSqD d = true ∧ (sqs d).length = 2) (g : JGs gs [giD d 0, giD d 1] r r1) : JG (gTup 2 gs) d r r1 := fun C Q q => by
  show opt (sqD C d) _
  rw [sq_D h.1]
  refine ⟨h.2, ?_⟩
  have e : sqs d = [giD d 0, giD d 1] := by
    obtain ⟨_, hl⟩ := h
    unfold giD
    match sqs d, hl with
    | [a, b], _ => rfl
  rw [e]
  exact g C Q q
theorem jg_D3 {gs : RGs} {r r1 : Ev} (h : isSqD d = true ∧ (sqs d).length = 3) (g : JGs gs [giD d 0, giD d 1, giD d 2] r r1) : JG (gTup 3 gs) d r r1 := fun C Q q => by
  show opt (sqD C d) _
  rw [sq_D h.1]
  refine ⟨h.2, ?_⟩
  have e : sqs d = [giD d 0, giD d 1, giD d 2] := by
    obtain ⟨_, hl⟩ := h
    unfold giD
    match sqs d, hl with
    | [a, b, c], _ => rfl
  rw [e]
  exact g C Q q
theorem v_ifI {c : RT} {t u : RS} {D : EndsD} {r : Ev} {C : Cs} (h : sIf c t u D r C) : sIf c t u D r C := h
theorem v_forI {it : RI} {g : RG} {b : RS} {D : EndsD} {r : Ev} {C : Cs} (h : sFor it g b D r C) : sFor it g b D r C := h
theorem v_whileI {c : RT} {b : RS} {D : EndsD} {r : Ev} {C : Cs} (h : sWhile c b D r C) : sWhile c b D r C := h
theorem v_forR1 {te : RE} {g : RG} {b : RS} {D : EndsD} {r : Ev} {C : Cs} (h : te r C fun d C1 => sFor (iR1 (dC d)) g b D r C1) : sFor (iR1 te) g b D r C := h
theorem v_forR2 {te te2 : RE} {g : RG} {b : RS} {D : EndsD} {r : Ev} {C : Cs} (h : te r C fun d C1 => te2 r C1 fun d2 C2 => sFor (iR2 (dC d) (dC d2)) g b D r C2) : sFor (iR2 te te2) g b D r C := h
theorem v_forS {te : RE} {g : RG} {b : RS} {D : EndsD} {r : Ev} {C : Cs} (h : te r C fun d C1 => sFor (iSeq (dC d)) g b D r C1) : sFor (iSeq te) g b D r C := h
end
/-! ### programs that only ask -/
section
variable {α β : Type} {K : α → Prop} {X : XP} {c : Bool} {P : Prop} {m n : M α}
theorem as_mk (p : P) (h : m K X) : M.as P m K X := ⟨p, h⟩
/-- the law's look that two are the same -/
theorem ne_i [DecidableEq β] {a b : β} (e : a = b) (h : n K X) : (if (!decide (a = b)) = true then m else n) K X := by
  rw [if_neg (by simp [e])]
  exact h
theorem iteM (h1 : c = true → m K X) (h2 : c = false → n K X) : (if c = true then m else n) K X := by
  cases c with
  | true => rw [if_pos rfl]; exact h1 rfl
  | false => rw [if_neg Bool.false_ne_true]; exact h2 rfl
theorem itv_t {a b : α} (hc : c = true) (h : K (if c = true then a else b)) : K a := by rw [if_pos hc] at h; exact h
theorem itv_f {a b : α} (hc : c = false) (h : K (if c = true then a else b)) : K b := by rw [if_neg (by rw [hc]; exact Bool.false_ne_true)] at h; exact h
theorem any_b {n : Int} {f : Int → M α} (h0 : 0 < n) (h1 : n < 1073741824) (k : ∀ v, 0 ≤ v → v < n → f v K X) : M.bd (anyM n) f K X := ⟨⟨h0, h1⟩, k⟩
theorem of_b {xs : List β} {f : β → M α} (h0 : xs ≠ []) (h1 : xs.length < 1000000) (k : ∀ x, x ∈ xs → f x K X) : M.bd (ofM xs) f K X := ⟨⟨h0, h1⟩, k⟩
theorem mix_b {xs : List β} {f : List β → M α} (h1 : xs.length < 100000) (k : ∀ ys : List β, ys.Perm xs → f ys K X) : M.bd (mixM xs) f K X := ⟨h1, k⟩
/-- m brings about something of which P holds -/
theorem bd_p {m : M β} {f : β → M α} (P : β → Prop) (h1 : ∀ K' : β → Prop, (∀ a, P a → K' a) → m K' X) (h2 : ∀ a, P a → f a K X) : M.bd m f K X := h1 _ h2
theorem rt_i {a : α} (h : K a) : M.rt a K X := h
/-! ### lists filled by appends -/
theorem bd_i {m : M β} {f : β → M α} (h : m (fun a => f a K X) X) : M.bd m f K X := h
theorem app_lt {l : List β} {x : β} (h : l.length + [x].length ≤ 100000) : l.length < 100000 := h
theorem app_t {K : List β → Prop} {l a b : List β} (hc : c = true) (h : K (l ++ (if c = true then a else b))) : K (l ++ a) := by rw [if_pos hc] at h; exact h
theorem app_f {K : List β → Prop} {l a b : List β} (hc : c = false) (h : K (l ++ (if c = true then a else b))) : K (l ++ b) := by rw [if_neg (by rw [hc]; exact Bool.false_ne_true)] at h; exact h
theorem len_t {l a b : List β} {N : Nat} (hc : c = true) (h : l.length + (if c = true then a else b).length ≤ N) : l.length + a.length ≤ N := by rw [if_pos hc] at h; exact h
theorem len_f {l a b : List β} {N : Nat} (hc : c = false) (h : l.length + (if c = true then a else b).length ≤ N) : l.length + b.length ≤ N := by rw [if_neg (by rw [hc]; exact Bool.false_ne_true)] at h; exact h
theorem app_n {K : List β → Prop} {l : List β} (h : K (l ++ [])) : K l := by rwa [List.append_nil] at h
theorem len_0 {l : List β} {N : Nat} (h : l.length ≤ N) : ([] : List β).length + l.length ≤ N := by rw [List.length_nil, Nat.zero_add]; exact h
theorem forS_app {γ : Type} {g : β → List γ} {f : List γ → β → M (List γ)} {K : List γ → Prop} {N : Nat} {xs : List β} {acc : List γ} (hN : acc.length + (xs.flatMap g).length ≤ N) (hs : ∀ x, x ∈ xs → ∀ acc' (K' : List γ → Prop), acc'.length + (g x).length ≤ N → K' (acc' ++ g x) → f acc' x K' X) (hk : K (acc ++ xs.flatMap g)) : forS xs acc f K X := by
  induction xs generalizing acc with
  | nil => exact app_n hk
  | cons x xs ih =>
    rw [List.flatMap_cons] at hN hk
    rw [List.length_append] at hN
    refine hs x List.mem_cons_self acc _ (by omega) ?_
    refine ih (by rw [List.length_append]; omega) (fun y hy => hs y (List.mem_cons_of_mem _ hy)) ?_
    rw [List.append_assoc]
    exact hk
theorem flatMap_if {γ : Type} (p : β → Bool) (v : β → γ) : ∀ xs : List β, (xs.flatMap fun x => if p x = true then [v x] else []) = (xs.filter p).map v
  | [] => rfl
  | x :: xs => by
    rw [List.flatMap_cons, flatMap_if p v xs]
    by_cases h : p x = true
    · rw [if_pos h, List.filter_cons_of_pos h]
      rfl
    · rw [if_neg h, List.filter_cons_of_neg h]
      rfl
theorem flatMap_one {γ : Type} (v : β → γ) : ∀ xs : List β, (xs.flatMap fun x => [v x]) = xs.map v
  | [] => rfl
  | x :: xs => by
    rw [List.flatMap_cons, flatMap_one v xs]
    rfl
/-! ### loops that look for something -/
section
variable {ρ : Type} {A B : Option ρ} {a b : Option ρ} {Kn : Prop} {Ks : ρ → Prop}
theorem find_t (hc : c = true) (h : ((if c = true then a else b) = none → Kn) ∧ ∀ v, (if c = true then a else b) = some v → Ks v) : (a = none → Kn) ∧ ∀ v, a = some v → Ks v := by rw [if_pos hc] at h; exact h
theorem find_f (hc : c = false) (h : ((if c = true then a else b) = none → Kn) ∧ ∀ v, (if c = true then a else b) = some v → Ks v) : (b = none → Kn) ∧ ∀ v, b = some v → Ks v := by rw [if_neg (by rw [hc]; exact Bool.false_ne_true)] at h; exact h
theorem find_o (e : A = none) (h : (A.or B = none → Kn) ∧ ∀ v, A.or B = some v → Ks v) : (B = none → Kn) ∧ ∀ v, B = some v → Ks v := by subst e; exact h
theorem find_s {v : ρ} (e : A = some v) : A.or B = some v := by subst e; rfl
theorem getD_n {K : ρ → Prop} {v : ρ} (e : A = none) (h : K (A.getD v)) : K v := by subst e; exact h
theorem getD_s {K : ρ → Prop} {v d : ρ} (e : A = some v) (h : K (A.getD d)) : K v := by subst e; exact h
theorem forR_find {g : β → Option ρ} {f : Unit → β → M (Res Unit ρ)} {K : Res Unit ρ → Prop} {xs : List β} (hs : ∀ x, x ∈ xs → ∀ K' : Res Unit ρ → Prop, ((g x = none → K' (.nx ())) ∧ ∀ v, g x = some v → K' (.rt v)) → f () x K' X) (h : (xs.findSome? g = none → K (.nx ())) ∧ ∀ v, xs.findSome? g = some v → K (.rt v)) : forR xs () f K X := by
  induction xs with
  | nil => exact h.1 rfl
  | cons x xs ih =>
    rw [List.findSome?_cons] at h
    refine hs x List.mem_cons_self _ ⟨fun e => ?_, fun v e => ?_⟩
    · rw [e] at h
      exact ih (fun y hy => hs y (List.mem_cons_of_mem _ hy)) h
    · rw [e] at h
      exact h.2 v rfl
end
theorem fin_nil {d : D} {C : Cs} {Q : QD} (h : lo 0 d = true) (q : Q d []) : fin [] d C Q := fin_wr (Nat.zero_le _) h rfl q
/-- what a loop keeps -/
theorem forS_ok {σ : Type} {g : σ → β → M σ} {K : σ → Prop} (I : Nat → σ → Prop) {xs : List β} {s0 : σ} (h0 : I 0 s0) (hs : ∀ i x s (K' : σ → Prop), xs[i]? = some x → I i s → (∀ s', I (i + 1) s' → K' s') → g s x K' X) (hk : ∀ s, I xs.length s → K s) : forS xs s0 g K X := by
  induction xs generalizing I s0 with
  | nil => exact hk s0 h0
  | cons x xs ih =>
    refine hs 0 x s0 _ rfl h0 fun s' h' => ?_
    exact ih (fun i => I (i + 1)) h' (fun i y s K' hy hi hk' => hs (i + 1) y s K' (by simpa using hy) hi hk') hk
theorem forR_ok {σ ρ : Type} {g : σ → β → M (Res σ ρ)} {K : Res σ ρ → Prop} (I : Nat → σ → Prop) {xs : List β} {s0 : σ} (h0 : I 0 s0) (hs : ∀ i x s (K' : Res σ ρ → Prop), xs[i]? = some x → I i s → (∀ s', I (i + 1) s' → K' (.nx s')) → (∀ s', K (.bk s') → K' (.bk s')) → (∀ v, K (.rt v) → K' (.rt v)) → g s x K' X) (hk : ∀ s, I xs.length s → K (.nx s)) : forR xs s0 g K X := by
  induction xs generalizing I s0 with
  | nil => exact hk s0 h0
  | cons x xs ih =>
    refine hs 0 x s0 _ rfl h0 (fun s' h' => ?_) (fun s' h' => h') (fun v h' => h')
    exact ih (fun i => I (i + 1)) h' (fun i y s K' hy hi hk' => hs (i + 1) y s K' (by simpa using hy) hi hk') hk
/-- a loop that is a fold -/
theorem forS_fold {σ : Type} {g : σ → β → M σ} {K : σ → Prop} (v : σ → β → σ) {xs : List β} {s0 : σ} (hs : ∀ i x (K' : σ → Prop), xs[i]? = some x → K' (v ((xs.take i).foldl v s0) x) → g ((xs.take i).foldl v s0) x K' X) (hk : K (xs.foldl v s0)) : forS xs s0 g K X := by
  refine forS_ok (fun i s => s = (xs.take i).foldl v s0) rfl (fun i x s K' hx hi hk' => ?_) fun s hs' => by rw [hs', List.take_length]; exact hk
  subst hi
  refine hs i x K' hx (hk' _ ?_)
  rw [List.take_add_one, hx, List.foldl_append]
  rfl
theorem compM_ok {g : β → M (Option α)} {K : List α → Prop} (I : Nat → List α → Prop) {xs : List β} (h0 : I 0 []) (hs : ∀ i x ys (K' : Option α → Prop), xs[i]? = some x → I i ys → (∀ o : Option α, I (i + 1) (ys ++ o.toList) → K' o) → g x K' X) (hk : ∀ ys, I xs.length ys → K ys) : compM xs g K X := by
  have key : ∀ (xs : List β) (I : Nat → List α → Prop) (acc : List α), I 0 acc → (∀ i x ys (K' : Option α → Prop), xs[i]? = some x → I i ys → (∀ o : Option α, I (i + 1) (ys ++ o.toList) → K' o) → g x K' X) → (∀ ys, I xs.length ys → K ys) → compM xs g (fun zs => K (acc ++ zs)) X := fun xs => by
    induction xs with
    | nil => intro I acc h0 hs hk; exact hk _ (by simpa using h0)
    | cons x xs ih =>
      intro I acc h0 hs hk
      refine hs 0 x acc _ rfl h0 fun o ho => ?_
      have := ih (fun i => I (i + 1)) (acc ++ o.toList) ho (fun i y s K' hy hi hk' => hs (i + 1) y s K' (by simpa using hy) hi hk') hk
      have this' : compM xs g (fun zs => K (acc ++ (o.toList ++ zs))) X := by simpa [List.append_assoc] using this
      exact this'
  exact key xs I [] h0 hs hk
/-- a comprehension all of whose items are drawn alike -/
theorem compM_all {g : β → M (Option α)} {K : List α → Prop} {xs : List β} (R : β → α → Prop) (hs : ∀ x (K' : Option α → Prop), x ∈ xs → (∀ y, R x y → K' (some y)) → g x K' X) (hk : ∀ ys : List α, ys.length = xs.length → (∀ (i : Nat) x y, xs[i]? = some x → ys[i]? = some y → R x y) → K ys) : compM xs g K X := by
  refine compM_ok (fun i ys => i ≤ xs.length ∧ ys.length = i ∧ ∀ (j : Nat) x y, xs[j]? = some x → ys[j]? = some y → R x y) ⟨Nat.zero_le _, rfl, fun j x y _ h => by simp at h⟩ (fun i x ys K' hx ⟨_, hl, hr⟩ hk' => ?_) fun ys ⟨_, hl, hr⟩ => hk ys hl hr
  have hi := (List.getElem?_eq_some_iff.mp hx).1
  refine hs x K' (List.mem_of_getElem? hx) fun y hy => hk' (some y) ⟨hi, by simp [hl], fun j x' y' h1 h2 => ?_⟩
  by_cases e : j < i
  · have : (ys ++ [y])[j]? = ys[j]? := List.getElem?_append_left (by omega)
    exact hr j x' y' h1 (this ▸ h2)
  · have h2' : (ys ++ [y])[j]? = some y' := h2
    rw [List.getElem?_append_right (by omega)] at h2'
    have e0 : j = i := by
      have := (List.getElem?_eq_some_iff.mp h2').1
      simp at this
      omega
    subst e0
    rw [hx] at h1
    cases h1
    rw [hl, Nat.sub_self] at h2'
    obtain rfl : y = y' := by simpa using h2'
    exact hy
end
end TL
/-! TL5: more expressions. -/
namespace TL
open PySem PySem.Spec PyProof.Rows L2 DL
section
variable {α β : Type} {w : Wl} {r : Ev} {te : RE} {d : D} {e : α → D}
theorem je_revA {xs : List α} {Gs : Cs → Prop} (hx : JE w r te d) (hv : Lv w d (xs.map e) Gs) : JE w r (dRevA te) (eL e xs.reverse) := fun C O Q q => hx C O _ (by
  have h := hv.ll C (hv.now C O)
  have g : (opt (llD C d) fun xs => Q (.lst xs.reverse) C) := by
    rw [h]
    show Q (.lst (xs.map e).reverse) C
    rw [← List.map_reverse]
    exact q
  cases d <;> first | exact g | skip
  cases h)
theorem je_revT {xs : List α} (hx : JE w r te (eT e xs)) : JE w r (dRevA te) (eT e xs.reverse) := fun C O Q q => hx C O _ (by
  show Q (.tup (xs.map e).reverse) C
  rw [← List.map_reverse]
  exact q)
theorem jf_maxA {xs : List Int} {Gs : Cs → Prop} (s : Lv w d (xs.map eI) Gs) (h : xs ≠ []) : JF w oMaxA [d] (eI (maxL xs)) := fun C O Q q => by
  show opt (llD C d) _
  rw [s.ll C (s.now C O)]
  show (match intsD (xs.map D.int) with
    | some ns => 0 < ns.length ∧ ∀ m, m ∈ ns → (∀ y, y ∈ ns → y ≤ m) → Q (.int m) C
    | none => opt (pairsD (xs.map D.int)) fun ps => ps ≠ [] ∧ Q (.tup [.int (maxP ps).1, .int (maxP ps).2]) C)
  rw [intsD_map]
  exact ⟨List.length_pos_iff.mpr h, fun m h1 h2 => by rw [maxL_eq h1 h2]; exact q⟩
theorem intsD_pairs {p : PI} {ps : List PI} : intsD ((p :: ps).map (eP2 eI eI)) = none := rfl
theorem jf_maxAP {xs : List (Int × Int)} {Gs : Cs → Prop} (s : Lv w d (xs.map (eP2 eI eI)) Gs) (h : xs ≠ []) : JF w oMaxA [d] (eP2 eI eI (maxP xs)) := fun C O Q q => by
  show opt (llD C d) _
  rw [s.ll C (s.now C O)]
  cases xs with
  | nil => exact absurd rfl h
  | cons p ps =>
    show (match intsD ((p :: ps).map (eP2 eI eI)) with
      | some ns => 0 < ns.length ∧ ∀ m, m ∈ ns → (∀ y, y ∈ ns → y ≤ m) → Q (.int m) C
      | none => opt (pairsD ((p :: ps).map (eP2 eI eI))) fun ps => ps ≠ [] ∧ Q (.tup [.int (maxP ps).1, .int (maxP ps).2]) C)
    rw [intsD_pairs]
    refine opt_iff.mpr ⟨p :: ps, pairsD_map (p :: ps), h, q⟩
theorem jf_minL {xs : List Int} {Gs : Cs → Prop} (s : Lv w d (xs.map eI) Gs) (h : xs ≠ []) : JF w oMinL [d] (eI (minL xs)) := fun C O Q q => by
  show opt (llD C d) _
  rw [s.ll C (s.now C O)]
  show opt (intsD (xs.map D.int)) _
  rw [intsD_map]
  exact ⟨List.length_pos_iff.mpr h, fun m h1 h2 => by rw [minL_eq h1 h2]; exact q⟩
theorem jn_mul [Cln e] {xs : List α} {ta tb : RE} {x : D} {k : Int} {Gs : Cs → Prop} (hx : JE w r ta x) (hy : JE w r tb (eI k)) (s : Lv w x (xs.map e) Gs) (h : 0 ≤ k ∧ xs.length * k.toNat ≤ 100000) (h2 : k < 1000000) (nx : ∀ zs, x ≠ .scr zs) : JN w r (dOp oMulC ta tb) (((List.replicate k.toNat xs).flatten).map e) := fun C O Q q => hx C O _ (hy C O _ (by
  have e1 := s.ll C (s.now C O)
  have l1 : lsD C x = some (xs.map e) := by
    cases x <;> first | exact e1 | exact absurd rfl (nx _)
  show opt (lsD C x) _
  rw [l1]
  refine ⟨⟨by omega, by omega, ?_⟩, ?_⟩
  · rw [List.length_map, sizeLine_eq]
    omega
  · have : (List.replicate k.toNat (xs.map e)).flatten = ((List.replicate k.toNat xs).flatten).map e := by rw [List.map_flatten, List.map_replicate]
    rw [this]
    exact new_c O (los_map 0 _) q))
theorem flat_rep1 {k : Nat} {v : α} : (List.replicate k [v]).flatten = List.replicate k v := by
  induction k with
  | zero => rfl
  | succ k ih => rw [List.replicate_succ, List.flatten_cons, ih, List.replicate_succ]; rfl
theorem jn_rep1 [Cln e] {v : α} {ta tb : RE} {k : Int} (hx : JE w r ta (eL e [v])) (hy : JE w r tb (eI k)) (h : 0 ≤ k) (h2 : k ≤ 100000) : JN w r (dOp oMulC ta tb) ((List.replicate k.toNat v).map e) := by
  have g := jn_mul (e := e) (xs := [v]) hx hy lv_L ⟨h, by simp; omega⟩ (by omega) (fun _ z => (nomatch z))
  rw [flat_rep1] at g
  exact g
/-- o[i] op= e -/
theorem v_augSb {op : O2} {to ti te : RE} {D : EndsD} {C : Cs} (h : to r C fun o C1 => ti r C1 fun i C2 => match o, i with
  | .cel n, .int k => opt (lsD C2 (.cel n)) fun xs => opt (atI xs k) fun x => te r C2 fun y C3 => op x y C3 fun z C4 => oSet (.cel n) (.int k) z C4 fun C5 => D.nx r C5
  | _, _ => False) : sAugS op to ti te D r C := h
theorem xm_augGet {Q : D → Prop} {xs : List α} [Inhabited α] {a : Int} {n : Nat} {C : Cs} (k : Nat) (O : Own w C) (hk : w.all[k]? = some (n, xs.map e)) (hl : inb xs.length a) (q : Q (e (gi xs a))) : opt (lsD C (.cel n)) fun xs => opt (atI xs a) fun x => Q x := by
  have := lsD_at (O.get hk)
  rw [this]
  show opt (atI (xs.map e) a) _
  rw [atI_map, inb_at hl]
  exact q
end
/-! ### three cells -/
theorem Own.startP3 {C : Cs} {n m l : Nat} {xs ys zs : List D} (h : C[n]? = some (.lst xs)) (g : C[m]? = some (.lst ys)) (f : C[l]? = some (.lst zs)) (hnm : n ≠ m) (hnl : n ≠ l) (hml : m ≠ l) (hc : los 0 xs = true) (gc : los 0 ys = true) (fc : los 0 zs = true) : Own ⟨false, C, [(n, xs), (m, ys), (l, zs)], []⟩ C := by
  refine ⟨Nat.le_refl _, fun _ h => (nomatch h), fun p hp => ?_, fun p hp => ?_, by simp [Wl.all, hnm, hnl, hml], fun _ _ _ _ => rfl, fun h => (nomatch h)⟩
  · simp only [List.mem_cons, List.not_mem_nil, or_false] at hp
    rcases hp with rfl | rfl | rfl
    · exact ⟨(List.getElem?_eq_some_iff.mp h).1, fun h => (nomatch h)⟩
    · exact ⟨(List.getElem?_eq_some_iff.mp g).1, fun h => (nomatch h)⟩
    · exact ⟨(List.getElem?_eq_some_iff.mp f).1, fun h => (nomatch h)⟩
  · simp only [Wl.all, List.append_nil, List.mem_cons, List.not_mem_nil, or_false] at hp
    rcases hp with rfl | rfl | rfl
    · exact ⟨h, hc⟩
    · exact ⟨g, gc⟩
    · exact ⟨f, fc⟩
section
variable {w : Wl} {C C' : Cs} {n k m j l i : Nat} {xs ys zs us vs ts : List D} {dl : Bool}
theorem Own.up3 (O : Own w C) (h : w.all[k]? = some (n, xs)) (g : w.all[j]? = some (m, zs)) (f : w.all[i]? = some (l, vs)) (u : Up dl [(n, ys), (m, us), (l, ts)] C C') (hkj : k ≠ j := by decide) (hki : k ≠ i := by decide) (hji : j ≠ i := by decide) (hd : dl = true → w.dl = true := by first | exact fun h => h | exact fun h => (nomatch h) | exact fun _ => rfl) : Own (((w.put k ys).put j us).put i ts) C' := by
  have hnl : n ≠ l := fun e => hki (nd_at O.nd h f e)
  have hml : m ≠ l := fun e => hji (nd_at O.nd g f e)
  have al := u.at' (l, ts) (by simp)
  have hmf := List.mem_of_getElem? f
  have hll := O.lt hmf
  have gl := O.get f
  have hl' : l < C'.length := u.len ▸ hll
  have ne : ∀ q, q ≠ l → (C'.set l (.lst vs))[q]? = C'[q]? := fun q hq => List.getElem?_set_ne (Ne.symm hq)
  have u2 : Up dl [(n, ys), (m, us)] C (C'.set l (.lst vs)) := by
    refine ⟨by simp [u.len], fun p hp => ?_, fun q h1 h2 => ?_, fun e => ?_⟩
    · simp only [List.mem_cons, List.not_mem_nil, or_false] at hp
      rcases hp with rfl | rfl
      · rw [ne _ hnl]
        exact u.at' (n, ys) (by simp)
      · rw [ne _ hml]
        exact u.at' (m, us) (by simp)
    · by_cases e : q = l
      · subst e
        rw [gl]
        simp [hl']
      · rw [ne _ e]
        refine u.old q (fun p hp => ?_) h2
        simp only [List.mem_cons, List.not_mem_nil, or_false] at hp
        rcases hp with rfl | rfl | rfl
        · exact h1 (n, ys) (by simp)
        · exact h1 (m, us) (by simp)
        · exact Ne.symm e
    · have h2 : 2 ≤ l := O.two (hd e) hmf
      exact (u.deal e).up (ne _ (by omega)) (ne _ (by omega))
  have O2 := O.up2 h g u2 hkj hd
  have f2 : ((w.put k ys).put j us).all[i]? = some (l, vs) := by
    rw [Wl.put_all, List.getElem?_modify, Wl.put_all, List.getElem?_modify, f]
    simp [hkj, hki, hji]
  refine O2.putG f2 (by simp) al.1 (fun q hq h2 => (ne q hq).symm) (fun hh => ?_) al.2
  cases dl with
  | true => exact u.deal rfl
  | false =>
    have h2 : 2 ≤ l := O.two hh hmf
    exact ((O2.deal hh).1).up (ne _ (by omega)).symm (ne _ (by omega)).symm
end
section
variable {α : Type} {w : Wl} {d : D} {e : α → D} {k : Nat}
theorem findIdx_idx [DecidableEq α] [ib : BEq α] [LawfulBEq α] [h : EqE e k] (x : α) : ∀ xs : List α, (xs.map e).findIdx (fun z => eqD z (e x)) = xs.idxOf x
  | [] => rfl
  | y :: ys => by
    rw [List.map_cons, List.findIdx_cons, List.idxOf_cons, findIdx_idx x ys, h.eq]
    have : (y == x) = decide (y = x) := by rw [Bool.eq_iff_iff]; simp
    rw [this]
theorem jm_idxD [DecidableEq α] {ib : BEq α} [LawfulBEq α] [h : EqE e k] {x : α} {xs : List α} {Gs : Cs → Prop} (s : Lv w d (xs.map e) Gs) (hx : x ∈ xs) (hk : k ≤ 59 := by decide) : JM w oIdxD d [e x] (eI (xs.idxOf x : Nat)) := fun C O Q q => by
  show opt (llD C d) _
  rw [s.ll C (s.now C O)]
  refine ⟨⟨shp_up (by omega) _ (h.sh x), shps_up hk _ (shps_map h.sh xs), ?_⟩, ?_⟩
  · rw [List.any_eq_true]
    exact ⟨e x, List.mem_map_of_mem (f := e) hx, by rw [h.eq]; simp⟩
  · rw [findIdx_idx]
    exact q
end
theorem v_forE {te : RE} {g : RG} {b : RS} {D : EndsD} {r : Ev} {C : Cs} (h : te r C fun d C1 => sFor (iEnu (dC d)) g b D r C1) : sFor (iEnu te) g b D r C := h
theorem v_forZ {te te2 : RE} {g : RG} {b : RS} {D : EndsD} {r : Ev} {C : Cs} (h : te r C fun d C1 => te2 r C1 fun d2 C2 => sFor (iZip2 (dC d) (dC d2)) g b D r C2) : sFor (iZip2 te te2) g b D r C := h
end TL
/-! MT: halls, wishes, dealings, in plain Lean. -/
namespace LW
open PySem PySem.Spec PyProof.Rows L2 DL TL
abbrev Hal := List (Int × List Int)
abbrev Wis := List (List Int)
abbrev Dea := List (Option Int)
theorem irange_map0 (n : Nat) : irange 0 (n : Int) = (List.range n).map fun (i : Nat) => (i : Int) := by
  unfold irange
  simp
theorem enumI_eq {α : Type} [Inhabited α] (xs : List α) : enumI xs = (irange 0 (xs.length : Int)).map fun i => (i, gi xs i) := by
  rw [irange_map0, List.map_map]
  unfold enumI
  refine List.ext_getElem? fun i => ?_
  rw [List.getElem?_mapIdx, List.getElem?_map]
  by_cases h : i < xs.length
  · rw [List.getElem?_range h, List.getElem?_eq_getElem h]
    simp only [Option.map_some, Function.comp_apply, gi_ofNat]
    rw [List.getD_eq_getElem?_getD, List.getElem?_eq_getElem h]
    rfl
  · rw [List.getElem?_eq_none (by omega), List.getElem?_eq_none (by simp; omega)]
    rfl
theorem mem_enumI {α : Type} [Inhabited α] {xs : List α} {z : Int × α} : z ∈ enumI xs ↔ 0 ≤ z.1 ∧ z.1 < xs.length ∧ z.2 = gi xs z.1 := by
  rw [enumI_eq, List.mem_map]
  constructor
  · rintro ⟨i, hi, rfl⟩
    have := mem_irange.mp hi
    exact ⟨this.1, this.2, rfl⟩
  · rintro ⟨h1, h2, h3⟩
    exact ⟨z.1, mem_irange.mpr ⟨h1, h2⟩, by rw [← h3]⟩
theorem gi_get {α : Type} [Inhabited α] {xs : List α} {i : Int} (h : 0 ≤ i) (h2 : i < xs.length) : xs[i.toNat]? = some (gi xs i) := by
  rw [gi_nat h, List.getD_eq_getElem?_getD, List.getElem?_eq_getElem (by omega)]
  rfl
theorem gi_in {α : Type} [Inhabited α] {xs : List α} {i : Int} (h : 0 ≤ i) (h2 : i < xs.length) : gi xs i ∈ xs := List.mem_of_getElem? (gi_get h h2)
theorem gi_0 {α : Type} [Inhabited α] {a : α} {l : List α} : gi (a :: l) 0 = a := by
  rw [gi_nat (by omega)]
  rfl
theorem gi_mapr {α : Type} [Inhabited α] (f : Int → α) {n i : Int} (h : 0 ≤ i) (h2 : i < n) : gi ((irange 0 n).map f) i = f i := by
  have hl : ((irange 0 n).map f).length = n.toNat := by simp [irange_len]
  have hg := gi_get (xs := (irange 0 n).map f) h (by rw [hl]; omega)
  rw [List.getElem?_map] at hg
  have : (irange 0 n)[i.toNat]? = some i := by
    unfold irange
    rw [List.getElem?_map, List.getElem?_range (by omega)]
    simp
    omega
  rw [this] at hg
  exact (Option.some.inj hg).symm
theorem list_eq_map {α : Type} [Inhabited α] (xs : List α) : xs = (irange 0 (xs.length : Int)).map (gi xs) := by
  refine List.ext_getElem? fun i => ?_
  rw [List.getElem?_map, irange_map0, List.getElem?_map]
  by_cases h : i < xs.length
  · rw [List.getElem?_range h, List.getElem?_eq_getElem h]
    simp only [Option.map_some, gi_ofNat]
    rw [List.getD_eq_getElem?_getD, List.getElem?_eq_getElem h]
    rfl
  · rw [List.getElem?_eq_none (by omega), List.getElem?_eq_none (by simp; omega)]
    rfl
theorem list_ext_gi {α : Type} [Inhabited α] {xs ys : List α} (hl : xs.length = ys.length) (h : ∀ i : Int, 0 ≤ i → i < xs.length → gi xs i = gi ys i) : xs = ys := by
  rw [list_eq_map xs, list_eq_map ys, hl]
  refine List.map_congr_left fun i hi => ?_
  have := mem_irange.mp hi
  exact h i this.1 (by omega)
theorem gi_set {α : Type} [Inhabited α] {xs : List α} {i j : Int} {v : α} (h : 0 ≤ i) (h2 : i < xs.length) (h3 : 0 ≤ j) : gi (setI xs i v) j = if j = i then v else gi xs j := by
  rw [setI_nat h, gi_nat h3, gi_nat h3, List.getD_eq_getElem?_getD, List.getElem?_set]
  by_cases e : j = i
  · subst e
    rw [if_pos rfl, if_pos rfl, if_pos (by omega)]
    rfl
  · rw [if_neg (by omega), if_neg e, List.getD_eq_getElem?_getD]
theorem set_len {α : Type} {xs : List α} {i : Int} {v : α} : (setI xs i v).length = xs.length := by
  unfold setI
  cases ixN xs.length i <;> simp
theorem all_id {α : Type} (f : α → Bool) (xs : List α) : (xs.map f).all id = xs.all f := by
  induction xs with
  | nil => rfl
  | cons x xs ih => simp
theorem any_id {α : Type} (f : α → Bool) (xs : List α) : (xs.map f).any id = xs.any f := by
  induction xs with
  | nil => rfl
  | cons x xs ih => simp
theorem fm_congr {α β : Type} {f g : α → List β} {xs : List α} (h : ∀ x ∈ xs, f x = g x) : xs.flatMap f = xs.flatMap g := by
  induction xs with
  | nil => rfl
  | cons x xs ih => rw [List.flatMap_cons, List.flatMap_cons, h x List.mem_cons_self, ih fun y hy => h y (List.mem_cons_of_mem _ hy)]
/-- any value that is an int -/
def intD : D → Bool
  | .int _ => true
  | _ => false
theorem perm_del {α : Type} {xs : List α} {k : Nat} {x : α} (h : xs[k]? = some x) : (x :: xs.eraseIdx k).Perm xs := by
  induction xs generalizing k with
  | nil => simp at h
  | cons y ys ih =>
    cases k with
    | zero =>
      simp at h
      subst h
      exact List.Perm.refl _
    | succ k =>
      have p := ih (k := k) (by simpa using h)
      exact (List.Perm.swap y x _).trans (p.cons y)
/-- one taken out and put in elsewhere -/
theorem ins_del {xs : List Int} {v k : Int} (v0 : 0 ≤ v) (v1 : v < xs.length) : (insI (delI xs v) k (gi xs v)).Perm xs := by
  unfold insI
  rw [List.append_assoc]
  refine List.perm_middle.trans ?_
  show (gi xs v :: ((delI xs v).take k.toNat ++ (delI xs v).drop k.toNat)).Perm xs
  rw [List.take_append_drop, delI_nat v0]
  exact perm_del (gi_get v0 v1)
/-! ### orders -/
abbrev sea (hs : Hal) (p : Int) : Int := (gi hs p).1
abbrev odr (hs : Hal) (p : Int) : List Int := (gi hs p).2
def rk (hs : Hal) (p x : Int) : Int := ((odr hs p).idxOf x : Nat)
structure HOk (hs : Hal) (n : Int) : Prop where
  n1 : 1 ≤ n
  n40 : n ≤ 40
  p1 : 1 ≤ hs.length
  p12 : hs.length ≤ 12
  se : ∀ q ∈ hs, 1 ≤ q.1 ∧ q.1 ≤ 20
  od : ∀ q ∈ hs, q.2.Perm (irange 0 n)
section
variable {hs : Hal} {n p x y : Int}
theorem HOk.mem (H : HOk hs n) (p0 : 0 ≤ p) (p1 : p < hs.length) : gi hs p ∈ hs := gi_in p0 p1
theorem HOk.perm (H : HOk hs n) (p0 : 0 ≤ p) (p1 : p < hs.length) : (odr hs p).Perm (irange 0 n) := H.od _ (H.mem p0 p1)
theorem HOk.seat (H : HOk hs n) (p0 : 0 ≤ p) (p1 : p < hs.length) : 1 ≤ sea hs p ∧ sea hs p ≤ 20 := H.se _ (H.mem p0 p1)
theorem HOk.in_od (H : HOk hs n) (p0 : 0 ≤ p) (p1 : p < hs.length) : x ∈ odr hs p ↔ 0 ≤ x ∧ x < n := by rw [(H.perm p0 p1).mem_iff, mem_irange]
theorem HOk.od_len (H : HOk hs n) (p0 : 0 ≤ p) (p1 : p < hs.length) : ((odr hs p).length : Int) = n := by
  have := H.n1
  rw [(H.perm p0 p1).length_eq, irange_len]
  omega
theorem HOk.od_nd (H : HOk hs n) (p0 : 0 ≤ p) (p1 : p < hs.length) : (odr hs p).Nodup := (H.perm p0 p1).nodup_iff.mpr (irange_nodup _ _)
theorem HOk.rk_lt (H : HOk hs n) (p0 : 0 ≤ p) (p1 : p < hs.length) (x0 : 0 ≤ x) (x1 : x < n) : 0 ≤ rk hs p x ∧ rk hs p x < n := by
  have := List.idxOf_lt_length_iff.mpr ((H.in_od p0 p1).mpr ⟨x0, x1⟩)
  have := H.od_len p0 p1
  unfold rk
  omega
theorem idx_inj {o : List Int} {x y : Int} (hx : x ∈ o) (hy : y ∈ o) (e : o.idxOf x = o.idxOf y) : x = y := by
  have ix := List.idxOf_lt_length_iff.mpr hx
  have iy := List.idxOf_lt_length_iff.mpr hy
  have g1 := List.getElem_idxOf ix
  have g2 := List.getElem_idxOf iy
  have : o[o.idxOf x] = o[o.idxOf y] := by congr 1
  rw [g1, g2] at this
  exact this
theorem HOk.rk_inj (H : HOk hs n) (p0 : 0 ≤ p) (p1 : p < hs.length) (x0 : 0 ≤ x) (x1 : x < n) (y0 : 0 ≤ y) (y1 : y < n) (e : rk hs p x = rk hs p y) : x = y := by
  unfold rk at e
  exact idx_inj ((H.in_od p0 p1).mpr ⟨x0, x1⟩) ((H.in_od p0 p1).mpr ⟨y0, y1⟩) (by omega)
theorem HOk.len0 (H : HOk hs n) : (((gi hs 0).2).length : Int) = n := H.od_len (p := 0) (by omega) (by have := H.p1; omega)
end
/-! ### wishes -/
structure WOk (hs : Hal) (n : Int) (ws : Wis) : Prop where
  len : (ws.length : Int) = n
  ok : ∀ w ∈ ws, w.Nodup ∧ ∀ p ∈ w, 0 ≤ p ∧ p < hs.length
section
variable {hs : Hal} {n p x y : Int} {ws : Wis}
theorem WOk.mem (W : WOk hs n ws) (x0 : 0 ≤ x) (x1 : x < n) : gi ws x ∈ ws := gi_in x0 (by have := W.len; omega)
theorem WOk.nd (W : WOk hs n ws) (x0 : 0 ≤ x) (x1 : x < n) : (gi ws x).Nodup := (W.ok _ (W.mem x0 x1)).1
theorem WOk.pl (W : WOk hs n ws) (x0 : 0 ≤ x) (x1 : x < n) (h : p ∈ gi ws x) : 0 ≤ p ∧ p < hs.length := (W.ok _ (W.mem x0 x1)).2 p h
theorem nodup_le {w : List Int} {m : Nat} (nd : w.Nodup) (h : ∀ p ∈ w, 0 ≤ p ∧ p < m) : w.length ≤ m := by
  have s : w ⊆ irange 0 (m : Int) := fun p hp => mem_irange.mpr (by have := h p hp; omega)
  have := nd.length_le_of_subset s
  rw [irange_len] at this
  omega
theorem WOk.wlen (W : WOk hs n ws) {w : List Int} (h : w ∈ ws) : w.length ≤ hs.length := nodup_le (W.ok w h).1 (W.ok w h).2
end
def spo (w : List Int) : Option Int → Int
  | none => w.length
  | some p => if p ∈ w then ((w.idxOf p : Nat) : Int) else w.length + 1
theorem spo_none (w : List Int) : spo w none = w.length := rfl
theorem spo_in {w : List Int} {p : Int} (h : p ∈ w) : spo w (some p) = ((w.idxOf p : Nat) : Int) := if_pos h
theorem spo_out {w : List Int} {p : Int} (h : p ∉ w) : spo w (some p) = w.length + 1 := if_neg h
theorem spo_0 (w : List Int) (x : Option Int) : 0 ≤ spo w x := by
  cases x with
  | none => rw [spo_none]; omega
  | some p =>
    by_cases h : p ∈ w
    · rw [spo_in h]; omega
    · rw [spo_out h]; omega
theorem spo_lt {w : List Int} {p : Int} (h : p ∈ w) : spo w (some p) < w.length := by
  rw [spo_in h]
  have := List.idxOf_lt_length_iff.mpr h
  omega
/-- what is liked better than something stands in the list -/
theorem spo_better {w : List Int} {p : Int} {d : Option Int} (h : spo w (some p) < spo w d) (hd : ∀ q, d = some q → q ∈ w) : p ∈ w := by
  by_cases hp : p ∈ w
  · exact hp
  · rw [spo_out hp] at h
    cases d with
    | none => rw [spo_none] at h; omega
    | some q =>
      have := spo_lt (hd q rfl)
      omega
theorem spo_inj {w : List Int} {p q : Int} (hp : p ∈ w) (hq : q ∈ w) (h : spo w (some p) = spo w (some q)) : p = q := by
  rw [spo_in hp, spo_in hq] at h
  exact idx_inj hp hq (by omega)
theorem spo_mem {w : List Int} {p : Int} (h : spo w (some p) < w.length) : p ∈ w := by
  by_cases hp : p ∈ w
  · exact hp
  · rw [spo_out hp] at h
    omega
theorem spo_le (w : List Int) (d : Option Int) : spo w d ≤ w.length + 1 := by
  cases d with
  | none => rw [spo_none]; omega
  | some p =>
    by_cases h : p ∈ w
    · have := spo_lt h; omega
    · rw [spo_out h]; omega
theorem take_idx {w : List Int} {k : Nat} {a : Int} : a ∈ w.take k ↔ a ∈ w ∧ w.idxOf a < k := by
  constructor
  · intro h
    have hm := List.mem_of_mem_take h
    refine ⟨hm, ?_⟩
    have h2 : (w.take k).idxOf a < (w.take k).length := List.idxOf_lt_length_iff.mpr h
    have h3 : w.idxOf a = (w.take k).idxOf a := by
      conv => lhs; rw [← List.take_append_drop k w]
      rw [List.idxOf_append, if_pos h]
    rw [h3]
    have := List.length_take_le k w
    omega
  · rintro ⟨hm, hk⟩
    rw [← List.take_append_drop k w] at hm
    rcases List.mem_append.mp hm with h | h
    · exact h
    · by_cases h2 : a ∈ w.take k
      · exact h2
      · exfalso
        have h3 : w.idxOf a = (w.drop k).idxOf a + (w.take k).length := by
          conv => lhs; rw [← List.take_append_drop k w]
          rw [List.idxOf_append, if_neg h2]
        have h4 : k ≤ w.length := by
          rcases Nat.lt_or_ge w.length k with z | z
          · rw [List.drop_of_length_le (by omega)] at h
            cases h
          · exact z
        rw [List.length_take, Nat.min_eq_left h4] at h3
        omega
/-- those ahead of a thing in a list -/
theorem take_spo {w : List Int} {d : Option Int} {a : Int} (hd : ∀ q, d = some q → q ∈ w) : a ∈ w.take (spo w d).toNat ↔ spo w (some a) < spo w d := by
  rw [take_idx]
  have h0 := spo_0 w d
  constructor
  · rintro ⟨h1, h2⟩
    rw [spo_in h1]
    omega
  · intro h
    have := spo_better h hd
    rw [spo_in this] at h
    exact ⟨this, by omega⟩
theorem find_some {w : List Int} {p : Int → Bool} {q : Int} (hq : q ∈ w) (hp : p q = true) (hb : ∀ a ∈ w, w.idxOf a < w.idxOf q → ¬ p a = true) : w.find? p = some q := by
  have hi := List.idxOf_lt_length_iff.mpr hq
  refine List.find?_eq_some_iff_append.mpr ⟨hp, w.take (w.idxOf q), w.drop (w.idxOf q + 1), ?_, fun a ha => ?_⟩
  · have := List.drop_eq_getElem_cons hi
    rw [List.getElem_idxOf hi] at this
    rw [← this, List.take_append_drop]
  · have := hb a (List.mem_of_mem_take ha) (take_idx.mp ha).2
    simpa using this
theorem find_first {w : List Int} {p : Int → Bool} {q a : Int} (h : w.find? p = some q) (ha : a ∈ w) (hlt : w.idxOf a < w.idxOf q) : ¬ p a = true := by
  obtain ⟨hp, as, bs, rfl, hn⟩ := List.find?_eq_some_iff_append.mp h
  have hqa : q ∉ as := fun hm => by
    have := hn q hm
    rw [hp] at this
    simp at this
  have e : (as ++ q :: bs).idxOf q = as.length := by
    rw [List.idxOf_append, if_neg hqa, List.idxOf_cons_self]
    omega
  rw [e] at hlt
  have : a ∈ as := by
    rw [List.idxOf_append] at hlt
    split at hlt
    · assumption
    · omega
  have := hn a this
  intro hpa
  rw [hpa] at this
  simp at this
/-- the first thing of a list that something holds of -/
theorem find_spo {w : List Int} {q : Int → Bool} {d : Option Int} (hd : ∀ p, d = some p → p ∈ w ∧ q p = true) (hb : ∀ p ∈ w, spo w (some p) < spo w d → q p = false) : w.find? q = d := by
  cases d with
  | none =>
    refine List.find?_eq_none.mpr fun p hp hq => ?_
    rw [hb p hp (by rw [spo_none]; exact spo_lt hp)] at hq
    cases hq
  | some p =>
    obtain ⟨h1, h2⟩ := hd p rfl
    refine find_some h1 h2 fun a ha hlt hq => ?_
    rw [hb a ha (by rw [spo_in ha, spo_in h1]; omega)] at hq
    cases hq
theorem find_spo_f {w : List Int} {q : Int → Bool} {p : Int} (hp : p ∈ w) (h : spo w (some p) < spo w (w.find? q)) : q p = false := by
  rw [← Bool.not_eq_true]
  cases e : w.find? q with
  | none => exact List.find?_eq_none.mp e p hp
  | some a =>
    rw [e, spo_in hp, spo_in (List.mem_of_find?_eq_some e)] at h
    exact find_first e hp (by omega)
/-! ### dealings -/
def atD (dl : Dea) (p : Int) : List Int := (irange 0 (dl.length : Int)).filter fun x => decide (gi dl x = some p)
theorem mem_atD {dl : Dea} {p x : Int} : x ∈ atD dl p ↔ 0 ≤ x ∧ x < dl.length ∧ gi dl x = some p := by
  unfold atD
  rw [List.mem_filter, mem_irange, decide_eq_true_eq, and_assoc]
theorem atD_nd (dl : Dea) (p : Int) : (atD dl p).Nodup := (irange_nodup _ _).sublist List.filter_sublist
theorem atD_len (dl : Dea) (p : Int) : (atD dl p).length ≤ dl.length := by
  have := List.length_filter_le (fun x => decide (gi dl x = some p)) (irange 0 (dl.length : Int))
  rw [irange_len] at this
  unfold atD
  omega
/-- would the place take the person -/
def Ent (hs : Hal) (dl : Dea) (x p : Int) : Prop := ((atD dl p).length : Int) < sea hs p ∨ ∃ y ∈ atD dl p, rk hs p x < rk hs p y
instance (hs : Hal) (dl : Dea) (x p : Int) : Decidable (Ent hs dl x p) := inferInstanceAs (Decidable (_ ∨ _))
def Blk (hs : Hal) (ws : Wis) (dl : Dea) (x p : Int) : Prop := spo (gi ws x) (some p) < spo (gi ws x) (gi dl x) ∧ Ent hs dl x p
instance (hs : Hal) (ws : Wis) (dl : Dea) (x p : Int) : Decidable (Blk hs ws dl x p) := inferInstanceAs (Decidable (_ ∧ _))
/-- everybody at a place of its list or at none, no place with too many -/
structure Fits (hs : Hal) (n : Int) (ws : Wis) (dl : Dea) : Prop where
  len : (dl.length : Int) = n
  wish : ∀ x p : Int, 0 ≤ x → x < n → gi dl x = some p → p ∈ gi ws x
  room : ∀ p : Int, 0 ≤ p → p < hs.length → ((atD dl p).length : Int) ≤ sea hs p
structure Stb (hs : Hal) (n : Int) (ws : Wis) (dl : Dea) : Prop extends Fits hs n ws dl where
  nob : ∀ x p : Int, 0 ≤ x → x < n → 0 ≤ p → p < hs.length → ¬ Blk hs ws dl x p
/-- a dealing of any kind -/
structure DOk (hs : Hal) (n : Int) (dl : Dea) : Prop where
  len : (dl.length : Int) = n
  pl : ∀ x p : Int, 0 ≤ x → x < n → gi dl x = some p → 0 ≤ p ∧ p < hs.length
theorem Fits.dok {hs : Hal} {n : Int} {ws : Wis} {dl : Dea} (W : WOk hs n ws) (F : Fits hs n ws dl) : DOk hs n dl := ⟨F.len, fun x p x0 x1 e => W.pl x0 x1 (F.wish x p x0 x1 e)⟩
/-- all pairs that block, by people, by places -/
def blkL (hs : Hal) (n : Int) (ws : Wis) (dl : Dea) : List (Int × Int) := (irange 0 n).flatMap fun x => ((irange 0 (hs.length : Int)).filter fun p => decide (Blk hs ws dl x p)).map fun p => (x, p)
theorem mem_blkL {hs : Hal} {n : Int} {ws : Wis} {dl : Dea} {x p : Int} : ((x, p) : Int × Int) ∈ blkL hs n ws dl ↔ (0 ≤ x ∧ x < n) ∧ (0 ≤ p ∧ p < hs.length) ∧ Blk hs ws dl x p := by
  unfold blkL
  rw [List.mem_flatMap]
  constructor
  · rintro ⟨y, hy, hm⟩
    obtain ⟨q, hq, e⟩ := List.mem_map.mp hm
    cases e
    obtain ⟨h1, h2⟩ := List.mem_filter.mp hq
    exact ⟨mem_irange.mp hy, mem_irange.mp h1, of_decide_eq_true h2⟩
  · rintro ⟨h1, h2, h3⟩
    exact ⟨x, mem_irange.mpr h1, List.mem_map.mpr ⟨p, List.mem_filter.mpr ⟨mem_irange.mpr h2, decide_eq_true h3⟩, rfl⟩⟩
theorem blkL_nil {hs : Hal} {n : Int} {ws : Wis} {dl : Dea} : blkL hs n ws dl = [] ↔ ∀ x p : Int, 0 ≤ x → x < n → 0 ≤ p → p < hs.length → ¬ Blk hs ws dl x p := by
  constructor
  · intro h x p x0 x1 p0 p1 hb
    have : ((x, p) : Int × Int) ∈ blkL hs n ws dl := mem_blkL.mpr ⟨⟨x0, x1⟩, ⟨p0, p1⟩, hb⟩
    rw [h] at this
    cases this
  · intro h
    rw [List.eq_nil_iff_forall_not_mem]
    rintro ⟨x, p⟩ hm
    obtain ⟨h1, h2, h3⟩ := mem_blkL.mp hm
    exact h x p h1.1 h1.2 h2.1 h2.2 h3
theorem blkL_len {hs : Hal} {n : Int} {ws : Wis} {dl : Dea} (hn : n ≤ 40) (hp : hs.length ≤ 12) : (blkL hs n ws dl).length ≤ 480 := by
  unfold blkL
  have key : ∀ xs : List Int, (xs.flatMap fun x => ((irange 0 (hs.length : Int)).filter fun p => decide (Blk hs ws dl x p)).map fun p => (x, p)).length ≤ xs.length * 12 := fun xs => by
    induction xs with
    | nil => simp
    | cons y ys ih =>
      rw [List.flatMap_cons, List.length_append, List.length_map, List.length_cons]
      have := List.length_filter_le (fun p => decide (Blk hs ws dl y p)) (irange 0 (hs.length : Int))
      rw [irange_len] at this
      omega
  have := key (irange 0 n)
  rw [irange_len] at this
  omega
theorem Stb.iff {hs : Hal} {n : Int} {ws : Wis} {dl : Dea} : Stb hs n ws dl ↔ Fits hs n ws dl ∧ blkL hs n ws dl = [] := ⟨fun h => ⟨h.toFits, blkL_nil.mpr h.nob⟩, fun h => ⟨h.1, blkL_nil.mp h.2⟩⟩
end LW
/-! MT2: people's offers. -/
namespace LW
open PySem PySem.Spec PyProof.Rows L2 DL TL
section
variable {hs : Hal} {n : Int} {ws : Wis}
theorem atD_congr {a b : Dea} {q : Int} (hl : a.length = b.length) (h : ∀ y : Int, 0 ≤ y → y < a.length → (gi a y = some q ↔ gi b y = some q)) : atD a q = atD b q := by
  unfold atD
  rw [hl]
  refine List.filter_congr fun y hy => ?_
  obtain ⟨y0, y1⟩ := mem_irange.mp hy
  rw [Bool.eq_iff_iff, decide_eq_true_eq, decide_eq_true_eq]
  exact h y y0 (by omega)
theorem mem_atD_set {a : Dea} {x y q : Int} {d : Option Int} (x0 : 0 ≤ x) (x1 : x < a.length) : y ∈ atD (setI a x d) q ↔ 0 ≤ y ∧ y < a.length ∧ (if y = x then d = some q else gi a y = some q) := by
  rw [mem_atD, set_len]
  constructor
  · rintro ⟨h1, h2, h3⟩
    rw [gi_set x0 x1 h1] at h3
    refine ⟨h1, h2, ?_⟩
    split <;> rename_i e
    · rw [if_pos e] at h3; exact h3
    · rw [if_neg e] at h3; exact h3
  · rintro ⟨h1, h2, h3⟩
    refine ⟨h1, h2, ?_⟩
    rw [gi_set x0 x1 h1]
    split <;> rename_i e
    · rw [if_pos e] at h3; exact h3
    · rw [if_neg e] at h3; exact h3
/-- offers under way: who is held where, how many offers each has made -/
structure Off (hs : Hal) (n : Int) (ws : Wis) (fo : Dea) (at' : List Int) : Prop where
  fl : (fo.length : Int) = n
  al : (at'.length : Int) = n
  ab : ∀ x, 0 ≤ x → x < n → 0 ≤ gi at' x ∧ gi at' x ≤ (gi ws x).length
  fp : ∀ x p, 0 ≤ x → x < n → gi fo x = some p → p ∈ gi ws x ∧ (((gi ws x).idxOf p : Nat) : Int) + 1 = gi at' x
  room : ∀ p : Int, 0 ≤ p → p < hs.length → ((atD fo p).length : Int) ≤ sea hs p
  ref : ∀ x p, 0 ≤ x → x < n → p ∈ gi ws x → (((gi ws x).idxOf p : Nat) : Int) < gi at' x → gi fo x ≠ some p →
    (((atD fo p).length : Int) = sea hs p ∧ ∀ y ∈ atD fo p, rk hs p y < rk hs p x) ∧ ∀ mu, Stb hs n ws mu → gi mu x ≠ some p
theorem gi_repl {α : Type} [Inhabited α] {v : α} {xs : Wis} {x : Int} (x0 : 0 ≤ x) (x1 : x < xs.length) : gi (xs.map fun _ => v) x = v := by
  rw [gi_map (inb_of x0 x1)]
theorem Off.start (H : HOk hs n) (W : WOk hs n ws) : Off hs n ws (ws.map fun _ => none) (ws.map fun _ => 0) := by
  have wl := W.len
  have g0 : ∀ x, 0 ≤ x → x < n → gi (ws.map fun _ => (0 : Int)) x = 0 := fun x x0 x1 => gi_repl x0 (by omega)
  have gn : ∀ x, 0 ≤ x → x < n → gi (ws.map fun _ => (none : Option Int)) x = none := fun x x0 x1 => gi_repl x0 (by omega)
  refine ⟨by simpa using wl, by simpa using wl, fun x x0 x1 => by rw [g0 x x0 x1]; omega, fun x p x0 x1 e => ?_, fun p p0 p1 => ?_, fun x p x0 x1 hp h => ?_⟩
  · rw [gn x x0 x1] at e
    cases e
  · have : atD (ws.map fun _ => (none : Option Int)) p = [] := by
      rw [List.eq_nil_iff_forall_not_mem]
      intro y hy
      obtain ⟨y0, y1, e⟩ := mem_atD.mp hy
      rw [gn y y0 (by simpa using by rw [← wl]; simpa using y1)] at e
      cases e
    rw [this]
    have := (H.seat p0 p1).1
    simp only [List.length_nil]
    omega
  · rw [g0 x x0 x1] at h
    omega
/-- no stable dealing has anything better for somebody than what it holds -/
theorem Off.best {fo : Dea} {at' : List Int} (O : Off hs n ws fo at') {mu : Dea} (S : Stb hs n ws mu) {x : Int} (x0 : 0 ≤ x) (x1 : x < n) {p : Int} (e : gi fo x = some p) : spo (gi ws x) (some p) ≤ spo (gi ws x) (gi mu x) := by
  obtain ⟨h1, h2⟩ := O.fp x p x0 x1 e
  rw [spo_in h1]
  cases em : gi mu x with
  | none =>
    rw [spo_none]
    have := List.idxOf_lt_length_iff.mpr h1
    omega
  | some q =>
    have hq := S.wish x q x0 x1 em
    rw [spo_in hq]
    rcases Int.lt_or_le (((gi ws x).idxOf q : Nat) : Int) (((gi ws x).idxOf p : Nat) : Int) with h | h
    · exfalso
      have ne : gi fo x ≠ some q := fun z => by
        rw [e] at z
        cases z
        omega
      exact (O.ref x q x0 x1 hq (by omega) ne).2 mu S em
    · exact h
/-- one offer -/
theorem Off.step {fo : Dea} {at' : List Int} (H : HOk hs n) (W : WOk hs n ws) (O : Off hs n ws fo at') {x p : Int} (x0 : 0 ≤ x) (x1 : x < n) (ex : gi fo x = none) (ha : gi at' x < (gi ws x).length) (ep : p = gi (gi ws x) (gi at' x)) :
    (((atD (setI fo x (some p)) p).length : Int) ≤ sea hs p → Off hs n ws (setI fo x (some p)) (setI at' x (gi at' x + 1))) ∧
    ∀ z, ¬ ((atD (setI fo x (some p)) p).length : Int) ≤ sea hs p → z ∈ atD (setI fo x (some p)) p → (∀ y ∈ atD (setI fo x (some p)) p, rk hs p y ≤ rk hs p z) → Off hs n ws (setI (setI fo x (some p)) z none) (setI at' x (gi at' x + 1)) := by
  have fl := O.fl
  have al := O.al
  obtain ⟨a0, _⟩ := O.ab x x0 x1
  have hpw : p ∈ gi ws x := ep ▸ gi_in a0 ha
  obtain ⟨p0, p1⟩ := W.pl x0 x1 hpw
  have hidx : (((gi ws x).idxOf p : Nat) : Int) = gi at' x := by
    have hg := gi_get a0 ha
    rw [← ep] at hg
    have h2 := (List.getElem?_eq_some_iff.mp hg)
    obtain ⟨hl, e⟩ := h2
    have nd := W.nd x0 x1
    have : (gi ws x).idxOf p = (gi at' x).toNat := by
      rw [← e]
      exact List.Nodup.idxOf_getElem nd _ hl
    omega
  have ga : ∀ y, 0 ≤ y → gi (setI at' x (gi at' x + 1)) y = if y = x then gi at' x + 1 else gi at' y := fun y y0 => gi_set x0 (by omega) y0
  have gf : ∀ y, 0 ≤ y → gi (setI fo x (some p)) y = if y = x then some p else gi fo y := fun y y0 => gi_set x0 (by omega) y0
  have sl : (setI fo x (some p)).length = fo.length := set_len
  have xm : x ∈ atD (setI fo x (some p)) p := (mem_atD_set x0 (by omega)).mpr ⟨x0, by omega, by rw [if_pos rfl]⟩
  -- other places are as they were
  have oth : ∀ q, q ≠ p → atD (setI fo x (some p)) q = atD fo q := fun q hq => atD_congr sl fun y y0 _ => by
    rw [gf y y0]
    split <;> rename_i e
    · subst e
      rw [ex]
      exact ⟨fun z => absurd (Option.some.inj z).symm hq, fun z => (nomatch z)⟩
    · exact Iff.rfl
  -- those held before
  have sub : ∀ y, y ∈ atD fo p → y ∈ atD (setI fo x (some p)) p := fun y hy => by
    obtain ⟨y0, y1, e⟩ := mem_atD.mp hy
    refine mem_atD.mpr ⟨y0, by rw [sl]; exact y1, ?_⟩
    rw [gf y y0]
    split
    · rfl
    · exact e
  have sup : ∀ y, y ∈ atD (setI fo x (some p)) p → y = x ∨ y ∈ atD fo p := fun y hy => by
    obtain ⟨y0, y1, e⟩ := mem_atD.mp hy
    rw [gf y y0] at e
    by_cases h : y = x
    · exact .inl h
    · rw [if_neg h] at e
      exact .inr (mem_atD.mpr ⟨y0, by omega, e⟩)
  have xn : x ∉ atD fo p := fun h => by
    have := (mem_atD.mp h).2.2
    rw [ex] at this
    cases this
  have hlen : (atD (setI fo x (some p)) p).length = (atD fo p).length + 1 := by
    have h1 : (atD (setI fo x (some p)) p).length ≤ (x :: atD fo p).length := (atD_nd _ _).length_le_of_subset fun y hy => by
      rcases sup y hy with h | h
      · exact h ▸ List.mem_cons_self
      · exact List.mem_cons_of_mem _ h
    have h2 : (x :: atD fo p).length ≤ (atD (setI fo x (some p)) p).length := (List.nodup_cons.mpr ⟨xn, atD_nd _ _⟩).length_le_of_subset fun y hy => by
      rcases List.mem_cons.mp hy with rfl | h
      · exact xm
      · exact sub y h
    rw [List.length_cons] at h1 h2
    omega
  refine ⟨fun hle => ⟨by omega, by rw [set_len]; omega, fun y y0 y1 => ?_, fun y q y0 y1 e => ?_, fun q q0 q1 => ?_, fun y q y0 y1 hq hi hne => ?_⟩, fun z hgt hz hmax => ?_⟩
  · rw [ga y y0]
    split <;> rename_i e
    · subst e; omega
    · exact O.ab y y0 y1
  · rw [gf y y0] at e
    rw [ga y y0]
    by_cases h : y = x
    · subst h
      rw [if_pos rfl] at e ⊢
      cases e
      exact ⟨hpw, by omega⟩
    · rw [if_neg h] at e ⊢
      exact O.fp y q y0 y1 e
  · by_cases h : q = p
    · subst h; exact hle
    · rw [oth q h]; exact O.room q q0 q1
  · rw [ga y y0] at hi
    rw [gf y y0] at hne
    have hne' : gi fo y ≠ some q ∧ (((gi ws y).idxOf q : Nat) : Int) < gi at' y := by
      by_cases h : y = x
      · subst h
        rw [if_pos rfl] at hi hne
        refine ⟨by rw [ex]; exact fun z => (nomatch z), ?_⟩
        rcases Int.lt_or_le (((gi ws y).idxOf q : Nat) : Int) (gi at' y) with h | h
        · exact h
        · exfalso
          exact hne (congrArg some (idx_inj hpw hq (by omega)))
      · rw [if_neg h] at hi hne
        exact ⟨hne, hi⟩
    obtain ⟨⟨r1, r2⟩, r3⟩ := O.ref y q y0 y1 hq hne'.2 hne'.1
    refine ⟨?_, r3⟩
    by_cases h : q = p
    · subst h
      omega
    · rw [oth q h]
      exact ⟨r1, r2⟩
  · -- z is refused
    have hroom := O.room p p0 p1
    have hz' := mem_atD.mp hz
    obtain ⟨z0, z1, ez⟩ := hz'
    have z1' : z < fo.length := by omega
    have zn : z < n := by omega
    have gg : ∀ y, 0 ≤ y → gi (setI (setI fo x (some p)) z none) y = if y = z then none else gi (setI fo x (some p)) y := fun y y0 => gi_set z0 z1 y0
    have sl2 : (setI (setI fo x (some p)) z none).length = fo.length := by rw [set_len, sl]
    -- what z had: an offer to p made
    have hzp : p ∈ gi ws z ∧ (((gi ws z).idxOf p : Nat) : Int) < gi (setI at' x (gi at' x + 1)) z := by
      rw [ga z z0]
      rcases sup z hz with h | h
      · subst h
        rw [if_pos rfl]
        exact ⟨hpw, by omega⟩
      · have hzx : z ≠ x := fun e => xn (e ▸ h)
        rw [if_neg hzx]
        obtain ⟨u1, u2⟩ := O.fp z p z0 zn (mem_atD.mp h).2.2
        exact ⟨u1, by omega⟩
    have oth2 : ∀ q, q ≠ p → atD (setI (setI fo x (some p)) z none) q = atD fo q := fun q hq => by
      rw [← oth q hq]
      refine atD_congr (by rw [sl2, sl]) fun y y0 _ => ?_
      rw [gg y y0]
      split <;> rename_i e
      · subst e
        rw [ez]
        exact ⟨fun z => (nomatch z), fun z => absurd (Option.some.inj z).symm hq⟩
      · exact Iff.rfl
    have memp : ∀ y, y ∈ atD (setI (setI fo x (some p)) z none) p ↔ y ∈ atD (setI fo x (some p)) p ∧ y ≠ z := fun y => by
      rw [mem_atD, mem_atD, sl2, sl]
      constructor
      · rintro ⟨h1, h2, h3⟩
        rw [gg y h1] at h3
        by_cases e : y = z
        · rw [if_pos e] at h3; cases h3
        · rw [if_neg e] at h3; exact ⟨⟨h1, h2, h3⟩, e⟩
      · rintro ⟨⟨h1, h2, h3⟩, e⟩
        exact ⟨h1, h2, by rw [gg y h1, if_neg e]; exact h3⟩
    have len2 : (atD (setI (setI fo x (some p)) z none) p).length + 1 = (atD (setI fo x (some p)) p).length := by
      have h1 : (z :: atD (setI (setI fo x (some p)) z none) p).length ≤ (atD (setI fo x (some p)) p).length := (List.nodup_cons.mpr ⟨fun h => ((memp z).mp h).2 rfl, atD_nd _ _⟩).length_le_of_subset fun y hy => by
        rcases List.mem_cons.mp hy with rfl | h
        · exact hz
        · exact ((memp y).mp h).1
      have h2 : (atD (setI fo x (some p)) p).length ≤ (z :: atD (setI (setI fo x (some p)) z none) p).length := (atD_nd _ _).length_le_of_subset fun y hy => by
        by_cases e : y = z
        · exact e ▸ List.mem_cons_self
        · exact List.mem_cons_of_mem _ ((memp y).mpr ⟨hy, e⟩)
      rw [List.length_cons] at h1 h2
      omega
    have full : ((atD (setI (setI fo x (some p)) z none) p).length : Int) = sea hs p := by omega
    have lt : ∀ y ∈ atD (setI (setI fo x (some p)) z none) p, rk hs p y < rk hs p z := fun y hy => by
      obtain ⟨hy1, hy2⟩ := (memp y).mp hy
      have hle := hmax y hy1
      obtain ⟨y0, y1, _⟩ := mem_atD.mp hy1
      rcases Int.lt_or_le (rk hs p y) (rk hs p z) with h | h
      · exact h
      · exact absurd (H.rk_inj p0 p1 y0 (by omega) z0 zn (Int.le_antisymm hle h)) hy2
    -- no stable dealing has z at p
    have nost : ∀ mu, Stb hs n ws mu → gi mu z ≠ some p := fun mu S em => by
      have hmr := S.room p p0 p1
      have : ∃ y, y ∈ atD (setI fo x (some p)) p ∧ y ∉ atD mu p := Classical.byContradiction fun hno => by
        have : (atD (setI fo x (some p)) p).length ≤ (atD mu p).length := (atD_nd _ _).length_le_of_subset fun y hy => Classical.byContradiction fun hn => hno ⟨y, hy, hn⟩
        omega
      obtain ⟨y, hy, hny⟩ := this
      have ml := S.len
      have zmu : z ∈ atD mu p := mem_atD.mpr ⟨z0, by omega, em⟩
      have hyz : y ≠ z := fun e => hny (e ▸ zmu)
      obtain ⟨y0, y1, ey⟩ := mem_atD.mp hy
      have yn : y < n := by omega
      have hle : spo (gi ws y) (some p) ≤ spo (gi ws y) (gi mu y) := by
        rcases sup y hy with h | h
        · -- the one who offers now: all ahead of p have refused
          subst h
          rw [spo_in hpw]
          cases em2 : gi mu y with
          | none =>
            rw [spo_none]
            have := List.idxOf_lt_length_iff.mpr hpw
            omega
          | some q =>
            have hq := S.wish y q y0 yn em2
            rw [spo_in hq]
            rcases Int.lt_or_le (((gi ws y).idxOf q : Nat) : Int) (((gi ws y).idxOf p : Nat) : Int) with h | h
            · exact absurd em2 ((O.ref y q y0 yn hq (by omega) (by rw [ex]; exact fun z => (nomatch z))).2 mu S)
            · exact h
        · exact O.best S y0 yn (mem_atD.mp h).2.2
      have hne : gi mu y ≠ some p := fun e => hny (mem_atD.mpr ⟨y0, by omega, e⟩)
      have hpy : p ∈ gi ws y := by
        rcases sup y hy with h | h
        · exact h ▸ hpw
        · exact (O.fp y p y0 yn (mem_atD.mp h).2.2).1
      have hlt : spo (gi ws y) (some p) < spo (gi ws y) (gi mu y) := by
        rcases Int.lt_or_le (spo (gi ws y) (some p)) (spo (gi ws y) (gi mu y)) with h | h
        · exact h
        · exfalso
          have e := Int.le_antisymm hle h
          cases em2 : gi mu y with
          | none =>
            rw [em2, spo_none] at e
            have := spo_lt hpy
            omega
          | some q =>
            rw [em2] at e hne
            exact hne (congrArg some (spo_inj (S.wish y q y0 yn em2) hpy e.symm))
      exact S.nob y p y0 yn p0 p1 ⟨hlt, .inr ⟨z, zmu, lt y ((memp y).mpr ⟨hy, hyz⟩)⟩⟩
    refine ⟨by omega, by rw [set_len]; omega, fun y y0 y1 => ?_, fun y q y0 y1 e => ?_, fun q q0 q1 => ?_, fun y q y0 y1 hq hi hne => ?_⟩
    · rw [ga y y0]
      split <;> rename_i e
      · subst e; omega
      · exact O.ab y y0 y1
    · rw [gg y y0] at e
      by_cases hyz : y = z
      · rw [if_pos hyz] at e; cases e
      · rw [if_neg hyz, gf y y0] at e
        rw [ga y y0]
        by_cases h : y = x
        · subst h
          rw [if_pos rfl] at e ⊢
          cases e
          exact ⟨hpw, by omega⟩
        · rw [if_neg h] at e ⊢
          exact O.fp y q y0 y1 e
    · by_cases h : q = p
      · subst h; omega
      · rw [oth2 q h]; exact O.room q q0 q1
    · by_cases hqz : q = p ∧ y = z
      · obtain ⟨rfl, rfl⟩ := hqz
        exact ⟨⟨full, lt⟩, nost⟩
      · -- an older refusal
        have hold : gi fo y ≠ some q ∧ (((gi ws y).idxOf q : Nat) : Int) < gi at' y := by
          rw [ga y y0] at hi
          rw [gg y y0] at hne
          by_cases hyx : y = x
          · subst hyx
            rw [if_pos rfl] at hi
            refine ⟨by rw [ex]; exact fun z => (nomatch z), ?_⟩
            rcases Int.lt_or_le (((gi ws y).idxOf q : Nat) : Int) (gi at' y) with h | h
            · exact h
            · exfalso
              have e : p = q := idx_inj hpw hq (by omega)
              by_cases hyz : y = z
              · exact hqz ⟨e.symm, hyz⟩
              · rw [if_neg hyz, gf y y0, if_pos rfl] at hne
                exact hne (congrArg some e)
          · rw [if_neg hyx] at hi
            refine ⟨fun e => ?_, hi⟩
            by_cases hyz : y = z
            · subst hyz
              rw [gf y y0, if_neg hyx] at ez
              rw [ez] at e
              exact hqz ⟨(Option.some.inj e).symm, rfl⟩
            · rw [if_neg hyz, gf y y0, if_neg hyx] at hne
              exact hne e
        obtain ⟨⟨r1, r2⟩, r3⟩ := O.ref y q y0 y1 hq hold.2 hold.1
        refine ⟨?_, r3⟩
        by_cases h : q = p
        · subst h
          refine ⟨full, fun u hu => ?_⟩
          obtain ⟨hu1, hu2⟩ := (memp u).mp hu
          -- everybody held is ranked ahead of y: the old ones were, the new one stays only if ranked ahead of z
          have hut := lt u hu
          rcases sup u hu1 with hux | huo
          · subst hux
            rcases sup z hz with hzx | hzo
            · exact absurd hzx.symm hu2
            · have := r2 z hzo
              omega
          · exact r2 u huo
        · rw [oth2 q h]
          exact ⟨r1, r2⟩
/-- nobody is free any more -/
theorem Off.done {fo : Dea} {at' : List Int} (W : WOk hs n ws) (O : Off hs n ws fo at') (h : ∀ x, 0 ≤ x → x < n → gi fo x = none → gi at' x = (gi ws x).length) :
    Stb hs n ws fo ∧ ∀ mu, Stb hs n ws mu → ∀ x, 0 ≤ x → x < n → spo (gi ws x) (gi fo x) ≤ spo (gi ws x) (gi mu x) := by
  refine ⟨⟨⟨O.fl, fun x p x0 x1 e => (O.fp x p x0 x1 e).1, O.room⟩, fun x p x0 x1 p0 p1 ⟨hb, he⟩ => ?_⟩, fun mu S x x0 x1 => ?_⟩
  · have hpw : p ∈ gi ws x := spo_better hb fun q e => (O.fp x q x0 x1 e).1
    have hne : gi fo x ≠ some p := fun e => by rw [e] at hb; omega
    have hi : (((gi ws x).idxOf p : Nat) : Int) < gi at' x := by
      rw [spo_in hpw] at hb
      cases e : gi fo x with
      | none =>
        rw [h x x0 x1 e]
        have := List.idxOf_lt_length_iff.mpr hpw
        omega
      | some q =>
        obtain ⟨u1, u2⟩ := O.fp x q x0 x1 e
        rw [e, spo_in u1] at hb
        omega
    obtain ⟨⟨r1, r2⟩, _⟩ := O.ref x p x0 x1 hpw hi hne
    rcases he with he | ⟨y, hy, hr⟩
    · omega
    · have := r2 y hy
      omega
  · cases e : gi fo x with
    | some p => exact O.best S x0 x1 e
    | none =>
      cases em : gi mu x with
      | none => exact Int.le_refl _
      | some q =>
        exfalso
        have hq := S.wish x q x0 x1 em
        have := List.idxOf_lt_length_iff.mpr hq
        exact (O.ref x q x0 x1 hq (by rw [h x x0 x1 e]; omega) (by rw [e]; exact fun z => (nomatch z))).2 mu S em
/-- nobody has anything better in another stable dealing -/
structure PBest (hs : Hal) (n : Int) (ws : Wis) (dl : Dea) : Prop extends Stb hs n ws dl where
  best : ∀ mu, Stb hs n ws mu → ∀ x, 0 ≤ x → x < n → spo (gi ws x) (gi dl x) ≤ spo (gi ws x) (gi mu x)
theorem spo_eq {w : List Int} {a b : Option Int} (ha : ∀ p, a = some p → p ∈ w) (hb : ∀ p, b = some p → p ∈ w) (e : spo w a = spo w b) : a = b := by
  cases a with
  | none =>
    cases b with
    | none => rfl
    | some q => rw [spo_none] at e; have := spo_lt (hb q rfl); omega
  | some p =>
    cases b with
    | none => rw [spo_none] at e; have := spo_lt (ha p rfl); omega
    | some q => exact congrArg some (spo_inj (ha p rfl) (hb q rfl) e)
theorem PBest.uniq {a b : Dea} (A : PBest hs n ws a) (B : PBest hs n ws b) : a = b := by
  have l1 := A.len
  have l2 := B.len
  refine list_ext_gi (by omega) fun x x0 x1 => ?_
  have x1 : x < n := by omega
  exact spo_eq (fun p e => A.wish x p x0 x1 e) (fun p e => B.wish x p x0 x1 e) (Int.le_antisymm (A.best b B.toStb x x0 x1) (B.best a A.toStb x x0 x1))
/-- the last of those of an order of whom something holds -/
theorem last_idx {q : Int → Bool} : ∀ {o : List Int} (h : o.filter q ≠ []), o.Nodup → ∀ y ∈ o.filter q, o.idxOf y ≤ o.idxOf ((o.filter q).getLast h)
  | [], h, _, _, _ => absurd rfl h
  | a :: t, h, nd, y, hy => by
    obtain ⟨n1, n2⟩ := List.nodup_cons.mp nd
    by_cases ht : t.filter q = []
    · by_cases ha : q a = true
      · have e : (a :: t).filter q = [a] := by rw [List.filter_cons_of_pos ha, ht]
        have : y = a := by rw [e] at hy; simpa using hy
        subst this
        simp only [e, List.getLast_singleton]
        exact Nat.le_refl _
      · exfalso
        exact h (by rw [List.filter_cons_of_neg ha, ht])
    · have el : ((a :: t).filter q).getLast h = (t.filter q).getLast ht := by
        by_cases ha : q a = true
        · simp only [List.filter_cons_of_pos ha]
          exact List.getLast_cons ht
        · simp only [List.filter_cons_of_neg ha]
      rw [el]
      have hz := (List.mem_filter.mp (List.getLast_mem ht)).1
      have hza : (t.filter q).getLast ht ≠ a := fun e => n1 (e ▸ hz)
      by_cases hya : y = a
      · subst hya
        rw [List.idxOf_cons_self]
        exact Nat.zero_le _
      · have hyt : y ∈ t.filter q := by
          obtain ⟨h1, h2⟩ := List.mem_filter.mp hy
          rcases List.mem_cons.mp h1 with e | h1
          · exact absurd e hya
          · exact List.mem_filter.mpr ⟨h1, h2⟩
        have ic : ∀ u, u ≠ a → (a :: t).idxOf u = t.idxOf u + 1 := fun u hu => by
          rw [List.idxOf_cons]
          have : (a == u) = false := by simpa using Ne.symm hu
          rw [this]
          rfl
        rw [ic y hya, ic _ hza]
        exact Nat.succ_le_succ (last_idx ht n2 y hyt)
theorem gi_m1 {α : Type} [Inhabited α] {l : List α} (h : l ≠ []) : gi l (-1) = l.getLast h := by
  have h0 := List.length_pos_iff.mpr h
  unfold gi atI ixN
  rw [if_neg (by omega), if_pos (by omega)]
  show (l[((-1 : Int) + l.length).toNat]?).getD default = _
  rw [show ((-1 : Int) + l.length).toNat = l.length - 1 by omega, List.getElem?_eq_getElem (by omega), List.getLast_eq_getElem]
  rfl
theorem inb_m1 {α : Type} {l : List α} (h : l ≠ []) : inb l.length (-1) := by
  have := List.length_pos_iff.mpr h
  exact ⟨by omega, by omega⟩
theorem worst_ok {dl : Dea} {p : Int} (H : HOk hs n) (hl : (dl.length : Int) = n) (p0 : 0 ≤ p) (p1 : p < hs.length) (hne : atD dl p ≠ []) :
    ((odr hs p).filter fun one => decide (one ∈ atD dl p)) ≠ [] ∧ gi ((odr hs p).filter fun one => decide (one ∈ atD dl p)) (-1) ∈ atD dl p ∧ ∀ y ∈ atD dl p, rk hs p y ≤ rk hs p (gi ((odr hs p).filter fun one => decide (one ∈ atD dl p)) (-1)) := by
  have mem : ∀ y, y ∈ atD dl p → y ∈ (odr hs p).filter fun one => decide (one ∈ atD dl p) := fun y hy => by
    obtain ⟨y0, y1, _⟩ := mem_atD.mp hy
    exact List.mem_filter.mpr ⟨(H.in_od p0 p1).mpr ⟨y0, by omega⟩, decide_eq_true hy⟩
  have hf : ((odr hs p).filter fun one => decide (one ∈ atD dl p)) ≠ [] := fun e => by
    obtain ⟨y, hy⟩ := List.exists_mem_of_ne_nil _ hne
    have := mem y hy
    rw [e] at this
    cases this
  refine ⟨hf, ?_, fun y hy => ?_⟩
  · rw [gi_m1 hf]
    exact of_decide_eq_true (List.mem_filter.mp (List.getLast_mem hf)).2
  · rw [gi_m1 hf]
    have := last_idx hf (H.od_nd p0 p1) y (mem y hy)
    unfold rk
    omega
/-- what people can still offer -/
def rest (n : Int) (ws : Wis) (at' : List Int) : Int := ((irange 0 n).map fun x => ((gi ws x).length : Int) - gi at' x).sum
theorem sum_upd {f g : Int → Int} {x d : Int} : ∀ {xs : List Int}, xs.Nodup → x ∈ xs → f x = g x + d → (∀ y ∈ xs, y ≠ x → f y = g y) → (xs.map f).sum = (xs.map g).sum + d
  | [], _, h, _, _ => (nomatch h)
  | y :: ys, nd, hx, he, ho => by
    obtain ⟨n1, n2⟩ := List.nodup_cons.mp nd
    rw [List.map_cons, List.map_cons, List.sum_cons, List.sum_cons]
    rcases List.mem_cons.mp hx with rfl | h
    · have : ys.map f = ys.map g := List.map_congr_left fun z hz => ho z (List.mem_cons_of_mem _ hz) fun e => n1 (e ▸ hz)
      rw [this, he]
      omega
    · have hyx : y ≠ x := fun e => n1 (e ▸ h)
      rw [sum_upd n2 h he fun z hz => ho z (List.mem_cons_of_mem _ hz), ho y List.mem_cons_self hyx]
      omega
theorem rest_step {at' : List Int} (hl : (at'.length : Int) = n) {x : Int} (x0 : 0 ≤ x) (x1 : x < n) : rest n ws at' = rest n ws (setI at' x (gi at' x + 1)) + 1 := by
  unfold rest
  refine sum_upd (irange_nodup 0 n) (mem_irange.mpr ⟨x0, x1⟩) ?_ fun y hy hne => ?_
  · rw [gi_set x0 (by omega) x0, if_pos rfl]
    omega
  · rw [gi_set x0 (by omega) (mem_irange.mp hy).1, if_neg hne]
theorem sum_nonneg : ∀ {xs : List Int}, (∀ y ∈ xs, 0 ≤ y) → 0 ≤ xs.sum
  | [], _ => by simp
  | y :: ys, h => by
    have := sum_nonneg fun z hz => h z (List.mem_cons_of_mem _ hz)
    have := h y List.mem_cons_self
    rw [List.sum_cons]
    omega
theorem rest_0 {fo : Dea} {at' : List Int} (O : Off hs n ws fo at') : 0 ≤ rest n ws at' := by
  refine sum_nonneg fun y hy => ?_
  obtain ⟨x, hx, rfl⟩ := List.mem_map.mp hy
  obtain ⟨x0, x1⟩ := mem_irange.mp hx
  have := O.ab x x0 x1
  omega
end
end LW
/-! MT3: the greatest of pairs. -/
namespace LW
open PySem PySem.Spec PyProof.Rows L2 DL TL
theorem maxOf_ok (x : PI) : ∀ xs : List PI, PySem.W.maxOf x xs ∈ x :: xs ∧ ∀ q ∈ x :: xs, q.1 ≤ (PySem.W.maxOf x xs).1 := fun xs => by
  induction xs generalizing x with
  | nil => exact ⟨by simp [PySem.W.maxOf], fun q hq => by
      rw [List.mem_singleton.mp hq]
      exact Int.le_refl _⟩
  | cons y ys ih =>
    have e : PySem.W.maxOf x (y :: ys) = PySem.W.maxOf (if PySem.W.DatumOrd.lt x y = true then y else x) ys := rfl
    rw [e]
    have hl : PySem.W.DatumOrd.lt x y = if x.1 = y.1 then decide (x.2 < y.2) else decide (x.1 < y.1) := rfl
    by_cases h : PySem.W.DatumOrd.lt x y = true
    · rw [if_pos h]
      have hxy : x.1 ≤ y.1 := by
        rw [hl] at h
        split at h
        · omega
        · have := of_decide_eq_true h
          omega
      obtain ⟨h1, h2⟩ := ih y
      refine ⟨List.mem_cons_of_mem _ h1, fun q hq => ?_⟩
      rcases List.mem_cons.mp hq with rfl | hq
      · exact Int.le_trans hxy (h2 y List.mem_cons_self)
      · exact h2 q hq
    · rw [if_neg h]
      have hxy : y.1 ≤ x.1 := by
        rw [hl] at h
        split at h
        · omega
        · have : ¬ x.1 < y.1 := fun z => h (decide_eq_true z)
          omega
      obtain ⟨h1, h2⟩ := ih x
      refine ⟨?_, fun q hq => ?_⟩
      · rcases List.mem_cons.mp h1 with h | h
        · rw [h]
          exact List.mem_cons_self
        · exact List.mem_cons_of_mem _ (List.mem_cons_of_mem _ h)
      · rcases List.mem_cons.mp hq with rfl | hq
        · exact h2 q List.mem_cons_self
        · rcases List.mem_cons.mp hq with rfl | hq
          · exact Int.le_trans hxy (h2 x List.mem_cons_self)
          · exact h2 q (List.mem_cons_of_mem _ hq)
theorem maxP_mem {ps : List PI} (h : ps ≠ []) : maxP ps ∈ ps := by
  cases ps with
  | nil => exact absurd rfl h
  | cons p ps => exact (maxOf_ok p ps).1
theorem maxP_le {ps : List PI} : ∀ q ∈ ps, q.1 ≤ (maxP ps).1 := by
  cases ps with
  | nil => intro q h; cases h
  | cons p ps => exact (maxOf_ok p ps).2
theorem maxP_2 {f : Int → Int} {xs : List Int} (h : xs ≠ []) : (maxP (xs.map fun x => (f x, x))).2 ∈ xs ∧ ∀ y ∈ xs, f y ≤ f (maxP (xs.map fun x => (f x, x))).2 := by
  have hne : (xs.map fun x => (f x, x)) ≠ [] := by simpa using h
  have hm := maxP_mem hne
  have hle := @maxP_le (xs.map fun x => (f x, x))
  generalize maxP (xs.map fun x => (f x, x)) = q at hm hle
  obtain ⟨z, hz, rfl⟩ := List.mem_map.mp hm
  exact ⟨hz, fun y hy => hle (f y, y) (List.mem_map_of_mem (f := fun x => (f x, x)) hy)⟩
/-! ### offers, by turns: who is free -/
structure OffI (hs : Hal) (n : Int) (ws : Wis) (k : Nat) (fo : Dea) (at' fr : List Int) : Prop where
  O : Off hs n ws fo at'
  nd : fr.Nodup
  hfr : ∀ x ∈ fr, (0 ≤ x ∧ x < n) ∧ gi fo x = none
  hno : ∀ x, 0 ≤ x → x < n → gi fo x = none → x ∈ fr ∨ gi at' x = (gi ws x).length
  hm : (k : Int) = 2 * rest n ws at' + fr.length
section
variable {hs : Hal} {n : Int} {ws : Wis} {k : Nat} {fo : Dea} {at' fr fd : List Int} {x : Int}
theorem OffI.start (H : HOk hs n) (W : WOk hs n ws) : ∃ k, OffI hs n ws k (ws.map fun _ => none) (ws.map fun _ => 0) (irange 0 (ws.length : Int)) := by
  have wl := W.len
  have O := Off.start H W
  refine ⟨(2 * rest n ws (ws.map fun _ => 0) + ((irange 0 (ws.length : Int)).length : Int)).toNat, O, irange_nodup _ _, fun x hx => ?_, fun x x0 x1 _ => .inl (mem_irange.mpr ⟨x0, by omega⟩), ?_⟩
  · obtain ⟨x0, x1⟩ := mem_irange.mp hx
    exact ⟨⟨x0, by omega⟩, gi_repl x0 (by omega)⟩
  · have := rest_0 O
    show ((2 * rest n ws (ws.map fun _ => 0) + ((irange 0 (ws.length : Int)).length : Int)).toNat : Int) = 2 * rest n ws (ws.map fun _ => 0) + ((irange 0 (ws.length : Int)).length : Int)
    omega
theorem OffI.done (W : WOk hs n ws) (I : OffI hs n ws k fo at' []) : PBest hs n ws fo := by
  obtain ⟨S, B⟩ := I.O.done W fun x x0 x1 e => (I.hno x x0 x1 e).resolve_left (fun z => (nomatch z))
  exact ⟨S, B⟩
theorem last_split {fr : List Int} (hn : fr ≠ []) : fr = fr.dropLast ++ [gi fr (-1)] := by
  rw [gi_m1 hn]
  exact (List.dropLast_concat_getLast hn).symm
theorem OffI.rng (I : OffI hs n ws k fo at' (fd ++ [x])) : (0 ≤ x ∧ x < n) ∧ gi fo x = none := I.hfr x (by simp)
theorem OffI.fdl (I : OffI hs n ws k fo at' fr) (h40 : n ≤ 40) : fr.length ≤ 40 := by
  have := nodup_le (m := n.toNat) I.nd fun p hp => by
    have := (I.hfr p hp).1
    omega
  omega
theorem OffI.skip (I : OffI hs n ws k fo at' (fd ++ [x])) (ha : gi at' x = (gi ws x).length) : ∃ m, m < k ∧ OffI hs n ws m fo at' fd := by
  obtain ⟨O, nd, hfr, hno, hm⟩ := I
  obtain ⟨nd1, _, nd3⟩ := List.nodup_append.mp nd
  have r0 := rest_0 O
  rw [List.length_append, List.length_singleton] at hm
  refine ⟨k - 1, by omega, O, nd1, fun y hy => hfr y (List.mem_append_left _ hy), fun y y0 y1 e => ?_, ?_⟩
  · rcases hno y y0 y1 e with h | h
    · rcases List.mem_append.mp h with h | h
      · exact .inl h
      · obtain rfl := List.mem_singleton.mp h
        exact .inr ha
    · exact .inr h
  · show ((k - 1 : Nat) : Int) = 2 * rest n ws at' + (fd.length : Int)
    omega
theorem OffI.take (H : HOk hs n) (W : WOk hs n ws) (I : OffI hs n ws k fo at' (fd ++ [x])) (ha : gi at' x < (gi ws x).length) {p : Int} (hp : gi (gi ws x) (gi at' x) = p) :
    (p ∈ gi ws x ∧ 0 ≤ p ∧ p < hs.length) ∧ x ∈ atD (setI fo x (some p)) p ∧
    (((atD (setI fo x (some p)) p).length : Int) ≤ sea hs p → ∃ m, m < k ∧ OffI hs n ws m (setI fo x (some p)) (setI at' x (gi at' x + 1)) fd) ∧
    ∀ z, ¬ ((atD (setI fo x (some p)) p).length : Int) ≤ sea hs p → z ∈ atD (setI fo x (some p)) p → (∀ y ∈ atD (setI fo x (some p)) p, rk hs p y ≤ rk hs p z) →
      (0 ≤ z ∧ z < n) ∧ ∃ m, m < k ∧ OffI hs n ws m (setI (setI fo x (some p)) z none) (setI at' x (gi at' x + 1)) (fd ++ [z]) := by
  obtain ⟨O, nd, hfr, hno, hm⟩ := I
  obtain ⟨nd1, _, nd3⟩ := List.nodup_append.mp nd
  have xfd : x ∉ fd := fun h => nd3 x h x (List.mem_singleton.mpr rfl) rfl
  obtain ⟨⟨x0, x1⟩, ex⟩ := hfr x (by simp)
  have fl := O.fl
  have al := O.al
  obtain ⟨a0, a1⟩ := O.ab x x0 x1
  have r0 := rest_0 O
  rw [List.length_append, List.length_singleton] at hm
  have hpw : p ∈ gi ws x := hp ▸ gi_in a0 ha
  obtain ⟨p0, p1⟩ := W.pl x0 x1 hpw
  obtain ⟨st1, st2⟩ := O.step H W x0 x1 ex ha hp.symm
  have rs := rest_step (ws := ws) al x0 x1
  have ga : ∀ y, 0 ≤ y → gi (setI at' x (gi at' x + 1)) y = if y = x then gi at' x + 1 else gi at' y := fun y y0 => gi_set x0 (by omega) y0
  have gf : ∀ y, 0 ≤ y → gi (setI fo x (some p)) y = if y = x then some p else gi fo y := fun y y0 => gi_set x0 (by omega) y0
  have sl : (setI fo x (some p)).length = fo.length := set_len
  have xm : x ∈ atD (setI fo x (some p)) p := (mem_atD_set x0 (by omega)).mpr ⟨x0, by omega, by rw [if_pos rfl]⟩
  refine ⟨⟨hpw, p0, p1⟩, xm, fun hf => ?_, fun z hf' w2 w3 => ?_⟩
  · have O2 := st1 hf
    have r2 := rest_0 O2
    refine ⟨(2 * rest n ws (setI at' x (gi at' x + 1)) + (fd.length : Int)).toNat, by omega, O2, nd1, fun y hy => ?_, fun y y0 y1 e => ?_, ?_⟩
    · obtain ⟨y2, e⟩ := hfr y (List.mem_append_left _ hy)
      refine ⟨y2, ?_⟩
      rw [gf y y2.1, if_neg fun (e : y = x) => xfd (e ▸ hy)]
      exact e
    · rw [gf y y0] at e
      rw [ga y y0]
      by_cases hyx : y = x
      · rw [if_pos hyx] at e; cases e
      · rw [if_neg hyx] at e ⊢
        rcases hno y y0 y1 e with h | h
        · rcases List.mem_append.mp h with h | h
          · exact .inl h
          · exact absurd (List.mem_singleton.mp h) hyx
        · exact .inr h
    · have := rest_0 O2
      show ((2 * rest n ws (setI at' x (gi at' x + 1)) + (fd.length : Int)).toNat : Int) = 2 * rest n ws (setI at' x (gi at' x + 1)) + (fd.length : Int)
      omega
  · have O2 := st2 z hf' w2 w3
    obtain ⟨z0, z1, ez⟩ := mem_atD.mp w2
    have zn : z < n := by omega
    have gg : ∀ y, 0 ≤ y → gi (setI (setI fo x (some p)) z none) y = if y = z then none else gi (setI fo x (some p)) y := fun y y0 => gi_set z0 z1 y0
    have zfd : z ∉ fd := fun h => by
      have e := (hfr z (List.mem_append_left _ h)).2
      rw [gf z z0] at ez
      have hzx : z ≠ x := fun e => xfd (e ▸ h)
      rw [if_neg hzx, e] at ez
      cases ez
    have r2 := rest_0 O2
    refine ⟨⟨z0, zn⟩, (2 * rest n ws (setI at' x (gi at' x + 1)) + ((fd ++ [z]).length : Int)).toNat, ?_, O2, ?_, fun y hy => ?_, fun y y0 y1 e => ?_, ?_⟩
    · rw [List.length_append, List.length_singleton]
      omega
    · exact List.nodup_append.mpr ⟨nd1, by simp, fun a ha b hb => by
        obtain rfl := List.mem_singleton.mp hb
        exact fun e => zfd (e ▸ ha)⟩
    · rcases List.mem_append.mp hy with h | h
      · obtain ⟨y2, e⟩ := hfr y (List.mem_append_left _ h)
        refine ⟨y2, ?_⟩
        rw [gg y y2.1]
        split
        · rfl
        · rw [gf y y2.1, if_neg fun (e : y = x) => xfd (e ▸ h)]
          exact e
      · obtain rfl := List.mem_singleton.mp h
        exact ⟨⟨z0, zn⟩, by rw [gg y z0, if_pos rfl]⟩
    · rw [gg y y0] at e
      rw [ga y y0]
      by_cases hyz : y = z
      · exact .inl (List.mem_append_right _ (List.mem_singleton.mpr hyz))
      · rw [if_neg hyz, gf y y0] at e
        by_cases hyx : y = x
        · rw [if_pos hyx] at e; cases e
        · rw [if_neg hyx] at e ⊢
          rcases hno y y0 y1 e with h | h
          · rcases List.mem_append.mp h with h | h
            · exact .inl (List.mem_append_left _ h)
            · exact absurd (List.mem_singleton.mp h) hyx
          · exact .inr h
    · have := rest_0 O2
      show ((2 * rest n ws (setI at' x (gi at' x + 1)) + ((fd ++ [z]).length : Int)).toNat : Int) = 2 * rest n ws (setI at' x (gi at' x + 1)) + ((fd ++ [z]).length : Int)
      omega
theorem repl_map {α : Type} {v : α} : ∀ ws : Wis, List.replicate ws.length v = ws.map fun _ => v
  | [] => rfl
  | w :: ws => by rw [List.length_cons, List.replicate_succ, repl_map ws]; rfl
/-- as the package asks who is at a place -/
theorem enum_at (dl : Dea) (p : Int) : ((enumI dl).filter fun (z : Int × Option Int) => decide (z.2 = some p)).map (fun (z : Int × Option Int) => z.1) = atD dl p := by
  rw [enumI_eq, List.filter_map, List.map_map]
  show List.map (fun i => i) _ = _
  rw [List.map_id']
  rfl
end
end LW
/-! MT4: offers that go on when lists grow. -/
namespace LW
open PySem PySem.Spec PyProof.Rows L2 DL TL
/-- alike up to the pointers -/
def Agr (n : Int) (a b : Wis) (at' : List Int) : Prop := ∀ x, 0 ≤ x → x < n → gi at' x ≤ (gi b x).length ∧ (gi b x).take (gi at' x).toNat = (gi a x).take (gi at' x).toNat
theorem take_le {α : Type} {l m : List α} {a b : Nat} (h : l.take b = m.take b) (hab : a ≤ b) : l.take a = m.take a := by
  have := congrArg (List.take a) h
  rwa [List.take_take, List.take_take, Nat.min_eq_left hab] at this
theorem take_at {l m : List Int} {a : Nat} (h : l.take (a + 1) = m.take (a + 1)) : l[a]? = m[a]? := by
  have := congrArg (fun z => z[a]?) h
  simpa [List.getElem?_take] using this
structure OffJ (hs : Hal) (n : Int) (ws : Wis) (k : Nat) (fo : Dea) (at' fr : List Int) : Prop extends OffI hs n ws k fo at' fr where
  E : ∀ ls, WOk hs n ls → Agr n ws ls at' → Off hs n ls fo at'
section
variable {hs : Hal} {n : Int} {ws : Wis} {k : Nat} {fo : Dea} {at' fr fd : List Int} {x : Int}
theorem OffJ.start (H : HOk hs n) (W : WOk hs n ws) : ∃ k, OffJ hs n ws k (ws.map fun _ => none) (ws.map fun _ => 0) (irange 0 (ws.length : Int)) := by
  obtain ⟨k, I⟩ := OffI.start H W
  refine ⟨k, I, fun ls V _ => ?_⟩
  have e : ls.length = ws.length := by
    have := W.len
    have := V.len
    omega
  rw [← repl_map, ← repl_map, ← e, repl_map, repl_map]
  exact Off.start H V
theorem OffJ.skip (I : OffJ hs n ws k fo at' (fd ++ [x])) (ha : gi at' x = (gi ws x).length) : ∃ m, m < k ∧ OffJ hs n ws m fo at' fd := by
  obtain ⟨m, hm, J⟩ := I.toOffI.skip ha
  exact ⟨m, hm, J, I.E⟩
theorem OffJ.take (H : HOk hs n) (W : WOk hs n ws) (I : OffJ hs n ws k fo at' (fd ++ [x])) (ha : gi at' x < (gi ws x).length) {p : Int} (hp : gi (gi ws x) (gi at' x) = p) :
    (p ∈ gi ws x ∧ 0 ≤ p ∧ p < hs.length) ∧ x ∈ atD (setI fo x (some p)) p ∧
    (((atD (setI fo x (some p)) p).length : Int) ≤ sea hs p → ∃ m, m < k ∧ OffJ hs n ws m (setI fo x (some p)) (setI at' x (gi at' x + 1)) fd) ∧
    ∀ z, ¬ ((atD (setI fo x (some p)) p).length : Int) ≤ sea hs p → z ∈ atD (setI fo x (some p)) p → (∀ y ∈ atD (setI fo x (some p)) p, rk hs p y ≤ rk hs p z) →
      (0 ≤ z ∧ z < n) ∧ ∃ m, m < k ∧ OffJ hs n ws m (setI (setI fo x (some p)) z none) (setI at' x (gi at' x + 1)) (fd ++ [z]) := by
  obtain ⟨h1, h2, h3, h4⟩ := I.toOffI.take H W ha hp
  obtain ⟨⟨x0, x1⟩, ex⟩ := I.rng
  have al := I.O.al
  obtain ⟨a0, _⟩ := I.O.ab x x0 x1
  have ga : ∀ y, 0 ≤ y → gi (setI at' x (gi at' x + 1)) y = if y = x then gi at' x + 1 else gi at' y := fun y y0 => gi_set x0 (by omega) y0
  have key : ∀ ls, WOk hs n ls → Agr n ws ls (setI at' x (gi at' x + 1)) → Agr n ws ls at' ∧ gi at' x < (gi ls x).length ∧ p = gi (gi ls x) (gi at' x) := fun ls V A => by
    have hx := A x x0 x1
    rw [ga x x0, if_pos rfl] at hx
    have e1 : (gi at' x + 1).toNat = (gi at' x).toNat + 1 := by omega
    rw [e1] at hx
    refine ⟨fun y y0 y1 => ?_, by omega, ?_⟩
    · by_cases hy : y = x
      · subst hy
        exact ⟨by omega, take_le hx.2 (Nat.le_succ _)⟩
      · have := A y y0 y1
        rw [ga y y0, if_neg hy] at this
        exact this
    · have e2 := take_at hx.2
      rw [gi_get a0 (by omega), gi_get a0 ha] at e2
      rw [← hp]
      exact (Option.some.inj e2).symm
  refine ⟨h1, h2, fun hf => ?_, fun z hf w2 w3 => ?_⟩
  · obtain ⟨m, hm, J⟩ := h3 hf
    refine ⟨m, hm, J, fun ls V A => ?_⟩
    obtain ⟨A', hl, hp'⟩ := key ls V A
    exact (Off.step H V (I.E ls V A') x0 x1 ex hl hp').1 hf
  · obtain ⟨hz, m, hm, J⟩ := h4 z hf w2 w3
    refine ⟨hz, m, hm, J, fun ls V A => ?_⟩
    obtain ⟨A', hl, hp'⟩ := key ls V A
    exact (Off.step H V (I.E ls V A') x0 x1 ex hl hp').2 z hf w2 w3
/-- going on with other lists, alike up to the pointers -/
theorem OffJ.go (I : OffJ hs n ws k fo at' fr) {ls : Wis} (V : WOk hs n ls) (A : Agr n ws ls at') {fs : List Int} (nd : fs.Nodup) (hf : ∀ x ∈ fs, (0 ≤ x ∧ x < n) ∧ gi fo x = none) (hno : ∀ x, 0 ≤ x → x < n → gi fo x = none → x ∈ fs ∨ gi at' x = (gi ls x).length) : ∃ k, OffJ hs n ls k fo at' fs := by
  have O := I.E ls V A
  have r0 := rest_0 O
  refine ⟨(2 * rest n ls at' + (fs.length : Int)).toNat, ⟨O, nd, hf, hno, by omega⟩, fun ms M B => I.E ms M fun x x0 x1 => ?_⟩
  obtain ⟨b1, b2⟩ := B x x0 x1
  exact ⟨b1, b2.trans (A x x0 x1).2⟩
/-- nobody would be let in: the dealing is the best -/
theorem OffI.best (H : HOk hs n) (W : WOk hs n ws) (S : Stb hs n ws fo) : ∀ (k : Nat) {at' fr : List Int}, OffI hs n ws k fo at' fr → PBest hs n ws fo := fun k => by
  induction k using Nat.strongRecOn with
  | _ k ih =>
    intro at' fr I
    by_cases hn : fr = []
    · subst hn
      exact I.done W
    · have hdl := last_split hn
      generalize gi fr (-1) = x at hdl
      generalize fr.dropLast = fd at hdl
      subst hdl
      obtain ⟨⟨x0, x1⟩, ex⟩ := I.rng
      have fl := I.O.fl
      obtain ⟨a0, a1⟩ := I.O.ab x x0 x1
      by_cases ha : gi at' x < (gi ws x).length
      · obtain ⟨⟨hpw, p0, p1⟩, xm, _, t2⟩ := I.take H W ha rfl
        generalize gi (gi ws x) (gi at' x) = p at hpw p0 p1 xm t2
        have hb : ¬ Blk hs ws fo x p := S.nob x p x0 x1 p0 p1
        have hspo : spo (gi ws x) (some p) < spo (gi ws x) (gi fo x) := by
          rw [ex, spo_none]
          exact spo_lt hpw
        have he : ¬ Ent hs fo x p := fun h => hb ⟨hspo, h⟩
        have gf : ∀ y, 0 ≤ y → gi (setI fo x (some p)) y = if y = x then some p else gi fo y := fun y y0 => gi_set x0 (by omega) y0
        have sl : (setI fo x (some p)).length = fo.length := set_len
        have sup : ∀ y, y ∈ atD (setI fo x (some p)) p ↔ y = x ∨ y ∈ atD fo p := fun y => by
          constructor
          · intro hy
            obtain ⟨y0, y1, e⟩ := mem_atD.mp hy
            rw [gf y y0] at e
            by_cases h : y = x
            · exact .inl h
            · rw [if_neg h] at e
              exact .inr (mem_atD.mpr ⟨y0, by omega, e⟩)
          · rintro (rfl | hy)
            · exact xm
            · obtain ⟨y0, y1, e⟩ := mem_atD.mp hy
              refine mem_atD.mpr ⟨y0, by omega, ?_⟩
              rw [gf y y0]
              split
              · rfl
              · exact e
        have xn : x ∉ atD fo p := fun h => by
          have := (mem_atD.mp h).2.2
          rw [ex] at this
          cases this
        have lgt : (x :: atD fo p).length ≤ (atD (setI fo x (some p)) p).length := (List.nodup_cons.mpr ⟨xn, atD_nd _ _⟩).length_le_of_subset fun y hy => (sup y).mpr (List.mem_cons.mp hy)
        have full : ¬ ((atD fo p).length : Int) < sea hs p := fun h => he (.inl h)
        rw [List.length_cons] at lgt
        obtain ⟨_, m, hm, J⟩ := t2 x (by omega) xm fun y hy => by
          rcases (sup y).mp hy with rfl | hy
          · exact Int.le_refl _
          · rcases Int.lt_or_le (rk hs p x) (rk hs p y) with h | h
            · exact absurd (.inr ⟨y, hy, h⟩) he
            · exact h
        have e : setI (setI fo x (some p)) x none = fo := by
          refine list_ext_gi (by rw [set_len, set_len]) fun y y0 y1 => ?_
          rw [set_len, set_len] at y1
          rw [gi_set x0 (by rw [set_len]; omega) y0]
          split
          · rename_i h
            rw [h, ex]
          · rename_i h
            rw [gf y y0, if_neg h]
        rw [e] at J
        exact ih m hm J
      · obtain ⟨m, hm, J⟩ := I.skip (by omega)
        exact ih m hm J
end
end LW
/-! MT5: lists cut short. -/
namespace LW
open PySem PySem.Spec PyProof.Rows L2 DL TL
section
variable {hs : Hal} {n : Int} {ws : Wis} {k : Nat} {fo : Dea} {at' fr fd : List Int} {x : Int}
theorem irange_get {a b x : Int} {i : Nat} (h : (irange a b)[i]? = some x) : x = a + (i : Int) := by
  unfold irange at h
  rw [List.getElem?_map] at h
  cases e : (List.range (b - a).toNat)[i]? with
  | none => rw [e] at h; cases h
  | some j =>
    rw [e] at h
    have := (List.getElem?_eq_some_iff.mp e)
    obtain ⟨h1, h2⟩ := this
    rw [List.getElem_range] at h2
    subst h2
    simpa using h.symm
/-- offers come to an end -/
theorem OffJ.run (H : HOk hs n) (W : WOk hs n ws) : ∀ (k : Nat) {fo : Dea} {at' fr : List Int}, OffJ hs n ws k fo at' fr → ∃ k fo at', OffJ hs n ws k fo at' [] := fun k => by
  induction k using Nat.strongRecOn with
  | _ k ih =>
    intro fo at' fr I
    by_cases hn : fr = []
    · subst hn
      exact ⟨k, fo, at', I⟩
    · have hdl := last_split hn
      generalize gi fr (-1) = x at hdl
      generalize fr.dropLast = fd at hdl
      subst hdl
      obtain ⟨⟨x0, x1⟩, ex⟩ := I.rng
      have fl := I.O.fl
      obtain ⟨a0, a1⟩ := I.O.ab x x0 x1
      by_cases ha : gi at' x < (gi ws x).length
      · obtain ⟨⟨hpw, p0, p1⟩, xm, t1, t2⟩ := I.take H W ha rfl
        generalize gi (gi ws x) (gi at' x) = p at hpw p0 p1 xm t1 t2
        by_cases hf : ((atD (setI fo x (some p)) p).length : Int) ≤ sea hs p
        · obtain ⟨m, hm, J⟩ := t1 hf
          exact ih m hm J
        · obtain ⟨w1, w2, w3⟩ := worst_ok (dl := setI fo x (some p)) H (by rw [set_len]; exact fl) p0 p1 (List.ne_nil_of_mem xm)
          obtain ⟨_, m, hm, J⟩ := t2 _ hf w2 w3
          exact ih m hm J
      · obtain ⟨m, hm, J⟩ := I.skip (by omega)
        exact ih m hm J
/-- the state behind all offers, the best dealing -/
theorem fin_of (H : HOk hs n) (W : WOk hs n ws) {d : Dea} (P : PBest hs n ws d) : ∃ k at', OffJ hs n ws k d at' [] := by
  obtain ⟨k, I⟩ := OffJ.start H W
  obtain ⟨k, fo, at', J⟩ := OffJ.run H W k I
  have e := (J.toOffI.done W).uniq P
  subst e
  exact ⟨k, at', J⟩
def cutW (ws : Wis) (m : Int) : Wis := ws.map fun w => cut w none (some m)
theorem cutW_gi {m : Int} (W : WOk hs n ws) (m0 : 0 ≤ m) (x0 : 0 ≤ x) (x1 : x < n) : gi (cutW ws m) x = (gi ws x).take m.toNat := by
  unfold cutW
  rw [gi_map (inb_of x0 (by have := W.len; omega)), cut_hi _ m0]
theorem cutW_ok {m : Int} (W : WOk hs n ws) (m0 : 0 ≤ m) : WOk hs n (cutW ws m) := by
  refine ⟨by unfold cutW; rw [List.length_map]; exact W.len, fun w hw => ?_⟩
  obtain ⟨v, hv, rfl⟩ := List.mem_map.mp hw
  rw [cut_hi _ m0]
  obtain ⟨h1, h2⟩ := W.ok v hv
  exact ⟨h1.sublist (List.take_sublist _ _), fun p hp => h2 p (List.mem_of_mem_take hp)⟩
theorem cutW_all {m : Int} (H : HOk hs n) (W : WOk hs n ws) (m0 : 12 ≤ m) : cutW ws m = ws := by
  unfold cutW
  have : ∀ w ∈ ws, cut w none (some m) = w := fun w hw => by
    rw [cut_hi _ (by omega)]
    have := W.wlen hw
    have := H.p12
    exact List.take_of_length_le (by omega)
  rw [List.map_congr_left this, List.map_id']
theorem spo_take {w : List Int} {m : Nat} {p : Int} (h : p ∈ w.take m) : spo (w.take m) (some p) = spo w (some p) := by
  have hw := List.mem_of_mem_take h
  have e : w.idxOf p = (w.take m).idxOf p := by
    conv => lhs; rw [← List.take_append_drop m w]
    rw [List.idxOf_append]
    simp [h]
  rw [spo_in h, spo_in hw, e]
/-- fewer lists, the same dealing -/
theorem Stb.cut {m : Int} {d : Dea} (W : WOk hs n ws) (m0 : 0 ≤ m) (S : Stb hs n ws d) (hd : ∀ x p, 0 ≤ x → x < n → gi d x = some p → p ∈ (gi ws x).take m.toNat) : Stb hs n (cutW ws m) d := by
  refine ⟨⟨S.len, fun x p x0 x1 e => ?_, S.room⟩, fun x p x0 x1 p0 p1 ⟨hb, he⟩ => ?_⟩
  · rw [cutW_gi W m0 x0 x1]
    exact hd x p x0 x1 e
  · rw [cutW_gi W m0 x0 x1] at hb
    have hq : ∀ q, gi d x = some q → q ∈ (gi ws x).take m.toNat := fun q e => hd x q x0 x1 e
    have hp := spo_better hb hq
    refine S.nob x p x0 x1 p0 p1 ⟨?_, he⟩
    rw [spo_take hp] at hb
    cases e : gi d x with
    | none =>
      rw [spo_none]
      exact spo_lt (List.mem_of_mem_take hp)
    | some q =>
      rw [e, spo_take (hq q e)] at hb
      exact hb
theorem agr_cut {m m' : Int} {at' : List Int} (W : WOk hs n ws) (m0 : 0 ≤ m) (hm : m ≤ m') (ha : ∀ x, 0 ≤ x → x < n → gi at' x ≤ ((gi (cutW ws m) x).length : Int)) : Agr n (cutW ws m) (cutW ws m') at' := fun x x0 x1 => by
  have h := ha x x0 x1
  rw [cutW_gi W m0 x0 x1] at h ⊢
  rw [cutW_gi W (by omega) x0 x1]
  rw [List.length_take] at h ⊢
  refine ⟨by omega, ?_⟩
  rw [List.take_take, List.take_take]
  congr 1
  omega
/-- all who are at none -/
def nones (d : Dea) : List Int := (irange 0 (d.length : Int)).filter fun x => (gi d x).isNone
theorem mem_nones {d : Dea} : x ∈ nones d ↔ (0 ≤ x ∧ x < d.length) ∧ gi d x = none := by
  unfold nones
  rw [List.mem_filter, mem_irange]
  cases gi d x <;> simp
theorem enum_none (dl : Dea) : ((enumI dl).filter fun (z : Int × Option Int) => z.2.isNone).map (fun (z : Int × Option Int) => z.1) = nones dl := by
  rw [enumI_eq, List.filter_map, List.map_map]
  show List.map (fun i => i) _ = _
  rw [List.map_id']
  rfl
theorem OffJ.goN (I : OffJ hs n ws k fo at' fr) {ls : Wis} (V : WOk hs n ls) (A : Agr n ws ls at') : ∃ k, OffJ hs n ls k fo at' (nones fo) := by
  have fl := I.O.fl
  exact I.go V A ((irange_nodup _ _).sublist List.filter_sublist) (fun x hx => by
    obtain ⟨⟨a, b⟩, c⟩ := mem_nones.mp hx
    exact ⟨⟨a, by omega⟩, c⟩) fun x x0 x1 e => .inl (mem_nones.mpr ⟨⟨x0, by omega⟩, e⟩)
/-- the best dealing of cut lists, stable with longer ones, is the best with these -/
theorem PBest.grow {m m' : Int} {d : Dea} (H : HOk hs n) (W : WOk hs n ws) (m0 : 0 ≤ m) (hm : m ≤ m') (P : PBest hs n (cutW ws m) d) (S : Stb hs n (cutW ws m') d) : PBest hs n (cutW ws m') d := by
  obtain ⟨k, at', J⟩ := fin_of H (cutW_ok W m0) P
  obtain ⟨k, J⟩ := J.goN (cutW_ok W (by omega)) (agr_cut W m0 hm fun x x0 x1 => (J.O.ab x x0 x1).2)
  exact J.toOffI.best H (cutW_ok W (by omega)) S
theorem best_ex (H : HOk hs n) (W : WOk hs n ws) : ∃ d, PBest hs n ws d := by
  obtain ⟨k, I⟩ := OffJ.start H W
  obtain ⟨k, fo, at', J⟩ := OffJ.run H W k I
  exact ⟨fo, J.toOffI.done W⟩
open Classical in
noncomputable def bestOf (hs : Hal) (n : Int) (ws : Wis) : Dea := if h : ∃ d, PBest hs n ws d then h.choose else []
theorem bestOf_ok (H : HOk hs n) (W : WOk hs n ws) : PBest hs n ws (bestOf hs n ws) := by
  have h := best_ex H W
  unfold bestOf
  rw [dif_pos h]
  exact h.choose_spec
theorem bestOf_eq (H : HOk hs n) (W : WOk hs n ws) {d : Dea} (P : PBest hs n ws d) : d = bestOf hs n ws := P.uniq (bestOf_ok H W)
/-- the least number that is enough -/
structure Due (hs : Hal) (n : Int) (ws : Wis) (due : Int) : Prop where
  d0 : 0 ≤ due
  d1 : due ≤ 12
  eq : bestOf hs n (cutW ws due) = bestOf hs n ws
  ne : ∀ m : Int, 0 ≤ m → m < due → bestOf hs n (cutW ws m) ≠ bestOf hs n ws
/-- enough and more -/
theorem Due.up {due m : Int} (H : HOk hs n) (W : WOk hs n ws) (D : Due hs n ws due) (hm : due ≤ m) : bestOf hs n (cutW ws m) = bestOf hs n ws := by
  have d0 := D.d0
  have P := bestOf_ok H (cutW_ok W d0)
  have S : Stb hs n ws (bestOf hs n (cutW ws due)) := by
    rw [D.eq]
    exact (bestOf_ok H W).toStb
  have S2 := Stb.cut (m := m) W (by omega) S fun x p x0 x1 e => by
    have := P.wish x p x0 x1 e
    rw [cutW_gi W d0 x0 x1] at this
    exact (List.take_sublist_take_left (by omega)).subset this
  rw [← bestOf_eq H (cutW_ok W (by omega)) (P.grow H W d0 hm S2), D.eq]
theorem Due.stb {due m : Int} (H : HOk hs n) (W : WOk hs n ws) (D : Due hs n ws due) (m0 : 0 ≤ m) : Stb hs n ws (bestOf hs n (cutW ws m)) ↔ due ≤ m := by
  constructor
  · intro S
    rcases Int.lt_or_le m due with h | h
    · exfalso
      refine D.ne m m0 h ?_
      have P := bestOf_ok H (cutW_ok W m0)
      have W12 := cutW_all H W (m := max m 12) (by omega)
      have := P.grow H W m0 (m' := max m 12) (by omega) (by rw [W12]; exact S)
      rw [W12] at this
      exact bestOf_eq H W this
    · exact h
  · intro h
    rw [D.up H W h]
    exact (bestOf_ok H W).toStb
/-- a list put back whole -/
def withL (ws : Wis) (m x : Int) : Wis := setI (cutW ws m) x (gi ws x)
theorem withL_ok {m : Int} (W : WOk hs n ws) (m0 : 0 ≤ m) (x0 : 0 ≤ x) (x1 : x < n) : WOk hs n (withL ws m x) := by
  have V := cutW_ok W m0
  have vl := V.len
  refine ⟨by unfold withL; rw [set_len]; exact vl, fun w hw => ?_⟩
  obtain ⟨i, hi⟩ := List.mem_iff_getElem?.mp hw
  have hil := (List.getElem?_eq_some_iff.mp hi).1
  have e : gi (withL ws m x) (i : Int) = w := by
    rw [gi_ofNat, List.getD_eq_getElem?_getD, hi]
    rfl
  unfold withL at e hil
  rw [set_len] at hil
  rw [gi_set x0 (by omega) (by omega)] at e
  split at e
  · rw [← e]
    exact W.ok _ (W.mem x0 x1)
  · rw [← e]
    exact V.ok _ (gi_in (by omega) (by omega))
theorem withL_gi {m y : Int} (W : WOk hs n ws) (x0 : 0 ≤ x) (x1 : x < n) (y0 : 0 ≤ y) : gi (withL ws m x) y = if y = x then gi ws x else gi (cutW ws m) y := by
  unfold withL
  exact gi_set x0 (by unfold cutW; rw [List.length_map]; have := W.len; omega) y0
/-- who is shut out -/
noncomputable def shutB (hs : Hal) (n : Int) (ws : Wis) (m x : Int) : Bool := (gi (bestOf hs n (cutW ws m)) x).isNone && (gi (bestOf hs n (withL ws m x)) x).isSome
noncomputable def shutL (hs : Hal) (n : Int) (ws : Wis) (m : Int) : List Int := (irange 0 n).filter (shutB hs n ws m)
theorem cut_put {α : Type} [Inhabited α] {xs : List α} {x : Int} {v : α} (x0 : 0 ≤ x) (x1 : x < xs.length) : (cut xs none (some x) ++ [v]) ++ cut xs (some (x + 1)) none = setI xs x v := by
  rw [cut_hi _ x0, cut_lo _ (by omega)]
  refine list_ext_gi (by simp [set_len]; omega) fun i i0 i1 => ?_
  rw [gi_set x0 x1 i0, gi_nat i0, List.getD_eq_getElem?_getD, List.append_assoc]
  have hlen : (xs.take x.toNat).length = x.toNat := by rw [List.length_take]; omega
  rcases Int.lt_or_le i x with h | h
  · rw [List.getElem?_append_left (by omega), List.getElem?_take, if_pos (by omega), if_neg (by omega), gi_nat i0, List.getD_eq_getElem?_getD]
  · rw [List.getElem?_append_right (by omega), hlen]
    by_cases e : i = x
    · subst e
      rw [if_pos rfl, Nat.sub_self]
      rfl
    · rw [if_neg e]
      obtain ⟨j, hj⟩ : ∃ j, i.toNat - x.toNat = j + 1 := ⟨i.toNat - x.toNat - 1, by omega⟩
      rw [hj, List.singleton_append, List.getElem?_cons_succ, List.getElem?_drop, gi_nat i0, List.getD_eq_getElem?_getD]
      congr 2
      omega
end
def LOk (m : Int) (w : List Int) : Prop := w.Nodup ∧ ∀ p ∈ w, 0 ≤ p ∧ p < m
theorem LOk.of_perm {m : Int} {w : List Int} (h : w.Perm (irange 0 m)) : LOk m w := ⟨h.nodup_iff.mpr (irange_nodup _ _), fun p hp => mem_irange.mp (h.mem_iff.mp hp)⟩
theorem LOk.sub {m : Int} {o w : List Int} (h : LOk m o) (s : w.Sublist o) : LOk m w := ⟨h.1.sublist s, fun x hx => h.2 x (s.subset hx)⟩
theorem compM_sub {g : Int → M (Option Int)} {K : List Int → Prop} {X : XP} {xs : List Int} (hs : ∀ x, x ∈ xs → ∀ K' : Option Int → Prop, K' (some x) → K' none → g x K' X) (hk : ∀ ys : List Int, ys.Sublist xs → K ys) : compM xs g K X := by
  induction xs generalizing K with
  | nil => exact hk [] (.refl _)
  | cons x xs ih =>
    refine hs x List.mem_cons_self _ ?_ ?_
    · exact ih (fun y hy => hs y (List.mem_cons_of_mem _ hy)) fun ys h => hk (x :: ys) (h.cons_cons x)
    · exact ih (fun y hy => hs y (List.mem_cons_of_mem _ hy)) fun ys h => hk ys (h.cons x)
end LW
namespace LW
open PySem PySem.Spec PyProof.Rows L2 DL TL
local macro_rules | `(tactic| walk_at "go") => `(tactic| (repeat (first | with_reducible refine v_seq ?_ | with_reducible refine v_set ?_ | with_reducible refine v_asg ?_ | with_reducible refine v_drop ?_ | with_reducible refine v_ret ?_ | with_reducible refine v_retN ?_ | with_reducible refine v_if ?_ | with_reducible refine v_next ?_ | with_reducible refine v_brk ?_ | with_reducible refine v_cnt ?_ | with_reducible refine v_par ?_ | with_reducible refine v_par3 ?_ | with_reducible refine v_c ?_ | with_reducible refine v_op ?_ | with_reducible refine v_un ?_ | with_reducible refine v_chain ?_ | with_reducible refine v_ifE ?_ | with_reducible refine v_cons ?_ | with_reducible refine v_nil ?_ | with_reducible refine v_tup ?_ | with_reducible refine v_lst ?_ | with_reducible refine v_lstC ?_ | with_reducible refine v_cb ?_ | with_reducible refine v_call ?_ | with_reducible refine v_callK ?_ | with_reducible refine v_ml ?_ | with_reducible refine v_ml0 ?_ | with_reducible refine v_mt ?_ | with_reducible refine v_sl ?_ | with_reducible refine v_no ?_ | with_reducible refine v_part ?_ | with_reducible refine v_rev ?_ | with_reducible refine v_revC ?_ | with_reducible refine v_isi ?_ | with_reducible refine v_isi2 ?_ | with_reducible refine v_andV ?_ | with_reducible refine v_orV ?_ | with_reducible refine v_notV ?_ | with_reducible refine v_test ?_ | with_reducible refine v_and ?_ | with_reducible refine v_or ?_ | with_reducible refine v_not ?_ | with_reducible refine v_cNil ?_ | with_reducible refine v_gN ?_ | with_reducible refine v_gNi ?_ | with_reducible refine v_gCo ?_ | with_reducible refine v_gSb ?_ | with_reducible refine v_iSeq ?_ | with_reducible refine v_iEnu ?_ | with_reducible refine v_iZip ?_ | with_reducible refine v_iR1 ?_ | with_reducible refine v_iR2 ?_ | with_reducible refine v_rR1 ?_ | with_reducible refine v_rR2 ?_ | with_reducible refine v_lstR ?_ | with_reducible refine v_tupR ?_ | with_reducible refine w_I ?_ | with_reducible refine w_addI ?_ | with_reducible refine w_neg ?_ | with_reducible refine w_lenT ?_ | with_reducible refine w_lenL ?_ | with_reducible refine w_lenS ?_ | with_reducible refine w_slT ?_ | with_reducible refine w_slL ?_ | with_reducible refine w_slS ?_ | with_reducible refine w_tupT ?_ | with_reducible refine w_tupL ?_ | with_reducible refine w_listT ?_ | with_reducible refine w_listL ?_ | with_reducible refine w_listCT ?_ | with_reducible refine w_listCL ?_ | with_reducible refine w_abs ?_ | with_reducible refine w_int ?_ | with_reducible refine w_max2 ?_ | with_reducible refine w_min2 ?_ | with_reducible refine ite_true' ?_ | with_reducible refine ite_false' ?_ | with_reducible refine ite_nt ?_ | with_reducible refine ite_nf ?_ | with_reducible refine w_isTup ?_ | with_reducible refine v_for ?_ | with_reducible refine v_while ?_ | with_reducible refine v_lc ?_ | (with_reducible refine v_varG ?_; refine opt_ok rfl ?_) | (with_reducible refine w_ixG ?_; refine opt_ok rfl (opt_ok rfl ?_)) | (with_reducible refine oIsG ?_; first | with_reducible refine w_is_non_non ?_ | with_reducible refine w_is_t_non ?_ | with_reducible refine w_is_f_non ?_ | with_reducible refine w_is_int_non ?_ | with_reducible refine w_is_str_non ?_ | with_reducible refine w_is_tup_non ?_ | with_reducible refine w_is_lst_non ?_ | with_reducible refine w_is_scr_non ?_ | with_reducible refine w_is_cel_non ?_ | with_reducible refine w_is_non_t ?_ | with_reducible refine w_is_t_t ?_ | with_reducible refine w_is_f_t ?_ | with_reducible refine w_is_int_t ?_ | with_reducible refine w_is_str_t ?_ | with_reducible refine w_is_tup_t ?_ | with_reducible refine w_is_lst_t ?_ | with_reducible refine w_is_scr_t ?_ | with_reducible refine w_is_cel_t ?_ | with_reducible refine w_is_non_f ?_ | with_reducible refine w_is_t_f ?_ | with_reducible refine w_is_f_f ?_ | with_reducible refine w_is_int_f ?_ | with_reducible refine w_is_str_f ?_ | with_reducible refine w_is_tup_f ?_ | with_reducible refine w_is_lst_f ?_ | with_reducible refine w_is_scr_f ?_ | with_reducible refine w_is_cel_f ?_ | with_reducible refine w_in_non_non ?_ | with_reducible refine w_in_t_non ?_ | with_reducible refine w_in_f_non ?_ | with_reducible refine w_in_int_non ?_ | with_reducible refine w_in_str_non ?_ | with_reducible refine w_in_tup_non ?_ | with_reducible refine w_in_lst_non ?_ | with_reducible refine w_in_scr_non ?_ | with_reducible refine w_in_cel_non ?_ | with_reducible refine w_in_non_t ?_ | with_reducible refine w_in_t_t ?_ | with_reducible refine w_in_f_t ?_ | with_reducible refine w_in_int_t ?_ | with_reducible refine w_in_str_t ?_ | with_reducible refine w_in_tup_t ?_ | with_reducible refine w_in_lst_t ?_ | with_reducible refine w_in_scr_t ?_ | with_reducible refine w_in_cel_t ?_ | with_reducible refine w_in_non_f ?_ | with_reducible refine w_in_t_f ?_ | with_reducible refine w_in_f_f ?_ | with_reducible refine w_in_int_f ?_ | with_reducible refine w_in_str_f ?_ | with_reducible refine w_in_tup_f ?_ | with_reducible refine w_in_lst_f ?_ | with_reducible refine w_in_scr_f ?_ | with_reducible refine w_in_cel_f ?_) | (with_reducible refine w_gTupG ?_; refine opt_ok rfl ⟨rfl, ?_⟩) | (with_reducible refine isTyG ?_; first | with_reducible refine opt_ok iT_tuple_non ?_ | with_reducible refine opt_ok iT_tuple_bl ?_ | with_reducible refine opt_ok iT_tuple_int ?_ | with_reducible refine opt_ok iT_tuple_str ?_ | with_reducible refine opt_ok iT_tuple_tup ?_ | with_reducible refine opt_ok iT_tuple_lst ?_ | with_reducible refine opt_ok iT_tuple_scr ?_ | with_reducible refine opt_ok iT_tuple_cel ?_ | with_reducible refine opt_ok iT_int_non ?_ | with_reducible refine opt_ok iT_int_bl ?_ | with_reducible refine opt_ok iT_int_int ?_ | with_reducible refine opt_ok iT_int_str ?_ | with_reducible refine opt_ok iT_int_tup ?_ | with_reducible refine opt_ok iT_int_lst ?_ | with_reducible refine opt_ok iT_int_scr ?_ | with_reducible refine opt_ok iT_int_cel ?_ | with_reducible refine opt_ok iT_bool_non ?_ | with_reducible refine opt_ok iT_bool_bl ?_ | with_reducible refine opt_ok iT_bool_int ?_ | with_reducible refine opt_ok iT_bool_str ?_ | with_reducible refine opt_ok iT_bool_tup ?_ | with_reducible refine opt_ok iT_bool_lst ?_ | with_reducible refine opt_ok iT_bool_scr ?_ | with_reducible refine opt_ok iT_bool_cel ?_ | with_reducible refine opt_ok iT_str_non ?_ | with_reducible refine opt_ok iT_str_bl ?_ | with_reducible refine opt_ok iT_str_int ?_ | with_reducible refine opt_ok iT_str_str ?_ | with_reducible refine opt_ok iT_str_tup ?_ | with_reducible refine opt_ok iT_str_lst ?_ | with_reducible refine opt_ok iT_str_scr ?_ | with_reducible refine opt_ok iT_str_cel ?_ | with_reducible refine opt_ok iT_list_non ?_ | with_reducible refine opt_ok iT_list_bl ?_ | with_reducible refine opt_ok iT_list_int ?_ | with_reducible refine opt_ok iT_list_str ?_ | with_reducible refine opt_ok iT_list_tup ?_ | with_reducible refine opt_ok iT_list_lst ?_ | with_reducible refine opt_ok iT_list_scr ?_ | with_reducible refine opt_ok iT_list_cel ?_) | (with_reducible refine opt_ok rfl ?_))))
local macro_rules | `(tactic| walk_at "on") => `(tactic| (repeat (first | with_reducible refine v_set ?_ | with_reducible refine v_asg ?_ | with_reducible refine v_drop ?_ | with_reducible refine v_ret ?_ | with_reducible refine v_retN ?_ | with_reducible refine v_if ?_ | with_reducible refine v_next ?_ | with_reducible refine v_brk ?_ | with_reducible refine v_cnt ?_ | with_reducible refine v_par ?_ | with_reducible refine v_par3 ?_ | with_reducible refine v_c ?_ | with_reducible refine v_op ?_ | with_reducible refine v_un ?_ | with_reducible refine v_chain ?_ | with_reducible refine v_ifE ?_ | with_reducible refine v_cons ?_ | with_reducible refine v_nil ?_ | with_reducible refine v_tup ?_ | with_reducible refine v_lst ?_ | with_reducible refine v_lstC ?_ | with_reducible refine v_cb ?_ | with_reducible refine v_call ?_ | with_reducible refine v_callK ?_ | with_reducible refine v_ml ?_ | with_reducible refine v_ml0 ?_ | with_reducible refine v_mt ?_ | with_reducible refine v_sl ?_ | with_reducible refine v_no ?_ | with_reducible refine v_part ?_ | with_reducible refine v_rev ?_ | with_reducible refine v_revC ?_ | with_reducible refine v_isi ?_ | with_reducible refine v_isi2 ?_ | with_reducible refine v_andV ?_ | with_reducible refine v_orV ?_ | with_reducible refine v_notV ?_ | with_reducible refine v_test ?_ | with_reducible refine v_and ?_ | with_reducible refine v_or ?_ | with_reducible refine v_not ?_ | with_reducible refine v_cNil ?_ | with_reducible refine v_gN ?_ | with_reducible refine v_gNi ?_ | with_reducible refine v_gCo ?_ | with_reducible refine v_gSb ?_ | with_reducible refine v_iSeq ?_ | with_reducible refine v_iEnu ?_ | with_reducible refine v_iZip ?_ | with_reducible refine v_iR1 ?_ | with_reducible refine v_iR2 ?_ | with_reducible refine v_rR1 ?_ | with_reducible refine v_rR2 ?_ | with_reducible refine v_lstR ?_ | with_reducible refine v_tupR ?_ | with_reducible refine w_I ?_ | with_reducible refine w_addI ?_ | with_reducible refine w_neg ?_ | with_reducible refine w_lenT ?_ | with_reducible refine w_lenL ?_ | with_reducible refine w_lenS ?_ | with_reducible refine w_slT ?_ | with_reducible refine w_slL ?_ | with_reducible refine w_slS ?_ | with_reducible refine w_tupT ?_ | with_reducible refine w_tupL ?_ | with_reducible refine w_listT ?_ | with_reducible refine w_listL ?_ | with_reducible refine w_listCT ?_ | with_reducible refine w_listCL ?_ | with_reducible refine w_abs ?_ | with_reducible refine w_int ?_ | with_reducible refine w_max2 ?_ | with_reducible refine w_min2 ?_ | with_reducible refine ite_true' ?_ | with_reducible refine ite_false' ?_ | with_reducible refine ite_nt ?_ | with_reducible refine ite_nf ?_ | with_reducible refine w_isTup ?_ | with_reducible refine v_lc ?_ | (with_reducible refine v_varG ?_; refine opt_ok rfl ?_) | (with_reducible refine w_ixG ?_; refine opt_ok rfl (opt_ok rfl ?_)) | (with_reducible refine oIsG ?_; first | with_reducible refine w_is_non_non ?_ | with_reducible refine w_is_t_non ?_ | with_reducible refine w_is_f_non ?_ | with_reducible refine w_is_int_non ?_ | with_reducible refine w_is_str_non ?_ | with_reducible refine w_is_tup_non ?_ | with_reducible refine w_is_lst_non ?_ | with_reducible refine w_is_scr_non ?_ | with_reducible refine w_is_cel_non ?_ | with_reducible refine w_is_non_t ?_ | with_reducible refine w_is_t_t ?_ | with_reducible refine w_is_f_t ?_ | with_reducible refine w_is_int_t ?_ | with_reducible refine w_is_str_t ?_ | with_reducible refine w_is_tup_t ?_ | with_reducible refine w_is_lst_t ?_ | with_reducible refine w_is_scr_t ?_ | with_reducible refine w_is_cel_t ?_ | with_reducible refine w_is_non_f ?_ | with_reducible refine w_is_t_f ?_ | with_reducible refine w_is_f_f ?_ | with_reducible refine w_is_int_f ?_ | with_reducible refine w_is_str_f ?_ | with_reducible refine w_is_tup_f ?_ | with_reducible refine w_is_lst_f ?_ | with_reducible refine w_is_scr_f ?_ | with_reducible refine w_is_cel_f ?_ | with_reducible refine w_in_non_non ?_ | with_reducible refine w_in_t_non ?_ | with_reducible refine w_in_f_non ?_ | with_reducible refine w_in_int_non ?_ | with_reducible refine w_in_str_non ?_ | with_reducible refine w_in_tup_non ?_ | with_reducible refine w_in_lst_non ?_ | with_reducible refine w_in_scr_non ?_ | with_reducible refine w_in_cel_non ?_ | with_reducible refine w_in_non_t ?_ | with_reducible refine w_in_t_t ?_ | with_reducible refine w_in_f_t ?_ | with_reducible refine w_in_int_t ?_ | with_reducible refine w_in_str_t ?_ | with_reducible refine w_in_tup_t ?_ | with_reducible refine w_in_lst_t ?_ | with_reducible refine w_in_scr_t ?_ | with_reducible refine w_in_cel_t ?_ | with_reducible refine w_in_non_f ?_ | with_reducible refine w_in_t_f ?_ | with_reducible refine w_in_f_f ?_ | with_reducible refine w_in_int_f ?_ | with_reducible refine w_in_str_f ?_ | with_reducible refine w_in_tup_f ?_ | with_reducible refine w_in_lst_f ?_ | with_reducible refine w_in_scr_f ?_ | with_reducible refine w_in_cel_f ?_) | (with_reducible refine w_gTupG ?_; refine opt_ok rfl ⟨rfl, ?_⟩) | (with_reducible refine isTyG ?_; first | with_reducible refine opt_ok iT_tuple_non ?_ | with_reducible refine opt_ok iT_tuple_bl ?_ | with_reducible refine opt_ok iT_tuple_int ?_ | with_reducible refine opt_ok iT_tuple_str ?_ | with_reducible refine opt_ok iT_tuple_tup ?_ | with_reducible refine opt_ok iT_tuple_lst ?_ | with_reducible refine opt_ok iT_tuple_scr ?_ | with_reducible refine opt_ok iT_tuple_cel ?_ | with_reducible refine opt_ok iT_int_non ?_ | with_reducible refine opt_ok iT_int_bl ?_ | with_reducible refine opt_ok iT_int_int ?_ | with_reducible refine opt_ok iT_int_str ?_ | with_reducible refine opt_ok iT_int_tup ?_ | with_reducible refine opt_ok iT_int_lst ?_ | with_reducible refine opt_ok iT_int_scr ?_ | with_reducible refine opt_ok iT_int_cel ?_ | with_reducible refine opt_ok iT_bool_non ?_ | with_reducible refine opt_ok iT_bool_bl ?_ | with_reducible refine opt_ok iT_bool_int ?_ | with_reducible refine opt_ok iT_bool_str ?_ | with_reducible refine opt_ok iT_bool_tup ?_ | with_reducible refine opt_ok iT_bool_lst ?_ | with_reducible refine opt_ok iT_bool_scr ?_ | with_reducible refine opt_ok iT_bool_cel ?_ | with_reducible refine opt_ok iT_str_non ?_ | with_reducible refine opt_ok iT_str_bl ?_ | with_reducible refine opt_ok iT_str_int ?_ | with_reducible refine opt_ok iT_str_str ?_ | with_reducible refine opt_ok iT_str_tup ?_ | with_reducible refine opt_ok iT_str_lst ?_ | with_reducible refine opt_ok iT_str_scr ?_ | with_reducible refine opt_ok iT_str_cel ?_ | with_reducible refine opt_ok iT_list_non ?_ | with_reducible refine opt_ok iT_list_bl ?_ | with_reducible refine opt_ok iT_list_int ?_ | with_reducible refine opt_ok iT_list_str ?_ | with_reducible refine opt_ok iT_list_tup ?_ | with_reducible refine opt_ok iT_list_lst ?_ | with_reducible refine opt_ok iT_list_scr ?_ | with_reducible refine opt_ok iT_list_cel ?_) | (with_reducible refine opt_ok rfl ?_))))
def topS (i : Nat) : Stmt := PySem.Challenge.pw_seatedwell_k59_whole_lists_cut_short.main.body.getD i (.Pass ⟨0, 0, 0, 0⟩)
abbrev W0 : XW := fun _ _ _ _ => False
/-! ### is_integer -/
abbrev s_is_integer : Stmt := topS 1
abbrev N_is_integer : List Str := ["value"]
theorem sc_is_integer : FnScope N_is_integer ["value"] (defScope s_is_integer) := ⟨rfl, rfl, rfl, by decide +kernel, rfl, by decide +kernel, by decide +kernel⟩
theorem b_is_integer : BindP "is_integer" s_is_integer ["value"] := fun _ _ _ _ _ _ _ us hl => match us, hl with | [_], _ => rfl
def rd_is_integer (W : XW) : RS :=
    (sRet (dAndV (dIsi "int" (dVar 0)) (dNotV (dIsi "bool" (dVar 0)))))
def sp_is_integer : SpD := spOf N_is_integer (rd_is_integer)
theorem ds_is_integer {P : Program} {w : World} {K : PySem.W.Frag} {mg : Str → Option Value} {base : Heap} {k : Nat} (m_bool : mg "bool" = none) (m_int : mg "int" = none) (m_isinstance : mg "isinstance" = none)   
    (f : Addr) (cdv : Value) (A : Around) (outer : List Env) (s : Shared) (H : Hp) (E : XK) (B : BS) (W : XW) (hr : Room k (A.deeper (envOfC "is_integer" (defScope s_is_integer) s.heap.objs.size f cdv)))
    (tk : TakesD (cxOf (L2.CX P w) P w K mg base N_is_integer "is_integer" (defScope s_is_integer) f cdv A outer s H E) B W) : DSs (cxOf (L2.CX P w) P w K mg base N_is_integer "is_integer" (defScope s_is_integer) f cdv A outer s H E) B (defBody s_is_integer) (rd_is_integer W) :=
    (dss_one (ds_ret (de_and (d_isi m_isinstance (d_v 0) m_int (by decide +kernel)) (de_one (de_not (d_isi m_isinstance (d_v 0) m_bool (by decide +kernel)))))))
theorem fn_is_integer {P : Program} {w : World} {K : PySem.W.Frag} {mg : Str → Option Value} {base : Heap} {k : Nat} (m_bool : mg "bool" = none) (m_int : mg "int" = none) (m_isinstance : mg "isinstance" = none) {f : Addr} {fd : FuncData} (F : Fun K "is_integer" "is_integer" s_is_integer f fd) (hm : mg "is_integer" = some (.ref f)) : Fn P w K mg base (k + 1) "is_integer" s_is_integer ["value"] sp_is_integer :=
  ⟨f, fd, "is_integer", F, hm, dl_fn F sc_is_integer (rd_is_integer) fun cdv A outer s H E B W hr tk => ds_is_integer m_bool m_int m_isinstance  f cdv A outer s H E B W hr tk⟩
/-! ### is_index -/
abbrev s_is_index : Stmt := topS 2
abbrev N_is_index : List Str := ["value", "many"]
theorem sc_is_index : FnScope N_is_index ["value", "many"] (defScope s_is_index) := ⟨rfl, rfl, rfl, by decide +kernel, rfl, by decide +kernel, by decide +kernel⟩
theorem b_is_index : BindP "is_index" s_is_index ["value", "many"] := fun _ _ _ _ _ _ _ us hl => match us, hl with | [_, _], _ => rfl
def rd_is_index (sp_is_integer : SpD) (W : XW) : RS :=
    (sRet (dAndV (dCall sp_is_integer W (dCons (dVar 0) dNil)) (dChain oLe oLt (dC (.int 0)) (dVar 0) (dVar 1))))
def sp_is_index : SpD := spOf N_is_index (rd_is_index sp_is_integer)
theorem ds_is_index {P : Program} {w : World} {K : PySem.W.Frag} {mg : Str → Option Value} {base : Heap} {k : Nat}   {sp_is_integer : SpD} (F_is_integer : Fn P w K mg base k "is_integer" s_is_integer ["value"] sp_is_integer)
    (f : Addr) (cdv : Value) (A : Around) (outer : List Env) (s : Shared) (H : Hp) (E : XK) (B : BS) (W : XW) (hr : Room k (A.deeper (envOfC "is_index" (defScope s_is_index) s.heap.objs.size f cdv)))
    (tk : TakesD (cxOf (L2.CX P w) P w K mg base N_is_index "is_index" (defScope s_is_index) f cdv A outer s H E) B W) : DSs (cxOf (L2.CX P w) P w K mg base N_is_index "is_index" (defScope s_is_index) f cdv A outer s H E) B (defBody s_is_index) (rd_is_index sp_is_integer W) :=
    (dss_one (ds_ret (de_and (d_call F_is_integer b_is_integer hr tk (da_cons (d_v 0) da_nil)) (de_one (d_leLt d_int (d_v 0) (d_v 1))))))
theorem fn_is_index {P : Program} {w : World} {K : PySem.W.Frag} {mg : Str → Option Value} {base : Heap} {k : Nat} (F_is_integer : Fn P w K mg base k "is_integer" s_is_integer ["value"] sp_is_integer) {f : Addr} {fd : FuncData} (F : Fun K "is_index" "is_index" s_is_index f fd) (hm : mg "is_index" = some (.ref f)) : Fn P w K mg base (k + 1) "is_index" s_is_index ["value", "many"] sp_is_index :=
  ⟨f, fd, "is_index", F, hm, dl_fn F sc_is_index (rd_is_index sp_is_integer) fun cdv A outer s H E B W hr tk => ds_is_index  F_is_integer f cdv A outer s H E B W hr tk⟩
/-! ### people_in -/
abbrev s_people_in : Stmt := topS 4
abbrev N_people_in : List Str := ["hall"]
theorem sc_people_in : FnScope N_people_in ["hall"] (defScope s_people_in) := ⟨rfl, rfl, rfl, by decide +kernel, rfl, by decide +kernel, by decide +kernel⟩
theorem b_people_in : BindP "people_in" s_people_in ["hall"] := fun _ _ _ _ _ _ _ us hl => match us, hl with | [_], _ => rfl
def rd_people_in (W : XW) : RS :=
    (sRet (dCB oLen (dCons (dOp oIx (dOp oIx (dVar 0) (dC (.int 0))) (dC (.int 1))) dNil)))
def sp_people_in : SpD := spOf N_people_in (rd_people_in)
theorem ds_people_in {P : Program} {w : World} {K : PySem.W.Frag} {mg : Str → Option Value} {base : Heap} {k : Nat} (m_len : mg "len" = none)   
    (f : Addr) (cdv : Value) (A : Around) (outer : List Env) (s : Shared) (H : Hp) (E : XK) (B : BS) (W : XW) (hr : Room k (A.deeper (envOfC "people_in" (defScope s_people_in) s.heap.objs.size f cdv)))
    (tk : TakesD (cxOf (L2.CX P w) P w K mg base N_people_in "people_in" (defScope s_people_in) f cdv A outer s H E) B W) : DSs (cxOf (L2.CX P w) P w K mg base N_people_in "people_in" (defScope s_people_in) f cdv A outer s H E) B (defBody s_people_in) (rd_people_in W) :=
    (dss_one (ds_ret (d_len m_len (da_cons (d_ix (d_ix (d_v 0) d_int) d_int) da_nil))))
theorem fn_people_in {P : Program} {w : World} {K : PySem.W.Frag} {mg : Str → Option Value} {base : Heap} {k : Nat} (m_len : mg "len" = none) {f : Addr} {fd : FuncData} (F : Fun K "people_in" "people_in" s_people_in f fd) (hm : mg "people_in" = some (.ref f)) : Fn P w K mg base (k + 1) "people_in" s_people_in ["hall"] sp_people_in :=
  ⟨f, fd, "people_in", F, hm, dl_fn F sc_people_in (rd_people_in) fun cdv A outer s H E B W hr tk => ds_people_in m_len  f cdv A outer s H E B W hr tk⟩
/-! ### rank -/
abbrev s_rank : Stmt := topS 5
abbrev N_rank : List Str := ["hall", "place", "person"]
theorem sc_rank : FnScope N_rank ["hall", "place", "person"] (defScope s_rank) := ⟨rfl, rfl, rfl, by decide +kernel, rfl, by decide +kernel, by decide +kernel⟩
theorem b_rank : BindP "rank" s_rank ["hall", "place", "person"] := fun _ _ _ _ _ _ _ us hl => match us, hl with | [_, _, _], _ => rfl
def rd_rank (W : XW) : RS :=
    (sRet (dMt oIdxT (dOp oIx (dOp oIx (dVar 0) (dVar 1)) (dC (.int 1))) (dCons (dVar 2) dNil)))
def sp_rank : SpD := spOf N_rank (rd_rank)
theorem ds_rank {P : Program} {w : World} {K : PySem.W.Frag} {mg : Str → Option Value} {base : Heap} {k : Nat}    
    (f : Addr) (cdv : Value) (A : Around) (outer : List Env) (s : Shared) (H : Hp) (E : XK) (B : BS) (W : XW) (hr : Room k (A.deeper (envOfC "rank" (defScope s_rank) s.heap.objs.size f cdv)))
    (tk : TakesD (cxOf (L2.CX P w) P w K mg base N_rank "rank" (defScope s_rank) f cdv A outer s H E) B W) : DSs (cxOf (L2.CX P w) P w K mg base N_rank "rank" (defScope s_rank) f cdv A outer s H E) B (defBody s_rank) (rd_rank W) :=
    (dss_one (ds_ret (d_indexT (d_ix (d_ix (d_v 0) (d_v 1)) d_int) (da_cons (d_v 2) da_nil))))
theorem fn_rank {P : Program} {w : World} {K : PySem.W.Frag} {mg : Str → Option Value} {base : Heap} {k : Nat}  {f : Addr} {fd : FuncData} (F : Fun K "rank" "rank" s_rank f fd) (hm : mg "rank" = some (.ref f)) : Fn P w K mg base (k + 1) "rank" s_rank ["hall", "place", "person"] sp_rank :=
  ⟨f, fd, "rank", F, hm, dl_fn F sc_rank (rd_rank) fun cdv A outer s H E B W hr tk => ds_rank   f cdv A outer s H E B W hr tk⟩
/-! ### is_ahead -/
abbrev s_is_ahead : Stmt := topS 6
abbrev N_is_ahead : List Str := ["hall", "place", "one", "other"]
theorem sc_is_ahead : FnScope N_is_ahead ["hall", "place", "one", "other"] (defScope s_is_ahead) := ⟨rfl, rfl, rfl, by decide +kernel, rfl, by decide +kernel, by decide +kernel⟩
theorem b_is_ahead : BindP "is_ahead" s_is_ahead ["hall", "place", "one", "other"] := fun _ _ _ _ _ _ _ us hl => match us, hl with | [_, _, _, _], _ => rfl
def rd_is_ahead (sp_rank : SpD) (W : XW) : RS :=
    (sRet (dOp oLt (dCall sp_rank W (dCons (dVar 0) (dCons (dVar 1) (dCons (dVar 2) dNil)))) (dCall sp_rank W (dCons (dVar 0) (dCons (dVar 1) (dCons (dVar 3) dNil))))))
def sp_is_ahead : SpD := spOf N_is_ahead (rd_is_ahead sp_rank)
theorem ds_is_ahead {P : Program} {w : World} {K : PySem.W.Frag} {mg : Str → Option Value} {base : Heap} {k : Nat}   {sp_rank : SpD} (F_rank : Fn P w K mg base k "rank" s_rank ["hall", "place", "person"] sp_rank)
    (f : Addr) (cdv : Value) (A : Around) (outer : List Env) (s : Shared) (H : Hp) (E : XK) (B : BS) (W : XW) (hr : Room k (A.deeper (envOfC "is_ahead" (defScope s_is_ahead) s.heap.objs.size f cdv)))
    (tk : TakesD (cxOf (L2.CX P w) P w K mg base N_is_ahead "is_ahead" (defScope s_is_ahead) f cdv A outer s H E) B W) : DSs (cxOf (L2.CX P w) P w K mg base N_is_ahead "is_ahead" (defScope s_is_ahead) f cdv A outer s H E) B (defBody s_is_ahead) (rd_is_ahead sp_rank W) :=
    (dss_one (ds_ret (d_lt (d_call F_rank b_rank hr tk (da_cons (d_v 0) (da_cons (d_v 1) (da_cons (d_v 2) da_nil)))) (d_call F_rank b_rank hr tk (da_cons (d_v 0) (da_cons (d_v 1) (da_cons (d_v 3) da_nil)))))))
theorem fn_is_ahead {P : Program} {w : World} {K : PySem.W.Frag} {mg : Str → Option Value} {base : Heap} {k : Nat} (F_rank : Fn P w K mg base k "rank" s_rank ["hall", "place", "person"] sp_rank) {f : Addr} {fd : FuncData} (F : Fun K "is_ahead" "is_ahead" s_is_ahead f fd) (hm : mg "is_ahead" = some (.ref f)) : Fn P w K mg base (k + 1) "is_ahead" s_is_ahead ["hall", "place", "one", "other"] sp_is_ahead :=
  ⟨f, fd, "is_ahead", F, hm, dl_fn F sc_is_ahead (rd_is_ahead sp_rank) fun cdv A outer s H E B W hr tk => ds_is_ahead  F_rank f cdv A outer s H E B W hr tk⟩
/-! ### is_dealing -/
abbrev s_is_dealing : Stmt := topS 8
abbrev N_is_dealing : List Str := ["hall", "value", "one"]
theorem sc_is_dealing : FnScope N_is_dealing ["hall", "value"] (defScope s_is_dealing) := ⟨rfl, rfl, rfl, by decide +kernel, rfl, by decide +kernel, by decide +kernel⟩
theorem b_is_dealing : BindP "is_dealing" s_is_dealing ["hall", "value"] := fun _ _ _ _ _ _ _ us hl => match us, hl with | [_, _], _ => rfl
def rd_is_dealing (sp_people_in : SpD) (sp_is_index : SpD) (W : XW) : RS :=
    (sSeq (sIf (dOr (dNot (dTest (dIsi "tuple" (dVar 1)))) (dTest (dOp oNe (dCB oLen (dCons (dVar 1) dNil)) (dCall sp_people_in W (dCons (dVar 0) dNil))))) (sRet (dC (.bl false))) sNext)
    (sRet (dCB oAll (dCons (dLcB false (iSeq (dVar 1)) (gN 2) cNil (dOrV (dOp (oIs false) (dVar 2) (dC .non)) (dCall sp_is_index W0 (dCons (dVar 2) (dCons (dCB oLen (dCons (dVar 0) dNil)) dNil)))) [2]) dNil))))
def sp_is_dealing : SpD := spOf N_is_dealing (rd_is_dealing sp_people_in sp_is_index)
theorem ds_is_dealing {P : Program} {w : World} {K : PySem.W.Frag} {mg : Str → Option Value} {base : Heap} {k : Nat} (m_all : mg "all" = none) (m_isinstance : mg "isinstance" = none) (m_len : mg "len" = none) (m_tuple : mg "tuple" = none)  {sp_people_in : SpD} {sp_is_index : SpD} (F_people_in : Fn P w K mg base k "people_in" s_people_in ["hall"] sp_people_in) (F_is_index : Fn P w K mg base k "is_index" s_is_index ["value", "many"] sp_is_index)
    (f : Addr) (cdv : Value) (A : Around) (outer : List Env) (s : Shared) (H : Hp) (E : XK) (B : BS) (W : XW) (hr : Room k (A.deeper (envOfC "is_dealing" (defScope s_is_dealing) s.heap.objs.size f cdv)))
    (tk : TakesD (cxOf (L2.CX P w) P w K mg base N_is_dealing "is_dealing" (defScope s_is_dealing) f cdv A outer s H E) B W) : DSs (cxOf (L2.CX P w) P w K mg base N_is_dealing "is_dealing" (defScope s_is_dealing) f cdv A outer s H E) B (defBody s_is_dealing) (rd_is_dealing sp_people_in sp_is_index W) :=
    (dss_cons (ds_if (dw_pt (dw_or (dt_not (d_val (d_isi m_isinstance (d_v 1) m_tuple (by decide +kernel)))) (dw_or1 (dt_ne hr (d_len m_len (da_cons (d_v 1) da_nil)) (d_call F_people_in b_people_in hr tk (da_cons (d_v 0) da_nil)))))) (dss_one (ds_ret d_bl)) dss_nil)
    (dss_one (ds_ret (d_all rfl m_all (da_cons (de_lc false rfl sc_is_dealing.nd (blk_of (own := [("one", 2)]) (by kernel_rfl)) (di_seq (d_v 1)) (fun _ _ _ _ _ => ⟨(dg_n (i := 2) sc_is_dealing.nd rfl (by first | exact .inl rfl | exact .inr rfl) (by decide)), dts_nil, (de_or (d_is (d_v 2) d_non) (de_one (d_call F_is_index b_is_index hr takes0D (da_cons (d_v 2) (da_cons (d_len m_len (da_cons (d_v 0) da_nil)) da_nil)))))⟩)) da_nil)))))
theorem fn_is_dealing {P : Program} {w : World} {K : PySem.W.Frag} {mg : Str → Option Value} {base : Heap} {k : Nat} (m_all : mg "all" = none) (m_isinstance : mg "isinstance" = none) (m_len : mg "len" = none) (m_tuple : mg "tuple" = none) (F_people_in : Fn P w K mg base k "people_in" s_people_in ["hall"] sp_people_in) (F_is_index : Fn P w K mg base k "is_index" s_is_index ["value", "many"] sp_is_index) {f : Addr} {fd : FuncData} (F : Fun K "is_dealing" "is_dealing" s_is_dealing f fd) (hm : mg "is_dealing" = some (.ref f)) : Fn P w K mg base (k + 1) "is_dealing" s_is_dealing ["hall", "value"] sp_is_dealing :=
  ⟨f, fd, "is_dealing", F, hm, dl_fn F sc_is_dealing (rd_is_dealing sp_people_in sp_is_index) fun cdv A outer s H E B W hr tk => ds_is_dealing m_all m_isinstance m_len m_tuple F_people_in F_is_index f cdv A outer s H E B W hr tk⟩
/-! ### those_at -/
abbrev s_those_at : Stmt := topS 9
abbrev N_those_at : List Str := ["dealing", "place", "person", "one"]
theorem sc_those_at : FnScope N_those_at ["dealing", "place"] (defScope s_those_at) := ⟨rfl, rfl, rfl, by decide +kernel, rfl, by decide +kernel, by decide +kernel⟩
theorem b_those_at : BindP "those_at" s_those_at ["dealing", "place"] := fun _ _ _ _ _ _ _ us hl => match us, hl with | [_, _], _ => rfl
def rd_those_at (W : XW) : RS :=
    (sRet (dCB oTuple (dCons (dLcB false (iEnu (dVar 0)) (gTup 2 (gCo (gN 2) (gCo (gN 3) gNi))) (dTest (dOp oEq (dVar 3) (dVar 1))) (dVar 2) [2, 3]) dNil)))
def sp_those_at : SpD := spOf N_those_at (rd_those_at)
theorem ds_those_at {P : Program} {w : World} {K : PySem.W.Frag} {mg : Str → Option Value} {base : Heap} {k : Nat} (m_enumerate : mg "enumerate" = none) (m_tuple : mg "tuple" = none)   
    (f : Addr) (cdv : Value) (A : Around) (outer : List Env) (s : Shared) (H : Hp) (E : XK) (B : BS) (W : XW) (hr : Room k (A.deeper (envOfC "those_at" (defScope s_those_at) s.heap.objs.size f cdv)))
    (tk : TakesD (cxOf (L2.CX P w) P w K mg base N_those_at "those_at" (defScope s_those_at) f cdv A outer s H E) B W) : DSs (cxOf (L2.CX P w) P w K mg base N_those_at "those_at" (defScope s_those_at) f cdv A outer s H E) B (defBody s_those_at) (rd_those_at W) :=
    (dss_one (ds_ret (d_tuple m_tuple (da_cons (de_lc false rfl sc_those_at.nd (blk_of (own := [("person", 2), ("one", 3)]) (by kernel_rfl)) (di_enum m_enumerate (d_v 0)) (fun _ _ _ _ _ => ⟨(dg_tupA rfl (dgs_cons (dg_n (i := 2) sc_those_at.nd rfl (by first | exact .inl rfl | exact .inr rfl) (by decide)) (dgs_cons (dg_n (i := 3) sc_those_at.nd rfl (by first | exact .inl rfl | exact .inr rfl) (by decide)) dgs_nil))), (dts_one (dt_eq hr (d_v 3) (d_v 1))), (d_v 2)⟩)) da_nil))))
theorem fn_those_at {P : Program} {w : World} {K : PySem.W.Frag} {mg : Str → Option Value} {base : Heap} {k : Nat} (m_enumerate : mg "enumerate" = none) (m_tuple : mg "tuple" = none) {f : Addr} {fd : FuncData} (F : Fun K "those_at" "those_at" s_those_at f fd) (hm : mg "those_at" = some (.ref f)) : Fn P w K mg base (k + 1) "those_at" s_those_at ["dealing", "place"] sp_those_at :=
  ⟨f, fd, "those_at", F, hm, dl_fn F sc_those_at (rd_those_at) fun cdv A outer s H E B W hr tk => ds_those_at m_enumerate m_tuple  f cdv A outer s H E B W hr tk⟩
/-! ### filled -/
abbrev s_filled : Stmt := topS 10
abbrev N_filled : List Str := ["hall", "dealing", "place"]
theorem sc_filled : FnScope N_filled ["hall", "dealing"] (defScope s_filled) := ⟨rfl, rfl, rfl, by decide +kernel, rfl, by decide +kernel, by decide +kernel⟩
theorem b_filled : BindP "filled" s_filled ["hall", "dealing"] := fun _ _ _ _ _ _ _ us hl => match us, hl with | [_, _], _ => rfl
def rd_filled (sp_those_at : SpD) (W : XW) : RS :=
    (sRet (dCB oTuple (dCons (dLcB false (iR1 (dCB oLen (dCons (dVar 0) dNil))) (gN 2) cNil (dCB oLen (dCons (dCall sp_those_at W0 (dCons (dVar 1) (dCons (dVar 2) dNil))) dNil)) [2]) dNil)))
def sp_filled : SpD := spOf N_filled (rd_filled sp_those_at)
theorem ds_filled {P : Program} {w : World} {K : PySem.W.Frag} {mg : Str → Option Value} {base : Heap} {k : Nat} (m_len : mg "len" = none) (m_range : mg "range" = none) (m_tuple : mg "tuple" = none)  {sp_those_at : SpD} (F_those_at : Fn P w K mg base k "those_at" s_those_at ["dealing", "place"] sp_those_at)
    (f : Addr) (cdv : Value) (A : Around) (outer : List Env) (s : Shared) (H : Hp) (E : XK) (B : BS) (W : XW) (hr : Room k (A.deeper (envOfC "filled" (defScope s_filled) s.heap.objs.size f cdv)))
    (tk : TakesD (cxOf (L2.CX P w) P w K mg base N_filled "filled" (defScope s_filled) f cdv A outer s H E) B W) : DSs (cxOf (L2.CX P w) P w K mg base N_filled "filled" (defScope s_filled) f cdv A outer s H E) B (defBody s_filled) (rd_filled sp_those_at W) :=
    (dss_one (ds_ret (d_tuple m_tuple (da_cons (de_lc false rfl sc_filled.nd (blk_of (own := [("place", 2)]) (by kernel_rfl)) (di_range1 m_range (d_len m_len (da_cons (d_v 0) da_nil))) (fun _ _ _ _ _ => ⟨(dg_n (i := 2) sc_filled.nd rfl (by first | exact .inl rfl | exact .inr rfl) (by decide)), dts_nil, (d_len m_len (da_cons (d_call F_those_at b_those_at hr takes0D (da_cons (d_v 1) (da_cons (d_v 2) da_nil))) da_nil))⟩)) da_nil))))
theorem fn_filled {P : Program} {w : World} {K : PySem.W.Frag} {mg : Str → Option Value} {base : Heap} {k : Nat} (m_len : mg "len" = none) (m_range : mg "range" = none) (m_tuple : mg "tuple" = none) (F_those_at : Fn P w K mg base k "those_at" s_those_at ["dealing", "place"] sp_those_at) {f : Addr} {fd : FuncData} (F : Fun K "filled" "filled" s_filled f fd) (hm : mg "filled" = some (.ref f)) : Fn P w K mg base (k + 1) "filled" s_filled ["hall", "dealing"] sp_filled :=
  ⟨f, fd, "filled", F, hm, dl_fn F sc_filled (rd_filled sp_those_at) fun cdv A outer s H E B W hr tk => ds_filled m_len m_range m_tuple F_those_at f cdv A outer s H E B W hr tk⟩
/-! ### fits -/
abbrev s_fits : Stmt := topS 11
abbrev N_fits : List Str := ["hall", "wishes", "dealing", "many", "place", "person"]
theorem sc_fits : FnScope N_fits ["hall", "wishes", "dealing"] (defScope s_fits) := ⟨rfl, rfl, rfl, by decide +kernel, rfl, by decide +kernel, by decide +kernel⟩
theorem b_fits : BindP "fits" s_fits ["hall", "wishes", "dealing"] := fun _ _ _ _ _ _ _ us hl => match us, hl with | [_, _, _], _ => rfl
def rd_fits (sp_filled : SpD) (W : XW) : RS :=
    (sSeq (sIf (dNot (dTest (dCB oAll (dCons (dLcB false (iEnu (dVar 2)) (gTup 2 (gCo (gN 5) (gCo (gN 4) gNi))) cNil (dOrV (dOp (oIs false) (dVar 4) (dC .non)) (dOp (oInN false) (dVar 4) (dOp oIx (dVar 1) (dVar 5)))) [4, 5]) dNil)))) (sRet (dC (.bl false))) sNext)
    (sRet (dCB oAll (dCons (dLcB false (iZip2 (dCall sp_filled W (dCons (dVar 0) (dCons (dVar 2) dNil))) (dVar 0)) (gTup 2 (gCo (gN 3) (gCo (gN 4) gNi))) cNil (dOp oLe (dVar 3) (dOp oIx (dVar 4) (dC (.int 0)))) [3, 4]) dNil))))
def sp_fits : SpD := spOf N_fits (rd_fits sp_filled)
theorem ds_fits {P : Program} {w : World} {K : PySem.W.Frag} {mg : Str → Option Value} {base : Heap} {k : Nat} (m_all : mg "all" = none) (m_enumerate : mg "enumerate" = none) (m_zip : mg "zip" = none)  {sp_filled : SpD} (F_filled : Fn P w K mg base k "filled" s_filled ["hall", "dealing"] sp_filled)
    (f : Addr) (cdv : Value) (A : Around) (outer : List Env) (s : Shared) (H : Hp) (E : XK) (B : BS) (W : XW) (hr : Room k (A.deeper (envOfC "fits" (defScope s_fits) s.heap.objs.size f cdv)))
    (tk : TakesD (cxOf (L2.CX P w) P w K mg base N_fits "fits" (defScope s_fits) f cdv A outer s H E) B W) : DSs (cxOf (L2.CX P w) P w K mg base N_fits "fits" (defScope s_fits) f cdv A outer s H E) B (defBody s_fits) (rd_fits sp_filled W) :=
    (dss_cons (ds_if (dt_not (d_val (d_all rfl m_all (da_cons (de_lc false rfl sc_fits.nd (blk_of (own := [("place", 4), ("person", 5)]) (by kernel_rfl)) (di_enum m_enumerate (d_v 2)) (fun _ _ _ _ _ => ⟨(dg_tupA rfl (dgs_cons (dg_n (i := 5) sc_fits.nd rfl (by first | exact .inl rfl | exact .inr rfl) (by decide)) (dgs_cons (dg_n (i := 4) sc_fits.nd rfl (by first | exact .inl rfl | exact .inr rfl) (by decide)) dgs_nil))), dts_nil, (de_or (d_is (d_v 4) d_non) (de_one (d_in hr (d_v 4) (d_ix (d_v 1) (d_v 5)))))⟩)) da_nil)))) (dss_one (ds_ret d_bl)) dss_nil)
    (dss_one (ds_ret (d_all rfl m_all (da_cons (de_lc false rfl sc_fits.nd (blk_of (own := [("many", 3), ("place", 4)]) (by kernel_rfl)) (di_zip m_zip (d_call F_filled b_filled hr tk (da_cons (d_v 0) (da_cons (d_v 2) da_nil))) (d_v 0)) (fun _ _ _ _ _ => ⟨(dg_tupA rfl (dgs_cons (dg_n (i := 3) sc_fits.nd rfl (by first | exact .inl rfl | exact .inr rfl) (by decide)) (dgs_cons (dg_n (i := 4) sc_fits.nd rfl (by first | exact .inl rfl | exact .inr rfl) (by decide)) dgs_nil))), dts_nil, (d_le (d_v 3) (d_ix (d_v 4) d_int))⟩)) da_nil)))))
theorem fn_fits {P : Program} {w : World} {K : PySem.W.Frag} {mg : Str → Option Value} {base : Heap} {k : Nat} (m_all : mg "all" = none) (m_enumerate : mg "enumerate" = none) (m_zip : mg "zip" = none) (F_filled : Fn P w K mg base k "filled" s_filled ["hall", "dealing"] sp_filled) {f : Addr} {fd : FuncData} (F : Fun K "fits" "fits" s_fits f fd) (hm : mg "fits" = some (.ref f)) : Fn P w K mg base (k + 1) "fits" s_fits ["hall", "wishes", "dealing"] sp_fits :=
  ⟨f, fd, "fits", F, hm, dl_fn F sc_fits (rd_fits sp_filled) fun cdv A outer s H E B W hr tk => ds_fits m_all m_enumerate m_zip F_filled f cdv A outer s H E B W hr tk⟩
/-! ### place_in_list -/
abbrev s_place_in_list : Stmt := topS 12
abbrev N_place_in_list : List Str := ["wishes", "person", "x"]
theorem sc_place_in_list : FnScope N_place_in_list ["wishes", "person", "x"] (defScope s_place_in_list) := ⟨rfl, rfl, rfl, by decide +kernel, rfl, by decide +kernel, by decide +kernel⟩
theorem b_place_in_list : BindP "place_in_list" s_place_in_list ["wishes", "person", "x"] := fun _ _ _ _ _ _ _ us hl => match us, hl with | [_, _, _], _ => rfl
def rd_place_in_list (W : XW) : RS :=
    (sSeq (sIf (dTest (dOp (oIs false) (dVar 2) (dC .non))) (sRet (dCB oLen (dCons (dOp oIx (dVar 0) (dVar 1)) dNil))) sNext)
    (sRet (dIf (dTest (dOp (oInN false) (dVar 2) (dOp oIx (dVar 0) (dVar 1)))) (dMt oIdxT (dOp oIx (dVar 0) (dVar 1)) (dCons (dVar 2) dNil)) (dOp oAdd (dCB oLen (dCons (dOp oIx (dVar 0) (dVar 1)) dNil)) (dC (.int 1))))))
def sp_place_in_list : SpD := spOf N_place_in_list (rd_place_in_list)
theorem ds_place_in_list {P : Program} {w : World} {K : PySem.W.Frag} {mg : Str → Option Value} {base : Heap} {k : Nat} (m_len : mg "len" = none)   
    (f : Addr) (cdv : Value) (A : Around) (outer : List Env) (s : Shared) (H : Hp) (E : XK) (B : BS) (W : XW) (hr : Room k (A.deeper (envOfC "place_in_list" (defScope s_place_in_list) s.heap.objs.size f cdv)))
    (tk : TakesD (cxOf (L2.CX P w) P w K mg base N_place_in_list "place_in_list" (defScope s_place_in_list) f cdv A outer s H E) B W) : DSs (cxOf (L2.CX P w) P w K mg base N_place_in_list "place_in_list" (defScope s_place_in_list) f cdv A outer s H E) B (defBody s_place_in_list) (rd_place_in_list W) :=
    (dss_cons (ds_if (dt_is (d_v 2) d_non) (dss_one (ds_ret (d_len m_len (da_cons (d_ix (d_v 0) (d_v 1)) da_nil)))) dss_nil)
    (dss_one (ds_ret (de_if (dt_in hr (d_v 2) (d_ix (d_v 0) (d_v 1))) (d_indexT (d_ix (d_v 0) (d_v 1)) (da_cons (d_v 2) da_nil)) (d_add (d_len m_len (da_cons (d_ix (d_v 0) (d_v 1)) da_nil)) d_int)))))
theorem fn_place_in_list {P : Program} {w : World} {K : PySem.W.Frag} {mg : Str → Option Value} {base : Heap} {k : Nat} (m_len : mg "len" = none) {f : Addr} {fd : FuncData} (F : Fun K "place_in_list" "place_in_list" s_place_in_list f fd) (hm : mg "place_in_list" = some (.ref f)) : Fn P w K mg base (k + 1) "place_in_list" s_place_in_list ["wishes", "person", "x"] sp_place_in_list :=
  ⟨f, fd, "place_in_list", F, hm, dl_fn F sc_place_in_list (rd_place_in_list) fun cdv A outer s H E B W hr tk => ds_place_in_list m_len  f cdv A outer s H E B W hr tk⟩
/-! ### likes_better -/
abbrev s_likes_better : Stmt := topS 13
abbrev N_likes_better : List Str := ["wishes", "person", "one", "other"]
theorem sc_likes_better : FnScope N_likes_better ["wishes", "person", "one", "other"] (defScope s_likes_better) := ⟨rfl, rfl, rfl, by decide +kernel, rfl, by decide +kernel, by decide +kernel⟩
theorem b_likes_better : BindP "likes_better" s_likes_better ["wishes", "person", "one", "other"] := fun _ _ _ _ _ _ _ us hl => match us, hl with | [_, _, _, _], _ => rfl
def rd_likes_better (sp_place_in_list : SpD) (W : XW) : RS :=
    (sRet (dOp oLt (dCall sp_place_in_list W (dCons (dVar 0) (dCons (dVar 1) (dCons (dVar 2) dNil)))) (dCall sp_place_in_list W (dCons (dVar 0) (dCons (dVar 1) (dCons (dVar 3) dNil))))))
def sp_likes_better : SpD := spOf N_likes_better (rd_likes_better sp_place_in_list)
theorem ds_likes_better {P : Program} {w : World} {K : PySem.W.Frag} {mg : Str → Option Value} {base : Heap} {k : Nat}   {sp_place_in_list : SpD} (F_place_in_list : Fn P w K mg base k "place_in_list" s_place_in_list ["wishes", "person", "x"] sp_place_in_list)
    (f : Addr) (cdv : Value) (A : Around) (outer : List Env) (s : Shared) (H : Hp) (E : XK) (B : BS) (W : XW) (hr : Room k (A.deeper (envOfC "likes_better" (defScope s_likes_better) s.heap.objs.size f cdv)))
    (tk : TakesD (cxOf (L2.CX P w) P w K mg base N_likes_better "likes_better" (defScope s_likes_better) f cdv A outer s H E) B W) : DSs (cxOf (L2.CX P w) P w K mg base N_likes_better "likes_better" (defScope s_likes_better) f cdv A outer s H E) B (defBody s_likes_better) (rd_likes_better sp_place_in_list W) :=
    (dss_one (ds_ret (d_lt (d_call F_place_in_list b_place_in_list hr tk (da_cons (d_v 0) (da_cons (d_v 1) (da_cons (d_v 2) da_nil)))) (d_call F_place_in_list b_place_in_list hr tk (da_cons (d_v 0) (da_cons (d_v 1) (da_cons (d_v 3) da_nil)))))))
theorem fn_likes_better {P : Program} {w : World} {K : PySem.W.Frag} {mg : Str → Option Value} {base : Heap} {k : Nat} (F_place_in_list : Fn P w K mg base k "place_in_list" s_place_in_list ["wishes", "person", "x"] sp_place_in_list) {f : Addr} {fd : FuncData} (F : Fun K "likes_better" "likes_better" s_likes_better f fd) (hm : mg "likes_better" = some (.ref f)) : Fn P w K mg base (k + 1) "likes_better" s_likes_better ["wishes", "person", "one", "other"] sp_likes_better :=
  ⟨f, fd, "likes_better", F, hm, dl_fn F sc_likes_better (rd_likes_better sp_place_in_list) fun cdv A outer s H E B W hr tk => ds_likes_better  F_place_in_list f cdv A outer s H E B W hr tk⟩
/-! ### last_of -/
abbrev s_last_of : Stmt := topS 15
abbrev N_last_of : List Str := ["hall", "place", "people", "person"]
theorem sc_last_of : FnScope N_last_of ["hall", "place", "people"] (defScope s_last_of) := ⟨rfl, rfl, rfl, by decide +kernel, rfl, by decide +kernel, by decide +kernel⟩
theorem b_last_of : BindP "last_of" s_last_of ["hall", "place", "people"] := fun _ _ _ _ _ _ _ us hl => match us, hl with | [_, _, _], _ => rfl
def rd_last_of (sp_rank : SpD) (W : XW) : RS :=
    (sRet (dOp oIx (dCB oMaxA (dCons (dLcB false (iSeq (dVar 2)) (gN 3) cNil (dTup (dCons (dCall sp_rank W0 (dCons (dVar 0) (dCons (dVar 1) (dCons (dVar 3) dNil)))) (dCons (dVar 3) dNil))) [3]) dNil)) (dC (.int 1))))
def sp_last_of : SpD := spOf N_last_of (rd_last_of sp_rank)
theorem ds_last_of {P : Program} {w : World} {K : PySem.W.Frag} {mg : Str → Option Value} {base : Heap} {k : Nat} (m_max : mg "max" = none)  {sp_rank : SpD} (F_rank : Fn P w K mg base k "rank" s_rank ["hall", "place", "person"] sp_rank)
    (f : Addr) (cdv : Value) (A : Around) (outer : List Env) (s : Shared) (H : Hp) (E : XK) (B : BS) (W : XW) (hr : Room k (A.deeper (envOfC "last_of" (defScope s_last_of) s.heap.objs.size f cdv)))
    (tk : TakesD (cxOf (L2.CX P w) P w K mg base N_last_of "last_of" (defScope s_last_of) f cdv A outer s H E) B W) : DSs (cxOf (L2.CX P w) P w K mg base N_last_of "last_of" (defScope s_last_of) f cdv A outer s H E) B (defBody s_last_of) (rd_last_of sp_rank W) :=
    (dss_one (ds_ret (d_ix (d_maxA hr rfl m_max (da_cons (de_lc false rfl sc_last_of.nd (blk_of (own := [("person", 3)]) (by kernel_rfl)) (di_seq (d_v 2)) (fun _ _ _ _ _ => ⟨(dg_n (i := 3) sc_last_of.nd rfl (by first | exact .inl rfl | exact .inr rfl) (by decide)), dts_nil, (d_tup (da_cons (d_call F_rank b_rank hr takes0D (da_cons (d_v 0) (da_cons (d_v 1) (da_cons (d_v 3) da_nil)))) (da_cons (d_v 3) da_nil)))⟩)) da_nil)) d_int)))
theorem fn_last_of {P : Program} {w : World} {K : PySem.W.Frag} {mg : Str → Option Value} {base : Heap} {k : Nat} (m_max : mg "max" = none) (F_rank : Fn P w K mg base k "rank" s_rank ["hall", "place", "person"] sp_rank) {f : Addr} {fd : FuncData} (F : Fun K "last_of" "last_of" s_last_of f fd) (hm : mg "last_of" = some (.ref f)) : Fn P w K mg base (k + 1) "last_of" s_last_of ["hall", "place", "people"] sp_last_of :=
  ⟨f, fd, "last_of", F, hm, dl_fn F sc_last_of (rd_last_of sp_rank) fun cdv A outer s H E B W hr tk => ds_last_of m_max F_rank f cdv A outer s H E B W hr tk⟩
/-! ### people_best -/
abbrev s_people_best : Stmt := topS 16
abbrev N_people_best : List Str := ["hall", "wishes", "free", "found", "at", "person", "place", "held", "last", "one", "where"]
theorem sc_people_best : FnScope N_people_best ["hall", "wishes"] (defScope s_people_best) := ⟨rfl, rfl, rfl, by decide +kernel, rfl, by decide +kernel, by decide +kernel⟩
theorem b_people_best : BindP "people_best" s_people_best ["hall", "wishes"] := fun _ _ _ _ _ _ _ us hl => match us, hl with | [_, _], _ => rfl
def rd_people_best (sp_last_of : SpD) (W : XW) : RS :=
    (sSeq (sPar 3 4 (dCons (dOp oMulC (dLst (dCons (dC .non) dNil)) (dCB oLen (dCons (dVar 1) dNil))) (dCons (dOp oMulC (dLst (dCons (dC (.int 0)) dNil)) (dCB oLen (dCons (dVar 1) dNil))) dNil)))
    (sSeq (sSet 2 (dLstR true (rR1 (dCB oLen (dCons (dVar 1) dNil)))))
    (sSeq (sWhile (dTest (dOp oNe (dVar 2) (dLst dNil))) (sSeq (sSet 5 (dMl0 oPop (dVar 2)))
    (sSeq (sIf (dTest (dOp oEq (dOp oIx (dVar 4) (dVar 5)) (dCB oLen (dCons (dOp oIx (dVar 1) (dVar 5)) dNil)))) sCnt sNext)
    (sSeq (sSet 6 (dOp oIx (dOp oIx (dVar 1) (dVar 5)) (dOp oIx (dVar 4) (dVar 5))))
    (sSeq (sAugS (oI fun i j => .int (i + j)) (dVar 4) (dVar 5) (dC (.int 1)))
    (sSeq (sAsg (dVar 6) (gSb (dVar 3) (dVar 5)))
    (sSeq (sSet 7 (dLcB false (iEnu (dVar 3)) (gTup 2 (gCo (gN 9) (gCo (gN 10) gNi))) (dTest (dOp oEq (dVar 10) (dVar 6))) (dVar 9) [9, 10]))
    (sIf (dTest (dOp oGt (dCB oLen (dCons (dVar 7) dNil)) (dOp oIx (dOp oIx (dVar 0) (dVar 6)) (dC (.int 0))))) (sSeq (sSet 8 (dCall sp_last_of W (dCons (dVar 0) (dCons (dVar 6) (dCons (dVar 7) dNil)))))
    (sSeq (sAsg (dC .non) (gSb (dVar 3) (dVar 8)))
    (sDrop (dMl oApp (dVar 2) (dCons (dVar 8) dNil))))) sNext))))))))
    (sRet (dCB oTuple (dCons (dVar 3) dNil))))))
def sp_people_best : SpD := spOf N_people_best (rd_people_best sp_last_of)
theorem ds_people_best {P : Program} {w : World} {K : PySem.W.Frag} {mg : Str → Option Value} {base : Heap} {k : Nat} (m_enumerate : mg "enumerate" = none) (m_len : mg "len" = none) (m_list : mg "list" = none) (m_range : mg "range" = none) (m_tuple : mg "tuple" = none)  {sp_last_of : SpD} (F_last_of : Fn P w K mg base k "last_of" s_last_of ["hall", "place", "people"] sp_last_of)
    (f : Addr) (cdv : Value) (A : Around) (outer : List Env) (s : Shared) (H : Hp) (E : XK) (B : BS) (W : XW) (hr : Room k (A.deeper (envOfC "people_best" (defScope s_people_best) s.heap.objs.size f cdv)))
    (tk : TakesD (cxOf (L2.CX P w) P w K mg base N_people_best "people_best" (defScope s_people_best) f cdv A outer s H E) B W) : DSs (cxOf (L2.CX P w) P w K mg base N_people_best "people_best" (defScope s_people_best) f cdv A outer s H E) B (defBody s_people_best) (rd_people_best sp_last_of W) :=
    (dss_cons (ds_par (i := 3) (j := 4) rfl sc_people_best.nd rfl rfl (by decide) rfl rfl (da_cons (d_mulC (d_lst (da_cons d_non da_nil)) (d_len m_len (da_cons (d_v 1) da_nil))) (da_cons (d_mulC (d_lst (da_cons d_int da_nil)) (d_len m_len (da_cons (d_v 1) da_nil))) da_nil)))
    (dss_cons (ds_set (i := 2) sc_people_best.nd rfl (.inl rfl) (d_listR true rfl m_list (dr_1 m_range (d_len m_len (da_cons (d_v 1) da_nil)))))
    (dss_cons (ds_while (passes_of rfl) (dt_ne hr (d_v 2) (d_lst da_nil)) (dss_cons (ds_set (i := 5) sc_people_best.nd rfl (.inl rfl) (d_pop (d_v 2)))
    (dss_cons (ds_if (dt_eq hr (d_ix (d_v 4) (d_v 5)) (d_len m_len (da_cons (d_ix (d_v 1) (d_v 5)) da_nil))) (dss_one ds_cont) dss_nil)
    (dss_cons (ds_set (i := 6) sc_people_best.nd rfl (.inr rfl) (d_ix (d_ix (d_v 1) (d_v 5)) (d_ix (d_v 4) (d_v 5))))
    (dss_cons (ds_augSA (d_v 4) (d_v 5) d_int)
    (dss_cons (ds_asg (vs := []) (d_v 6) (dg_sub (d_v 3) (d_v 5)))
    (dss_cons (ds_setLc false rfl sc_people_best.nd (blk_of (own := [("one", 9), ("where", 10)]) (by kernel_rfl)) (i := 7) rfl rfl (di_enum m_enumerate (d_v 3)) (fun _ _ _ _ _ => ⟨(dg_tupA rfl (dgs_cons (dg_n (i := 9) sc_people_best.nd rfl (by first | exact .inl rfl | exact .inr rfl) (by decide)) (dgs_cons (dg_n (i := 10) sc_people_best.nd rfl (by first | exact .inl rfl | exact .inr rfl) (by decide)) dgs_nil))), (dts_one (dt_eq hr (d_v 10) (d_v 6))), (d_v 9)⟩))
    (dss_one (ds_if (dt_gt (d_len m_len (da_cons (d_v 7) da_nil)) (d_ix (d_ix (d_v 0) (d_v 6)) d_int)) (dss_cons (ds_set (i := 8) sc_people_best.nd rfl (.inl rfl) (d_call F_last_of b_last_of hr tk (da_cons (d_v 0) (da_cons (d_v 6) (da_cons (d_v 7) da_nil)))))
    (dss_cons (ds_asg (vs := []) d_non (dg_sub (d_v 3) (d_v 8)))
    (dss_one (ds_expr (d_append (d_v 2) (da_cons (d_v 8) da_nil)))))) dss_nil)))))))))
    (dss_one (ds_ret (d_tuple m_tuple (da_cons (d_v 3) da_nil)))))))
theorem fn_people_best {P : Program} {w : World} {K : PySem.W.Frag} {mg : Str → Option Value} {base : Heap} {k : Nat} (m_enumerate : mg "enumerate" = none) (m_len : mg "len" = none) (m_list : mg "list" = none) (m_range : mg "range" = none) (m_tuple : mg "tuple" = none) (F_last_of : Fn P w K mg base k "last_of" s_last_of ["hall", "place", "people"] sp_last_of) {f : Addr} {fd : FuncData} (F : Fun K "people_best" "people_best" s_people_best f fd) (hm : mg "people_best" = some (.ref f)) : Fn P w K mg base (k + 1) "people_best" s_people_best ["hall", "wishes"] sp_people_best :=
  ⟨f, fd, "people_best", F, hm, dl_fn F sc_people_best (rd_people_best sp_last_of) fun cdv A outer s H E B W hr tk => ds_people_best m_enumerate m_len m_list m_range m_tuple F_last_of f cdv A outer s H E B W hr tk⟩
/-! ### cut_short -/
abbrev s_cut_short : Stmt := topS 18
abbrev N_cut_short : List Str := ["wishes", "most", "wished"]
theorem sc_cut_short : FnScope N_cut_short ["wishes", "most"] (defScope s_cut_short) := ⟨rfl, rfl, rfl, by decide +kernel, rfl, by decide +kernel, by decide +kernel⟩
theorem b_cut_short : BindP "cut_short" s_cut_short ["wishes", "most"] := fun _ _ _ _ _ _ _ us hl => match us, hl with | [_, _], _ => rfl
def rd_cut_short (W : XW) : RS :=
    (sRet (dCB oTuple (dCons (dLcB false (iSeq (dVar 0)) (gN 2) cNil (dSl oSl (dVar 2) dNo (dPart (dVar 1))) [2]) dNil)))
def sp_cut_short : SpD := spOf N_cut_short (rd_cut_short)
theorem ds_cut_short {P : Program} {w : World} {K : PySem.W.Frag} {mg : Str → Option Value} {base : Heap} {k : Nat} (m_tuple : mg "tuple" = none)   
    (f : Addr) (cdv : Value) (A : Around) (outer : List Env) (s : Shared) (H : Hp) (E : XK) (B : BS) (W : XW) (hr : Room k (A.deeper (envOfC "cut_short" (defScope s_cut_short) s.heap.objs.size f cdv)))
    (tk : TakesD (cxOf (L2.CX P w) P w K mg base N_cut_short "cut_short" (defScope s_cut_short) f cdv A outer s H E) B W) : DSs (cxOf (L2.CX P w) P w K mg base N_cut_short "cut_short" (defScope s_cut_short) f cdv A outer s H E) B (defBody s_cut_short) (rd_cut_short W) :=
    (dss_one (ds_ret (d_tuple m_tuple (da_cons (de_lc false rfl sc_cut_short.nd (blk_of (own := [("wished", 2)]) (by kernel_rfl)) (di_seq (d_v 0)) (fun _ _ _ _ _ => ⟨(dg_n (i := 2) sc_cut_short.nd rfl (by first | exact .inl rfl | exact .inr rfl) (by decide)), dts_nil, (d_sl (d_v 2) do_no (do_some (d_v 1)))⟩)) da_nil))))
theorem fn_cut_short {P : Program} {w : World} {K : PySem.W.Frag} {mg : Str → Option Value} {base : Heap} {k : Nat} (m_tuple : mg "tuple" = none) {f : Addr} {fd : FuncData} (F : Fun K "cut_short" "cut_short" s_cut_short f fd) (hm : mg "cut_short" = some (.ref f)) : Fn P w K mg base (k + 1) "cut_short" s_cut_short ["wishes", "most"] sp_cut_short :=
  ⟨f, fd, "cut_short", F, hm, dl_fn F sc_cut_short (rd_cut_short) fun cdv A outer s H E B W hr tk => ds_cut_short m_tuple  f cdv A outer s H E B W hr tk⟩
/-! ### with_list -/
abbrev s_with_list : Stmt := topS 19
abbrev N_with_list : List Str := ["wishes", "person", "chosen"]
theorem sc_with_list : FnScope N_with_list ["wishes", "person", "chosen"] (defScope s_with_list) := ⟨rfl, rfl, rfl, by decide +kernel, rfl, by decide +kernel, by decide +kernel⟩
theorem b_with_list : BindP "with_list" s_with_list ["wishes", "person", "chosen"] := fun _ _ _ _ _ _ _ us hl => match us, hl with | [_, _, _], _ => rfl
def rd_with_list (W : XW) : RS :=
    (sRet (dOp oAdd (dOp oAdd (dSl oSl (dVar 0) dNo (dPart (dVar 1))) (dTup (dCons (dVar 2) dNil))) (dSl oSl (dVar 0) (dPart (dOp oAdd (dVar 1) (dC (.int 1)))) dNo)))
def sp_with_list : SpD := spOf N_with_list (rd_with_list)
theorem ds_with_list {P : Program} {w : World} {K : PySem.W.Frag} {mg : Str → Option Value} {base : Heap} {k : Nat}    
    (f : Addr) (cdv : Value) (A : Around) (outer : List Env) (s : Shared) (H : Hp) (E : XK) (B : BS) (W : XW) (hr : Room k (A.deeper (envOfC "with_list" (defScope s_with_list) s.heap.objs.size f cdv)))
    (tk : TakesD (cxOf (L2.CX P w) P w K mg base N_with_list "with_list" (defScope s_with_list) f cdv A outer s H E) B W) : DSs (cxOf (L2.CX P w) P w K mg base N_with_list "with_list" (defScope s_with_list) f cdv A outer s H E) B (defBody s_with_list) (rd_with_list W) :=
    (dss_one (ds_ret (d_add (d_add (d_sl (d_v 0) do_no (do_some (d_v 1))) (d_tup (da_cons (d_v 2) da_nil))) (d_sl (d_v 0) (do_some (d_add (d_v 1) d_int)) do_no))))
theorem fn_with_list {P : Program} {w : World} {K : PySem.W.Frag} {mg : Str → Option Value} {base : Heap} {k : Nat}  {f : Addr} {fd : FuncData} (F : Fun K "with_list" "with_list" s_with_list f fd) (hm : mg "with_list" = some (.ref f)) : Fn P w K mg base (k + 1) "with_list" s_with_list ["wishes", "person", "chosen"] sp_with_list :=
  ⟨f, fd, "with_list", F, hm, dl_fn F sc_with_list (rd_with_list) fun cdv A outer s H E B W hr tk => ds_with_list   f cdv A outer s H E B W hr tk⟩
/-! ### names_enough -/
abbrev s_names_enough : Stmt := topS 20
abbrev N_names_enough : List Str := ["hall", "wishes", "best", "most"]
theorem sc_names_enough : FnScope N_names_enough ["hall", "wishes"] (defScope s_names_enough) := ⟨rfl, rfl, rfl, by decide +kernel, rfl, by decide +kernel, by decide +kernel⟩
theorem b_names_enough : BindP "names_enough" s_names_enough ["hall", "wishes"] := fun _ _ _ _ _ _ _ us hl => match us, hl with | [_, _], _ => rfl
def rd_names_enough (sp_people_best : SpD) (sp_cut_short : SpD) (W : XW) : RS :=
    (sSeq (sSet 2 (dCall sp_people_best W (dCons (dVar 0) (dCons (dVar 1) dNil))))
    (sSeq (sSet 3 (dC (.int 0)))
    (sSeq (sWhile (dTest (dOp oNe (dCall sp_people_best W (dCons (dVar 0) (dCons (dCall sp_cut_short W (dCons (dVar 1) (dCons (dVar 3) dNil))) dNil))) (dVar 2))) (sAug 3 (oI fun i j => .int (i + j)) (dC (.int 1))))
    (sRet (dVar 3)))))
def sp_names_enough : SpD := spOf N_names_enough (rd_names_enough sp_people_best sp_cut_short)
theorem ds_names_enough {P : Program} {w : World} {K : PySem.W.Frag} {mg : Str → Option Value} {base : Heap} {k : Nat}   {sp_people_best : SpD} {sp_cut_short : SpD} (F_people_best : Fn P w K mg base k "people_best" s_people_best ["hall", "wishes"] sp_people_best) (F_cut_short : Fn P w K mg base k "cut_short" s_cut_short ["wishes", "most"] sp_cut_short)
    (f : Addr) (cdv : Value) (A : Around) (outer : List Env) (s : Shared) (H : Hp) (E : XK) (B : BS) (W : XW) (hr : Room k (A.deeper (envOfC "names_enough" (defScope s_names_enough) s.heap.objs.size f cdv)))
    (tk : TakesD (cxOf (L2.CX P w) P w K mg base N_names_enough "names_enough" (defScope s_names_enough) f cdv A outer s H E) B W) : DSs (cxOf (L2.CX P w) P w K mg base N_names_enough "names_enough" (defScope s_names_enough) f cdv A outer s H E) B (defBody s_names_enough) (rd_names_enough sp_people_best sp_cut_short W) :=
    (dss_cons (ds_set (i := 2) sc_names_enough.nd rfl (.inl rfl) (d_call F_people_best b_people_best hr tk (da_cons (d_v 0) (da_cons (d_v 1) da_nil))))
    (dss_cons (ds_set (i := 3) sc_names_enough.nd rfl (.inl rfl) d_int)
    (dss_cons (ds_while (passes_of rfl) (dt_ne hr (d_call F_people_best b_people_best hr tk (da_cons (d_v 0) (da_cons (d_call F_cut_short b_cut_short hr tk (da_cons (d_v 1) (da_cons (d_v 3) da_nil))) da_nil))) (d_v 2)) (dss_one (ds_augAdd (i := 3) sc_names_enough.nd rfl (.inl rfl) d_int)))
    (dss_one (ds_ret (d_v 3))))))
theorem fn_names_enough {P : Program} {w : World} {K : PySem.W.Frag} {mg : Str → Option Value} {base : Heap} {k : Nat} (F_people_best : Fn P w K mg base k "people_best" s_people_best ["hall", "wishes"] sp_people_best) (F_cut_short : Fn P w K mg base k "cut_short" s_cut_short ["wishes", "most"] sp_cut_short) {f : Addr} {fd : FuncData} (F : Fun K "names_enough" "names_enough" s_names_enough f fd) (hm : mg "names_enough" = some (.ref f)) : Fn P w K mg base (k + 1) "names_enough" s_names_enough ["hall", "wishes"] sp_names_enough :=
  ⟨f, fd, "names_enough", F, hm, dl_fn F sc_names_enough (rd_names_enough sp_people_best sp_cut_short) fun cdv A outer s H E B W hr tk => ds_names_enough  F_people_best F_cut_short f cdv A outer s H E B W hr tk⟩
/-! ### shut_out -/
abbrev s_shut_out : Stmt := topS 21
abbrev N_shut_out : List Str := ["hall", "wishes", "most", "cut", "found", "person", "place"]
theorem sc_shut_out : FnScope N_shut_out ["hall", "wishes", "most"] (defScope s_shut_out) := ⟨rfl, rfl, rfl, by decide +kernel, rfl, by decide +kernel, by decide +kernel⟩
theorem b_shut_out : BindP "shut_out" s_shut_out ["hall", "wishes", "most"] := fun _ _ _ _ _ _ _ us hl => match us, hl with | [_, _, _], _ => rfl
def rd_shut_out (sp_cut_short : SpD) (sp_people_best : SpD) (sp_with_list : SpD) (W : XW) : RS :=
    (sSeq (sSet 3 (dCall sp_cut_short W (dCons (dVar 1) (dCons (dVar 2) dNil))))
    (sSeq (sSet 4 (dLstC dNil))
    (sSeq (sFor (iEnu (dCall sp_people_best W (dCons (dVar 0) (dCons (dVar 3) dNil)))) (gTup 2 (gCo (gN 5) (gCo (gN 6) gNi))) (sIf (dAnd (dTest (dOp (oIs false) (dVar 6) (dC .non))) (dTest (dOp (oIs true) (dOp oIx (dCall sp_people_best W (dCons (dVar 0) (dCons (dCall sp_with_list W (dCons (dVar 3) (dCons (dVar 5) (dCons (dOp oIx (dVar 1) (dVar 5)) dNil)))) dNil))) (dVar 5)) (dC .non)))) (sDrop (dMl oApp (dVar 4) (dCons (dVar 5) dNil))) sNext))
    (sRet (dCB oTuple (dCons (dVar 4) dNil))))))
def sp_shut_out : SpD := spOf N_shut_out (rd_shut_out sp_cut_short sp_people_best sp_with_list)
theorem ds_shut_out {P : Program} {w : World} {K : PySem.W.Frag} {mg : Str → Option Value} {base : Heap} {k : Nat} (m_enumerate : mg "enumerate" = none) (m_tuple : mg "tuple" = none)  {sp_cut_short : SpD} {sp_people_best : SpD} {sp_with_list : SpD} (F_cut_short : Fn P w K mg base k "cut_short" s_cut_short ["wishes", "most"] sp_cut_short) (F_people_best : Fn P w K mg base k "people_best" s_people_best ["hall", "wishes"] sp_people_best) (F_with_list : Fn P w K mg base k "with_list" s_with_list ["wishes", "person", "chosen"] sp_with_list)
    (f : Addr) (cdv : Value) (A : Around) (outer : List Env) (s : Shared) (H : Hp) (E : XK) (B : BS) (W : XW) (hr : Room k (A.deeper (envOfC "shut_out" (defScope s_shut_out) s.heap.objs.size f cdv)))
    (tk : TakesD (cxOf (L2.CX P w) P w K mg base N_shut_out "shut_out" (defScope s_shut_out) f cdv A outer s H E) B W) : DSs (cxOf (L2.CX P w) P w K mg base N_shut_out "shut_out" (defScope s_shut_out) f cdv A outer s H E) B (defBody s_shut_out) (rd_shut_out sp_cut_short sp_people_best sp_with_list W) :=
    (dss_cons (ds_set (i := 3) sc_shut_out.nd rfl (.inl rfl) (d_call F_cut_short b_cut_short hr tk (da_cons (d_v 1) (da_cons (d_v 2) da_nil))))
    (dss_cons (ds_set (i := 4) sc_shut_out.nd rfl (.inl rfl) (d_lstC da_nil))
    (dss_cons (ds_for (vs := [5, 6]) (passes_of rfl) rfl (di_enum m_enumerate (d_call F_people_best b_people_best hr tk (da_cons (d_v 0) (da_cons (d_v 3) da_nil)))) (dg_tupA rfl (dgs_cons (dg_n (i := 5) sc_shut_out.nd rfl (by first | exact .inl rfl | exact .inr rfl) (by decide)) (dgs_cons (dg_n (i := 6) sc_shut_out.nd rfl (by first | exact .inl rfl | exact .inr rfl) (by decide)) dgs_nil))) (dss_one (ds_if (dw_pt (dw_and (dt_is (d_v 6) d_non) (dw_and1 (dt_isNot (d_ix (d_call F_people_best b_people_best hr tk (da_cons (d_v 0) (da_cons (d_call F_with_list b_with_list hr tk (da_cons (d_v 3) (da_cons (d_v 5) (da_cons (d_ix (d_v 1) (d_v 5)) da_nil)))) da_nil))) (d_v 5)) d_non)))) (dss_one (ds_expr (d_append (d_v 4) (da_cons (d_v 5) da_nil)))) dss_nil)))
    (dss_one (ds_ret (d_tuple m_tuple (da_cons (d_v 4) da_nil)))))))
theorem fn_shut_out {P : Program} {w : World} {K : PySem.W.Frag} {mg : Str → Option Value} {base : Heap} {k : Nat} (m_enumerate : mg "enumerate" = none) (m_tuple : mg "tuple" = none) (F_cut_short : Fn P w K mg base k "cut_short" s_cut_short ["wishes", "most"] sp_cut_short) (F_people_best : Fn P w K mg base k "people_best" s_people_best ["hall", "wishes"] sp_people_best) (F_with_list : Fn P w K mg base k "with_list" s_with_list ["wishes", "person", "chosen"] sp_with_list) {f : Addr} {fd : FuncData} (F : Fun K "shut_out" "shut_out" s_shut_out f fd) (hm : mg "shut_out" = some (.ref f)) : Fn P w K mg base (k + 1) "shut_out" s_shut_out ["hall", "wishes", "most"] sp_shut_out :=
  ⟨f, fd, "shut_out", F, hm, dl_fn F sc_shut_out (rd_shut_out sp_cut_short sp_people_best sp_with_list) fun cdv A outer s H E B W hr tk => ds_shut_out m_enumerate m_tuple F_cut_short F_people_best F_with_list f cdv A outer s H E B W hr tk⟩
/-! ### would_enter -/
abbrev s_would_enter : Stmt := topS 23
abbrev N_would_enter : List Str := ["hall", "dealing", "person", "place", "held", "one"]
theorem sc_would_enter : FnScope N_would_enter ["hall", "dealing", "person", "place"] (defScope s_would_enter) := ⟨rfl, rfl, rfl, by decide +kernel, rfl, by decide +kernel, by decide +kernel⟩
theorem b_would_enter : BindP "would_enter" s_would_enter ["hall", "dealing", "person", "place"] := fun _ _ _ _ _ _ _ us hl => match us, hl with | [_, _, _, _], _ => rfl
def rd_would_enter (sp_those_at : SpD) (sp_is_ahead : SpD) (W : XW) : RS :=
    (sSeq (sSet 4 (dCall sp_those_at W (dCons (dVar 1) (dCons (dVar 3) dNil))))
    (sRet (dOrV (dOp oLt (dCB oLen (dCons (dVar 4) dNil)) (dOp oIx (dOp oIx (dVar 0) (dVar 3)) (dC (.int 0)))) (dCB oAny (dCons (dLcB false (iSeq (dVar 4)) (gN 5) cNil (dCall sp_is_ahead W0 (dCons (dVar 0) (dCons (dVar 3) (dCons (dVar 2) (dCons (dVar 5) dNil))))) [5]) dNil)))))
def sp_would_enter : SpD := spOf N_would_enter (rd_would_enter sp_those_at sp_is_ahead)
theorem ds_would_enter {P : Program} {w : World} {K : PySem.W.Frag} {mg : Str → Option Value} {base : Heap} {k : Nat} (m_any : mg "any" = none) (m_len : mg "len" = none)  {sp_those_at : SpD} {sp_is_ahead : SpD} (F_those_at : Fn P w K mg base k "those_at" s_those_at ["dealing", "place"] sp_those_at) (F_is_ahead : Fn P w K mg base k "is_ahead" s_is_ahead ["hall", "place", "one", "other"] sp_is_ahead)
    (f : Addr) (cdv : Value) (A : Around) (outer : List Env) (s : Shared) (H : Hp) (E : XK) (B : BS) (W : XW) (hr : Room k (A.deeper (envOfC "would_enter" (defScope s_would_enter) s.heap.objs.size f cdv)))
    (tk : TakesD (cxOf (L2.CX P w) P w K mg base N_would_enter "would_enter" (defScope s_would_enter) f cdv A outer s H E) B W) : DSs (cxOf (L2.CX P w) P w K mg base N_would_enter "would_enter" (defScope s_would_enter) f cdv A outer s H E) B (defBody s_would_enter) (rd_would_enter sp_those_at sp_is_ahead W) :=
    (dss_cons (ds_set (i := 4) sc_would_enter.nd rfl (.inl rfl) (d_call F_those_at b_those_at hr tk (da_cons (d_v 1) (da_cons (d_v 3) da_nil))))
    (dss_one (ds_ret (de_or (d_lt (d_len m_len (da_cons (d_v 4) da_nil)) (d_ix (d_ix (d_v 0) (d_v 3)) d_int)) (de_one (d_any rfl m_any (da_cons (de_lc false rfl sc_would_enter.nd (blk_of (own := [("one", 5)]) (by kernel_rfl)) (di_seq (d_v 4)) (fun _ _ _ _ _ => ⟨(dg_n (i := 5) sc_would_enter.nd rfl (by first | exact .inl rfl | exact .inr rfl) (by decide)), dts_nil, (d_call F_is_ahead b_is_ahead hr takes0D (da_cons (d_v 0) (da_cons (d_v 3) (da_cons (d_v 2) (da_cons (d_v 5) da_nil)))))⟩)) da_nil)))))))
theorem fn_would_enter {P : Program} {w : World} {K : PySem.W.Frag} {mg : Str → Option Value} {base : Heap} {k : Nat} (m_any : mg "any" = none) (m_len : mg "len" = none) (F_those_at : Fn P w K mg base k "those_at" s_those_at ["dealing", "place"] sp_those_at) (F_is_ahead : Fn P w K mg base k "is_ahead" s_is_ahead ["hall", "place", "one", "other"] sp_is_ahead) {f : Addr} {fd : FuncData} (F : Fun K "would_enter" "would_enter" s_would_enter f fd) (hm : mg "would_enter" = some (.ref f)) : Fn P w K mg base (k + 1) "would_enter" s_would_enter ["hall", "dealing", "person", "place"] sp_would_enter :=
  ⟨f, fd, "would_enter", F, hm, dl_fn F sc_would_enter (rd_would_enter sp_those_at sp_is_ahead) fun cdv A outer s H E B W hr tk => ds_would_enter m_any m_len F_those_at F_is_ahead f cdv A outer s H E B W hr tk⟩
/-! ### is_blocking -/
abbrev s_is_blocking : Stmt := topS 24
abbrev N_is_blocking : List Str := ["hall", "wishes", "dealing", "person", "place"]
theorem sc_is_blocking : FnScope N_is_blocking ["hall", "wishes", "dealing", "person", "place"] (defScope s_is_blocking) := ⟨rfl, rfl, rfl, by decide +kernel, rfl, by decide +kernel, by decide +kernel⟩
theorem b_is_blocking : BindP "is_blocking" s_is_blocking ["hall", "wishes", "dealing", "person", "place"] := fun _ _ _ _ _ _ _ us hl => match us, hl with | [_, _, _, _, _], _ => rfl
def rd_is_blocking (sp_likes_better : SpD) (sp_would_enter : SpD) (W : XW) : RS :=
    (sSeq (sIf (dNot (dTest (dCall sp_likes_better W (dCons (dVar 1) (dCons (dVar 3) (dCons (dVar 4) (dCons (dOp oIx (dVar 2) (dVar 3)) dNil))))))) (sRet (dC (.bl false))) sNext)
    (sRet (dCall sp_would_enter W (dCons (dVar 0) (dCons (dVar 2) (dCons (dVar 3) (dCons (dVar 4) dNil)))))))
def sp_is_blocking : SpD := spOf N_is_blocking (rd_is_blocking sp_likes_better sp_would_enter)
theorem ds_is_blocking {P : Program} {w : World} {K : PySem.W.Frag} {mg : Str → Option Value} {base : Heap} {k : Nat}   {sp_likes_better : SpD} {sp_would_enter : SpD} (F_likes_better : Fn P w K mg base k "likes_better" s_likes_better ["wishes", "person", "one", "other"] sp_likes_better) (F_would_enter : Fn P w K mg base k "would_enter" s_would_enter ["hall", "dealing", "person", "place"] sp_would_enter)
    (f : Addr) (cdv : Value) (A : Around) (outer : List Env) (s : Shared) (H : Hp) (E : XK) (B : BS) (W : XW) (hr : Room k (A.deeper (envOfC "is_blocking" (defScope s_is_blocking) s.heap.objs.size f cdv)))
    (tk : TakesD (cxOf (L2.CX P w) P w K mg base N_is_blocking "is_blocking" (defScope s_is_blocking) f cdv A outer s H E) B W) : DSs (cxOf (L2.CX P w) P w K mg base N_is_blocking "is_blocking" (defScope s_is_blocking) f cdv A outer s H E) B (defBody s_is_blocking) (rd_is_blocking sp_likes_better sp_would_enter W) :=
    (dss_cons (ds_if (dt_not (d_val (d_call F_likes_better b_likes_better hr tk (da_cons (d_v 1) (da_cons (d_v 3) (da_cons (d_v 4) (da_cons (d_ix (d_v 2) (d_v 3)) da_nil))))))) (dss_one (ds_ret d_bl)) dss_nil)
    (dss_one (ds_ret (d_call F_would_enter b_would_enter hr tk (da_cons (d_v 0) (da_cons (d_v 2) (da_cons (d_v 3) (da_cons (d_v 4) da_nil))))))))
theorem fn_is_blocking {P : Program} {w : World} {K : PySem.W.Frag} {mg : Str → Option Value} {base : Heap} {k : Nat} (F_likes_better : Fn P w K mg base k "likes_better" s_likes_better ["wishes", "person", "one", "other"] sp_likes_better) (F_would_enter : Fn P w K mg base k "would_enter" s_would_enter ["hall", "dealing", "person", "place"] sp_would_enter) {f : Addr} {fd : FuncData} (F : Fun K "is_blocking" "is_blocking" s_is_blocking f fd) (hm : mg "is_blocking" = some (.ref f)) : Fn P w K mg base (k + 1) "is_blocking" s_is_blocking ["hall", "wishes", "dealing", "person", "place"] sp_is_blocking :=
  ⟨f, fd, "is_blocking", F, hm, dl_fn F sc_is_blocking (rd_is_blocking sp_likes_better sp_would_enter) fun cdv A outer s H E B W hr tk => ds_is_blocking  F_likes_better F_would_enter f cdv A outer s H E B W hr tk⟩
/-! ### blocking_pairs -/
abbrev s_blocking_pairs : Stmt := topS 25
abbrev N_blocking_pairs : List Str := ["hall", "wishes", "dealing", "found", "person", "place"]
theorem sc_blocking_pairs : FnScope N_blocking_pairs ["hall", "wishes", "dealing"] (defScope s_blocking_pairs) := ⟨rfl, rfl, rfl, by decide +kernel, rfl, by decide +kernel, by decide +kernel⟩
theorem b_blocking_pairs : BindP "blocking_pairs" s_blocking_pairs ["hall", "wishes", "dealing"] := fun _ _ _ _ _ _ _ us hl => match us, hl with | [_, _, _], _ => rfl
def rd_blocking_pairs (sp_people_in : SpD) (sp_is_blocking : SpD) (W : XW) : RS :=
    (sSeq (sSet 3 (dLstC dNil))
    (sSeq (sFor (iR1 (dCall sp_people_in W (dCons (dVar 0) dNil))) (gN 4) (sFor (iR1 (dCB oLen (dCons (dVar 0) dNil))) (gN 5) (sIf (dTest (dCall sp_is_blocking W (dCons (dVar 0) (dCons (dVar 1) (dCons (dVar 2) (dCons (dVar 4) (dCons (dVar 5) dNil))))))) (sDrop (dMl oApp (dVar 3) (dCons (dTup (dCons (dVar 4) (dCons (dVar 5) dNil))) dNil))) sNext)))
    (sRet (dCB oTuple (dCons (dVar 3) dNil)))))
def sp_blocking_pairs : SpD := spOf N_blocking_pairs (rd_blocking_pairs sp_people_in sp_is_blocking)
theorem ds_blocking_pairs {P : Program} {w : World} {K : PySem.W.Frag} {mg : Str → Option Value} {base : Heap} {k : Nat} (m_len : mg "len" = none) (m_range : mg "range" = none) (m_tuple : mg "tuple" = none)  {sp_people_in : SpD} {sp_is_blocking : SpD} (F_people_in : Fn P w K mg base k "people_in" s_people_in ["hall"] sp_people_in) (F_is_blocking : Fn P w K mg base k "is_blocking" s_is_blocking ["hall", "wishes", "dealing", "person", "place"] sp_is_blocking)
    (f : Addr) (cdv : Value) (A : Around) (outer : List Env) (s : Shared) (H : Hp) (E : XK) (B : BS) (W : XW) (hr : Room k (A.deeper (envOfC "blocking_pairs" (defScope s_blocking_pairs) s.heap.objs.size f cdv)))
    (tk : TakesD (cxOf (L2.CX P w) P w K mg base N_blocking_pairs "blocking_pairs" (defScope s_blocking_pairs) f cdv A outer s H E) B W) : DSs (cxOf (L2.CX P w) P w K mg base N_blocking_pairs "blocking_pairs" (defScope s_blocking_pairs) f cdv A outer s H E) B (defBody s_blocking_pairs) (rd_blocking_pairs sp_people_in sp_is_blocking W) :=
    (dss_cons (ds_set (i := 3) sc_blocking_pairs.nd rfl (.inl rfl) (d_lstC da_nil))
    (dss_cons (ds_for (vs := [4]) (passes_of rfl) rfl (di_range1 m_range (d_call F_people_in b_people_in hr tk (da_cons (d_v 0) da_nil))) (dg_n (i := 4) sc_blocking_pairs.nd rfl (by first | exact .inl rfl | exact .inr rfl) (by decide)) (dss_one (ds_for (vs := [5]) (passes_of rfl) rfl (di_range1 m_range (d_len m_len (da_cons (d_v 0) da_nil))) (dg_n (i := 5) sc_blocking_pairs.nd rfl (by first | exact .inl rfl | exact .inr rfl) (by decide)) (dss_one (ds_if (d_val (d_call F_is_blocking b_is_blocking hr tk (da_cons (d_v 0) (da_cons (d_v 1) (da_cons (d_v 2) (da_cons (d_v 4) (da_cons (d_v 5) da_nil))))))) (dss_one (ds_expr (d_append (d_v 3) (da_cons (d_tup (da_cons (d_v 4) (da_cons (d_v 5) da_nil))) da_nil)))) dss_nil)))))
    (dss_one (ds_ret (d_tuple m_tuple (da_cons (d_v 3) da_nil))))))
theorem fn_blocking_pairs {P : Program} {w : World} {K : PySem.W.Frag} {mg : Str → Option Value} {base : Heap} {k : Nat} (m_len : mg "len" = none) (m_range : mg "range" = none) (m_tuple : mg "tuple" = none) (F_people_in : Fn P w K mg base k "people_in" s_people_in ["hall"] sp_people_in) (F_is_blocking : Fn P w K mg base k "is_blocking" s_is_blocking ["hall", "wishes", "dealing", "person", "place"] sp_is_blocking) {f : Addr} {fd : FuncData} (F : Fun K "blocking_pairs" "blocking_pairs" s_blocking_pairs f fd) (hm : mg "blocking_pairs" = some (.ref f)) : Fn P w K mg base (k + 1) "blocking_pairs" s_blocking_pairs ["hall", "wishes", "dealing"] sp_blocking_pairs :=
  ⟨f, fd, "blocking_pairs", F, hm, dl_fn F sc_blocking_pairs (rd_blocking_pairs sp_people_in sp_is_blocking) fun cdv A outer s H E B W hr tk => ds_blocking_pairs m_len m_range m_tuple F_people_in F_is_blocking f cdv A outer s H E B W hr tk⟩
/-! ### is_stable -/
abbrev s_is_stable : Stmt := topS 26
abbrev N_is_stable : List Str := ["hall", "wishes", "value"]
theorem sc_is_stable : FnScope N_is_stable ["hall", "wishes", "value"] (defScope s_is_stable) := ⟨rfl, rfl, rfl, by decide +kernel, rfl, by decide +kernel, by decide +kernel⟩
theorem b_is_stable : BindP "is_stable" s_is_stable ["hall", "wishes", "value"] := fun _ _ _ _ _ _ _ us hl => match us, hl with | [_, _, _], _ => rfl
def rd_is_stable (sp_is_dealing : SpD) (sp_fits : SpD) (sp_blocking_pairs : SpD) (W : XW) : RS :=
    (sSeq (sIf (dOr (dNot (dTest (dCall sp_is_dealing W (dCons (dVar 0) (dCons (dVar 2) dNil))))) (dNot (dTest (dCall sp_fits W (dCons (dVar 0) (dCons (dVar 1) (dCons (dVar 2) dNil))))))) (sRet (dC (.bl false))) sNext)
    (sRet (dOp oEq (dCall sp_blocking_pairs W (dCons (dVar 0) (dCons (dVar 1) (dCons (dVar 2) dNil)))) (dTup dNil))))
def sp_is_stable : SpD := spOf N_is_stable (rd_is_stable sp_is_dealing sp_fits sp_blocking_pairs)
theorem ds_is_stable {P : Program} {w : World} {K : PySem.W.Frag} {mg : Str → Option Value} {base : Heap} {k : Nat}   {sp_is_dealing : SpD} {sp_fits : SpD} {sp_blocking_pairs : SpD} (F_is_dealing : Fn P w K mg base k "is_dealing" s_is_dealing ["hall", "value"] sp_is_dealing) (F_fits : Fn P w K mg base k "fits" s_fits ["hall", "wishes", "dealing"] sp_fits) (F_blocking_pairs : Fn P w K mg base k "blocking_pairs" s_blocking_pairs ["hall", "wishes", "dealing"] sp_blocking_pairs)
    (f : Addr) (cdv : Value) (A : Around) (outer : List Env) (s : Shared) (H : Hp) (E : XK) (B : BS) (W : XW) (hr : Room k (A.deeper (envOfC "is_stable" (defScope s_is_stable) s.heap.objs.size f cdv)))
    (tk : TakesD (cxOf (L2.CX P w) P w K mg base N_is_stable "is_stable" (defScope s_is_stable) f cdv A outer s H E) B W) : DSs (cxOf (L2.CX P w) P w K mg base N_is_stable "is_stable" (defScope s_is_stable) f cdv A outer s H E) B (defBody s_is_stable) (rd_is_stable sp_is_dealing sp_fits sp_blocking_pairs W) :=
    (dss_cons (ds_if (dw_pt (dw_or (dt_not (d_val (d_call F_is_dealing b_is_dealing hr tk (da_cons (d_v 0) (da_cons (d_v 2) da_nil))))) (dw_or1 (dt_not (d_val (d_call F_fits b_fits hr tk (da_cons (d_v 0) (da_cons (d_v 1) (da_cons (d_v 2) da_nil))))))))) (dss_one (ds_ret d_bl)) dss_nil)
    (dss_one (ds_ret (d_eq hr (d_call F_blocking_pairs b_blocking_pairs hr tk (da_cons (d_v 0) (da_cons (d_v 1) (da_cons (d_v 2) da_nil)))) (d_tup da_nil)))))
theorem fn_is_stable {P : Program} {w : World} {K : PySem.W.Frag} {mg : Str → Option Value} {base : Heap} {k : Nat} (F_is_dealing : Fn P w K mg base k "is_dealing" s_is_dealing ["hall", "value"] sp_is_dealing) (F_fits : Fn P w K mg base k "fits" s_fits ["hall", "wishes", "dealing"] sp_fits) (F_blocking_pairs : Fn P w K mg base k "blocking_pairs" s_blocking_pairs ["hall", "wishes", "dealing"] sp_blocking_pairs) {f : Addr} {fd : FuncData} (F : Fun K "is_stable" "is_stable" s_is_stable f fd) (hm : mg "is_stable" = some (.ref f)) : Fn P w K mg base (k + 1) "is_stable" s_is_stable ["hall", "wishes", "value"] sp_is_stable :=
  ⟨f, fd, "is_stable", F, hm, dl_fn F sc_is_stable (rd_is_stable sp_is_dealing sp_fits sp_blocking_pairs) fun cdv A outer s H E B W hr tk => ds_is_stable  F_is_dealing F_fits F_blocking_pairs f cdv A outer s H E B W hr tk⟩
/-! ### law_draw -/
abbrev s_law_draw : Stmt := topS 28
abbrev N_law_draw : List Str := ["script", "salt", "cells", "blend", "cell"]
theorem sc_law_draw : FnScope N_law_draw ["script", "salt"] (defScope s_law_draw) := ⟨rfl, rfl, rfl, by decide +kernel, rfl, by decide +kernel, by decide +kernel⟩
theorem b_law_draw : BindP "_law_draw" s_law_draw ["script", "salt"] := fun _ _ _ _ _ _ _ us hl => match us, hl with | [_, _], _ => rfl
def rd_law_draw (W : XW) : RS :=
    (sSeq (sSet 2 (dLcB false (iSeq (dSl oSl (dVar 0) dNo (dPart (dC (.int 48))))) (gN 4) cNil (dCB oAbs (dCons (dCB oInt (dCons (dVar 4) dNil)) dNil)) [4]))
    (sSeq (sSet 3 (dOp oAdd (dC (.int 7919)) (dOp oMul (dC (.int 104729)) (dVar 1))))
    (sSeq (sFor (iSeq (dVar 2)) (gN 4) (sSet 3 (dOp oMod (dCB oInt (dCons (dOp oAdd (dOp oAdd (dOp oMul (dVar 3) (dC (.int 48271))) (dOp oMod (dVar 4) (dC (.int 2147483549)))) (dC (.int 11))) dNil)) (dC (.int 2147483647)))))
    (sRet (dLstC (dCons (dRevC (dLcB true (iSeq (dVar 2)) (gN 4) (dTest (dOp oGe (dVar 4) (dOp oPow (dC (.int 10)) (dC (.int 18))))) (dVar 4) [4])) (dCons (dVar 3) dNil)))))))
def sp_law_draw : SpD := spOf N_law_draw (rd_law_draw)
theorem ds_law_draw {P : Program} {w : World} {K : PySem.W.Frag} {mg : Str → Option Value} {base : Heap} {k : Nat} (m_abs : mg "abs" = none) (m_int : mg "int" = none)   
    (f : Addr) (cdv : Value) (A : Around) (outer : List Env) (s : Shared) (H : Hp) (E : XK) (B : BS) (W : XW) (hr : Room k (A.deeper (envOfC "_law_draw" (defScope s_law_draw) s.heap.objs.size f cdv)))
    (tk : TakesD (cxOf (L2.CX P w) P w K mg base N_law_draw "_law_draw" (defScope s_law_draw) f cdv A outer s H E) B W) : DSs (cxOf (L2.CX P w) P w K mg base N_law_draw "_law_draw" (defScope s_law_draw) f cdv A outer s H E) B (defBody s_law_draw) (rd_law_draw W) :=
    (dss_cons (ds_setLc false rfl sc_law_draw.nd (blk_of (own := [("cell", 4)]) (by kernel_rfl)) (i := 2) rfl rfl (di_seq (d_sl (d_v 0) do_no (do_some d_int))) (fun _ _ _ _ _ => ⟨(dg_n (i := 4) sc_law_draw.nd rfl (by first | exact .inl rfl | exact .inr rfl) (by decide)), dts_nil, (d_abs m_abs (da_cons (d_intC m_int (da_cons (d_v 4) da_nil)) da_nil))⟩))
    (dss_cons (ds_set (i := 3) sc_law_draw.nd rfl (.inl rfl) (d_add d_int (d_mul d_int (d_v 1))))
    (dss_cons (ds_for (vs := [4]) (passes_of rfl) rfl (di_seq (d_v 2)) (dg_n (i := 4) sc_law_draw.nd rfl (by first | exact .inl rfl | exact .inr rfl) (by decide)) (dss_one (ds_set (i := 3) sc_law_draw.nd rfl (.inl rfl) (d_mod (d_intC m_int (da_cons (d_add (d_add (d_mul (d_v 3) d_int) (d_mod (d_v 4) d_int)) d_int) da_nil)) d_int))))
    (dss_one (ds_ret (d_lstC (da_cons (d_revC (de_lc true rfl sc_law_draw.nd (blk_of (own := [("cell", 4)]) (by kernel_rfl)) (di_seq (d_v 2)) (fun _ _ _ _ _ => ⟨(dg_n (i := 4) sc_law_draw.nd rfl (by first | exact .inl rfl | exact .inr rfl) (by decide)), (dts_one (dt_ge (d_v 4) (d_pow d_int d_int))), (d_v 4)⟩))) (da_cons (d_v 3) da_nil))))))))
theorem fn_law_draw {P : Program} {w : World} {K : PySem.W.Frag} {mg : Str → Option Value} {base : Heap} {k : Nat} (m_abs : mg "abs" = none) (m_int : mg "int" = none) {f : Addr} {fd : FuncData} (F : Fun K "_law_draw" "_law_draw" s_law_draw f fd) (hm : mg "_law_draw" = some (.ref f)) : Fn P w K mg base (k + 1) "_law_draw" s_law_draw ["script", "salt"] sp_law_draw :=
  ⟨f, fd, "_law_draw", F, hm, dl_fn F sc_law_draw (rd_law_draw) fun cdv A outer s H E B W hr tk => ds_law_draw m_abs m_int  f cdv A outer s H E B W hr tk⟩
/-! ### law_any -/
abbrev s_law_any : Stmt := topS 29
abbrev N_law_any : List Str := ["deal", "bound", "rest"]
theorem sc_law_any : FnScope N_law_any ["deal", "bound"] (defScope s_law_any) := ⟨rfl, rfl, rfl, by decide +kernel, rfl, by decide +kernel, by decide +kernel⟩
theorem b_law_any : BindP "_law_any" s_law_any ["deal", "bound"] := fun _ _ _ _ _ _ _ us hl => match us, hl with | [_, _], _ => rfl
def rd_law_any (W : XW) : RS :=
    (sSeq (sWhile (dAnd (dTest (dOp oNe (dOp oIx (dVar 0) (dC (.int 0))) (dLst dNil))) (dTest (dOp oEq (dOp oIx (dOp oIx (dVar 0) (dC (.int 0))) (dUn oNeg (dC (.int 1)))) (dC (.int 0))))) (sDrop (dMl0 oPop (dOp oIx (dVar 0) (dC (.int 0))))))
    (sSeq (sIf (dTest (dOp oNe (dOp oIx (dVar 0) (dC (.int 0))) (dLst dNil))) (sSeq (sSet 2 (dCB oInt (dCons (dMl0 oPop (dOp oIx (dVar 0) (dC (.int 0)))) dNil)))
    (sSeq (sDrop (dMl oApp (dOp oIx (dVar 0) (dC (.int 0))) (dCons (dOp oFdiv (dVar 2) (dVar 1)) dNil)))
    (sRet (dOp oMod (dVar 2) (dVar 1))))) sNext)
    (sSeq (sAsg (dOp oMod (dCB oInt (dCons (dOp oAdd (dOp oMul (dOp oIx (dVar 0) (dC (.int 1))) (dC (.int 40693))) (dC (.int 71))) dNil)) (dC (.int 2147483647))) (gSb (dVar 0) (dC (.int 1))))
    (sRet (dOp oMod (dCB oInt (dCons (dOp oFdiv (dOp oIx (dVar 0) (dC (.int 1))) (dC (.int 64))) dNil)) (dVar 1))))))
def sp_law_any : SpD := spOf N_law_any (rd_law_any)
theorem ds_law_any {P : Program} {w : World} {K : PySem.W.Frag} {mg : Str → Option Value} {base : Heap} {k : Nat} (m_int : mg "int" = none)   
    (f : Addr) (cdv : Value) (A : Around) (outer : List Env) (s : Shared) (H : Hp) (E : XK) (B : BS) (W : XW) (hr : Room k (A.deeper (envOfC "_law_any" (defScope s_law_any) s.heap.objs.size f cdv)))
    (tk : TakesD (cxOf (L2.CX P w) P w K mg base N_law_any "_law_any" (defScope s_law_any) f cdv A outer s H E) B W) : DSs (cxOf (L2.CX P w) P w K mg base N_law_any "_law_any" (defScope s_law_any) f cdv A outer s H E) B (defBody s_law_any) (rd_law_any W) :=
    (dss_cons (ds_while (passes_of rfl) (dw_pt (dw_and (dt_ne hr (d_ix (d_v 0) d_int) (d_lst da_nil)) (dw_and1 (dt_eq hr (d_ix (d_ix (d_v 0) d_int) (d_neg d_int)) d_int)))) (dss_one (ds_expr (d_pop (d_ix (d_v 0) d_int)))))
    (dss_cons (ds_if (dt_ne hr (d_ix (d_v 0) d_int) (d_lst da_nil)) (dss_cons (ds_set (i := 2) sc_law_any.nd rfl (.inl rfl) (d_intC m_int (da_cons (d_pop (d_ix (d_v 0) d_int)) da_nil)))
    (dss_cons (ds_expr (d_append (d_ix (d_v 0) d_int) (da_cons (d_fdiv (d_v 2) (d_v 1)) da_nil)))
    (dss_one (ds_ret (d_mod (d_v 2) (d_v 1)))))) dss_nil)
    (dss_cons (ds_asg (vs := []) (d_mod (d_intC m_int (da_cons (d_add (d_mul (d_ix (d_v 0) d_int) d_int) d_int) da_nil)) d_int) (dg_sub (d_v 0) d_int))
    (dss_one (ds_ret (d_mod (d_intC m_int (da_cons (d_fdiv (d_ix (d_v 0) d_int) d_int) da_nil)) (d_v 1)))))))
theorem fn_law_any {P : Program} {w : World} {K : PySem.W.Frag} {mg : Str → Option Value} {base : Heap} {k : Nat} (m_int : mg "int" = none) {f : Addr} {fd : FuncData} (F : Fun K "_law_any" "_law_any" s_law_any f fd) (hm : mg "_law_any" = some (.ref f)) : Fn P w K mg base (k + 1) "_law_any" s_law_any ["deal", "bound"] sp_law_any :=
  ⟨f, fd, "_law_any", F, hm, dl_fn F sc_law_any (rd_law_any) fun cdv A outer s H E B W hr tk => ds_law_any m_int  f cdv A outer s H E B W hr tk⟩
/-! ### law_of -/
abbrev s_law_of : Stmt := topS 30
abbrev N_law_of : List Str := ["deal", "some"]
theorem sc_law_of : FnScope N_law_of ["deal", "some"] (defScope s_law_of) := ⟨rfl, rfl, rfl, by decide +kernel, rfl, by decide +kernel, by decide +kernel⟩
theorem b_law_of : BindP "_law_of" s_law_of ["deal", "some"] := fun _ _ _ _ _ _ _ us hl => match us, hl with | [_, _], _ => rfl
def rd_law_of (sp_law_any : SpD) (W : XW) : RS :=
    (sRet (dOp oIx (dVar 1) (dCall sp_law_any W (dCons (dVar 0) (dCons (dCB oLen (dCons (dVar 1) dNil)) dNil)))))
def sp_law_of : SpD := spOf N_law_of (rd_law_of sp_law_any)
theorem ds_law_of {P : Program} {w : World} {K : PySem.W.Frag} {mg : Str → Option Value} {base : Heap} {k : Nat} (m_len : mg "len" = none)  {sp_law_any : SpD} (F_law_any : Fn P w K mg base k "_law_any" s_law_any ["deal", "bound"] sp_law_any)
    (f : Addr) (cdv : Value) (A : Around) (outer : List Env) (s : Shared) (H : Hp) (E : XK) (B : BS) (W : XW) (hr : Room k (A.deeper (envOfC "_law_of" (defScope s_law_of) s.heap.objs.size f cdv)))
    (tk : TakesD (cxOf (L2.CX P w) P w K mg base N_law_of "_law_of" (defScope s_law_of) f cdv A outer s H E) B W) : DSs (cxOf (L2.CX P w) P w K mg base N_law_of "_law_of" (defScope s_law_of) f cdv A outer s H E) B (defBody s_law_of) (rd_law_of sp_law_any W) :=
    (dss_one (ds_ret (d_ix (d_v 1) (d_call F_law_any b_law_any hr tk (da_cons (d_v 0) (da_cons (d_len m_len (da_cons (d_v 1) da_nil)) da_nil))))))
theorem fn_law_of {P : Program} {w : World} {K : PySem.W.Frag} {mg : Str → Option Value} {base : Heap} {k : Nat} (m_len : mg "len" = none) (F_law_any : Fn P w K mg base k "_law_any" s_law_any ["deal", "bound"] sp_law_any) {f : Addr} {fd : FuncData} (F : Fun K "_law_of" "_law_of" s_law_of f fd) (hm : mg "_law_of" = some (.ref f)) : Fn P w K mg base (k + 1) "_law_of" s_law_of ["deal", "some"] sp_law_of :=
  ⟨f, fd, "_law_of", F, hm, dl_fn F sc_law_of (rd_law_of sp_law_any) fun cdv A outer s H E B W hr tk => ds_law_of m_len F_law_any f cdv A outer s H E B W hr tk⟩
/-! ### law_mixed -/
abbrev s_law_mixed : Stmt := topS 31
abbrev N_law_mixed : List Str := ["deal", "some", "left", "found"]
theorem sc_law_mixed : FnScope N_law_mixed ["deal", "some"] (defScope s_law_mixed) := ⟨rfl, rfl, rfl, by decide +kernel, rfl, by decide +kernel, by decide +kernel⟩
theorem b_law_mixed : BindP "_law_mixed" s_law_mixed ["deal", "some"] := fun _ _ _ _ _ _ _ us hl => match us, hl with | [_, _], _ => rfl
def rd_law_mixed (sp_law_any : SpD) (W : XW) : RS :=
    (sSeq (sPar 2 3 (dCons (dCB oListC (dCons (dVar 1) dNil)) (dCons (dLstC dNil) dNil)))
    (sSeq (sWhile (dTest (dOp oNe (dVar 2) (dLst dNil))) (sDrop (dMl oApp (dVar 3) (dCons (dMl oPopAt (dVar 2) (dCons (dCall sp_law_any W (dCons (dVar 0) (dCons (dCB oLen (dCons (dVar 2) dNil)) dNil))) dNil)) dNil))))
    (sRet (dVar 3))))
def sp_law_mixed : SpD := spOf N_law_mixed (rd_law_mixed sp_law_any)
theorem ds_law_mixed {P : Program} {w : World} {K : PySem.W.Frag} {mg : Str → Option Value} {base : Heap} {k : Nat} (m_len : mg "len" = none) (m_list : mg "list" = none)  {sp_law_any : SpD} (F_law_any : Fn P w K mg base k "_law_any" s_law_any ["deal", "bound"] sp_law_any)
    (f : Addr) (cdv : Value) (A : Around) (outer : List Env) (s : Shared) (H : Hp) (E : XK) (B : BS) (W : XW) (hr : Room k (A.deeper (envOfC "_law_mixed" (defScope s_law_mixed) s.heap.objs.size f cdv)))
    (tk : TakesD (cxOf (L2.CX P w) P w K mg base N_law_mixed "_law_mixed" (defScope s_law_mixed) f cdv A outer s H E) B W) : DSs (cxOf (L2.CX P w) P w K mg base N_law_mixed "_law_mixed" (defScope s_law_mixed) f cdv A outer s H E) B (defBody s_law_mixed) (rd_law_mixed sp_law_any W) :=
    (dss_cons (ds_par (i := 2) (j := 3) rfl sc_law_mixed.nd rfl rfl (by decide) rfl rfl (da_cons (d_listC m_list (da_cons (d_v 1) da_nil)) (da_cons (d_lstC da_nil) da_nil)))
    (dss_cons (ds_while (passes_of rfl) (dt_ne hr (d_v 2) (d_lst da_nil)) (dss_one (ds_expr (d_append (d_v 3) (da_cons (d_popAt (d_v 2) (da_cons (d_call F_law_any b_law_any hr tk (da_cons (d_v 0) (da_cons (d_len m_len (da_cons (d_v 2) da_nil)) da_nil))) da_nil)) da_nil)))))
    (dss_one (ds_ret (d_v 3)))))
theorem fn_law_mixed {P : Program} {w : World} {K : PySem.W.Frag} {mg : Str → Option Value} {base : Heap} {k : Nat} (m_len : mg "len" = none) (m_list : mg "list" = none) (F_law_any : Fn P w K mg base k "_law_any" s_law_any ["deal", "bound"] sp_law_any) {f : Addr} {fd : FuncData} (F : Fun K "_law_mixed" "_law_mixed" s_law_mixed f fd) (hm : mg "_law_mixed" = some (.ref f)) : Fn P w K mg base (k + 1) "_law_mixed" s_law_mixed ["deal", "some"] sp_law_mixed :=
  ⟨f, fd, "_law_mixed", F, hm, dl_fn F sc_law_mixed (rd_law_mixed sp_law_any) fun cdv A outer s H E B W hr tk => ds_law_mixed m_len m_list F_law_any f cdv A outer s H E B W hr tk⟩
/-! ### law_same -/
abbrev s_law_same : Stmt := topS 32
abbrev N_law_same : List Str := ["value", "due", "one", "other"]
theorem sc_law_same : FnScope N_law_same ["value", "due"] (defScope s_law_same) := ⟨rfl, rfl, rfl, by decide +kernel, rfl, by decide +kernel, by decide +kernel⟩
theorem b_law_same : BindP "_law_same" s_law_same ["value", "due"] := fun _ _ _ _ _ _ _ us hl => match us, hl with | [_, _], _ => rfl
def rd_law_same (sp_law_same : SpD) (W : XW) : RS :=
    (sSeq (sIf (dTest (dIsi "tuple" (dVar 1))) (sSeq (sIf (dOr (dNot (dTest (dIsi "tuple" (dVar 0)))) (dTest (dOp oNe (dCB oLen (dCons (dVar 0) dNil)) (dCB oLen (dCons (dVar 1) dNil))))) (sRet (dC (.bl false))) sNext)
    (sRet (dOp oEq (dLcB false (iZip2 (dVar 0) (dVar 1)) (gTup 2 (gCo (gN 2) (gCo (gN 3) gNi))) (dNot (dTest (dCall sp_law_same W0 (dCons (dVar 2) (dCons (dVar 3) dNil))))) (dC (.int 0)) [2, 3]) (dLst dNil)))) sNext)
    (sSeq (sIf (dTest (dOp (oIs false) (dVar 1) (dC .non))) (sRet (dOp (oIs false) (dVar 0) (dC .non))) sNext)
    (sSeq (sIf (dTest (dOp (oIs false) (dVar 1) (dC (.bl true)))) (sRet (dOp (oIs false) (dVar 0) (dC (.bl true)))) sNext)
    (sSeq (sIf (dTest (dOp (oIs false) (dVar 1) (dC (.bl false)))) (sRet (dOp (oIs false) (dVar 0) (dC (.bl false)))) sNext)
    (sSeq (sIf (dTest (dIsi "int" (dVar 1))) (sRet (dAndV (dIsi "int" (dVar 0)) (dAndV (dNotV (dIsi "bool" (dVar 0))) (dOp oEq (dVar 0) (dVar 1))))) sNext)
    (sRet (dAndV (dIsi "str" (dVar 0)) (dOp oEq (dVar 0) (dVar 1)))))))))
def spR_law_same : Nat → SpD
  | 0 => fun _ _ _ _ => False
  | n + 1 => spOf N_law_same (rd_law_same (spR_law_same n))
def sp_law_same : SpD := spR_law_same 12
theorem ds_law_same {P : Program} {w : World} {K : PySem.W.Frag} {mg : Str → Option Value} {base : Heap} {k : Nat} (m_bool : mg "bool" = none) (m_int : mg "int" = none) (m_isinstance : mg "isinstance" = none) (m_len : mg "len" = none) (m_str : mg "str" = none) (m_tuple : mg "tuple" = none) (m_zip : mg "zip" = none)  {sp_law_same : SpD} (F_law_same : Fn P w K mg base k "_law_same" s_law_same ["value", "due"] sp_law_same)
    (f : Addr) (cdv : Value) (A : Around) (outer : List Env) (s : Shared) (H : Hp) (E : XK) (B : BS) (W : XW) (hr : Room k (A.deeper (envOfC "_law_same" (defScope s_law_same) s.heap.objs.size f cdv)))
    (tk : TakesD (cxOf (L2.CX P w) P w K mg base N_law_same "_law_same" (defScope s_law_same) f cdv A outer s H E) B W) : DSs (cxOf (L2.CX P w) P w K mg base N_law_same "_law_same" (defScope s_law_same) f cdv A outer s H E) B (defBody s_law_same) (rd_law_same sp_law_same W) :=
    (dss_cons (ds_if (d_val (d_isi m_isinstance (d_v 1) m_tuple (by decide +kernel))) (dss_cons (ds_if (dw_pt (dw_or (dt_not (d_val (d_isi m_isinstance (d_v 0) m_tuple (by decide +kernel)))) (dw_or1 (dt_ne hr (d_len m_len (da_cons (d_v 0) da_nil)) (d_len m_len (da_cons (d_v 1) da_nil)))))) (dss_one (ds_ret d_bl)) dss_nil)
    (dss_one (ds_ret (d_eq hr (de_lc false rfl sc_law_same.nd (blk_of (own := [("one", 2), ("other", 3)]) (by kernel_rfl)) (di_zip m_zip (d_v 0) (d_v 1)) (fun _ _ _ _ _ => ⟨(dg_tupA rfl (dgs_cons (dg_n (i := 2) sc_law_same.nd rfl (by first | exact .inl rfl | exact .inr rfl) (by decide)) (dgs_cons (dg_n (i := 3) sc_law_same.nd rfl (by first | exact .inl rfl | exact .inr rfl) (by decide)) dgs_nil))), (dts_one (dt_not (d_val (d_call F_law_same b_law_same hr takes0D (da_cons (d_v 2) (da_cons (d_v 3) da_nil)))))), d_int⟩)) (d_lst da_nil))))) dss_nil)
    (dss_cons (ds_if (dt_is (d_v 1) d_non) (dss_one (ds_ret (d_is (d_v 0) d_non))) dss_nil)
    (dss_cons (ds_if (dt_is (d_v 1) d_bl) (dss_one (ds_ret (d_is (d_v 0) d_bl))) dss_nil)
    (dss_cons (ds_if (dt_is (d_v 1) d_bl) (dss_one (ds_ret (d_is (d_v 0) d_bl))) dss_nil)
    (dss_cons (ds_if (d_val (d_isi m_isinstance (d_v 1) m_int (by decide +kernel))) (dss_one (ds_ret (de_and (d_isi m_isinstance (d_v 0) m_int (by decide +kernel)) (de_and (de_not (d_isi m_isinstance (d_v 0) m_bool (by decide +kernel))) (de_one (d_eq hr (d_v 0) (d_v 1))))))) dss_nil)
    (dss_one (ds_ret (de_and (d_isi m_isinstance (d_v 0) m_str (by decide +kernel)) (de_one (d_eq hr (d_v 0) (d_v 1)))))))))))
theorem fn_law_same {P : Program} {w : World} {K : PySem.W.Frag} {mg : Str → Option Value} {base : Heap} {k : Nat} (m_bool : mg "bool" = none) (m_int : mg "int" = none) (m_isinstance : mg "isinstance" = none) (m_len : mg "len" = none) (m_str : mg "str" = none) (m_tuple : mg "tuple" = none) (m_zip : mg "zip" = none) {f : Addr} {fd : FuncData} (F : Fun K "_law_same" "_law_same" s_law_same f fd) (hm : mg "_law_same" = some (.ref f)) : ∀ n, Fn P w K mg base (k + n) "_law_same" s_law_same ["value", "due"] (spR_law_same n)
  | 0 => fn_none F hm
  | n + 1 => ⟨f, fd, "_law_same", F, hm, dl_fn F sc_law_same (rd_law_same (spR_law_same n)) fun cdv A outer s H E B W hr tk => ds_law_same m_bool m_int m_isinstance m_len m_str m_tuple m_zip (fn_law_same m_bool m_int m_isinstance m_len m_str m_tuple m_zip  F hm n) f cdv A outer s H E B W hr tk⟩
/-! ### law_order -/
abbrev s_law_order : Stmt := topS 33
abbrev N_law_order : List Str := ["deal", "many", "like", "order", "turn", "at", "person"]
theorem sc_law_order : FnScope N_law_order ["deal", "many", "like"] (defScope s_law_order) := ⟨rfl, rfl, rfl, by decide +kernel, rfl, by decide +kernel, by decide +kernel⟩
theorem b_law_order : BindP "_law_order" s_law_order ["deal", "many", "like"] := fun _ _ _ _ _ _ _ us hl => match us, hl with | [_, _, _], _ => rfl
def rd_law_order (sp_law_any : SpD) (sp_law_mixed : SpD) (sp_law_of : SpD) (W : XW) : RS :=
    (sSeq (sIf (dOr (dTest (dOp (oIs false) (dVar 2) (dC .non))) (dTest (dOp oEq (dCall sp_law_any W (dCons (dVar 0) (dCons (dC (.int 3)) dNil))) (dC (.int 0))))) (sRet (dCB oTuple (dCons (dCall sp_law_mixed W (dCons (dVar 0) (dCons (dLstR false (rR1 (dVar 1))) dNil))) dNil))) sNext)
    (sSeq (sSet 3 (dCB oListC (dCons (dVar 2) dNil)))
    (sSeq (sFor (iR1 (dCall sp_law_of W (dCons (dVar 0) (dCons (dLst (dCons (dC (.int 0)) (dCons (dC (.int 1)) (dCons (dC (.int 2)) (dCons (dVar 1) dNil))))) dNil)))) (gN 4) (sSeq (sSet 5 (dCall sp_law_any W (dCons (dVar 0) (dCons (dVar 1) dNil))))
    (sSeq (sSet 6 (dMl oPopAt (dVar 3) (dCons (dVar 5) dNil)))
    (sDrop (dMl oIns (dVar 3) (dCons (dCB oMax2 (dCons (dC (.int 0)) (dCons (dCB oMin2 (dCons (dCB oLen (dCons (dVar 3) dNil)) (dCons (dOp oAdd (dVar 5) (dCall sp_law_of W (dCons (dVar 0) (dCons (dLst (dCons (dUn oNeg (dC (.int 1))) (dCons (dC (.int 1)) (dCons (dUn oNeg (dC (.int 2))) (dCons (dC (.int 2)) dNil))))) dNil)))) dNil))) dNil))) (dCons (dVar 6) dNil)))))))
    (sRet (dCB oTuple (dCons (dVar 3) dNil))))))
def sp_law_order : SpD := spOf N_law_order (rd_law_order sp_law_any sp_law_mixed sp_law_of)
theorem ds_law_order {P : Program} {w : World} {K : PySem.W.Frag} {mg : Str → Option Value} {base : Heap} {k : Nat} (m_len : mg "len" = none) (m_list : mg "list" = none) (m_max : mg "max" = none) (m_min : mg "min" = none) (m_range : mg "range" = none) (m_tuple : mg "tuple" = none)  {sp_law_any : SpD} {sp_law_mixed : SpD} {sp_law_of : SpD} (F_law_any : Fn P w K mg base k "_law_any" s_law_any ["deal", "bound"] sp_law_any) (F_law_mixed : Fn P w K mg base k "_law_mixed" s_law_mixed ["deal", "some"] sp_law_mixed) (F_law_of : Fn P w K mg base k "_law_of" s_law_of ["deal", "some"] sp_law_of)
    (f : Addr) (cdv : Value) (A : Around) (outer : List Env) (s : Shared) (H : Hp) (E : XK) (B : BS) (W : XW) (hr : Room k (A.deeper (envOfC "_law_order" (defScope s_law_order) s.heap.objs.size f cdv)))
    (tk : TakesD (cxOf (L2.CX P w) P w K mg base N_law_order "_law_order" (defScope s_law_order) f cdv A outer s H E) B W) : DSs (cxOf (L2.CX P w) P w K mg base N_law_order "_law_order" (defScope s_law_order) f cdv A outer s H E) B (defBody s_law_order) (rd_law_order sp_law_any sp_law_mixed sp_law_of W) :=
    (dss_cons (ds_if (dw_pt (dw_or (dt_is (d_v 2) d_non) (dw_or1 (dt_eq hr (d_call F_law_any b_law_any hr tk (da_cons (d_v 0) (da_cons d_int da_nil))) d_int)))) (dss_one (ds_ret (d_tuple m_tuple (da_cons (d_call F_law_mixed b_law_mixed hr tk (da_cons (d_v 0) (da_cons (d_listR false rfl m_list (dr_1 m_range (d_v 1))) da_nil))) da_nil)))) dss_nil)
    (dss_cons (ds_set (i := 3) sc_law_order.nd rfl (.inl rfl) (d_listC m_list (da_cons (d_v 2) da_nil)))
    (dss_cons (ds_for (vs := [4]) (passes_of rfl) rfl (di_range1 m_range (d_call F_law_of b_law_of hr tk (da_cons (d_v 0) (da_cons (d_lst (da_cons d_int (da_cons d_int (da_cons d_int (da_cons (d_v 1) da_nil))))) da_nil)))) (dg_n (i := 4) sc_law_order.nd rfl (by first | exact .inl rfl | exact .inr rfl) (by decide)) (dss_cons (ds_set (i := 5) sc_law_order.nd rfl (.inl rfl) (d_call F_law_any b_law_any hr tk (da_cons (d_v 0) (da_cons (d_v 1) da_nil))))
    (dss_cons (ds_set (i := 6) sc_law_order.nd rfl (.inl rfl) (d_popAt (d_v 3) (da_cons (d_v 5) da_nil)))
    (dss_one (ds_expr (d_insert (d_v 3) (da_cons (d_max2 rfl m_max (da_cons d_int (da_cons (d_min2 rfl m_min (da_cons (d_len m_len (da_cons (d_v 3) da_nil)) (da_cons (d_add (d_v 5) (d_call F_law_of b_law_of hr tk (da_cons (d_v 0) (da_cons (d_lst (da_cons (d_neg d_int) (da_cons d_int (da_cons (d_neg d_int) (da_cons d_int da_nil))))) da_nil)))) da_nil))) da_nil))) (da_cons (d_v 6) da_nil))))))))
    (dss_one (ds_ret (d_tuple m_tuple (da_cons (d_v 3) da_nil)))))))
theorem fn_law_order {P : Program} {w : World} {K : PySem.W.Frag} {mg : Str → Option Value} {base : Heap} {k : Nat} (m_len : mg "len" = none) (m_list : mg "list" = none) (m_max : mg "max" = none) (m_min : mg "min" = none) (m_range : mg "range" = none) (m_tuple : mg "tuple" = none) (F_law_any : Fn P w K mg base k "_law_any" s_law_any ["deal", "bound"] sp_law_any) (F_law_mixed : Fn P w K mg base k "_law_mixed" s_law_mixed ["deal", "some"] sp_law_mixed) (F_law_of : Fn P w K mg base k "_law_of" s_law_of ["deal", "some"] sp_law_of) {f : Addr} {fd : FuncData} (F : Fun K "_law_order" "_law_order" s_law_order f fd) (hm : mg "_law_order" = some (.ref f)) : Fn P w K mg base (k + 1) "_law_order" s_law_order ["deal", "many", "like"] sp_law_order :=
  ⟨f, fd, "_law_order", F, hm, dl_fn F sc_law_order (rd_law_order sp_law_any sp_law_mixed sp_law_of) fun cdv A outer s H E B W hr tk => ds_law_order m_len m_list m_max m_min m_range m_tuple F_law_any F_law_mixed F_law_of f cdv A outer s H E B W hr tk⟩
/-! ### law_hall -/
abbrev s_law_hall : Stmt := topS 34
abbrev N_law_hall : List Str := ["deal", "people", "places", "seats", "like", "place", "many", "found"]
theorem sc_law_hall : FnScope N_law_hall ["deal", "people", "places", "seats"] (defScope s_law_hall) := ⟨rfl, rfl, rfl, by decide +kernel, rfl, by decide +kernel, by decide +kernel⟩
theorem b_law_hall : BindP "_law_hall" s_law_hall ["deal", "people", "places", "seats"] := fun _ _ _ _ _ _ _ us hl => match us, hl with | [_, _, _, _], _ => rfl
def rd_law_hall (sp_law_any : SpD) (sp_law_order : SpD) (W : XW) : RS :=
    (sSeq (sPar 6 7 (dCons (dOp oAdd (dC (.int 1)) (dCall sp_law_any W (dCons (dVar 0) (dCons (dVar 1) dNil)))) (dCons (dLstC dNil) dNil)))
    (sSeq (sSet 4 (dIf (dTest (dOp oEq (dCall sp_law_any W (dCons (dVar 0) (dCons (dC (.int 2)) dNil))) (dC (.int 0)))) (dCall sp_law_order W (dCons (dVar 0) (dCons (dVar 6) (dCons (dC .non) dNil)))) (dC .non)))
    (sSeq (sFor (iR1 (dOp oAdd (dC (.int 1)) (dCall sp_law_any W (dCons (dVar 0) (dCons (dVar 2) dNil))))) (gN 5) (sDrop (dMl oApp (dVar 7) (dCons (dTup (dCons (dOp oAdd (dC (.int 1)) (dCall sp_law_any W (dCons (dVar 0) (dCons (dVar 3) dNil)))) (dCons (dCall sp_law_order W (dCons (dVar 0) (dCons (dVar 6) (dCons (dVar 4) dNil)))) dNil))) dNil))))
    (sRet (dCB oTuple (dCons (dVar 7) dNil))))))
def sp_law_hall : SpD := spOf N_law_hall (rd_law_hall sp_law_any sp_law_order)
theorem ds_law_hall {P : Program} {w : World} {K : PySem.W.Frag} {mg : Str → Option Value} {base : Heap} {k : Nat} (m_range : mg "range" = none) (m_tuple : mg "tuple" = none)  {sp_law_any : SpD} {sp_law_order : SpD} (F_law_any : Fn P w K mg base k "_law_any" s_law_any ["deal", "bound"] sp_law_any) (F_law_order : Fn P w K mg base k "_law_order" s_law_order ["deal", "many", "like"] sp_law_order)
    (f : Addr) (cdv : Value) (A : Around) (outer : List Env) (s : Shared) (H : Hp) (E : XK) (B : BS) (W : XW) (hr : Room k (A.deeper (envOfC "_law_hall" (defScope s_law_hall) s.heap.objs.size f cdv)))
    (tk : TakesD (cxOf (L2.CX P w) P w K mg base N_law_hall "_law_hall" (defScope s_law_hall) f cdv A outer s H E) B W) : DSs (cxOf (L2.CX P w) P w K mg base N_law_hall "_law_hall" (defScope s_law_hall) f cdv A outer s H E) B (defBody s_law_hall) (rd_law_hall sp_law_any sp_law_order W) :=
    (dss_cons (ds_par (i := 6) (j := 7) rfl sc_law_hall.nd rfl rfl (by decide) rfl rfl (da_cons (d_add d_int (d_call F_law_any b_law_any hr tk (da_cons (d_v 0) (da_cons (d_v 1) da_nil)))) (da_cons (d_lstC da_nil) da_nil)))
    (dss_cons (ds_set (i := 4) sc_law_hall.nd rfl (.inl rfl) (de_if (dt_eq hr (d_call F_law_any b_law_any hr tk (da_cons (d_v 0) (da_cons d_int da_nil))) d_int) (d_call F_law_order b_law_order hr tk (da_cons (d_v 0) (da_cons (d_v 6) (da_cons d_non da_nil)))) d_non))
    (dss_cons (ds_for (vs := [5]) (passes_of rfl) rfl (di_range1 m_range (d_add d_int (d_call F_law_any b_law_any hr tk (da_cons (d_v 0) (da_cons (d_v 2) da_nil))))) (dg_n (i := 5) sc_law_hall.nd rfl (by first | exact .inl rfl | exact .inr rfl) (by decide)) (dss_one (ds_expr (d_append (d_v 7) (da_cons (d_tup (da_cons (d_add d_int (d_call F_law_any b_law_any hr tk (da_cons (d_v 0) (da_cons (d_v 3) da_nil)))) (da_cons (d_call F_law_order b_law_order hr tk (da_cons (d_v 0) (da_cons (d_v 6) (da_cons (d_v 4) da_nil)))) da_nil))) da_nil)))))
    (dss_one (ds_ret (d_tuple m_tuple (da_cons (d_v 7) da_nil)))))))
theorem fn_law_hall {P : Program} {w : World} {K : PySem.W.Frag} {mg : Str → Option Value} {base : Heap} {k : Nat} (m_range : mg "range" = none) (m_tuple : mg "tuple" = none) (F_law_any : Fn P w K mg base k "_law_any" s_law_any ["deal", "bound"] sp_law_any) (F_law_order : Fn P w K mg base k "_law_order" s_law_order ["deal", "many", "like"] sp_law_order) {f : Addr} {fd : FuncData} (F : Fun K "_law_hall" "_law_hall" s_law_hall f fd) (hm : mg "_law_hall" = some (.ref f)) : Fn P w K mg base (k + 1) "_law_hall" s_law_hall ["deal", "people", "places", "seats"] sp_law_hall :=
  ⟨f, fd, "_law_hall", F, hm, dl_fn F sc_law_hall (rd_law_hall sp_law_any sp_law_order) fun cdv A outer s H E B W hr tk => ds_law_hall m_range m_tuple F_law_any F_law_order f cdv A outer s H E B W hr tk⟩
/-! ### law_list -/
abbrev s_law_list : Stmt := topS 40
abbrev N_law_list : List Str := ["deal", "places", "like", "order", "form", "one"]
theorem sc_law_list : FnScope N_law_list ["deal", "places", "like"] (defScope s_law_list) := ⟨rfl, rfl, rfl, by decide +kernel, rfl, by decide +kernel, by decide +kernel⟩
theorem b_law_list : BindP "_law_list" s_law_list ["deal", "places", "like"] := fun _ _ _ _ _ _ _ us hl => match us, hl with | [_, _, _], _ => rfl
def rd_law_list (sp_law_any : SpD) (sp_law_mixed : SpD) (W : XW) : RS :=
    (sSeq (sSet 3 (dIf (dOr (dTest (dOp (oIs false) (dVar 2) (dC .non))) (dTest (dOp oEq (dCall sp_law_any W (dCons (dVar 0) (dCons (dC (.int 2)) dNil))) (dC (.int 0))))) (dCall sp_law_mixed W (dCons (dVar 0) (dCons (dLstR false (rR1 (dVar 1))) dNil))) (dCB oList (dCons (dVar 2) dNil))))
    (sSeq (sSet 4 (dCall sp_law_any W (dCons (dVar 0) (dCons (dC (.int 4)) dNil))))
    (sSeq (sIf (dTest (dOp oLt (dVar 4) (dC (.int 2)))) (sRet (dCB oTuple (dCons (dVar 3) dNil))) sNext)
    (sSeq (sIf (dTest (dOp oEq (dVar 4) (dC (.int 2)))) (sRet (dCB oTuple (dCons (dSl oSl (dVar 3) dNo (dPart (dCall sp_law_any W (dCons (dVar 0) (dCons (dOp oAdd (dVar 1) (dC (.int 1))) dNil))))) dNil))) sNext)
    (sRet (dCB oTuple (dCons (dLcB false (iSeq (dVar 3)) (gN 5) (dTest (dOp oGt (dCall sp_law_any W0 (dCons (dVar 0) (dCons (dC (.int 3)) dNil))) (dC (.int 0)))) (dVar 5) [5]) dNil)))))))
def sp_law_list : SpD := spOf N_law_list (rd_law_list sp_law_any sp_law_mixed)
theorem ds_law_list {P : Program} {w : World} {K : PySem.W.Frag} {mg : Str → Option Value} {base : Heap} {k : Nat} (m_list : mg "list" = none) (m_range : mg "range" = none) (m_tuple : mg "tuple" = none)  {sp_law_any : SpD} {sp_law_mixed : SpD} (F_law_any : Fn P w K mg base k "_law_any" s_law_any ["deal", "bound"] sp_law_any) (F_law_mixed : Fn P w K mg base k "_law_mixed" s_law_mixed ["deal", "some"] sp_law_mixed)
    (f : Addr) (cdv : Value) (A : Around) (outer : List Env) (s : Shared) (H : Hp) (E : XK) (B : BS) (W : XW) (hr : Room k (A.deeper (envOfC "_law_list" (defScope s_law_list) s.heap.objs.size f cdv)))
    (tk : TakesD (cxOf (L2.CX P w) P w K mg base N_law_list "_law_list" (defScope s_law_list) f cdv A outer s H E) B W) : DSs (cxOf (L2.CX P w) P w K mg base N_law_list "_law_list" (defScope s_law_list) f cdv A outer s H E) B (defBody s_law_list) (rd_law_list sp_law_any sp_law_mixed W) :=
    (dss_cons (ds_set (i := 3) sc_law_list.nd rfl (.inl rfl) (de_if (dw_pt (dw_or (dt_is (d_v 2) d_non) (dw_or1 (dt_eq hr (d_call F_law_any b_law_any hr tk (da_cons (d_v 0) (da_cons d_int da_nil))) d_int)))) (d_call F_law_mixed b_law_mixed hr tk (da_cons (d_v 0) (da_cons (d_listR false rfl m_list (dr_1 m_range (d_v 1))) da_nil))) (d_list m_list (da_cons (d_v 2) da_nil))))
    (dss_cons (ds_set (i := 4) sc_law_list.nd rfl (.inl rfl) (d_call F_law_any b_law_any hr tk (da_cons (d_v 0) (da_cons d_int da_nil))))
    (dss_cons (ds_if (dt_lt (d_v 4) d_int) (dss_one (ds_ret (d_tuple m_tuple (da_cons (d_v 3) da_nil)))) dss_nil)
    (dss_cons (ds_if (dt_eq hr (d_v 4) d_int) (dss_one (ds_ret (d_tuple m_tuple (da_cons (d_sl (d_v 3) do_no (do_some (d_call F_law_any b_law_any hr tk (da_cons (d_v 0) (da_cons (d_add (d_v 1) d_int) da_nil))))) da_nil)))) dss_nil)
    (dss_one (ds_ret (d_tuple m_tuple (da_cons (de_lc false rfl sc_law_list.nd (blk_of (own := [("one", 5)]) (by kernel_rfl)) (di_seq (d_v 3)) (fun _ _ _ _ _ => ⟨(dg_n (i := 5) sc_law_list.nd rfl (by first | exact .inl rfl | exact .inr rfl) (by decide)), (dts_one (dt_gt (d_call F_law_any b_law_any hr takes0D (da_cons (d_v 0) (da_cons d_int da_nil))) d_int)), (d_v 5)⟩)) da_nil))))))))
theorem fn_law_list {P : Program} {w : World} {K : PySem.W.Frag} {mg : Str → Option Value} {base : Heap} {k : Nat} (m_list : mg "list" = none) (m_range : mg "range" = none) (m_tuple : mg "tuple" = none) (F_law_any : Fn P w K mg base k "_law_any" s_law_any ["deal", "bound"] sp_law_any) (F_law_mixed : Fn P w K mg base k "_law_mixed" s_law_mixed ["deal", "some"] sp_law_mixed) {f : Addr} {fd : FuncData} (F : Fun K "_law_list" "_law_list" s_law_list f fd) (hm : mg "_law_list" = some (.ref f)) : Fn P w K mg base (k + 1) "_law_list" s_law_list ["deal", "places", "like"] sp_law_list :=
  ⟨f, fd, "_law_list", F, hm, dl_fn F sc_law_list (rd_law_list sp_law_any sp_law_mixed) fun cdv A outer s H E B W hr tk => ds_law_list m_list m_range m_tuple F_law_any F_law_mixed f cdv A outer s H E B W hr tk⟩
/-! ### law_wishes -/
abbrev s_law_wishes : Stmt := topS 35
abbrev N_law_wishes : List Str := ["deal", "hall", "places", "like", "person"]
theorem sc_law_wishes : FnScope N_law_wishes ["deal", "hall"] (defScope s_law_wishes) := ⟨rfl, rfl, rfl, by decide +kernel, rfl, by decide +kernel, by decide +kernel⟩
theorem b_law_wishes : BindP "_law_wishes" s_law_wishes ["deal", "hall"] := fun _ _ _ _ _ _ _ us hl => match us, hl with | [_, _], _ => rfl
def rd_law_wishes (sp_law_any : SpD) (sp_law_mixed : SpD) (sp_law_list : SpD) (W : XW) : RS :=
    (sSeq (sSet 2 (dCB oLen (dCons (dVar 1) dNil)))
    (sSeq (sSet 3 (dIf (dTest (dOp oEq (dCall sp_law_any W (dCons (dVar 0) (dCons (dC (.int 2)) dNil))) (dC (.int 0)))) (dCall sp_law_mixed W (dCons (dVar 0) (dCons (dLstR false (rR1 (dVar 2))) dNil))) (dC .non)))
    (sRet (dCB oTuple (dCons (dLcB false (iSeq (dOp oIx (dOp oIx (dVar 1) (dC (.int 0))) (dC (.int 1)))) (gN 4) cNil (dCall sp_law_list W0 (dCons (dVar 0) (dCons (dVar 2) (dCons (dVar 3) dNil)))) [4]) dNil)))))
def sp_law_wishes : SpD := spOf N_law_wishes (rd_law_wishes sp_law_any sp_law_mixed sp_law_list)
theorem ds_law_wishes {P : Program} {w : World} {K : PySem.W.Frag} {mg : Str → Option Value} {base : Heap} {k : Nat} (m_len : mg "len" = none) (m_list : mg "list" = none) (m_range : mg "range" = none) (m_tuple : mg "tuple" = none)  {sp_law_any : SpD} {sp_law_mixed : SpD} {sp_law_list : SpD} (F_law_any : Fn P w K mg base k "_law_any" s_law_any ["deal", "bound"] sp_law_any) (F_law_mixed : Fn P w K mg base k "_law_mixed" s_law_mixed ["deal", "some"] sp_law_mixed) (F_law_list : Fn P w K mg base k "_law_list" s_law_list ["deal", "places", "like"] sp_law_list)
    (f : Addr) (cdv : Value) (A : Around) (outer : List Env) (s : Shared) (H : Hp) (E : XK) (B : BS) (W : XW) (hr : Room k (A.deeper (envOfC "_law_wishes" (defScope s_law_wishes) s.heap.objs.size f cdv)))
    (tk : TakesD (cxOf (L2.CX P w) P w K mg base N_law_wishes "_law_wishes" (defScope s_law_wishes) f cdv A outer s H E) B W) : DSs (cxOf (L2.CX P w) P w K mg base N_law_wishes "_law_wishes" (defScope s_law_wishes) f cdv A outer s H E) B (defBody s_law_wishes) (rd_law_wishes sp_law_any sp_law_mixed sp_law_list W) :=
    (dss_cons (ds_set (i := 2) sc_law_wishes.nd rfl (.inr rfl) (d_len m_len (da_cons (d_v 1) da_nil)))
    (dss_cons (ds_set (i := 3) sc_law_wishes.nd rfl (.inr rfl) (de_if (dt_eq hr (d_call F_law_any b_law_any hr tk (da_cons (d_v 0) (da_cons d_int da_nil))) d_int) (d_call F_law_mixed b_law_mixed hr tk (da_cons (d_v 0) (da_cons (d_listR false rfl m_list (dr_1 m_range (d_v 2))) da_nil))) d_non))
    (dss_one (ds_ret (d_tuple m_tuple (da_cons (de_lc false rfl sc_law_wishes.nd (blk_of (own := [("person", 4)]) (by kernel_rfl)) (di_seq (d_ix (d_ix (d_v 1) d_int) d_int)) (fun _ _ _ _ _ => ⟨(dg_n (i := 4) sc_law_wishes.nd rfl (by first | exact .inl rfl | exact .inr rfl) (by decide)), dts_nil, (d_call F_law_list b_law_list hr takes0D (da_cons (d_v 0) (da_cons (d_v 2) (da_cons (d_v 3) da_nil))))⟩)) da_nil))))))
theorem fn_law_wishes {P : Program} {w : World} {K : PySem.W.Frag} {mg : Str → Option Value} {base : Heap} {k : Nat} (m_len : mg "len" = none) (m_list : mg "list" = none) (m_range : mg "range" = none) (m_tuple : mg "tuple" = none) (F_law_any : Fn P w K mg base k "_law_any" s_law_any ["deal", "bound"] sp_law_any) (F_law_mixed : Fn P w K mg base k "_law_mixed" s_law_mixed ["deal", "some"] sp_law_mixed) (F_law_list : Fn P w K mg base k "_law_list" s_law_list ["deal", "places", "like"] sp_law_list) {f : Addr} {fd : FuncData} (F : Fun K "_law_wishes" "_law_wishes" s_law_wishes f fd) (hm : mg "_law_wishes" = some (.ref f)) : Fn P w K mg base (k + 1) "_law_wishes" s_law_wishes ["deal", "hall"] sp_law_wishes :=
  ⟨f, fd, "_law_wishes", F, hm, dl_fn F sc_law_wishes (rd_law_wishes sp_law_any sp_law_mixed sp_law_list) fun cdv A outer s H E B W hr tk => ds_law_wishes m_len m_list m_range m_tuple F_law_any F_law_mixed F_law_list f cdv A outer s H E B W hr tk⟩
/-! ### law_at -/
abbrev s_law_at : Stmt := topS 36
abbrev N_law_at : List Str := ["dealing", "place", "person", "one"]
theorem sc_law_at : FnScope N_law_at ["dealing", "place"] (defScope s_law_at) := ⟨rfl, rfl, rfl, by decide +kernel, rfl, by decide +kernel, by decide +kernel⟩
theorem b_law_at : BindP "_law_at" s_law_at ["dealing", "place"] := fun _ _ _ _ _ _ _ us hl => match us, hl with | [_, _], _ => rfl
def rd_law_at (W : XW) : RS :=
    (sRet (dLcB false (iEnu (dVar 0)) (gTup 2 (gCo (gN 2) (gCo (gN 3) gNi))) (dAnd (dTest (dOp (oIs true) (dVar 3) (dC .non))) (dTest (dOp oEq (dVar 3) (dVar 1)))) (dVar 2) [2, 3]))
def sp_law_at : SpD := spOf N_law_at (rd_law_at)
theorem ds_law_at {P : Program} {w : World} {K : PySem.W.Frag} {mg : Str → Option Value} {base : Heap} {k : Nat} (m_enumerate : mg "enumerate" = none)   
    (f : Addr) (cdv : Value) (A : Around) (outer : List Env) (s : Shared) (H : Hp) (E : XK) (B : BS) (W : XW) (hr : Room k (A.deeper (envOfC "_law_at" (defScope s_law_at) s.heap.objs.size f cdv)))
    (tk : TakesD (cxOf (L2.CX P w) P w K mg base N_law_at "_law_at" (defScope s_law_at) f cdv A outer s H E) B W) : DSs (cxOf (L2.CX P w) P w K mg base N_law_at "_law_at" (defScope s_law_at) f cdv A outer s H E) B (defBody s_law_at) (rd_law_at W) :=
    (dss_one (ds_ret (de_lc false rfl sc_law_at.nd (blk_of (own := [("person", 2), ("one", 3)]) (by kernel_rfl)) (di_enum m_enumerate (d_v 0)) (fun _ _ _ _ _ => ⟨(dg_tupA rfl (dgs_cons (dg_n (i := 2) sc_law_at.nd rfl (by first | exact .inl rfl | exact .inr rfl) (by decide)) (dgs_cons (dg_n (i := 3) sc_law_at.nd rfl (by first | exact .inl rfl | exact .inr rfl) (by decide)) dgs_nil))), (dts_one (dw_pt (dw_and (dt_isNot (d_v 3) d_non) (dw_and1 (dt_eq hr (d_v 3) (d_v 1)))))), (d_v 2)⟩))))
theorem fn_law_at {P : Program} {w : World} {K : PySem.W.Frag} {mg : Str → Option Value} {base : Heap} {k : Nat} (m_enumerate : mg "enumerate" = none) {f : Addr} {fd : FuncData} (F : Fun K "_law_at" "_law_at" s_law_at f fd) (hm : mg "_law_at" = some (.ref f)) : Fn P w K mg base (k + 1) "_law_at" s_law_at ["dealing", "place"] sp_law_at :=
  ⟨f, fd, "_law_at", F, hm, dl_fn F sc_law_at (rd_law_at) fun cdv A outer s H E B W hr tk => ds_law_at m_enumerate  f cdv A outer s H E B W hr tk⟩
/-! ### law_ranks -/
abbrev s_law_ranks : Stmt := topS 37
abbrev N_law_ranks : List Str := ["hall", "found", "seats", "order", "person"]
theorem sc_law_ranks : FnScope N_law_ranks ["hall"] (defScope s_law_ranks) := ⟨rfl, rfl, rfl, by decide +kernel, rfl, by decide +kernel, by decide +kernel⟩
theorem b_law_ranks : BindP "_law_ranks" s_law_ranks ["hall"] := fun _ _ _ _ _ _ _ us hl => match us, hl with | [_], _ => rfl
def rd_law_ranks (W : XW) : RS :=
    (sSeq (sSet 1 (dLstC dNil))
    (sSeq (sFor (iSeq (dVar 0)) (gTup 2 (gCo (gN 2) (gCo (gN 3) gNi))) (sDrop (dMl oApp (dVar 1) (dCons (dLcB false (iR1 (dCB oLen (dCons (dVar 3) dNil))) (gN 4) cNil (dMt oIdxT (dVar 3) (dCons (dVar 4) dNil)) [4]) dNil))))
    (sRet (dVar 1))))
def sp_law_ranks : SpD := spOf N_law_ranks (rd_law_ranks)
theorem ds_law_ranks {P : Program} {w : World} {K : PySem.W.Frag} {mg : Str → Option Value} {base : Heap} {k : Nat} (m_len : mg "len" = none) (m_range : mg "range" = none)   
    (f : Addr) (cdv : Value) (A : Around) (outer : List Env) (s : Shared) (H : Hp) (E : XK) (B : BS) (W : XW) (hr : Room k (A.deeper (envOfC "_law_ranks" (defScope s_law_ranks) s.heap.objs.size f cdv)))
    (tk : TakesD (cxOf (L2.CX P w) P w K mg base N_law_ranks "_law_ranks" (defScope s_law_ranks) f cdv A outer s H E) B W) : DSs (cxOf (L2.CX P w) P w K mg base N_law_ranks "_law_ranks" (defScope s_law_ranks) f cdv A outer s H E) B (defBody s_law_ranks) (rd_law_ranks W) :=
    (dss_cons (ds_set (i := 1) sc_law_ranks.nd rfl (.inl rfl) (d_lstC da_nil))
    (dss_cons (ds_for (vs := [2, 3]) (passes_of rfl) rfl (di_seq (d_v 0)) (dg_tupA rfl (dgs_cons (dg_n (i := 2) sc_law_ranks.nd rfl (by first | exact .inl rfl | exact .inr rfl) (by decide)) (dgs_cons (dg_n (i := 3) sc_law_ranks.nd rfl (by first | exact .inl rfl | exact .inr rfl) (by decide)) dgs_nil))) (dss_one (ds_expr (d_append (d_v 1) (da_cons (de_lc false rfl sc_law_ranks.nd (blk_of (own := [("person", 4)]) (by kernel_rfl)) (di_range1 m_range (d_len m_len (da_cons (d_v 3) da_nil))) (fun _ _ _ _ _ => ⟨(dg_n (i := 4) sc_law_ranks.nd rfl (by first | exact .inl rfl | exact .inr rfl) (by decide)), dts_nil, (d_indexT (d_v 3) (da_cons (d_v 4) da_nil))⟩)) da_nil)))))
    (dss_one (ds_ret (d_v 1)))))
theorem fn_law_ranks {P : Program} {w : World} {K : PySem.W.Frag} {mg : Str → Option Value} {base : Heap} {k : Nat} (m_len : mg "len" = none) (m_range : mg "range" = none) {f : Addr} {fd : FuncData} (F : Fun K "_law_ranks" "_law_ranks" s_law_ranks f fd) (hm : mg "_law_ranks" = some (.ref f)) : Fn P w K mg base (k + 1) "_law_ranks" s_law_ranks ["hall"] sp_law_ranks :=
  ⟨f, fd, "_law_ranks", F, hm, dl_fn F sc_law_ranks (rd_law_ranks) fun cdv A outer s H E B W hr tk => ds_law_ranks m_len m_range  f cdv A outer s H E B W hr tk⟩
/-! ### law_go -/
abbrev s_law_go : Stmt := topS 38
abbrev N_law_go : List Str := ["hall", "ranks", "lists", "found", "spots", "free", "person", "place", "held", "last", "one"]
theorem sc_law_go : FnScope N_law_go ["hall", "ranks", "lists", "found", "spots", "free"] (defScope s_law_go) := ⟨rfl, rfl, rfl, by decide +kernel, rfl, by decide +kernel, by decide +kernel⟩
theorem b_law_go : BindP "_law_go" s_law_go ["hall", "ranks", "lists", "found", "spots", "free"] := fun _ _ _ _ _ _ _ us hl => match us, hl with | [_, _, _, _, _, _], _ => rfl
def rd_law_go (sp_law_at : SpD) (W : XW) : RS :=
    (sWhile (dTest (dOp oNe (dVar 5) (dLst dNil))) (sSeq (sSet 6 (dMl0 oPop (dVar 5)))
    (sIf (dTest (dOp oLt (dOp oIx (dVar 4) (dVar 6)) (dCB oLen (dCons (dOp oIx (dVar 2) (dVar 6)) dNil)))) (sSeq (sSet 7 (dOp oIx (dOp oIx (dVar 2) (dVar 6)) (dOp oIx (dVar 4) (dVar 6))))
    (sSeq (sAsg (dOp oAdd (dOp oIx (dVar 4) (dVar 6)) (dC (.int 1))) (gSb (dVar 4) (dVar 6)))
    (sSeq (sAsg (dVar 7) (gSb (dVar 3) (dVar 6)))
    (sSeq (sSet 8 (dCall sp_law_at W (dCons (dVar 3) (dCons (dVar 7) dNil))))
    (sIf (dTest (dOp oGt (dCB oLen (dCons (dVar 8) dNil)) (dOp oIx (dOp oIx (dVar 0) (dVar 7)) (dC (.int 0))))) (sSeq (sSet 9 (dOp oIx (dCB oMaxA (dCons (dLcB false (iSeq (dVar 8)) (gN 10) cNil (dTup (dCons (dOp oIx (dOp oIx (dVar 1) (dVar 7)) (dVar 10)) (dCons (dVar 10) dNil))) [10]) dNil)) (dC (.int 1))))
    (sSeq (sAsg (dC .non) (gSb (dVar 3) (dVar 9)))
    (sDrop (dMl oApp (dVar 5) (dCons (dVar 9) dNil))))) sNext))))) sNext)))
def sp_law_go : SpD := spOf N_law_go (rd_law_go sp_law_at)
theorem ds_law_go {P : Program} {w : World} {K : PySem.W.Frag} {mg : Str → Option Value} {base : Heap} {k : Nat} (m_len : mg "len" = none) (m_max : mg "max" = none)  {sp_law_at : SpD} (F_law_at : Fn P w K mg base k "_law_at" s_law_at ["dealing", "place"] sp_law_at)
    (f : Addr) (cdv : Value) (A : Around) (outer : List Env) (s : Shared) (H : Hp) (E : XK) (B : BS) (W : XW) (hr : Room k (A.deeper (envOfC "_law_go" (defScope s_law_go) s.heap.objs.size f cdv)))
    (tk : TakesD (cxOf (L2.CX P w) P w K mg base N_law_go "_law_go" (defScope s_law_go) f cdv A outer s H E) B W) : DSs (cxOf (L2.CX P w) P w K mg base N_law_go "_law_go" (defScope s_law_go) f cdv A outer s H E) B (defBody s_law_go) (rd_law_go sp_law_at W) :=
    (dss_one (ds_while (passes_of rfl) (dt_ne hr (d_v 5) (d_lst da_nil)) (dss_cons (ds_set (i := 6) sc_law_go.nd rfl (.inl rfl) (d_pop (d_v 5)))
    (dss_one (ds_if (dt_lt (d_ix (d_v 4) (d_v 6)) (d_len m_len (da_cons (d_ix (d_v 2) (d_v 6)) da_nil))) (dss_cons (ds_set (i := 7) sc_law_go.nd rfl (.inr rfl) (d_ix (d_ix (d_v 2) (d_v 6)) (d_ix (d_v 4) (d_v 6))))
    (dss_cons (ds_asg (vs := []) (d_add (d_ix (d_v 4) (d_v 6)) d_int) (dg_sub (d_v 4) (d_v 6)))
    (dss_cons (ds_asg (vs := []) (d_v 7) (dg_sub (d_v 3) (d_v 6)))
    (dss_cons (ds_set (i := 8) sc_law_go.nd rfl (.inl rfl) (d_call F_law_at b_law_at hr tk (da_cons (d_v 3) (da_cons (d_v 7) da_nil))))
    (dss_one (ds_if (dt_gt (d_len m_len (da_cons (d_v 8) da_nil)) (d_ix (d_ix (d_v 0) (d_v 7)) d_int)) (dss_cons (ds_set (i := 9) sc_law_go.nd rfl (.inl rfl) (d_ix (d_maxA hr rfl m_max (da_cons (de_lc false rfl sc_law_go.nd (blk_of (own := [("one", 10)]) (by kernel_rfl)) (di_seq (d_v 8)) (fun _ _ _ _ _ => ⟨(dg_n (i := 10) sc_law_go.nd rfl (by first | exact .inl rfl | exact .inr rfl) (by decide)), dts_nil, (d_tup (da_cons (d_ix (d_ix (d_v 1) (d_v 7)) (d_v 10)) (da_cons (d_v 10) da_nil)))⟩)) da_nil)) d_int))
    (dss_cons (ds_asg (vs := []) d_non (dg_sub (d_v 3) (d_v 9)))
    (dss_one (ds_expr (d_append (d_v 5) (da_cons (d_v 9) da_nil)))))) dss_nil)))))) dss_nil)))))
theorem fn_law_go {P : Program} {w : World} {K : PySem.W.Frag} {mg : Str → Option Value} {base : Heap} {k : Nat} (m_len : mg "len" = none) (m_max : mg "max" = none) (F_law_at : Fn P w K mg base k "_law_at" s_law_at ["dealing", "place"] sp_law_at) {f : Addr} {fd : FuncData} (F : Fun K "_law_go" "_law_go" s_law_go f fd) (hm : mg "_law_go" = some (.ref f)) : Fn P w K mg base (k + 1) "_law_go" s_law_go ["hall", "ranks", "lists", "found", "spots", "free"] sp_law_go :=
  ⟨f, fd, "_law_go", F, hm, dl_fn F sc_law_go (rd_law_go sp_law_at) fun cdv A outer s H E B W hr tk => ds_law_go m_len m_max F_law_at f cdv A outer s H E B W hr tk⟩
/-! ### law_with -/
abbrev s_law_with : Stmt := topS 39
abbrev N_law_with : List Str := ["wishes", "person", "chosen"]
theorem sc_law_with : FnScope N_law_with ["wishes", "person", "chosen"] (defScope s_law_with) := ⟨rfl, rfl, rfl, by decide +kernel, rfl, by decide +kernel, by decide +kernel⟩
theorem b_law_with : BindP "_law_with" s_law_with ["wishes", "person", "chosen"] := fun _ _ _ _ _ _ _ us hl => match us, hl with | [_, _, _], _ => rfl
def rd_law_with (W : XW) : RS :=
    (sRet (dOp oAdd (dOp oAdd (dSl oSl (dVar 0) dNo (dPart (dVar 1))) (dTup (dCons (dVar 2) dNil))) (dSl oSl (dVar 0) (dPart (dOp oAdd (dVar 1) (dC (.int 1)))) dNo)))
def sp_law_with : SpD := spOf N_law_with (rd_law_with)
theorem ds_law_with {P : Program} {w : World} {K : PySem.W.Frag} {mg : Str → Option Value} {base : Heap} {k : Nat}    
    (f : Addr) (cdv : Value) (A : Around) (outer : List Env) (s : Shared) (H : Hp) (E : XK) (B : BS) (W : XW) (hr : Room k (A.deeper (envOfC "_law_with" (defScope s_law_with) s.heap.objs.size f cdv)))
    (tk : TakesD (cxOf (L2.CX P w) P w K mg base N_law_with "_law_with" (defScope s_law_with) f cdv A outer s H E) B W) : DSs (cxOf (L2.CX P w) P w K mg base N_law_with "_law_with" (defScope s_law_with) f cdv A outer s H E) B (defBody s_law_with) (rd_law_with W) :=
    (dss_one (ds_ret (d_add (d_add (d_sl (d_v 0) do_no (do_some (d_v 1))) (d_tup (da_cons (d_v 2) da_nil))) (d_sl (d_v 0) (do_some (d_add (d_v 1) d_int)) do_no))))
theorem fn_law_with {P : Program} {w : World} {K : PySem.W.Frag} {mg : Str → Option Value} {base : Heap} {k : Nat}  {f : Addr} {fd : FuncData} (F : Fun K "_law_with" "_law_with" s_law_with f fd) (hm : mg "_law_with" = some (.ref f)) : Fn P w K mg base (k + 1) "_law_with" s_law_with ["wishes", "person", "chosen"] sp_law_with :=
  ⟨f, fd, "_law_with", F, hm, dl_fn F sc_law_with (rd_law_with) fun cdv A outer s H E B W hr tk => ds_law_with   f cdv A outer s H E B W hr tk⟩
/-! ### law_cuts -/
abbrev s_law_cuts : Stmt := topS 41
abbrev N_law_cuts : List Str := ["hall", "ranks", "wishes", "most", "found", "spots", "row", "free", "one", "person", "place", "wished"]
theorem sc_law_cuts : FnScope N_law_cuts ["hall", "ranks", "wishes"] (defScope s_law_cuts) := ⟨rfl, rfl, rfl, by decide +kernel, rfl, by decide +kernel, by decide +kernel⟩
theorem b_law_cuts : BindP "_law_cuts" s_law_cuts ["hall", "ranks", "wishes"] := fun _ _ _ _ _ _ _ us hl => match us, hl with | [_, _, _], _ => rfl
def rd_law_cuts (sp_law_go : SpD) (W : XW) : RS :=
    (sSeq (sPar3 4 5 6 (dCons (dLcB true (iSeq (dVar 2)) (gN 8) cNil (dC .non) [8]) (dCons (dLcB true (iSeq (dVar 2)) (gN 8) cNil (dC (.int 0)) [8]) (dCons (dLstC dNil) dNil))))
    (sSeq (sFor (iR1 (dC (.int 13))) (gN 3) (sSeq (sSet 7 (dLcB true (iEnu (dVar 4)) (gTup 2 (gCo (gN 9) (gCo (gN 10) gNi))) (dTest (dOp (oIs false) (dVar 10) (dC .non))) (dVar 9) [9, 10]))
    (sSeq (sDrop (dCall sp_law_go W (dCons (dVar 0) (dCons (dVar 1) (dCons (dLcB false (iSeq (dVar 2)) (gN 11) cNil (dSl oSl (dVar 11) dNo (dPart (dVar 3))) [11]) (dCons (dVar 4) (dCons (dVar 5) (dCons (dVar 7) dNil))))))))
    (sDrop (dMl oApp (dVar 6) (dCons (dCB oTuple (dCons (dVar 4) dNil)) dNil))))))
    (sRet (dVar 6))))
def sp_law_cuts : SpD := spOf N_law_cuts (rd_law_cuts sp_law_go)
theorem ds_law_cuts {P : Program} {w : World} {K : PySem.W.Frag} {mg : Str → Option Value} {base : Heap} {k : Nat} (m_enumerate : mg "enumerate" = none) (m_range : mg "range" = none) (m_tuple : mg "tuple" = none)  {sp_law_go : SpD} (F_law_go : Fn P w K mg base k "_law_go" s_law_go ["hall", "ranks", "lists", "found", "spots", "free"] sp_law_go)
    (f : Addr) (cdv : Value) (A : Around) (outer : List Env) (s : Shared) (H : Hp) (E : XK) (B : BS) (W : XW) (hr : Room k (A.deeper (envOfC "_law_cuts" (defScope s_law_cuts) s.heap.objs.size f cdv)))
    (tk : TakesD (cxOf (L2.CX P w) P w K mg base N_law_cuts "_law_cuts" (defScope s_law_cuts) f cdv A outer s H E) B W) : DSs (cxOf (L2.CX P w) P w K mg base N_law_cuts "_law_cuts" (defScope s_law_cuts) f cdv A outer s H E) B (defBody s_law_cuts) (rd_law_cuts sp_law_go W) :=
    (dss_cons (ds_par3 (i := 4) (j := 5) (l := 6) rfl sc_law_cuts.nd rfl rfl rfl (by decide) (by decide) (by decide) rfl rfl rfl (da_cons (de_lc true rfl sc_law_cuts.nd (blk_of (own := [("one", 8)]) (by kernel_rfl)) (di_seq (d_v 2)) (fun _ _ _ _ _ => ⟨(dg_n (i := 8) sc_law_cuts.nd rfl (by first | exact .inl rfl | exact .inr rfl) (by decide)), dts_nil, d_non⟩)) (da_cons (de_lc true rfl sc_law_cuts.nd (blk_of (own := [("one", 8)]) (by kernel_rfl)) (di_seq (d_v 2)) (fun _ _ _ _ _ => ⟨(dg_n (i := 8) sc_law_cuts.nd rfl (by first | exact .inl rfl | exact .inr rfl) (by decide)), dts_nil, d_int⟩)) (da_cons (d_lstC da_nil) da_nil))))
    (dss_cons (ds_for (vs := [3]) (passes_of rfl) rfl (di_range1 m_range d_int) (dg_n (i := 3) sc_law_cuts.nd rfl (by first | exact .inl rfl | exact .inr rfl) (by decide)) (dss_cons (ds_setLc true rfl sc_law_cuts.nd (blk_of (own := [("person", 9), ("place", 10)]) (by kernel_rfl)) (i := 7) rfl rfl (di_enum m_enumerate (d_v 4)) (fun _ _ _ _ _ => ⟨(dg_tupA rfl (dgs_cons (dg_n (i := 9) sc_law_cuts.nd rfl (by first | exact .inl rfl | exact .inr rfl) (by decide)) (dgs_cons (dg_n (i := 10) sc_law_cuts.nd rfl (by first | exact .inl rfl | exact .inr rfl) (by decide)) dgs_nil))), (dts_one (dt_is (d_v 10) d_non)), (d_v 9)⟩))
    (dss_cons (ds_expr (d_call F_law_go b_law_go hr tk (da_cons (d_v 0) (da_cons (d_v 1) (da_cons (de_lc false rfl sc_law_cuts.nd (blk_of (own := [("wished", 11)]) (by kernel_rfl)) (di_seq (d_v 2)) (fun _ _ _ _ _ => ⟨(dg_n (i := 11) sc_law_cuts.nd rfl (by first | exact .inl rfl | exact .inr rfl) (by decide)), dts_nil, (d_sl (d_v 11) do_no (do_some (d_v 3)))⟩)) (da_cons (d_v 4) (da_cons (d_v 5) (da_cons (d_v 7) da_nil))))))))
    (dss_one (ds_expr (d_append (d_v 6) (da_cons (d_tuple m_tuple (da_cons (d_v 4) da_nil)) da_nil)))))))
    (dss_one (ds_ret (d_v 6)))))
theorem fn_law_cuts {P : Program} {w : World} {K : PySem.W.Frag} {mg : Str → Option Value} {base : Heap} {k : Nat} (m_enumerate : mg "enumerate" = none) (m_range : mg "range" = none) (m_tuple : mg "tuple" = none) (F_law_go : Fn P w K mg base k "_law_go" s_law_go ["hall", "ranks", "lists", "found", "spots", "free"] sp_law_go) {f : Addr} {fd : FuncData} (F : Fun K "_law_cuts" "_law_cuts" s_law_cuts f fd) (hm : mg "_law_cuts" = some (.ref f)) : Fn P w K mg base (k + 1) "_law_cuts" s_law_cuts ["hall", "ranks", "wishes"] sp_law_cuts :=
  ⟨f, fd, "_law_cuts", F, hm, dl_fn F sc_law_cuts (rd_law_cuts sp_law_go) fun cdv A outer s H E B W hr tk => ds_law_cuts m_enumerate m_range m_tuple F_law_go f cdv A outer s H E B W hr tk⟩
/-! ### law_shut_out -/
abbrev s_law_shut_out : Stmt := topS 42
abbrev N_law_shut_out : List Str := ["hall", "ranks", "wishes", "most", "cut", "shut", "found", "spots", "person", "place", "then", "one", "wished"]
theorem sc_law_shut_out : FnScope N_law_shut_out ["hall", "ranks", "wishes", "most"] (defScope s_law_shut_out) := ⟨rfl, rfl, rfl, by decide +kernel, rfl, by decide +kernel, by decide +kernel⟩
theorem b_law_shut_out : BindP "_law_shut_out" s_law_shut_out ["hall", "ranks", "wishes", "most"] := fun _ _ _ _ _ _ _ us hl => match us, hl with | [_, _, _, _], _ => rfl
def rd_law_shut_out (sp_law_go : SpD) (sp_law_with : SpD) (W : XW) : RS :=
    (sSeq (sPar 4 5 (dCons (dCB oTuple (dCons (dLcB false (iSeq (dVar 2)) (gN 12) cNil (dSl oSl (dVar 12) dNo (dPart (dVar 3))) [12]) dNil)) (dCons (dLstC dNil) dNil)))
    (sSeq (sPar 6 7 (dCons (dLcB true (iSeq (dVar 2)) (gN 11) cNil (dC .non) [11]) (dCons (dLcB true (iSeq (dVar 2)) (gN 11) cNil (dC (.int 0)) [11]) dNil)))
    (sSeq (sDrop (dCall sp_law_go W (dCons (dVar 0) (dCons (dVar 1) (dCons (dVar 4) (dCons (dVar 6) (dCons (dVar 7) (dCons (dLstR true (rR1 (dCB oLen (dCons (dVar 2) dNil)))) dNil))))))))
    (sSeq (sFor (iEnu (dVar 6)) (gTup 2 (gCo (gN 8) (gCo (gN 9) gNi))) (sIf (dAnd (dTest (dOp (oIs false) (dVar 9) (dC .non))) (dTest (dOp oGt (dCB oLen (dCons (dOp oIx (dVar 2) (dVar 8)) dNil)) (dCB oLen (dCons (dOp oIx (dVar 4) (dVar 8)) dNil))))) (sSeq (sSet 10 (dCB oListC (dCons (dVar 6) dNil)))
    (sSeq (sDrop (dCall sp_law_go W (dCons (dVar 0) (dCons (dVar 1) (dCons (dCall sp_law_with W (dCons (dVar 4) (dCons (dVar 8) (dCons (dOp oIx (dVar 2) (dVar 8)) dNil)))) (dCons (dVar 10) (dCons (dCB oListC (dCons (dVar 7) dNil)) (dCons (dLstC (dCons (dVar 8) dNil)) dNil))))))))
    (sIf (dTest (dOp (oIs true) (dOp oIx (dVar 10) (dVar 8)) (dC .non))) (sDrop (dMl oApp (dVar 5) (dCons (dVar 8) dNil))) sNext))) sNext))
    (sRet (dCB oTuple (dCons (dVar 5) dNil)))))))
def sp_law_shut_out : SpD := spOf N_law_shut_out (rd_law_shut_out sp_law_go sp_law_with)
theorem ds_law_shut_out {P : Program} {w : World} {K : PySem.W.Frag} {mg : Str → Option Value} {base : Heap} {k : Nat} (m_enumerate : mg "enumerate" = none) (m_len : mg "len" = none) (m_list : mg "list" = none) (m_range : mg "range" = none) (m_tuple : mg "tuple" = none)  {sp_law_go : SpD} {sp_law_with : SpD} (F_law_go : Fn P w K mg base k "_law_go" s_law_go ["hall", "ranks", "lists", "found", "spots", "free"] sp_law_go) (F_law_with : Fn P w K mg base k "_law_with" s_law_with ["wishes", "person", "chosen"] sp_law_with)
    (f : Addr) (cdv : Value) (A : Around) (outer : List Env) (s : Shared) (H : Hp) (E : XK) (B : BS) (W : XW) (hr : Room k (A.deeper (envOfC "_law_shut_out" (defScope s_law_shut_out) s.heap.objs.size f cdv)))
    (tk : TakesD (cxOf (L2.CX P w) P w K mg base N_law_shut_out "_law_shut_out" (defScope s_law_shut_out) f cdv A outer s H E) B W) : DSs (cxOf (L2.CX P w) P w K mg base N_law_shut_out "_law_shut_out" (defScope s_law_shut_out) f cdv A outer s H E) B (defBody s_law_shut_out) (rd_law_shut_out sp_law_go sp_law_with W) :=
    (dss_cons (ds_par (i := 4) (j := 5) rfl sc_law_shut_out.nd rfl rfl (by decide) rfl rfl (da_cons (d_tuple m_tuple (da_cons (de_lc false rfl sc_law_shut_out.nd (blk_of (own := [("wished", 12)]) (by kernel_rfl)) (di_seq (d_v 2)) (fun _ _ _ _ _ => ⟨(dg_n (i := 12) sc_law_shut_out.nd rfl (by first | exact .inl rfl | exact .inr rfl) (by decide)), dts_nil, (d_sl (d_v 12) do_no (do_some (d_v 3)))⟩)) da_nil)) (da_cons (d_lstC da_nil) da_nil)))
    (dss_cons (ds_par (i := 6) (j := 7) rfl sc_law_shut_out.nd rfl rfl (by decide) rfl rfl (da_cons (de_lc true rfl sc_law_shut_out.nd (blk_of (own := [("one", 11)]) (by kernel_rfl)) (di_seq (d_v 2)) (fun _ _ _ _ _ => ⟨(dg_n (i := 11) sc_law_shut_out.nd rfl (by first | exact .inl rfl | exact .inr rfl) (by decide)), dts_nil, d_non⟩)) (da_cons (de_lc true rfl sc_law_shut_out.nd (blk_of (own := [("one", 11)]) (by kernel_rfl)) (di_seq (d_v 2)) (fun _ _ _ _ _ => ⟨(dg_n (i := 11) sc_law_shut_out.nd rfl (by first | exact .inl rfl | exact .inr rfl) (by decide)), dts_nil, d_int⟩)) da_nil)))
    (dss_cons (ds_expr (d_call F_law_go b_law_go hr tk (da_cons (d_v 0) (da_cons (d_v 1) (da_cons (d_v 4) (da_cons (d_v 6) (da_cons (d_v 7) (da_cons (d_listR true rfl m_list (dr_1 m_range (d_len m_len (da_cons (d_v 2) da_nil)))) da_nil))))))))
    (dss_cons (ds_for (vs := [8, 9]) (passes_of rfl) rfl (di_enum m_enumerate (d_v 6)) (dg_tupA rfl (dgs_cons (dg_n (i := 8) sc_law_shut_out.nd rfl (by first | exact .inl rfl | exact .inr rfl) (by decide)) (dgs_cons (dg_n (i := 9) sc_law_shut_out.nd rfl (by first | exact .inl rfl | exact .inr rfl) (by decide)) dgs_nil))) (dss_one (ds_if (dw_pt (dw_and (dt_is (d_v 9) d_non) (dw_and1 (dt_gt (d_len m_len (da_cons (d_ix (d_v 2) (d_v 8)) da_nil)) (d_len m_len (da_cons (d_ix (d_v 4) (d_v 8)) da_nil)))))) (dss_cons (ds_set (i := 10) sc_law_shut_out.nd rfl (.inl rfl) (d_listC m_list (da_cons (d_v 6) da_nil)))
    (dss_cons (ds_expr (d_call F_law_go b_law_go hr tk (da_cons (d_v 0) (da_cons (d_v 1) (da_cons (d_call F_law_with b_law_with hr tk (da_cons (d_v 4) (da_cons (d_v 8) (da_cons (d_ix (d_v 2) (d_v 8)) da_nil)))) (da_cons (d_v 10) (da_cons (d_listC m_list (da_cons (d_v 7) da_nil)) (da_cons (d_lstC (da_cons (d_v 8) da_nil)) da_nil))))))))
    (dss_one (ds_if (dt_isNot (d_ix (d_v 10) (d_v 8)) d_non) (dss_one (ds_expr (d_append (d_v 5) (da_cons (d_v 8) da_nil)))) dss_nil)))) dss_nil)))
    (dss_one (ds_ret (d_tuple m_tuple (da_cons (d_v 5) da_nil))))))))
theorem fn_law_shut_out {P : Program} {w : World} {K : PySem.W.Frag} {mg : Str → Option Value} {base : Heap} {k : Nat} (m_enumerate : mg "enumerate" = none) (m_len : mg "len" = none) (m_list : mg "list" = none) (m_range : mg "range" = none) (m_tuple : mg "tuple" = none) (F_law_go : Fn P w K mg base k "_law_go" s_law_go ["hall", "ranks", "lists", "found", "spots", "free"] sp_law_go) (F_law_with : Fn P w K mg base k "_law_with" s_law_with ["wishes", "person", "chosen"] sp_law_with) {f : Addr} {fd : FuncData} (F : Fun K "_law_shut_out" "_law_shut_out" s_law_shut_out f fd) (hm : mg "_law_shut_out" = some (.ref f)) : Fn P w K mg base (k + 1) "_law_shut_out" s_law_shut_out ["hall", "ranks", "wishes", "most"] sp_law_shut_out :=
  ⟨f, fd, "_law_shut_out", F, hm, dl_fn F sc_law_shut_out (rd_law_shut_out sp_law_go sp_law_with) fun cdv A outer s H E B W hr tk => ds_law_shut_out m_enumerate m_len m_list m_range m_tuple F_law_go F_law_with f cdv A outer s H E B W hr tk⟩
/-! ### law -/
abbrev s_law : Stmt := topS 43
abbrev N_law : List Str := ["script", "deal", "sizes", "hall", "wishes", "ranks", "row", "due", "most", "cut", "dealing", "person", "place", "wished", "one"]
theorem sc_law : FnScope N_law ["script"] (defScope s_law) := ⟨rfl, rfl, rfl, by decide +kernel, rfl, by decide +kernel, by decide +kernel⟩
theorem b_law : BindP "law" s_law ["script"] := fun _ _ _ _ _ _ _ us hl => match us, hl with | [_], _ => rfl
theorem bk_names_enough_0_wishes_hall : BindK "names_enough" s_names_enough ["hall", "wishes"] ["wishes", "hall"] 0 [1, 0] := fun _ _ _ _ _ _ _ us ws h1 h2 => match us, ws, h1, h2 with | [], [_, _], _, _ => rfl
theorem bk_cut_short_0_most_wishes : BindK "cut_short" s_cut_short ["wishes", "most"] ["most", "wishes"] 0 [1, 0] := fun _ _ _ _ _ _ _ us ws h1 h2 => match us, ws, h1, h2 with | [], [_, _], _, _ => rfl
theorem bk_shut_out_0_most_wishes_hall : BindK "shut_out" s_shut_out ["hall", "wishes", "most"] ["most", "wishes", "hall"] 0 [2, 1, 0] := fun _ _ _ _ _ _ _ us ws h1 h2 => match us, ws, h1, h2 with | [], [_, _, _], _, _ => rfl
def rd_law (sp_law_draw : SpD) (sp_law_of : SpD) (sp_law_hall : SpD) (sp_law_wishes : SpD) (sp_law_any : SpD) (sp_law_ranks : SpD) (sp_law_cuts : SpD) (sp_law_same : SpD) (sp_names_enough : SpD) (sp_cut_short : SpD) (sp_law_shut_out : SpD) (sp_shut_out : SpD) (sp_people_best : SpD) (sp_is_stable : SpD) (sp_blocking_pairs : SpD) (W : XW) : RS :=
    (sSeq (sSet 1 (dCall sp_law_draw W (dCons (dVar 0) (dCons (dC (.int 59)) dNil))))
    (sSeq (sSet 2 (dCall sp_law_of W (dCons (dVar 1) (dCons (dLst (dCons (dTup (dCons (dC (.int 40)) (dCons (dC (.int 12)) (dCons (dC (.int 3)) dNil)))) (dCons (dTup (dCons (dC (.int 16)) (dCons (dC (.int 12)) (dCons (dC (.int 1)) dNil)))) (dCons (dTup (dCons (dC (.int 8)) (dCons (dC (.int 4)) (dCons (dC (.int 2)) dNil)))) (dCons (dTup (dCons (dC (.int 40)) (dCons (dC (.int 12)) (dCons (dC (.int 20)) dNil)))) (dCons (dTup (dCons (dC (.int 6)) (dCons (dC (.int 3)) (dCons (dC (.int 2)) dNil)))) dNil)))))) dNil))))
    (sSeq (sSet 3 (dCall sp_law_hall W (dCons (dVar 1) (dCons (dOp oIx (dVar 2) (dC (.int 0))) (dCons (dOp oIx (dVar 2) (dC (.int 1))) (dCons (dOp oIx (dVar 2) (dC (.int 2))) dNil))))))
    (sSeq (sSet 4 (dCall sp_law_wishes W (dCons (dVar 1) (dCons (dVar 3) dNil))))
    (sSeq (sIf (dTest (dOp oEq (dCall sp_law_any W (dCons (dVar 1) (dCons (dC (.int 4)) dNil))) (dC (.int 0)))) (sSet 4 (dCB oTuple (dCons (dLcB false (iSeq (dVar 4)) (gN 11) cNil (dCB oTuple (dCons (dRevA (dLstR false (rR1 (dCB oLen (dCons (dVar 3) dNil))))) dNil)) [11]) dNil))) sNext)
    (sSeq (sSet 5 (dCall sp_law_ranks W (dCons (dVar 3) dNil)))
    (sSeq (sSet 6 (dCall sp_law_cuts W (dCons (dVar 3) (dCons (dVar 5) (dCons (dVar 4) dNil)))))
    (sSeq (sSet 7 (dMl oIdxD (dVar 6) (dCons (dOp oIx (dVar 6) (dC (.int 12))) dNil)))
    (sSeq (sIf (dNot (dTest (dCall sp_law_same W (dCons (dCallK sp_names_enough [1, 0] W dNil (dCons (dVar 4) (dCons (dVar 3) dNil))) (dCons (dVar 7) dNil))))) (sRet (dC (.bl false))) sNext)
    (sSeq (sFor (iSeq (dLst (dCons (dCB oMax2 (dCons (dC (.int 0)) (dCons (dOp oSub (dVar 7) (dC (.int 1))) dNil))) (dCons (dVar 7) (dCons (dCall sp_law_any W (dCons (dVar 1) (dCons (dC (.int 14)) dNil))) (dCons (dCall sp_law_of W (dCons (dVar 1) (dCons (dLst (dCons (dC (.int 0)) (dCons (dC (.int 1)) (dCons (dC (.int 2)) (dCons (dC (.int 12)) (dCons (dC (.int 13)) (dCons (dOp oSub (dOp oPow (dC (.int 10)) (dC (.int 15))) (dC (.int 1))) dNil))))))) dNil))) dNil)))))) (gN 8) (sSeq (sSet 9 (dCB oTuple (dCons (dLcB false (iSeq (dVar 4)) (gN 13) cNil (dSl oSl (dVar 13) dNo (dPart (dVar 8))) [13]) dNil)))
    (sSeq (sIf (dNot (dTest (dCall sp_law_same W (dCons (dCallK sp_cut_short [1, 0] W dNil (dCons (dVar 8) (dCons (dVar 4) dNil))) (dCons (dVar 9) dNil))))) (sRet (dC (.bl false))) sNext)
    (sSeq (sIf (dNot (dTest (dCall sp_law_same W (dCons (dCallK sp_shut_out [2, 1, 0] W dNil (dCons (dVar 8) (dCons (dVar 4) (dCons (dVar 3) dNil)))) (dCons (dCall sp_law_shut_out W (dCons (dVar 3) (dCons (dVar 5) (dCons (dVar 4) (dCons (dVar 8) dNil))))) dNil))))) (sRet (dC (.bl false))) sNext)
    (sSeq (sSet 10 (dOp oIx (dVar 6) (dCB oMin2 (dCons (dVar 8) (dCons (dC (.int 12)) dNil)))))
    (sSeq (sIf (dNot (dTest (dCall sp_law_same W (dCons (dCall sp_people_best W (dCons (dVar 3) (dCons (dVar 9) dNil))) (dCons (dVar 10) dNil))))) (sRet (dC (.bl false))) sNext)
    (sSeq (sIf (dNot (dTest (dCall sp_law_same W (dCons (dCall sp_is_stable W (dCons (dVar 3) (dCons (dVar 4) (dCons (dVar 10) dNil)))) (dCons (dOp oGe (dVar 8) (dVar 7)) dNil))))) (sRet (dC (.bl false))) sNext)
    (sFor (iSeq (dCall sp_blocking_pairs W (dCons (dVar 3) (dCons (dVar 4) (dCons (dVar 10) dNil))))) (gTup 2 (gCo (gN 11) (gCo (gN 12) gNi))) (sIf (dOr (dTest (dOp (oIs true) (dOp oIx (dVar 10) (dVar 11)) (dC .non))) (dTest (dOp (oInN true) (dVar 12) (dSl oSl (dOp oIx (dVar 4) (dVar 11)) (dPart (dVar 8)) dNo)))) (sRet (dC (.bl false))) sNext)))))))))
    (sRet (dCall sp_law_same W (dCons (dCall sp_names_enough W (dCons (dVar 3) (dCons (dCB oTuple (dCons (dLcB false (iSeq (dVar 4)) (gN 14) cNil (dTup dNil) [14]) dNil)) dNil))) (dCons (dC (.int 0)) dNil))))))))))))))
def sp_law : SpD := spOf N_law (rd_law sp_law_draw sp_law_of sp_law_hall sp_law_wishes sp_law_any sp_law_ranks sp_law_cuts sp_law_same sp_names_enough sp_cut_short sp_law_shut_out sp_shut_out sp_people_best sp_is_stable sp_blocking_pairs)
theorem ds_law {P : Program} {w : World} {K : PySem.W.Frag} {mg : Str → Option Value} {base : Heap} {k : Nat} (m_len : mg "len" = none) (m_list : mg "list" = none) (m_max : mg "max" = none) (m_min : mg "min" = none) (m_range : mg "range" = none) (m_tuple : mg "tuple" = none)  {sp_law_draw : SpD} {sp_law_of : SpD} {sp_law_hall : SpD} {sp_law_wishes : SpD} {sp_law_any : SpD} {sp_law_ranks : SpD} {sp_law_cuts : SpD} {sp_law_same : SpD} {sp_names_enough : SpD} {sp_cut_short : SpD} {sp_law_shut_out : SpD} {sp_shut_out : SpD} {sp_people_best : SpD} {sp_is_stable : SpD} {sp_blocking_pairs : SpD} (F_law_draw : Fn P w K mg base k "_law_draw" s_law_draw ["script", "salt"] sp_law_draw) (F_law_of : Fn P w K mg base k "_law_of" s_law_of ["deal", "some"] sp_law_of) (F_law_hall : Fn P w K mg base k "_law_hall" s_law_hall ["deal", "people", "places", "seats"] sp_law_hall) (F_law_wishes : Fn P w K mg base k "_law_wishes" s_law_wishes ["deal", "hall"] sp_law_wishes) (F_law_any : Fn P w K mg base k "_law_any" s_law_any ["deal", "bound"] sp_law_any) (F_law_ranks : Fn P w K mg base k "_law_ranks" s_law_ranks ["hall"] sp_law_ranks) (F_law_cuts : Fn P w K mg base k "_law_cuts" s_law_cuts ["hall", "ranks", "wishes"] sp_law_cuts) (F_law_same : Fn P w K mg base k "_law_same" s_law_same ["value", "due"] sp_law_same) (F_names_enough : Fn P w K mg base k "names_enough" s_names_enough ["hall", "wishes"] sp_names_enough) (F_cut_short : Fn P w K mg base k "cut_short" s_cut_short ["wishes", "most"] sp_cut_short) (F_law_shut_out : Fn P w K mg base k "_law_shut_out" s_law_shut_out ["hall", "ranks", "wishes", "most"] sp_law_shut_out) (F_shut_out : Fn P w K mg base k "shut_out" s_shut_out ["hall", "wishes", "most"] sp_shut_out) (F_people_best : Fn P w K mg base k "people_best" s_people_best ["hall", "wishes"] sp_people_best) (F_is_stable : Fn P w K mg base k "is_stable" s_is_stable ["hall", "wishes", "value"] sp_is_stable) (F_blocking_pairs : Fn P w K mg base k "blocking_pairs" s_blocking_pairs ["hall", "wishes", "dealing"] sp_blocking_pairs)
    (f : Addr) (cdv : Value) (A : Around) (outer : List Env) (s : Shared) (H : Hp) (E : XK) (B : BS) (W : XW) (hr : Room k (A.deeper (envOfC "law" (defScope s_law) s.heap.objs.size f cdv)))
    (tk : TakesD (cxOf (L2.CX P w) P w K mg base N_law "law" (defScope s_law) f cdv A outer s H E) B W) : DSs (cxOf (L2.CX P w) P w K mg base N_law "law" (defScope s_law) f cdv A outer s H E) B (defBody s_law) (rd_law sp_law_draw sp_law_of sp_law_hall sp_law_wishes sp_law_any sp_law_ranks sp_law_cuts sp_law_same sp_names_enough sp_cut_short sp_law_shut_out sp_shut_out sp_people_best sp_is_stable sp_blocking_pairs W) :=
    (dss_cons (ds_set (i := 1) sc_law.nd rfl (.inl rfl) (d_call F_law_draw b_law_draw hr tk (da_cons (d_v 0) (da_cons d_int da_nil))))
    (dss_cons (ds_set (i := 2) sc_law.nd rfl (.inl rfl) (d_call F_law_of b_law_of hr tk (da_cons (d_v 1) (da_cons (d_lst (da_cons (d_tup (da_cons d_int (da_cons d_int (da_cons d_int da_nil)))) (da_cons (d_tup (da_cons d_int (da_cons d_int (da_cons d_int da_nil)))) (da_cons (d_tup (da_cons d_int (da_cons d_int (da_cons d_int da_nil)))) (da_cons (d_tup (da_cons d_int (da_cons d_int (da_cons d_int da_nil)))) (da_cons (d_tup (da_cons d_int (da_cons d_int (da_cons d_int da_nil)))) da_nil)))))) da_nil))))
    (dss_cons (ds_set (i := 3) sc_law.nd rfl (.inr rfl) (d_call F_law_hall b_law_hall hr tk (da_cons (d_v 1) (da_cons (d_ix (d_v 2) d_int) (da_cons (d_ix (d_v 2) d_int) (da_cons (d_ix (d_v 2) d_int) da_nil))))))
    (dss_cons (ds_set (i := 4) sc_law.nd rfl (.inl rfl) (d_call F_law_wishes b_law_wishes hr tk (da_cons (d_v 1) (da_cons (d_v 3) da_nil))))
    (dss_cons (ds_if (dt_eq hr (d_call F_law_any b_law_any hr tk (da_cons (d_v 1) (da_cons d_int da_nil))) d_int) (dss_one (ds_set (i := 4) sc_law.nd rfl (.inl rfl) (d_tuple m_tuple (da_cons (de_lc false rfl sc_law.nd (blk_of (own := [("person", 11)]) (by kernel_rfl)) (di_seq (d_v 4)) (fun _ _ _ _ _ => ⟨(dg_n (i := 11) sc_law.nd rfl (by first | exact .inl rfl | exact .inr rfl) (by decide)), dts_nil, (d_tuple m_tuple (da_cons (d_revA (d_listR false rfl m_list (dr_1 m_range (d_len m_len (da_cons (d_v 3) da_nil))))) da_nil))⟩)) da_nil)))) dss_nil)
    (dss_cons (ds_set (i := 5) sc_law.nd rfl (.inl rfl) (d_call F_law_ranks b_law_ranks hr tk (da_cons (d_v 3) da_nil)))
    (dss_cons (ds_set (i := 6) sc_law.nd rfl (.inl rfl) (d_call F_law_cuts b_law_cuts hr tk (da_cons (d_v 3) (da_cons (d_v 5) (da_cons (d_v 4) da_nil)))))
    (dss_cons (ds_set (i := 7) sc_law.nd rfl (.inl rfl) (d_indexD hr (d_v 6) (da_cons (d_ix (d_v 6) d_int) da_nil)))
    (dss_cons (ds_if (dt_not (d_val (d_call F_law_same b_law_same hr tk (da_cons (d_callK0 F_names_enough bk_names_enough_0_wishes_hall hr tk (dk_cons (d_v 4) (dk_cons (d_v 3) dk_nil))) (da_cons (d_v 7) da_nil))))) (dss_one (ds_ret d_bl)) dss_nil)
    (dss_cons (ds_for (vs := [8]) (passes_of rfl) rfl (di_seq (d_lst (da_cons (d_max2 rfl m_max (da_cons d_int (da_cons (d_sub (d_v 7) d_int) da_nil))) (da_cons (d_v 7) (da_cons (d_call F_law_any b_law_any hr tk (da_cons (d_v 1) (da_cons d_int da_nil))) (da_cons (d_call F_law_of b_law_of hr tk (da_cons (d_v 1) (da_cons (d_lst (da_cons d_int (da_cons d_int (da_cons d_int (da_cons d_int (da_cons d_int (da_cons (d_sub (d_pow d_int d_int) d_int) da_nil))))))) da_nil))) da_nil)))))) (dg_n (i := 8) sc_law.nd rfl (by first | exact .inl rfl | exact .inr rfl) (by decide)) (dss_cons (ds_set (i := 9) sc_law.nd rfl (.inl rfl) (d_tuple m_tuple (da_cons (de_lc false rfl sc_law.nd (blk_of (own := [("wished", 13)]) (by kernel_rfl)) (di_seq (d_v 4)) (fun _ _ _ _ _ => ⟨(dg_n (i := 13) sc_law.nd rfl (by first | exact .inl rfl | exact .inr rfl) (by decide)), dts_nil, (d_sl (d_v 13) do_no (do_some (d_v 8)))⟩)) da_nil)))
    (dss_cons (ds_if (dt_not (d_val (d_call F_law_same b_law_same hr tk (da_cons (d_callK0 F_cut_short bk_cut_short_0_most_wishes hr tk (dk_cons (d_v 8) (dk_cons (d_v 4) dk_nil))) (da_cons (d_v 9) da_nil))))) (dss_one (ds_ret d_bl)) dss_nil)
    (dss_cons (ds_if (dt_not (d_val (d_call F_law_same b_law_same hr tk (da_cons (d_callK0 F_shut_out bk_shut_out_0_most_wishes_hall hr tk (dk_cons (d_v 8) (dk_cons (d_v 4) (dk_cons (d_v 3) dk_nil)))) (da_cons (d_call F_law_shut_out b_law_shut_out hr tk (da_cons (d_v 3) (da_cons (d_v 5) (da_cons (d_v 4) (da_cons (d_v 8) da_nil))))) da_nil))))) (dss_one (ds_ret d_bl)) dss_nil)
    (dss_cons (ds_set (i := 10) sc_law.nd rfl (.inl rfl) (d_ix (d_v 6) (d_min2 rfl m_min (da_cons (d_v 8) (da_cons d_int da_nil)))))
    (dss_cons (ds_if (dt_not (d_val (d_call F_law_same b_law_same hr tk (da_cons (d_call F_people_best b_people_best hr tk (da_cons (d_v 3) (da_cons (d_v 9) da_nil))) (da_cons (d_v 10) da_nil))))) (dss_one (ds_ret d_bl)) dss_nil)
    (dss_cons (ds_if (dt_not (d_val (d_call F_law_same b_law_same hr tk (da_cons (d_call F_is_stable b_is_stable hr tk (da_cons (d_v 3) (da_cons (d_v 4) (da_cons (d_v 10) da_nil)))) (da_cons (d_ge (d_v 8) (d_v 7)) da_nil))))) (dss_one (ds_ret d_bl)) dss_nil)
    (dss_one (ds_for (vs := [11, 12]) (passes_of rfl) rfl (di_seq (d_call F_blocking_pairs b_blocking_pairs hr tk (da_cons (d_v 3) (da_cons (d_v 4) (da_cons (d_v 10) da_nil))))) (dg_tupA rfl (dgs_cons (dg_n (i := 11) sc_law.nd rfl (by first | exact .inl rfl | exact .inr rfl) (by decide)) (dgs_cons (dg_n (i := 12) sc_law.nd rfl (by first | exact .inl rfl | exact .inr rfl) (by decide)) dgs_nil))) (dss_one (ds_if (dw_pt (dw_or (dt_isNot (d_ix (d_v 10) (d_v 11)) d_non) (dw_or1 (dt_notIn hr (d_v 12) (d_sl (d_ix (d_v 4) (d_v 11)) (do_some (d_v 8)) do_no))))) (dss_one (ds_ret d_bl)) dss_nil)))))))))))
    (dss_one (ds_ret (d_call F_law_same b_law_same hr tk (da_cons (d_call F_names_enough b_names_enough hr tk (da_cons (d_v 3) (da_cons (d_tuple m_tuple (da_cons (de_lc false rfl sc_law.nd (blk_of (own := [("one", 14)]) (by kernel_rfl)) (di_seq (d_v 4)) (fun _ _ _ _ _ => ⟨(dg_n (i := 14) sc_law.nd rfl (by first | exact .inl rfl | exact .inr rfl) (by decide)), dts_nil, (d_tup da_nil)⟩)) da_nil)) da_nil))) (da_cons d_int da_nil)))))))))))))))
theorem fn_law {P : Program} {w : World} {K : PySem.W.Frag} {mg : Str → Option Value} {base : Heap} {k : Nat} (m_len : mg "len" = none) (m_list : mg "list" = none) (m_max : mg "max" = none) (m_min : mg "min" = none) (m_range : mg "range" = none) (m_tuple : mg "tuple" = none) (F_law_draw : Fn P w K mg base k "_law_draw" s_law_draw ["script", "salt"] sp_law_draw) (F_law_of : Fn P w K mg base k "_law_of" s_law_of ["deal", "some"] sp_law_of) (F_law_hall : Fn P w K mg base k "_law_hall" s_law_hall ["deal", "people", "places", "seats"] sp_law_hall) (F_law_wishes : Fn P w K mg base k "_law_wishes" s_law_wishes ["deal", "hall"] sp_law_wishes) (F_law_any : Fn P w K mg base k "_law_any" s_law_any ["deal", "bound"] sp_law_any) (F_law_ranks : Fn P w K mg base k "_law_ranks" s_law_ranks ["hall"] sp_law_ranks) (F_law_cuts : Fn P w K mg base k "_law_cuts" s_law_cuts ["hall", "ranks", "wishes"] sp_law_cuts) (F_law_same : Fn P w K mg base k "_law_same" s_law_same ["value", "due"] sp_law_same) (F_names_enough : Fn P w K mg base k "names_enough" s_names_enough ["hall", "wishes"] sp_names_enough) (F_cut_short : Fn P w K mg base k "cut_short" s_cut_short ["wishes", "most"] sp_cut_short) (F_law_shut_out : Fn P w K mg base k "_law_shut_out" s_law_shut_out ["hall", "ranks", "wishes", "most"] sp_law_shut_out) (F_shut_out : Fn P w K mg base k "shut_out" s_shut_out ["hall", "wishes", "most"] sp_shut_out) (F_people_best : Fn P w K mg base k "people_best" s_people_best ["hall", "wishes"] sp_people_best) (F_is_stable : Fn P w K mg base k "is_stable" s_is_stable ["hall", "wishes", "value"] sp_is_stable) (F_blocking_pairs : Fn P w K mg base k "blocking_pairs" s_blocking_pairs ["hall", "wishes", "dealing"] sp_blocking_pairs) {f : Addr} {fd : FuncData} (F : Fun K "law" "law" s_law f fd) (hm : mg "law" = some (.ref f)) : Fn P w K mg base (k + 1) "law" s_law ["script"] sp_law :=
  ⟨f, fd, "law", F, hm, dl_fn F sc_law (rd_law sp_law_draw sp_law_of sp_law_hall sp_law_wishes sp_law_any sp_law_ranks sp_law_cuts sp_law_same sp_names_enough sp_cut_short sp_law_shut_out sp_shut_out sp_people_best sp_is_stable sp_blocking_pairs) fun cdv A outer s H E B W hr tk => ds_law m_len m_list m_max m_min m_range m_tuple F_law_draw F_law_of F_law_hall F_law_wishes F_law_any F_law_ranks F_law_cuts F_law_same F_names_enough F_cut_short F_law_shut_out F_shut_out F_people_best F_is_stable F_blocking_pairs f cdv A outer s H E B W hr tk⟩

/-! ### the drawing -/
structure Deal (n m : Nat) (cs : List Int) (b : Int) (C : Cs) : Prop where
  dn : C[n]? = some (.lst [.cel m, .int b])
  dm : C[m]? = some (.lst (cs.map D.int))
  ne : n ≠ m
def putD (n m : Nat) (cs : List Int) (b : Int) (C : Cs) : Cs := (C.set m (.lst (cs.map D.int))).set n (.lst [.cel m, .int b])
theorem Deal.put {n m : Nat} {cs cs' : List Int} {b b' : Int} {C : Cs} (d : Deal n m cs b C) : Deal n m cs' b' (putD n m cs' b' C) := by
  have h1 := (List.getElem?_eq_some_iff.mp d.dn).1
  have h2 := (List.getElem?_eq_some_iff.mp d.dm).1
  refine ⟨by simp [putD, h1], ?_, d.ne⟩
  unfold putD
  rw [List.getElem?_set_ne d.ne]
  simp [h2]
theorem putD_len {n m : Nat} {cs : List Int} {b : Int} {C : Cs} : (putD n m cs b C).length = C.length := by simp [putD]
theorem putD_put {n m : Nat} {cs cs' : List Int} {b b' : Int} {C : Cs} (hne : n ≠ m) : putD n m cs b (putD n m cs' b' C) = putD n m cs b C := by
  unfold putD
  rw [List.set_comm (l := C.set m _) _ _ hne, List.set_set, List.set_set]
theorem putD_self {n m : Nat} {cs : List Int} {b : Int} {C : Cs} (d : Deal n m cs b C) : putD n m cs b C = C := by
  unfold putD
  have e : C.set m (.lst (cs.map D.int)) = C := by
    refine List.ext_getElem? fun i => ?_
    rw [List.getElem?_set]
    by_cases h : m = i
    · subst h
      rw [if_pos rfl, if_pos (List.getElem?_eq_some_iff.mp d.dm).1, d.dm]
    · rw [if_neg h]
  rw [e]
  refine List.ext_getElem? fun i => ?_
  rw [List.getElem?_set]
  by_cases h : n = i
  · subst h
    rw [if_pos rfl, if_pos (List.getElem?_eq_some_iff.mp d.dn).1, d.dn]
  · rw [if_neg h]
theorem putD_get {n m k : Nat} {cs : List Int} {b : Int} {C : Cs} (h1 : k ≠ n) (h2 : k ≠ m) : (putD n m cs b C)[k]? = C[k]? := by
  unfold putD
  rw [List.getElem?_set_ne h1.symm, List.getElem?_set_ne h2.symm]
theorem putD_app {n m : Nat} {cs : List Int} {b : Int} {C D : Cs} (h1 : n < C.length) (h2 : m < C.length) : putD n m cs b (C ++ D) = putD n m cs b C ++ D := by
  unfold putD
  rw [List.set_append_left _ _ h2, List.set_append_left _ _ (by simpa using h1)]
theorem putD_lo {n m : Nat} {cs : List Int} {b : Int} {C : Cs} {k : Nat} (h : loCs k C = true) (hm : m < k) : loCs k (putD n m cs b C) = true := by
  refine List.all_eq_true.mpr fun c hc => ?_
  rcases List.mem_or_eq_of_mem_set hc with hc | rfl
  · rcases List.mem_or_eq_of_mem_set hc with hc | rfl
    · exact List.all_eq_true.mp h c hc
    · exact los_ints k cs
  · show (decide (m < k) && (DL.lo k (.int b) && true)) = true
    simp [DL.lo, hm]
theorem Deal.ln {n m : Nat} {cs : List Int} {b : Int} {C : Cs} (d : Deal n m cs b C) : n < C.length := (List.getElem?_eq_some_iff.mp d.dn).1
theorem Deal.lm {n m : Nat} {cs : List Int} {b : Int} {C : Cs} (d : Deal n m cs b C) : m < C.length := (List.getElem?_eq_some_iff.mp d.dm).1
theorem Deal.sn {n m : Nat} {cs : List Int} {b : Int} {C : Cs} (d : Deal n m cs b C) : sqD C (.cel n) = some [.cel m, .int b] := lsD_at d.dn
theorem Deal.sm {n m : Nat} {cs : List Int} {b : Int} {C : Cs} (d : Deal n m cs b C) : sqD C (.cel m) = some (cs.map D.int) := lsD_at d.dm
theorem any_ok {n m : Nat} {cs : List Int} {b bd : Int} {C : Cs} {Q : QD} {E : XQ} (d : Deal n m cs b C) (hl : cs.length ≤ 48) (h0 : 0 < bd) (h1 : bd < 1073741824)
    (k : ∀ v cs' b', 0 ≤ v → v < bd → cs'.length ≤ 48 → Q (.int v) (putD n m cs' b' C)) : sp_law_any [.cel n, .int bd] C Q E := by
  intro hlo hlc
  have hmC := d.lm
  -- the end of each way
  have fin1 : ∀ cs' b' v, 0 ≤ v → v < bd → cs'.length ≤ 48 → fin C (.int v) (putD n m cs' b' C) Q := fun cs' b' v z1 z2 z3 => by
    refine fin_wr (by rw [putD_len]; exact Nat.le_refl _) rfl ?_ ?_
    · rw [List.take_of_length_le (by rw [putD_len]; exact Nat.le_refl _)]
      exact putD_lo hlc hmC
    · rw [List.take_of_length_le (by rw [putD_len]; exact Nat.le_refl _)]
      exact k v cs' b' z1 z2 z3
  have put0 : putD n m cs b C = C := putD_self d
  unfold rd_law_any
  walk_at "go"
  refine ⟨fun j r C1 => ∃ cs1, r = [some (.cel n), some (.int bd), none] ∧ C1 = putD n m cs1 b C ∧ cs1.length = j ∧ j ≤ 48, ⟨_, cs, rfl, put0.symm, rfl, hl⟩, ?_⟩
  rintro j r C1 ⟨cs1, rfl, rfl, rfl, h48⟩
  have d1 : Deal n m cs1 b (putD n m cs1 b C) := d.put
  walk_at "go"
  refine w_ixC d1.sn rfl ?_
  walk_at "go"
  refine w_neNilC d1.dm (shps_ints 59 cs1) ?_
  -- what follows the loop
  have after : sSeq (sIf (dTest (dOp oNe (dOp oIx (dVar 0) (dC (.int 0))) (dLst dNil))) (sSeq (sSet 2 (dCB oInt (dCons (dMl0 oPop (dOp oIx (dVar 0) (dC (.int 0)))) dNil))) (sSeq (sDrop (dMl oApp (dOp oIx (dVar 0) (dC (.int 0))) (dCons (dOp oFdiv (dVar 2) (dVar 1)) dNil))) (sRet (dOp oMod (dVar 2) (dVar 1))))) sNext)
      (sSeq (sAsg (dOp oMod (dCB oInt (dCons (dOp oAdd (dOp oMul (dOp oIx (dVar 0) (dC (.int 1))) (dC (.int 40693))) (dC (.int 71))) dNil)) (dC (.int 2147483647))) (gSb (dVar 0) (dC (.int 1)))) (sRet (dOp oMod (dCB oInt (dCons (dOp oFdiv (dOp oIx (dVar 0) (dC (.int 1))) (dC (.int 64))) dNil)) (dVar 1))))
      { nx := fun _ C' => fin C .non C' Q, rt := fun d C' => fin C d C' Q } [some (.cel n), some (.int bd), none] (putD n m cs1 b C) := by
    walk_at "go"
    refine w_ixC d1.sn rfl ?_
    walk_at "go"
    refine w_neNilC d1.dm (shps_ints 59 cs1) ?_
    walk_at "go"
    rcases snoc_cases cs1 with rfl | ⟨ys, y, rfl⟩
    · refine ite_nil (fun hb => absurd rfl hb) (fun _ => ?_)
      walk_at "go"
      refine w_ixC d1.sn rfl ?_
      walk_at "go"
      refine w_mulI (.inr (by decide)) ?_
      walk_at "go"
      refine w_Ic (by decide) ?_
      walk_at "go"
      refine w_setC (k := 1) d1.sn rfl (Nat.lt_succ_self 1) ?_
      have e2 : (putD n m ([] : List Int) b C).set n (.lst [.cel m, .int ((b * 40693 + 71) % 2147483647)]) = putD n m [] ((b * 40693 + 71) % 2147483647) C := by
        unfold putD
        rw [List.set_set]
      have d2 : Deal n m [] ((b * 40693 + 71) % 2147483647) (putD n m [] ((b * 40693 + 71) % 2147483647) C) := d.put
      refine v_C e2 ?_
      walk_at "go"
      refine w_ixC d2.sn rfl ?_
      walk_at "go"
      refine w_Ic ⟨by decide, by decide⟩ ?_
      walk_at "go"
      refine w_Ic h0 ?_
      exact fin1 _ _ _ (Int.emod_nonneg _ (by omega)) (Int.emod_lt_of_pos _ h0) h48
    · refine ite_nil (fun _ => ?_) (fun hb => by simp at hb)
      walk_at "go"
      refine w_ixC d1.sn rfl ?_
      refine opt_ok d1.sm ?_
      have ey : ((ys ++ [y]).map D.int)[((ys ++ [y]).map D.int).length - 1]? = some (.int y) := by simp
      refine w_pop d1.sm ey ?_
      have e2 : (putD n m (ys ++ [y]) b C).set m (.lst ((ys ++ [y]).map D.int).dropLast) = putD n m ys b C := by
        have e3 : ((ys ++ [y]).map D.int).dropLast = ys.map D.int := by simp
        rw [e3]
        unfold putD
        rw [List.set_comm _ _ d.ne, List.set_set]
      rw [e2]
      have d2 : Deal n m ys b (putD n m ys b C) := d.put
      walk_at "go"
      refine w_ixC d2.sn rfl ?_
      refine opt_ok d2.sm ?_
      walk_at "go"
      refine w_Ic ⟨h0, h1⟩ ?_
      walk_at "go"
      refine w_app d2.sm ?_ ?_
      · rw [List.length_map]
        rw [List.length_append] at h48
        exact small1000 (by omega)
      have e4 : (putD n m ys b C).set m (.lst (ys.map D.int ++ [.int (y / bd)])) = putD n m (ys ++ [y / bd]) b C := by
        unfold putD
        rw [List.set_comm _ _ d.ne, List.set_set, List.map_append]
        rfl
      rw [e4]
      walk_at "go"
      refine w_Ic h0 ?_
      exact fin1 _ _ _ (Int.emod_nonneg _ (by omega)) (Int.emod_lt_of_pos _ h0) (by rw [List.length_append] at h48 ⊢; exact h48)
  -- the loop's test
  rcases snoc_cases cs1 with rfl | ⟨ys, y, rfl⟩
  · refine ite_nil (fun hb => absurd rfl hb) (fun _ => ?_)
    exact after
  · refine ite_nil (fun _ => ?_) (fun hb => by simp at hb)
    walk_at "go"
    refine w_ixC d1.sn rfl ?_
    walk_at "go"
    have el : atI ((ys ++ [y]).map D.int) (-1) = some (.int y) := by
      rw [List.map_append]
      exact atI_neg1 _ _
    refine w_ixC d1.sm el ?_
    walk_at "go"
    refine w_eqI ?_
    refine ite_dec (fun hy => ?_) (fun hy => after)
    walk_at "go"
    refine w_ixC d1.sn rfl ?_
    refine opt_ok d1.sm ?_
    have ey : ((ys ++ [y]).map D.int)[((ys ++ [y]).map D.int).length - 1]? = some (.int y) := by simp
    refine w_pop d1.sm ey ?_
    have e2 : (putD n m (ys ++ [y]) b C).set m (.lst ((ys ++ [y]).map D.int).dropLast) = putD n m ys b C := by
      have e3 : ((ys ++ [y]).map D.int).dropLast = ys.map D.int := by simp
      rw [e3]
      unfold putD
      rw [List.set_comm _ _ d.ne, List.set_set]
    rw [e2]
    exact ⟨ys.length, by simp, ys, rfl, rfl, rfl, by simp at h48; omega⟩
theorem deal_of {C : Cs} (h : DealHd C) : ∃ cs b, Deal 0 1 cs b C ∧ cs.length ≤ 48 := by
  obtain ⟨cs, b, h0, h1, hl⟩ := h
  exact ⟨cs, b, ⟨h0, h1, by decide⟩, hl⟩
theorem up_put {C : Cs} {cs cs' : List Int} {b b' : Int} (d : Deal 0 1 cs b C) (hl : cs'.length ≤ 48) : Up true [] C (putD 0 1 cs' b' C) :=
  ⟨putD_len, fun p hp => (nomatch hp), fun i _ h2 => by
    have := h2 rfl
    exact putD_get (by omega) (by omega), fun _ => by
    have e : Deal 0 1 cs' b' (putD 0 1 cs' b' C) := d.put
    exact ⟨cs', b', e.dn, e.dm, hl⟩⟩
theorem w_law_any {C0 : Cs} {Q : QD} {E : XQ} {K : Int → Prop} {X : XP} (b : Int) (hd : DealHd C0) (h : anyM b K X) (hk : ∀ v C', Up true [] C0 C' → K v → Q (eI v) C') : sp_law_any [.cel 0, eI b] C0 Q E := by
  obtain ⟨cs, b0, d, hl⟩ := deal_of hd
  exact any_ok d hl h.1.1 h.1.2 fun v cs' b' z1 z2 z3 => hk v _ (up_put d z3) (h.2 v z1 z2)


/-- what is left with one thing out -/
theorem perm_out {α : Type} {xs : List α} {k : Nat} {x : α} (h : xs[k]? = some x) : (x :: xs.eraseIdx k).Perm xs := by
  induction xs generalizing k with
  | nil => simp at h
  | cons y ys ih =>
    cases k with
    | zero =>
      simp at h
      subst h
      exact List.Perm.refl _
    | succ k =>
      have p := ih (k := k) (by simpa using h)
      exact (List.Perm.swap y x _).trans (p.cons y)
/-- the things of some in an order -/
theorem mixed_ok {n m : Nat} {cs : List Int} {b : Int} {C : Cs} {Q : QD} {E : XQ} {xs : List D} {some' : D} (d : Deal n m cs b C) (hl : cs.length ≤ 48) (hs : some' = .lst xs ∨ some' = .tup xs) (h1 : xs.length < 1000000) (hlo : los C.length xs = true) (hsh : shps 59 xs = true)
    (k : ∀ ys cs' b', loCs C.length C = true → ys.Perm xs → cs'.length ≤ 48 → fin C (.cel (C.length + 1)) (putD n m cs' b' C ++ [Cl.lst [], Cl.lst ys]) Q) : sp_law_mixed [.cel n, some'] C Q E := by
  intro _ hlc
  have go : ∀ r0 C0, C0 = C ++ [Cl.lst xs, Cl.lst []] → r0 = ([some (.cel n), some some', some (.cel C.length), some (.cel (C.length + 1))] : Ev) →
    sSeq (sWhile (dTest (dOp oNe (dVar 2) (dLst dNil))) (sDrop (dMl oApp (dVar 3) (dCons (dMl oPopAt (dVar 2) (dCons (dCall sp_law_any (fun cls od _ C' => finX C od C' fun od' C2 => E cls od' C2) (dCons (dVar 0) (dCons (dCB oLen (dCons (dVar 2) dNil)) dNil))) dNil)) dNil)))) (sRet (dVar 3))
      { nx := fun _ C' => fin C .non C' Q, rt := fun d C' => fin C d C' Q } r0 C0 := fun r0 C0 hC0 hr0 => by
    subst hr0 hC0
    walk_at "go"
    refine ⟨fun j r C1 => ∃ ls fs cs1 b1, r = [some (.cel n), some some', some (.cel C.length), some (.cel (C.length + 1))] ∧ C1 = putD n m cs1 b1 C ++ [Cl.lst ls, Cl.lst fs] ∧ (ls ++ fs).Perm xs ∧ ls.length = j ∧ cs1.length ≤ 48,
      ⟨_, xs, [], cs, b, rfl, by rw [putD_self d], by simp, rfl, hl⟩, ?_⟩
    rintro j r C1 ⟨ls, fs, cs1, b1, rfl, rfl, hp, rfl, hcl⟩
    have d1 : Deal n m cs1 b1 (putD n m cs1 b1 C) := d.put
    have d2 : Deal n m cs1 b1 (putD n m cs1 b1 C ++ [Cl.lst ls, Cl.lst fs]) := ⟨by rw [List.getElem?_append_left (by rw [putD_len]; exact d.ln)]; exact d1.dn, by rw [List.getElem?_append_left (by rw [putD_len]; exact d.lm)]; exact d1.dm, d.ne⟩
    have c0 : (putD n m cs1 b1 C ++ [Cl.lst ls, Cl.lst fs])[C.length]? = some (Cl.lst ls) := by
      rw [List.getElem?_append_right (by rw [putD_len]; exact Nat.le_refl _), putD_len]
      simp
    have hll : ls.length + fs.length = xs.length := by
      have := hp.length_eq
      simpa using this
    have hsub : shps 59 ls = true := shps_iff.mpr fun x hx => shps_iff.mp hsh x (hp.subset (List.mem_append_left _ hx))
    walk_at "go"
    refine w_neNilC c0 hsub ?_
    refine ite_nil (fun hne => ?_) (fun he => ?_)
    · walk_at "go"
      refine opt_ok (lsD_at (n := C.length + 1) (xs := fs) ?_) ?_
      · rw [List.getElem?_append_right (by rw [putD_len]; omega), putD_len]
        simp
      walk_at "go"
      refine opt_ok (lsD_at c0) ?_
      walk_at "go"
      refine w_lenC (lsD_at c0) ?_
      walk_at "go"
      have hpos : 0 < ls.length := List.length_pos_iff.mpr hne
      refine any_ok d2 hcl (by omega) (by omega) fun v cs' b' z1 z2 z3 => ?_
      have hv : v.toNat < ls.length := by omega
      have ea : putD n m cs' b' (putD n m cs1 b1 C ++ [Cl.lst ls, Cl.lst fs]) = putD n m cs' b' C ++ [Cl.lst ls, Cl.lst fs] := by
        rw [putD_app (by rw [putD_len]; exact d.ln) (by rw [putD_len]; exact d.lm), putD_put d.ne]
      rw [ea]
      walk_at "go"
      have c1 : (putD n m cs' b' C ++ [Cl.lst ls, Cl.lst fs])[C.length]? = some (Cl.lst ls) := by
        rw [List.getElem?_append_right (by rw [putD_len]; exact Nat.le_refl _), putD_len]
        simp
      refine w_popAt (i := v) (k := v.toNat) (lsD_at c1) (by omega) (by omega) (List.getElem?_eq_getElem hv) ?_
      have eb : (putD n m cs' b' C ++ [Cl.lst ls, Cl.lst fs]).set C.length (Cl.lst (ls.eraseIdx v.toNat)) = putD n m cs' b' C ++ [Cl.lst (ls.eraseIdx v.toNat), Cl.lst fs] := by
        rw [List.set_append_right _ _ (by rw [putD_len]; exact Nat.le_refl _), putD_len]
        simp
      rw [eb]
      walk_at "go"
      have c2 : (putD n m cs' b' C ++ [Cl.lst (ls.eraseIdx v.toNat), Cl.lst fs])[C.length + 1]? = some (Cl.lst fs) := by
        rw [List.getElem?_append_right (by rw [putD_len]; omega), putD_len]
        simp
      refine w_app (lsD_at c2) (Nat.lt_of_lt_of_le (show fs.length < 1000000 by omega) (by decide)) ?_
      have ec : (putD n m cs' b' C ++ [Cl.lst (ls.eraseIdx v.toNat), Cl.lst fs]).set (C.length + 1) (Cl.lst (fs ++ [ls[v.toNat]])) = putD n m cs' b' C ++ [Cl.lst (ls.eraseIdx v.toNat), Cl.lst (fs ++ [ls[v.toNat]])] := by
        rw [List.set_append_right _ _ (by rw [putD_len]; omega), putD_len]
        simp
      rw [ec]
      refine ⟨(ls.eraseIdx v.toNat).length, by rw [List.length_eraseIdx_of_lt hv]; omega, ls.eraseIdx v.toNat, fs ++ [ls[v.toNat]], cs', b', rfl, rfl, ?_, rfl, z3⟩
      have p1 : (ls[v.toNat] :: ls.eraseIdx v.toNat).Perm ls := perm_out (List.getElem?_eq_getElem hv)
      refine List.Perm.trans ?_ hp
      refine List.Perm.trans ?_ (p1.append_right fs)
      rw [← List.append_assoc]
      refine List.Perm.trans (List.perm_append_comm) ?_
      rw [List.singleton_append, List.cons_append]
    · subst he
      walk_at "go"
      exact k fs cs1 b1 hlc (by simpa using hp) hcl
  unfold rd_law_mixed
  rcases hs with rfl | rfl
  · refine v_seq ?_
    walk_at "on"
    exact go _ _ (by simp) (by simp [startD])
  · refine v_seq ?_
    walk_at "on"
    exact go _ _ (by simp) (by simp [startD])
theorem mixed_lst {n m : Nat} {cs : List Int} {b : Int} {C : Cs} {Q : QD} {E : XQ} {xs : List D} {some' : D} (d : Deal n m cs b C) (hl : cs.length ≤ 48) (hs : some' = .lst xs ∨ some' = .tup xs) (h1 : xs.length < 1000000) (hlo : los C.length xs = true) (hsh : shps 59 xs = true)
    (k : ∀ ys cs' b', ys.Perm xs → cs'.length ≤ 48 → Q (.lst ys) (putD n m cs' b' C)) : sp_law_mixed [.cel n, some'] C Q E := by
  refine mixed_ok d hl hs h1 hlo hsh fun ys cs' b' hlc hp hc => ?_
  have et : (putD n m cs' b' C ++ [Cl.lst [], Cl.lst ys]).take C.length = putD n m cs' b' C := List.take_left' putD_len
  refine fin_wrL (xs := ys) (by rw [List.length_append, putD_len]; exact Nat.le_add_right _ _) (Nat.le_succ _) ?_ (los_iff.mpr fun x hx => los_mem hlo (hp.subset hx)) ?_ ?_
  · rw [List.getElem?_append_right (by rw [putD_len]; exact Nat.le_succ _), putD_len]
    simp
  · rw [et]
    exact putD_lo hlc d.lm
  · rw [et]
    exact k ys cs' b' hp hc
theorem mixed_cel {n m : Nat} {cs : List Int} {b : Int} {C : Cs} {Q : QD} {E : XQ} {xs : List D} {some' : D} (d : Deal n m cs b C) (hl : cs.length ≤ 48) (hs : some' = .lst xs ∨ some' = .tup xs) (h1 : xs.length < 1000000) (hlo : los C.length xs = true) (hsh : shps 59 xs = true)
    (k : ∀ ys cs' b', ys.Perm xs → cs'.length ≤ 48 → Q (.cel C.length) (putD n m cs' b' C ++ [Cl.lst ys])) : sp_law_mixed [.cel n, some'] C Q E := by
  refine mixed_ok d hl hs h1 hlo hsh fun ys cs' b' hlc hp hc => ?_
  have et : (putD n m cs' b' C ++ [Cl.lst [], Cl.lst ys]).take C.length = putD n m cs' b' C := List.take_left' putD_len
  refine fin_wrC (xs := ys) (by rw [List.length_append, putD_len]; exact Nat.le_add_right _ _) (Nat.le_succ _) ?_ (los_iff.mpr fun x hx => los_mem hlo (hp.subset hx)) ?_ ?_
  · rw [List.getElem?_append_right (by rw [putD_len]; exact Nat.le_succ _), putD_len]
    simp
  · rw [et]
    exact putD_lo hlc d.lm
  · rw [et]
    exact k ys cs' b' hp hc
/-- ints again -/
def unI : D → Int
  | .int i => i
  | _ => 0
theorem perm_ints {ys : List D} {ns : List Int} (h : ys.Perm (ns.map D.int)) : ∃ ms : List Int, ys = ms.map D.int ∧ ms.Perm ns := by
  refine ⟨ys.map unI, ?_, ?_⟩
  · rw [List.map_map]
    refine (List.map_id' _).symm.trans (List.map_congr_left fun y hy => ?_)
    obtain ⟨i, _, rfl⟩ := List.mem_map.mp (h.subset hy)
    rfl
  · have := h.map unI
    rw [List.map_map] at this
    have e : (ns.map (unI ∘ D.int)) = ns := by
      have : (unI ∘ D.int) = id := by funext x; rfl
      rw [this, List.map_id]
    rw [e] at this
    exact this
theorem perm_un {α : Type} {e : α → D} : ∀ {ys : List D} {zs : List α}, ys.Perm (zs.map e) → ∃ ws : List α, ws.Perm zs ∧ ys = ws.map e
  | [], zs, h => by
    have : zs = [] := by
      have := h.symm.eq_nil
      simpa using this
    subst this
    exact ⟨[], .refl _, rfl⟩
  | y :: ys, zs, h => by
    obtain ⟨z, hz, rfl⟩ := List.mem_map.mp (h.subset List.mem_cons_self)
    obtain ⟨l1, l2, rfl⟩ := List.append_of_mem hz
    have h2 : ((e z) :: ys).Perm (e z :: (l1 ++ l2).map e) := h.trans (by
      have p : (l1 ++ z :: l2).Perm (z :: (l1 ++ l2)) := List.perm_middle
      exact p.map e)
    obtain ⟨ws, p, rfl⟩ := perm_un ((List.perm_cons _).mp h2)
    exact ⟨z :: ws, (p.cons z).trans List.perm_middle.symm, rfl⟩
theorem mixed_hk {α : Type} {e : α → D} {C0 : Cs} {Q : QD} {E : XQ} {K : List α → Prop} {X : XP} {some' : D} (xs : List α) (hs : shps 59 (xs.map e) = true) (hc : los 0 (xs.map e) = true) (hd : DealHd C0) (h : mixM xs K X) (hk : ∀ v C', Up true [] C0 C' → K v → Q (eL e v) C') (ht : some' = .lst (xs.map e) ∨ some' = .tup (xs.map e)) : sp_law_mixed [.cel 0, some'] C0 Q E := by
  obtain ⟨cs, b0, d, hl⟩ := deal_of hd
  refine mixed_lst d hl ht (by have := h.1; simp; omega) (los_up (Nat.zero_le _) _ hc) hs fun ys cs' b' hp hc' => ?_
  obtain ⟨ws, p, rfl⟩ := perm_un hp
  exact hk ws _ (up_put d hc') (h.2 ws p)
theorem w_law_mixedL {α : Type} {e : α → D} {C0 : Cs} {Q : QD} {E : XQ} {K : List α → Prop} {X : XP} (xs : List α) (hs : shps 59 (xs.map e) = true) (hc : los 0 (xs.map e) = true) (hd : DealHd C0) (h : mixM xs K X) (hk : ∀ v C', Up true [] C0 C' → K v → Q (eL e v) C') : sp_law_mixed [.cel 0, eL e xs] C0 Q E := mixed_hk xs hs hc hd h hk (.inl rfl)
theorem w_law_mixedT {α : Type} {e : α → D} {C0 : Cs} {Q : QD} {E : XQ} {K : List α → Prop} {X : XP} (xs : List α) (hs : shps 59 (xs.map e) = true) (hc : los 0 (xs.map e) = true) (hd : DealHd C0) (h : mixM xs K X) (hk : ∀ v C', Up true [] C0 C' → K v → Q (eL e v) C') : sp_law_mixed [.cel 0, eT e xs] C0 Q E := mixed_hk xs hs hc hd h hk (.inr rfl)


/-- an item of some -/
theorem of_ok {n m : Nat} {cs : List Int} {b : Int} {C : Cs} {Q : QD} {E : XQ} {xs : List D} {some' : D} (d : Deal n m cs b C) (hl : cs.length ≤ 48) (hs : some' = .lst xs ∨ some' = .tup xs ∨ ∃ h, some' = .cel h ∧ h ≠ n ∧ h ≠ m ∧ C[h]? = some (.lst xs)) (h0 : xs ≠ []) (h1 : xs.length < 1000000) (hlo : los C.length xs = true)
    (k : ∀ x cs' b', x ∈ xs → cs'.length ≤ 48 → Q x (putD n m cs' b' C)) : sp_law_of [.cel n, some'] C Q E := by
  intro _ hlc
  have hxl : 0 < xs.length := List.length_pos_iff.mpr h0
  have go : ∀ v cs' b', 0 ≤ v → v < (xs.length : Int) → cs'.length ≤ 48 → fin C (xs.getD v.toNat .non) (putD n m cs' b' C) Q := fun v cs' b' z1 z2 z3 => by
    have hm : xs.getD v.toNat .non ∈ xs := by
      rw [List.getD_eq_getElem?_getD, List.getElem?_eq_getElem (show v.toNat < xs.length by omega)]
      exact List.getElem_mem _
    refine fin_wr (by rw [putD_len]; exact Nat.le_refl _) (los_mem hlo hm) ?_ ?_
    · rw [List.take_of_length_le (by rw [putD_len]; exact Nat.le_refl _)]
      exact putD_lo hlc d.lm
    · rw [List.take_of_length_le (by rw [putD_len]; exact Nat.le_refl _)]
      exact k _ cs' b' hm z3
  have at' : ∀ v : Int, 0 ≤ v → v < (xs.length : Int) → atI xs v = some (xs.getD v.toNat .non) := fun v z1 z2 => by
    refine atI_n (n := v.toNat) (by omega) ?_
    rw [List.getD_eq_getElem?_getD, List.getElem?_eq_getElem (show v.toNat < xs.length by omega)]
    rfl
  unfold rd_law_of
  rcases hs with rfl | rfl | ⟨h, rfl, e1, e2, e3⟩
  · walk_at "go"
    refine any_ok d hl (by omega) (by omega) fun v cs' b' z1 z2 z3 => ?_
    refine w_ixL (at' v z1 z2) ?_
    exact go v cs' b' z1 z2 z3
  · walk_at "go"
    refine any_ok d hl (by omega) (by omega) fun v cs' b' z1 z2 z3 => ?_
    refine w_ixT (at' v z1 z2) ?_
    exact go v cs' b' z1 z2 z3
  · walk_at "go"
    refine w_lenC (lsD_at e3) ?_
    walk_at "go"
    refine any_ok d hl (by omega) (by omega) fun v cs' b' z1 z2 z3 => ?_
    refine w_ixC (lsD_at (by rw [putD_get e1 e2]; exact e3)) (at' v z1 z2) ?_
    exact go v cs' b' z1 z2 z3
theorem of_hk {α : Type} {e : α → D} {C0 : Cs} {Q : QD} {K : α → Prop} {cs : List Int} {b : Int} {xs : List α} (d : Deal 0 1 cs b C0) (h : ∀ x, x ∈ xs → K x) (hk : ∀ v C', Up true [] C0 C' → K v → Q (e v) C') : ∀ x cs' b', x ∈ xs.map e → cs'.length ≤ 48 → Q x (putD 0 1 cs' b' C0) := fun x cs' b' hx hc => by
  obtain ⟨z, hz, rfl⟩ := List.mem_map.mp hx
  exact hk z _ (up_put d hc) (h z hz)
theorem w_law_ofL {α : Type} {e : α → D} {C0 : Cs} {Q : QD} {E : XQ} {K : α → Prop} {X : XP} (xs : List α) (hc : los 0 (xs.map e) = true) (hd : DealHd C0) (h : ofM xs K X) (hk : ∀ v C', Up true [] C0 C' → K v → Q (e v) C') : sp_law_of [.cel 0, eL e xs] C0 Q E := by
  obtain ⟨cs, b0, d, hl⟩ := deal_of hd
  exact of_ok d hl (.inl rfl) (by simpa using h.1.1) (by simpa using h.1.2) (los_up (Nat.zero_le _) _ hc) (of_hk d h.2 hk)
theorem w_law_ofT {α : Type} {e : α → D} {C0 : Cs} {Q : QD} {E : XQ} {K : α → Prop} {X : XP} (xs : List α) (hc : los 0 (xs.map e) = true) (hd : DealHd C0) (h : ofM xs K X) (hk : ∀ v C', Up true [] C0 C' → K v → Q (e v) C') : sp_law_of [.cel 0, eT e xs] C0 Q E := by
  obtain ⟨cs, b0, d, hl⟩ := deal_of hd
  exact of_ok d hl (.inr (.inl rfl)) (by simpa using h.1.1) (by simpa using h.1.2) (los_up (Nat.zero_le _) _ hc) (of_hk d h.2 hk)
theorem w_law_ofC {α : Type} {e : α → D} {C0 : Cs} {Q : QD} {E : XQ} {K : α → Prop} {X : XP} {n : Nat} (xs : List α) (hn : C0[n]? = some (.lst (xs.map e))) (h2 : 2 ≤ n) (hc : los 0 (xs.map e) = true) (hd : DealHd C0) (h : ofM xs K X) (hk : ∀ v C', Up true [] C0 C' → K v → Q (e v) C') : sp_law_of [.cel 0, .cel n] C0 Q E := by
  obtain ⟨cs, b0, d, hl⟩ := deal_of hd
  exact of_ok d hl (.inr (.inr ⟨n, rfl, by omega, by omega, hn⟩)) (by simpa using h.1.1) (by simpa using h.1.2) (los_up (Nat.zero_le _) _ hc) (of_hk d h.2 hk)


def p_law_order (many_2 : Int) (like_3 : Option (List Int)) : M (List Int) :=
  M.bd ((if like_3.isNone = true then
  M.rt true
  else
  M.bd (anyM 3) fun v104 =>
  M.rt (decide (v104 = 0)))) fun c102 =>
  if c102 = true then
  M.as (rgOk 0 many_2) <|
  M.bd (mixM (irange 0 many_2)) fun l107 =>
  M.rt l107
  else
  M.as (like_3.isSome = true) <|
  M.bd (ofM [0, 1, 2, many_2]) fun v110 =>
  M.as (-(2 ^ 62) ≤ v110 ∧ v110 ≤ 2 ^ 24) <|
  M.bd (forS (irange 0 v110) ((og like_3) : List Int) fun s111 turn_118 =>
  M.bd (anyM many_2) fun v120 =>
  M.as (inb s111.length v120 ∧ s111.length ≤ 100000) <|
  let person_121 : Int := (gi s111 v120)
  M.bd (ofM [(-1), 1, (-2), 2]) fun v122 =>
  M.as ((delI s111 v120).length < 100000 ∧ 0 ≤ (max 0 (min ((delI s111 v120).length : Int) (v120 + v122))) ∧ (max 0 (min ((delI s111 v120).length : Int) (v120 + v122))) < 1000000) <|
  M.rt (insI (delI s111 v120) (max 0 (min ((delI s111 v120).length : Int) (v120 + v122))) person_121)) fun s111 =>
  M.rt s111
theorem w_law_order {C0 : Cs} {Q : QD} {E : XQ} {K : (List Int) → Prop} {X : XP} (many_2 : Int) (like_3 : Option (List Int)) (hd : DealHd C0) (h : p_law_order many_2 like_3 K X) (hk : ∀ (v : List Int) C', Up true [] C0 C' → K v → Q ((eT eI) v) C') : sp_law_order [.cel 0, eI many_2, (eO (eT eI)) like_3] C0 Q E := by
  intro hlo hlc
  have hO : Own ⟨true, C0, [], []⟩ C0 := Own.startD hd
  unfold rd_law_order
  unfold p_law_order at h
  with_reducible refine v_seq ?_
  with_reducible refine v_if ?_
  have h := bd_ap h
  refine jt_join h ⟨true, C0, [], []⟩ (fun Kc102 Qc102 h hqc102 => ?_) (fun c102 C hO h => ?_)
  · with_reducible refine v_or ?_
    refine st_t (b := like_3.isNone) hO (jt_test (je_op (je_var rfl) je_c (j2_isN (e := (eT eI)) (v := like_3)))) ?_
    refine ite_b (fun hb103 => ?_) (fun hb103 => ?_)
    · have h := it_ap hb103 h
      exact hqc102 _ _ hO h
    · have h := if_ap hb103 h
      with_reducible refine v_test ?_
      with_reducible refine v_op ?_
      with_reducible refine v_call ?_
      with_reducible refine v_cons ?_
      refine v_var rfl ?_
      with_reducible refine v_cons ?_
      refine st_e (d := (eI 3)) hO je_c ?_
      with_reducible refine v_nil ?_
      refine w_law_any 3 (hO.deal rfl).1 (bd_ap h) (fun v104 C u h => ?_)
      have hO := hO.up0 u
      refine st_e (d := (eI 0)) hO je_c ?_
      refine st_2 (d := eB (decide (v104 = 0))) hO (j2_eq (e := eI) (u := v104) (v := 0)) ?_
      exact hqc102 _ _ hO h
  refine ite_b (fun hc101 => ?_) (fun hc101 => ?_)
  · have h := it_ap hc101 h
    with_reducible refine v_ret ?_
    with_reducible refine v_cb ?_
    with_reducible refine v_cons ?_
    with_reducible refine v_call ?_
    with_reducible refine v_cons ?_
    refine v_var rfl ?_
    with_reducible refine v_cons ?_
    obtain ⟨p108, h⟩ := as_ap h
    refine st_e (d := ((eL eI) (irange 0 many_2))) hO (je_lstR (jr_1 (je_var rfl)) p108) ?_
    with_reducible refine v_nil ?_
    refine w_law_mixedL (e := eI) (irange 0 many_2) (shps_map (fun x => shp_up (by decide : _ ≤ 59) _ (EqE.sh (e := eI) x)) _) (los_map 0 _) (hO.deal rfl).1 (bd_ap h) (fun l107 C u h => ?_)
    have hO := hO.up0 u
    with_reducible refine v_nil ?_
    refine st_f (d := (eT eI) l107) hO (jf_tuple (e := eI) (xs := l107) sv_L) ?_
    exact hO.fin hlc (Cln.cl (e := (eT eI)) _ _) (fun C' u => hk _ C' u h)
  · have h := if_ap hc101 h
    with_reducible refine v_next ?_
    with_reducible refine v_seq ?_
    with_reducible refine v_set ?_
    obtain ⟨p126, h⟩ := as_ap h
    refine st_n (ds := (og like_3).map eI) hO (jn_list (e := eI) (xs := (og like_3)) (je_og p126 (je_var rfl)) sv_T) (fun n109 C hO => ?_)
    with_reducible refine v_seq ?_
    with_reducible refine v_forR1 ?_
    with_reducible refine v_call ?_
    with_reducible refine v_cons ?_
    refine v_var rfl ?_
    with_reducible refine v_cons ?_
    refine st_e (d := ((eL eI) [0, 1, 2, many_2])) hO (je_lstL (e := eI) (xs := [0, 1, 2, many_2]) (ja_m1 (u := 0) je_c (ja_m1 (u := 1) je_c (ja_m1 (u := 2) je_c (ja_m1 (u := many_2) (je_var rfl) ja_m0))))) ?_
    with_reducible refine v_nil ?_
    refine w_law_ofL (e := eI) [0, 1, 2, many_2] (los_map 0 _) (hO.deal rfl).1 (bd_ap h) (fun v110 C u h => ?_)
    have hO := hO.up0 u
    obtain ⟨p125, h⟩ := as_ap h
    with_reducible refine v_forI ?_
    have h := bd_ap h
    refine st_forS hO (ji_r1 je_c p125) h (fun (s111 : List Int) r' C' => ∃ (o4 : Option DL.D) (o5 : Option DL.D) (o6 : Option DL.D), r' = [some (.cel 0), some (eI many_2), some ((eO (eT eI)) like_3), some (.cel n109), o4, o5, o6] ∧ Own ⟨true, C0, [], [(n109, s111.map eI)]⟩ C') ⟨_, _, _, rfl, hO⟩ (fun _ _ _ _ => trivial) (fun s111 turn_118 hx119 r' C Ks111 nx bk hR h hns111 => ?_) (fun s111 r' C hR h => ?_)
    · obtain ⟨o4, o5, o6, rfl, hO⟩ := hR
      refine st_g jg_n ?_
      with_reducible refine v_seq ?_
      with_reducible refine v_set ?_
      with_reducible refine v_call ?_
      with_reducible refine v_cons ?_
      refine v_var rfl ?_
      with_reducible refine v_cons ?_
      refine st_e (d := (eI many_2)) hO (je_var rfl) ?_
      with_reducible refine v_nil ?_
      refine w_law_any many_2 (hO.deal rfl).1 (bd_ap h) (fun v120 C u h => ?_)
      have hO := hO.up0 u
      with_reducible refine v_seq ?_
      with_reducible refine v_set ?_
      with_reducible refine v_ml ?_
      refine v_var rfl (opt_ok (lsD_at (hO.get (k := 0) rfl)) ?_)
      with_reducible refine v_cons ?_
      refine st_e (d := (eI v120)) hO (je_var rfl) ?_
      with_reducible refine v_nil ?_
      obtain ⟨p124, h⟩ := as_ap h
      refine xm_popAt (e := eI) (xs := s111) (a := v120) 0 hO rfl p124 (fun C hO => ?_)
      let person_121 : Int := (gi s111 v120)
      with_reducible refine v_drop ?_
      with_reducible refine v_ml ?_
      refine v_var rfl (opt_ok (lsD_at (hO.get (k := 0) rfl)) ?_)
      with_reducible refine v_cons ?_
      with_reducible refine v_cb ?_
      with_reducible refine v_cons ?_
      refine st_e (d := (eI 0)) hO je_c ?_
      with_reducible refine v_cons ?_
      with_reducible refine v_cb ?_
      with_reducible refine v_cons ?_
      refine st_e (d := (eI ((delI s111 v120).length : Int))) hO (je_cb (ja_cons (je_var rfl) ja_nil) (jf_len (e := eI) (xs := (delI s111 v120)) (sv_C 0 rfl))) ?_
      with_reducible refine v_cons ?_
      with_reducible refine v_op ?_
      refine st_e (d := (eI v120)) hO (je_var rfl) ?_
      with_reducible refine v_call ?_
      with_reducible refine v_cons ?_
      refine v_var rfl ?_
      with_reducible refine v_cons ?_
      refine st_e (d := ((eL eI) [(-1), 1, (-2), 2])) hO (je_lstL (e := eI) (xs := [(-1), 1, (-2), 2]) (ja_m1 (u := (-1)) (je_un je_c j1_neg) (ja_m1 (u := 1) je_c (ja_m1 (u := (-2)) (je_un je_c j1_neg) (ja_m1 (u := 2) je_c ja_m0))))) ?_
      with_reducible refine v_nil ?_
      refine w_law_ofL (e := eI) [(-1), 1, (-2), 2] (los_map 0 _) (hO.deal rfl).1 (bd_ap h) (fun v122 C u h => ?_)
      have hO := hO.up0 u
      refine st_2 (d := eI (v120 + v122)) hO j2_add ?_
      with_reducible refine v_nil ?_
      refine st_f (d := eI (min ((delI s111 v120).length : Int) (v120 + v122))) hO jf_min2 ?_
      with_reducible refine v_nil ?_
      refine st_f (d := eI (max 0 (min ((delI s111 v120).length : Int) (v120 + v122)))) hO jf_max2 ?_
      with_reducible refine v_cons ?_
      refine st_e (d := (eI person_121)) hO (je_var rfl) ?_
      with_reducible refine v_nil ?_
      obtain ⟨p123, h⟩ := as_ap h
      refine xm_ins (e := eI) (xs := (delI s111 v120)) (a := (max 0 (min ((delI s111 v120).length : Int) (v120 + v122)))) (v := person_121) 0 hO rfl p123 (fun C hO => ?_)
      exact hns111 (insI (delI s111 v120) (max 0 (min ((delI s111 v120).length : Int) (v120 + v122))) person_121) _ _ ⟨_, _, _, rfl, hO⟩ h
    obtain ⟨o4, o5, o6, rfl, hO⟩ := hR
    with_reducible refine v_ret ?_
    refine st_e (d := ((eT eI) s111)) hO (je_cb (ja_cons (je_var rfl) ja_nil) (jf_tuple (e := eI) (xs := s111) (sv_C 0 rfl))) ?_
    exact hO.fin hlc (Cln.cl (e := (eT eI)) _ _) (fun C' u => hk _ C' u h)
theorem law_order_k {n : Int} {like : Option (List Int)} {K : List Int → Prop} {X : XP} (n1 : 1 ≤ n) (n2 : n ≤ 1000) (hl : ∀ o, like = some o → o.Perm (irange 0 n)) (hk : ∀ o : List Int, o.Perm (irange 0 n) → K o) : p_law_order n like K X := by
  unfold p_law_order
  have hn : (irange 0 n).length = n.toNat := by rw [irange_len, Int.sub_zero]
  have key : ∀ b : Bool, (b = false → like.isSome = true) → (if b = true then M.as (rgOk 0 n) <| M.bd (mixM (irange 0 n)) fun l => M.rt l else
      M.as (like.isSome = true) <| M.bd (ofM [0, 1, 2, n]) fun v => M.as (-(2 ^ 62) ≤ v ∧ v ≤ 2 ^ 24) <| M.bd (forS (irange 0 v) ((og like) : List Int) fun s _ =>
        M.bd (anyM n) fun v => M.as (inb s.length v ∧ s.length ≤ 100000) <|
        let person : Int := (gi s v)
        M.bd (ofM [(-1), 1, (-2), 2]) fun d => M.as ((delI s v).length < 100000 ∧ 0 ≤ (max 0 (min ((delI s v).length : Int) (v + d))) ∧ (max 0 (min ((delI s v).length : Int) (v + d))) < 1000000) <|
        M.rt (insI (delI s v) (max 0 (min ((delI s v).length : Int) (v + d))) person)) fun s => M.rt s) K X := by
    intro b hb
    refine iteM (fun h => ?_) (fun h => ?_)
    · refine as_mk (by unfold rgOk; omega) (mix_b (by omega) fun ys p => hk ys p)
    · have hs := hb h
      obtain ⟨o, rfl⟩ := Option.isSome_iff_exists.mp hs
      refine as_mk hs (of_b (by simp) (by simp) fun v hv => ?_)
      have hv' : 0 ≤ v ∧ v ≤ 1000 := by
        simp only [List.mem_cons, List.not_mem_nil, or_false] at hv
        omega
      refine as_mk (by omega) (bd_i (forS_ok (fun _ s => s.Perm (irange 0 n)) (hl o rfl) (fun i x s K' _ hs hk' => ?_) fun s hs => hk s hs))
      have sl : s.length = n.toNat := by rw [hs.length_eq, hn]
      refine any_b (by omega) (by omega) fun v v0 v1 => ?_
      refine as_mk ⟨inb_of v0 (by omega), by omega⟩ (of_b (by simp) (by simp) fun d _ => ?_)
      have dl : (delI s v).length ≤ s.length := by
        rw [delI_nat v0]
        exact List.length_eraseIdx_le _ _
      refine as_mk ⟨by omega, by omega, by omega⟩ (hk' _ ((ins_del v0 (by omega)).trans hs))
  refine bd_i (iteM (fun h => ?_) (fun h => ?_))
  · exact key true (fun h => (nomatch h))
  · refine any_b (by omega) (by omega) fun v v0 v1 => ?_
    exact key _ fun _ => by
      cases like with
      | none => cases h
      | some o => rfl


def p_law_hall (people_2 : Int) (places_3 : Int) (seats_4 : Int) : M (List (Int × (List Int))) :=
  M.bd (anyM people_2) fun v101 =>
  let many_103 : Int := (1 + v101)
  M.bd (M.bd (anyM 2) fun v105 =>
  (if (decide (v105 = 0)) = true then
  M.bd (p_law_order many_103 (none : Option (List Int))) fun v108 =>
  M.rt (some v108)
  else
  M.rt (none : Option (List Int)))) fun y106 =>
  M.bd (anyM places_3) fun v109 =>
  M.as (-(2 ^ 62) ≤ (1 + v109) ∧ (1 + v109) ≤ 2 ^ 24) <|
  M.bd (forS (irange 0 (1 + v109)) (([] : List (Int × (List Int))) : List (Int × (List Int))) fun s110 place_117 =>
  M.bd (anyM seats_4) fun v121 =>
  M.bd (p_law_order many_103 y106) fun v122 =>
  M.as (s110.length < 100000) <|
  M.rt (s110 ++ [((1 + v121), v122)])) fun s110 =>
  M.rt s110
theorem w_law_hall {C0 : Cs} {Q : QD} {E : XQ} {K : (List (Int × (List Int))) → Prop} {X : XP} (people_2 : Int) (places_3 : Int) (seats_4 : Int) (hd : DealHd C0) (h : p_law_hall people_2 places_3 seats_4 K X) (hk : ∀ (v : List (Int × (List Int))) C', Up true [] C0 C' → K v → Q ((eT (eP2 eI (eT eI))) v) C') : sp_law_hall [.cel 0, eI people_2, eI places_3, eI seats_4] C0 Q E := by
  intro hlo hlc
  have hO : Own ⟨true, C0, [], []⟩ C0 := Own.startD hd
  unfold rd_law_hall
  unfold p_law_hall at h
  with_reducible refine v_seq ?_
  with_reducible refine v_par ?_
  with_reducible refine v_cons ?_
  with_reducible refine v_op ?_
  refine st_e (d := (eI 1)) hO je_c ?_
  with_reducible refine v_call ?_
  with_reducible refine v_cons ?_
  refine v_var rfl ?_
  with_reducible refine v_cons ?_
  refine st_e (d := (eI people_2)) hO (je_var rfl) ?_
  with_reducible refine v_nil ?_
  refine w_law_any people_2 (hO.deal rfl).1 (bd_ap h) (fun v101 C u h => ?_)
  have hO := hO.up0 u
  refine st_2 (d := eI (1 + v101)) hO j2_add ?_
  with_reducible refine v_cons ?_
  refine st_n (ds := ([] : List (Int × (List Int))).map (eP2 eI (eT eI))) hO (jn_lst (e := (eP2 eI (eT eI))) (xs := []) ja_m0) (fun n102 C hO => ?_)
  with_reducible refine v_nil ?_
  let many_103 : Int := (1 + v101)
  with_reducible refine v_seq ?_
  with_reducible refine v_set ?_
  have h := bd_ap h
  refine je_join h ⟨true, C0, [], [(n102, ([] : List (Int × (List Int))).map (eP2 eI (eT eI)))]⟩ (eO (eT eI)) (fun Ky106 Qy106 h hqy106 => ?_) (fun y106 C hO h => ?_)
  · with_reducible refine v_ifE ?_
    with_reducible refine v_test ?_
    with_reducible refine v_op ?_
    with_reducible refine v_call ?_
    with_reducible refine v_cons ?_
    refine v_var rfl ?_
    with_reducible refine v_cons ?_
    refine st_e (d := (eI 2)) hO je_c ?_
    with_reducible refine v_nil ?_
    refine w_law_any 2 (hO.deal rfl).1 (bd_ap h) (fun v105 C u h => ?_)
    have hO := hO.up0 u
    refine st_e (d := (eI 0)) hO je_c ?_
    refine st_2 (d := eB (decide (v105 = 0))) hO (j2_eq (e := eI) (u := v105) (v := 0)) ?_
    refine ite_b (fun hi107 => ?_) (fun hi107 => ?_)
    · have h := it_ap hi107 h
      with_reducible refine v_call ?_
      with_reducible refine v_cons ?_
      refine v_var rfl ?_
      with_reducible refine v_cons ?_
      refine st_e (d := (eI many_103)) hO (je_var rfl) ?_
      with_reducible refine v_cons ?_
      refine st_e (d := ((eO (eT eI)) (none : Option (List Int)))) hO je_c ?_
      with_reducible refine v_nil ?_
      refine w_law_order many_103 (none : Option (List Int)) (hO.deal rfl).1 (bd_ap h) (fun v108 C u h => ?_)
      have hO := hO.up0 u
      exact hqy106 _ _ hO h
    · have h := if_ap hi107 h
      refine st_e (d := ((eO (eT eI)) (none : Option (List Int)))) hO je_c ?_
      exact hqy106 _ _ hO h
  with_reducible refine v_seq ?_
  with_reducible refine v_forR1 ?_
  with_reducible refine v_op ?_
  refine st_e (d := (eI 1)) hO je_c ?_
  with_reducible refine v_call ?_
  with_reducible refine v_cons ?_
  refine v_var rfl ?_
  with_reducible refine v_cons ?_
  refine st_e (d := (eI places_3)) hO (je_var rfl) ?_
  with_reducible refine v_nil ?_
  refine w_law_any places_3 (hO.deal rfl).1 (bd_ap h) (fun v109 C u h => ?_)
  have hO := hO.up0 u
  refine st_2 (d := eI (1 + v109)) hO j2_add ?_
  obtain ⟨p124, h⟩ := as_ap h
  with_reducible refine v_forI ?_
  have h := bd_ap h
  refine st_forS hO (ji_r1 je_c p124) h (fun (s110 : List (Int × (List Int))) r' C' => ∃ (o5 : Option DL.D), r' = [some (.cel 0), some (eI people_2), some (eI places_3), some (eI seats_4), some ((eO (eT eI)) y106), o5, some (eI many_103), some (.cel n102)] ∧ Own ⟨true, C0, [], [(n102, s110.map (eP2 eI (eT eI)))]⟩ C') ⟨_, rfl, hO⟩ (fun _ _ _ _ => trivial) (fun s110 place_117 hx118 r' C Ks110 nx bk hR h hns110 => ?_) (fun s110 r' C hR h => ?_)
  · obtain ⟨o5, rfl, hO⟩ := hR
    refine st_g jg_n ?_
    with_reducible refine v_drop ?_
    with_reducible refine v_ml ?_
    refine v_var rfl (opt_ok (lsD_at (hO.get (k := 0) rfl)) ?_)
    with_reducible refine v_cons ?_
    with_reducible refine v_tup ?_
    with_reducible refine v_cons ?_
    with_reducible refine v_op ?_
    refine st_e (d := (eI 1)) hO je_c ?_
    with_reducible refine v_call ?_
    with_reducible refine v_cons ?_
    refine v_var rfl ?_
    with_reducible refine v_cons ?_
    refine st_e (d := (eI seats_4)) hO (je_var rfl) ?_
    with_reducible refine v_nil ?_
    refine w_law_any seats_4 (hO.deal rfl).1 (bd_ap h) (fun v121 C u h => ?_)
    have hO := hO.up0 u
    refine st_2 (d := eI (1 + v121)) hO j2_add ?_
    with_reducible refine v_cons ?_
    with_reducible refine v_call ?_
    with_reducible refine v_cons ?_
    refine v_var rfl ?_
    with_reducible refine v_cons ?_
    refine st_e (d := (eI many_103)) hO (je_var rfl) ?_
    with_reducible refine v_cons ?_
    refine st_e (d := ((eO (eT eI)) y106)) hO (je_var rfl) ?_
    with_reducible refine v_nil ?_
    refine w_law_order many_103 y106 (hO.deal rfl).1 (bd_ap h) (fun v122 C u h => ?_)
    have hO := hO.up0 u
    with_reducible refine v_nil ?_
    with_reducible refine v_nil ?_
    obtain ⟨p123, h⟩ := as_ap h
    refine xm_app (e := (eP2 eI (eT eI))) (xs := s110) (v := ((1 + v121), v122)) 0 hO rfl p123 (fun C hO => ?_)
    exact hns110 (s110 ++ [((1 + v121), v122)]) _ _ ⟨_, rfl, hO⟩ h
  obtain ⟨o5, rfl, hO⟩ := hR
  with_reducible refine v_ret ?_
  refine st_e (d := ((eT (eP2 eI (eT eI))) s110)) hO (je_cb (ja_cons (je_var rfl) ja_nil) (jf_tuple (e := (eP2 eI (eT eI))) (xs := s110) (sv_C 0 rfl))) ?_
  exact hO.fin hlc (Cln.cl (e := (eT (eP2 eI (eT eI)))) _ _) (fun C' u => hk _ C' u h)
theorem law_hall_k {pe pl se : Int} {K : Hal → Prop} {X : XP} (h1 : 1 ≤ pe ∧ pe ≤ 40) (h2 : 1 ≤ pl ∧ pl ≤ 12) (h3 : 1 ≤ se ∧ se ≤ 20) (hk : ∀ hs n, HOk hs n → n ≤ pe → hs.length ≤ pl → (∀ q ∈ hs, q.1 ≤ se) → K hs) : p_law_hall pe pl se K X := by
  unfold p_law_hall
  refine any_b (by omega) (by omega) fun v v0 v1 => ?_
  have rest : ∀ like : Option (List Int), (∀ o, like = some o → o.Perm (irange 0 (1 + v))) → (M.bd (anyM pl) fun v2 => M.as (-(2 ^ 62) ≤ (1 + v2) ∧ (1 + v2) ≤ 2 ^ 24) <|
      M.bd (forS (irange 0 (1 + v2)) (([] : Hal) : Hal) fun s _ => M.bd (anyM se) fun v3 => M.bd (p_law_order (1 + v) like) fun v4 => M.as (s.length < 100000) <| M.rt (s ++ [((1 + v3), v4)])) fun s => M.rt s) K X := by
    intro like hl
    refine any_b (by omega) (by omega) fun v2 z0 z1 => ?_
    have hlen : (irange 0 (1 + v2)).length = (1 + v2).toNat := by rw [irange_len, Int.sub_zero]
    refine as_mk (by omega) (bd_i (forS_ok (fun i s => s.length = i ∧ i ≤ 12 ∧ ∀ q ∈ s, (1 ≤ q.1 ∧ q.1 ≤ se) ∧ q.2.Perm (irange 0 (1 + v))) ⟨rfl, by omega, fun _ h => (nomatch h)⟩ (fun i x s K' hi ⟨l1, l2, l3⟩ hk' => ?_) fun s ⟨l1, l2, l3⟩ => ?_))
    · have hil := (List.getElem?_eq_some_iff.mp hi).1
      refine any_b (by omega) (by omega) fun v3 y0 y1 => ?_
      refine bd_i (law_order_k (by omega) (by omega) hl fun o ho => ?_)
      refine as_mk (by omega) (hk' _ ⟨by simp [l1], by omega, fun q hq => ?_⟩)
      rcases List.mem_append.mp hq with h | h
      · exact l3 q h
      · obtain rfl := List.mem_singleton.mp h
        exact ⟨by show 1 ≤ 1 + v3 ∧ 1 + v3 ≤ se; omega, ho⟩
    · exact hk s (1 + v) ⟨by omega, by omega, by omega, by omega, fun q hq => ⟨(l3 q hq).1.1, by have := (l3 q hq).1.2; omega⟩, fun q hq => (l3 q hq).2⟩ (by omega) (by omega) fun q hq => (l3 q hq).1.2
  refine any_b (by omega) (by omega) fun v5 _ _ => ?_
  refine iteM (fun h => ?_) (fun h => ?_)
  · refine bd_i (law_order_k (by omega) (by omega) (fun o h => (nomatch h)) fun o ho => ?_)
    exact rest (some o) fun o' e => by cases e; exact ho
  · exact rest none fun o h => (nomatch h)


def p_law_list (places_2 : Int) (like_3 : Option (List Int)) : M (List Int) :=
  M.bd (M.bd ((if like_3.isNone = true then
  M.rt true
  else
  M.bd (anyM 2) fun v105 =>
  M.rt (decide (v105 = 0)))) fun c103 =>
  (if c103 = true then
  M.as (rgOk 0 places_2) <|
  M.bd (mixM (irange 0 places_2)) fun l108 =>
  M.rt l108
  else
  M.as (like_3.isSome = true) <|
  M.rt (og like_3))) fun y106 =>
  M.bd (anyM 4) fun v111 =>
  if decide (v111 < 2) = true then
  M.rt y106
  else
  if decide (v111 = 2) = true then
  M.bd (anyM (places_2 + 1)) fun v115 =>
  M.rt (cut y106 none (some v115))
  else
  M.bd (compM y106 fun one_122 =>
  M.bd (anyM 3) fun v127 =>
  (if (decide (0 < v127)) = true then
  M.rt (some one_122)
  else
  M.rt none)) fun l125 =>
  M.rt l125
theorem w_law_list {C0 : Cs} {Q : QD} {E : XQ} {K : (List Int) → Prop} {X : XP} (places_2 : Int) (like_3 : Option (List Int)) (hd : DealHd C0) (h : p_law_list places_2 like_3 K X) (hk : ∀ (v : List Int) C', Up true [] C0 C' → K v → Q ((eT eI) v) C') : sp_law_list [.cel 0, eI places_2, (eO (eL eI)) like_3] C0 Q E := by
  intro hlo hlc
  have hO : Own ⟨true, C0, [], []⟩ C0 := Own.startD hd
  unfold rd_law_list
  unfold p_law_list at h
  with_reducible refine v_seq ?_
  with_reducible refine v_set ?_
  have h := bd_ap h
  refine je_join h ⟨true, C0, [], []⟩ (eL eI) (fun Ky106 Qy106 h hqy106 => ?_) (fun y106 C hO h => ?_)
  · with_reducible refine v_ifE ?_
    have h := bd_ap h
    refine jt_join h ⟨true, C0, [], []⟩ (fun Kc103 Qc103 h hqc103 => ?_) (fun c103 C hO h => ?_)
    · with_reducible refine v_or ?_
      refine st_t (b := like_3.isNone) hO (jt_test (je_op (je_var rfl) je_c (j2_isN (e := (eL eI)) (v := like_3)))) ?_
      refine ite_b (fun hb104 => ?_) (fun hb104 => ?_)
      · have h := it_ap hb104 h
        exact hqc103 _ _ hO h
      · have h := if_ap hb104 h
        with_reducible refine v_test ?_
        with_reducible refine v_op ?_
        with_reducible refine v_call ?_
        with_reducible refine v_cons ?_
        refine v_var rfl ?_
        with_reducible refine v_cons ?_
        refine st_e (d := (eI 2)) hO je_c ?_
        with_reducible refine v_nil ?_
        refine w_law_any 2 (hO.deal rfl).1 (bd_ap h) (fun v105 C u h => ?_)
        have hO := hO.up0 u
        refine st_e (d := (eI 0)) hO je_c ?_
        refine st_2 (d := eB (decide (v105 = 0))) hO (j2_eq (e := eI) (u := v105) (v := 0)) ?_
        exact hqc103 _ _ hO h
    refine ite_b (fun hi107 => ?_) (fun hi107 => ?_)
    · have h := it_ap hi107 h
      with_reducible refine v_call ?_
      with_reducible refine v_cons ?_
      refine v_var rfl ?_
      with_reducible refine v_cons ?_
      obtain ⟨p109, h⟩ := as_ap h
      refine st_e (d := ((eL eI) (irange 0 places_2))) hO (je_lstR (jr_1 (je_var rfl)) p109) ?_
      with_reducible refine v_nil ?_
      refine w_law_mixedL (e := eI) (irange 0 places_2) (shps_map (fun x => shp_up (by decide : _ ≤ 59) _ (EqE.sh (e := eI) x)) _) (los_map 0 _) (hO.deal rfl).1 (bd_ap h) (fun l108 C u h => ?_)
      have hO := hO.up0 u
      exact hqy106 _ _ hO h
    · have h := if_ap hi107 h
      obtain ⟨p110, h⟩ := as_ap h
      refine st_e (d := ((eL eI) (og like_3))) hO (je_cb (ja_cons (je_og p110 (je_var rfl)) ja_nil) (jf_list (e := eI) (xs := (og like_3)) sv_L)) ?_
      exact hqy106 _ _ hO h
  with_reducible refine v_seq ?_
  with_reducible refine v_set ?_
  with_reducible refine v_call ?_
  with_reducible refine v_cons ?_
  refine v_var rfl ?_
  with_reducible refine v_cons ?_
  refine st_e (d := (eI 4)) hO je_c ?_
  with_reducible refine v_nil ?_
  refine w_law_any 4 (hO.deal rfl).1 (bd_ap h) (fun v111 C u h => ?_)
  have hO := hO.up0 u
  with_reducible refine v_seq ?_
  with_reducible refine v_if ?_
  refine st_t hO (jt_test (je_op (je_var rfl) je_c j2_lt)) (ite_b (fun hc112 => ?_) (fun hc112 => ?_))
  · have h := it_ap hc112 h
    with_reducible refine v_ret ?_
    refine st_e (d := ((eT eI) y106)) hO (je_cb (ja_cons (je_var rfl) ja_nil) (jf_tuple (e := eI) (xs := y106) sv_L)) ?_
    exact hO.fin hlc (Cln.cl (e := (eT eI)) _ _) (fun C' u => hk _ C' u h)
  · have h := if_ap hc112 h
    with_reducible refine v_next ?_
    with_reducible refine v_seq ?_
    with_reducible refine v_if ?_
    refine st_t hO (jt_test (je_op (je_var rfl) je_c (j2_eq (e := eI) (u := v111) (v := 2)))) (ite_b (fun hc113 => ?_) (fun hc113 => ?_))
    · have h := it_ap hc113 h
      with_reducible refine v_ret ?_
      with_reducible refine v_cb ?_
      with_reducible refine v_cons ?_
      with_reducible refine v_sl ?_
      refine st_e (d := ((eL eI) y106)) hO (je_var rfl) ?_
      with_reducible refine v_no ?_
      with_reducible refine v_part ?_
      with_reducible refine v_call ?_
      with_reducible refine v_cons ?_
      refine v_var rfl ?_
      with_reducible refine v_cons ?_
      refine st_e (d := (eI (places_2 + 1))) hO (je_op (je_var rfl) je_c j2_add) ?_
      with_reducible refine v_nil ?_
      refine w_law_any (places_2 + 1) (hO.deal rfl).1 (bd_ap h) (fun v115 C u h => ?_)
      have hO := hO.up0 u
      refine xs_slL (e := eI) (xs := y106) hO lv_L ?_
      with_reducible refine v_nil ?_
      refine st_f (d := (eT eI) (cut y106 none (some v115))) hO (jf_tuple (e := eI) (xs := (cut y106 none (some v115))) sv_L) ?_
      exact hO.fin hlc (Cln.cl (e := (eT eI)) _ _) (fun C' u => hk _ C' u h)
    · have h := if_ap hc113 h
      with_reducible refine v_next ?_
      with_reducible refine v_ret ?_
      with_reducible refine v_cb ?_
      with_reducible refine v_cons ?_
      have h := bd_ap h
      refine st_lc (e := eI) (f := eI) hO (ji_seq (ds := y106.map eI) (je_var rfl) sv_L) h (fun one_122 hx123 C Kx Y Z hO h hyy124 hzy124 => ?_) (fun l125 C hO h => ?_)
      · refine st_g jg_n ?_
        with_reducible refine v_test ?_
        with_reducible refine v_op ?_
        with_reducible refine v_call ?_
        with_reducible refine v_cons ?_
        refine v_var rfl ?_
        with_reducible refine v_cons ?_
        refine st_e (d := (eI 3)) hO je_c ?_
        with_reducible refine v_nil ?_
        refine w_law_any 3 (hO.deal rfl).1 (bd_ap h) (fun v127 C u h => ?_)
        have hO := hO.up0 u
        refine st_e (d := (eI 0)) hO je_c ?_
        refine st_2 (d := eB (decide (0 < v127))) hO j2_gt ?_
        refine ite_b (fun hp126 => ?_) (fun hp126 => ?_)
        · have h := it_ap hp126 h
          refine st_e (d := (eI one_122)) hO (je_var rfl) ?_
          exact hyy124 _ _ hO h
        · have h := if_ap hp126 h
          exact hzy124 _ hO h
      with_reducible refine v_nil ?_
      refine st_f (d := (eT eI) l125) hO (jf_tuple (e := eI) (xs := l125) sv_L) ?_
      exact hO.fin hlc (Cln.cl (e := (eT eI)) _ _) (fun C' u => hk _ C' u h)
theorem law_list_k {m : Int} {like : Option (List Int)} {K : List Int → Prop} {X : XP} (m1 : 1 ≤ m) (m2 : m ≤ 1000) (hl : ∀ o, like = some o → o.Perm (irange 0 m)) (hk : ∀ w : List Int, LOk m w → K w) : p_law_list m like K X := by
  unfold p_law_list
  have hn : (irange 0 m).length = m.toNat := by rw [irange_len, Int.sub_zero]
  refine bd_p (fun o => o.Perm (irange 0 m)) (fun K1 h1 => ?_) fun o ho => ?_
  · refine bd_p (fun b => b = false → like.isSome = true) (fun K2 h2 => ?_) fun b hb => ?_
    · refine iteM (fun h => h2 true fun h => (nomatch h)) (fun h => ?_)
      refine any_b (by omega) (by omega) fun v _ _ => h2 _ fun _ => ?_
      cases like with
      | none => cases h
      | some o => rfl
    · refine iteM (fun h => as_mk (by unfold rgOk; omega) (mix_b (by omega) fun ys p => h1 ys p)) (fun h => ?_)
      have hs := hb h
      obtain ⟨o, rfl⟩ := Option.isSome_iff_exists.mp hs
      exact as_mk hs (h1 _ (hl o rfl))
  · refine any_b (by omega) (by omega) fun f _ _ => ?_
    refine iteM (fun _ => hk _ (.of_perm ho)) (fun _ => ?_)
    have h2 := hk
    refine iteM (fun _ => ?_) (fun _ => ?_)
    · refine any_b (by omega) (by omega) fun v v0 v1 => ?_
      refine h2 _ ?_
      rw [cut_hi _ v0]
      exact (LOk.of_perm ho).sub (List.take_sublist _ _)
    · refine bd_i (compM_sub (fun x _ K' h1 h2 => ?_) fun ys h => h2 _ ((LOk.of_perm ho).sub h))
      exact any_b (by omega) (by omega) fun v _ _ => iteM (fun _ => h1) fun _ => h2


def p_law_wishes (hall_2 : List (Int × (List Int))) : M (List (List Int)) :=
  let places_101 : Int := (hall_2.length : Int)
  M.bd (M.bd (anyM 2) fun v104 =>
  (if (decide (v104 = 0)) = true then
  M.as (rgOk 0 places_101) <|
  M.bd (mixM (irange 0 places_101)) fun l107 =>
  M.rt (some l107)
  else
  M.rt (none : Option (List Int)))) fun y105 =>
  M.as (inb hall_2.length 0) <|
  M.bd (compM ((gi hall_2 0).2) fun person_115 =>
  M.bd (p_law_list places_101 y105) fun v119 =>
  M.rt (some v119)) fun l118 =>
  M.rt l118
theorem w_law_wishes {C0 : Cs} {Q : QD} {E : XQ} {K : (List (List Int)) → Prop} {X : XP} (hall_2 : List (Int × (List Int))) (hd : DealHd C0) (h : p_law_wishes hall_2 K X) (hk : ∀ (v : List (List Int)) C', Up true [] C0 C' → K v → Q ((eT (eT eI)) v) C') : sp_law_wishes [.cel 0, (eT (eP2 eI (eT eI))) hall_2] C0 Q E := by
  intro hlo hlc
  have hO : Own ⟨true, C0, [], []⟩ C0 := Own.startD hd
  unfold rd_law_wishes
  unfold p_law_wishes at h
  with_reducible refine v_seq ?_
  with_reducible refine v_set ?_
  refine st_e (d := (eI (hall_2.length : Int))) hO (je_cb (ja_cons (je_var rfl) ja_nil) (jf_len (e := (eP2 eI (eT eI))) (xs := hall_2) sv_T)) ?_
  let places_101 : Int := (hall_2.length : Int)
  with_reducible refine v_seq ?_
  with_reducible refine v_set ?_
  have h := bd_ap h
  refine je_join h ⟨true, C0, [], []⟩ (eO (eL eI)) (fun Ky105 Qy105 h hqy105 => ?_) (fun y105 C hO h => ?_)
  · with_reducible refine v_ifE ?_
    with_reducible refine v_test ?_
    with_reducible refine v_op ?_
    with_reducible refine v_call ?_
    with_reducible refine v_cons ?_
    refine v_var rfl ?_
    with_reducible refine v_cons ?_
    refine st_e (d := (eI 2)) hO je_c ?_
    with_reducible refine v_nil ?_
    refine w_law_any 2 (hO.deal rfl).1 (bd_ap h) (fun v104 C u h => ?_)
    have hO := hO.up0 u
    refine st_e (d := (eI 0)) hO je_c ?_
    refine st_2 (d := eB (decide (v104 = 0))) hO (j2_eq (e := eI) (u := v104) (v := 0)) ?_
    refine ite_b (fun hi106 => ?_) (fun hi106 => ?_)
    · have h := it_ap hi106 h
      with_reducible refine v_call ?_
      with_reducible refine v_cons ?_
      refine v_var rfl ?_
      with_reducible refine v_cons ?_
      obtain ⟨p108, h⟩ := as_ap h
      refine st_e (d := ((eL eI) (irange 0 places_101))) hO (je_lstR (jr_1 (je_var rfl)) p108) ?_
      with_reducible refine v_nil ?_
      refine w_law_mixedL (e := eI) (irange 0 places_101) (shps_map (fun x => shp_up (by decide : _ ≤ 59) _ (EqE.sh (e := eI) x)) _) (los_map 0 _) (hO.deal rfl).1 (bd_ap h) (fun l107 C u h => ?_)
      have hO := hO.up0 u
      exact hqy105 _ _ hO h
    · have h := if_ap hi106 h
      refine st_e (d := ((eO (eL eI)) (none : Option (List Int)))) hO je_c ?_
      exact hqy105 _ _ hO h
  with_reducible refine v_ret ?_
  with_reducible refine v_cb ?_
  with_reducible refine v_cons ?_
  obtain ⟨p120, h⟩ := as_ap h
  have h := bd_ap h
  refine st_lc (e := eI) (f := (eT eI)) hO (ji_seq (ds := ((gi hall_2 0).2).map eI) (je_op (je_op (je_var rfl) je_c (j2_ix (e := (eP2 eI (eT eI))) (xs := hall_2) sv_T p120)) je_c (j2_ixP (d := (eT eI) ((gi hall_2 0).2)) rfl)) sv_T) h (fun person_115 hx116 C Kx Y Z hO h hyy117 hzy117 => ?_) (fun l118 C hO h => ?_)
  · refine st_g jg_n ?_
    with_reducible refine v_cNil ?_
    refine ite_true' ?_
    with_reducible refine v_call ?_
    with_reducible refine v_cons ?_
    refine v_var rfl ?_
    with_reducible refine v_cons ?_
    refine st_e (d := (eI places_101)) hO (je_var rfl) ?_
    with_reducible refine v_cons ?_
    refine st_e (d := ((eO (eL eI)) y105)) hO (je_var rfl) ?_
    with_reducible refine v_nil ?_
    refine w_law_list places_101 y105 (hO.deal rfl).1 (bd_ap h) (fun v119 C u h => ?_)
    have hO := hO.up0 u
    exact hyy117 _ _ hO h
  with_reducible refine v_nil ?_
  refine st_f (d := (eT (eT eI)) l118) hO (jf_tuple (e := (eT eI)) (xs := l118) sv_L) ?_
  exact hO.fin hlc (Cln.cl (e := (eT (eT eI))) _ _) (fun C' u => hk _ C' u h)
theorem law_wishes_k {hs : Hal} {n : Int} {K : Wis → Prop} {X : XP} (H : HOk hs n) (hk : ∀ ws, WOk hs n ws → K ws) : p_law_wishes hs K X := by
  have h12 := H.p12
  have h1 := H.p1
  unfold p_law_wishes
  refine bd_p (fun like => ∀ o, like = some o → o.Perm (irange 0 (hs.length : Int))) (fun K1 k1 => ?_) fun like hl => ?_
  · refine any_b (by omega) (by omega) fun v _ _ => ?_
    refine iteM (fun _ => ?_) (fun _ => k1 _ fun o h => (nomatch h))
    refine as_mk (by unfold rgOk; omega) (mix_b (by rw [irange_len]; omega) fun ys p => k1 _ fun o e => by cases e; exact p)
  · refine as_mk (inb_of (by omega) (by omega)) (bd_i (compM_all (fun _ w => LOk (hs.length : Int) w) (fun x K' hx k' => ?_) fun ys hl hr => hk ys ⟨?_, fun w hw => ?_⟩))
    · exact bd_i (law_list_k (by omega) (by omega) hl fun w hw => k' w hw)
    · rw [hl]
      exact H.len0
    · obtain ⟨i, hi⟩ := List.mem_iff_getElem?.mp hw
      have hil := (List.getElem?_eq_some_iff.mp hi).1
      exact hr i _ w (List.getElem?_eq_getElem (by omega)) hi


def p_law_ranks (hall_1 : List (Int × (List Int))) : M (List (List Int)) :=
  M.bd (forS hall_1 (([] : List (List Int)) : List (List Int)) fun s102 zv_112 =>
  M.as ((-(2 ^ 62) ≤ (zv_112.2.length : Int) ∧ (zv_112.2.length : Int) ≤ 2 ^ 24) ∧ (∀ person_117, person_117 ∈ (irange 0 (zv_112.2.length : Int)) → (person_117 ∈ zv_112.2))) <|
  M.as (s102.length < 100000) <|
  M.rt (s102 ++ [((irange 0 (zv_112.2.length : Int)).map (fun (person_117 : Int) => ((zv_112.2.idxOf person_117 : Nat) : Int)))])) fun s102 =>
  M.rt s102
def v_law_ranks (hall_1 : List (Int × (List Int))) : (List (List Int)) :=
  let found_105 : List (List Int) := (hall_1.flatMap fun (zv_101 : Int × (List Int)) =>
  [((irange 0 (zv_101.2.length : Int)).map (fun (person_102 : Int) => ((zv_101.2.idxOf person_102 : Nat) : Int)))])
  found_105
def ok_law_ranks (hall_1 : List (Int × (List Int))) : Prop :=
  ((∀ zv_101, zv_101 ∈ hall_1 → ((-(2 ^ 62) ≤ (zv_101.2.length : Int) ∧ (zv_101.2.length : Int) ≤ 2 ^ 24) ∧ (∀ person_102, person_102 ∈ (irange 0 (zv_101.2.length : Int)) → (person_102 ∈ zv_101.2))))) ∧ (((hall_1.flatMap fun (zv_101 : Int × (List Int)) =>
  [((irange 0 (zv_101.2.length : Int)).map (fun (person_102 : Int) => ((zv_101.2.idxOf person_102 : Nat) : Int)))])).length ≤ 100000)
theorem m_law_ranks (hall_1 : List (Int × (List Int))) (hs : ok_law_ranks hall_1) {K : (List (List Int)) → Prop} {X : XP} (hk : K (v_law_ranks hall_1)) : p_law_ranks hall_1 K X := by
  unfold p_law_ranks
  unfold ok_law_ranks at hs
  unfold v_law_ranks at hk
  obtain ⟨hs0, hs⟩ := hs
  have hl := hs
  refine bd_i (forS_app (g := fun (zv_101 : Int × (List Int)) => [((irange 0 (zv_101.2.length : Int)).map (fun (person_102 : Int) => ((zv_101.2.idxOf person_102 : Nat) : Int)))]) (len_0 hl) (fun zv_101 hx106 acc K1 hb hk1 => ?_) ?_)
  · have hs := hs0 zv_101 hx106
    refine as_mk hs ?_
    exact as_mk (app_lt hb) hk1
  exact hk
theorem w_law_ranks {C0 : Cs} {Q : QD} {E : XQ} {K : (List (List Int)) → Prop} {X : XP} (hall_1 : List (Int × (List Int))) (h : p_law_ranks hall_1 K X) (hk : ∀ (v : List (List Int)) C', Up false [] C0 C' → K v → Q ((eL (eL eI)) v) C') : sp_law_ranks [(eT (eP2 eI (eT eI))) hall_1] C0 Q E := by
  intro hlo hlc
  have hO : Own ⟨false, C0, [], []⟩ C0 := Own.start
  unfold rd_law_ranks
  unfold p_law_ranks at h
  with_reducible refine v_seq ?_
  with_reducible refine v_set ?_
  refine st_n (ds := ([] : List (List Int)).map (eL eI)) hO (jn_lst (e := (eL eI)) (xs := []) ja_m0) (fun n101 C hO => ?_)
  with_reducible refine v_seq ?_
  with_reducible refine v_forI ?_
  have h := bd_ap h
  refine st_forS hO (ji_seq (ds := hall_1.map (eP2 eI (eT eI))) (je_var rfl) sv_T) h (fun (s102 : List (List Int)) r' C' => ∃ (o2 : Option DL.D) (o3 : Option DL.D) (o4 : Option DL.D), r' = [some ((eT (eP2 eI (eT eI))) hall_1), some (.cel n101), o2, o3, o4] ∧ Own ⟨false, C0, [], [(n101, s102.map (eL eI))]⟩ C') ⟨_, _, _, rfl, hO⟩ (fun _ _ _ _ => trivial) (fun s102 zv_112 hx113 r' C Ks102 nx bk hR h hns102 => ?_) (fun s102 r' C hR h => ?_)
  · obtain ⟨o2, o3, o4, rfl, hO⟩ := hR
    refine st_g (jg_tup (jg_cons jg_n (jg_cons jg_n jg_nil)) rfl) ?_
    with_reducible refine v_drop ?_
    with_reducible refine v_ml ?_
    refine v_var rfl (opt_ok (lsD_at (hO.get (k := 0) rfl)) ?_)
    with_reducible refine v_cons ?_
    obtain ⟨p121, h⟩ := as_ap h
    refine st_e (d := ((eL eI) ((irange 0 (zv_112.2.length : Int)).map (fun (person_117 : Int) => ((zv_112.2.idxOf person_117 : Nat) : Int))))) hO (je_lc0 (e := eI) (f := eI) (ji_r1 (je_cb (ja_cons (je_var rfl) ja_nil) (jf_len (e := eI) (xs := zv_112.2) sv_T)) p121.1) (fun person_117 => jg_n) (fun (person_117 : Int) => ((zv_112.2.idxOf person_117 : Nat) : Int)) (fun person_117 hx118 => (je_mt (je_var rfl) rfl (ja_cons (x := eI person_117) (je_var rfl) ja_nil) (jm_idxT (p121.2 person_117 hx118))))) ?_
    with_reducible refine v_nil ?_
    obtain ⟨p120, h⟩ := as_ap h
    refine xm_app (e := (eL eI)) (xs := s102) (v := ((irange 0 (zv_112.2.length : Int)).map (fun (person_117 : Int) => ((zv_112.2.idxOf person_117 : Nat) : Int)))) 0 hO rfl p120 (fun C hO => ?_)
    exact hns102 (s102 ++ [((irange 0 (zv_112.2.length : Int)).map (fun (person_117 : Int) => ((zv_112.2.idxOf person_117 : Nat) : Int)))]) _ _ ⟨_, _, _, rfl, hO⟩ h
  obtain ⟨o2, o3, o4, rfl, hO⟩ := hR
  with_reducible refine v_ret ?_
  refine st_e (d := (.cel n101)) hO (je_var rfl) ?_
  exact hO.finL hlc (j := 0) rfl (fun C' u => hk _ C' u h)
theorem t_law_ranks {C0 : Cs} {Q : QD} {E : XQ} (hall_1 : List (Int × (List Int))) (hs : ok_law_ranks hall_1) (q : Q ((eL (eL eI)) (v_law_ranks hall_1)) C0) : sp_law_ranks [(eT (eP2 eI (eT eI))) hall_1] C0 Q E :=
  w_law_ranks (X := fun _ _ => False) (K := fun v => v = v_law_ranks hall_1) hall_1 (m_law_ranks hall_1 hs rfl) fun v C' u hv => by
    rw [up_eq0 u, hv]
    exact q
theorem law_ranks_eq (hs : Hal) : v_law_ranks hs = hs.map fun z => (irange 0 (z.2.length : Int)).map fun x => ((z.2.idxOf x : Nat) : Int) := by
  unfold v_law_ranks
  show List.flatMap _ _ = _
  induction hs with
  | nil => rfl
  | cons z zs ih => rw [List.flatMap_cons, ih]; rfl
theorem law_ranks_gi {hs : Hal} {n p x : Int} (H : HOk hs n) (p0 : 0 ≤ p) (p1 : p < hs.length) (x0 : 0 ≤ x) (x1 : x < n) : gi (gi (v_law_ranks hs) p) x = rk hs p x := by
  rw [law_ranks_eq, gi_map (inb_of p0 p1)]
  have e := H.od_len p0 p1
  rw [show (gi hs p).2.length = (odr hs p).length from rfl]
  exact gi_mapr _ x0 (by omega)
theorem ok_law_ranks_of {hs : Hal} {n : Int} (H : HOk hs n) : ok_law_ranks hs := by
  have h40 := H.n40
  have p12 := H.p12
  have hl : ∀ z ∈ hs, (z.2.length : Int) = n ∧ ∀ x, 0 ≤ x → x < n → x ∈ z.2 := fun z hz => by
    have hp := H.od z hz
    refine ⟨?_, fun x x0 x1 => hp.mem_iff.mpr (mem_irange.mpr ⟨x0, x1⟩)⟩
    have := hp.length_eq
    rw [irange_len] at this
    have := H.n1
    omega
  refine ⟨fun z hz => ⟨by have := (hl z hz).1; omega, fun x hx => ?_⟩, ?_⟩
  · obtain ⟨x0, x1⟩ := mem_irange.mp hx
    exact (hl z hz).2 x x0 (by have := (hl z hz).1; omega)
  · have e := law_ranks_eq hs
    unfold v_law_ranks at e
    refine Nat.le_trans (Nat.le_of_eq (congrArg List.length e)) ?_
    rw [List.length_map]
    omega


def p_law_at (dealing_1 : List (Option Int)) (place_2 : Int) : M (List Int) :=
  M.rt (((enumI dealing_1).filter (fun (zv_105 : Int × (Option Int)) => (zv_105.2.isSome && (decide (zv_105.2 = (some place_2)))))).map (fun (zv_105 : Int × (Option Int)) => zv_105.1))
def v_law_at (dealing_1 : List (Option Int)) (place_2 : Int) : (List Int) :=
  (((enumI dealing_1).filter (fun (zv_101 : Int × (Option Int)) => (zv_101.2.isSome && (decide (zv_101.2 = (some place_2)))))).map (fun (zv_101 : Int × (Option Int)) => zv_101.1))
theorem m_law_at (dealing_1 : List (Option Int)) (place_2 : Int) {K : (List Int) → Prop} {X : XP} (hk : K (v_law_at dealing_1 place_2)) : p_law_at dealing_1 place_2 K X := by
  unfold p_law_at
  unfold v_law_at at hk
  exact hk
theorem w_law_at_0C {C0 : Cs} {Q : QD} {E : XQ} {K : (List Int) → Prop} {X : XP} (dealing_1 : List (Option Int)) (place_2 : Int) {n_dealing_1 : Nat} (hn_dealing_1 : C0[n_dealing_1]? = some (.lst (dealing_1.map (eO eI)))) (h : p_law_at dealing_1 place_2 K X) (hk : ∀ (v : List Int) C', Up false [(n_dealing_1, dealing_1.map (eO eI))] C0 C' → K v → Q ((eL eI) v) C') : sp_law_at [.cel n_dealing_1, eI place_2] C0 Q E := by
  intro hlo hlc
  have hO : Own ⟨false, C0, [(n_dealing_1, dealing_1.map (eO eI))], []⟩ C0 := Own.startP hn_dealing_1 (los_map 0 _)
  unfold rd_law_at
  unfold p_law_at at h
  with_reducible refine v_ret ?_
  refine st_e (d := ((eL eI) (((enumI dealing_1).filter (fun (zv_105 : Int × (Option Int)) => (zv_105.2.isSome && (decide (zv_105.2 = (some place_2)))))).map (fun (zv_105 : Int × (Option Int)) => zv_105.1)))) hO (je_lc (e := (eP2 eI (eO eI))) (f := eI) (ji_enu (e := (eO eI)) (xs := dealing_1) (je_var rfl) (sv_C 0 rfl)) (fun zv_105 => (jg_tup (jg_cons jg_n (jg_cons jg_n jg_nil)) rfl)) (fun (zv_105 : Int × (Option Int)) => (zv_105.2.isSome && (decide (zv_105.2 = (some place_2))))) (fun (zv_105 : Int × (Option Int)) => zv_105.1) (fun zv_105 hx106 => (jt_and (jt_test (je_op (je_var rfl) je_c (j2_notN (e := eI) (v := zv_105.2)))) (fun hb108 => (jt_test (je_op (je_var rfl) (je_var rfl) (j2_eq (e := (eO eI)) (u := zv_105.2) (v := (some place_2)))))))) (fun zv_105 hx106 hp107 => (je_var rfl))) ?_
  exact hO.fin hlc (Cln.cl (e := (eL eI)) _ _) (fun C' u => hk _ C' u h)
theorem t_law_at_0C {C0 : Cs} {Q : QD} {E : XQ} (dealing_1 : List (Option Int)) (place_2 : Int) {n_dealing_1 : Nat} (hn_dealing_1 : C0[n_dealing_1]? = some (.lst (dealing_1.map (eO eI)))) (q : Q ((eL eI) (v_law_at dealing_1 place_2)) C0) : sp_law_at [.cel n_dealing_1, eI place_2] C0 Q E :=
  w_law_at_0C (X := fun _ _ => False) (K := fun v => v = v_law_at dealing_1 place_2) dealing_1 place_2 hn_dealing_1 (m_law_at dealing_1 place_2 rfl) fun v C' u hv => by
    rw [up_eq1 u hn_dealing_1, hv]
    exact q
theorem law_at_eq (dl : Dea) (p : Int) : v_law_at dl p = atD dl p := by
  unfold v_law_at atD
  rw [enumI_eq, List.filter_map, List.map_map]
  refine (List.map_id _).trans (List.filter_congr fun x _ => ?_)
  show ((gi dl x).isSome && decide (gi dl x = some p)) = _
  cases gi dl x with
  | none => rfl
  | some q => rfl


def p_law_go (hall_1 : List (Int × (List Int))) (ranks_2 : List (List Int)) (lists_3 : List (List Int)) (found_4 : List (Option Int)) (spots_5 : List Int) (free_6 : List Int) : M ((List (Option Int)) × (List Int) × (List Int)) :=
  M.bd (whileS ((found_4, spots_5, free_6) : (List (Option Int)) × (List Int) × (List Int)) (fun s101 => M.rt (!decide (s101.2.2 = ([] : List Int)))) fun s101 =>
  M.as (s101.2.2 ≠ []) <|
  let person_156 : Int := (gi s101.2.2 (-1))
  M.bd (M.as ((inb s101.2.1.length person_156) ∧ (inb lists_3.length person_156)) <|
  if decide ((gi s101.2.1 person_156) < ((gi lists_3 person_156).length : Int)) = true then
  M.as ((inb lists_3.length person_156) ∧ (inb s101.2.1.length person_156) ∧ (inb (gi lists_3 person_156).length (gi s101.2.1 person_156))) <|
  let place_184 : Int := (gi (gi lists_3 person_156) (gi s101.2.1 person_156))
  M.as (inb s101.2.1.length person_156) <|
  M.as (inb s101.2.1.length person_156) <|
  M.as (inb s101.1.length person_156) <|
  let held_185 : List Int := (v_law_at (setI s101.1 person_156 (some place_184)) place_184)
  M.bd (M.as (inb hall_1.length place_184) <|
  if decide ((gi hall_1 place_184).1 < (held_185.length : Int)) = true then
  M.as ((∀ one_196, one_196 ∈ held_185 → ((inb ranks_2.length place_184) ∧ (inb (gi ranks_2 place_184).length one_196))) ∧ ((held_185.map (fun (one_196 : Int) => ((gi (gi ranks_2 place_184) one_196), one_196))) ≠ [])) <|
  let last_199 : Int := (maxP (held_185.map (fun (one_196 : Int) => ((gi (gi ranks_2 place_184) one_196), one_196)))).2
  M.as (inb (setI s101.1 person_156 (some place_184)).length last_199) <|
  M.as (s101.2.2.dropLast.length < 100000) <|
  M.rt ((setI (setI s101.1 person_156 (some place_184)) last_199 (none : Option Int)), (s101.2.2.dropLast ++ [last_199]))
  else
  M.rt ((setI s101.1 person_156 (some place_184)), s101.2.2.dropLast) : M ((List (Option Int)) × (List Int))) fun s195 =>
  M.rt (s195.1, (setI s101.2.1 person_156 ((gi s101.2.1 person_156) + 1)), s195.2)
  else
  M.rt (s101.1, s101.2.1, s101.2.2.dropLast) : M ((List (Option Int)) × (List Int) × (List Int))) fun s183 =>
  M.rt (s183.1, s183.2.1, s183.2.2)) fun s101 =>
  M.rt (s101.1, s101.2.1, s101.2.2)
theorem w_law_go_2L {C0 : Cs} {Q : QD} {E : XQ} {K : (List (Option Int)) × (List Int) × (List Int) → Prop} {X : XP} (hall_1 : List (Int × (List Int))) (ranks_2 : List (List Int)) (lists_3 : List (List Int)) (found_4 : List (Option Int)) (spots_5 : List Int) (free_6 : List Int) {n_found_4 : Nat} {n_spots_5 : Nat} {n_free_6 : Nat} (hn_found_4 : C0[n_found_4]? = some (.lst (found_4.map (eO eI)))) (hn_spots_5 : C0[n_spots_5]? = some (.lst (spots_5.map eI))) (hn_free_6 : C0[n_free_6]? = some (.lst (free_6.map eI))) (hne01 : n_found_4 ≠ n_spots_5) (hne02 : n_found_4 ≠ n_free_6) (hne12 : n_spots_5 ≠ n_free_6) (h : p_law_go hall_1 ranks_2 lists_3 found_4 spots_5 free_6 K X) (hk : ∀ (v : (List (Option Int)) × (List Int) × (List Int)) C', Up false [(n_found_4, v.1.map (eO eI)), (n_spots_5, v.2.1.map eI), (n_free_6, v.2.2.map eI)] C0 C' → K v → Q .non C') : sp_law_go [(eT (eP2 eI (eT eI))) hall_1, (eL (eL eI)) ranks_2, (eL (eT eI)) lists_3, .cel n_found_4, .cel n_spots_5, .cel n_free_6] C0 Q E := by
  intro hlo hlc
  have hO : Own ⟨false, C0, [(n_found_4, found_4.map (eO eI)), (n_spots_5, spots_5.map eI), (n_free_6, free_6.map eI)], []⟩ C0 := Own.startP3 hn_found_4 hn_spots_5 hn_free_6 hne01 hne02 hne12 (los_map 0 _) (los_map 0 _) (los_map 0 _)
  unfold rd_law_go
  unfold p_law_go at h
  with_reducible refine v_whileI ?_
  have h := bd_ap h
  refine st_whileS h (fun (s101 : (List (Option Int)) × (List Int) × (List Int)) r' C' => ∃ (o6 : Option DL.D) (o7 : Option DL.D) (o8 : Option DL.D) (o9 : Option DL.D) (o10 : Option DL.D), r' = [some ((eT (eP2 eI (eT eI))) hall_1), some ((eL (eL eI)) ranks_2), some ((eL (eT eI)) lists_3), some (.cel n_found_4), some (.cel n_spots_5), some (.cel n_free_6), o6, o7, o8, o9, o10] ∧ Own ⟨false, C0, [(n_found_4, s101.1.map (eO eI)), (n_spots_5, s101.2.1.map eI), (n_free_6, s101.2.2.map eI)], []⟩ C') ⟨_, _, _, _, _, rfl, hO⟩ (fun s101 r' C K1 Ks101 nx bk hR h hg hd hns101 hD => ?_) (fun s101 r' C hR h => ?_)
  · obtain ⟨o6, o7, o8, o9, o10, rfl, hO⟩ := hR
    have h := rt_ap h
    refine st_t hO (jt_test (je_op (je_var rfl) (je_lstL (e := eI) (xs := []) ja_m0) (j2_neC (e := eI) (us := s101.2.2) (vs := ([] : List Int)) 2 rfl))) (ite_b (fun hw => ?_) (fun hw => ?_))
    · have h := hg (hw ▸ h)
      with_reducible refine v_seq ?_
      with_reducible refine v_set ?_
      with_reducible refine v_ml0 ?_
      refine v_var rfl (opt_ok (lsD_at (hO.get (k := 2) rfl)) ?_)
      obtain ⟨p209, h⟩ := as_ap h
      refine xm_pop (e := eI) (xs := s101.2.2) 2 hO rfl p209 (fun C hO => ?_)
      let person_156 : Int := (gi s101.2.2 (-1))
      with_reducible refine v_ifI ?_
      have h := bd_ap h
      refine st_join h (fun (s183 : (List (Option Int)) × (List Int) × (List Int)) r' C' => ∃ (o7 : Option DL.D) (o8 : Option DL.D) (o9 : Option DL.D) (o10 : Option DL.D), r' = [some ((eT (eP2 eI (eT eI))) hall_1), some ((eL (eL eI)) ranks_2), some ((eL (eT eI)) lists_3), some (.cel n_found_4), some (.cel n_spots_5), some (.cel n_free_6), some (eI person_156), o7, o8, o9, o10] ∧ Own ⟨false, C0, [(n_found_4, s183.1.map (eO eI)), (n_spots_5, s183.2.1.map eI), (n_free_6, s183.2.2.map eI)], []⟩ C') (fun Ks183 nx h hns183 => ?_) (fun s183 r' C hR h => ?_)
      · obtain ⟨p208, h⟩ := as_ap h
        with_reducible refine v_if ?_
        refine st_t hO (jt_test (je_op (je_op (je_var rfl) (je_var rfl) (j2_ix (e := eI) (xs := s101.2.1) (sv_C 1 rfl) p208.1)) (je_cb (ja_cons (je_op (je_var rfl) (je_var rfl) (j2_ix (e := (eT eI)) (xs := lists_3) sv_L p208.2)) ja_nil) (jf_len (e := eI) (xs := (gi lists_3 person_156)) sv_T)) j2_lt)) (ite_b (fun hc157 => ?_) (fun hc157 => ?_))
        · have h := it_ap hc157 h
          with_reducible refine v_seq ?_
          with_reducible refine v_set ?_
          obtain ⟨p207, h⟩ := as_ap h
          refine st_e (d := (eI (gi (gi lists_3 person_156) (gi s101.2.1 person_156)))) hO (je_op (je_op (je_var rfl) (je_var rfl) (j2_ix (e := (eT eI)) (xs := lists_3) sv_L p207.1)) (je_op (je_var rfl) (je_var rfl) (j2_ix (e := eI) (xs := s101.2.1) (sv_C 1 rfl) p207.2.1)) (j2_ix (e := eI) (xs := (gi lists_3 person_156)) sv_T p207.2.2)) ?_
          let place_184 : Int := (gi (gi lists_3 person_156) (gi s101.2.1 person_156))
          with_reducible refine v_seq ?_
          with_reducible refine v_asg ?_
          obtain ⟨p206, h⟩ := as_ap h
          refine st_e (d := (eI ((gi s101.2.1 person_156) + 1))) hO (je_op (je_op (je_var rfl) (je_var rfl) (j2_ix (e := eI) (xs := s101.2.1) (sv_C 1 rfl) p206)) je_c j2_add) ?_
          with_reducible refine v_gSb ?_
          refine v_var rfl ?_
          refine st_e (d := (eI person_156)) hO (je_var rfl) ?_
          obtain ⟨p205, h⟩ := as_ap h
          refine xm_set (e := eI) (xs := s101.2.1) (a := person_156) (v := ((gi s101.2.1 person_156) + 1)) 1 hO rfl p205 (fun C hO => ?_)
          with_reducible refine v_seq ?_
          with_reducible refine v_asg ?_
          refine st_e (d := ((eO eI) (some place_184))) hO (je_var rfl) ?_
          with_reducible refine v_gSb ?_
          refine v_var rfl ?_
          refine st_e (d := (eI person_156)) hO (je_var rfl) ?_
          obtain ⟨p204, h⟩ := as_ap h
          refine xm_set (e := (eO eI)) (xs := s101.1) (a := person_156) (v := (some place_184)) 0 hO rfl p204 (fun C hO => ?_)
          with_reducible refine v_seq ?_
          with_reducible refine v_set ?_
          refine st_e (d := ((eL eI) (v_law_at (setI s101.1 person_156 (some place_184)) place_184))) hO (je_callO (ja_cons (x := .cel _) (je_var rfl) (ja_cons (x := eI place_184) (je_var rfl) ja_nil)) (fun C O Q E q => t_law_at_0C (setI s101.1 person_156 (some place_184)) place_184 (O.get (k := 0) rfl) q)) ?_
          let held_185 : List Int := (v_law_at (setI s101.1 person_156 (some place_184)) place_184)
          with_reducible refine v_ifI ?_
          have h := bd_ap h
          refine st_join h (fun (s195 : (List (Option Int)) × (List Int)) r' C' => ∃ (o9 : Option DL.D) (o10 : Option DL.D), r' = [some ((eT (eP2 eI (eT eI))) hall_1), some ((eL (eL eI)) ranks_2), some ((eL (eT eI)) lists_3), some (.cel n_found_4), some (.cel n_spots_5), some (.cel n_free_6), some (eI person_156), some (eI place_184), some ((eL eI) held_185), o9, o10] ∧ Own ⟨false, C0, [(n_found_4, s195.1.map (eO eI)), (n_spots_5, (setI s101.2.1 person_156 ((gi s101.2.1 person_156) + 1)).map eI), (n_free_6, s195.2.map eI)], []⟩ C') (fun Ks195 nx h hns195 => ?_) (fun s195 r' C hR h => ?_)
          · obtain ⟨p203, h⟩ := as_ap h
            with_reducible refine v_if ?_
            refine st_t hO (jt_test (je_op (je_cb (ja_cons (je_var rfl) ja_nil) (jf_len (e := eI) (xs := held_185) sv_L)) (je_op (je_op (je_var rfl) (je_var rfl) (j2_ix (e := (eP2 eI (eT eI))) (xs := hall_1) sv_T p203)) je_c (j2_ixP (d := eI ((gi hall_1 place_184).1)) rfl)) j2_gt)) (ite_b (fun hc186 => ?_) (fun hc186 => ?_))
            · have h := it_ap hc186 h
              with_reducible refine v_seq ?_
              with_reducible refine v_set ?_
              obtain ⟨p202, h⟩ := as_ap h
              refine st_e (d := (eI ((maxP (held_185.map (fun (one_196 : Int) => ((gi (gi ranks_2 place_184) one_196), one_196)))).2))) hO (je_op (je_cb (ja_cons (je_lc0 (e := eI) (f := (eP2 eI eI)) (ji_seq (ds := held_185.map eI) (je_var rfl) sv_L) (fun one_196 => jg_n) (fun (one_196 : Int) => ((gi (gi ranks_2 place_184) one_196), one_196)) (fun one_196 hx197 => (je_tupP (d := (eP2 eI eI) ((gi (gi ranks_2 place_184) one_196), one_196)) (ja_cons (x := eI (gi (gi ranks_2 place_184) one_196)) (je_op (je_op (je_var rfl) (je_var rfl) (j2_ix (e := (eL eI)) (xs := ranks_2) sv_L (p202.1 one_196 hx197).1)) (je_var rfl) (j2_ix (e := eI) (xs := (gi ranks_2 place_184)) sv_L (p202.1 one_196 hx197).2)) (ja_cons (x := eI one_196) (je_var rfl) ja_nil)) rfl))) ja_nil) (jf_maxAP (xs := (held_185.map (fun (one_196 : Int) => ((gi (gi ranks_2 place_184) one_196), one_196)))) lv_L p202.2)) je_c (j2_ixP (d := eI ((maxP (held_185.map (fun (one_196 : Int) => ((gi (gi ranks_2 place_184) one_196), one_196)))).2)) rfl)) ?_
              let last_199 : Int := (maxP (held_185.map (fun (one_196 : Int) => ((gi (gi ranks_2 place_184) one_196), one_196)))).2
              with_reducible refine v_seq ?_
              with_reducible refine v_asg ?_
              refine st_e (d := ((eO eI) (none : Option Int))) hO je_c ?_
              with_reducible refine v_gSb ?_
              refine v_var rfl ?_
              refine st_e (d := (eI last_199)) hO (je_var rfl) ?_
              obtain ⟨p201, h⟩ := as_ap h
              refine xm_set (e := (eO eI)) (xs := (setI s101.1 person_156 (some place_184))) (a := last_199) (v := (none : Option Int)) 0 hO rfl p201 (fun C hO => ?_)
              with_reducible refine v_drop ?_
              with_reducible refine v_ml ?_
              refine v_var rfl (opt_ok (lsD_at (hO.get (k := 2) rfl)) ?_)
              with_reducible refine v_cons ?_
              refine st_e (d := (eI last_199)) hO (je_var rfl) ?_
              with_reducible refine v_nil ?_
              obtain ⟨p200, h⟩ := as_ap h
              refine xm_app (e := eI) (xs := s101.2.2.dropLast) (v := last_199) 2 hO rfl p200 (fun C hO => ?_)
              exact hns195 ((setI (setI s101.1 person_156 (some place_184)) last_199 (none : Option Int)), (s101.2.2.dropLast ++ [last_199])) _ _ ⟨_, _, rfl, hO⟩ h
            · have h := if_ap hc186 h
              with_reducible refine v_next ?_
              exact hns195 ((setI s101.1 person_156 (some place_184)), s101.2.2.dropLast) _ _ ⟨_, _, rfl, hO⟩ h
          obtain ⟨o9, o10, rfl, hO⟩ := hR
          exact hns183 (s195.1, (setI s101.2.1 person_156 ((gi s101.2.1 person_156) + 1)), s195.2) _ _ ⟨_, _, _, _, rfl, hO⟩ h
        · have h := if_ap hc157 h
          with_reducible refine v_next ?_
          exact hns183 (s101.1, s101.2.1, s101.2.2.dropLast) _ _ ⟨_, _, _, _, rfl, hO⟩ h
      obtain ⟨o7, o8, o9, o10, rfl, hO⟩ := hR
      exact hns101 (s183.1, s183.2.1, s183.2.2) _ _ ⟨_, _, _, _, _, rfl, hO⟩ h
    · exact hD _ _ ⟨_, _, _, _, _, rfl, hO⟩ (hd (hw ▸ h))
  obtain ⟨o6, o7, o8, o9, o10, rfl, hO⟩ := hR
  exact hO.fin hlc rfl (fun C' u => hk (s101.1, s101.2.1, s101.2.2) C' u h)
theorem law_go_k {hs : Hal} {n : Int} {ls : Wis} {k : Nat} {fo : Dea} {at' fr : List Int} {K : Dea × List Int × List Int → Prop} {X : XP} (H : HOk hs n) (W : WOk hs n ls) (I : OffJ hs n ls k fo at' fr) (hk : ∀ k' fo' at'', OffJ hs n ls k' fo' at'' [] → K (fo', at'', [])) : p_law_go hs (v_law_ranks hs) ls fo at' fr K X := by
  have wl := W.len
  have h40 := H.n40
  unfold p_law_go
  refine bd_i ⟨fun k s => OffJ hs n ls k s.1 s.2.1 s.2.2, ⟨k, I⟩, ?_⟩
  rintro k ⟨fo, at', fr⟩ I
  dsimp only at I ⊢
  show (if (!decide (fr = [])) = true then _ else _)
  by_cases hn : fr = []
  · subst hn
    rw [if_neg (by simp)]
    exact hk k fo at' I
  · rw [if_pos (by simp [hn])]
    refine as_mk hn ?_
    have hdl := last_split hn
    generalize gi fr (-1) = x at hdl
    generalize hfd : fr.dropLast = fd at hdl
    subst hdl
    obtain ⟨⟨x0, x1⟩, ex⟩ := I.rng
    have fl := I.O.fl
    have al := I.O.al
    have lfd := I.fdl h40
    rw [List.length_append, List.length_singleton] at lfd
    obtain ⟨a0, a1⟩ := I.O.ab x x0 x1
    refine bd_i (as_mk ⟨inb_of x0 (by omega), inb_of x0 (by omega)⟩ (iteM (fun hc => ?_) (fun hc => ?_)))
    · have ha := of_decide_eq_true hc
      refine as_mk ⟨inb_of x0 (by omega), inb_of x0 (by omega), inb_of a0 ha⟩ ?_
      obtain ⟨⟨hpw, p0, p1⟩, xm, t1, t2⟩ := I.take H W ha rfl
      generalize gi (gi ls x) (gi at' x) = p at hpw p0 p1 xm t1 t2
      refine as_mk (inb_of x0 (by omega)) (as_mk (inb_of x0 (by omega)) (as_mk (inb_of x0 (by omega)) ?_))
      rw [law_at_eq]
      refine bd_i (as_mk (inb_of p0 p1) (iteM (fun hf => ?_) (fun hf => ?_)))
      · have hf := of_decide_eq_true hf
        have hf' : ¬ ((atD (setI fo x (some p)) p).length : Int) ≤ sea hs p := by
          show ¬ _ ≤ (gi hs p).1
          omega
        have hne := List.ne_nil_of_mem xm
        have sl : (setI fo x (some p)).length = fo.length := set_len
        have hr : ∀ y ∈ atD (setI fo x (some p)) p, 0 ≤ y ∧ y < n := fun y hy => by
          obtain ⟨y0, y1, _⟩ := mem_atD.mp hy
          omega
        have em : (atD (setI fo x (some p)) p).map (fun (one : Int) => ((gi (gi (v_law_ranks hs) p) one), one)) = (atD (setI fo x (some p)) p).map fun y => (rk hs p y, y) := List.map_congr_left fun y hy => by
          rw [law_ranks_gi H p0 p1 (hr y hy).1 (hr y hy).2]
        have lr : (v_law_ranks hs).length = hs.length := by rw [law_ranks_eq, List.length_map]
        have lg : ((gi (v_law_ranks hs) p).length : Int) = n := by
          rw [law_ranks_eq, gi_map (inb_of p0 p1), List.length_map, irange_len]
          have e := H.od_len p0 p1
          have e2 : (gi hs p).2.length = (odr hs p).length := rfl
          omega
        refine as_mk ⟨fun y hy => ⟨inb_of p0 (by rw [lr]; exact p1), inb_of (hr y hy).1 (by rw [lg]; exact (hr y hy).2)⟩, by simpa using hne⟩ ?_
        rw [em]
        obtain ⟨w2, w3⟩ := maxP_2 (f := fun y => rk hs p y) hne
        generalize (maxP ((atD (setI fo x (some p)) p).map fun y => (rk hs p y, y))).2 = z at w2 w3
        obtain ⟨⟨z0, z1⟩, t3⟩ := t2 z hf' w2 w3
        exact as_mk (inb_of z0 (by omega)) (as_mk (by omega) t3)
      · have hf := of_decide_eq_false hf
        exact t1 (by show _ ≤ (gi hs p).1; omega)
    · exact I.skip (by have := of_decide_eq_false hc; omega)


def p_law_cuts (hall_1 : List (Int × (List Int))) (ranks_2 : List (List Int)) (wishes_3 : List (List Int)) : M (List (List (Option Int))) :=
  M.bd (forS (irange 0 13) (((wishes_3.map (fun (one_101 : List Int) => (none : Option Int))), (wishes_3.map (fun (one_105 : List Int) => 0)), ([] : List (List (Option Int)))) : (List (Option Int)) × (List Int) × (List (List (Option Int)))) fun s110 mostv_127 =>
  M.bd (p_law_go hall_1 ranks_2 (wishes_3.map (fun (wished_139 : List Int) => (cut wished_139 none (some mostv_127)))) s110.1 s110.2.1 (((enumI s110.1).filter (fun (zv_129 : Int × (Option Int)) => zv_129.2.isNone)).map (fun (zv_129 : Int × (Option Int)) => zv_129.1))) fun v142 =>
  M.as (s110.2.2.length < 100000) <|
  M.rt (v142.1, v142.2.1, (s110.2.2 ++ [v142.1]))) fun s110 =>
  M.rt s110.2.2
theorem w_law_cuts {C0 : Cs} {Q : QD} {E : XQ} {K : (List (List (Option Int))) → Prop} {X : XP} (hall_1 : List (Int × (List Int))) (ranks_2 : List (List Int)) (wishes_3 : List (List Int)) (h : p_law_cuts hall_1 ranks_2 wishes_3 K X) (hk : ∀ (v : List (List (Option Int))) C', Up false [] C0 C' → K v → Q ((eL (eT (eO eI))) v) C') : sp_law_cuts [(eT (eP2 eI (eT eI))) hall_1, (eL (eL eI)) ranks_2, (eT (eT eI)) wishes_3] C0 Q E := by
  intro hlo hlc
  have hO : Own ⟨false, C0, [], []⟩ C0 := Own.start
  unfold rd_law_cuts
  unfold p_law_cuts at h
  with_reducible refine v_seq ?_
  with_reducible refine v_par3 ?_
  with_reducible refine v_cons ?_
  refine st_n (ds := (wishes_3.map (fun (one_101 : List Int) => (none : Option Int))).map (eO eI)) hO (jn_lc0 (e := (eT eI)) (f := (eO eI)) (ji_seq (ds := wishes_3.map (eT eI)) (je_var rfl) sv_T) (fun one_101 => jg_n) (fun (one_101 : List Int) => (none : Option Int)) (fun one_101 hx102 => je_c)) (fun n104 C hO => ?_)
  with_reducible refine v_cons ?_
  refine st_n (ds := (wishes_3.map (fun (one_105 : List Int) => 0)).map eI) hO (jn_lc0 (e := (eT eI)) (f := eI) (ji_seq (ds := wishes_3.map (eT eI)) (je_var rfl) sv_T) (fun one_105 => jg_n) (fun (one_105 : List Int) => 0) (fun one_105 hx106 => je_c)) (fun n108 C hO => ?_)
  with_reducible refine v_cons ?_
  refine st_n (ds := ([] : List (List (Option Int))).map (eT (eO eI))) hO (jn_lst (e := (eT (eO eI))) (xs := []) ja_m0) (fun n109 C hO => ?_)
  with_reducible refine v_nil ?_
  with_reducible refine v_seq ?_
  with_reducible refine v_forI ?_
  have h := bd_ap h
  refine st_forS hO (ji_r1 je_c ⟨by decide, by decide⟩) h (fun (s110 : (List (Option Int)) × (List Int) × (List (List (Option Int)))) r' C' => ∃ (o3 : Option DL.D) (o7 : Option DL.D) (o8 : Option DL.D) (o9 : Option DL.D) (o10 : Option DL.D) (o11 : Option DL.D), r' = [some ((eT (eP2 eI (eT eI))) hall_1), some ((eL (eL eI)) ranks_2), some ((eT (eT eI)) wishes_3), o3, some (.cel n104), some (.cel n108), some (.cel n109), o7, o8, o9, o10, o11] ∧ Own ⟨false, C0, [], [(n104, s110.1.map (eO eI)), (n108, s110.2.1.map eI), (n109, s110.2.2.map (eT (eO eI)))]⟩ C') ⟨_, _, _, _, _, _, rfl, hO⟩ (fun _ _ _ _ => trivial) (fun s110 mostv_127 hx128 r' C Ks110 nx bk hR h hns110 => ?_) (fun s110 r' C hR h => ?_)
  · obtain ⟨o3, o7, o8, o9, o10, o11, rfl, hO⟩ := hR
    refine st_g jg_n ?_
    with_reducible refine v_seq ?_
    with_reducible refine v_set ?_
    refine st_n (ds := (((enumI s110.1).filter (fun (zv_129 : Int × (Option Int)) => zv_129.2.isNone)).map (fun (zv_129 : Int × (Option Int)) => zv_129.1)).map eI) hO (jn_lc (e := (eP2 eI (eO eI))) (f := eI) (ji_enu (e := (eO eI)) (xs := s110.1) (je_var rfl) (sv_C 0 rfl)) (fun zv_129 => (jg_tup (jg_cons jg_n (jg_cons jg_n jg_nil)) rfl)) (fun (zv_129 : Int × (Option Int)) => zv_129.2.isNone) (fun (zv_129 : Int × (Option Int)) => zv_129.1) (fun zv_129 hx130 => (jt_test (je_op (je_var rfl) je_c (j2_isN (e := eI) (v := zv_129.2))))) (fun zv_129 hx130 hp131 => (je_var rfl))) (fun n132 C hO => ?_)
    with_reducible refine v_seq ?_
    with_reducible refine v_drop ?_
    with_reducible refine v_call ?_
    with_reducible refine v_cons ?_
    refine st_e (d := ((eT (eP2 eI (eT eI))) hall_1)) hO (je_var rfl) ?_
    with_reducible refine v_cons ?_
    refine st_e (d := ((eL (eL eI)) ranks_2)) hO (je_var rfl) ?_
    with_reducible refine v_cons ?_
    refine st_e (d := ((eL (eT eI)) (wishes_3.map (fun (wished_139 : List Int) => (cut wished_139 none (some mostv_127)))))) hO (je_lc0 (e := (eT eI)) (f := (eT eI)) (ji_seq (ds := wishes_3.map (eT eI)) (je_var rfl) sv_T) (fun wished_139 => jg_n) (fun (wished_139 : List Int) => (cut wished_139 none (some mostv_127))) (fun wished_139 hx140 => (je_slT (e := eI) (xs := wished_139) (je_var rfl) jo_no (jo_part (je_var rfl))))) ?_
    with_reducible refine v_cons ?_
    refine st_e (d := (.cel n104)) hO (je_var rfl) ?_
    with_reducible refine v_cons ?_
    refine st_e (d := (.cel n108)) hO (je_var rfl) ?_
    with_reducible refine v_cons ?_
    refine st_e (d := (.cel n132)) hO (je_var rfl) ?_
    with_reducible refine v_nil ?_
    refine w_law_go_2L hall_1 ranks_2 (wishes_3.map (fun (wished_139 : List Int) => (cut wished_139 none (some mostv_127)))) s110.1 s110.2.1 (((enumI s110.1).filter (fun (zv_129 : Int × (Option Int)) => zv_129.2.isNone)).map (fun (zv_129 : Int × (Option Int)) => zv_129.1)) (hO.get (k := 0) rfl) (hO.get (k := 1) rfl) (hO.get (k := 3) rfl) (nd_ne hO 0 1 rfl rfl) (nd_ne hO 0 3 rfl rfl) (nd_ne hO 1 3 rfl rfl) (bd_ap h) (fun v142 C u h => ?_)
    have hO := hO.up3 (k := 0) (j := 1) (i := 3) rfl rfl rfl u
    with_reducible refine v_drop ?_
    with_reducible refine v_ml ?_
    refine v_var rfl (opt_ok (lsD_at (hO.get (k := 2) rfl)) ?_)
    with_reducible refine v_cons ?_
    refine st_e (d := ((eT (eO eI)) v142.1)) hO (je_cb (ja_cons (je_var rfl) ja_nil) (jf_tuple (e := (eO eI)) (xs := v142.1) (sv_C 0 rfl))) ?_
    with_reducible refine v_nil ?_
    obtain ⟨p143, h⟩ := as_ap h
    refine xm_app (e := (eT (eO eI))) (xs := s110.2.2) (v := v142.1) 2 hO rfl p143 (fun C hO => ?_)
    exact hns110 (v142.1, v142.2.1, (s110.2.2 ++ [v142.1])) _ _ ⟨_, _, _, _, _, _, rfl, (hO.keep [0, 1, 2])⟩ h
  obtain ⟨o3, o7, o8, o9, o10, o11, rfl, hO⟩ := hR
  with_reducible refine v_ret ?_
  refine st_e (d := (.cel n109)) hO (je_var rfl) ?_
  exact hO.finL hlc (j := 2) rfl (fun C' u => hk _ C' u h)
theorem law_cuts_k {hs : Hal} {n : Int} {ws : Wis} {K : List Dea → Prop} {X : XP} (H : HOk hs n) (W : WOk hs n ws) (hk : ∀ row : List Dea, row.length = 13 → (∀ m : Int, 0 ≤ m → m < 13 → PBest hs n (cutW ws m) (gi row m)) → K row) : p_law_cuts hs (v_law_ranks hs) ws K X := by
  have wl := W.len
  unfold p_law_cuts
  refine bd_i (forS_ok (fun i s => s.2.2.length = i ∧ (∀ m : Int, 0 ≤ m → m < i → PBest hs n (cutW ws m) (gi s.2.2 m)) ∧ ∃ ls k fr, OffJ hs n ls k s.1 s.2.1 fr ∧ Agr n ls (cutW ws i) s.2.1) ?_ (fun i m s K2 hm hs' k2 => ?_) fun s hs' => ?_)
  · have W0 := cutW_ok W (m := 0) (by decide)
    obtain ⟨k, I⟩ := OffJ.start H W0
    have e : (cutW ws 0).length = ws.length := by unfold cutW; rw [List.length_map]
    rw [← repl_map, ← repl_map, e, repl_map, repl_map] at I
    exact ⟨rfl, fun m m0 m1 => by omega, _, k, _, I, agr_cut W (by decide) (by decide) fun x x0 x1 => (I.O.ab x x0 x1).2⟩
  · obtain ⟨fo, at', row⟩ := s
    obtain ⟨hl, hr, ls, k, fr, I, A⟩ := hs'
    dsimp only at hl hr I A ⊢
    have em : m = i := by
      have := irange_get hm
      omega
    have hi : i < 13 := by
      have := (List.getElem?_eq_some_iff.mp hm).1
      rw [irange_len] at this
      omega
    subst em
    have V := cutW_ok W (m := (i : Int)) (by omega)
    obtain ⟨k, J⟩ := I.goN V A
    rw [enum_none]
    refine bd_i (law_go_k H V J fun k' fo' at'' J' => ?_)
    refine as_mk (by show row.length < 100000; omega) (k2 _ ⟨by rw [List.length_append, hl]; rfl, fun m m0 m1 => ?_, _, k', _, J', agr_cut W (by omega) (by omega) fun x x0 x1 => (J'.O.ab x x0 x1).2⟩)
    by_cases hmi : m < i
    · have e : gi (row ++ [fo']) m = gi row m := by
        rw [gi_nat m0, gi_nat m0, List.getD_eq_getElem?_getD, List.getD_eq_getElem?_getD, List.getElem?_append_left (by omega)]
      rw [show gi (row ++ [(fo', at'', ([] : List Int)).1]) m = gi row m from e]
      exact hr m m0 hmi
    · have hmi : m = i := by omega
      subst hmi
      have e : gi (row ++ [fo']) (i : Int) = fo' := by
        rw [gi_nat (by omega), List.getD_eq_getElem?_getD, show ((i : Int)).toNat = row.length by omega, List.getElem?_append_right (Nat.le_refl _)]
        simp
      rw [show gi (row ++ [(fo', at'', ([] : List Int)).1]) (i : Int) = fo' from e]
      exact J'.toOffI.done V
  · obtain ⟨h1, h2, _⟩ := hs'
    have l13 : (irange 0 13).length = 13 := by rw [irange_len]; rfl
    rw [l13] at h1 h2
    exact hk _ h1 fun m m0 m1 => h2 m m0 (by omega)


def p_rank (hall_1 : List (Int × (List Int))) (place_2 : Int) (person_3 : Int) : M Int :=
  M.as ((inb hall_1.length place_2) ∧ (person_3 ∈ (gi hall_1 place_2).2)) <|
  M.rt ((((gi hall_1 place_2).2).idxOf person_3 : Nat) : Int)
def v_rank (hall_1 : List (Int × (List Int))) (place_2 : Int) (person_3 : Int) : Int :=
  ((((gi hall_1 place_2).2).idxOf person_3 : Nat) : Int)
def ok_rank (hall_1 : List (Int × (List Int))) (place_2 : Int) (person_3 : Int) : Prop :=
  ((inb hall_1.length place_2) ∧ (person_3 ∈ (gi hall_1 place_2).2))
theorem m_rank (hall_1 : List (Int × (List Int))) (place_2 : Int) (person_3 : Int) (hs : ok_rank hall_1 place_2 person_3) {K : Int → Prop} {X : XP} (hk : K (v_rank hall_1 place_2 person_3)) : p_rank hall_1 place_2 person_3 K X := by
  unfold p_rank
  unfold ok_rank at hs
  unfold v_rank at hk
  refine as_mk hs ?_
  exact hk
theorem w_rank {C0 : Cs} {Q : QD} {E : XQ} {K : Int → Prop} {X : XP} (hall_1 : List (Int × (List Int))) (place_2 : Int) (person_3 : Int) (h : p_rank hall_1 place_2 person_3 K X) (hk : ∀ (v : Int) C', Up false [] C0 C' → K v → Q (eI v) C') : sp_rank [(eT (eP2 eI (eT eI))) hall_1, eI place_2, eI person_3] C0 Q E := by
  intro hlo hlc
  have hO : Own ⟨false, C0, [], []⟩ C0 := Own.start
  unfold rd_rank
  unfold p_rank at h
  with_reducible refine v_ret ?_
  obtain ⟨p101, h⟩ := as_ap h
  refine st_e (d := (eI ((((gi hall_1 place_2).2).idxOf person_3 : Nat) : Int))) hO (je_mt (je_op (je_op (je_var rfl) (je_var rfl) (j2_ix (e := (eP2 eI (eT eI))) (xs := hall_1) sv_T p101.1)) je_c (j2_ixP (d := (eT eI) ((gi hall_1 place_2).2)) rfl)) rfl (ja_cons (x := eI person_3) (je_var rfl) ja_nil) (jm_idxT p101.2)) ?_
  exact hO.fin hlc (Cln.cl (e := eI) _ _) (fun C' u => hk _ C' u h)
theorem t_rank {C0 : Cs} {Q : QD} {E : XQ} (hall_1 : List (Int × (List Int))) (place_2 : Int) (person_3 : Int) (hs : ok_rank hall_1 place_2 person_3) (q : Q (eI (v_rank hall_1 place_2 person_3)) C0) : sp_rank [(eT (eP2 eI (eT eI))) hall_1, eI place_2, eI person_3] C0 Q E :=
  w_rank (X := fun _ _ => False) (K := fun v => v = v_rank hall_1 place_2 person_3) hall_1 place_2 person_3 (m_rank hall_1 place_2 person_3 hs rfl) fun v C' u hv => by
    rw [up_eq0 u, hv]
    exact q
theorem rank_eq (hs : Hal) (p x : Int) : v_rank hs p x = rk hs p x := rfl
theorem ok_rank_of {hs : Hal} {n p x : Int} (H : HOk hs n) (p0 : 0 ≤ p) (p1 : p < hs.length) (x0 : 0 ≤ x) (x1 : x < n) : ok_rank hs p x := ⟨inb_of p0 p1, (H.in_od p0 p1).mpr ⟨x0, x1⟩⟩


def p_last_of (hall_1 : List (Int × (List Int))) (place_2 : Int) (people_3 : List Int) : M Int :=
  M.as ((∀ person_104, person_104 ∈ people_3 → (ok_rank hall_1 place_2 person_104)) ∧ ((people_3.map (fun (person_104 : Int) => ((v_rank hall_1 place_2 person_104), person_104))) ≠ [])) <|
  M.rt ((maxP (people_3.map (fun (person_104 : Int) => ((v_rank hall_1 place_2 person_104), person_104)))).2)
def v_last_of (hall_1 : List (Int × (List Int))) (place_2 : Int) (people_3 : List Int) : Int :=
  (maxP (people_3.map (fun (person_101 : Int) => ((v_rank hall_1 place_2 person_101), person_101)))).2
def ok_last_of (hall_1 : List (Int × (List Int))) (place_2 : Int) (people_3 : List Int) : Prop :=
  ((∀ person_101, person_101 ∈ people_3 → (ok_rank hall_1 place_2 person_101)) ∧ ((people_3.map (fun (person_101 : Int) => ((v_rank hall_1 place_2 person_101), person_101))) ≠ []))
theorem m_last_of (hall_1 : List (Int × (List Int))) (place_2 : Int) (people_3 : List Int) (hs : ok_last_of hall_1 place_2 people_3) {K : Int → Prop} {X : XP} (hk : K (v_last_of hall_1 place_2 people_3)) : p_last_of hall_1 place_2 people_3 K X := by
  unfold p_last_of
  unfold ok_last_of at hs
  unfold v_last_of at hk
  refine as_mk hs ?_
  exact hk
theorem w_last_of_2L {C0 : Cs} {Q : QD} {E : XQ} {K : Int → Prop} {X : XP} (hall_1 : List (Int × (List Int))) (place_2 : Int) (people_3 : List Int) (h : p_last_of hall_1 place_2 people_3 K X) (hk : ∀ (v : Int) C', Up false [] C0 C' → K v → Q (eI v) C') : sp_last_of [(eT (eP2 eI (eT eI))) hall_1, eI place_2, (eL eI) people_3] C0 Q E := by
  intro hlo hlc
  have hO : Own ⟨false, C0, [], []⟩ C0 := Own.start
  unfold rd_last_of
  unfold p_last_of at h
  with_reducible refine v_ret ?_
  obtain ⟨p107, h⟩ := as_ap h
  refine st_e (d := (eI ((maxP (people_3.map (fun (person_104 : Int) => ((v_rank hall_1 place_2 person_104), person_104)))).2))) hO (je_op (je_cb (ja_cons (je_lc0 (e := eI) (f := (eP2 eI eI)) (ji_seq (ds := people_3.map eI) (je_var rfl) sv_L) (fun person_104 => jg_n) (fun (person_104 : Int) => ((v_rank hall_1 place_2 person_104), person_104)) (fun person_104 hx105 => (je_tupP (d := (eP2 eI eI) ((v_rank hall_1 place_2 person_104), person_104)) (ja_cons (x := eI (v_rank hall_1 place_2 person_104)) (je_callO (ja_cons (x := (eT (eP2 eI (eT eI))) hall_1) (je_var rfl) (ja_cons (x := eI place_2) (je_var rfl) (ja_cons (x := eI person_104) (je_var rfl) ja_nil))) (fun C O Q E q => t_rank hall_1 place_2 person_104 (p107.1 person_104 hx105) q)) (ja_cons (x := eI person_104) (je_var rfl) ja_nil)) rfl))) ja_nil) (jf_maxAP (xs := (people_3.map (fun (person_104 : Int) => ((v_rank hall_1 place_2 person_104), person_104)))) lv_L p107.2)) je_c (j2_ixP (d := eI ((maxP (people_3.map (fun (person_104 : Int) => ((v_rank hall_1 place_2 person_104), person_104)))).2)) rfl)) ?_
  exact hO.fin hlc (Cln.cl (e := eI) _ _) (fun C' u => hk _ C' u h)
theorem t_last_of_2L {C0 : Cs} {Q : QD} {E : XQ} (hall_1 : List (Int × (List Int))) (place_2 : Int) (people_3 : List Int) (hs : ok_last_of hall_1 place_2 people_3) (q : Q (eI (v_last_of hall_1 place_2 people_3)) C0) : sp_last_of [(eT (eP2 eI (eT eI))) hall_1, eI place_2, (eL eI) people_3] C0 Q E :=
  w_last_of_2L (X := fun _ _ => False) (K := fun v => v = v_last_of hall_1 place_2 people_3) hall_1 place_2 people_3 (m_last_of hall_1 place_2 people_3 hs rfl) fun v C' u hv => by
    rw [up_eq0 u, hv]
    exact q
theorem last_of_ok {hs : Hal} {p : Int} {xs : List Int} (h : xs ≠ []) : v_last_of hs p xs ∈ xs ∧ ∀ y ∈ xs, rk hs p y ≤ rk hs p (v_last_of hs p xs) := maxP_2 (f := fun x => rk hs p x) h
theorem ok_last_of_of {hs : Hal} {n p : Int} {dl : Dea} (H : HOk hs n) (hl : (dl.length : Int) = n) (p0 : 0 ≤ p) (p1 : p < hs.length) {xs : List Int} (h : xs ≠ []) (hx : ∀ x ∈ xs, 0 ≤ x ∧ x < n) : ok_last_of hs p xs := ⟨fun x h => ok_rank_of H p0 p1 (hx x h).1 (hx x h).2, by simpa using h⟩


def p_people_best (hall_1 : List (Int × (List Int))) (wishes_2 : List (List Int)) : M (List (Option Int)) :=
  M.as ((0 ≤ (wishes_2.length : Int)) ∧ ((wishes_2.length : Int) ≤ 100000)) <|
  M.as ((0 ≤ (wishes_2.length : Int)) ∧ ((wishes_2.length : Int) ≤ 100000)) <|
  M.as (rgOk 0 (wishes_2.length : Int)) <|
  M.bd (whileS (((irange 0 (wishes_2.length : Int)), (List.replicate (wishes_2.length : Int).toNat (none : Option Int)), (List.replicate (wishes_2.length : Int).toNat 0)) : (List Int) × (List (Option Int)) × (List Int)) (fun s104 => M.rt (!decide (s104.1 = ([] : List Int)))) fun s104 =>
  M.as (s104.1 ≠ []) <|
  let person_129 : Int := (gi s104.1 (-1))
  M.as ((inb s104.2.2.length person_129) ∧ (inb wishes_2.length person_129)) <|
  if decide ((gi s104.2.2 person_129) = ((gi wishes_2 person_129).length : Int)) = true then
  M.rt (s104.1.dropLast, s104.2.1, s104.2.2)
  else
  M.as ((inb wishes_2.length person_129) ∧ (inb s104.2.2.length person_129) ∧ (inb (gi wishes_2 person_129).length (gi s104.2.2 person_129))) <|
  let place_131 : Int := (gi (gi wishes_2 person_129) (gi s104.2.2 person_129))
  M.as (inb s104.2.2.length person_129) <|
  M.as (inb s104.2.1.length person_129) <|
  let held_135 : List Int := (((enumI (setI s104.2.1 person_129 (some place_131))).filter (fun (zv_132 : Int × (Option Int)) => decide (zv_132.2 = (some place_131)))).map (fun (zv_132 : Int × (Option Int)) => zv_132.1))
  M.bd (M.as (inb hall_1.length place_131) <|
  if decide ((gi hall_1 place_131).1 < (held_135.length : Int)) = true then
  M.as (ok_last_of hall_1 place_131 held_135) <|
  let last_143 : Int := (v_last_of hall_1 place_131 held_135)
  M.as (inb (setI s104.2.1 person_129 (some place_131)).length last_143) <|
  M.as (s104.1.dropLast.length < 100000) <|
  M.rt ((s104.1.dropLast ++ [last_143]), (setI (setI s104.2.1 person_129 (some place_131)) last_143 (none : Option Int)))
  else
  M.rt (s104.1.dropLast, (setI s104.2.1 person_129 (some place_131))) : M ((List Int) × (List (Option Int)))) fun s142 =>
  M.rt (s142.1, s142.2, (setI s104.2.2 person_129 (gi s104.2.2 person_129 + 1)))) fun s104 =>
  M.rt s104.2.1
theorem w_people_best {C0 : Cs} {Q : QD} {E : XQ} {K : (List (Option Int)) → Prop} {X : XP} (hall_1 : List (Int × (List Int))) (wishes_2 : List (List Int)) (h : p_people_best hall_1 wishes_2 K X) (hk : ∀ (v : List (Option Int)) C', Up false [] C0 C' → K v → Q ((eT (eO eI)) v) C') : sp_people_best [(eT (eP2 eI (eT eI))) hall_1, (eT (eT eI)) wishes_2] C0 Q E := by
  intro hlo hlc
  have hO : Own ⟨false, C0, [], []⟩ C0 := Own.start
  unfold rd_people_best
  unfold p_people_best at h
  with_reducible refine v_seq ?_
  with_reducible refine v_par ?_
  with_reducible refine v_cons ?_
  obtain ⟨p155, h⟩ := as_ap h
  refine st_n (ds := (List.replicate (wishes_2.length : Int).toNat (none : Option Int)).map (eO eI)) hO (jn_rep1 (e := (eO eI)) (v := (none : Option Int)) (je_lstL (e := (eO eI)) (xs := [(none : Option Int)]) (ja_m1 (u := (none : Option Int)) je_c ja_m0)) (je_cb (ja_cons (je_var rfl) ja_nil) (jf_len (e := (eT eI)) (xs := wishes_2) sv_T)) p155.1 p155.2) (fun n101 C hO => ?_)
  with_reducible refine v_cons ?_
  obtain ⟨p154, h⟩ := as_ap h
  refine st_n (ds := (List.replicate (wishes_2.length : Int).toNat 0).map eI) hO (jn_rep1 (e := eI) (v := 0) (je_lstL (e := eI) (xs := [0]) (ja_m1 (u := 0) je_c ja_m0)) (je_cb (ja_cons (je_var rfl) ja_nil) (jf_len (e := (eT eI)) (xs := wishes_2) sv_T)) p154.1 p154.2) (fun n102 C hO => ?_)
  with_reducible refine v_nil ?_
  with_reducible refine v_seq ?_
  with_reducible refine v_set ?_
  obtain ⟨p153, h⟩ := as_ap h
  refine st_n (ds := (irange 0 (wishes_2.length : Int)).map eI) hO (jn_range (jr_1 (je_cb (ja_cons (je_var rfl) ja_nil) (jf_len (e := (eT eI)) (xs := wishes_2) sv_T))) p153) (fun n103 C hO => ?_)
  with_reducible refine v_seq ?_
  with_reducible refine v_whileI ?_
  have h := bd_ap h
  refine st_whileS h (fun (s104 : (List Int) × (List (Option Int)) × (List Int)) r' C' => ∃ (o5 : Option DL.D) (o6 : Option DL.D) (o7 : Option DL.D) (o8 : Option DL.D) (o9 : Option DL.D) (o10 : Option DL.D), r' = [some ((eT (eP2 eI (eT eI))) hall_1), some ((eT (eT eI)) wishes_2), some (.cel n103), some (.cel n101), some (.cel n102), o5, o6, o7, o8, o9, o10] ∧ Own ⟨false, C0, [], [(n101, s104.2.1.map (eO eI)), (n102, s104.2.2.map eI), (n103, s104.1.map eI)]⟩ C') ⟨_, _, _, _, _, _, rfl, hO⟩ (fun s104 r' C K1 Ks104 nx bk hR h hg hd hns104 hD => ?_) (fun s104 r' C hR h => ?_)
  · obtain ⟨o5, o6, o7, o8, o9, o10, rfl, hO⟩ := hR
    have h := rt_ap h
    refine st_t hO (jt_test (je_op (je_var rfl) (je_lstL (e := eI) (xs := []) ja_m0) (j2_neC (e := eI) (us := s104.1) (vs := ([] : List Int)) 2 rfl))) (ite_b (fun hw => ?_) (fun hw => ?_))
    · have h := hg (hw ▸ h)
      with_reducible refine v_seq ?_
      with_reducible refine v_set ?_
      with_reducible refine v_ml0 ?_
      refine v_var rfl (opt_ok (lsD_at (hO.get (k := 2) rfl)) ?_)
      obtain ⟨p152, h⟩ := as_ap h
      refine xm_pop (e := eI) (xs := s104.1) 2 hO rfl p152 (fun C hO => ?_)
      let person_129 : Int := (gi s104.1 (-1))
      with_reducible refine v_seq ?_
      obtain ⟨p151, h⟩ := as_ap h
      with_reducible refine v_if ?_
      refine st_t hO (jt_test (je_op (je_op (je_var rfl) (je_var rfl) (j2_ix (e := eI) (xs := s104.2.2) (sv_C 1 rfl) p151.1)) (je_cb (ja_cons (je_op (je_var rfl) (je_var rfl) (j2_ix (e := (eT eI)) (xs := wishes_2) sv_T p151.2)) ja_nil) (jf_len (e := eI) (xs := (gi wishes_2 person_129)) sv_T)) (j2_eq (e := eI) (u := (gi s104.2.2 person_129)) (v := ((gi wishes_2 person_129).length : Int))))) (ite_b (fun hc130 => ?_) (fun hc130 => ?_))
      · have h := it_ap hc130 h
        with_reducible refine v_cnt ?_
        exact hns104 (s104.1.dropLast, s104.2.1, s104.2.2) _ _ ⟨_, _, _, _, _, _, rfl, hO⟩ h
      · have h := if_ap hc130 h
        with_reducible refine v_next ?_
        with_reducible refine v_seq ?_
        with_reducible refine v_set ?_
        obtain ⟨p150, h⟩ := as_ap h
        refine st_e (d := (eI (gi (gi wishes_2 person_129) (gi s104.2.2 person_129)))) hO (je_op (je_op (je_var rfl) (je_var rfl) (j2_ix (e := (eT eI)) (xs := wishes_2) sv_T p150.1)) (je_op (je_var rfl) (je_var rfl) (j2_ix (e := eI) (xs := s104.2.2) (sv_C 1 rfl) p150.2.1)) (j2_ix (e := eI) (xs := (gi wishes_2 person_129)) sv_T p150.2.2)) ?_
        let place_131 : Int := (gi (gi wishes_2 person_129) (gi s104.2.2 person_129))
        with_reducible refine v_seq ?_
        with_reducible refine v_augSb ?_
        refine v_var rfl ?_
        refine st_e (d := (eI person_129)) hO (je_var rfl) ?_
        obtain ⟨p149, h⟩ := as_ap h
        refine xm_augGet (e := eI) (xs := s104.2.2) (a := person_129) 1 hO rfl p149 ?_
        refine st_e (d := (eI 1)) hO je_c ?_
        refine xm_set (e := eI) (xs := s104.2.2) (a := person_129) (v := (gi s104.2.2 person_129 + 1)) 1 hO rfl p149 (fun C hO => ?_)
        with_reducible refine v_seq ?_
        with_reducible refine v_asg ?_
        refine st_e (d := ((eO eI) (some place_131))) hO (je_var rfl) ?_
        with_reducible refine v_gSb ?_
        refine v_var rfl ?_
        refine st_e (d := (eI person_129)) hO (je_var rfl) ?_
        obtain ⟨p148, h⟩ := as_ap h
        refine xm_set (e := (eO eI)) (xs := s104.2.1) (a := person_129) (v := (some place_131)) 0 hO rfl p148 (fun C hO => ?_)
        with_reducible refine v_seq ?_
        with_reducible refine v_set ?_
        refine st_e (d := ((eL eI) (((enumI (setI s104.2.1 person_129 (some place_131))).filter (fun (zv_132 : Int × (Option Int)) => decide (zv_132.2 = (some place_131)))).map (fun (zv_132 : Int × (Option Int)) => zv_132.1)))) hO (je_lc (e := (eP2 eI (eO eI))) (f := eI) (ji_enu (e := (eO eI)) (xs := (setI s104.2.1 person_129 (some place_131))) (je_var rfl) (sv_C 0 rfl)) (fun zv_132 => (jg_tup (jg_cons jg_n (jg_cons jg_n jg_nil)) rfl)) (fun (zv_132 : Int × (Option Int)) => decide (zv_132.2 = (some place_131))) (fun (zv_132 : Int × (Option Int)) => zv_132.1) (fun zv_132 hx133 => (jt_test (je_op (je_var rfl) (je_var rfl) (j2_eq (e := (eO eI)) (u := zv_132.2) (v := (some place_131)))))) (fun zv_132 hx133 hp134 => (je_var rfl))) ?_
        let held_135 : List Int := (((enumI (setI s104.2.1 person_129 (some place_131))).filter (fun (zv_132 : Int × (Option Int)) => decide (zv_132.2 = (some place_131)))).map (fun (zv_132 : Int × (Option Int)) => zv_132.1))
        with_reducible refine v_ifI ?_
        have h := bd_ap h
        refine st_join h (fun (s142 : (List Int) × (List (Option Int))) r' C' => ∃ (o8 : Option DL.D) (o9 : Option DL.D) (o10 : Option DL.D), r' = [some ((eT (eP2 eI (eT eI))) hall_1), some ((eT (eT eI)) wishes_2), some (.cel n103), some (.cel n101), some (.cel n102), some (eI person_129), some (eI place_131), some ((eL eI) held_135), o8, o9, o10] ∧ Own ⟨false, C0, [], [(n101, s142.2.map (eO eI)), (n102, (setI s104.2.2 person_129 (gi s104.2.2 person_129 + 1)).map eI), (n103, s142.1.map eI)]⟩ C') (fun Ks142 nx h hns142 => ?_) (fun s142 r' C hR h => ?_)
        · obtain ⟨p147, h⟩ := as_ap h
          with_reducible refine v_if ?_
          refine st_t hO (jt_test (je_op (je_cb (ja_cons (je_var rfl) ja_nil) (jf_len (e := eI) (xs := held_135) sv_L)) (je_op (je_op (je_var rfl) (je_var rfl) (j2_ix (e := (eP2 eI (eT eI))) (xs := hall_1) sv_T p147)) je_c (j2_ixP (d := eI ((gi hall_1 place_131).1)) rfl)) j2_gt)) (ite_b (fun hc136 => ?_) (fun hc136 => ?_))
          · have h := it_ap hc136 h
            with_reducible refine v_seq ?_
            with_reducible refine v_set ?_
            obtain ⟨p146, h⟩ := as_ap h
            refine st_e (d := (eI (v_last_of hall_1 place_131 held_135))) hO (je_callO (ja_cons (x := (eT (eP2 eI (eT eI))) hall_1) (je_var rfl) (ja_cons (x := eI place_131) (je_var rfl) (ja_cons (x := (eL eI) held_135) (je_var rfl) ja_nil))) (fun C O Q E q => t_last_of_2L hall_1 place_131 held_135 p146 q)) ?_
            let last_143 : Int := (v_last_of hall_1 place_131 held_135)
            with_reducible refine v_seq ?_
            with_reducible refine v_asg ?_
            refine st_e (d := ((eO eI) (none : Option Int))) hO je_c ?_
            with_reducible refine v_gSb ?_
            refine v_var rfl ?_
            refine st_e (d := (eI last_143)) hO (je_var rfl) ?_
            obtain ⟨p145, h⟩ := as_ap h
            refine xm_set (e := (eO eI)) (xs := (setI s104.2.1 person_129 (some place_131))) (a := last_143) (v := (none : Option Int)) 0 hO rfl p145 (fun C hO => ?_)
            with_reducible refine v_drop ?_
            with_reducible refine v_ml ?_
            refine v_var rfl (opt_ok (lsD_at (hO.get (k := 2) rfl)) ?_)
            with_reducible refine v_cons ?_
            refine st_e (d := (eI last_143)) hO (je_var rfl) ?_
            with_reducible refine v_nil ?_
            obtain ⟨p144, h⟩ := as_ap h
            refine xm_app (e := eI) (xs := s104.1.dropLast) (v := last_143) 2 hO rfl p144 (fun C hO => ?_)
            exact hns142 ((s104.1.dropLast ++ [last_143]), (setI (setI s104.2.1 person_129 (some place_131)) last_143 (none : Option Int))) _ _ ⟨_, _, _, rfl, hO⟩ h
          · have h := if_ap hc136 h
            with_reducible refine v_next ?_
            exact hns142 (s104.1.dropLast, (setI s104.2.1 person_129 (some place_131))) _ _ ⟨_, _, _, rfl, hO⟩ h
        obtain ⟨o8, o9, o10, rfl, hO⟩ := hR
        exact hns104 (s142.1, s142.2, (setI s104.2.2 person_129 (gi s104.2.2 person_129 + 1))) _ _ ⟨_, _, _, _, _, _, rfl, hO⟩ h
    · exact hD _ _ ⟨_, _, _, _, _, _, rfl, hO⟩ (hd (hw ▸ h))
  obtain ⟨o5, o6, o7, o8, o9, o10, rfl, hO⟩ := hR
  with_reducible refine v_ret ?_
  refine st_e (d := ((eT (eO eI)) s104.2.1)) hO (je_cb (ja_cons (je_var rfl) ja_nil) (jf_tuple (e := (eO eI)) (xs := s104.2.1) (sv_C 0 rfl))) ?_
  exact hO.fin hlc (Cln.cl (e := (eT (eO eI))) _ _) (fun C' u => hk _ C' u h)
theorem people_best_k {hs : Hal} {n : Int} {ws : Wis} {K : Dea → Prop} {X : XP} (H : HOk hs n) (W : WOk hs n ws) (hk : ∀ dl, PBest hs n ws dl → K dl) : p_people_best hs ws K X := by
  have wl := W.len
  have h40 := H.n40
  unfold p_people_best
  rw [show (ws.length : Int).toNat = ws.length from Int.toNat_natCast _, repl_map, repl_map]
  refine as_mk ⟨by omega, by omega⟩ (as_mk ⟨by omega, by omega⟩ (as_mk (by unfold rgOk; omega) (bd_i ⟨fun k s => OffI hs n ws k s.2.1 s.2.2 s.1, OffI.start H W, ?_⟩)))
  rintro k ⟨fr, fo, at'⟩ I
  dsimp only at I ⊢
  show (if (!decide (fr = [])) = true then _ else _)
  by_cases hn : fr = []
  · subst hn
    rw [if_neg (by simp)]
    exact hk fo (I.done W)
  · rw [if_pos (by simp [hn])]
    refine as_mk hn ?_
    have hdl := last_split hn
    generalize gi fr (-1) = x at hdl
    generalize hfd : fr.dropLast = fd at hdl
    subst hdl
    obtain ⟨⟨x0, x1⟩, ex⟩ := I.rng
    have fl := I.O.fl
    have al := I.O.al
    have lfd := I.fdl h40
    rw [List.length_append, List.length_singleton] at lfd
    obtain ⟨a0, a1⟩ := I.O.ab x x0 x1
    refine as_mk ⟨inb_of x0 (by omega), inb_of x0 (by omega)⟩ (iteM (fun hc => ?_) (fun hc => ?_))
    · exact I.skip (of_decide_eq_true hc)
    · have ha := of_decide_eq_false hc
      have ha : gi at' x < (gi ws x).length := by omega
      refine as_mk ⟨inb_of x0 (by omega), inb_of x0 (by omega), inb_of a0 ha⟩ ?_
      obtain ⟨⟨hpw, p0, p1⟩, xm, t1, t2⟩ := I.take H W ha rfl
      generalize gi (gi ws x) (gi at' x) = p at hpw p0 p1 xm t1 t2
      refine as_mk (inb_of x0 (by omega)) (as_mk (inb_of x0 (by omega)) ?_)
      rw [enum_at]
      refine bd_i (as_mk (inb_of p0 p1) (iteM (fun hf => ?_) (fun hf => ?_)))
      · have hf := of_decide_eq_true hf
        have hf' : ¬ ((atD (setI fo x (some p)) p).length : Int) ≤ sea hs p := by
          show ¬ _ ≤ (gi hs p).1
          omega
        have hne := List.ne_nil_of_mem xm
        have sl : (setI fo x (some p)).length = fo.length := set_len
        refine as_mk (ok_last_of_of (dl := fo) H fl p0 p1 hne fun y hy => ?_) ?_
        · obtain ⟨y0, y1, _⟩ := mem_atD.mp hy
          omega
        obtain ⟨w2, w3⟩ := last_of_ok (hs := hs) (p := p) hne
        generalize v_last_of hs p (atD (setI fo x (some p)) p) = z at w2 w3
        obtain ⟨⟨z0, z1⟩, t3⟩ := t2 z hf' w2 w3
        exact as_mk (inb_of z0 (by omega)) (as_mk (by omega) t3)
      · have hf := of_decide_eq_false hf
        exact t1 (by show _ ≤ (gi hs p).1; omega)


def p_cut_short (wishes_1 : List (List Int)) (mostv_2 : Int) : M (List (List Int)) :=
  M.rt (wishes_1.map (fun (wished_104 : List Int) => (cut wished_104 none (some mostv_2))))
def v_cut_short (wishes_1 : List (List Int)) (mostv_2 : Int) : (List (List Int)) :=
  (wishes_1.map (fun (wished_101 : List Int) => (cut wished_101 none (some mostv_2))))
theorem m_cut_short (wishes_1 : List (List Int)) (mostv_2 : Int) {K : (List (List Int)) → Prop} {X : XP} (hk : K (v_cut_short wishes_1 mostv_2)) : p_cut_short wishes_1 mostv_2 K X := by
  unfold p_cut_short
  unfold v_cut_short at hk
  exact hk
theorem w_cut_short {C0 : Cs} {Q : QD} {E : XQ} {K : (List (List Int)) → Prop} {X : XP} (wishes_1 : List (List Int)) (mostv_2 : Int) (h : p_cut_short wishes_1 mostv_2 K X) (hk : ∀ (v : List (List Int)) C', Up false [] C0 C' → K v → Q ((eT (eT eI)) v) C') : sp_cut_short [(eT (eT eI)) wishes_1, eI mostv_2] C0 Q E := by
  intro hlo hlc
  have hO : Own ⟨false, C0, [], []⟩ C0 := Own.start
  unfold rd_cut_short
  unfold p_cut_short at h
  with_reducible refine v_ret ?_
  refine st_e (d := ((eT (eT eI)) (wishes_1.map (fun (wished_104 : List Int) => (cut wished_104 none (some mostv_2)))))) hO (je_cb (ja_cons (je_lc0 (e := (eT eI)) (f := (eT eI)) (ji_seq (ds := wishes_1.map (eT eI)) (je_var rfl) sv_T) (fun wished_104 => jg_n) (fun (wished_104 : List Int) => (cut wished_104 none (some mostv_2))) (fun wished_104 hx105 => (je_slT (e := eI) (xs := wished_104) (je_var rfl) jo_no (jo_part (je_var rfl))))) ja_nil) (jf_tuple (e := (eT eI)) (xs := (wishes_1.map (fun (wished_104 : List Int) => (cut wished_104 none (some mostv_2))))) sv_L)) ?_
  exact hO.fin hlc (Cln.cl (e := (eT (eT eI))) _ _) (fun C' u => hk _ C' u h)
theorem t_cut_short {C0 : Cs} {Q : QD} {E : XQ} (wishes_1 : List (List Int)) (mostv_2 : Int) (q : Q ((eT (eT eI)) (v_cut_short wishes_1 mostv_2)) C0) : sp_cut_short [(eT (eT eI)) wishes_1, eI mostv_2] C0 Q E :=
  w_cut_short (X := fun _ _ => False) (K := fun v => v = v_cut_short wishes_1 mostv_2) wishes_1 mostv_2 (m_cut_short wishes_1 mostv_2 rfl) fun v C' u hv => by
    rw [up_eq0 u, hv]
    exact q

def p_names_enough (hall_1 : List (Int × (List Int))) (wishes_2 : List (List Int)) : M Int :=
  M.bd (p_people_best hall_1 wishes_2) fun v101 =>
  M.bd (whileS (0 : Int) (fun s102 => M.bd (p_people_best hall_1 (v_cut_short wishes_2 s102)) fun v104 =>
  M.rt ((!decide (v104 = v101)))) fun s102 =>
  let mostv_105 : Int := (s102 + 1)
  M.rt mostv_105) fun s102 =>
  M.rt s102
theorem w_names_enough {C0 : Cs} {Q : QD} {E : XQ} {K : Int → Prop} {X : XP} (hall_1 : List (Int × (List Int))) (wishes_2 : List (List Int)) (h : p_names_enough hall_1 wishes_2 K X) (hk : ∀ (v : Int) C', Up false [] C0 C' → K v → Q (eI v) C') : sp_names_enough [(eT (eP2 eI (eT eI))) hall_1, (eT (eT eI)) wishes_2] C0 Q E := by
  intro hlo hlc
  have hO : Own ⟨false, C0, [], []⟩ C0 := Own.start
  unfold rd_names_enough
  unfold p_names_enough at h
  with_reducible refine v_seq ?_
  with_reducible refine v_set ?_
  with_reducible refine v_call ?_
  with_reducible refine v_cons ?_
  refine st_e (d := ((eT (eP2 eI (eT eI))) hall_1)) hO (je_var rfl) ?_
  with_reducible refine v_cons ?_
  refine st_e (d := ((eT (eT eI)) wishes_2)) hO (je_var rfl) ?_
  with_reducible refine v_nil ?_
  refine w_people_best hall_1 wishes_2 (bd_ap h) (fun v101 C u h => ?_)
  have hO := hO.up0 u
  with_reducible refine v_seq ?_
  with_reducible refine v_set ?_
  refine st_e (d := (eI 0)) hO je_c ?_
  with_reducible refine v_seq ?_
  with_reducible refine v_whileI ?_
  have h := bd_ap h
  refine st_whileS h (fun (s102 : Int) r' C' => r' = [some ((eT (eP2 eI (eT eI))) hall_1), some ((eT (eT eI)) wishes_2), some ((eT (eO eI)) v101), some (eI s102)] ∧ Own ⟨false, C0, [], []⟩ C') ⟨rfl, hO⟩ (fun s102 r' C K1 Ks102 nx bk hR h hg hd hns102 hD => ?_) (fun s102 r' C hR h => ?_)
  · obtain ⟨rfl, hO⟩ := hR
    with_reducible refine v_test ?_
    with_reducible refine v_op ?_
    with_reducible refine v_call ?_
    with_reducible refine v_cons ?_
    refine st_e (d := ((eT (eP2 eI (eT eI))) hall_1)) hO (je_var rfl) ?_
    with_reducible refine v_cons ?_
    refine st_e (d := ((eT (eT eI)) (v_cut_short wishes_2 s102))) hO (je_callO (ja_cons (x := (eT (eT eI)) wishes_2) (je_var rfl) (ja_cons (x := eI s102) (je_var rfl) ja_nil)) (fun C O Q E q => t_cut_short wishes_2 s102 q)) ?_
    with_reducible refine v_nil ?_
    refine w_people_best hall_1 (v_cut_short wishes_2 s102) (bd_ap h) (fun v104 C u h => ?_)
    have hO := hO.up0 u
    refine st_e (d := ((eT (eO eI)) v101)) hO (je_var rfl) ?_
    refine st_2 (d := eB ((!decide (v104 = v101)))) hO (j2_ne (e := (eT (eO eI))) (u := v104) (v := v101)) ?_
    have h := rt_ap h
    refine ite_b (fun hw => ?_) (fun hw => ?_)
    · have h := hg (hw ▸ h)
      refine v_aug (x := eI s102) rfl ?_
      refine st_e (d := (eI 1)) hO je_c ?_
      refine w_I ?_
      let mostv_105 : Int := (s102 + 1)
      exact hns102 mostv_105 _ _ ⟨rfl, hO⟩ h
    · exact hD _ _ ⟨rfl, hO⟩ (hd (hw ▸ h))
  obtain ⟨rfl, hO⟩ := hR
  with_reducible refine v_ret ?_
  refine st_e (d := (eI s102)) hO (je_var rfl) ?_
  exact hO.fin hlc (Cln.cl (e := eI) _ _) (fun C' u => hk _ C' u h)
theorem names_enough_k {hs : Hal} {n due : Int} {ws : Wis} {K : Int → Prop} {X : XP} (H : HOk hs n) (W : WOk hs n ws) (D : Due hs n ws due) (hk : K due) : p_names_enough hs ws K X := by
  have d0 := D.d0
  unfold p_names_enough
  refine bd_i (people_best_k H W fun best B => ?_)
  have eb := bestOf_eq H W B
  subst eb
  refine bd_i ⟨fun k (s : Int) => 0 ≤ s ∧ s + (k : Int) = due, ⟨due.toNat, by omega, by omega⟩, fun k s ⟨s0, hs'⟩ => ?_⟩
  have W2 := cutW_ok W s0
  refine bd_i ?_
  show p_people_best hs (cutW ws s) _ X
  refine people_best_k H W2 fun d P => ?_
  have ed := bestOf_eq H W2 P
  subst ed
  show (if (!decide (bestOf hs n (cutW ws s) = bestOf hs n ws)) = true then _ else _)
  by_cases e : bestOf hs n (cutW ws s) = bestOf hs n ws
  · rw [if_neg (by simp [e])]
    have : s = due := by
      rcases Int.lt_or_le s due with h | h
      · exact absurd e (D.ne s s0 h)
      · omega
    subst this
    exact hk
  · rw [if_pos (by simp [e])]
    have : s ≠ due := fun h => e (h ▸ D.eq)
    exact ⟨k - 1, by omega, by omega, by omega⟩


def p_with_list (wishes_1 : List (List Int)) (person_2 : Int) (chosen_3 : List Int) : M (List (List Int)) :=
  M.as (((cut wishes_1 none (some person_2)).length + [(chosen_3)].length ≤ 100000) ∧ (((cut wishes_1 none (some person_2)) ++ [(chosen_3)]).length + (cut wishes_1 (some (person_2 + 1)) none).length ≤ 100000)) <|
  M.rt (((cut wishes_1 none (some person_2)) ++ [(chosen_3)]) ++ (cut wishes_1 (some (person_2 + 1)) none))
def v_with_list (wishes_1 : List (List Int)) (person_2 : Int) (chosen_3 : List Int) : (List (List Int)) :=
  (((cut wishes_1 none (some person_2)) ++ [(chosen_3)]) ++ (cut wishes_1 (some (person_2 + 1)) none))
def ok_with_list (wishes_1 : List (List Int)) (person_2 : Int) (chosen_3 : List Int) : Prop :=
  (((cut wishes_1 none (some person_2)).length + [(chosen_3)].length ≤ 100000) ∧ (((cut wishes_1 none (some person_2)) ++ [(chosen_3)]).length + (cut wishes_1 (some (person_2 + 1)) none).length ≤ 100000))
theorem m_with_list (wishes_1 : List (List Int)) (person_2 : Int) (chosen_3 : List Int) (hs : ok_with_list wishes_1 person_2 chosen_3) {K : (List (List Int)) → Prop} {X : XP} (hk : K (v_with_list wishes_1 person_2 chosen_3)) : p_with_list wishes_1 person_2 chosen_3 K X := by
  unfold p_with_list
  unfold ok_with_list at hs
  unfold v_with_list at hk
  refine as_mk hs ?_
  exact hk
theorem w_with_list {C0 : Cs} {Q : QD} {E : XQ} {K : (List (List Int)) → Prop} {X : XP} (wishes_1 : List (List Int)) (person_2 : Int) (chosen_3 : List Int) (h : p_with_list wishes_1 person_2 chosen_3 K X) (hk : ∀ (v : List (List Int)) C', Up false [] C0 C' → K v → Q ((eT (eT eI)) v) C') : sp_with_list [(eT (eT eI)) wishes_1, eI person_2, (eT eI) chosen_3] C0 Q E := by
  intro hlo hlc
  have hO : Own ⟨false, C0, [], []⟩ C0 := Own.start
  unfold rd_with_list
  unfold p_with_list at h
  with_reducible refine v_ret ?_
  obtain ⟨p101, h⟩ := as_ap h
  refine st_e (d := ((eT (eT eI)) (((cut wishes_1 none (some person_2)) ++ [(chosen_3)]) ++ (cut wishes_1 (some (person_2 + 1)) none)))) hO (je_op (je_op (je_slT (e := (eT eI)) (xs := wishes_1) (je_var rfl) jo_no (jo_part (je_var rfl))) (je_tupP (d := (eP1 (eT eI)) (chosen_3)) (ja_cons (x := (eT eI) chosen_3) (je_var rfl) ja_nil) rfl) (j2_addT (e := (eT eI)) p101.1)) (je_slT (e := (eT eI)) (xs := wishes_1) (je_var rfl) (jo_part (je_op (je_var rfl) je_c j2_add)) jo_no) (j2_addT (e := (eT eI)) p101.2)) ?_
  exact hO.fin hlc (Cln.cl (e := (eT (eT eI))) _ _) (fun C' u => hk _ C' u h)
theorem t_with_list {C0 : Cs} {Q : QD} {E : XQ} (wishes_1 : List (List Int)) (person_2 : Int) (chosen_3 : List Int) (hs : ok_with_list wishes_1 person_2 chosen_3) (q : Q ((eT (eT eI)) (v_with_list wishes_1 person_2 chosen_3)) C0) : sp_with_list [(eT (eT eI)) wishes_1, eI person_2, (eT eI) chosen_3] C0 Q E :=
  w_with_list (X := fun _ _ => False) (K := fun v => v = v_with_list wishes_1 person_2 chosen_3) wishes_1 person_2 chosen_3 (m_with_list wishes_1 person_2 chosen_3 hs rfl) fun v C' u hv => by
    rw [up_eq0 u, hv]
    exact q

def p_shut_out (hall_1 : List (Int × (List Int))) (wishes_2 : List (List Int)) (mostv_3 : Int) : M (List Int) :=
  let cut_101 : List (List Int) := (v_cut_short wishes_2 mostv_3)
  M.bd (p_people_best hall_1 cut_101) fun v103 =>
  M.bd (forS (enumI v103) (([] : List Int) : List Int) fun s104 zv_120 =>
  M.bd (M.bd ((if zv_120.2.isNone = true then
  M.as ((inb wishes_2.length zv_120.1) ∧ (ok_with_list cut_101 zv_120.1 (gi wishes_2 zv_120.1))) <|
  M.bd (p_people_best hall_1 (v_with_list cut_101 zv_120.1 (gi wishes_2 zv_120.1))) fun v132 =>
  M.as (inb v132.length zv_120.1) <|
  M.rt ((gi v132 zv_120.1).isSome)
  else
  M.rt false)) fun c130 =>
  if c130 = true then
  M.as (s104.length < 100000) <|
  M.rt (s104 ++ [zv_120.1])
  else
  M.rt s104 : M (List Int)) fun s129 =>
  M.rt s129) fun s104 =>
  M.rt s104
theorem w_shut_out {C0 : Cs} {Q : QD} {E : XQ} {K : (List Int) → Prop} {X : XP} (hall_1 : List (Int × (List Int))) (wishes_2 : List (List Int)) (mostv_3 : Int) (h : p_shut_out hall_1 wishes_2 mostv_3 K X) (hk : ∀ (v : List Int) C', Up false [] C0 C' → K v → Q ((eT eI) v) C') : sp_shut_out [(eT (eP2 eI (eT eI))) hall_1, (eT (eT eI)) wishes_2, eI mostv_3] C0 Q E := by
  intro hlo hlc
  have hO : Own ⟨false, C0, [], []⟩ C0 := Own.start
  unfold rd_shut_out
  unfold p_shut_out at h
  with_reducible refine v_seq ?_
  with_reducible refine v_set ?_
  refine st_e (d := ((eT (eT eI)) (v_cut_short wishes_2 mostv_3))) hO (je_callO (ja_cons (x := (eT (eT eI)) wishes_2) (je_var rfl) (ja_cons (x := eI mostv_3) (je_var rfl) ja_nil)) (fun C O Q E q => t_cut_short wishes_2 mostv_3 q)) ?_
  let cut_101 : List (List Int) := (v_cut_short wishes_2 mostv_3)
  with_reducible refine v_seq ?_
  with_reducible refine v_set ?_
  refine st_n (ds := ([] : List Int).map eI) hO (jn_lst (e := eI) (xs := []) ja_m0) (fun n102 C hO => ?_)
  with_reducible refine v_seq ?_
  with_reducible refine v_forE ?_
  with_reducible refine v_call ?_
  with_reducible refine v_cons ?_
  refine st_e (d := ((eT (eP2 eI (eT eI))) hall_1)) hO (je_var rfl) ?_
  with_reducible refine v_cons ?_
  refine st_e (d := ((eT (eT eI)) cut_101)) hO (je_var rfl) ?_
  with_reducible refine v_nil ?_
  refine w_people_best hall_1 cut_101 (bd_ap h) (fun v103 C u h => ?_)
  have hO := hO.up0 u
  with_reducible refine v_forI ?_
  have h := bd_ap h
  refine st_forS hO (ji_enu (e := (eO eI)) (xs := v103) je_c (sv_T (e := (eO eI)) (xs := v103))) h (fun (s104 : List Int) r' C' => ∃ (o5 : Option DL.D) (o6 : Option DL.D), r' = [some ((eT (eP2 eI (eT eI))) hall_1), some ((eT (eT eI)) wishes_2), some (eI mostv_3), some ((eT (eT eI)) cut_101), some (.cel n102), o5, o6] ∧ Own ⟨false, C0, [], [(n102, s104.map eI)]⟩ C') ⟨_, _, rfl, hO⟩ (fun _ _ _ _ => trivial) (fun s104 zv_120 hx121 r' C Ks104 nx bk hR h hns104 => ?_) (fun s104 r' C hR h => ?_)
  · obtain ⟨o5, o6, rfl, hO⟩ := hR
    refine st_g (jg_tup (jg_cons jg_n (jg_cons jg_n jg_nil)) rfl) ?_
    with_reducible refine v_ifI ?_
    have h := bd_ap h
    refine st_join h (fun (s129 : List Int) r' C' => r' = [some ((eT (eP2 eI (eT eI))) hall_1), some ((eT (eT eI)) wishes_2), some (eI mostv_3), some ((eT (eT eI)) cut_101), some (.cel n102), some (eI zv_120.1), some ((eO eI) zv_120.2)] ∧ Own ⟨false, C0, [], [(n102, s129.map eI)]⟩ C') (fun Ks129 nx h hns129 => ?_) (fun s129 r' C hR h => ?_)
    · with_reducible refine v_if ?_
      have h := bd_ap h
      refine jt_join h ⟨false, C0, [], [(n102, s104.map eI)]⟩ (fun Kc130 Qc130 h hqc130 => ?_) (fun c130 C hO h => ?_)
      · with_reducible refine v_and ?_
        refine st_t (b := zv_120.2.isNone) hO (jt_test (je_op (je_var rfl) je_c (j2_isN (e := eI) (v := zv_120.2)))) ?_
        refine ite_b (fun hb131 => ?_) (fun hb131 => ?_)
        · have h := it_ap hb131 h
          with_reducible refine v_test ?_
          with_reducible refine v_op ?_
          with_reducible refine v_op ?_
          with_reducible refine v_call ?_
          with_reducible refine v_cons ?_
          refine st_e (d := ((eT (eP2 eI (eT eI))) hall_1)) hO (je_var rfl) ?_
          with_reducible refine v_cons ?_
          obtain ⟨p134, h⟩ := as_ap h
          refine st_e (d := ((eT (eT eI)) (v_with_list cut_101 zv_120.1 (gi wishes_2 zv_120.1)))) hO (je_callO (ja_cons (x := (eT (eT eI)) cut_101) (je_var rfl) (ja_cons (x := eI zv_120.1) (je_var rfl) (ja_cons (x := (eT eI) (gi wishes_2 zv_120.1)) (je_op (je_var rfl) (je_var rfl) (j2_ix (e := (eT eI)) (xs := wishes_2) sv_T p134.1)) ja_nil))) (fun C O Q E q => t_with_list cut_101 zv_120.1 (gi wishes_2 zv_120.1) p134.2 q)) ?_
          with_reducible refine v_nil ?_
          refine w_people_best hall_1 (v_with_list cut_101 zv_120.1 (gi wishes_2 zv_120.1)) (bd_ap h) (fun v132 C u h => ?_)
          have hO := hO.up0 u
          refine st_e (d := (eI zv_120.1)) hO (je_var rfl) ?_
          obtain ⟨p133, h⟩ := as_ap h
          refine st_2 (d := (eO eI) (gi v132 zv_120.1)) hO (j2_ix (e := (eO eI)) (xs := v132) sv_T p133) ?_
          refine st_e (d := (eN ())) hO je_c ?_
          refine st_2 (d := eB ((gi v132 zv_120.1).isSome)) hO (j2_notN (e := eI) (v := (gi v132 zv_120.1))) ?_
          exact hqc130 _ _ hO h
        · have h := if_ap hb131 h
          exact hqc130 _ _ hO h
      refine ite_b (fun hc122 => ?_) (fun hc122 => ?_)
      · have h := it_ap hc122 h
        with_reducible refine v_drop ?_
        with_reducible refine v_ml ?_
        refine v_var rfl (opt_ok (lsD_at (hO.get (k := 0) rfl)) ?_)
        with_reducible refine v_cons ?_
        refine st_e (d := (eI zv_120.1)) hO (je_var rfl) ?_
        with_reducible refine v_nil ?_
        obtain ⟨p135, h⟩ := as_ap h
        refine xm_app (e := eI) (xs := s104) (v := zv_120.1) 0 hO rfl p135 (fun C hO => ?_)
        exact hns129 (s104 ++ [zv_120.1]) _ _ ⟨rfl, hO⟩ h
      · have h := if_ap hc122 h
        with_reducible refine v_next ?_
        exact hns129 s104 _ _ ⟨rfl, hO⟩ h
    obtain ⟨rfl, hO⟩ := hR
    exact hns104 s129 _ _ ⟨_, _, rfl, hO⟩ h
  obtain ⟨o5, o6, rfl, hO⟩ := hR
  with_reducible refine v_ret ?_
  refine st_e (d := ((eT eI) s104)) hO (je_cb (ja_cons (je_var rfl) ja_nil) (jf_tuple (e := eI) (xs := s104) (sv_C 0 rfl))) ?_
  exact hO.fin hlc (Cln.cl (e := (eT eI)) _ _) (fun C' u => hk _ C' u h)
theorem with_list_eq {ws : Wis} {x : Int} {v : List Int} (x0 : 0 ≤ x) (x1 : x < ws.length) : v_with_list ws x v = setI ws x v := cut_put x0 x1
theorem ok_with_list_of {ws : Wis} {x : Int} {v : List Int} (x0 : 0 ≤ x) (x1 : x < ws.length) (hl : ws.length ≤ 1000) : ok_with_list ws x v := by
  unfold ok_with_list
  rw [cut_hi _ x0, cut_lo _ (by omega)]
  simp only [List.length_append, List.length_take, List.length_drop, List.length_cons, List.length_nil]
  omega
theorem enum_fold {d : Dea} {n : Int} (hl : (d.length : Int) = n) {i : Nat} {z : Int × Option Int} (h : (enumI d)[i]? = some z) : z = ((i : Int), gi d i) ∧ (i : Int) < n := by
  rw [enumI_eq, List.getElem?_map] at h
  cases e : (irange 0 (d.length : Int))[i]? with
  | none => rw [e] at h; cases h
  | some j =>
    rw [e] at h
    have hj := irange_get e
    have hlt := (List.getElem?_eq_some_iff.mp e).1
    rw [irange_len] at hlt
    cases h
    have : j = (i : Int) := by omega
    subst this
    exact ⟨rfl, by omega⟩
theorem filt_succ {P : Int → Bool} {i : Nat} : (irange 0 ((i + 1 : Nat) : Int)).filter P = (irange 0 (i : Int)).filter P ++ if P (i : Int) = true then [(i : Int)] else [] := by
  have e : irange 0 ((i + 1 : Nat) : Int) = irange 0 (i : Int) ++ [(i : Int)] := by
    rw [irange_map0, irange_map0, List.range_succ, List.map_append]
    rfl
  rw [e, List.filter_append, List.filter_cons, List.filter_nil]
theorem shut_out_k {hs : Hal} {n m : Int} {ws : Wis} {K : List Int → Prop} {X : XP} (H : HOk hs n) (W : WOk hs n ws) (m0 : 0 ≤ m) (hk : K (shutL hs n ws m)) : p_shut_out hs ws m K X := by
  have wl := W.len
  have h40 := H.n40
  have n1 := H.n1
  have V := cutW_ok W m0
  have vl := V.len
  unfold p_shut_out
  show (p_people_best hs (cutW ws m)).bd _ K X
  refine bd_i (people_best_k H V fun d P => ?_)
  have ed := bestOf_eq H V P
  subst ed
  have dl := P.len
  refine bd_i (forS_ok (fun i s => s = (irange 0 (i : Int)).filter (shutB hs n ws m)) rfl (fun i z s K2 hz hs' k2 => ?_) fun s hs' => ?_)
  · obtain ⟨ez, hi⟩ := enum_fold dl hz
    subst ez
    subst hs'
    dsimp only
    have hfl : ((irange 0 (i : Int)).filter (shutB hs n ws m)).length ≤ 40 := by
      refine Nat.le_trans (List.length_filter_le _ _) ?_
      rw [irange_len]
      omega
    refine bd_i (bd_i (iteM (fun hc => ?_) (fun hc => ?_)))
    · refine as_mk ⟨inb_of (by omega) (by omega), ok_with_list_of (by omega) (by show (i : Int) < ((cutW ws m).length : Int); omega) (by show (cutW ws m).length ≤ 1000; omega)⟩ ?_
      rw [show v_with_list (v_cut_short ws m) (i : Int) (gi ws (i : Int)) = withL ws m (i : Int) from with_list_eq (by omega) (by show (i : Int) < ((cutW ws m).length : Int); omega)]
      have U := withL_ok W m0 (x := (i : Int)) (by omega) hi
      refine bd_i (people_best_k H U fun e Q => ?_)
      have ee := bestOf_eq H U Q
      subst ee
      have el := Q.len
      refine as_mk (inb_of (by omega) (by omega)) ?_
      have eB : shutB hs n ws m (i : Int) = (gi (bestOf hs n (withL ws m (i : Int))) (i : Int)).isSome := by
        unfold shutB
        rw [hc, Bool.true_and]
      refine rt_i (iteM (fun h => ?_) (fun h => ?_))
      · refine as_mk (by omega) (k2 _ ?_)
        rw [filt_succ, eB, h]
        rfl
      · refine k2 _ ?_
        rw [filt_succ, eB, h]
        simp
    · refine rt_i (iteM (fun h => (nomatch h)) (fun _ => ?_))
      refine k2 _ ?_
      have eB : shutB hs n ws m (i : Int) = false := by
        unfold shutB
        rw [hc, Bool.false_and]
      rw [filt_succ, eB]
      simp
  · subst hs'
    have : (enumI (bestOf hs n (cutW ws m))).length = n.toNat := by
      rw [enumI_eq, List.length_map, irange_len]
      omega
    rw [this, Int.toNat_of_nonneg (by omega)]
    exact hk

theorem w_law_go {C0 : Cs} {Q : QD} {E : XQ} {K : (List (Option Int)) × (List Int) × (List Int) → Prop} {X : XP} (hall_1 : List (Int × (List Int))) (ranks_2 : List (List Int)) (lists_3 : List (List Int)) (found_4 : List (Option Int)) (spots_5 : List Int) (free_6 : List Int) {n_found_4 : Nat} {n_spots_5 : Nat} {n_free_6 : Nat} (hn_found_4 : C0[n_found_4]? = some (.lst (found_4.map (eO eI)))) (hn_spots_5 : C0[n_spots_5]? = some (.lst (spots_5.map eI))) (hn_free_6 : C0[n_free_6]? = some (.lst (free_6.map eI))) (hne01 : n_found_4 ≠ n_spots_5) (hne02 : n_found_4 ≠ n_free_6) (hne12 : n_spots_5 ≠ n_free_6) (h : p_law_go hall_1 ranks_2 lists_3 found_4 spots_5 free_6 K X) (hk : ∀ (v : (List (Option Int)) × (List Int) × (List Int)) C', Up false [(n_found_4, v.1.map (eO eI)), (n_spots_5, v.2.1.map eI), (n_free_6, v.2.2.map eI)] C0 C' → K v → Q .non C') : sp_law_go [(eT (eP2 eI (eT eI))) hall_1, (eL (eL eI)) ranks_2, (eT (eT eI)) lists_3, .cel n_found_4, .cel n_spots_5, .cel n_free_6] C0 Q E := by
  intro hlo hlc
  have hO : Own ⟨false, C0, [(n_found_4, found_4.map (eO eI)), (n_spots_5, spots_5.map eI), (n_free_6, free_6.map eI)], []⟩ C0 := Own.startP3 hn_found_4 hn_spots_5 hn_free_6 hne01 hne02 hne12 (los_map 0 _) (los_map 0 _) (los_map 0 _)
  unfold rd_law_go
  unfold p_law_go at h
  with_reducible refine v_whileI ?_
  have h := bd_ap h
  refine st_whileS h (fun (s101 : (List (Option Int)) × (List Int) × (List Int)) r' C' => ∃ (o6 : Option DL.D) (o7 : Option DL.D) (o8 : Option DL.D) (o9 : Option DL.D) (o10 : Option DL.D), r' = [some ((eT (eP2 eI (eT eI))) hall_1), some ((eL (eL eI)) ranks_2), some ((eT (eT eI)) lists_3), some (.cel n_found_4), some (.cel n_spots_5), some (.cel n_free_6), o6, o7, o8, o9, o10] ∧ Own ⟨false, C0, [(n_found_4, s101.1.map (eO eI)), (n_spots_5, s101.2.1.map eI), (n_free_6, s101.2.2.map eI)], []⟩ C') ⟨_, _, _, _, _, rfl, hO⟩ (fun s101 r' C K1 Ks101 nx bk hR h hg hd hns101 hD => ?_) (fun s101 r' C hR h => ?_)
  · obtain ⟨o6, o7, o8, o9, o10, rfl, hO⟩ := hR
    have h := rt_ap h
    refine st_t hO (jt_test (je_op (je_var rfl) (je_lstL (e := eI) (xs := []) ja_m0) (j2_neC (e := eI) (us := s101.2.2) (vs := ([] : List Int)) 2 rfl))) (ite_b (fun hw => ?_) (fun hw => ?_))
    · have h := hg (hw ▸ h)
      with_reducible refine v_seq ?_
      with_reducible refine v_set ?_
      with_reducible refine v_ml0 ?_
      refine v_var rfl (opt_ok (lsD_at (hO.get (k := 2) rfl)) ?_)
      obtain ⟨p209, h⟩ := as_ap h
      refine xm_pop (e := eI) (xs := s101.2.2) 2 hO rfl p209 (fun C hO => ?_)
      let person_156 : Int := (gi s101.2.2 (-1))
      with_reducible refine v_ifI ?_
      have h := bd_ap h
      refine st_join h (fun (s183 : (List (Option Int)) × (List Int) × (List Int)) r' C' => ∃ (o7 : Option DL.D) (o8 : Option DL.D) (o9 : Option DL.D) (o10 : Option DL.D), r' = [some ((eT (eP2 eI (eT eI))) hall_1), some ((eL (eL eI)) ranks_2), some ((eT (eT eI)) lists_3), some (.cel n_found_4), some (.cel n_spots_5), some (.cel n_free_6), some (eI person_156), o7, o8, o9, o10] ∧ Own ⟨false, C0, [(n_found_4, s183.1.map (eO eI)), (n_spots_5, s183.2.1.map eI), (n_free_6, s183.2.2.map eI)], []⟩ C') (fun Ks183 nx h hns183 => ?_) (fun s183 r' C hR h => ?_)
      · obtain ⟨p208, h⟩ := as_ap h
        with_reducible refine v_if ?_
        refine st_t hO (jt_test (je_op (je_op (je_var rfl) (je_var rfl) (j2_ix (e := eI) (xs := s101.2.1) (sv_C 1 rfl) p208.1)) (je_cb (ja_cons (je_op (je_var rfl) (je_var rfl) (j2_ix (e := (eT eI)) (xs := lists_3) sv_T p208.2)) ja_nil) (jf_len (e := eI) (xs := (gi lists_3 person_156)) sv_T)) j2_lt)) (ite_b (fun hc157 => ?_) (fun hc157 => ?_))
        · have h := it_ap hc157 h
          with_reducible refine v_seq ?_
          with_reducible refine v_set ?_
          obtain ⟨p207, h⟩ := as_ap h
          refine st_e (d := (eI (gi (gi lists_3 person_156) (gi s101.2.1 person_156)))) hO (je_op (je_op (je_var rfl) (je_var rfl) (j2_ix (e := (eT eI)) (xs := lists_3) sv_T p207.1)) (je_op (je_var rfl) (je_var rfl) (j2_ix (e := eI) (xs := s101.2.1) (sv_C 1 rfl) p207.2.1)) (j2_ix (e := eI) (xs := (gi lists_3 person_156)) sv_T p207.2.2)) ?_
          let place_184 : Int := (gi (gi lists_3 person_156) (gi s101.2.1 person_156))
          with_reducible refine v_seq ?_
          with_reducible refine v_asg ?_
          obtain ⟨p206, h⟩ := as_ap h
          refine st_e (d := (eI ((gi s101.2.1 person_156) + 1))) hO (je_op (je_op (je_var rfl) (je_var rfl) (j2_ix (e := eI) (xs := s101.2.1) (sv_C 1 rfl) p206)) je_c j2_add) ?_
          with_reducible refine v_gSb ?_
          refine v_var rfl ?_
          refine st_e (d := (eI person_156)) hO (je_var rfl) ?_
          obtain ⟨p205, h⟩ := as_ap h
          refine xm_set (e := eI) (xs := s101.2.1) (a := person_156) (v := ((gi s101.2.1 person_156) + 1)) 1 hO rfl p205 (fun C hO => ?_)
          with_reducible refine v_seq ?_
          with_reducible refine v_asg ?_
          refine st_e (d := ((eO eI) (some place_184))) hO (je_var rfl) ?_
          with_reducible refine v_gSb ?_
          refine v_var rfl ?_
          refine st_e (d := (eI person_156)) hO (je_var rfl) ?_
          obtain ⟨p204, h⟩ := as_ap h
          refine xm_set (e := (eO eI)) (xs := s101.1) (a := person_156) (v := (some place_184)) 0 hO rfl p204 (fun C hO => ?_)
          with_reducible refine v_seq ?_
          with_reducible refine v_set ?_
          refine st_e (d := ((eL eI) (v_law_at (setI s101.1 person_156 (some place_184)) place_184))) hO (je_callO (ja_cons (x := .cel _) (je_var rfl) (ja_cons (x := eI place_184) (je_var rfl) ja_nil)) (fun C O Q E q => t_law_at_0C (setI s101.1 person_156 (some place_184)) place_184 (O.get (k := 0) rfl) q)) ?_
          let held_185 : List Int := (v_law_at (setI s101.1 person_156 (some place_184)) place_184)
          with_reducible refine v_ifI ?_
          have h := bd_ap h
          refine st_join h (fun (s195 : (List (Option Int)) × (List Int)) r' C' => ∃ (o9 : Option DL.D) (o10 : Option DL.D), r' = [some ((eT (eP2 eI (eT eI))) hall_1), some ((eL (eL eI)) ranks_2), some ((eT (eT eI)) lists_3), some (.cel n_found_4), some (.cel n_spots_5), some (.cel n_free_6), some (eI person_156), some (eI place_184), some ((eL eI) held_185), o9, o10] ∧ Own ⟨false, C0, [(n_found_4, s195.1.map (eO eI)), (n_spots_5, (setI s101.2.1 person_156 ((gi s101.2.1 person_156) + 1)).map eI), (n_free_6, s195.2.map eI)], []⟩ C') (fun Ks195 nx h hns195 => ?_) (fun s195 r' C hR h => ?_)
          · obtain ⟨p203, h⟩ := as_ap h
            with_reducible refine v_if ?_
            refine st_t hO (jt_test (je_op (je_cb (ja_cons (je_var rfl) ja_nil) (jf_len (e := eI) (xs := held_185) sv_L)) (je_op (je_op (je_var rfl) (je_var rfl) (j2_ix (e := (eP2 eI (eT eI))) (xs := hall_1) sv_T p203)) je_c (j2_ixP (d := eI ((gi hall_1 place_184).1)) rfl)) j2_gt)) (ite_b (fun hc186 => ?_) (fun hc186 => ?_))
            · have h := it_ap hc186 h
              with_reducible refine v_seq ?_
              with_reducible refine v_set ?_
              obtain ⟨p202, h⟩ := as_ap h
              refine st_e (d := (eI ((maxP (held_185.map (fun (one_196 : Int) => ((gi (gi ranks_2 place_184) one_196), one_196)))).2))) hO (je_op (je_cb (ja_cons (je_lc0 (e := eI) (f := (eP2 eI eI)) (ji_seq (ds := held_185.map eI) (je_var rfl) sv_L) (fun one_196 => jg_n) (fun (one_196 : Int) => ((gi (gi ranks_2 place_184) one_196), one_196)) (fun one_196 hx197 => (je_tupP (d := (eP2 eI eI) ((gi (gi ranks_2 place_184) one_196), one_196)) (ja_cons (x := eI (gi (gi ranks_2 place_184) one_196)) (je_op (je_op (je_var rfl) (je_var rfl) (j2_ix (e := (eL eI)) (xs := ranks_2) sv_L (p202.1 one_196 hx197).1)) (je_var rfl) (j2_ix (e := eI) (xs := (gi ranks_2 place_184)) sv_L (p202.1 one_196 hx197).2)) (ja_cons (x := eI one_196) (je_var rfl) ja_nil)) rfl))) ja_nil) (jf_maxAP (xs := (held_185.map (fun (one_196 : Int) => ((gi (gi ranks_2 place_184) one_196), one_196)))) lv_L p202.2)) je_c (j2_ixP (d := eI ((maxP (held_185.map (fun (one_196 : Int) => ((gi (gi ranks_2 place_184) one_196), one_196)))).2)) rfl)) ?_
              let last_199 : Int := (maxP (held_185.map (fun (one_196 : Int) => ((gi (gi ranks_2 place_184) one_196), one_196)))).2
              with_reducible refine v_seq ?_
              with_reducible refine v_asg ?_
              refine st_e (d := ((eO eI) (none : Option Int))) hO je_c ?_
              with_reducible refine v_gSb ?_
              refine v_var rfl ?_
              refine st_e (d := (eI last_199)) hO (je_var rfl) ?_
              obtain ⟨p201, h⟩ := as_ap h
              refine xm_set (e := (eO eI)) (xs := (setI s101.1 person_156 (some place_184))) (a := last_199) (v := (none : Option Int)) 0 hO rfl p201 (fun C hO => ?_)
              with_reducible refine v_drop ?_
              with_reducible refine v_ml ?_
              refine v_var rfl (opt_ok (lsD_at (hO.get (k := 2) rfl)) ?_)
              with_reducible refine v_cons ?_
              refine st_e (d := (eI last_199)) hO (je_var rfl) ?_
              with_reducible refine v_nil ?_
              obtain ⟨p200, h⟩ := as_ap h
              refine xm_app (e := eI) (xs := s101.2.2.dropLast) (v := last_199) 2 hO rfl p200 (fun C hO => ?_)
              exact hns195 ((setI (setI s101.1 person_156 (some place_184)) last_199 (none : Option Int)), (s101.2.2.dropLast ++ [last_199])) _ _ ⟨_, _, rfl, hO⟩ h
            · have h := if_ap hc186 h
              with_reducible refine v_next ?_
              exact hns195 ((setI s101.1 person_156 (some place_184)), s101.2.2.dropLast) _ _ ⟨_, _, rfl, hO⟩ h
          obtain ⟨o9, o10, rfl, hO⟩ := hR
          exact hns183 (s195.1, (setI s101.2.1 person_156 ((gi s101.2.1 person_156) + 1)), s195.2) _ _ ⟨_, _, _, _, rfl, hO⟩ h
        · have h := if_ap hc157 h
          with_reducible refine v_next ?_
          exact hns183 (s101.1, s101.2.1, s101.2.2.dropLast) _ _ ⟨_, _, _, _, rfl, hO⟩ h
      obtain ⟨o7, o8, o9, o10, rfl, hO⟩ := hR
      exact hns101 (s183.1, s183.2.1, s183.2.2) _ _ ⟨_, _, _, _, _, rfl, hO⟩ h
    · exact hD _ _ ⟨_, _, _, _, _, rfl, hO⟩ (hd (hw ▸ h))
  obtain ⟨o6, o7, o8, o9, o10, rfl, hO⟩ := hR
  exact hO.fin hlc rfl (fun C' u => hk (s101.1, s101.2.1, s101.2.2) C' u h)

def p_law_with (wishes_1 : List (List Int)) (person_2 : Int) (chosen_3 : List Int) : M (List (List Int)) :=
  M.as (((cut wishes_1 none (some person_2)).length + [(chosen_3)].length ≤ 100000) ∧ (((cut wishes_1 none (some person_2)) ++ [(chosen_3)]).length + (cut wishes_1 (some (person_2 + 1)) none).length ≤ 100000)) <|
  M.rt (((cut wishes_1 none (some person_2)) ++ [(chosen_3)]) ++ (cut wishes_1 (some (person_2 + 1)) none))
def v_law_with (wishes_1 : List (List Int)) (person_2 : Int) (chosen_3 : List Int) : (List (List Int)) :=
  (((cut wishes_1 none (some person_2)) ++ [(chosen_3)]) ++ (cut wishes_1 (some (person_2 + 1)) none))
def ok_law_with (wishes_1 : List (List Int)) (person_2 : Int) (chosen_3 : List Int) : Prop :=
  (((cut wishes_1 none (some person_2)).length + [(chosen_3)].length ≤ 100000) ∧ (((cut wishes_1 none (some person_2)) ++ [(chosen_3)]).length + (cut wishes_1 (some (person_2 + 1)) none).length ≤ 100000))
theorem m_law_with (wishes_1 : List (List Int)) (person_2 : Int) (chosen_3 : List Int) (hs : ok_law_with wishes_1 person_2 chosen_3) {K : (List (List Int)) → Prop} {X : XP} (hk : K (v_law_with wishes_1 person_2 chosen_3)) : p_law_with wishes_1 person_2 chosen_3 K X := by
  unfold p_law_with
  unfold ok_law_with at hs
  unfold v_law_with at hk
  refine as_mk hs ?_
  exact hk
theorem w_law_with {C0 : Cs} {Q : QD} {E : XQ} {K : (List (List Int)) → Prop} {X : XP} (wishes_1 : List (List Int)) (person_2 : Int) (chosen_3 : List Int) (h : p_law_with wishes_1 person_2 chosen_3 K X) (hk : ∀ (v : List (List Int)) C', Up false [] C0 C' → K v → Q ((eT (eT eI)) v) C') : sp_law_with [(eT (eT eI)) wishes_1, eI person_2, (eT eI) chosen_3] C0 Q E := by
  intro hlo hlc
  have hO : Own ⟨false, C0, [], []⟩ C0 := Own.start
  unfold rd_law_with
  unfold p_law_with at h
  with_reducible refine v_ret ?_
  obtain ⟨p101, h⟩ := as_ap h
  refine st_e (d := ((eT (eT eI)) (((cut wishes_1 none (some person_2)) ++ [(chosen_3)]) ++ (cut wishes_1 (some (person_2 + 1)) none)))) hO (je_op (je_op (je_slT (e := (eT eI)) (xs := wishes_1) (je_var rfl) jo_no (jo_part (je_var rfl))) (je_tupP (d := (eP1 (eT eI)) (chosen_3)) (ja_cons (x := (eT eI) chosen_3) (je_var rfl) ja_nil) rfl) (j2_addT (e := (eT eI)) p101.1)) (je_slT (e := (eT eI)) (xs := wishes_1) (je_var rfl) (jo_part (je_op (je_var rfl) je_c j2_add)) jo_no) (j2_addT (e := (eT eI)) p101.2)) ?_
  exact hO.fin hlc (Cln.cl (e := (eT (eT eI))) _ _) (fun C' u => hk _ C' u h)
theorem t_law_with {C0 : Cs} {Q : QD} {E : XQ} (wishes_1 : List (List Int)) (person_2 : Int) (chosen_3 : List Int) (hs : ok_law_with wishes_1 person_2 chosen_3) (q : Q ((eT (eT eI)) (v_law_with wishes_1 person_2 chosen_3)) C0) : sp_law_with [(eT (eT eI)) wishes_1, eI person_2, (eT eI) chosen_3] C0 Q E :=
  w_law_with (X := fun _ _ => False) (K := fun v => v = v_law_with wishes_1 person_2 chosen_3) wishes_1 person_2 chosen_3 (m_law_with wishes_1 person_2 chosen_3 hs rfl) fun v C' u hv => by
    rw [up_eq0 u, hv]
    exact q

def p_law_shut_out (hall_1 : List (Int × (List Int))) (ranks_2 : List (List Int)) (wishes_3 : List (List Int)) (mostv_4 : Int) : M (List Int) :=
  let cut_105 : List (List Int) := (wishes_3.map (fun (wished_101 : List Int) => (cut wished_101 none (some mostv_4))))
  M.as (rgOk 0 (wishes_3.length : Int)) <|
  M.bd (p_law_go hall_1 ranks_2 cut_105 (wishes_3.map (fun (one_106 : List Int) => (none : Option Int))) (wishes_3.map (fun (one_110 : List Int) => 0)) (irange 0 (wishes_3.length : Int))) fun v115 =>
  M.bd (forS (enumI v115.1) (([] : List Int) : List Int) fun s116 zv_146 =>
  M.bd (M.as (zv_146.2.isNone = true → ((inb wishes_3.length zv_146.1) ∧ (inb cut_105.length zv_146.1))) <|
  if (zv_146.2.isNone && (decide (((gi cut_105 zv_146.1).length : Int) < ((gi wishes_3 zv_146.1).length : Int)))) = true then
  M.as ((inb wishes_3.length zv_146.1) ∧ (ok_law_with cut_105 zv_146.1 (gi wishes_3 zv_146.1))) <|
  M.bd (p_law_go hall_1 ranks_2 (v_law_with cut_105 zv_146.1 (gi wishes_3 zv_146.1)) v115.1 v115.2.1 [zv_146.1]) fun v167 =>
  M.bd (M.as (inb v167.1.length zv_146.1) <|
  if (gi v167.1 zv_146.1).isSome = true then
  M.as (s116.length < 100000) <|
  M.rt (s116 ++ [zv_146.1])
  else
  M.rt s116 : M (List Int)) fun s171 =>
  M.rt s171
  else
  M.rt s116 : M (List Int)) fun s162 =>
  M.rt s162) fun s116 =>
  M.rt s116
theorem w_law_shut_out {C0 : Cs} {Q : QD} {E : XQ} {K : (List Int) → Prop} {X : XP} (hall_1 : List (Int × (List Int))) (ranks_2 : List (List Int)) (wishes_3 : List (List Int)) (mostv_4 : Int) (h : p_law_shut_out hall_1 ranks_2 wishes_3 mostv_4 K X) (hk : ∀ (v : List Int) C', Up false [] C0 C' → K v → Q ((eT eI) v) C') : sp_law_shut_out [(eT (eP2 eI (eT eI))) hall_1, (eL (eL eI)) ranks_2, (eT (eT eI)) wishes_3, eI mostv_4] C0 Q E := by
  intro hlo hlc
  have hO : Own ⟨false, C0, [], []⟩ C0 := Own.start
  unfold rd_law_shut_out
  unfold p_law_shut_out at h
  with_reducible refine v_seq ?_
  with_reducible refine v_par ?_
  with_reducible refine v_cons ?_
  refine st_e (d := ((eT (eT eI)) (wishes_3.map (fun (wished_101 : List Int) => (cut wished_101 none (some mostv_4)))))) hO (je_cb (ja_cons (je_lc0 (e := (eT eI)) (f := (eT eI)) (ji_seq (ds := wishes_3.map (eT eI)) (je_var rfl) sv_T) (fun wished_101 => jg_n) (fun (wished_101 : List Int) => (cut wished_101 none (some mostv_4))) (fun wished_101 hx102 => (je_slT (e := eI) (xs := wished_101) (je_var rfl) jo_no (jo_part (je_var rfl))))) ja_nil) (jf_tuple (e := (eT eI)) (xs := (wishes_3.map (fun (wished_101 : List Int) => (cut wished_101 none (some mostv_4))))) sv_L)) ?_
  with_reducible refine v_cons ?_
  refine st_n (ds := ([] : List Int).map eI) hO (jn_lst (e := eI) (xs := []) ja_m0) (fun n104 C hO => ?_)
  with_reducible refine v_nil ?_
  let cut_105 : List (List Int) := (wishes_3.map (fun (wished_101 : List Int) => (cut wished_101 none (some mostv_4))))
  with_reducible refine v_seq ?_
  with_reducible refine v_par ?_
  with_reducible refine v_cons ?_
  refine st_n (ds := (wishes_3.map (fun (one_106 : List Int) => (none : Option Int))).map (eO eI)) hO (jn_lc0 (e := (eT eI)) (f := (eO eI)) (ji_seq (ds := wishes_3.map (eT eI)) (je_var rfl) sv_T) (fun one_106 => jg_n) (fun (one_106 : List Int) => (none : Option Int)) (fun one_106 hx107 => je_c)) (fun n109 C hO => ?_)
  with_reducible refine v_cons ?_
  refine st_n (ds := (wishes_3.map (fun (one_110 : List Int) => 0)).map eI) hO (jn_lc0 (e := (eT eI)) (f := eI) (ji_seq (ds := wishes_3.map (eT eI)) (je_var rfl) sv_T) (fun one_110 => jg_n) (fun (one_110 : List Int) => 0) (fun one_110 hx111 => je_c)) (fun n113 C hO => ?_)
  with_reducible refine v_nil ?_
  with_reducible refine v_seq ?_
  with_reducible refine v_drop ?_
  with_reducible refine v_call ?_
  with_reducible refine v_cons ?_
  refine st_e (d := ((eT (eP2 eI (eT eI))) hall_1)) hO (je_var rfl) ?_
  with_reducible refine v_cons ?_
  refine st_e (d := ((eL (eL eI)) ranks_2)) hO (je_var rfl) ?_
  with_reducible refine v_cons ?_
  refine st_e (d := ((eT (eT eI)) cut_105)) hO (je_var rfl) ?_
  with_reducible refine v_cons ?_
  refine st_e (d := (.cel n109)) hO (je_var rfl) ?_
  with_reducible refine v_cons ?_
  refine st_e (d := (.cel n113)) hO (je_var rfl) ?_
  with_reducible refine v_cons ?_
  obtain ⟨p176, h⟩ := as_ap h
  refine st_n (ds := (irange 0 (wishes_3.length : Int)).map eI) hO (jn_range (jr_1 (je_cb (ja_cons (je_var rfl) ja_nil) (jf_len (e := (eT eI)) (xs := wishes_3) sv_T))) p176) (fun n114 C hO => ?_)
  with_reducible refine v_nil ?_
  refine w_law_go hall_1 ranks_2 cut_105 (wishes_3.map (fun (one_106 : List Int) => (none : Option Int))) (wishes_3.map (fun (one_110 : List Int) => 0)) (irange 0 (wishes_3.length : Int)) (hO.get (k := 1) rfl) (hO.get (k := 2) rfl) (hO.get (k := 3) rfl) (nd_ne hO 1 2 rfl rfl) (nd_ne hO 1 3 rfl rfl) (nd_ne hO 2 3 rfl rfl) (bd_ap h) (fun v115 C u h => ?_)
  have hO := hO.up3 (k := 1) (j := 2) (i := 3) rfl rfl rfl u
  with_reducible refine v_seq ?_
  with_reducible refine v_forI ?_
  have h := bd_ap h
  refine st_forS hO (ji_enu (e := (eO eI)) (xs := v115.1) (je_var rfl) (sv_C 1 rfl)) h (fun (s116 : List Int) r' C' => ∃ (o8 : Option DL.D) (o9 : Option DL.D) (o10 : Option DL.D) (o11 : Option DL.D) (o12 : Option DL.D), r' = [some ((eT (eP2 eI (eT eI))) hall_1), some ((eL (eL eI)) ranks_2), some ((eT (eT eI)) wishes_3), some (eI mostv_4), some ((eT (eT eI)) cut_105), some (.cel n104), some (.cel n109), some (.cel n113), o8, o9, o10, o11, o12] ∧ Own ⟨false, C0, [], [(n104, s116.map eI), (n109, v115.1.map (eO eI)), (n113, v115.2.1.map eI), (n114, v115.2.2.map eI)]⟩ C') ⟨_, _, _, _, _, rfl, hO⟩ (fun s116 r' C' hR => by obtain ⟨o8, o9, o10, o11, o12, rfl, hO⟩ := hR; exact (hO.get (k := 1) rfl)) (fun s116 zv_146 hx147 r' C Ks116 nx bk hR h hns116 => ?_) (fun s116 r' C hR h => ?_)
  · obtain ⟨o8, o9, o10, o11, o12, rfl, hO⟩ := hR
    refine st_g (jg_tup (jg_cons jg_n (jg_cons jg_n jg_nil)) rfl) ?_
    with_reducible refine v_ifI ?_
    have h := bd_ap h
    refine st_join h (fun (s162 : List Int) r' C' => ∃ (o10 : Option DL.D) (o11 : Option DL.D) (o12 : Option DL.D), r' = [some ((eT (eP2 eI (eT eI))) hall_1), some ((eL (eL eI)) ranks_2), some ((eT (eT eI)) wishes_3), some (eI mostv_4), some ((eT (eT eI)) cut_105), some (.cel n104), some (.cel n109), some (.cel n113), some (eI zv_146.1), some ((eO eI) zv_146.2), o10, o11, o12] ∧ Own ⟨false, C0, [], [(n104, s162.map eI), (n109, v115.1.map (eO eI)), (n113, v115.2.1.map eI), (n114, v115.2.2.map eI)]⟩ C') (fun Ks162 nx h hns162 => ?_) (fun s162 r' C hR h => ?_)
    · obtain ⟨p175, h⟩ := as_ap h
      with_reducible refine v_if ?_
      refine st_t hO (jt_and (jt_test (je_op (je_var rfl) je_c (j2_isN (e := eI) (v := zv_146.2)))) (fun hb163 => (jt_test (je_op (je_cb (ja_cons (je_op (je_var rfl) (je_var rfl) (j2_ix (e := (eT eI)) (xs := wishes_3) sv_T (p175 hb163).1)) ja_nil) (jf_len (e := eI) (xs := (gi wishes_3 zv_146.1)) sv_T)) (je_cb (ja_cons (je_op (je_var rfl) (je_var rfl) (j2_ix (e := (eT eI)) (xs := cut_105) sv_T (p175 hb163).2)) ja_nil) (jf_len (e := eI) (xs := (gi cut_105 zv_146.1)) sv_T)) j2_gt)))) (ite_b (fun hc148 => ?_) (fun hc148 => ?_))
      · have h := it_ap hc148 h
        with_reducible refine v_seq ?_
        with_reducible refine v_set ?_
        refine st_n (ds := v115.1.map (eO eI)) hO (jn_list (e := (eO eI)) (xs := v115.1) (je_var rfl) (sv_C 1 rfl)) (fun n164 C hO => ?_)
        with_reducible refine v_seq ?_
        with_reducible refine v_drop ?_
        with_reducible refine v_call ?_
        with_reducible refine v_cons ?_
        refine st_e (d := ((eT (eP2 eI (eT eI))) hall_1)) hO (je_var rfl) ?_
        with_reducible refine v_cons ?_
        refine st_e (d := ((eL (eL eI)) ranks_2)) hO (je_var rfl) ?_
        with_reducible refine v_cons ?_
        obtain ⟨p174, h⟩ := as_ap h
        refine st_e (d := ((eT (eT eI)) (v_law_with cut_105 zv_146.1 (gi wishes_3 zv_146.1)))) hO (je_callO (ja_cons (x := (eT (eT eI)) cut_105) (je_var rfl) (ja_cons (x := eI zv_146.1) (je_var rfl) (ja_cons (x := (eT eI) (gi wishes_3 zv_146.1)) (je_op (je_var rfl) (je_var rfl) (j2_ix (e := (eT eI)) (xs := wishes_3) sv_T p174.1)) ja_nil))) (fun C O Q E q => t_law_with cut_105 zv_146.1 (gi wishes_3 zv_146.1) p174.2 q)) ?_
        with_reducible refine v_cons ?_
        refine st_e (d := (.cel n164)) hO (je_var rfl) ?_
        with_reducible refine v_cons ?_
        refine st_n (ds := v115.2.1.map eI) hO (jn_list (e := eI) (xs := v115.2.1) (je_var rfl) (sv_C 2 rfl)) (fun n165 C hO => ?_)
        with_reducible refine v_cons ?_
        refine st_n (ds := [zv_146.1].map eI) hO (jn_lst (e := eI) (xs := [zv_146.1]) (ja_m1 (u := zv_146.1) (je_var rfl) ja_m0)) (fun n166 C hO => ?_)
        with_reducible refine v_nil ?_
        refine w_law_go hall_1 ranks_2 (v_law_with cut_105 zv_146.1 (gi wishes_3 zv_146.1)) v115.1 v115.2.1 [zv_146.1] (hO.get (k := 4) rfl) (hO.get (k := 5) rfl) (hO.get (k := 6) rfl) (nd_ne hO 4 5 rfl rfl) (nd_ne hO 4 6 rfl rfl) (nd_ne hO 5 6 rfl rfl) (bd_ap h) (fun v167 C u h => ?_)
        have hO := hO.up3 (k := 4) (j := 5) (i := 6) rfl rfl rfl u
        with_reducible refine v_ifI ?_
        have h := bd_ap h
        refine st_join h (fun (s171 : List Int) r' C' => ∃ (o11 : Option DL.D) (o12 : Option DL.D), r' = [some ((eT (eP2 eI (eT eI))) hall_1), some ((eL (eL eI)) ranks_2), some ((eT (eT eI)) wishes_3), some (eI mostv_4), some ((eT (eT eI)) cut_105), some (.cel n104), some (.cel n109), some (.cel n113), some (eI zv_146.1), some ((eO eI) zv_146.2), some (.cel n164), o11, o12] ∧ Own ⟨false, C0, [], [(n104, s171.map eI), (n109, v115.1.map (eO eI)), (n113, v115.2.1.map eI), (n114, v115.2.2.map eI), (n164, v167.1.map (eO eI)), (n165, v167.2.1.map eI), (n166, v167.2.2.map eI)]⟩ C') (fun Ks171 nx h hns171 => ?_) (fun s171 r' C hR h => ?_)
        · obtain ⟨p173, h⟩ := as_ap h
          with_reducible refine v_if ?_
          refine st_t hO (jt_test (je_op (je_op (je_var rfl) (je_var rfl) (j2_ix (e := (eO eI)) (xs := v167.1) (sv_C 4 rfl) p173)) je_c (j2_notN (e := eI) (v := (gi v167.1 zv_146.1))))) (ite_b (fun hc168 => ?_) (fun hc168 => ?_))
          · have h := it_ap hc168 h
            with_reducible refine v_drop ?_
            with_reducible refine v_ml ?_
            refine v_var rfl (opt_ok (lsD_at (hO.get (k := 0) rfl)) ?_)
            with_reducible refine v_cons ?_
            refine st_e (d := (eI zv_146.1)) hO (je_var rfl) ?_
            with_reducible refine v_nil ?_
            obtain ⟨p172, h⟩ := as_ap h
            refine xm_app (e := eI) (xs := s116) (v := zv_146.1) 0 hO rfl p172 (fun C hO => ?_)
            exact hns171 (s116 ++ [zv_146.1]) _ _ ⟨_, _, rfl, hO⟩ h
          · have h := if_ap hc168 h
            with_reducible refine v_next ?_
            exact hns171 s116 _ _ ⟨_, _, rfl, hO⟩ h
        obtain ⟨o11, o12, rfl, hO⟩ := hR
        exact hns162 s171 _ _ ⟨_, _, _, rfl, (hO.keep [0, 1, 2, 3])⟩ h
      · have h := if_ap hc148 h
        with_reducible refine v_next ?_
        exact hns162 s116 _ _ ⟨_, _, _, rfl, hO⟩ h
    obtain ⟨o10, o11, o12, rfl, hO⟩ := hR
    exact hns116 s162 _ _ ⟨_, _, _, _, _, rfl, hO⟩ h
  obtain ⟨o8, o9, o10, o11, o12, rfl, hO⟩ := hR
  with_reducible refine v_ret ?_
  refine st_e (d := ((eT eI) s116)) hO (je_cb (ja_cons (je_var rfl) ja_nil) (jf_tuple (e := eI) (xs := s116) (sv_C 0 rfl))) ?_
  exact hO.fin hlc (Cln.cl (e := (eT eI)) _ _) (fun C' u => hk _ C' u h)
theorem law_with_eq {ws : Wis} {x : Int} {v : List Int} (x0 : 0 ≤ x) (x1 : x < ws.length) : v_law_with ws x v = setI ws x v := cut_put x0 x1
theorem ok_law_with_of {ws : Wis} {x : Int} {v : List Int} (x0 : 0 ≤ x) (x1 : x < ws.length) (hl : ws.length ≤ 1000) : ok_law_with ws x v := by
  unfold ok_law_with
  rw [cut_hi _ x0, cut_lo _ (by omega)]
  simp only [List.length_append, List.length_take, List.length_drop, List.length_cons, List.length_nil]
  omega
theorem law_shut_out_k {hs : Hal} {n m : Int} {ws : Wis} {K : List Int → Prop} {X : XP} (H : HOk hs n) (W : WOk hs n ws) (m0 : 0 ≤ m) (hk : K (shutL hs n ws m)) : p_law_shut_out hs (v_law_ranks hs) ws m K X := by
  have wl := W.len
  have h40 := H.n40
  have n1 := H.n1
  have V := cutW_ok W m0
  have vl := V.len
  unfold p_law_shut_out
  refine as_mk (by unfold rgOk; omega) ?_
  obtain ⟨k, I⟩ := OffJ.start H V
  have e : (cutW ws m).length = ws.length := by unfold cutW; rw [List.length_map]
  rw [← repl_map, ← repl_map, e, repl_map, repl_map] at I
  refine bd_i (law_go_k H V I fun k' d at' J => ?_)
  have P := J.toOffI.done V
  have ed := bestOf_eq H V P
  have dl := P.len
  refine bd_i (forS_ok (fun i s => s = (irange 0 (i : Int)).filter (shutB hs n ws m)) rfl (fun i z s K2 hz hs' k2 => ?_) fun s hs' => ?_)
  · obtain ⟨ez, hi⟩ := enum_fold dl hz
    subst ez
    subst hs'
    dsimp only
    have hfl : ((irange 0 (i : Int)).filter (shutB hs n ws m)).length ≤ 40 := by
      refine Nat.le_trans (List.length_filter_le _ _) ?_
      rw [irange_len]
      omega
    have i0 : (0 : Int) ≤ (i : Int) := by omega
    refine bd_i (as_mk (fun _ => ⟨inb_of i0 (by omega), inb_of i0 (by show (i : Int) < ((cutW ws m).length : Int); omega)⟩) (iteM (fun hc => ?_) (fun hc => ?_)))
    · rw [Bool.and_eq_true] at hc
      have hn : gi d (i : Int) = none := by
        have := hc.1
        cases h : gi d (i : Int) with
        | none => rfl
        | some p => rw [h] at this; cases this
      have U := withL_ok W m0 (x := (i : Int)) i0 hi
      refine as_mk ⟨inb_of i0 (by omega), ok_law_with_of i0 (by show (i : Int) < ((cutW ws m).length : Int); omega) (by show (cutW ws m).length ≤ 1000; omega)⟩ ?_
      rw [show v_law_with (ws.map fun (w : List Int) => cut w none (some m)) (i : Int) (gi ws (i : Int)) = withL ws m (i : Int) from law_with_eq i0 (by show (i : Int) < ((cutW ws m).length : Int); omega)]
      have A : Agr n (cutW ws m) (withL ws m (i : Int)) at' := fun y y0 y1 => by
        have hab : 0 ≤ gi at' y ∧ gi at' y ≤ ((gi (cutW ws m) y).length : Int) := J.O.ab y y0 y1
        rw [withL_gi W i0 hi y0]
        split
        · rename_i h
          subst h
          rw [cutW_gi W m0 y0 y1] at hab ⊢
          rw [List.length_take] at hab
          refine ⟨by omega, ?_⟩
          rw [List.take_take]
          congr 1
          omega
        · exact ⟨hab.2, rfl⟩
      obtain ⟨k2', J2⟩ := J.go (fs := [(i : Int)]) U A (by simp) (fun y hy => by
        rw [List.mem_singleton.mp hy]
        exact ⟨⟨i0, hi⟩, hn⟩) fun y y0 y1 e => by
        by_cases h : y = (i : Int)
        · exact .inl (List.mem_singleton.mpr h)
        · refine .inr ?_
          rw [withL_gi W i0 hi y0, if_neg h]
          exact (J.hno y y0 y1 e).resolve_left fun z => (nomatch z)
      refine bd_i (law_go_k H U J2 fun k3 e3 at3 J3 => ?_)
      have Q := J3.toOffI.done U
      have ee := bestOf_eq H U Q
      have el := Q.len
      have eB : shutB hs n ws m (i : Int) = (gi e3 (i : Int)).isSome := by
        unfold shutB
        rw [← ed, ← ee, hn]
        rfl
      refine bd_i (as_mk (inb_of i0 (by show (i : Int) < (e3.length : Int); omega)) (iteM (fun h => ?_) (fun h => ?_)))
      · refine as_mk (by omega) (k2 _ ?_)
        rw [filt_succ, eB, h]
        rfl
      · refine k2 _ ?_
        rw [filt_succ, eB, h]
        simp
    · refine k2 _ ?_
      have eB : shutB hs n ws m (i : Int) = false := by
        unfold shutB
        rw [← ed]
        cases h : gi d (i : Int) with
        | some p => rfl
        | none =>
          rw [h] at hc
          have hc' := of_decide_eq_false (show decide (((gi (cutW ws m) (i : Int)).length : Int) < ((gi ws (i : Int)).length : Int)) = false from hc)
          have ew : withL ws m (i : Int) = cutW ws m := by
            refine list_ext_gi (by unfold withL; rw [set_len]) fun y y0 y1 => ?_
            rw [withL_gi W i0 hi y0]
            split
            · rename_i h
              subst h
              rw [cutW_gi W m0 i0 hi] at hc' ⊢
              rw [List.length_take] at hc'
              exact (List.take_of_length_le (by omega)).symm
            · rfl
          rw [ew, ← ed, h]
          rfl
      rw [filt_succ, eB]
      simp
  · subst hs'
    have : (enumI d).length = n.toNat := by
      rw [enumI_eq, List.length_map, irange_len]
      omega
    rw [this, Int.toNat_of_nonneg (by omega)]
    exact hk


def p_people_in (hall_1 : List (Int × (List Int))) : M Int :=
  M.as (inb hall_1.length 0) <|
  M.rt (((gi hall_1 0).2).length : Int)
def v_people_in (hall_1 : List (Int × (List Int))) : Int :=
  (((gi hall_1 0).2).length : Int)
def ok_people_in (hall_1 : List (Int × (List Int))) : Prop :=
  (inb hall_1.length 0)
theorem m_people_in (hall_1 : List (Int × (List Int))) (hs : ok_people_in hall_1) {K : Int → Prop} {X : XP} (hk : K (v_people_in hall_1)) : p_people_in hall_1 K X := by
  unfold p_people_in
  unfold ok_people_in at hs
  unfold v_people_in at hk
  refine as_mk hs ?_
  exact hk
theorem w_people_in {C0 : Cs} {Q : QD} {E : XQ} {K : Int → Prop} {X : XP} (hall_1 : List (Int × (List Int))) (h : p_people_in hall_1 K X) (hk : ∀ (v : Int) C', Up false [] C0 C' → K v → Q (eI v) C') : sp_people_in [(eT (eP2 eI (eT eI))) hall_1] C0 Q E := by
  intro hlo hlc
  have hO : Own ⟨false, C0, [], []⟩ C0 := Own.start
  unfold rd_people_in
  unfold p_people_in at h
  with_reducible refine v_ret ?_
  obtain ⟨p101, h⟩ := as_ap h
  refine st_e (d := (eI (((gi hall_1 0).2).length : Int))) hO (je_cb (ja_cons (je_op (je_op (je_var rfl) je_c (j2_ix (e := (eP2 eI (eT eI))) (xs := hall_1) sv_T p101)) je_c (j2_ixP (d := (eT eI) ((gi hall_1 0).2)) rfl)) ja_nil) (jf_len (e := eI) (xs := (gi hall_1 0).2) sv_T)) ?_
  exact hO.fin hlc (Cln.cl (e := eI) _ _) (fun C' u => hk _ C' u h)
theorem t_people_in {C0 : Cs} {Q : QD} {E : XQ} (hall_1 : List (Int × (List Int))) (hs : ok_people_in hall_1) (q : Q (eI (v_people_in hall_1)) C0) : sp_people_in [(eT (eP2 eI (eT eI))) hall_1] C0 Q E :=
  w_people_in (X := fun _ _ => False) (K := fun v => v = v_people_in hall_1) hall_1 (m_people_in hall_1 hs rfl) fun v C' u hv => by
    rw [up_eq0 u, hv]
    exact q
theorem people_in_eq {hs : Hal} {n : Int} (H : HOk hs n) : v_people_in hs = n := H.len0
theorem ok_people_in_of {hs : Hal} {n : Int} (H : HOk hs n) : ok_people_in hs := inb_of (by omega) (by have := H.p1; omega)


def p_is_integer (value_1 : D) : M Bool :=
  M.as ((isObj value_1 = false) ∧ ((tyB "int" value_1) = true → (isObj value_1 = false))) <|
  M.rt ((tyB "int" value_1) && (!(tyB "bool" value_1)))
def v_is_integer (value_1 : D) : Bool :=
  ((tyB "int" value_1) && (!(tyB "bool" value_1)))
def ok_is_integer (value_1 : D) : Prop :=
  ((isObj value_1 = false) ∧ ((tyB "int" value_1) = true → (isObj value_1 = false)))
theorem m_is_integer (value_1 : D) (hs : ok_is_integer value_1) {K : Bool → Prop} {X : XP} (hk : K (v_is_integer value_1)) : p_is_integer value_1 K X := by
  unfold p_is_integer
  unfold ok_is_integer at hs
  unfold v_is_integer at hk
  refine as_mk hs ?_
  exact hk
theorem w_is_integer {C0 : Cs} {Q : QD} {E : XQ} {K : Bool → Prop} {X : XP} (value_1 : D) (h : p_is_integer value_1 K X) (hk : ∀ (v : Bool) C', Up false [] C0 C' → K v → Q (eB v) C') : sp_is_integer [eD value_1] C0 Q E := by
  intro hlo hlc
  have hO : Own ⟨false, C0, [], []⟩ C0 := Own.start
  unfold rd_is_integer
  unfold p_is_integer at h
  with_reducible refine v_ret ?_
  obtain ⟨p103, h⟩ := as_ap h
  refine st_e (d := (eB ((tyB "int" value_1) && (!(tyB "bool" value_1))))) hO (je_and (je_isi (je_var rfl) (tyB_of (by decide) p103.1)) (fun hb102 => (je_not (je_isi (je_var rfl) (tyB_of (by decide) (p103.2 hb102)))))) ?_
  exact hO.fin hlc (Cln.cl (e := eB) _ _) (fun C' u => hk _ C' u h)
theorem t_is_integer {C0 : Cs} {Q : QD} {E : XQ} (value_1 : D) (hs : ok_is_integer value_1) (q : Q (eB (v_is_integer value_1)) C0) : sp_is_integer [eD value_1] C0 Q E :=
  w_is_integer (X := fun _ _ => False) (K := fun v => v = v_is_integer value_1) value_1 (m_is_integer value_1 hs rfl) fun v C' u hv => by
    rw [up_eq0 u, hv]
    exact q
theorem is_integer_eq (v : D) : v_is_integer v = intD v := by
  unfold v_is_integer
  cases v <;> rfl
theorem ok_is_integer_of {v : D} (h : isObj v = false) : ok_is_integer v := ⟨h, fun _ => h⟩


def p_is_index (value_1 : D) (many_2 : Int) : M Bool :=
  M.as ((ok_is_integer value_1) ∧ ((v_is_integer value_1) = true → (value_1 = eI (dI value_1)))) <|
  M.rt ((v_is_integer value_1) && (decide (0 ≤ (dI value_1)) && decide ((dI value_1) < many_2)))
def v_is_index (value_1 : D) (many_2 : Int) : Bool :=
  ((v_is_integer value_1) && (decide (0 ≤ (dI value_1)) && decide ((dI value_1) < many_2)))
def ok_is_index (value_1 : D) (many_2 : Int) : Prop :=
  ((ok_is_integer value_1) ∧ ((v_is_integer value_1) = true → (value_1 = eI (dI value_1))))
theorem m_is_index (value_1 : D) (many_2 : Int) (hs : ok_is_index value_1 many_2) {K : Bool → Prop} {X : XP} (hk : K (v_is_index value_1 many_2)) : p_is_index value_1 many_2 K X := by
  unfold p_is_index
  unfold ok_is_index at hs
  unfold v_is_index at hk
  refine as_mk hs ?_
  exact hk
theorem w_is_index {C0 : Cs} {Q : QD} {E : XQ} {K : Bool → Prop} {X : XP} (value_1 : D) (many_2 : Int) (h : p_is_index value_1 many_2 K X) (hk : ∀ (v : Bool) C', Up false [] C0 C' → K v → Q (eB v) C') : sp_is_index [eD value_1, eI many_2] C0 Q E := by
  intro hlo hlc
  have hO : Own ⟨false, C0, [], []⟩ C0 := Own.start
  unfold rd_is_index
  unfold p_is_index at h
  with_reducible refine v_ret ?_
  obtain ⟨p105, h⟩ := as_ap h
  refine st_e (d := (eB ((v_is_integer value_1) && (decide (0 ≤ (dI value_1)) && decide ((dI value_1) < many_2))))) hO (je_and (je_callO (ja_cons (x := eD value_1) (je_var rfl) ja_nil) (fun C O Q E q => t_is_integer value_1 p105.1 q)) (fun hb103 => (je_chain je_c (je_cast (p105.2 hb103) (je_var rfl)) j2_le (fun hc104 => (je_var rfl)) (fun hc104 => j2_lt)))) ?_
  exact hO.fin hlc (Cln.cl (e := eB) _ _) (fun C' u => hk _ C' u h)
theorem t_is_index {C0 : Cs} {Q : QD} {E : XQ} (value_1 : D) (many_2 : Int) (hs : ok_is_index value_1 many_2) (q : Q (eB (v_is_index value_1 many_2)) C0) : sp_is_index [eD value_1, eI many_2] C0 Q E :=
  w_is_index (X := fun _ _ => False) (K := fun v => v = v_is_index value_1 many_2) value_1 many_2 (m_is_index value_1 many_2 hs rfl) fun v C' u hv => by
    rw [up_eq0 u, hv]
    exact q
def idxD (v : D) (m : Int) : Bool := match v with
  | .int i => decide (0 ≤ i ∧ i < m)
  | _ => false
theorem is_index_eq (v : D) (m : Int) : v_is_index v m = idxD v m := by
  unfold v_is_index
  rw [is_integer_eq]
  cases v <;> first | rfl | skip
  rename_i i
  show (true && (decide (0 ≤ i) && decide (i < m))) = decide (0 ≤ i ∧ i < m)
  by_cases h1 : 0 ≤ i <;> by_cases h2 : i < m <;> simp [h1, h2]
theorem ok_is_index_of {v : D} (m : Int) (h : isObj v = false) : ok_is_index v m := ⟨ok_is_integer_of h, fun hi => by
  rw [is_integer_eq] at hi
  cases v <;> first | rfl | cases hi⟩


def p_is_dealing (hall_1 : List (Int × (List Int))) (value_2 : D) : M Bool :=
  M.as ((isObj value_2 = false) ∧ ((!(tyB "tuple" value_2)) = false → ((isSqD value_2 = true) ∧ (ok_people_in hall_1)))) <|
  if ((!(tyB "tuple" value_2)) || (!decide (((sqs value_2).length : Int) = (v_people_in hall_1)))) = true then
  M.rt false
  else
  M.as ((isSqD value_2 = true) ∧ (∀ one_107, one_107 ∈ (sqs value_2) → ((isNon one_107) = false → (ok_is_index one_107 (hall_1.length : Int))))) <|
  M.rt (((sqs value_2).map (fun (one_107 : D) => ((isNon one_107) || (v_is_index one_107 (hall_1.length : Int))))).all id)
def v_is_dealing (hall_1 : List (Int × (List Int))) (value_2 : D) : Bool :=
  if ((!(tyB "tuple" value_2)) || (!decide (((sqs value_2).length : Int) = (v_people_in hall_1)))) = true then
  false
  else
  (((sqs value_2).map (fun (one_103 : D) => ((isNon one_103) || (v_is_index one_103 (hall_1.length : Int))))).all id)
def ok_is_dealing (hall_1 : List (Int × (List Int))) (value_2 : D) : Prop :=
  (((isObj value_2 = false) ∧ ((!(tyB "tuple" value_2)) = false → ((isSqD value_2 = true) ∧ (ok_people_in hall_1))))) ∧ ((((!(tyB "tuple" value_2)) || (!decide (((sqs value_2).length : Int) = (v_people_in hall_1)))) = false → ((isSqD value_2 = true) ∧ (∀ one_103, one_103 ∈ (sqs value_2) → ((isNon one_103) = false → (ok_is_index one_103 (hall_1.length : Int)))))))
theorem m_is_dealing (hall_1 : List (Int × (List Int))) (value_2 : D) (hs : ok_is_dealing hall_1 value_2) {K : Bool → Prop} {X : XP} (hk : K (v_is_dealing hall_1 value_2)) : p_is_dealing hall_1 value_2 K X := by
  unfold p_is_dealing
  unfold ok_is_dealing at hs
  unfold v_is_dealing at hk
  obtain ⟨hp, hs⟩ := hs
  refine as_mk hp ?_
  have hb := hs
  refine iteM (fun hc102 => ?_) (fun hc102 => ?_)
  · have hk := itv_t hc102 hk
    exact hk
  · have hk := itv_f hc102 hk
    have hs := hb hc102
    refine as_mk hs ?_
    exact hk
theorem w_is_dealing {C0 : Cs} {Q : QD} {E : XQ} {K : Bool → Prop} {X : XP} (hall_1 : List (Int × (List Int))) (value_2 : D) (h : p_is_dealing hall_1 value_2 K X) (hk : ∀ (v : Bool) C', Up false [] C0 C' → K v → Q (eB v) C') : sp_is_dealing [(eT (eP2 eI (eT eI))) hall_1, eD value_2] C0 Q E := by
  intro hlo hlc
  have hO : Own ⟨false, C0, [], []⟩ C0 := Own.start
  unfold rd_is_dealing
  unfold p_is_dealing at h
  with_reducible refine v_seq ?_
  obtain ⟨p112, h⟩ := as_ap h
  with_reducible refine v_if ?_
  refine st_t hO (jt_or (jt_not (jt_test (je_isi (je_var rfl) (tyB_of (by decide) p112.1)))) (fun hb102 => (jt_test (je_op (je_cb (ja_cons (je_var rfl) ja_nil) (jf_lenD (p112.2 hb102).1)) (je_callO (ja_cons (x := (eT (eP2 eI (eT eI))) hall_1) (je_var rfl) ja_nil) (fun C O Q E q => t_people_in hall_1 (p112.2 hb102).2 q)) (j2_ne (e := eI) (u := ((sqs value_2).length : Int)) (v := (v_people_in hall_1))))))) (ite_b (fun hc101 => ?_) (fun hc101 => ?_))
  · have h := it_ap hc101 h
    with_reducible refine v_ret ?_
    refine st_e (d := (eB false)) hO je_c ?_
    exact hO.fin hlc (Cln.cl (e := eB) _ _) (fun C' u => hk _ C' u h)
  · have h := if_ap hc101 h
    with_reducible refine v_next ?_
    with_reducible refine v_ret ?_
    obtain ⟨p111, h⟩ := as_ap h
    refine st_e (d := (eB (((sqs value_2).map (fun (one_107 : D) => ((isNon one_107) || (v_is_index one_107 (hall_1.length : Int))))).all id))) hO (je_cb (ja_cons (je_lc0 (e := eD) (f := eB) (ji_D (je_var rfl) p111.1) (fun one_107 => jg_n) (fun (one_107 : D) => ((isNon one_107) || (v_is_index one_107 (hall_1.length : Int)))) (fun one_107 hx108 => (je_or (je_op (je_var rfl) je_c j2_isD) (fun hb110 => (je_callO (ja_cons (x := eD one_107) (je_var rfl) (ja_cons (x := eI (hall_1.length : Int)) (je_cb (ja_cons (je_var rfl) ja_nil) (jf_len (e := (eP2 eI (eT eI))) (xs := hall_1) sv_T)) ja_nil)) (fun C O Q E q => t_is_index one_107 (hall_1.length : Int) ((p111.2 one_107 hx108) hb110) q)))))) ja_nil) (jf_all (bs := ((sqs value_2).map (fun (one_107 : D) => ((isNon one_107) || (v_is_index one_107 (hall_1.length : Int)))))) lv_L)) ?_
    exact hO.fin hlc (Cln.cl (e := eB) _ _) (fun C' u => hk _ C' u h)
theorem t_is_dealing {C0 : Cs} {Q : QD} {E : XQ} (hall_1 : List (Int × (List Int))) (value_2 : D) (hs : ok_is_dealing hall_1 value_2) (q : Q (eB (v_is_dealing hall_1 value_2)) C0) : sp_is_dealing [(eT (eP2 eI (eT eI))) hall_1, eD value_2] C0 Q E :=
  w_is_dealing (X := fun _ _ => False) (K := fun v => v = v_is_dealing hall_1 value_2) hall_1 value_2 (m_is_dealing hall_1 value_2 hs rfl) fun v C' u hv => by
    rw [up_eq0 u, hv]
    exact q
theorem is_dealing_eT {hs : Hal} {n : Int} {dl : Dea} (H : HOk hs n) : v_is_dealing hs (eT (eO eI) dl) = true ↔ DOk hs n dl := by
  unfold v_is_dealing
  rw [people_in_eq H, all_id]
  have e0 : tyB "tuple" (eT (eO eI) dl) = true := by
    unfold tyB eT
    rw [iT_tuple_tup]
    rfl
  have el : (sqs (eT (eO eI) dl)) = dl.map (eO eI) := rfl
  rw [e0, el, List.length_map]
  have e2 : ((dl.map (eO eI)).all fun one => (DL.isNon one || v_is_index one (hs.length : Int))) = true ↔ ∀ x p : Int, 0 ≤ x → x < dl.length → gi dl x = some p → 0 ≤ p ∧ p < hs.length := by
    rw [List.all_map, List.all_eq_true]
    constructor
    · intro h x p x0 x1 e
      have := h (gi dl x) (gi_in x0 x1)
      rw [e] at this
      have t2 : (DL.isNon (.int p) || v_is_index (.int p) (hs.length : Int)) = true := this
      rw [is_index_eq] at t2
      exact of_decide_eq_true t2
    · intro h d hd
      cases d with
      | none => rfl
      | some p =>
        obtain ⟨i, hi⟩ := List.mem_iff_getElem?.mp hd
        have hil := (List.getElem?_eq_some_iff.mp hi).1
        have := h i p (by omega) (by omega) (by rw [gi_ofNat, List.getD_eq_getElem?_getD, hi]; rfl)
        show (DL.isNon (.int p) || v_is_index (.int p) (hs.length : Int)) = true
        rw [is_index_eq]
        exact decide_eq_true this
  constructor
  · intro h
    split at h
    · cases h
    · rename_i h1
      have hl : (dl.length : Int) = n := by
        simpa using h1
      exact ⟨hl, fun x p x0 x1 => e2.mp h x p x0 (by omega)⟩
  · intro d
    rw [e2.mpr fun x p x0 x1 => d.pl x p x0 (by have := d.len; omega)]
    simp [d.len]
theorem ok_is_dealing_eT {hs : Hal} {n : Int} (H : HOk hs n) (dl : Dea) : ok_is_dealing hs (eT (eO eI) dl) := by
  refine ⟨⟨rfl, fun _ => ⟨rfl, ok_people_in_of H⟩⟩, fun _ => ⟨rfl, fun one h1 _ => ?_⟩⟩
  obtain ⟨d, _, rfl⟩ := List.mem_map.mp h1
  exact ok_is_index_of _ (by cases d <;> rfl)


def p_those_at (dealing_1 : List (Option Int)) (place_2 : Int) : M (List Int) :=
  M.rt (((enumI dealing_1).filter (fun (zv_104 : Int × (Option Int)) => decide (zv_104.2 = (some place_2)))).map (fun (zv_104 : Int × (Option Int)) => zv_104.1))
def v_those_at (dealing_1 : List (Option Int)) (place_2 : Int) : (List Int) :=
  (((enumI dealing_1).filter (fun (zv_101 : Int × (Option Int)) => decide (zv_101.2 = (some place_2)))).map (fun (zv_101 : Int × (Option Int)) => zv_101.1))
theorem m_those_at (dealing_1 : List (Option Int)) (place_2 : Int) {K : (List Int) → Prop} {X : XP} (hk : K (v_those_at dealing_1 place_2)) : p_those_at dealing_1 place_2 K X := by
  unfold p_those_at
  unfold v_those_at at hk
  exact hk
theorem w_those_at {C0 : Cs} {Q : QD} {E : XQ} {K : (List Int) → Prop} {X : XP} (dealing_1 : List (Option Int)) (place_2 : Int) (h : p_those_at dealing_1 place_2 K X) (hk : ∀ (v : List Int) C', Up false [] C0 C' → K v → Q ((eT eI) v) C') : sp_those_at [(eT (eO eI)) dealing_1, eI place_2] C0 Q E := by
  intro hlo hlc
  have hO : Own ⟨false, C0, [], []⟩ C0 := Own.start
  unfold rd_those_at
  unfold p_those_at at h
  with_reducible refine v_ret ?_
  refine st_e (d := ((eT eI) (((enumI dealing_1).filter (fun (zv_104 : Int × (Option Int)) => decide (zv_104.2 = (some place_2)))).map (fun (zv_104 : Int × (Option Int)) => zv_104.1)))) hO (je_cb (ja_cons (je_lc (e := (eP2 eI (eO eI))) (f := eI) (ji_enu (e := (eO eI)) (xs := dealing_1) (je_var rfl) sv_T) (fun zv_104 => (jg_tup (jg_cons jg_n (jg_cons jg_n jg_nil)) rfl)) (fun (zv_104 : Int × (Option Int)) => decide (zv_104.2 = (some place_2))) (fun (zv_104 : Int × (Option Int)) => zv_104.1) (fun zv_104 hx105 => (jt_test (je_op (je_var rfl) (je_var rfl) (j2_eq (e := (eO eI)) (u := zv_104.2) (v := (some place_2)))))) (fun zv_104 hx105 hp106 => (je_var rfl))) ja_nil) (jf_tuple (e := eI) (xs := (((enumI dealing_1).filter (fun (zv_104 : Int × (Option Int)) => decide (zv_104.2 = (some place_2)))).map (fun (zv_104 : Int × (Option Int)) => zv_104.1))) sv_L)) ?_
  exact hO.fin hlc (Cln.cl (e := (eT eI)) _ _) (fun C' u => hk _ C' u h)
theorem t_those_at {C0 : Cs} {Q : QD} {E : XQ} (dealing_1 : List (Option Int)) (place_2 : Int) (q : Q ((eT eI) (v_those_at dealing_1 place_2)) C0) : sp_those_at [(eT (eO eI)) dealing_1, eI place_2] C0 Q E :=
  w_those_at (X := fun _ _ => False) (K := fun v => v = v_those_at dealing_1 place_2) dealing_1 place_2 (m_those_at dealing_1 place_2 rfl) fun v C' u hv => by
    rw [up_eq0 u, hv]
    exact q
theorem those_at_eq (dl : Dea) (p : Int) : v_those_at dl p = atD dl p := by
  unfold v_those_at atD
  rw [enumI_eq, List.filter_map, List.map_map]
  exact List.map_id _


def p_filled (hall_1 : List (Int × (List Int))) (dealing_2 : List (Option Int)) : M (List Int) :=
  M.as (-(2 ^ 62) ≤ (hall_1.length : Int) ∧ (hall_1.length : Int) ≤ 2 ^ 24) <|
  M.rt ((irange 0 (hall_1.length : Int)).map (fun (place_104 : Int) => ((v_those_at dealing_2 place_104).length : Int)))
def v_filled (hall_1 : List (Int × (List Int))) (dealing_2 : List (Option Int)) : (List Int) :=
  ((irange 0 (hall_1.length : Int)).map (fun (place_101 : Int) => ((v_those_at dealing_2 place_101).length : Int)))
def ok_filled (hall_1 : List (Int × (List Int))) (dealing_2 : List (Option Int)) : Prop :=
  (-(2 ^ 62) ≤ (hall_1.length : Int) ∧ (hall_1.length : Int) ≤ 2 ^ 24)
theorem m_filled (hall_1 : List (Int × (List Int))) (dealing_2 : List (Option Int)) (hs : ok_filled hall_1 dealing_2) {K : (List Int) → Prop} {X : XP} (hk : K (v_filled hall_1 dealing_2)) : p_filled hall_1 dealing_2 K X := by
  unfold p_filled
  unfold ok_filled at hs
  unfold v_filled at hk
  refine as_mk hs ?_
  exact hk
theorem w_filled {C0 : Cs} {Q : QD} {E : XQ} {K : (List Int) → Prop} {X : XP} (hall_1 : List (Int × (List Int))) (dealing_2 : List (Option Int)) (h : p_filled hall_1 dealing_2 K X) (hk : ∀ (v : List Int) C', Up false [] C0 C' → K v → Q ((eT eI) v) C') : sp_filled [(eT (eP2 eI (eT eI))) hall_1, (eT (eO eI)) dealing_2] C0 Q E := by
  intro hlo hlc
  have hO : Own ⟨false, C0, [], []⟩ C0 := Own.start
  unfold rd_filled
  unfold p_filled at h
  with_reducible refine v_ret ?_
  obtain ⟨p107, h⟩ := as_ap h
  refine st_e (d := ((eT eI) ((irange 0 (hall_1.length : Int)).map (fun (place_104 : Int) => ((v_those_at dealing_2 place_104).length : Int))))) hO (je_cb (ja_cons (je_lc0 (e := eI) (f := eI) (ji_r1 (je_cb (ja_cons (je_var rfl) ja_nil) (jf_len (e := (eP2 eI (eT eI))) (xs := hall_1) sv_T)) p107) (fun place_104 => jg_n) (fun (place_104 : Int) => ((v_those_at dealing_2 place_104).length : Int)) (fun place_104 hx105 => (je_cb (ja_cons (je_callO (ja_cons (x := (eT (eO eI)) dealing_2) (je_var rfl) (ja_cons (x := eI place_104) (je_var rfl) ja_nil)) (fun C O Q E q => t_those_at dealing_2 place_104 q)) ja_nil) (jf_len (e := eI) (xs := (v_those_at dealing_2 place_104)) sv_T)))) ja_nil) (jf_tuple (e := eI) (xs := ((irange 0 (hall_1.length : Int)).map (fun (place_104 : Int) => ((v_those_at dealing_2 place_104).length : Int)))) sv_L)) ?_
  exact hO.fin hlc (Cln.cl (e := (eT eI)) _ _) (fun C' u => hk _ C' u h)
theorem t_filled {C0 : Cs} {Q : QD} {E : XQ} (hall_1 : List (Int × (List Int))) (dealing_2 : List (Option Int)) (hs : ok_filled hall_1 dealing_2) (q : Q ((eT eI) (v_filled hall_1 dealing_2)) C0) : sp_filled [(eT (eP2 eI (eT eI))) hall_1, (eT (eO eI)) dealing_2] C0 Q E :=
  w_filled (X := fun _ _ => False) (K := fun v => v = v_filled hall_1 dealing_2) hall_1 dealing_2 (m_filled hall_1 dealing_2 hs rfl) fun v C' u hv => by
    rw [up_eq0 u, hv]
    exact q
theorem filled_eq (hs : Hal) (dl : Dea) : v_filled hs dl = (irange 0 (hs.length : Int)).map fun p => ((atD dl p).length : Int) := by
  unfold v_filled
  exact List.map_congr_left fun p _ => by rw [those_at_eq]
theorem ok_filled_of {hs : Hal} {n : Int} (H : HOk hs n) (dl : Dea) : ok_filled hs dl := by
  have := H.p12
  unfold ok_filled
  omega


def p_fits (hall_1 : List (Int × (List Int))) (wishes_2 : List (List Int)) (dealing_3 : List (Option Int)) : M Bool :=
  M.as (∀ zv_102, zv_102 ∈ (enumI dealing_3) → (zv_102.2.isNone = false → (inb wishes_2.length zv_102.1))) <|
  if (!(((enumI dealing_3).map (fun (zv_102 : Int × (Option Int)) => (zv_102.2.isNone || (decide ((og zv_102.2) ∈ (gi wishes_2 zv_102.1)))))).all id)) = true then
  M.rt false
  else
  M.as (ok_filled hall_1 dealing_3) <|
  M.rt ((((v_filled hall_1 dealing_3).zip hall_1).map (fun (zv_109 : Int × (Int × (List Int))) => decide (zv_109.1 ≤ zv_109.2.1))).all id)
def v_fits (hall_1 : List (Int × (List Int))) (wishes_2 : List (List Int)) (dealing_3 : List (Option Int)) : Bool :=
  if (!(((enumI dealing_3).map (fun (zv_101 : Int × (Option Int)) => (zv_101.2.isNone || (decide ((og zv_101.2) ∈ (gi wishes_2 zv_101.1)))))).all id)) = true then
  false
  else
  ((((v_filled hall_1 dealing_3).zip hall_1).map (fun (zv_106 : Int × (Int × (List Int))) => decide (zv_106.1 ≤ zv_106.2.1))).all id)
def ok_fits (hall_1 : List (Int × (List Int))) (wishes_2 : List (List Int)) (dealing_3 : List (Option Int)) : Prop :=
  ((∀ zv_101, zv_101 ∈ (enumI dealing_3) → (zv_101.2.isNone = false → (inb wishes_2.length zv_101.1)))) ∧ (((!(((enumI dealing_3).map (fun (zv_101 : Int × (Option Int)) => (zv_101.2.isNone || (decide ((og zv_101.2) ∈ (gi wishes_2 zv_101.1)))))).all id)) = false → (ok_filled hall_1 dealing_3)))
theorem m_fits (hall_1 : List (Int × (List Int))) (wishes_2 : List (List Int)) (dealing_3 : List (Option Int)) (hs : ok_fits hall_1 wishes_2 dealing_3) {K : Bool → Prop} {X : XP} (hk : K (v_fits hall_1 wishes_2 dealing_3)) : p_fits hall_1 wishes_2 dealing_3 K X := by
  unfold p_fits
  unfold ok_fits at hs
  unfold v_fits at hk
  obtain ⟨hp, hs⟩ := hs
  refine as_mk hp ?_
  have hb := hs
  refine iteM (fun hc105 => ?_) (fun hc105 => ?_)
  · have hk := itv_t hc105 hk
    exact hk
  · have hk := itv_f hc105 hk
    have hs := hb hc105
    refine as_mk hs ?_
    exact hk
theorem w_fits {C0 : Cs} {Q : QD} {E : XQ} {K : Bool → Prop} {X : XP} (hall_1 : List (Int × (List Int))) (wishes_2 : List (List Int)) (dealing_3 : List (Option Int)) (h : p_fits hall_1 wishes_2 dealing_3 K X) (hk : ∀ (v : Bool) C', Up false [] C0 C' → K v → Q (eB v) C') : sp_fits [(eT (eP2 eI (eT eI))) hall_1, (eT (eT eI)) wishes_2, (eT (eO eI)) dealing_3] C0 Q E := by
  intro hlo hlc
  have hO : Own ⟨false, C0, [], []⟩ C0 := Own.start
  unfold rd_fits
  unfold p_fits at h
  with_reducible refine v_seq ?_
  obtain ⟨p113, h⟩ := as_ap h
  with_reducible refine v_if ?_
  refine st_t hO (jt_not (jt_test (je_cb (ja_cons (je_lc0 (e := (eP2 eI (eO eI))) (f := eB) (ji_enu (e := (eO eI)) (xs := dealing_3) (je_var rfl) sv_T) (fun zv_102 => (jg_tup (jg_cons jg_n (jg_cons jg_n jg_nil)) rfl)) (fun (zv_102 : Int × (Option Int)) => (zv_102.2.isNone || (decide ((og zv_102.2) ∈ (gi wishes_2 zv_102.1))))) (fun zv_102 hx103 => (je_or (je_op (je_var rfl) je_c (j2_isN (e := eI) (v := zv_102.2))) (fun hb105 => (je_op (je_og (isn_f hb105) (je_var rfl)) (je_op (je_var rfl) (je_var rfl) (j2_ix (e := (eT eI)) (xs := wishes_2) sv_T ((p113 zv_102 hx103) hb105))) (j2_in (e := eI) (u := (og zv_102.2)) (xs := (gi wishes_2 zv_102.1)) sv_T)))))) ja_nil) (jf_all (bs := ((enumI dealing_3).map (fun (zv_102 : Int × (Option Int)) => (zv_102.2.isNone || (decide ((og zv_102.2) ∈ (gi wishes_2 zv_102.1))))))) lv_L)))) (ite_b (fun hc101 => ?_) (fun hc101 => ?_))
  · have h := it_ap hc101 h
    with_reducible refine v_ret ?_
    refine st_e (d := (eB false)) hO je_c ?_
    exact hO.fin hlc (Cln.cl (e := eB) _ _) (fun C' u => hk _ C' u h)
  · have h := if_ap hc101 h
    with_reducible refine v_next ?_
    with_reducible refine v_ret ?_
    obtain ⟨p112, h⟩ := as_ap h
    refine st_e (d := (eB ((((v_filled hall_1 dealing_3).zip hall_1).map (fun (zv_109 : Int × (Int × (List Int))) => decide (zv_109.1 ≤ zv_109.2.1))).all id))) hO (je_cb (ja_cons (je_lc0 (e := (eP2 eI (eP2 eI (eT eI)))) (f := eB) (ji_zip (e := eI) (f := (eP2 eI (eT eI))) (xs := (v_filled hall_1 dealing_3)) (ys := hall_1) (je_callO (ja_cons (x := (eT (eP2 eI (eT eI))) hall_1) (je_var rfl) (ja_cons (x := (eT (eO eI)) dealing_3) (je_var rfl) ja_nil)) (fun C O Q E q => t_filled hall_1 dealing_3 p112 q)) (je_var rfl) sv_T sv_T) (fun zv_109 => (jg_tup (jg_cons jg_n (jg_cons jg_n jg_nil)) rfl)) (fun (zv_109 : Int × (Int × (List Int))) => decide (zv_109.1 ≤ zv_109.2.1)) (fun zv_109 hx110 => (je_op (je_var rfl) (je_op (je_var rfl) je_c (j2_ixP (d := eI zv_109.2.1) rfl)) j2_le))) ja_nil) (jf_all (bs := (((v_filled hall_1 dealing_3).zip hall_1).map (fun (zv_109 : Int × (Int × (List Int))) => decide (zv_109.1 ≤ zv_109.2.1)))) lv_L)) ?_
    exact hO.fin hlc (Cln.cl (e := eB) _ _) (fun C' u => hk _ C' u h)
theorem t_fits {C0 : Cs} {Q : QD} {E : XQ} (hall_1 : List (Int × (List Int))) (wishes_2 : List (List Int)) (dealing_3 : List (Option Int)) (hs : ok_fits hall_1 wishes_2 dealing_3) (q : Q (eB (v_fits hall_1 wishes_2 dealing_3)) C0) : sp_fits [(eT (eP2 eI (eT eI))) hall_1, (eT (eT eI)) wishes_2, (eT (eO eI)) dealing_3] C0 Q E :=
  w_fits (X := fun _ _ => False) (K := fun v => v = v_fits hall_1 wishes_2 dealing_3) hall_1 wishes_2 dealing_3 (m_fits hall_1 wishes_2 dealing_3 hs rfl) fun v C' u hv => by
    rw [up_eq0 u, hv]
    exact q
theorem fits_eq {hs : Hal} {n : Int} {ws : Wis} {dl : Dea} (hl : (dl.length : Int) = n) : v_fits hs ws dl = true ↔ Fits hs n ws dl := by
  unfold v_fits
  simp only [all_id]
  have e1 : ((enumI dl).all fun (z : Int × (Option Int)) => (z.2.isNone || (decide ((og z.2) ∈ (gi ws z.1))))) = true ↔ ∀ x p : Int, 0 ≤ x → x < n → gi dl x = some p → p ∈ gi ws x := by
    rw [List.all_eq_true]
    constructor
    · intro h x p x0 x1 e
      have := h (x, gi dl x) (mem_enumI.mpr ⟨x0, by omega, rfl⟩)
      rw [e] at this
      exact of_decide_eq_true (show decide (p ∈ gi ws x) = true from this)
    · intro h z hz
      obtain ⟨z0, z1, z2⟩ := mem_enumI.mp hz
      cases e : z.2 with
      | none => rfl
      | some p => exact (show decide (p ∈ gi ws z.1) = true from decide_eq_true (h z.1 p z0 (by omega) (by rw [← z2, e])))
  have e2 : (((v_filled hs dl).zip hs).all fun (z : Int × (Int × (List Int))) => decide (z.1 ≤ z.2.1)) = true ↔ ∀ p : Int, 0 ≤ p → p < hs.length → ((atD dl p).length : Int) ≤ sea hs p := by
    have ez : (v_filled hs dl).zip hs = (irange 0 (hs.length : Int)).map fun p => (((atD dl p).length : Int), gi hs p) := by
      rw [filled_eq]
      conv => lhs; arg 2; rw [list_eq_map hs]
      rw [List.zip_map']
    rw [ez, List.all_map, List.all_eq_true]
    constructor
    · intro h p p0 p1
      have := h p (mem_irange.mpr ⟨p0, p1⟩)
      exact of_decide_eq_true this
    · intro h p hp
      obtain ⟨p0, p1⟩ := mem_irange.mp hp
      exact decide_eq_true (h p p0 p1)
  constructor
  · intro h
    split at h
    · cases h
    · rename_i h1
      rw [Bool.not_eq_true', Bool.not_eq_false] at h1
      exact ⟨hl, e1.mp h1, e2.mp h⟩
  · intro F
    rw [e1.mpr F.wish, e2.mpr F.room]
    rfl
theorem ok_fits_of {hs : Hal} {n : Int} {ws : Wis} {dl : Dea} (H : HOk hs n) (W : WOk hs n ws) (hl : (dl.length : Int) = n) : ok_fits hs ws dl :=
  ⟨fun z hz _ => by
    obtain ⟨z0, z1, z2⟩ := mem_enumI.mp hz
    exact inb_of z0 (by have := W.len; omega), fun _ => ok_filled_of H dl⟩


def p_place_in_list (wishes_1 : List (List Int)) (person_2 : Int) (xv_3 : Option Int) : M Int :=
  if xv_3.isNone = true then
  M.as (inb wishes_1.length person_2) <|
  M.rt ((gi wishes_1 person_2).length : Int)
  else
  M.as ((inb wishes_1.length person_2) ∧ ((decide ((og xv_3) ∈ (gi wishes_1 person_2))) = true → ((inb wishes_1.length person_2) ∧ ((og xv_3) ∈ (gi wishes_1 person_2)))) ∧ ((decide ((og xv_3) ∈ (gi wishes_1 person_2))) = false → (inb wishes_1.length person_2))) <|
  M.rt (if decide ((og xv_3) ∈ (gi wishes_1 person_2)) = true then (((gi wishes_1 person_2).idxOf (og xv_3) : Nat) : Int) else (((gi wishes_1 person_2).length : Int) + 1))
def v_place_in_list (wishes_1 : List (List Int)) (person_2 : Int) (xv_3 : Option Int) : Int :=
  if xv_3.isNone = true then
  ((gi wishes_1 person_2).length : Int)
  else
  (if decide ((og xv_3) ∈ (gi wishes_1 person_2)) = true then (((gi wishes_1 person_2).idxOf (og xv_3) : Nat) : Int) else (((gi wishes_1 person_2).length : Int) + 1))
def ok_place_in_list (wishes_1 : List (List Int)) (person_2 : Int) (xv_3 : Option Int) : Prop :=
  ((xv_3.isNone = true → (inb wishes_1.length person_2))) ∧ ((xv_3.isNone = false → ((inb wishes_1.length person_2) ∧ ((decide ((og xv_3) ∈ (gi wishes_1 person_2))) = true → ((inb wishes_1.length person_2) ∧ ((og xv_3) ∈ (gi wishes_1 person_2)))) ∧ ((decide ((og xv_3) ∈ (gi wishes_1 person_2))) = false → (inb wishes_1.length person_2)))))
theorem m_place_in_list (wishes_1 : List (List Int)) (person_2 : Int) (xv_3 : Option Int) (hs : ok_place_in_list wishes_1 person_2 xv_3) {K : Int → Prop} {X : XP} (hk : K (v_place_in_list wishes_1 person_2 xv_3)) : p_place_in_list wishes_1 person_2 xv_3 K X := by
  unfold p_place_in_list
  unfold ok_place_in_list at hs
  unfold v_place_in_list at hk
  obtain ⟨ha, hb⟩ := hs
  refine iteM (fun hc101 => ?_) (fun hc101 => ?_)
  · have hk := itv_t hc101 hk
    have hs := ha hc101
    refine as_mk hs ?_
    exact hk
  · have hk := itv_f hc101 hk
    have hs := hb hc101
    refine as_mk hs ?_
    exact hk
theorem w_place_in_list {C0 : Cs} {Q : QD} {E : XQ} {K : Int → Prop} {X : XP} (wishes_1 : List (List Int)) (person_2 : Int) (xv_3 : Option Int) (h : p_place_in_list wishes_1 person_2 xv_3 K X) (hk : ∀ (v : Int) C', Up false [] C0 C' → K v → Q (eI v) C') : sp_place_in_list [(eT (eT eI)) wishes_1, eI person_2, (eO eI) xv_3] C0 Q E := by
  intro hlo hlc
  have hO : Own ⟨false, C0, [], []⟩ C0 := Own.start
  unfold rd_place_in_list
  unfold p_place_in_list at h
  with_reducible refine v_seq ?_
  with_reducible refine v_if ?_
  refine st_t hO (jt_test (je_op (je_var rfl) je_c (j2_isN (e := eI) (v := xv_3)))) (ite_b (fun hc101 => ?_) (fun hc101 => ?_))
  · have h := it_ap hc101 h
    with_reducible refine v_ret ?_
    obtain ⟨p102, h⟩ := as_ap h
    refine st_e (d := (eI ((gi wishes_1 person_2).length : Int))) hO (je_cb (ja_cons (je_op (je_var rfl) (je_var rfl) (j2_ix (e := (eT eI)) (xs := wishes_1) sv_T p102)) ja_nil) (jf_len (e := eI) (xs := (gi wishes_1 person_2)) sv_T)) ?_
    exact hO.fin hlc (Cln.cl (e := eI) _ _) (fun C' u => hk _ C' u h)
  · have h := if_ap hc101 h
    with_reducible refine v_next ?_
    with_reducible refine v_ret ?_
    obtain ⟨p105, h⟩ := as_ap h
    refine st_e (d := (eI (if decide ((og xv_3) ∈ (gi wishes_1 person_2)) = true then (((gi wishes_1 person_2).idxOf (og xv_3) : Nat) : Int) else (((gi wishes_1 person_2).length : Int) + 1)))) hO (je_if (e := eI) (u := (((gi wishes_1 person_2).idxOf (og xv_3) : Nat) : Int)) (v := (((gi wishes_1 person_2).length : Int) + 1)) (jt_test (je_op (je_og (isn_f hc101) (je_var rfl)) (je_op (je_var rfl) (je_var rfl) (j2_ix (e := (eT eI)) (xs := wishes_1) sv_T p105.1)) (j2_in (e := eI) (u := (og xv_3)) (xs := (gi wishes_1 person_2)) sv_T))) (fun hi104 => (je_mt (je_op (je_var rfl) (je_var rfl) (j2_ix (e := (eT eI)) (xs := wishes_1) sv_T (p105.2.1 hi104).1)) rfl (ja_cons (x := eI (og xv_3)) (je_og (isn_f hc101) (je_var rfl)) ja_nil) (jm_idxT (p105.2.1 hi104).2))) (fun hi104 => (je_op (je_cb (ja_cons (je_op (je_var rfl) (je_var rfl) (j2_ix (e := (eT eI)) (xs := wishes_1) sv_T (p105.2.2 hi104))) ja_nil) (jf_len (e := eI) (xs := (gi wishes_1 person_2)) sv_T)) je_c j2_add))) ?_
    exact hO.fin hlc (Cln.cl (e := eI) _ _) (fun C' u => hk _ C' u h)
theorem t_place_in_list {C0 : Cs} {Q : QD} {E : XQ} (wishes_1 : List (List Int)) (person_2 : Int) (xv_3 : Option Int) (hs : ok_place_in_list wishes_1 person_2 xv_3) (q : Q (eI (v_place_in_list wishes_1 person_2 xv_3)) C0) : sp_place_in_list [(eT (eT eI)) wishes_1, eI person_2, (eO eI) xv_3] C0 Q E :=
  w_place_in_list (X := fun _ _ => False) (K := fun v => v = v_place_in_list wishes_1 person_2 xv_3) wishes_1 person_2 xv_3 (m_place_in_list wishes_1 person_2 xv_3 hs rfl) fun v C' u hv => by
    rw [up_eq0 u, hv]
    exact q
theorem place_in_list_eq (ws : Wis) (x : Int) (d : Option Int) : v_place_in_list ws x d = spo (gi ws x) d := by
  cases d with
  | none => rfl
  | some p =>
    show (if decide (p ∈ gi ws x) = true then _ else _) = if p ∈ gi ws x then _ else _
    simp only [decide_eq_true_eq]
    rfl
theorem ok_place_in_list_of {hs : Hal} {n x : Int} {ws : Wis} (W : WOk hs n ws) (x0 : 0 ≤ x) (x1 : x < n) (d : Option Int) : ok_place_in_list ws x d := by
  have hb : inb ws.length x := inb_of x0 (by have := W.len; omega)
  cases d with
  | none => simp [ok_place_in_list, hb, og]
  | some q => simp [ok_place_in_list, hb, og]; exact of_decide_eq_true


def p_likes_better (wishes_1 : List (List Int)) (person_2 : Int) (one_3 : Option Int) (other_4 : Option Int) : M Bool :=
  M.as ((ok_place_in_list wishes_1 person_2 one_3) ∧ (ok_place_in_list wishes_1 person_2 other_4)) <|
  M.rt (decide ((v_place_in_list wishes_1 person_2 one_3) < (v_place_in_list wishes_1 person_2 other_4)))
def v_likes_better (wishes_1 : List (List Int)) (person_2 : Int) (one_3 : Option Int) (other_4 : Option Int) : Bool :=
  decide ((v_place_in_list wishes_1 person_2 one_3) < (v_place_in_list wishes_1 person_2 other_4))
def ok_likes_better (wishes_1 : List (List Int)) (person_2 : Int) (one_3 : Option Int) (other_4 : Option Int) : Prop :=
  ((ok_place_in_list wishes_1 person_2 one_3) ∧ (ok_place_in_list wishes_1 person_2 other_4))
theorem m_likes_better (wishes_1 : List (List Int)) (person_2 : Int) (one_3 : Option Int) (other_4 : Option Int) (hs : ok_likes_better wishes_1 person_2 one_3 other_4) {K : Bool → Prop} {X : XP} (hk : K (v_likes_better wishes_1 person_2 one_3 other_4)) : p_likes_better wishes_1 person_2 one_3 other_4 K X := by
  unfold p_likes_better
  unfold ok_likes_better at hs
  unfold v_likes_better at hk
  refine as_mk hs ?_
  exact hk
theorem w_likes_better {C0 : Cs} {Q : QD} {E : XQ} {K : Bool → Prop} {X : XP} (wishes_1 : List (List Int)) (person_2 : Int) (one_3 : Option Int) (other_4 : Option Int) (h : p_likes_better wishes_1 person_2 one_3 other_4 K X) (hk : ∀ (v : Bool) C', Up false [] C0 C' → K v → Q (eB v) C') : sp_likes_better [(eT (eT eI)) wishes_1, eI person_2, (eO eI) one_3, (eO eI) other_4] C0 Q E := by
  intro hlo hlc
  have hO : Own ⟨false, C0, [], []⟩ C0 := Own.start
  unfold rd_likes_better
  unfold p_likes_better at h
  with_reducible refine v_ret ?_
  obtain ⟨p101, h⟩ := as_ap h
  refine st_e (d := (eB (decide ((v_place_in_list wishes_1 person_2 one_3) < (v_place_in_list wishes_1 person_2 other_4))))) hO (je_op (je_callO (ja_cons (x := (eT (eT eI)) wishes_1) (je_var rfl) (ja_cons (x := eI person_2) (je_var rfl) (ja_cons (x := (eO eI) one_3) (je_var rfl) ja_nil))) (fun C O Q E q => t_place_in_list wishes_1 person_2 one_3 p101.1 q)) (je_callO (ja_cons (x := (eT (eT eI)) wishes_1) (je_var rfl) (ja_cons (x := eI person_2) (je_var rfl) (ja_cons (x := (eO eI) other_4) (je_var rfl) ja_nil))) (fun C O Q E q => t_place_in_list wishes_1 person_2 other_4 p101.2 q)) j2_lt) ?_
  exact hO.fin hlc (Cln.cl (e := eB) _ _) (fun C' u => hk _ C' u h)
theorem t_likes_better {C0 : Cs} {Q : QD} {E : XQ} (wishes_1 : List (List Int)) (person_2 : Int) (one_3 : Option Int) (other_4 : Option Int) (hs : ok_likes_better wishes_1 person_2 one_3 other_4) (q : Q (eB (v_likes_better wishes_1 person_2 one_3 other_4)) C0) : sp_likes_better [(eT (eT eI)) wishes_1, eI person_2, (eO eI) one_3, (eO eI) other_4] C0 Q E :=
  w_likes_better (X := fun _ _ => False) (K := fun v => v = v_likes_better wishes_1 person_2 one_3 other_4) wishes_1 person_2 one_3 other_4 (m_likes_better wishes_1 person_2 one_3 other_4 hs rfl) fun v C' u hv => by
    rw [up_eq0 u, hv]
    exact q
theorem likes_better_eq (ws : Wis) (x : Int) (d e : Option Int) : v_likes_better ws x d e = decide (spo (gi ws x) d < spo (gi ws x) e) := by
  unfold v_likes_better
  rw [place_in_list_eq, place_in_list_eq]
theorem ok_likes_better_of {hs : Hal} {n x : Int} {ws : Wis} (W : WOk hs n ws) (x0 : 0 ≤ x) (x1 : x < n) (d e : Option Int) : ok_likes_better ws x d e := ⟨ok_place_in_list_of W x0 x1 d, ok_place_in_list_of W x0 x1 e⟩


def p_is_ahead (hall_1 : List (Int × (List Int))) (place_2 : Int) (one_3 : Int) (other_4 : Int) : M Bool :=
  M.as ((ok_rank hall_1 place_2 one_3) ∧ (ok_rank hall_1 place_2 other_4)) <|
  M.rt (decide ((v_rank hall_1 place_2 one_3) < (v_rank hall_1 place_2 other_4)))
def v_is_ahead (hall_1 : List (Int × (List Int))) (place_2 : Int) (one_3 : Int) (other_4 : Int) : Bool :=
  decide ((v_rank hall_1 place_2 one_3) < (v_rank hall_1 place_2 other_4))
def ok_is_ahead (hall_1 : List (Int × (List Int))) (place_2 : Int) (one_3 : Int) (other_4 : Int) : Prop :=
  ((ok_rank hall_1 place_2 one_3) ∧ (ok_rank hall_1 place_2 other_4))
theorem m_is_ahead (hall_1 : List (Int × (List Int))) (place_2 : Int) (one_3 : Int) (other_4 : Int) (hs : ok_is_ahead hall_1 place_2 one_3 other_4) {K : Bool → Prop} {X : XP} (hk : K (v_is_ahead hall_1 place_2 one_3 other_4)) : p_is_ahead hall_1 place_2 one_3 other_4 K X := by
  unfold p_is_ahead
  unfold ok_is_ahead at hs
  unfold v_is_ahead at hk
  refine as_mk hs ?_
  exact hk
theorem w_is_ahead {C0 : Cs} {Q : QD} {E : XQ} {K : Bool → Prop} {X : XP} (hall_1 : List (Int × (List Int))) (place_2 : Int) (one_3 : Int) (other_4 : Int) (h : p_is_ahead hall_1 place_2 one_3 other_4 K X) (hk : ∀ (v : Bool) C', Up false [] C0 C' → K v → Q (eB v) C') : sp_is_ahead [(eT (eP2 eI (eT eI))) hall_1, eI place_2, eI one_3, eI other_4] C0 Q E := by
  intro hlo hlc
  have hO : Own ⟨false, C0, [], []⟩ C0 := Own.start
  unfold rd_is_ahead
  unfold p_is_ahead at h
  with_reducible refine v_ret ?_
  obtain ⟨p101, h⟩ := as_ap h
  refine st_e (d := (eB (decide ((v_rank hall_1 place_2 one_3) < (v_rank hall_1 place_2 other_4))))) hO (je_op (je_callO (ja_cons (x := (eT (eP2 eI (eT eI))) hall_1) (je_var rfl) (ja_cons (x := eI place_2) (je_var rfl) (ja_cons (x := eI one_3) (je_var rfl) ja_nil))) (fun C O Q E q => t_rank hall_1 place_2 one_3 p101.1 q)) (je_callO (ja_cons (x := (eT (eP2 eI (eT eI))) hall_1) (je_var rfl) (ja_cons (x := eI place_2) (je_var rfl) (ja_cons (x := eI other_4) (je_var rfl) ja_nil))) (fun C O Q E q => t_rank hall_1 place_2 other_4 p101.2 q)) j2_lt) ?_
  exact hO.fin hlc (Cln.cl (e := eB) _ _) (fun C' u => hk _ C' u h)
theorem t_is_ahead {C0 : Cs} {Q : QD} {E : XQ} (hall_1 : List (Int × (List Int))) (place_2 : Int) (one_3 : Int) (other_4 : Int) (hs : ok_is_ahead hall_1 place_2 one_3 other_4) (q : Q (eB (v_is_ahead hall_1 place_2 one_3 other_4)) C0) : sp_is_ahead [(eT (eP2 eI (eT eI))) hall_1, eI place_2, eI one_3, eI other_4] C0 Q E :=
  w_is_ahead (X := fun _ _ => False) (K := fun v => v = v_is_ahead hall_1 place_2 one_3 other_4) hall_1 place_2 one_3 other_4 (m_is_ahead hall_1 place_2 one_3 other_4 hs rfl) fun v C' u hv => by
    rw [up_eq0 u, hv]
    exact q
theorem is_ahead_eq (hs : Hal) (p x y : Int) : v_is_ahead hs p x y = decide (rk hs p x < rk hs p y) := rfl
theorem ok_is_ahead_of {hs : Hal} {n p x y : Int} (H : HOk hs n) (p0 : 0 ≤ p) (p1 : p < hs.length) (x0 : 0 ≤ x) (x1 : x < n) (y0 : 0 ≤ y) (y1 : y < n) : ok_is_ahead hs p x y := ⟨ok_rank_of H p0 p1 x0 x1, ok_rank_of H p0 p1 y0 y1⟩


def p_would_enter (hall_1 : List (Int × (List Int))) (dealing_2 : List (Option Int)) (person_3 : Int) (place_4 : Int) : M Bool :=
  let held_101 : List Int := (v_those_at dealing_2 place_4)
  M.as ((inb hall_1.length place_4) ∧ ((decide ((held_101.length : Int) < (gi hall_1 place_4).1)) = false → (∀ one_107, one_107 ∈ held_101 → (ok_is_ahead hall_1 place_4 person_3 one_107)))) <|
  M.rt ((decide ((held_101.length : Int) < (gi hall_1 place_4).1)) || ((held_101.map (fun (one_107 : Int) => (v_is_ahead hall_1 place_4 person_3 one_107))).any id))
def v_would_enter (hall_1 : List (Int × (List Int))) (dealing_2 : List (Option Int)) (person_3 : Int) (place_4 : Int) : Bool :=
  let held_101 : List Int := (v_those_at dealing_2 place_4)
  ((decide ((held_101.length : Int) < (gi hall_1 place_4).1)) || ((held_101.map (fun (one_103 : Int) => (v_is_ahead hall_1 place_4 person_3 one_103))).any id))
def ok_would_enter (hall_1 : List (Int × (List Int))) (dealing_2 : List (Option Int)) (person_3 : Int) (place_4 : Int) : Prop :=
  (let held_101 : List Int := (v_those_at dealing_2 place_4)
  ((inb hall_1.length place_4) ∧ ((decide ((held_101.length : Int) < (gi hall_1 place_4).1)) = false → (∀ one_103, one_103 ∈ held_101 → (ok_is_ahead hall_1 place_4 person_3 one_103)))))
theorem m_would_enter (hall_1 : List (Int × (List Int))) (dealing_2 : List (Option Int)) (person_3 : Int) (place_4 : Int) (hs : ok_would_enter hall_1 dealing_2 person_3 place_4) {K : Bool → Prop} {X : XP} (hk : K (v_would_enter hall_1 dealing_2 person_3 place_4)) : p_would_enter hall_1 dealing_2 person_3 place_4 K X := by
  unfold p_would_enter
  unfold ok_would_enter at hs
  unfold v_would_enter at hk
  refine as_mk hs ?_
  exact hk
theorem w_would_enter {C0 : Cs} {Q : QD} {E : XQ} {K : Bool → Prop} {X : XP} (hall_1 : List (Int × (List Int))) (dealing_2 : List (Option Int)) (person_3 : Int) (place_4 : Int) (h : p_would_enter hall_1 dealing_2 person_3 place_4 K X) (hk : ∀ (v : Bool) C', Up false [] C0 C' → K v → Q (eB v) C') : sp_would_enter [(eT (eP2 eI (eT eI))) hall_1, (eT (eO eI)) dealing_2, eI person_3, eI place_4] C0 Q E := by
  intro hlo hlc
  have hO : Own ⟨false, C0, [], []⟩ C0 := Own.start
  unfold rd_would_enter
  unfold p_would_enter at h
  with_reducible refine v_seq ?_
  with_reducible refine v_set ?_
  refine st_e (d := ((eT eI) (v_those_at dealing_2 place_4))) hO (je_callO (ja_cons (x := (eT (eO eI)) dealing_2) (je_var rfl) (ja_cons (x := eI place_4) (je_var rfl) ja_nil)) (fun C O Q E q => t_those_at dealing_2 place_4 q)) ?_
  let held_101 : List Int := (v_those_at dealing_2 place_4)
  with_reducible refine v_ret ?_
  obtain ⟨p110, h⟩ := as_ap h
  refine st_e (d := (eB ((decide ((held_101.length : Int) < (gi hall_1 place_4).1)) || ((held_101.map (fun (one_107 : Int) => (v_is_ahead hall_1 place_4 person_3 one_107))).any id)))) hO (je_or (je_op (je_cb (ja_cons (je_var rfl) ja_nil) (jf_len (e := eI) (xs := held_101) sv_T)) (je_op (je_op (je_var rfl) (je_var rfl) (j2_ix (e := (eP2 eI (eT eI))) (xs := hall_1) sv_T p110.1)) je_c (j2_ixP (d := eI ((gi hall_1 place_4).1)) rfl)) j2_lt) (fun hb106 => (je_cb (ja_cons (je_lc0 (e := eI) (f := eB) (ji_seq (ds := held_101.map eI) (je_var rfl) sv_T) (fun one_107 => jg_n) (fun (one_107 : Int) => (v_is_ahead hall_1 place_4 person_3 one_107)) (fun one_107 hx108 => (je_callO (ja_cons (x := (eT (eP2 eI (eT eI))) hall_1) (je_var rfl) (ja_cons (x := eI place_4) (je_var rfl) (ja_cons (x := eI person_3) (je_var rfl) (ja_cons (x := eI one_107) (je_var rfl) ja_nil)))) (fun C O Q E q => t_is_ahead hall_1 place_4 person_3 one_107 ((p110.2 hb106) one_107 hx108) q)))) ja_nil) (jf_any (bs := (held_101.map (fun (one_107 : Int) => (v_is_ahead hall_1 place_4 person_3 one_107)))) lv_L)))) ?_
  exact hO.fin hlc (Cln.cl (e := eB) _ _) (fun C' u => hk _ C' u h)
theorem t_would_enter {C0 : Cs} {Q : QD} {E : XQ} (hall_1 : List (Int × (List Int))) (dealing_2 : List (Option Int)) (person_3 : Int) (place_4 : Int) (hs : ok_would_enter hall_1 dealing_2 person_3 place_4) (q : Q (eB (v_would_enter hall_1 dealing_2 person_3 place_4)) C0) : sp_would_enter [(eT (eP2 eI (eT eI))) hall_1, (eT (eO eI)) dealing_2, eI person_3, eI place_4] C0 Q E :=
  w_would_enter (X := fun _ _ => False) (K := fun v => v = v_would_enter hall_1 dealing_2 person_3 place_4) hall_1 dealing_2 person_3 place_4 (m_would_enter hall_1 dealing_2 person_3 place_4 hs rfl) fun v C' u hv => by
    rw [up_eq0 u, hv]
    exact q
theorem would_enter_eq (hs : Hal) (dl : Dea) (x p : Int) : v_would_enter hs dl x p = decide (Ent hs dl x p) := by
  unfold v_would_enter
  simp only [those_at_eq, any_id]
  rw [Bool.eq_iff_iff, decide_eq_true_eq (p := Ent hs dl x p)]
  simp [Ent, sea, is_ahead_eq]
theorem ok_would_enter_of {hs : Hal} {n x p : Int} {dl : Dea} (H : HOk hs n) (hl : (dl.length : Int) = n) (p0 : 0 ≤ p) (p1 : p < hs.length) (x0 : 0 ≤ x) (x1 : x < n) : ok_would_enter hs dl x p := by
  unfold ok_would_enter
  simp only [those_at_eq]
  refine ⟨inb_of p0 p1, fun _ y hy => ?_⟩
  obtain ⟨y0, y1, _⟩ := mem_atD.mp hy
  exact ok_is_ahead_of H p0 p1 x0 x1 y0 (by omega)


def p_is_blocking (hall_1 : List (Int × (List Int))) (wishes_2 : List (List Int)) (dealing_3 : List (Option Int)) (person_4 : Int) (place_5 : Int) : M Bool :=
  M.as ((inb dealing_3.length person_4) ∧ (ok_likes_better wishes_2 person_4 (some place_5) (gi dealing_3 person_4))) <|
  if (!(v_likes_better wishes_2 person_4 (some place_5) (gi dealing_3 person_4))) = true then
  M.rt false
  else
  M.as (ok_would_enter hall_1 dealing_3 person_4 place_5) <|
  M.rt (v_would_enter hall_1 dealing_3 person_4 place_5)
def v_is_blocking (hall_1 : List (Int × (List Int))) (wishes_2 : List (List Int)) (dealing_3 : List (Option Int)) (person_4 : Int) (place_5 : Int) : Bool :=
  if (!(v_likes_better wishes_2 person_4 (some place_5) (gi dealing_3 person_4))) = true then
  false
  else
  (v_would_enter hall_1 dealing_3 person_4 place_5)
def ok_is_blocking (hall_1 : List (Int × (List Int))) (wishes_2 : List (List Int)) (dealing_3 : List (Option Int)) (person_4 : Int) (place_5 : Int) : Prop :=
  (((inb dealing_3.length person_4) ∧ (ok_likes_better wishes_2 person_4 (some place_5) (gi dealing_3 person_4)))) ∧ (((!(v_likes_better wishes_2 person_4 (some place_5) (gi dealing_3 person_4))) = false → (ok_would_enter hall_1 dealing_3 person_4 place_5)))
theorem m_is_blocking (hall_1 : List (Int × (List Int))) (wishes_2 : List (List Int)) (dealing_3 : List (Option Int)) (person_4 : Int) (place_5 : Int) (hs : ok_is_blocking hall_1 wishes_2 dealing_3 person_4 place_5) {K : Bool → Prop} {X : XP} (hk : K (v_is_blocking hall_1 wishes_2 dealing_3 person_4 place_5)) : p_is_blocking hall_1 wishes_2 dealing_3 person_4 place_5 K X := by
  unfold p_is_blocking
  unfold ok_is_blocking at hs
  unfold v_is_blocking at hk
  obtain ⟨hp, hs⟩ := hs
  refine as_mk hp ?_
  have hb := hs
  refine iteM (fun hc101 => ?_) (fun hc101 => ?_)
  · have hk := itv_t hc101 hk
    exact hk
  · have hk := itv_f hc101 hk
    have hs := hb hc101
    refine as_mk hs ?_
    exact hk
theorem w_is_blocking {C0 : Cs} {Q : QD} {E : XQ} {K : Bool → Prop} {X : XP} (hall_1 : List (Int × (List Int))) (wishes_2 : List (List Int)) (dealing_3 : List (Option Int)) (person_4 : Int) (place_5 : Int) (h : p_is_blocking hall_1 wishes_2 dealing_3 person_4 place_5 K X) (hk : ∀ (v : Bool) C', Up false [] C0 C' → K v → Q (eB v) C') : sp_is_blocking [(eT (eP2 eI (eT eI))) hall_1, (eT (eT eI)) wishes_2, (eT (eO eI)) dealing_3, eI person_4, eI place_5] C0 Q E := by
  intro hlo hlc
  have hO : Own ⟨false, C0, [], []⟩ C0 := Own.start
  unfold rd_is_blocking
  unfold p_is_blocking at h
  with_reducible refine v_seq ?_
  obtain ⟨p103, h⟩ := as_ap h
  with_reducible refine v_if ?_
  refine st_t hO (jt_not (jt_test (je_callO (ja_cons (x := (eT (eT eI)) wishes_2) (je_var rfl) (ja_cons (x := eI person_4) (je_var rfl) (ja_cons (x := (eO eI) (some place_5)) (je_var rfl) (ja_cons (x := (eO eI) (gi dealing_3 person_4)) (je_op (je_var rfl) (je_var rfl) (j2_ix (e := (eO eI)) (xs := dealing_3) sv_T p103.1)) ja_nil)))) (fun C O Q E q => t_likes_better wishes_2 person_4 (some place_5) (gi dealing_3 person_4) p103.2 q)))) (ite_b (fun hc101 => ?_) (fun hc101 => ?_))
  · have h := it_ap hc101 h
    with_reducible refine v_ret ?_
    refine st_e (d := (eB false)) hO je_c ?_
    exact hO.fin hlc (Cln.cl (e := eB) _ _) (fun C' u => hk _ C' u h)
  · have h := if_ap hc101 h
    with_reducible refine v_next ?_
    with_reducible refine v_ret ?_
    obtain ⟨p102, h⟩ := as_ap h
    refine st_e (d := (eB (v_would_enter hall_1 dealing_3 person_4 place_5))) hO (je_callO (ja_cons (x := (eT (eP2 eI (eT eI))) hall_1) (je_var rfl) (ja_cons (x := (eT (eO eI)) dealing_3) (je_var rfl) (ja_cons (x := eI person_4) (je_var rfl) (ja_cons (x := eI place_5) (je_var rfl) ja_nil)))) (fun C O Q E q => t_would_enter hall_1 dealing_3 person_4 place_5 p102 q)) ?_
    exact hO.fin hlc (Cln.cl (e := eB) _ _) (fun C' u => hk _ C' u h)
theorem t_is_blocking {C0 : Cs} {Q : QD} {E : XQ} (hall_1 : List (Int × (List Int))) (wishes_2 : List (List Int)) (dealing_3 : List (Option Int)) (person_4 : Int) (place_5 : Int) (hs : ok_is_blocking hall_1 wishes_2 dealing_3 person_4 place_5) (q : Q (eB (v_is_blocking hall_1 wishes_2 dealing_3 person_4 place_5)) C0) : sp_is_blocking [(eT (eP2 eI (eT eI))) hall_1, (eT (eT eI)) wishes_2, (eT (eO eI)) dealing_3, eI person_4, eI place_5] C0 Q E :=
  w_is_blocking (X := fun _ _ => False) (K := fun v => v = v_is_blocking hall_1 wishes_2 dealing_3 person_4 place_5) hall_1 wishes_2 dealing_3 person_4 place_5 (m_is_blocking hall_1 wishes_2 dealing_3 person_4 place_5 hs rfl) fun v C' u hv => by
    rw [up_eq0 u, hv]
    exact q
theorem is_blocking_eq (hs : Hal) (ws : Wis) (dl : Dea) (x p : Int) : v_is_blocking hs ws dl x p = decide (Blk hs ws dl x p) := by
  unfold v_is_blocking
  rw [likes_better_eq, would_enter_eq]
  by_cases h : spo (gi ws x) (some p) < spo (gi ws x) (gi dl x) <;> simp [Blk, h]
theorem ok_is_blocking_of {hs : Hal} {n x p : Int} {ws : Wis} {dl : Dea} (H : HOk hs n) (W : WOk hs n ws) (hl : (dl.length : Int) = n) (p0 : 0 ≤ p) (p1 : p < hs.length) (x0 : 0 ≤ x) (x1 : x < n) : ok_is_blocking hs ws dl x p :=
  ⟨⟨inb_of x0 (by omega), ok_likes_better_of W x0 x1 _ _⟩, fun _ => ok_would_enter_of H hl p0 p1 x0 x1⟩


def p_blocking_pairs (hall_1 : List (Int × (List Int))) (wishes_2 : List (List Int)) (dealing_3 : List (Option Int)) : M (List (Int × Int)) :=
  M.as ((ok_people_in hall_1) ∧ (-(2 ^ 62) ≤ (v_people_in hall_1) ∧ (v_people_in hall_1) ≤ 2 ^ 24)) <|
  M.bd (forS (irange 0 (v_people_in hall_1)) (([] : List (Int × Int)) : List (Int × Int)) fun s102 person_121 =>
  M.as (-(2 ^ 62) ≤ (hall_1.length : Int) ∧ (hall_1.length : Int) ≤ 2 ^ 24) <|
  M.bd (forS (irange 0 (hall_1.length : Int)) (s102 : List (Int × Int)) fun s123 place_131 =>
  M.bd (M.as (ok_is_blocking hall_1 wishes_2 dealing_3 person_121 place_131) <|
  if (v_is_blocking hall_1 wishes_2 dealing_3 person_121 place_131) = true then
  M.as (s123.length < 100000) <|
  M.rt (s123 ++ [(person_121, place_131)])
  else
  M.rt s123 : M (List (Int × Int))) fun s136 =>
  M.rt s136) fun s123 =>
  M.rt s123) fun s102 =>
  M.rt s102
def v_blocking_pairs (hall_1 : List (Int × (List Int))) (wishes_2 : List (List Int)) (dealing_3 : List (Option Int)) : (List (Int × Int)) :=
  let found_105 : List (Int × Int) := ((irange 0 (v_people_in hall_1)).flatMap fun (person_101 : Int) =>
  ((irange 0 (hall_1.length : Int)).flatMap fun (place_102 : Int) =>
  (if (v_is_blocking hall_1 wishes_2 dealing_3 person_101 place_102) = true then
  [(person_101, place_102)]
  else [])))
  found_105
def ok_blocking_pairs (hall_1 : List (Int × (List Int))) (wishes_2 : List (List Int)) (dealing_3 : List (Option Int)) : Prop :=
  (((ok_people_in hall_1) ∧ (-(2 ^ 62) ≤ (v_people_in hall_1) ∧ (v_people_in hall_1) ≤ 2 ^ 24))) ∧ (((∀ person_101, person_101 ∈ (irange 0 (v_people_in hall_1)) → ((-(2 ^ 62) ≤ (hall_1.length : Int) ∧ (hall_1.length : Int) ≤ 2 ^ 24)) ∧ ((∀ place_102, place_102 ∈ (irange 0 (hall_1.length : Int)) → (ok_is_blocking hall_1 wishes_2 dealing_3 person_101 place_102))))) ∧ ((((irange 0 (v_people_in hall_1)).flatMap fun (person_101 : Int) =>
  ((irange 0 (hall_1.length : Int)).flatMap fun (place_102 : Int) =>
  (if (v_is_blocking hall_1 wishes_2 dealing_3 person_101 place_102) = true then
  [(person_101, place_102)]
  else [])))).length ≤ 100000))
theorem m_blocking_pairs (hall_1 : List (Int × (List Int))) (wishes_2 : List (List Int)) (dealing_3 : List (Option Int)) (hs : ok_blocking_pairs hall_1 wishes_2 dealing_3) {K : (List (Int × Int)) → Prop} {X : XP} (hk : K (v_blocking_pairs hall_1 wishes_2 dealing_3)) : p_blocking_pairs hall_1 wishes_2 dealing_3 K X := by
  unfold p_blocking_pairs
  unfold ok_blocking_pairs at hs
  unfold v_blocking_pairs at hk
  obtain ⟨hp, hs⟩ := hs
  refine as_mk hp ?_
  obtain ⟨hs0, hs⟩ := hs
  have hl := hs
  refine bd_i (forS_app (g := fun (person_101 : Int) => ((irange 0 (hall_1.length : Int)).flatMap fun (place_102 : Int) =>
  (if (v_is_blocking hall_1 wishes_2 dealing_3 person_101 place_102) = true then
  [(person_101, place_102)]
  else []))) (len_0 hl) (fun person_101 hx106 acc K1 hb hk1 => ?_) ?_)
  · have hs := hs0 person_101 hx106
    obtain ⟨hp, hs⟩ := hs
    refine as_mk hp ?_
    have hs0 := hs
    refine bd_i (forS_app (g := fun (place_102 : Int) => (if (v_is_blocking hall_1 wishes_2 dealing_3 person_101 place_102) = true then
  [(person_101, place_102)]
  else [])) hb (fun place_102 hx104 acc K1 hb hk1 => ?_) hk1)
    have hs := hs0 place_102 hx104
    refine as_mk hs ?_
    refine bd_i (iteM (fun hc103 => ?_) (fun hc103 => ?_))
    · have hk1 := app_t hc103 hk1
      have hb := len_t hc103 hb
      exact as_mk (app_lt hb) hk1
    · have hk1 := app_f hc103 hk1
      have hb := len_f hc103 hb
      exact app_n hk1
  exact hk
theorem w_blocking_pairs {C0 : Cs} {Q : QD} {E : XQ} {K : (List (Int × Int)) → Prop} {X : XP} (hall_1 : List (Int × (List Int))) (wishes_2 : List (List Int)) (dealing_3 : List (Option Int)) (h : p_blocking_pairs hall_1 wishes_2 dealing_3 K X) (hk : ∀ (v : List (Int × Int)) C', Up false [] C0 C' → K v → Q ((eT (eP2 eI eI)) v) C') : sp_blocking_pairs [(eT (eP2 eI (eT eI))) hall_1, (eT (eT eI)) wishes_2, (eT (eO eI)) dealing_3] C0 Q E := by
  intro hlo hlc
  have hO : Own ⟨false, C0, [], []⟩ C0 := Own.start
  unfold rd_blocking_pairs
  unfold p_blocking_pairs at h
  with_reducible refine v_seq ?_
  with_reducible refine v_set ?_
  refine st_n (ds := ([] : List (Int × Int)).map (eP2 eI eI)) hO (jn_lst (e := (eP2 eI eI)) (xs := []) ja_m0) (fun n101 C hO => ?_)
  with_reducible refine v_seq ?_
  obtain ⟨p140, h⟩ := as_ap h
  with_reducible refine v_forI ?_
  have h := bd_ap h
  refine st_forS hO (ji_r1 (je_callO (ja_cons (x := (eT (eP2 eI (eT eI))) hall_1) (je_var rfl) ja_nil) (fun C O Q E q => t_people_in hall_1 p140.1 q)) p140.2) h (fun (s102 : List (Int × Int)) r' C' => ∃ (o4 : Option DL.D) (o5 : Option DL.D), r' = [some ((eT (eP2 eI (eT eI))) hall_1), some ((eT (eT eI)) wishes_2), some ((eT (eO eI)) dealing_3), some (.cel n101), o4, o5] ∧ Own ⟨false, C0, [], [(n101, s102.map (eP2 eI eI))]⟩ C') ⟨_, _, rfl, hO⟩ (fun _ _ _ _ => trivial) (fun s102 person_121 hx122 r' C Ks102 nx bk hR h hns102 => ?_) (fun s102 r' C hR h => ?_)
  · obtain ⟨o4, o5, rfl, hO⟩ := hR
    refine st_g jg_n ?_
    obtain ⟨p139, h⟩ := as_ap h
    with_reducible refine v_forI ?_
    have h := bd_ap h
    refine st_forS hO (ji_r1 (je_cb (ja_cons (je_var rfl) ja_nil) (jf_len (e := (eP2 eI (eT eI))) (xs := hall_1) sv_T)) p139) h (fun (s123 : List (Int × Int)) r' C' => ∃ (o5 : Option DL.D), r' = [some ((eT (eP2 eI (eT eI))) hall_1), some ((eT (eT eI)) wishes_2), some ((eT (eO eI)) dealing_3), some (.cel n101), some (eI person_121), o5] ∧ Own ⟨false, C0, [], [(n101, s123.map (eP2 eI eI))]⟩ C') ⟨_, rfl, hO⟩ (fun _ _ _ _ => trivial) (fun s123 place_131 hx132 r' C Ks123 nx bk hR h hns123 => ?_) (fun s123 r' C hR h => ?_)
    · obtain ⟨o5, rfl, hO⟩ := hR
      refine st_g jg_n ?_
      with_reducible refine v_ifI ?_
      have h := bd_ap h
      refine st_join h (fun (s136 : List (Int × Int)) r' C' => r' = [some ((eT (eP2 eI (eT eI))) hall_1), some ((eT (eT eI)) wishes_2), some ((eT (eO eI)) dealing_3), some (.cel n101), some (eI person_121), some (eI place_131)] ∧ Own ⟨false, C0, [], [(n101, s136.map (eP2 eI eI))]⟩ C') (fun Ks136 nx h hns136 => ?_) (fun s136 r' C hR h => ?_)
      · obtain ⟨p138, h⟩ := as_ap h
        with_reducible refine v_if ?_
        refine st_t hO (jt_test (je_callO (ja_cons (x := (eT (eP2 eI (eT eI))) hall_1) (je_var rfl) (ja_cons (x := (eT (eT eI)) wishes_2) (je_var rfl) (ja_cons (x := (eT (eO eI)) dealing_3) (je_var rfl) (ja_cons (x := eI person_121) (je_var rfl) (ja_cons (x := eI place_131) (je_var rfl) ja_nil))))) (fun C O Q E q => t_is_blocking hall_1 wishes_2 dealing_3 person_121 place_131 p138 q))) (ite_b (fun hc133 => ?_) (fun hc133 => ?_))
        · have h := it_ap hc133 h
          with_reducible refine v_drop ?_
          with_reducible refine v_ml ?_
          refine v_var rfl (opt_ok (lsD_at (hO.get (k := 0) rfl)) ?_)
          with_reducible refine v_cons ?_
          refine st_e (d := ((eP2 eI eI) (person_121, place_131))) hO (je_tupP (d := (eP2 eI eI) (person_121, place_131)) (ja_cons (x := eI person_121) (je_var rfl) (ja_cons (x := eI place_131) (je_var rfl) ja_nil)) rfl) ?_
          with_reducible refine v_nil ?_
          obtain ⟨p137, h⟩ := as_ap h
          refine xm_app (e := (eP2 eI eI)) (xs := s123) (v := (person_121, place_131)) 0 hO rfl p137 (fun C hO => ?_)
          exact hns136 (s123 ++ [(person_121, place_131)]) _ _ ⟨rfl, hO⟩ h
        · have h := if_ap hc133 h
          with_reducible refine v_next ?_
          exact hns136 s123 _ _ ⟨rfl, hO⟩ h
      obtain ⟨rfl, hO⟩ := hR
      exact hns123 s136 _ _ ⟨_, rfl, hO⟩ h
    obtain ⟨o5, rfl, hO⟩ := hR
    exact hns102 s123 _ _ ⟨_, _, rfl, hO⟩ h
  obtain ⟨o4, o5, rfl, hO⟩ := hR
  with_reducible refine v_ret ?_
  refine st_e (d := ((eT (eP2 eI eI)) s102)) hO (je_cb (ja_cons (je_var rfl) ja_nil) (jf_tuple (e := (eP2 eI eI)) (xs := s102) (sv_C 0 rfl))) ?_
  exact hO.fin hlc (Cln.cl (e := (eT (eP2 eI eI))) _ _) (fun C' u => hk _ C' u h)
theorem t_blocking_pairs {C0 : Cs} {Q : QD} {E : XQ} (hall_1 : List (Int × (List Int))) (wishes_2 : List (List Int)) (dealing_3 : List (Option Int)) (hs : ok_blocking_pairs hall_1 wishes_2 dealing_3) (q : Q ((eT (eP2 eI eI)) (v_blocking_pairs hall_1 wishes_2 dealing_3)) C0) : sp_blocking_pairs [(eT (eP2 eI (eT eI))) hall_1, (eT (eT eI)) wishes_2, (eT (eO eI)) dealing_3] C0 Q E :=
  w_blocking_pairs (X := fun _ _ => False) (K := fun v => v = v_blocking_pairs hall_1 wishes_2 dealing_3) hall_1 wishes_2 dealing_3 (m_blocking_pairs hall_1 wishes_2 dealing_3 hs rfl) fun v C' u hv => by
    rw [up_eq0 u, hv]
    exact q
theorem blocking_pairs_eq {hs : Hal} {n : Int} (H : HOk hs n) (ws : Wis) (dl : Dea) : v_blocking_pairs hs ws dl = blkL hs n ws dl := by
  unfold v_blocking_pairs blkL
  rw [people_in_eq H]
  show List.flatMap _ _ = _
  congr 1
  funext x
  rw [← flatMap_if]
  simp only [is_blocking_eq]
theorem ok_blocking_pairs_of {hs : Hal} {n : Int} {ws : Wis} {dl : Dea} (H : HOk hs n) (W : WOk hs n ws) (hl : (dl.length : Int) = n) : ok_blocking_pairs hs ws dl := by
  have h1 := H.p12
  have h2 := H.n40
  have hb := blkL_len (hs := hs) (ws := ws) (dl := dl) h2 h1
  have e := blocking_pairs_eq H ws dl
  unfold v_blocking_pairs at e
  unfold ok_blocking_pairs
  rw [people_in_eq H] at e ⊢
  refine ⟨⟨ok_people_in_of H, by have := H.n1; omega⟩, fun x hx => ⟨by omega, fun p hp => ?_⟩, ?_⟩
  · obtain ⟨x0, x1⟩ := mem_irange.mp hx
    obtain ⟨p0, p1⟩ := mem_irange.mp hp
    exact ok_is_blocking_of H W hl p0 p1 x0 x1
  · refine Nat.le_trans (Nat.le_of_eq (congrArg List.length e)) (by omega)


def p_is_stable (hall_1 : List (Int × (List Int))) (wishes_2 : List (List Int)) (value_3 : D) : M Bool :=
  M.as ((ok_is_dealing hall_1 value_3) ∧ ((!(v_is_dealing hall_1 value_3)) = false → ((value_3 = (eT (eO eI)) ((dT (dO dI)) value_3)) ∧ (ok_fits hall_1 wishes_2 ((dT (dO dI)) value_3))))) <|
  if ((!(v_is_dealing hall_1 value_3)) || (!(v_fits hall_1 wishes_2 ((dT (dO dI)) value_3)))) = true then
  M.rt false
  else
  M.as ((value_3 = (eT (eO eI)) ((dT (dO dI)) value_3)) ∧ (ok_blocking_pairs hall_1 wishes_2 ((dT (dO dI)) value_3))) <|
  M.rt (decide ((v_blocking_pairs hall_1 wishes_2 ((dT (dO dI)) value_3)) = ([] : List (Int × Int))))
def v_is_stable (hall_1 : List (Int × (List Int))) (wishes_2 : List (List Int)) (value_3 : D) : Bool :=
  if ((!(v_is_dealing hall_1 value_3)) || (!(v_fits hall_1 wishes_2 ((dT (dO dI)) value_3)))) = true then
  false
  else
  decide ((v_blocking_pairs hall_1 wishes_2 ((dT (dO dI)) value_3)) = ([] : List (Int × Int)))
def ok_is_stable (hall_1 : List (Int × (List Int))) (wishes_2 : List (List Int)) (value_3 : D) : Prop :=
  (((ok_is_dealing hall_1 value_3) ∧ ((!(v_is_dealing hall_1 value_3)) = false → ((value_3 = (eT (eO eI)) ((dT (dO dI)) value_3)) ∧ (ok_fits hall_1 wishes_2 ((dT (dO dI)) value_3)))))) ∧ ((((!(v_is_dealing hall_1 value_3)) || (!(v_fits hall_1 wishes_2 ((dT (dO dI)) value_3)))) = false → ((value_3 = (eT (eO eI)) ((dT (dO dI)) value_3)) ∧ (ok_blocking_pairs hall_1 wishes_2 ((dT (dO dI)) value_3)))))
theorem m_is_stable (hall_1 : List (Int × (List Int))) (wishes_2 : List (List Int)) (value_3 : D) (hs : ok_is_stable hall_1 wishes_2 value_3) {K : Bool → Prop} {X : XP} (hk : K (v_is_stable hall_1 wishes_2 value_3)) : p_is_stable hall_1 wishes_2 value_3 K X := by
  unfold p_is_stable
  unfold ok_is_stable at hs
  unfold v_is_stable at hk
  obtain ⟨hp, hs⟩ := hs
  refine as_mk hp ?_
  have hb := hs
  refine iteM (fun hc102 => ?_) (fun hc102 => ?_)
  · have hk := itv_t hc102 hk
    exact hk
  · have hk := itv_f hc102 hk
    have hs := hb hc102
    refine as_mk hs ?_
    exact hk
theorem w_is_stable {C0 : Cs} {Q : QD} {E : XQ} {K : Bool → Prop} {X : XP} (hall_1 : List (Int × (List Int))) (wishes_2 : List (List Int)) (value_3 : D) (h : p_is_stable hall_1 wishes_2 value_3 K X) (hk : ∀ (v : Bool) C', Up false [] C0 C' → K v → Q (eB v) C') : sp_is_stable [(eT (eP2 eI (eT eI))) hall_1, (eT (eT eI)) wishes_2, eD value_3] C0 Q E := by
  intro hlo hlc
  have hO : Own ⟨false, C0, [], []⟩ C0 := Own.start
  unfold rd_is_stable
  unfold p_is_stable at h
  with_reducible refine v_seq ?_
  obtain ⟨p104, h⟩ := as_ap h
  with_reducible refine v_if ?_
  refine st_t hO (jt_or (jt_not (jt_test (je_callO (ja_cons (x := (eT (eP2 eI (eT eI))) hall_1) (je_var rfl) (ja_cons (x := eD value_3) (je_var rfl) ja_nil)) (fun C O Q E q => t_is_dealing hall_1 value_3 p104.1 q)))) (fun hb102 => (jt_not (jt_test (je_callO (ja_cons (x := (eT (eP2 eI (eT eI))) hall_1) (je_var rfl) (ja_cons (x := (eT (eT eI)) wishes_2) (je_var rfl) (ja_cons (x := (eT (eO eI)) ((dT (dO dI)) value_3)) (je_cast (p104.2 hb102).1 (je_var rfl)) ja_nil))) (fun C O Q E q => t_fits hall_1 wishes_2 ((dT (dO dI)) value_3) (p104.2 hb102).2 q)))))) (ite_b (fun hc101 => ?_) (fun hc101 => ?_))
  · have h := it_ap hc101 h
    with_reducible refine v_ret ?_
    refine st_e (d := (eB false)) hO je_c ?_
    exact hO.fin hlc (Cln.cl (e := eB) _ _) (fun C' u => hk _ C' u h)
  · have h := if_ap hc101 h
    with_reducible refine v_next ?_
    with_reducible refine v_ret ?_
    obtain ⟨p103, h⟩ := as_ap h
    refine st_e (d := (eB (decide ((v_blocking_pairs hall_1 wishes_2 ((dT (dO dI)) value_3)) = ([] : List (Int × Int)))))) hO (je_op (je_callO (ja_cons (x := (eT (eP2 eI (eT eI))) hall_1) (je_var rfl) (ja_cons (x := (eT (eT eI)) wishes_2) (je_var rfl) (ja_cons (x := (eT (eO eI)) ((dT (dO dI)) value_3)) (je_cast p103.1 (je_var rfl)) ja_nil))) (fun C O Q E q => t_blocking_pairs hall_1 wishes_2 ((dT (dO dI)) value_3) p103.2 q)) (je_tupT (e := eN) (xs := []) ja_m0) (j2_eq (e := (eT (eP2 eI eI))) (u := (v_blocking_pairs hall_1 wishes_2 ((dT (dO dI)) value_3))) (v := ([] : List (Int × Int))))) ?_
    exact hO.fin hlc (Cln.cl (e := eB) _ _) (fun C' u => hk _ C' u h)
theorem t_is_stable {C0 : Cs} {Q : QD} {E : XQ} (hall_1 : List (Int × (List Int))) (wishes_2 : List (List Int)) (value_3 : D) (hs : ok_is_stable hall_1 wishes_2 value_3) (q : Q (eB (v_is_stable hall_1 wishes_2 value_3)) C0) : sp_is_stable [(eT (eP2 eI (eT eI))) hall_1, (eT (eT eI)) wishes_2, eD value_3] C0 Q E :=
  w_is_stable (X := fun _ _ => False) (K := fun v => v = v_is_stable hall_1 wishes_2 value_3) hall_1 wishes_2 value_3 (m_is_stable hall_1 wishes_2 value_3 hs rfl) fun v C' u hv => by
    rw [up_eq0 u, hv]
    exact q
theorem dO_eO (d : Option Int) : dO dI (eO eI d) = d := by cases d <;> rfl
theorem is_stable_eT {hs : Hal} {n : Int} {ws : Wis} {dl : Dea} (H : HOk hs n) (W : WOk hs n ws) : v_is_stable hs ws (eT (eO eI) dl) = true ↔ Stb hs n ws dl := by
  unfold v_is_stable
  rw [dT_eT dO_eO, blocking_pairs_eq H, Stb.iff]
  constructor
  · intro h
    split at h
    · cases h
    · rename_i h1
      simp only [Bool.or_eq_true, Bool.not_eq_true', not_or, Bool.not_eq_false] at h1
      have d := (is_dealing_eT H).mp h1.1
      exact ⟨(fits_eq d.len).mp h1.2, of_decide_eq_true h⟩
  · rintro ⟨F, hb⟩
    rw [(is_dealing_eT H).mpr (F.dok W), (fits_eq F.len).mpr F]
    simpa using hb
theorem ok_is_stable_eT {hs : Hal} {n : Int} {ws : Wis} (H : HOk hs n) (W : WOk hs n ws) (dl : Dea) : ok_is_stable hs ws (eT (eO eI) dl) := by
  unfold ok_is_stable
  rw [dT_eT dO_eO]
  refine ⟨⟨ok_is_dealing_eT H dl, fun h => ⟨rfl, ok_fits_of H W ?_⟩⟩, fun h => ⟨rfl, ok_blocking_pairs_of H W ?_⟩⟩
  · rw [Bool.not_eq_false'] at h
    exact ((is_dealing_eT H).mp h).len
  · simp only [Bool.or_eq_false_iff, Bool.not_eq_false'] at h
    exact ((is_dealing_eT H).mp h.1).len


/-! ### the script's part -/
theorem draw_ok {ns : List Int} {salt : Int} {C : Cs} {Q : QD} {E : XQ} (k : ∀ (cs : List Int) b, cs.length ≤ 48 → Q (.cel C.length) (C ++ [Cl.lst [.cel (C.length + 1), .int b], Cl.lst (cs.map D.int)])) : sp_law_draw [.scr (ns.map D.int), .int salt] C Q E := by
  intro _ hlc
  unfold rd_law_draw
  walk_at "go"
  have e48 : cutD (ns.map D.int) none (some 48) = (ns.take 48).map D.int := by rw [cutD_hiI _ (by decide), List.map_take]; rfl
  rw [e48]
  refine ⟨fun i acc C' => C' = C ∧ ∃ ms : List Int, acc = ms.map D.int ∧ ms.length = i, ⟨rfl, [], rfl, rfl⟩, fun _ _ _ _ _ => rfl, ?_, ?_⟩
  · rintro i d acc C' hi ⟨rfl, ms, rfl, rfl⟩
    rw [List.getElem?_map] at hi
    cases e : (ns.take 48)[ms.length]? with
    | none => rw [e] at hi; cases hi
    | some z =>
      rw [e] at hi
      obtain rfl : D.int z = d := by simpa using hi
      walk_at "go"
      exact ⟨rfl, ms ++ [if z < 0 then -z else z], by simp, by simp⟩
  rintro acc C' ⟨rfl, cells, rfl, hcl⟩
  have hc48 : cells.length ≤ 48 := by
    rw [List.length_map] at hcl
    rw [hcl, List.length_take]
    exact Nat.min_le_left _ _
  refine ite_false' ?_
  walk_at "go"
  refine w_mulI (.inl (by decide)) ?_
  walk_at "go"
  refine ⟨fun i r C1 => C1 = C' ∧ ∃ b x, r = [some (.scr (ns.map D.int)), some (.int salt), some (.lst (cells.map D.int)), some (.int b), x], ⟨rfl, _, _, rfl⟩, fun _ _ _ _ _ => rfl, ?_, ?_⟩
  · rintro i d r C1 hi ⟨rfl, b, x, rfl⟩
    rw [List.getElem?_map] at hi
    cases e : cells[i]? with
    | none => rw [e] at hi; cases hi
    | some z =>
      rw [e] at hi
      obtain rfl : D.int z = d := by simpa using hi
      walk_at "go"
      refine w_mulI (.inr (by decide)) ?_
      walk_at "go"
      refine w_Ic (by decide) ?_
      walk_at "go"
      refine w_Ic (by decide) ?_
      exact ⟨rfl, _, _, rfl⟩
  rintro r C1 ⟨rfl, b, x, rfl⟩
  walk_at "go"
  refine ⟨fun i acc C' => C' = C1 ∧ ∃ ms : List Int, acc = ms.map D.int ∧ ms.length ≤ i, ⟨rfl, [], rfl, Nat.le_refl _⟩, fun _ _ _ _ _ => rfl, ?_, ?_⟩
  · rintro i d acc C' hi ⟨rfl, ms, rfl, hms⟩
    rw [List.getElem?_map] at hi
    cases e : cells[i]? with
    | none => rw [e] at hi; cases hi
    | some z =>
      rw [e] at hi
      obtain rfl : D.int z = d := by simpa using hi
      walk_at "go"
      refine w_Ic ⟨by decide, by decide, by decide⟩ ?_
      walk_at "go"
      refine ite_dec (fun _ => ?_) (fun _ => ?_)
      · walk_at "go"
        exact ⟨rfl, ms ++ [z], by simp, by simp; omega⟩
      · exact ⟨rfl, ms, rfl, by omega⟩
  rintro acc C' ⟨rfl, ms, rfl, hms⟩
  have hm48 : ms.length ≤ 48 := by
    rw [List.length_map] at hms
    omega
  refine ite_true' ?_
  refine opt_ok lsD_new ?_
  walk_at "go"
  -- two of the three new cells stay
  have e3 : C' ++ [Cl.lst (ms.map D.int)] ++ [Cl.lst (ms.map D.int).reverse] ++ [Cl.lst [.cel (C' ++ [Cl.lst (ms.map D.int)]).length, .int b]] = C' ++ [Cl.lst (ms.map D.int), Cl.lst (ms.reverse.map D.int), Cl.lst [.cel (C'.length + 1), .int b]] := by simp
  have e4 : (C' ++ [Cl.lst (ms.map D.int)] ++ [Cl.lst (ms.map D.int).reverse]).length = C'.length + 2 := by simp
  show fin C' (.cel (C' ++ [Cl.lst (ms.map D.int)] ++ [Cl.lst (ms.map D.int).reverse]).length) (C' ++ [Cl.lst (ms.map D.int)] ++ [Cl.lst (ms.map D.int).reverse] ++ [Cl.lst [.cel (C' ++ [Cl.lst (ms.map D.int)]).length, .int b]]) Q
  rw [e4, e3]
  have sl : ∀ j n, (List.range C'.length ++ [C'.length + 2, C'.length + 1])[j]? = some n → (j < C'.length ∧ n = j) ∨ (j = C'.length ∧ n = C'.length + 2) ∨ (j = C'.length + 1 ∧ n = C'.length + 1) := fun j n h => by
    by_cases hj : j < C'.length
    · rw [sel_get j hj] at h
      exact .inl ⟨hj, by simpa using h.symm⟩
    · rw [List.getElem?_append_right (by simpa using hj)] at h
      rw [List.length_range] at h
      cases q : j - C'.length with
      | zero =>
        rw [q] at h
        simp at h
        exact .inr (.inl ⟨by omega, h.symm⟩)
      | succ q' =>
        rw [q] at h
        cases q' with
        | zero =>
          simp at h
          exact .inr (.inr ⟨by omega, h.symm⟩)
        | succ _ => simp at h
  have s1 : (List.range C'.length ++ [C'.length + 2, C'.length + 1])[C'.length + 1]? = some (C'.length + 1) := by
    rw [List.getElem?_append_right (by simp)]
    simp
  refine ⟨[C'.length + 2, C'.length + 1], .cel C'.length, C' ++ [Cl.lst [.cel (C'.length + 1), .int b], Cl.lst (ms.reverse.map D.int)], by simp, fun n hn => ?_, by simp, by simp, fun j n xs h1 h2 => ?_, .keep ?_, k _ b (by simpa using hm48)⟩
  · simp at hn
    rcases hn with rfl | rfl <;> (simp; try omega)
  · rcases sl j n h1 with ⟨hj, rfl⟩ | ⟨rfl, rfl⟩ | ⟨rfl, rfl⟩
    · rw [List.getElem?_append_left hj] at h2
      exact .inl ⟨hj, h2, by rw [List.getElem?_append_left hj]; exact h2⟩
    · rw [List.getElem?_append_right (by omega)] at h2
      simp at h2
      subst h2
      refine .inr ⟨[.cel (C'.length + 1), .int b], by rw [List.getElem?_append_right (Nat.le_refl _)]; simp, .cons (.keep s1) (.cons .int .nil)⟩
    · rw [List.getElem?_append_right (by omega)] at h2
      simp at h2
      subst h2
      refine .inr ⟨ms.reverse.map D.int, by rw [List.getElem?_append_right (by omega)]; simp, ?_⟩
      rw [List.map_reverse]
      exact fzs_lo (k := 0) (fun n hn => absurd hn (Nat.not_lt_zero n)) _ (by rw [← List.map_reverse]; exact los_ints 0 _)
  · rw [List.getElem?_append_right (by simp)]
    simp
theorem draw_ok0 {ns : List Int} {salt : Int} {Q : QD} {E : XQ} (k : ∀ (cs : List Int) b, cs.length ≤ 48 → Q (.cel 0) [Cl.lst [.cel 1, .int b], Cl.lst (cs.map D.int)]) : sp_law_draw [.scr (ns.map D.int), .int salt] [] Q E := draw_ok (C := []) k
theorem w_law_draw {Q : QD} {E : XQ} (ns : List Int) (salt : Int) (hl : ns.length ≤ 63) (hk : ∀ C, DealHd C → Q (.cel 0) C) : sp_law_draw [.scr (ns.map D.int), eI salt] [] Q E :=
  draw_ok0 fun cs b hc => hk _ ⟨cs, b, rfl, rfl, hc⟩


/-! ### the same -/
mutual
/-- plain data without lists, of at most that depth -/
def pl : Nat → D → Bool
  | _, .non => true
  | _, .bl _ => true
  | _, .int _ => true
  | _, .str x => PyData.strOk x
  | 0, .tup _ => false
  | n + 1, .tup xs => pls n xs
  | _, _ => false
def pls : Nat → List D → Bool
  | _, [] => true
  | n, x :: xs => pl n x && pls n xs
end
theorem pls_mem {n : Nat} : ∀ {xs : List D} {x : D}, pls n xs = true → x ∈ xs → pl n x = true
  | [], _, _, h => by simp at h
  | y :: ys, x, h, hm => by
    have h' : pl n y = true ∧ pls n ys = true := by simpa [pls] using h
    rcases List.mem_cons.mp hm with rfl | hm
    · exact h'.1
    · exact pls_mem h'.2 hm
theorem eqD_str (x : Str) : eqD (.str x) (.str x) = true := by
  show PyData.eqv (.str x) (.str x) = true
  simp [PyData.eqv]
mutual
theorem pl_up {k j : Nat} (h : k ≤ j) : ∀ d : D, pl k d = true → pl j d = true := fun d g => by
  cases d with
  | non => cases j <;> rfl
  | bl b => cases j <;> rfl
  | int b => cases j <;> rfl
  | str x => cases j <;> cases k <;> exact g
  | tup xs =>
    cases k with
    | zero => cases g
    | succ k =>
      cases j with
      | zero => omega
      | succ j => exact pls_up (Nat.le_of_succ_le_succ h) xs g
  | lst xs => cases k <;> cases g
  | scr xs => cases k <;> cases g
  | cel n => cases k <;> cases g
  | obj n => cases k <;> cases g
theorem pls_up {k j : Nat} (h : k ≤ j) : ∀ ds : List D, pls k ds = true → pls j ds = true
  | [], _ => by cases j <;> rfl
  | d :: ds, g => by
    have g' : (pl k d && pls k ds) = true := by cases k <;> exact g
    rw [Bool.and_eq_true] at g'
    have : (pl j d && pls j ds) = true := by rw [pl_up h d g'.1, pls_up h ds g'.2]; rfl
    cases j <;> exact this
end
theorem pls_c {k : Nat} {x : D} {xs : List D} (h : pl k x = true) (h2 : pls k xs = true) : pls k (x :: xs) = true := by
  have : (pl k x && pls k xs) = true := by rw [h, h2]; rfl
  cases k <;> exact this
theorem pls_n {k : Nat} : pls k [] = true := by cases k <;> rfl
mutual
/-- the same value of the same kind -/
def sameB : D → D → Bool
  | x, .tup ys => match x with
    | .tup xs => sameL xs ys
    | _ => false
  | x, .non => match x with
    | .non => true
    | _ => false
  | x, .bl c => match x with
    | .bl b => b == c
    | _ => false
  | x, .int j => match x with
    | .int i => decide (i = j)
    | _ => false
  | x, .str j => match x with
    | .str i => eqD (.str i) (.str j)
    | _ => false
  | _, _ => false
def sameL : List D → List D → Bool
  | [], [] => true
  | x :: xs, y :: ys => sameB x y && sameL xs ys
  | _, _ => false
end
theorem sameL_len : ∀ {xs ys : List D}, xs.length ≠ ys.length → sameL xs ys = false
  | [], [], h => absurd rfl h
  | [], y :: ys, _ => by simp [sameL]
  | x :: xs, [], _ => by simp [sameL]
  | x :: xs, y :: ys, h => by
    rw [sameL, sameL_len (fun e => h (by simp [e])), Bool.and_false]
theorem sameL_zip : ∀ {xs ys : List D}, xs.length = ys.length → ((xs.zip ys).filterMap fun z : D × D => if sameB z.1 z.2 = true then none else some (D.int 0)).isEmpty = sameL xs ys
  | [], [], _ => by simp [sameL]
  | [], y :: ys, h => by simp at h
  | x :: xs, [], h => by simp at h
  | x :: xs, y :: ys, h => by
    have ih := sameL_zip (xs := xs) (ys := ys) (by simpa using h)
    rw [sameL, ← ih, List.zip_cons_cons, List.filterMap_cons]
    by_cases hb : sameB x y = true
    · simp [hb]
    · simp [hb]
theorem shps_mem {n : Nat} : ∀ {xs : List D} {x : D}, shps n xs = true → x ∈ xs → shp n x = true
  | [], _, _, h => by simp at h
  | y :: ys, x, h, hm => by
    have h' : shp n y = true ∧ shps n ys = true := by simpa [shps] using h
    rcases List.mem_cons.mp hm with rfl | hm
    · exact h'.1
    · exact shps_mem h'.2 hm
/-- what is no tuple -/
theorem same_leaf (n : Nat) (rec : SpD) : ∀ (x y : D) {C : Cs} {Q : QD} {E : XQ}, (∀ ys, y ≠ .tup ys) → shp 60 x = true → pl 11 y = true → Q (.bl (sameB x y)) C → spOf N_law_same (rd_law_same rec) [x, y] C Q E := by
  intro x y C Q E hy hx hp q hlo hlc
  unfold rd_law_same
  cases y with
  | tup ys => exact absurd rfl (hy ys)
  | non => cases x <;> first | (walk_at "go"; exact fin_same0 rfl q) | (rename_i c; cases c <;> (walk_at "go"; exact fin_same0 rfl q)) | exact absurd hx Bool.false_ne_true
  | bl b => cases b <;> (cases x <;> first | (walk_at "go"; exact fin_same0 rfl q) | (rename_i c; cases c <;> (walk_at "go"; exact fin_same0 rfl q)) | exact absurd hx Bool.false_ne_true)
  | int j =>
    cases x <;> first | (walk_at "go"; exact fin_same0 rfl q) | (walk_at "go"; refine w_eqI ?_; exact fin_same0 rfl q) | (exact absurd hx Bool.false_ne_true)
  | str j =>
    have hj : PyData.strOk j = true := by simpa [pl] using hp
    cases x <;> first | (walk_at "go"; exact fin_same0 rfl q) | (rename_i i; have hi : PyData.strOk i = true := (by simpa [shp] using hx); walk_at "go"; refine ⟨hi, hj, ?_⟩; exact fin_same0 rfl q) | (exact absurd hx Bool.false_ne_true)
  | _ => simp [pl] at hp
theorem same_gen : ∀ (n : Nat) (x y : D) {C : Cs} {Q : QD} {E : XQ}, shp 60 x = true → pl n y = true → n ≤ 11 → Q (.bl (sameB x y)) C → spR_law_same (n + 1) [x, y] C Q E := by
  intro n
  induction n with
  | zero =>
    intro x y C Q E hx hp hn q
    refine same_leaf 0 _ x y (fun ys e => ?_) hx (pl_up (Nat.zero_le _) y hp) q
    subst e
    simp [pl] at hp
  | succ n ih =>
    intro x y C Q E hx hp hn q
    by_cases hy : ∃ ys, y = .tup ys
    · obtain ⟨ys, rfl⟩ := hy
      intro hlo hlc
      unfold rd_law_same
      have hps : pls n ys = true := by simpa [pl] using hp
      cases x with
      | tup xs =>
        have hxs : shps 59 xs = true := by simpa [shp] using hx
        walk_at "go"
        refine w_neI ?_
        refine ite_ndec (fun h => ?_) (fun h => ?_)
        · walk_at "go"
          have : sameB (.tup xs) (.tup ys) = false := by
            rw [sameB]
            exact sameL_len fun e => h (by rw [e])
          rw [this] at q
          exact fin_same0 rfl q
        · have hl : xs.length = ys.length := by omega
          walk_at "go"
          refine lc_ok (xs := xs.zip ys) (e := fun z => D.tup [z.1, z.2]) (fun z => if sameB z.1 z.2 = true then none else some (D.int 0)) ?_ ⟨rfl, rfl⟩ (fun z hz Y Z k => ?_) (ite_false' ?_)
          · unfold zipD
            rw [List.zip, List.map_zipWith]
          · obtain ⟨z1, z2⟩ := List.of_mem_zip hz
            walk_at "go"
            refine ih z.1 z.2 (shp_up (by omega : 59 ≤ 60) _ (shps_mem hxs z1)) (pls_mem hps z2) (by omega) ?_
            walk_at "go"
            unfold lcK at k
            cases hb : sameB z.1 z.2 with
            | true => rw [hb] at k; exact k
            | false => rw [hb] at k; exact k
          · walk_at "go"
            have hsh : ∀ zs : List (D × D), shps 59 (zs.filterMap fun z : D × D => if sameB z.1 z.2 = true then none else some (D.int 0)) = true := fun zs => by
              induction zs with
              | nil => rfl
              | cons z zs ihz =>
                rw [List.filterMap_cons]
                by_cases hb : sameB z.1 z.2 = true
                · simp only [hb, if_true]
                  exact ihz
                · simp only [hb]
                  exact shps_c rfl ihz
            refine w_eqNilL (hsh _) ?_
            have e : sameB (.tup xs) (.tup ys) = sameL xs ys := by rw [sameB]
            rw [e, ← sameL_zip hl] at q
            exact fin_same0 rfl q
      | cel m => exact absurd hx Bool.false_ne_true
      | obj m => exact absurd hx Bool.false_ne_true
      | _ => walk_at "go"; exact fin_same0 rfl q
    · exact same_leaf (n + 1) _ x y (fun ys e => hy ⟨ys, e⟩) hx (pl_up hn y hp) q
class PlE {α : Type} (e : α → D) (k : outParam Nat) : Prop where
  pl : ∀ x, pl k (e x) = true
theorem pls_map {α : Type} {e : α → D} {k : Nat} (h : ∀ x, pl k (e x) = true) : ∀ xs : List α, pls k (xs.map e) = true
  | [] => pls_n
  | x :: xs => pls_c (h x) (pls_map h xs)
section
variable {α β γ δ : Type} {e : α → D} {e2 : β → D} {e3 : γ → D} {e4 : δ → D} {k k2 k3 k4 : Nat}
instance : PlE eI 0 := ⟨fun _ => rfl⟩
instance : PlE eB 0 := ⟨fun _ => rfl⟩
instance : PlE eN 0 := ⟨fun _ => rfl⟩
instance [h : PlE e k] : PlE (eO e) k := ⟨fun x => by
  cases x with
  | none => cases k <;> rfl
  | some a => exact h.pl a⟩
instance [h : PlE e k] : PlE (eT e) (k + 1) := ⟨fun xs => pls_map h.pl xs⟩
instance [h : PlE e k] : PlE (eP1 e) (k + 1) := ⟨fun p => pls_c (h.pl _) pls_n⟩
instance [h : PlE e k] [h2 : PlE e2 k2] : PlE (eP2 e e2) (max k k2 + 1) := ⟨fun p => pls_c (pl_up (by omega) _ (h.pl _)) (pls_c (pl_up (by omega) _ (h2.pl _)) pls_n)⟩
instance [h : PlE e k] [h2 : PlE e2 k2] [h3 : PlE e3 k3] : PlE (eP3 e e2 e3) (max k (max k2 k3) + 1) := ⟨fun p => pls_c (pl_up (by omega) _ (h.pl _)) (pls_c (pl_up (by omega) _ (h2.pl _)) (pls_c (pl_up (by omega) _ (h3.pl _)) pls_n))⟩
instance [h : PlE e k] [h2 : PlE e2 k2] [h3 : PlE e3 k3] [h4 : PlE e4 k4] : PlE (eP4 e e2 e3 e4) (max k (max k2 (max k3 k4)) + 1) := ⟨fun p => pls_c (pl_up (by omega) _ (h.pl _)) (pls_c (pl_up (by omega) _ (h2.pl _)) (pls_c (pl_up (by omega) _ (h3.pl _)) (pls_c (pl_up (by omega) _ (h4.pl _)) pls_n)))⟩
end
/-- the same as Lean's = -/
class SmE {α : Type} [DecidableEq α] (e : α → D) : Prop where
  sm : ∀ x y, sameB (e x) (e y) = decide (x = y)
/-- no tuple of its encoder is None -/
theorem sameL_map {α : Type} [DecidableEq α] {e : α → D} (h : ∀ x y, sameB (e x) (e y) = decide (x = y)) : ∀ xs ys : List α, sameL (xs.map e) (ys.map e) = decide (xs = ys)
  | [], [] => by simp [sameL]
  | [], y :: ys => by simp [sameL]
  | x :: xs, [] => by simp [sameL]
  | x :: xs, y :: ys => by
    rw [List.map_cons, List.map_cons, sameL, h, sameL_map h]
    by_cases h1 : x = y <;> by_cases h2 : xs = ys <;> simp [h1, h2]
theorem sameB_non {d : D} (h : isNon d = false) : sameB .non d = false ∧ sameB d .non = false := by
  cases d with
  | non => cases h
  | _ => constructor <;> simp [sameB]
section
variable {α β γ δ : Type} [DecidableEq α] [DecidableEq β] [DecidableEq γ] [DecidableEq δ] {e : α → D} {e2 : β → D} {e3 : γ → D} {e4 : δ → D}
instance : SmE eI := ⟨fun x y => by simp [sameB]⟩
instance : SmE eB := ⟨fun x y => by cases x <;> cases y <;> simp [sameB]⟩
instance : SmE eN := ⟨fun x y => by simp [eN, sameB]⟩
instance [h : SmE e] : SmE (eT e) := ⟨fun x y => by
  show sameB (.tup _) (.tup _) = _
  rw [sameB]
  exact sameL_map h.sm x y⟩
instance [h : SmE e] [g : NNon e] : SmE (eO e) := ⟨fun x y => by
  cases x with
  | none =>
    cases y with
    | none => simp [eO, sameB]
    | some b => exact (sameB_non (g.ne b)).1.trans (by simp)
  | some a =>
    cases y with
    | none => exact (sameB_non (g.ne a)).2.trans (by simp)
    | some b => exact (h.sm a b).trans (by simp)⟩
instance [h : SmE e] : SmE (eP1 e) := ⟨fun x y => by
  show sameB (.tup _) (.tup _) = _
  rw [sameB, sameL, sameL, h.sm, Bool.and_true]⟩
instance [h : SmE e] [h2 : SmE e2] : SmE (eP2 e e2) := ⟨fun x y => by
  show sameB (.tup _) (.tup _) = _
  rw [sameB, sameL, sameL, sameL, h.sm, h2.sm]
  obtain ⟨a, b⟩ := x
  obtain ⟨c, d⟩ := y
  by_cases k1 : a = c <;> by_cases k2 : b = d <;> simp [k1, k2]⟩
instance [h : SmE e] [h2 : SmE e2] [h3 : SmE e3] : SmE (eP3 e e2 e3) := ⟨fun x y => by
  show sameB (.tup _) (.tup _) = _
  rw [sameB, sameL, sameL, sameL, sameL, h.sm, h2.sm, h3.sm]
  obtain ⟨a, b, c⟩ := x
  obtain ⟨a2, b2, c2⟩ := y
  by_cases k1 : a = a2 <;> by_cases k2 : b = b2 <;> by_cases k3 : c = c2 <;> simp [k1, k2, k3]⟩
instance [h : SmE e] [h2 : SmE e2] [h3 : SmE e3] [h4 : SmE e4] : SmE (eP4 e e2 e3 e4) := ⟨fun x y => by
  show sameB (.tup _) (.tup _) = _
  rw [sameB, sameL, sameL, sameL, sameL, sameL, h.sm, h2.sm, h3.sm, h4.sm]
  obtain ⟨a, b, c, d⟩ := x
  obtain ⟨a2, b2, c2, d2⟩ := y
  by_cases k1 : a = a2 <;> by_cases k2 : b = b2 <;> by_cases k3 : c = c2 <;> by_cases k4 : d = d2 <;> simp [k1, k2, k3, k4]⟩
end
theorem t_law_sameD {C : Cs} {Q : QD} {E : XQ} (x y : D) (hs : shp 60 x = true ∧ pl 11 y = true) (q : Q (eB (sameB x y)) C) : sp_law_same [x, y] C Q E := same_gen 11 x y hs.1 hs.2 (Nat.le_refl _) q
mutual
theorem pl_shp : ∀ (k : Nat) (d : D), pl k d = true → shp k d = true := fun k d g => by
  cases d with
  | non => cases k <;> rfl
  | bl b => cases k <;> rfl
  | int b => cases k <;> rfl
  | str x => cases k <;> exact g
  | tup xs =>
    cases k with
    | zero => cases g
    | succ k => exact pls_shp k xs g
  | lst xs => cases k <;> cases g
  | scr xs => cases k <;> cases g
  | cel n => cases k <;> cases g
  | obj n => cases k <;> cases g
theorem pls_shp : ∀ (k : Nat) (ds : List D), pls k ds = true → shps k ds = true
  | k, [], _ => shps_n
  | k, d :: ds, g => by
    have g' : (pl k d && pls k ds) = true := by cases k <;> exact g
    rw [Bool.and_eq_true] at g'
    exact shps_c (pl_shp k d g'.1) (pls_shp k ds g'.2)
end
theorem t_law_same {α : Type} [DecidableEq α] {e : α → D} {k : Nat} [h : PlE e k] [g : SmE e] {C : Cs} {Q : QD} {E : XQ} (x y : α) (q : Q (eB (decide (x = y))) C) (hk : k ≤ 11 := by decide) : sp_law_same [e x, e y] C Q E := by
  rw [← g.sm] at q
  exact t_law_sameD (e x) (e y) ⟨shp_up (by omega : k ≤ 60) _ (pl_shp k _ (h.pl x)), pl_up hk _ (h.pl y)⟩ q


def p_law (script_1 : List Int) : M Bool :=
  M.bd (ofM [(40, 12, 3), (16, 12, 1), (8, 4, 2), (40, 12, 20), (6, 3, 2)]) fun v101 =>
  M.bd (p_law_hall v101.1 v101.2.1 v101.2.2) fun v102 =>
  M.bd (p_law_wishes v102) fun v103 =>
  M.bd (M.bd (anyM 4) fun v112 =>
  if (decide (v112 = 0)) = true then
  M.as (∀ person_113, person_113 ∈ v103 → (rgOk 0 (v102.length : Int))) <|
  let wishes_116 : List (List Int) := (v103.map (fun (person_113 : List Int) => (irange 0 (v102.length : Int)).reverse))
  M.rt wishes_116
  else
  M.rt v103 : M (List (List Int))) fun s111 =>
  M.as (ok_law_ranks v102) <|
  let ranks_118 : List (List Int) := (v_law_ranks v102)
  M.bd (p_law_cuts v102 ranks_118 s111) fun v119 =>
  M.as ((inb v119.length 12) ∧ ((gi v119 12) ∈ v119)) <|
  let due_120 : Int := ((v119.idxOf (gi v119 12) : Nat) : Int)
  M.bd (p_names_enough v102 s111) fun v122 =>
  if (!(decide (v122 = due_120))) = true then
  M.rt false
  else
  M.bd (anyM 14) fun v125 =>
  M.bd (ofM [0, 1, 2, 12, 13, ((10 ^ (15 : Int).toNat) - 1)]) fun v126 =>
  M.bd (forR [(max 0 (due_120 - 1)), due_120, v125, v126] (() : Unit) fun s127 mostv_154 =>
  let cut_159 : List (List Int) := (s111.map (fun (wished_156 : List Int) => (cut wished_156 none (some mostv_154))))
  if (!(decide ((v_cut_short s111 mostv_154) = cut_159))) = true then
  M.rt (Res.rt false)
  else
  M.bd (p_shut_out v102 s111 mostv_154) fun v162 =>
  M.bd (p_law_shut_out v102 ranks_118 s111 mostv_154) fun v163 =>
  if (!(decide (v162 = v163))) = true then
  M.rt (Res.rt false)
  else
  M.as (inb v119.length (min mostv_154 12)) <|
  let dealing_164 : List (Option Int) := (gi v119 (min mostv_154 12))
  M.bd (p_people_best v102 cut_159) fun v166 =>
  if (!(decide (v166 = dealing_164))) = true then
  M.rt (Res.rt false)
  else
  M.as (ok_is_stable v102 s111 ((eT (eO eI)) dealing_164)) <|
  if (!(decide ((v_is_stable v102 s111 ((eT (eO eI)) dealing_164)) = decide (due_120 ≤ mostv_154)))) = true then
  M.rt (Res.rt false)
  else
  M.as (ok_blocking_pairs v102 s111 dealing_164) <|
  M.bd (forR (v_blocking_pairs v102 s111 dealing_164) (() : Unit) fun s168 zv_173 =>
  M.as ((inb dealing_164.length zv_173.1) ∧ (((gi dealing_164 zv_173.1).isSome) = false → (inb s111.length zv_173.1))) <|
  if (((gi dealing_164 zv_173.1).isSome) || (!decide (zv_173.2 ∈ (cut (gi s111 zv_173.1) (some mostv_154) none)))) = true then
  M.rt (Res.rt false)
  else
  M.rt (Res.nx ())) fun q => q.go (fun (v : Bool) => M.rt (Res.rt v)) fun s168 =>
  M.rt (Res.nx ())) fun q => q.go (fun (v : Bool) => M.rt v) fun s127 =>
  M.bd (p_names_enough v102 (s111.map (fun (one_191 : List Int) => ([] : List Int)))) fun v194 =>
  M.rt (decide (v194 = 0))
theorem w_law {K : Bool → Prop} {X : XP} (script_1 : List Int) (hl : script_1.length ≤ 63) (h : p_law script_1 K X) (hk : ∀ v, K v → v = true) : sp_law [.scr (script_1.map D.int)] [] (fun d _ => d = .bl true) (fun _ _ _ => False) := by
  intro hlo _
  have hO : Own ⟨false, [], [], []⟩ [] := Own.start
  unfold rd_law
  unfold p_law at h
  with_reducible refine v_seq ?_
  with_reducible refine v_set ?_
  with_reducible refine v_call ?_
  with_reducible refine v_cons ?_
  refine st_e (d := (.scr (script_1.map D.int))) hO (je_var rfl) ?_
  with_reducible refine v_cons ?_
  refine st_e (d := (eI 59)) hO je_c ?_
  with_reducible refine v_nil ?_
  refine w_law_draw _ _ hl (fun C hd => ?_)
  have hO := Own.startD hd
  revert hd hO
  generalize C = C0
  intro hd hO
  with_reducible refine v_seq ?_
  with_reducible refine v_set ?_
  with_reducible refine v_call ?_
  with_reducible refine v_cons ?_
  refine v_var rfl ?_
  with_reducible refine v_cons ?_
  refine st_e (d := ((eL (eP3 eI eI eI)) [(40, 12, 3), (16, 12, 1), (8, 4, 2), (40, 12, 20), (6, 3, 2)])) hO (je_lstL (e := (eP3 eI eI eI)) (xs := [(40, 12, 3), (16, 12, 1), (8, 4, 2), (40, 12, 20), (6, 3, 2)]) (ja_m1 (u := (40, 12, 3)) (je_tupP (d := (eP3 eI eI eI) (40, 12, 3)) (ja_cons (x := eI 40) je_c (ja_cons (x := eI 12) je_c (ja_cons (x := eI 3) je_c ja_nil))) rfl) (ja_m1 (u := (16, 12, 1)) (je_tupP (d := (eP3 eI eI eI) (16, 12, 1)) (ja_cons (x := eI 16) je_c (ja_cons (x := eI 12) je_c (ja_cons (x := eI 1) je_c ja_nil))) rfl) (ja_m1 (u := (8, 4, 2)) (je_tupP (d := (eP3 eI eI eI) (8, 4, 2)) (ja_cons (x := eI 8) je_c (ja_cons (x := eI 4) je_c (ja_cons (x := eI 2) je_c ja_nil))) rfl) (ja_m1 (u := (40, 12, 20)) (je_tupP (d := (eP3 eI eI eI) (40, 12, 20)) (ja_cons (x := eI 40) je_c (ja_cons (x := eI 12) je_c (ja_cons (x := eI 20) je_c ja_nil))) rfl) (ja_m1 (u := (6, 3, 2)) (je_tupP (d := (eP3 eI eI eI) (6, 3, 2)) (ja_cons (x := eI 6) je_c (ja_cons (x := eI 3) je_c (ja_cons (x := eI 2) je_c ja_nil))) rfl) ja_m0)))))) ?_
  with_reducible refine v_nil ?_
  refine w_law_ofL (e := (eP3 eI eI eI)) [(40, 12, 3), (16, 12, 1), (8, 4, 2), (40, 12, 20), (6, 3, 2)] (los_map 0 _) (hO.deal rfl).1 (bd_ap h) (fun v101 C u h => ?_)
  have hO := hO.up0 u
  with_reducible refine v_seq ?_
  with_reducible refine v_set ?_
  with_reducible refine v_call ?_
  with_reducible refine v_cons ?_
  refine v_var rfl ?_
  with_reducible refine v_cons ?_
  refine st_e (d := (eI v101.1)) hO (je_op (je_var rfl) je_c (j2_ixP (d := eI v101.1) rfl)) ?_
  with_reducible refine v_cons ?_
  refine st_e (d := (eI v101.2.1)) hO (je_op (je_var rfl) je_c (j2_ixP (d := eI v101.2.1) rfl)) ?_
  with_reducible refine v_cons ?_
  refine st_e (d := (eI v101.2.2)) hO (je_op (je_var rfl) je_c (j2_ixP (d := eI v101.2.2) rfl)) ?_
  with_reducible refine v_nil ?_
  refine w_law_hall v101.1 v101.2.1 v101.2.2 (hO.deal rfl).1 (bd_ap h) (fun v102 C u h => ?_)
  have hO := hO.up0 u
  with_reducible refine v_seq ?_
  with_reducible refine v_set ?_
  with_reducible refine v_call ?_
  with_reducible refine v_cons ?_
  refine v_var rfl ?_
  with_reducible refine v_cons ?_
  refine st_e (d := ((eT (eP2 eI (eT eI))) v102)) hO (je_var rfl) ?_
  with_reducible refine v_nil ?_
  refine w_law_wishes v102 (hO.deal rfl).1 (bd_ap h) (fun v103 C u h => ?_)
  have hO := hO.up0 u
  with_reducible refine v_seq ?_
  with_reducible refine v_ifI ?_
  have h := bd_ap h
  refine st_join h (fun (s111 : List (List Int)) r' C' => ∃ (o5 : Option DL.D) (o6 : Option DL.D) (o7 : Option DL.D) (o8 : Option DL.D) (o9 : Option DL.D) (o10 : Option DL.D) (o11 : Option DL.D) (o12 : Option DL.D) (o13 : Option DL.D) (o14 : Option DL.D), r' = [some (.scr (script_1.map D.int)), some (.cel 0), some ((eP3 eI eI eI) v101), some ((eT (eP2 eI (eT eI))) v102), some ((eT (eT eI)) s111), o5, o6, o7, o8, o9, o10, o11, o12, o13, o14] ∧ Own ⟨true, C0, [], []⟩ C') (fun Ks111 nx h hns111 => ?_) (fun s111 r' C hR h => ?_)
  · with_reducible refine v_if ?_
    with_reducible refine v_test ?_
    with_reducible refine v_op ?_
    with_reducible refine v_call ?_
    with_reducible refine v_cons ?_
    refine v_var rfl ?_
    with_reducible refine v_cons ?_
    refine st_e (d := (eI 4)) hO je_c ?_
    with_reducible refine v_nil ?_
    refine w_law_any 4 (hO.deal rfl).1 (bd_ap h) (fun v112 C u h => ?_)
    have hO := hO.up0 u
    refine st_e (d := (eI 0)) hO je_c ?_
    refine st_2 (d := eB (decide (v112 = 0))) hO (j2_eq (e := eI) (u := v112) (v := 0)) ?_
    refine ite_b (fun hc104 => ?_) (fun hc104 => ?_)
    · have h := it_ap hc104 h
      with_reducible refine v_set ?_
      obtain ⟨p117, h⟩ := as_ap h
      refine st_e (d := ((eT (eT eI)) (v103.map (fun (person_113 : List Int) => (irange 0 (v102.length : Int)).reverse)))) hO (je_cb (ja_cons (je_lc0 (e := (eT eI)) (f := (eT eI)) (ji_seq (ds := v103.map (eT eI)) (je_var rfl) sv_T) (fun person_113 => jg_n) (fun (person_113 : List Int) => (irange 0 (v102.length : Int)).reverse) (fun person_113 hx114 => (je_cb (ja_cons (je_revA (e := eI) (xs := (irange 0 (v102.length : Int))) (je_lstR (jr_1 (je_cb (ja_cons (je_var rfl) ja_nil) (jf_len (e := (eP2 eI (eT eI))) (xs := v102) sv_T))) (p117 person_113 hx114)) lv_L) ja_nil) (jf_tuple (e := eI) (xs := (irange 0 (v102.length : Int)).reverse) sv_L)))) ja_nil) (jf_tuple (e := (eT eI)) (xs := (v103.map (fun (person_113 : List Int) => (irange 0 (v102.length : Int)).reverse))) sv_L)) ?_
      let wishes_116 : List (List Int) := (v103.map (fun (person_113 : List Int) => (irange 0 (v102.length : Int)).reverse))
      exact hns111 wishes_116 _ _ ⟨_, _, _, _, _, _, _, _, _, _, rfl, hO⟩ h
    · have h := if_ap hc104 h
      with_reducible refine v_next ?_
      exact hns111 v103 _ _ ⟨_, _, _, _, _, _, _, _, _, _, rfl, hO⟩ h
  obtain ⟨o5, o6, o7, o8, o9, o10, o11, o12, o13, o14, rfl, hO⟩ := hR
  with_reducible refine v_seq ?_
  with_reducible refine v_set ?_
  obtain ⟨p196, h⟩ := as_ap h
  refine st_e (d := ((eL (eL eI)) (v_law_ranks v102))) hO (je_callO (ja_cons (x := (eT (eP2 eI (eT eI))) v102) (je_var rfl) ja_nil) (fun C O Q E q => t_law_ranks v102 p196 q)) ?_
  let ranks_118 : List (List Int) := (v_law_ranks v102)
  with_reducible refine v_seq ?_
  with_reducible refine v_set ?_
  with_reducible refine v_call ?_
  with_reducible refine v_cons ?_
  refine st_e (d := ((eT (eP2 eI (eT eI))) v102)) hO (je_var rfl) ?_
  with_reducible refine v_cons ?_
  refine st_e (d := ((eL (eL eI)) ranks_118)) hO (je_var rfl) ?_
  with_reducible refine v_cons ?_
  refine st_e (d := ((eT (eT eI)) s111)) hO (je_var rfl) ?_
  with_reducible refine v_nil ?_
  refine w_law_cuts v102 ranks_118 s111 (bd_ap h) (fun v119 C u h => ?_)
  have hO := hO.up0 u
  with_reducible refine v_seq ?_
  with_reducible refine v_set ?_
  obtain ⟨p195, h⟩ := as_ap h
  refine st_e (d := (eI ((v119.idxOf (gi v119 12) : Nat) : Int))) hO (je_ml (je_var rfl) lv_L (ja_cons (x := (eT (eO eI)) (gi v119 12)) (je_op (je_var rfl) je_c (j2_ix (e := (eT (eO eI))) (xs := v119) sv_L p195.1)) ja_nil) (jm_idxD (e := (eT (eO eI))) (x := (gi v119 12)) (xs := v119) (ib := inferInstance) lv_L p195.2)) ?_
  let due_120 : Int := ((v119.idxOf (gi v119 12) : Nat) : Int)
  with_reducible refine v_seq ?_
  with_reducible refine v_if ?_
  with_reducible refine v_not ?_
  with_reducible refine v_test ?_
  with_reducible refine v_call ?_
  with_reducible refine v_cons ?_
  with_reducible refine v_callK ?_
  with_reducible refine v_nil ?_
  with_reducible refine v_cons ?_
  refine st_e (d := ((eT (eT eI)) s111)) hO (je_var rfl) ?_
  with_reducible refine v_cons ?_
  refine st_e (d := ((eT (eP2 eI (eT eI))) v102)) hO (je_var rfl) ?_
  with_reducible refine v_nil ?_
  refine w_names_enough v102 s111 (bd_ap h) (fun v122 C u h => ?_)
  have hO := hO.up0 u
  with_reducible refine v_cons ?_
  refine st_e (d := (eI due_120)) hO (je_var rfl) ?_
  with_reducible refine v_nil ?_
  refine t_law_same (e := eI) v122 due_120 ?_
  refine ite_b (fun hc121 => ?_) (fun hc121 => ?_)
  · have h := it_ap hc121 h
    with_reducible refine v_ret ?_
    refine st_e (d := (eB false)) hO je_c ?_
    exact fin_nil rfl (congrArg D.bl (hk _ h))
  · have h := if_ap hc121 h
    with_reducible refine v_next ?_
    with_reducible refine v_seq ?_
    with_reducible refine v_forS ?_
    with_reducible refine v_lst ?_
    with_reducible refine v_cons ?_
    refine st_e (d := (eI (max 0 (due_120 - 1)))) hO (je_cb (ja_cons (x := eI 0) je_c (ja_cons (x := eI (due_120 - 1)) (je_op (je_var rfl) je_c j2_sub) ja_nil)) jf_max2) ?_
    with_reducible refine v_cons ?_
    refine st_e (d := (eI due_120)) hO (je_var rfl) ?_
    with_reducible refine v_cons ?_
    with_reducible refine v_call ?_
    with_reducible refine v_cons ?_
    refine v_var rfl ?_
    with_reducible refine v_cons ?_
    refine st_e (d := (eI 14)) hO je_c ?_
    with_reducible refine v_nil ?_
    refine w_law_any 14 (hO.deal rfl).1 (bd_ap h) (fun v125 C u h => ?_)
    have hO := hO.up0 u
    with_reducible refine v_cons ?_
    with_reducible refine v_call ?_
    with_reducible refine v_cons ?_
    refine v_var rfl ?_
    with_reducible refine v_cons ?_
    refine st_e (d := ((eL eI) [0, 1, 2, 12, 13, ((10 ^ (15 : Int).toNat) - 1)])) hO (je_lstL (e := eI) (xs := [0, 1, 2, 12, 13, ((10 ^ (15 : Int).toNat) - 1)]) (ja_m1 (u := 0) je_c (ja_m1 (u := 1) je_c (ja_m1 (u := 2) je_c (ja_m1 (u := 12) je_c (ja_m1 (u := 13) je_c (ja_m1 (u := ((10 ^ (15 : Int).toNat) - 1)) (je_op (je_op je_c je_c (j2_pow (by unfold L2.CPow; decide))) je_c j2_sub) ja_m0))))))) ?_
    with_reducible refine v_nil ?_
    refine w_law_ofL (e := eI) [0, 1, 2, 12, 13, ((10 ^ (15 : Int).toNat) - 1)] (los_map 0 _) (hO.deal rfl).1 (bd_ap h) (fun v126 C u h => ?_)
    have hO := hO.up0 u
    with_reducible refine v_nil ?_
    with_reducible refine v_forI ?_
    have h := bd_ap h
    refine st_for hO (ji_seq (ds := [(max 0 (due_120 - 1)), due_120, v125, v126].map eI) je_c (sv_L (e := eI) (xs := [(max 0 (due_120 - 1)), due_120, v125, v126]))) h (fun (s127 : Unit) r' C' => ∃ (o8 : Option DL.D) (o9 : Option DL.D) (o10 : Option DL.D) (o11 : Option DL.D) (o12 : Option DL.D) (o13 : Option DL.D) (o14 : Option DL.D), r' = [some (.scr (script_1.map D.int)), some (.cel 0), some ((eP3 eI eI eI) v101), some ((eT (eP2 eI (eT eI))) v102), some ((eT (eT eI)) s111), some ((eL (eL eI)) ranks_118), some ((eL (eT (eO eI))) v119), some (eI due_120), o8, o9, o10, o11, o12, o13, o14] ∧ Own ⟨true, C0, [], []⟩ C') K (fun v z => z) (fun _ z => z) ⟨_, _, _, _, _, _, _, rfl, hO⟩ (fun _ _ _ _ => trivial) (fun s127 mostv_154 hx155 r' C Ks127 nx bk hR h hns127 hbs127 hrs127 => ?_) (fun s127 r' C hR h => ?_)
    · obtain ⟨o8, o9, o10, o11, o12, o13, o14, rfl, hO⟩ := hR
      refine st_g jg_n ?_
      with_reducible refine v_seq ?_
      with_reducible refine v_set ?_
      refine st_e (d := ((eT (eT eI)) (s111.map (fun (wished_156 : List Int) => (cut wished_156 none (some mostv_154)))))) hO (je_cb (ja_cons (je_lc0 (e := (eT eI)) (f := (eT eI)) (ji_seq (ds := s111.map (eT eI)) (je_var rfl) sv_T) (fun wished_156 => jg_n) (fun (wished_156 : List Int) => (cut wished_156 none (some mostv_154))) (fun wished_156 hx157 => (je_slT (e := eI) (xs := wished_156) (je_var rfl) jo_no (jo_part (je_var rfl))))) ja_nil) (jf_tuple (e := (eT eI)) (xs := (s111.map (fun (wished_156 : List Int) => (cut wished_156 none (some mostv_154))))) sv_L)) ?_
      let cut_159 : List (List Int) := (s111.map (fun (wished_156 : List Int) => (cut wished_156 none (some mostv_154))))
      with_reducible refine v_seq ?_
      with_reducible refine v_if ?_
      refine st_t hO (jt_not (jt_test (je_call (ja_cons (x := (eT (eT eI)) (v_cut_short s111 mostv_154)) (je_callKO ja_nil (ja_cons (x := eI mostv_154) (je_var rfl) (ja_cons (x := (eT (eT eI)) s111) (je_var rfl) ja_nil)) (fun C O Q E q => t_cut_short s111 mostv_154 q)) (ja_cons (x := (eT (eT eI)) cut_159) (je_var rfl) ja_nil)) (fun C Q E q => t_law_same (e := (eT (eT eI))) (v_cut_short s111 mostv_154) cut_159 q)))) (ite_b (fun hc160 => ?_) (fun hc160 => ?_))
      · have h := it_ap hc160 h
        with_reducible refine v_ret ?_
        refine st_e (d := (eB false)) hO je_c ?_
        exact fin_nil rfl (congrArg D.bl (hk _ (hrs127 _ h)))
      · have h := if_ap hc160 h
        with_reducible refine v_next ?_
        with_reducible refine v_seq ?_
        with_reducible refine v_if ?_
        with_reducible refine v_not ?_
        with_reducible refine v_test ?_
        with_reducible refine v_call ?_
        with_reducible refine v_cons ?_
        with_reducible refine v_callK ?_
        with_reducible refine v_nil ?_
        with_reducible refine v_cons ?_
        refine st_e (d := (eI mostv_154)) hO (je_var rfl) ?_
        with_reducible refine v_cons ?_
        refine st_e (d := ((eT (eT eI)) s111)) hO (je_var rfl) ?_
        with_reducible refine v_cons ?_
        refine st_e (d := ((eT (eP2 eI (eT eI))) v102)) hO (je_var rfl) ?_
        with_reducible refine v_nil ?_
        refine w_shut_out v102 s111 mostv_154 (bd_ap h) (fun v162 C u h => ?_)
        have hO := hO.up0 u
        with_reducible refine v_cons ?_
        with_reducible refine v_call ?_
        with_reducible refine v_cons ?_
        refine st_e (d := ((eT (eP2 eI (eT eI))) v102)) hO (je_var rfl) ?_
        with_reducible refine v_cons ?_
        refine st_e (d := ((eL (eL eI)) ranks_118)) hO (je_var rfl) ?_
        with_reducible refine v_cons ?_
        refine st_e (d := ((eT (eT eI)) s111)) hO (je_var rfl) ?_
        with_reducible refine v_cons ?_
        refine st_e (d := (eI mostv_154)) hO (je_var rfl) ?_
        with_reducible refine v_nil ?_
        refine w_law_shut_out v102 ranks_118 s111 mostv_154 (bd_ap h) (fun v163 C u h => ?_)
        have hO := hO.up0 u
        with_reducible refine v_nil ?_
        refine t_law_same (e := (eT eI)) v162 v163 ?_
        refine ite_b (fun hc161 => ?_) (fun hc161 => ?_)
        · have h := it_ap hc161 h
          with_reducible refine v_ret ?_
          refine st_e (d := (eB false)) hO je_c ?_
          exact fin_nil rfl (congrArg D.bl (hk _ (hrs127 _ h)))
        · have h := if_ap hc161 h
          with_reducible refine v_next ?_
          with_reducible refine v_seq ?_
          with_reducible refine v_set ?_
          obtain ⟨p180, h⟩ := as_ap h
          refine st_e (d := ((eT (eO eI)) (gi v119 (min mostv_154 12)))) hO (je_op (je_var rfl) (je_cb (ja_cons (x := eI mostv_154) (je_var rfl) (ja_cons (x := eI 12) je_c ja_nil)) jf_min2) (j2_ix (e := (eT (eO eI))) (xs := v119) sv_L p180)) ?_
          let dealing_164 : List (Option Int) := (gi v119 (min mostv_154 12))
          with_reducible refine v_seq ?_
          with_reducible refine v_if ?_
          with_reducible refine v_not ?_
          with_reducible refine v_test ?_
          with_reducible refine v_call ?_
          with_reducible refine v_cons ?_
          with_reducible refine v_call ?_
          with_reducible refine v_cons ?_
          refine st_e (d := ((eT (eP2 eI (eT eI))) v102)) hO (je_var rfl) ?_
          with_reducible refine v_cons ?_
          refine st_e (d := ((eT (eT eI)) cut_159)) hO (je_var rfl) ?_
          with_reducible refine v_nil ?_
          refine w_people_best v102 cut_159 (bd_ap h) (fun v166 C u h => ?_)
          have hO := hO.up0 u
          with_reducible refine v_cons ?_
          refine st_e (d := ((eT (eO eI)) dealing_164)) hO (je_var rfl) ?_
          with_reducible refine v_nil ?_
          refine t_law_same (e := (eT (eO eI))) v166 dealing_164 ?_
          refine ite_b (fun hc165 => ?_) (fun hc165 => ?_)
          · have h := it_ap hc165 h
            with_reducible refine v_ret ?_
            refine st_e (d := (eB false)) hO je_c ?_
            exact fin_nil rfl (congrArg D.bl (hk _ (hrs127 _ h)))
          · have h := if_ap hc165 h
            with_reducible refine v_next ?_
            with_reducible refine v_seq ?_
            obtain ⟨p179, h⟩ := as_ap h
            with_reducible refine v_if ?_
            refine st_t hO (jt_not (jt_test (je_call (ja_cons (x := eB (v_is_stable v102 s111 ((eT (eO eI)) dealing_164))) (je_callO (ja_cons (x := (eT (eP2 eI (eT eI))) v102) (je_var rfl) (ja_cons (x := (eT (eT eI)) s111) (je_var rfl) (ja_cons (x := eD ((eT (eO eI)) dealing_164)) (je_var rfl) ja_nil))) (fun C O Q E q => t_is_stable v102 s111 ((eT (eO eI)) dealing_164) p179 q)) (ja_cons (x := eB (decide (due_120 ≤ mostv_154))) (je_op (je_var rfl) (je_var rfl) j2_ge) ja_nil)) (fun C Q E q => t_law_same (e := eB) (v_is_stable v102 s111 ((eT (eO eI)) dealing_164)) (decide (due_120 ≤ mostv_154)) q)))) (ite_b (fun hc167 => ?_) (fun hc167 => ?_))
            · have h := it_ap hc167 h
              with_reducible refine v_ret ?_
              refine st_e (d := (eB false)) hO je_c ?_
              exact fin_nil rfl (congrArg D.bl (hk _ (hrs127 _ h)))
            · have h := if_ap hc167 h
              with_reducible refine v_next ?_
              obtain ⟨p178, h⟩ := as_ap h
              with_reducible refine v_forI ?_
              have h := bd_ap h
              refine st_for hO (ji_seq (ds := (v_blocking_pairs v102 s111 dealing_164).map (eP2 eI eI)) (je_callO (ja_cons (x := (eT (eP2 eI (eT eI))) v102) (je_var rfl) (ja_cons (x := (eT (eT eI)) s111) (je_var rfl) (ja_cons (x := (eT (eO eI)) dealing_164) (je_var rfl) ja_nil))) (fun C O Q E q => t_blocking_pairs v102 s111 dealing_164 p178 q)) sv_T) h (fun (s168 : Unit) r' C' => ∃ (o11 : Option DL.D) (o12 : Option DL.D) (o13 : Option DL.D) (o14 : Option DL.D), r' = [some (.scr (script_1.map D.int)), some (.cel 0), some ((eP3 eI eI eI) v101), some ((eT (eP2 eI (eT eI))) v102), some ((eT (eT eI)) s111), some ((eL (eL eI)) ranks_118), some ((eL (eT (eO eI))) v119), some (eI due_120), some (eI mostv_154), some ((eT (eT eI)) cut_159), some ((eT (eO eI)) dealing_164), o11, o12, o13, o14] ∧ Own ⟨true, C0, [], []⟩ C') K (fun v z => hrs127 v z) (fun _ z => z) ⟨_, _, _, _, rfl, hO⟩ (fun _ _ _ _ => trivial) (fun s168 zv_173 hx174 r' C Ks168 nx bk hR h hns168 hbs168 hrs168 => ?_) (fun s168 r' C hR h => ?_)
              · obtain ⟨o11, o12, o13, o14, rfl, hO⟩ := hR
                refine st_g (jg_tup (jg_cons jg_n (jg_cons jg_n jg_nil)) rfl) ?_
                obtain ⟨p177, h⟩ := as_ap h
                with_reducible refine v_if ?_
                refine st_t hO (jt_or (jt_test (je_op (je_op (je_var rfl) (je_var rfl) (j2_ix (e := (eO eI)) (xs := dealing_164) sv_T p177.1)) je_c (j2_notN (e := eI) (v := (gi dealing_164 zv_173.1))))) (fun hb176 => (jt_test (je_op (je_var rfl) (je_slT (e := eI) (xs := (gi s111 zv_173.1)) (je_op (je_var rfl) (je_var rfl) (j2_ix (e := (eT eI)) (xs := s111) sv_T (p177.2 hb176))) (jo_part (je_var rfl)) jo_no) (j2_nin (e := eI) (u := zv_173.2) (xs := (cut (gi s111 zv_173.1) (some mostv_154) none)) sv_T))))) (ite_b (fun hc175 => ?_) (fun hc175 => ?_))
                · have h := it_ap hc175 h
                  with_reducible refine v_ret ?_
                  refine st_e (d := (eB false)) hO je_c ?_
                  exact fin_nil rfl (congrArg D.bl (hk _ (hrs168 _ h)))
                · have h := if_ap hc175 h
                  with_reducible refine v_next ?_
                  exact hns168 () _ _ ⟨_, _, _, _, rfl, hO⟩ h
              obtain ⟨o11, o12, o13, o14, rfl, hO⟩ := hR
              exact hns127 () _ _ ⟨_, _, _, _, _, _, _, rfl, hO⟩ h
    obtain ⟨o8, o9, o10, o11, o12, o13, o14, rfl, hO⟩ := hR
    with_reducible refine v_ret ?_
    with_reducible refine v_call ?_
    with_reducible refine v_cons ?_
    with_reducible refine v_call ?_
    with_reducible refine v_cons ?_
    refine st_e (d := ((eT (eP2 eI (eT eI))) v102)) hO (je_var rfl) ?_
    with_reducible refine v_cons ?_
    refine st_e (d := ((eT (eT eI)) (s111.map (fun (one_191 : List Int) => ([] : List Int))))) hO (je_cb (ja_cons (je_lc0 (e := (eT eI)) (f := (eT eI)) (ji_seq (ds := s111.map (eT eI)) (je_var rfl) sv_T) (fun one_191 => jg_n) (fun (one_191 : List Int) => ([] : List Int)) (fun one_191 hx192 => (je_tupT (e := eI) (xs := []) ja_m0))) ja_nil) (jf_tuple (e := (eT eI)) (xs := (s111.map (fun (one_191 : List Int) => ([] : List Int)))) sv_L)) ?_
    with_reducible refine v_nil ?_
    refine w_names_enough v102 (s111.map (fun (one_191 : List Int) => ([] : List Int))) (bd_ap h) (fun v194 C u h => ?_)
    have hO := hO.up0 u
    with_reducible refine v_cons ?_
    refine st_e (d := (eI 0)) hO je_c ?_
    with_reducible refine v_nil ?_
    refine t_law_same (e := eI) v194 0 ?_
    exact fin_nil rfl (congrArg D.bl (hk _ h))
theorem idxOf_le_of {α : Type} [BEq α] [LawfulBEq α] {x : α} : ∀ {l : List α} {i : Nat}, l[i]? = some x → l.idxOf x ≤ i
  | [], i, h => by cases h
  | y :: ys, 0, h => by
    cases h
    simp
  | y :: ys, i + 1, h => by
    rw [List.idxOf_cons]
    have := idxOf_le_of (l := ys) (i := i) h
    cases y == x
    · show ys.idxOf x + 1 ≤ i + 1
      omega
    · show 0 ≤ i + 1
      omega
/-- places beyond the cut -/
theorem blk_out {hs : Hal} {n m x p : Int} {ws : Wis} {d : Dea} (W : WOk hs n ws) (m0 : 0 ≤ m) (P : PBest hs n (cutW ws m) d) (h : (x, p) ∈ blkL hs n ws d) : (0 ≤ x ∧ x < n) ∧ gi d x = none ∧ p ∈ cut (gi ws x) (some m) none := by
  obtain ⟨⟨x0, x1⟩, ⟨p0, p1⟩, hb, he⟩ := mem_blkL.mp h
  have hw : ∀ q, gi d x = some q → q ∈ (gi ws x).take m.toNat := fun q e => by
    have := P.wish x q x0 x1 e
    rw [cutW_gi W m0 x0 x1] at this
    exact this
  have hp : p ∈ gi ws x := spo_better hb fun q e => List.mem_of_mem_take (hw q e)
  have hnt : p ∉ (gi ws x).take m.toNat := fun ht => by
    refine P.nob x p x0 x1 p0 p1 ⟨?_, he⟩
    rw [cutW_gi W m0 x0 x1, spo_take ht]
    cases e : gi d x with
    | none =>
      rw [spo_none, ← spo_take ht]
      exact spo_lt ht
    | some q =>
      rw [spo_take (hw q e)]
      rw [e] at hb
      exact hb
  refine ⟨⟨x0, x1⟩, ?_, ?_⟩
  · cases e : gi d x with
    | none => rfl
    | some q =>
      exfalso
      have hq := hw q e
      rw [e, spo_in hp, spo_in (List.mem_of_mem_take hq)] at hb
      obtain ⟨hq1, hq2⟩ := take_idx.mp hq
      exact hnt (take_idx.mpr ⟨hp, by omega⟩)
  · rw [cut_lo _ m0]
    have : p ∈ (gi ws x).take m.toNat ++ (gi ws x).drop m.toNat := by rw [List.take_append_drop]; exact hp
    exact (List.mem_append.mp this).resolve_left hnt
theorem law_typed (ns : List Int) {X : XP} : p_law ns (fun b => b = true) X := by
  unfold p_law
  refine of_b (by simp) (by simp) fun sz hsz => ?_
  have hz : (1 ≤ sz.1 ∧ sz.1 ≤ 40) ∧ (1 ≤ sz.2.1 ∧ sz.2.1 ≤ 12) ∧ (1 ≤ sz.2.2 ∧ sz.2.2 ≤ 20) := by
    simp only [List.mem_cons, List.not_mem_nil, or_false] at hsz
    rcases hsz with rfl | rfl | rfl | rfl | rfl <;> decide
  refine bd_i (law_hall_k hz.1 hz.2.1 hz.2.2 fun hs n H _ _ _ => ?_)
  have p1 := H.p1
  have p12 := H.p12
  have n1 := H.n1
  have n40 := H.n40
  refine bd_i (law_wishes_k H fun ws0 W0 => ?_)
  refine bd_p (fun ws : Wis => WOk hs n ws) (fun K k => ?_) fun ws W => ?_
  · refine any_b (by decide) (by decide) fun v _ _ => ?_
    refine iteM (fun _ => ?_) (fun _ => k _ W0)
    refine as_mk (fun _ _ => by unfold rgOk; omega) (k _ ⟨by rw [List.length_map]; exact W0.len, fun w hw => ?_⟩)
    obtain ⟨_, _, rfl⟩ := List.mem_map.mp hw
    exact ⟨(List.reverse_perm _).nodup_iff.mpr (irange_nodup _ _), fun p hp => mem_irange.mp (List.mem_reverse.mp hp)⟩
  have wl := W.len
  refine as_mk (ok_law_ranks_of H) ?_
  refine bd_i (law_cuts_k H W fun row rl hr => ?_)
  have hb : ∀ m : Int, 0 ≤ m → m < 13 → gi row m = bestOf hs n (cutW ws m) := fun m m0 m1 => bestOf_eq H (cutW_ok W m0) (hr m m0 m1)
  have h12 : gi row 12 = bestOf hs n ws := by rw [hb 12 (by decide) (by decide), cutW_all H W (by decide)]
  have hm12 : gi row 12 ∈ row := gi_in (by decide) (by omega)
  have D : Due hs n ws ((row.idxOf (gi row 12) : Nat) : Int) := by
    have hlt := List.idxOf_lt_length_iff.mpr hm12
    refine ⟨by omega, by omega, ?_, fun m m0 m1 e => ?_⟩
    · rw [← hb _ (by omega) (by omega), gi_ofNat, List.getD_eq_getElem?_getD, List.getElem?_eq_getElem hlt, List.getElem_idxOf]
      exact h12
    · rw [← hb m m0 (by omega), ← h12] at e
      have hg := gi_get (xs := row) m0 (by omega)
      rw [e] at hg
      have := idxOf_le_of hg
      omega
  refine as_mk ⟨inb_of (by decide) (by omega), hm12⟩ ?_
  dsimp only
  generalize ((row.idxOf (gi row 12) : Nat) : Int) = due at D
  have d0 := D.d0
  refine bd_i (names_enough_k H W D (ne_i rfl ?_))
  refine any_b (by decide) (by decide) fun a a0 _ => ?_
  refine of_b (by simp) (by simp) fun b hb' => ?_
  have b0 : 0 ≤ b := by
    simp only [List.mem_cons, List.not_mem_nil, or_false] at hb'
    rcases hb' with rfl | rfl | rfl | rfl | rfl | rfl <;> decide
  refine bd_i (forR_ok (fun _ _ => True) trivial (fun i m s K' hm _ k' _ _ => ?_) fun s _ => ?_)
  · have m0 : 0 ≤ m := by
      have := List.mem_of_getElem? hm
      simp only [List.mem_cons, List.not_mem_nil, or_false] at this
      rcases this with rfl | rfl | rfl | rfl <;> omega
    have V := cutW_ok W m0
    have ed : gi row (min m 12) = bestOf hs n (cutW ws m) := by
      rw [hb _ (by omega) (by omega)]
      by_cases h : m ≤ 12
      · rw [Int.min_eq_left h]
      · rw [Int.min_eq_right (by omega), cutW_all H W (by decide), cutW_all H W (m := m) (by omega)]
    refine ne_i rfl ?_
    refine bd_i (shut_out_k H W m0 ?_)
    refine bd_i (law_shut_out_k H W m0 (ne_i rfl ?_))
    refine as_mk (inb_of (by omega) (by omega)) ?_
    rw [ed]
    refine bd_i (people_best_k H V fun d P => ?_)
    have e2 := bestOf_eq H V P
    rw [← e2]
    have dl := P.len
    refine ne_i rfl (as_mk (ok_is_stable_eT H W d) (ne_i ?_ ?_))
    · rw [Bool.eq_iff_iff, is_stable_eT H W, decide_eq_true_iff, e2]
      exact D.stb H W m0
    refine as_mk (ok_blocking_pairs_of H W dl) ?_
    rw [blocking_pairs_eq H]
    refine bd_i (forR_ok (fun _ _ => True) trivial (fun j z s K2 hz _ k2 _ _ => ?_) fun s _ => k' _ trivial)
    obtain ⟨x, p⟩ := z
    obtain ⟨⟨x0, x1⟩, hn, hp⟩ := blk_out W m0 P (List.mem_of_getElem? hz)
    refine as_mk ⟨inb_of x0 (by omega), fun _ => inb_of x0 (by omega)⟩ (iteM (fun h => ?_) (fun _ => k2 _ trivial))
    exfalso
    rw [hn] at h
    simp [hp] at h
  · have W9 : WOk hs n (ws.map fun _ => ([] : List Int)) := ⟨by rw [List.length_map]; exact wl, fun w hw => by
      obtain ⟨_, _, rfl⟩ := List.mem_map.mp hw
      exact ⟨by simp, fun p hp => (nomatch hp)⟩⟩
    have e : cutW (ws.map fun _ => ([] : List Int)) 0 = ws.map fun _ => ([] : List Int) := by
      unfold cutW
      rw [List.map_map]
      rfl
    refine bd_i (names_enough_k H W9 (due := 0) ⟨by decide, by decide, by rw [e], fun m m0 m1 => by omega⟩ rfl)

theorem law_plain (ns : List Int) (hl : ns.length ≤ 63) : sp_law [.scr (ns.map D.int)] [] (fun d _ => d = .bl true) (fun _ _ _ => False) := w_law (K := fun b => b = true) (X := fun _ _ => False) ns hl (law_typed ns) fun _ h => h
def LV : Nat := 13
theorem all_mk {l : PySem.W.OpenLaw} {w : World} {K : PySem.W.Frag} {h : Heap} {mg : Str → Option Value} {fa : Addr} (X : K.In h) (G : h.Ns mainGlobals mg) (hfa : mg "law" = some (.ref fa))
    {f_is_integer : Addr} {od_is_integer an_is_integer : Option Addr} {sl_is_integer : Array (Option Value)} {oc_is_integer kV_is_integer dc_is_integer pm_is_integer cd_is_integer ct_is_integer : Value}
    {f_is_index : Addr} {od_is_index an_is_index : Option Addr} {sl_is_index : Array (Option Value)} {oc_is_index kV_is_index dc_is_index pm_is_index cd_is_index ct_is_index : Value}
    {f_people_in : Addr} {od_people_in an_people_in : Option Addr} {sl_people_in : Array (Option Value)} {oc_people_in kV_people_in dc_people_in pm_people_in cd_people_in ct_people_in : Value}
    {f_rank : Addr} {od_rank an_rank : Option Addr} {sl_rank : Array (Option Value)} {oc_rank kV_rank dc_rank pm_rank cd_rank ct_rank : Value}
    {f_is_ahead : Addr} {od_is_ahead an_is_ahead : Option Addr} {sl_is_ahead : Array (Option Value)} {oc_is_ahead kV_is_ahead dc_is_ahead pm_is_ahead cd_is_ahead ct_is_ahead : Value}
    {f_is_dealing : Addr} {od_is_dealing an_is_dealing : Option Addr} {sl_is_dealing : Array (Option Value)} {oc_is_dealing kV_is_dealing dc_is_dealing pm_is_dealing cd_is_dealing ct_is_dealing : Value}
    {f_those_at : Addr} {od_those_at an_those_at : Option Addr} {sl_those_at : Array (Option Value)} {oc_those_at kV_those_at dc_those_at pm_those_at cd_those_at ct_those_at : Value}
    {f_filled : Addr} {od_filled an_filled : Option Addr} {sl_filled : Array (Option Value)} {oc_filled kV_filled dc_filled pm_filled cd_filled ct_filled : Value}
    {f_fits : Addr} {od_fits an_fits : Option Addr} {sl_fits : Array (Option Value)} {oc_fits kV_fits dc_fits pm_fits cd_fits ct_fits : Value}
    {f_place_in_list : Addr} {od_place_in_list an_place_in_list : Option Addr} {sl_place_in_list : Array (Option Value)} {oc_place_in_list kV_place_in_list dc_place_in_list pm_place_in_list cd_place_in_list ct_place_in_list : Value}
    {f_likes_better : Addr} {od_likes_better an_likes_better : Option Addr} {sl_likes_better : Array (Option Value)} {oc_likes_better kV_likes_better dc_likes_better pm_likes_better cd_likes_better ct_likes_better : Value}
    {f_last_of : Addr} {od_last_of an_last_of : Option Addr} {sl_last_of : Array (Option Value)} {oc_last_of kV_last_of dc_last_of pm_last_of cd_last_of ct_last_of : Value}
    {f_people_best : Addr} {od_people_best an_people_best : Option Addr} {sl_people_best : Array (Option Value)} {oc_people_best kV_people_best dc_people_best pm_people_best cd_people_best ct_people_best : Value}
    {f_cut_short : Addr} {od_cut_short an_cut_short : Option Addr} {sl_cut_short : Array (Option Value)} {oc_cut_short kV_cut_short dc_cut_short pm_cut_short cd_cut_short ct_cut_short : Value}
    {f_with_list : Addr} {od_with_list an_with_list : Option Addr} {sl_with_list : Array (Option Value)} {oc_with_list kV_with_list dc_with_list pm_with_list cd_with_list ct_with_list : Value}
    {f_names_enough : Addr} {od_names_enough an_names_enough : Option Addr} {sl_names_enough : Array (Option Value)} {oc_names_enough kV_names_enough dc_names_enough pm_names_enough cd_names_enough ct_names_enough : Value}
    {f_shut_out : Addr} {od_shut_out an_shut_out : Option Addr} {sl_shut_out : Array (Option Value)} {oc_shut_out kV_shut_out dc_shut_out pm_shut_out cd_shut_out ct_shut_out : Value}
    {f_would_enter : Addr} {od_would_enter an_would_enter : Option Addr} {sl_would_enter : Array (Option Value)} {oc_would_enter kV_would_enter dc_would_enter pm_would_enter cd_would_enter ct_would_enter : Value}
    {f_is_blocking : Addr} {od_is_blocking an_is_blocking : Option Addr} {sl_is_blocking : Array (Option Value)} {oc_is_blocking kV_is_blocking dc_is_blocking pm_is_blocking cd_is_blocking ct_is_blocking : Value}
    {f_blocking_pairs : Addr} {od_blocking_pairs an_blocking_pairs : Option Addr} {sl_blocking_pairs : Array (Option Value)} {oc_blocking_pairs kV_blocking_pairs dc_blocking_pairs pm_blocking_pairs cd_blocking_pairs ct_blocking_pairs : Value}
    {f_is_stable : Addr} {od_is_stable an_is_stable : Option Addr} {sl_is_stable : Array (Option Value)} {oc_is_stable kV_is_stable dc_is_stable pm_is_stable cd_is_stable ct_is_stable : Value}
    {f_law_draw : Addr} {od_law_draw an_law_draw : Option Addr} {sl_law_draw : Array (Option Value)} {oc_law_draw kV_law_draw dc_law_draw pm_law_draw cd_law_draw ct_law_draw : Value}
    {f_law_any : Addr} {od_law_any an_law_any : Option Addr} {sl_law_any : Array (Option Value)} {oc_law_any kV_law_any dc_law_any pm_law_any cd_law_any ct_law_any : Value}
    {f_law_of : Addr} {od_law_of an_law_of : Option Addr} {sl_law_of : Array (Option Value)} {oc_law_of kV_law_of dc_law_of pm_law_of cd_law_of ct_law_of : Value}
    {f_law_mixed : Addr} {od_law_mixed an_law_mixed : Option Addr} {sl_law_mixed : Array (Option Value)} {oc_law_mixed kV_law_mixed dc_law_mixed pm_law_mixed cd_law_mixed ct_law_mixed : Value}
    {f_law_same : Addr} {od_law_same an_law_same : Option Addr} {sl_law_same : Array (Option Value)} {oc_law_same kV_law_same dc_law_same pm_law_same cd_law_same ct_law_same : Value}
    {f_law_order : Addr} {od_law_order an_law_order : Option Addr} {sl_law_order : Array (Option Value)} {oc_law_order kV_law_order dc_law_order pm_law_order cd_law_order ct_law_order : Value}
    {f_law_hall : Addr} {od_law_hall an_law_hall : Option Addr} {sl_law_hall : Array (Option Value)} {oc_law_hall kV_law_hall dc_law_hall pm_law_hall cd_law_hall ct_law_hall : Value}
    {f_law_list : Addr} {od_law_list an_law_list : Option Addr} {sl_law_list : Array (Option Value)} {oc_law_list kV_law_list dc_law_list pm_law_list cd_law_list ct_law_list : Value}
    {f_law_wishes : Addr} {od_law_wishes an_law_wishes : Option Addr} {sl_law_wishes : Array (Option Value)} {oc_law_wishes kV_law_wishes dc_law_wishes pm_law_wishes cd_law_wishes ct_law_wishes : Value}
    {f_law_at : Addr} {od_law_at an_law_at : Option Addr} {sl_law_at : Array (Option Value)} {oc_law_at kV_law_at dc_law_at pm_law_at cd_law_at ct_law_at : Value}
    {f_law_ranks : Addr} {od_law_ranks an_law_ranks : Option Addr} {sl_law_ranks : Array (Option Value)} {oc_law_ranks kV_law_ranks dc_law_ranks pm_law_ranks cd_law_ranks ct_law_ranks : Value}
    {f_law_go : Addr} {od_law_go an_law_go : Option Addr} {sl_law_go : Array (Option Value)} {oc_law_go kV_law_go dc_law_go pm_law_go cd_law_go ct_law_go : Value}
    {f_law_with : Addr} {od_law_with an_law_with : Option Addr} {sl_law_with : Array (Option Value)} {oc_law_with kV_law_with dc_law_with pm_law_with cd_law_with ct_law_with : Value}
    {f_law_cuts : Addr} {od_law_cuts an_law_cuts : Option Addr} {sl_law_cuts : Array (Option Value)} {oc_law_cuts kV_law_cuts dc_law_cuts pm_law_cuts cd_law_cuts ct_law_cuts : Value}
    {f_law_shut_out : Addr} {od_law_shut_out an_law_shut_out : Option Addr} {sl_law_shut_out : Array (Option Value)} {oc_law_shut_out kV_law_shut_out dc_law_shut_out pm_law_shut_out cd_law_shut_out ct_law_shut_out : Value}
    {f_law : Addr} {od_law an_law : Option Addr} {sl_law : Array (Option Value)} {oc_law kV_law dc_law pm_law cd_law ct_law : Value}
    (a_is_integer : PySem.W.nsIn K mainGlobals "is_integer" = some (some (.ref f_is_integer))) (l_is_integer : K.lookup f_is_integer = some ⟨oc_is_integer, od_is_integer, .func (PySem.W.fnOf "is_integer" "is_integer" (defArgs s_is_integer) (defBody s_is_integer) (defScope s_is_integer) .none kV_is_integer dc_is_integer pm_is_integer an_is_integer cd_is_integer ct_is_integer), sl_is_integer⟩) (c_is_integer : PySem.W.codeIn K cd_is_integer "is_integer" = true) (k_is_integer : PySem.W.keepIn K (.ref f_is_integer) = true)
    (a_is_index : PySem.W.nsIn K mainGlobals "is_index" = some (some (.ref f_is_index))) (l_is_index : K.lookup f_is_index = some ⟨oc_is_index, od_is_index, .func (PySem.W.fnOf "is_index" "is_index" (defArgs s_is_index) (defBody s_is_index) (defScope s_is_index) .none kV_is_index dc_is_index pm_is_index an_is_index cd_is_index ct_is_index), sl_is_index⟩) (c_is_index : PySem.W.codeIn K cd_is_index "is_index" = true) (k_is_index : PySem.W.keepIn K (.ref f_is_index) = true)
    (a_people_in : PySem.W.nsIn K mainGlobals "people_in" = some (some (.ref f_people_in))) (l_people_in : K.lookup f_people_in = some ⟨oc_people_in, od_people_in, .func (PySem.W.fnOf "people_in" "people_in" (defArgs s_people_in) (defBody s_people_in) (defScope s_people_in) .none kV_people_in dc_people_in pm_people_in an_people_in cd_people_in ct_people_in), sl_people_in⟩) (c_people_in : PySem.W.codeIn K cd_people_in "people_in" = true) (k_people_in : PySem.W.keepIn K (.ref f_people_in) = true)
    (a_rank : PySem.W.nsIn K mainGlobals "rank" = some (some (.ref f_rank))) (l_rank : K.lookup f_rank = some ⟨oc_rank, od_rank, .func (PySem.W.fnOf "rank" "rank" (defArgs s_rank) (defBody s_rank) (defScope s_rank) .none kV_rank dc_rank pm_rank an_rank cd_rank ct_rank), sl_rank⟩) (c_rank : PySem.W.codeIn K cd_rank "rank" = true) (k_rank : PySem.W.keepIn K (.ref f_rank) = true)
    (a_is_ahead : PySem.W.nsIn K mainGlobals "is_ahead" = some (some (.ref f_is_ahead))) (l_is_ahead : K.lookup f_is_ahead = some ⟨oc_is_ahead, od_is_ahead, .func (PySem.W.fnOf "is_ahead" "is_ahead" (defArgs s_is_ahead) (defBody s_is_ahead) (defScope s_is_ahead) .none kV_is_ahead dc_is_ahead pm_is_ahead an_is_ahead cd_is_ahead ct_is_ahead), sl_is_ahead⟩) (c_is_ahead : PySem.W.codeIn K cd_is_ahead "is_ahead" = true) (k_is_ahead : PySem.W.keepIn K (.ref f_is_ahead) = true)
    (a_is_dealing : PySem.W.nsIn K mainGlobals "is_dealing" = some (some (.ref f_is_dealing))) (l_is_dealing : K.lookup f_is_dealing = some ⟨oc_is_dealing, od_is_dealing, .func (PySem.W.fnOf "is_dealing" "is_dealing" (defArgs s_is_dealing) (defBody s_is_dealing) (defScope s_is_dealing) .none kV_is_dealing dc_is_dealing pm_is_dealing an_is_dealing cd_is_dealing ct_is_dealing), sl_is_dealing⟩) (c_is_dealing : PySem.W.codeIn K cd_is_dealing "is_dealing" = true) (k_is_dealing : PySem.W.keepIn K (.ref f_is_dealing) = true)
    (a_those_at : PySem.W.nsIn K mainGlobals "those_at" = some (some (.ref f_those_at))) (l_those_at : K.lookup f_those_at = some ⟨oc_those_at, od_those_at, .func (PySem.W.fnOf "those_at" "those_at" (defArgs s_those_at) (defBody s_those_at) (defScope s_those_at) .none kV_those_at dc_those_at pm_those_at an_those_at cd_those_at ct_those_at), sl_those_at⟩) (c_those_at : PySem.W.codeIn K cd_those_at "those_at" = true) (k_those_at : PySem.W.keepIn K (.ref f_those_at) = true)
    (a_filled : PySem.W.nsIn K mainGlobals "filled" = some (some (.ref f_filled))) (l_filled : K.lookup f_filled = some ⟨oc_filled, od_filled, .func (PySem.W.fnOf "filled" "filled" (defArgs s_filled) (defBody s_filled) (defScope s_filled) .none kV_filled dc_filled pm_filled an_filled cd_filled ct_filled), sl_filled⟩) (c_filled : PySem.W.codeIn K cd_filled "filled" = true) (k_filled : PySem.W.keepIn K (.ref f_filled) = true)
    (a_fits : PySem.W.nsIn K mainGlobals "fits" = some (some (.ref f_fits))) (l_fits : K.lookup f_fits = some ⟨oc_fits, od_fits, .func (PySem.W.fnOf "fits" "fits" (defArgs s_fits) (defBody s_fits) (defScope s_fits) .none kV_fits dc_fits pm_fits an_fits cd_fits ct_fits), sl_fits⟩) (c_fits : PySem.W.codeIn K cd_fits "fits" = true) (k_fits : PySem.W.keepIn K (.ref f_fits) = true)
    (a_place_in_list : PySem.W.nsIn K mainGlobals "place_in_list" = some (some (.ref f_place_in_list))) (l_place_in_list : K.lookup f_place_in_list = some ⟨oc_place_in_list, od_place_in_list, .func (PySem.W.fnOf "place_in_list" "place_in_list" (defArgs s_place_in_list) (defBody s_place_in_list) (defScope s_place_in_list) .none kV_place_in_list dc_place_in_list pm_place_in_list an_place_in_list cd_place_in_list ct_place_in_list), sl_place_in_list⟩) (c_place_in_list : PySem.W.codeIn K cd_place_in_list "place_in_list" = true) (k_place_in_list : PySem.W.keepIn K (.ref f_place_in_list) = true)
    (a_likes_better : PySem.W.nsIn K mainGlobals "likes_better" = some (some (.ref f_likes_better))) (l_likes_better : K.lookup f_likes_better = some ⟨oc_likes_better, od_likes_better, .func (PySem.W.fnOf "likes_better" "likes_better" (defArgs s_likes_better) (defBody s_likes_better) (defScope s_likes_better) .none kV_likes_better dc_likes_better pm_likes_better an_likes_better cd_likes_better ct_likes_better), sl_likes_better⟩) (c_likes_better : PySem.W.codeIn K cd_likes_better "likes_better" = true) (k_likes_better : PySem.W.keepIn K (.ref f_likes_better) = true)
    (a_last_of : PySem.W.nsIn K mainGlobals "last_of" = some (some (.ref f_last_of))) (l_last_of : K.lookup f_last_of = some ⟨oc_last_of, od_last_of, .func (PySem.W.fnOf "last_of" "last_of" (defArgs s_last_of) (defBody s_last_of) (defScope s_last_of) .none kV_last_of dc_last_of pm_last_of an_last_of cd_last_of ct_last_of), sl_last_of⟩) (c_last_of : PySem.W.codeIn K cd_last_of "last_of" = true) (k_last_of : PySem.W.keepIn K (.ref f_last_of) = true)
    (a_people_best : PySem.W.nsIn K mainGlobals "people_best" = some (some (.ref f_people_best))) (l_people_best : K.lookup f_people_best = some ⟨oc_people_best, od_people_best, .func (PySem.W.fnOf "people_best" "people_best" (defArgs s_people_best) (defBody s_people_best) (defScope s_people_best) .none kV_people_best dc_people_best pm_people_best an_people_best cd_people_best ct_people_best), sl_people_best⟩) (c_people_best : PySem.W.codeIn K cd_people_best "people_best" = true) (k_people_best : PySem.W.keepIn K (.ref f_people_best) = true)
    (a_cut_short : PySem.W.nsIn K mainGlobals "cut_short" = some (some (.ref f_cut_short))) (l_cut_short : K.lookup f_cut_short = some ⟨oc_cut_short, od_cut_short, .func (PySem.W.fnOf "cut_short" "cut_short" (defArgs s_cut_short) (defBody s_cut_short) (defScope s_cut_short) .none kV_cut_short dc_cut_short pm_cut_short an_cut_short cd_cut_short ct_cut_short), sl_cut_short⟩) (c_cut_short : PySem.W.codeIn K cd_cut_short "cut_short" = true) (k_cut_short : PySem.W.keepIn K (.ref f_cut_short) = true)
    (a_with_list : PySem.W.nsIn K mainGlobals "with_list" = some (some (.ref f_with_list))) (l_with_list : K.lookup f_with_list = some ⟨oc_with_list, od_with_list, .func (PySem.W.fnOf "with_list" "with_list" (defArgs s_with_list) (defBody s_with_list) (defScope s_with_list) .none kV_with_list dc_with_list pm_with_list an_with_list cd_with_list ct_with_list), sl_with_list⟩) (c_with_list : PySem.W.codeIn K cd_with_list "with_list" = true) (k_with_list : PySem.W.keepIn K (.ref f_with_list) = true)
    (a_names_enough : PySem.W.nsIn K mainGlobals "names_enough" = some (some (.ref f_names_enough))) (l_names_enough : K.lookup f_names_enough = some ⟨oc_names_enough, od_names_enough, .func (PySem.W.fnOf "names_enough" "names_enough" (defArgs s_names_enough) (defBody s_names_enough) (defScope s_names_enough) .none kV_names_enough dc_names_enough pm_names_enough an_names_enough cd_names_enough ct_names_enough), sl_names_enough⟩) (c_names_enough : PySem.W.codeIn K cd_names_enough "names_enough" = true) (k_names_enough : PySem.W.keepIn K (.ref f_names_enough) = true)
    (a_shut_out : PySem.W.nsIn K mainGlobals "shut_out" = some (some (.ref f_shut_out))) (l_shut_out : K.lookup f_shut_out = some ⟨oc_shut_out, od_shut_out, .func (PySem.W.fnOf "shut_out" "shut_out" (defArgs s_shut_out) (defBody s_shut_out) (defScope s_shut_out) .none kV_shut_out dc_shut_out pm_shut_out an_shut_out cd_shut_out ct_shut_out), sl_shut_out⟩) (c_shut_out : PySem.W.codeIn K cd_shut_out "shut_out" = true) (k_shut_out : PySem.W.keepIn K (.ref f_shut_out) = true)
    (a_would_enter : PySem.W.nsIn K mainGlobals "would_enter" = some (some (.ref f_would_enter))) (l_would_enter : K.lookup f_would_enter = some ⟨oc_would_enter, od_would_enter, .func (PySem.W.fnOf "would_enter" "would_enter" (defArgs s_would_enter) (defBody s_would_enter) (defScope s_would_enter) .none kV_would_enter dc_would_enter pm_would_enter an_would_enter cd_would_enter ct_would_enter), sl_would_enter⟩) (c_would_enter : PySem.W.codeIn K cd_would_enter "would_enter" = true) (k_would_enter : PySem.W.keepIn K (.ref f_would_enter) = true)
    (a_is_blocking : PySem.W.nsIn K mainGlobals "is_blocking" = some (some (.ref f_is_blocking))) (l_is_blocking : K.lookup f_is_blocking = some ⟨oc_is_blocking, od_is_blocking, .func (PySem.W.fnOf "is_blocking" "is_blocking" (defArgs s_is_blocking) (defBody s_is_blocking) (defScope s_is_blocking) .none kV_is_blocking dc_is_blocking pm_is_blocking an_is_blocking cd_is_blocking ct_is_blocking), sl_is_blocking⟩) (c_is_blocking : PySem.W.codeIn K cd_is_blocking "is_blocking" = true) (k_is_blocking : PySem.W.keepIn K (.ref f_is_blocking) = true)
    (a_blocking_pairs : PySem.W.nsIn K mainGlobals "blocking_pairs" = some (some (.ref f_blocking_pairs))) (l_blocking_pairs : K.lookup f_blocking_pairs = some ⟨oc_blocking_pairs, od_blocking_pairs, .func (PySem.W.fnOf "blocking_pairs" "blocking_pairs" (defArgs s_blocking_pairs) (defBody s_blocking_pairs) (defScope s_blocking_pairs) .none kV_blocking_pairs dc_blocking_pairs pm_blocking_pairs an_blocking_pairs cd_blocking_pairs ct_blocking_pairs), sl_blocking_pairs⟩) (c_blocking_pairs : PySem.W.codeIn K cd_blocking_pairs "blocking_pairs" = true) (k_blocking_pairs : PySem.W.keepIn K (.ref f_blocking_pairs) = true)
    (a_is_stable : PySem.W.nsIn K mainGlobals "is_stable" = some (some (.ref f_is_stable))) (l_is_stable : K.lookup f_is_stable = some ⟨oc_is_stable, od_is_stable, .func (PySem.W.fnOf "is_stable" "is_stable" (defArgs s_is_stable) (defBody s_is_stable) (defScope s_is_stable) .none kV_is_stable dc_is_stable pm_is_stable an_is_stable cd_is_stable ct_is_stable), sl_is_stable⟩) (c_is_stable : PySem.W.codeIn K cd_is_stable "is_stable" = true) (k_is_stable : PySem.W.keepIn K (.ref f_is_stable) = true)
    (a_law_draw : PySem.W.nsIn K mainGlobals "_law_draw" = some (some (.ref f_law_draw))) (l_law_draw : K.lookup f_law_draw = some ⟨oc_law_draw, od_law_draw, .func (PySem.W.fnOf "_law_draw" "_law_draw" (defArgs s_law_draw) (defBody s_law_draw) (defScope s_law_draw) .none kV_law_draw dc_law_draw pm_law_draw an_law_draw cd_law_draw ct_law_draw), sl_law_draw⟩) (c_law_draw : PySem.W.codeIn K cd_law_draw "_law_draw" = true) (k_law_draw : PySem.W.keepIn K (.ref f_law_draw) = true)
    (a_law_any : PySem.W.nsIn K mainGlobals "_law_any" = some (some (.ref f_law_any))) (l_law_any : K.lookup f_law_any = some ⟨oc_law_any, od_law_any, .func (PySem.W.fnOf "_law_any" "_law_any" (defArgs s_law_any) (defBody s_law_any) (defScope s_law_any) .none kV_law_any dc_law_any pm_law_any an_law_any cd_law_any ct_law_any), sl_law_any⟩) (c_law_any : PySem.W.codeIn K cd_law_any "_law_any" = true) (k_law_any : PySem.W.keepIn K (.ref f_law_any) = true)
    (a_law_of : PySem.W.nsIn K mainGlobals "_law_of" = some (some (.ref f_law_of))) (l_law_of : K.lookup f_law_of = some ⟨oc_law_of, od_law_of, .func (PySem.W.fnOf "_law_of" "_law_of" (defArgs s_law_of) (defBody s_law_of) (defScope s_law_of) .none kV_law_of dc_law_of pm_law_of an_law_of cd_law_of ct_law_of), sl_law_of⟩) (c_law_of : PySem.W.codeIn K cd_law_of "_law_of" = true) (k_law_of : PySem.W.keepIn K (.ref f_law_of) = true)
    (a_law_mixed : PySem.W.nsIn K mainGlobals "_law_mixed" = some (some (.ref f_law_mixed))) (l_law_mixed : K.lookup f_law_mixed = some ⟨oc_law_mixed, od_law_mixed, .func (PySem.W.fnOf "_law_mixed" "_law_mixed" (defArgs s_law_mixed) (defBody s_law_mixed) (defScope s_law_mixed) .none kV_law_mixed dc_law_mixed pm_law_mixed an_law_mixed cd_law_mixed ct_law_mixed), sl_law_mixed⟩) (c_law_mixed : PySem.W.codeIn K cd_law_mixed "_law_mixed" = true) (k_law_mixed : PySem.W.keepIn K (.ref f_law_mixed) = true)
    (a_law_same : PySem.W.nsIn K mainGlobals "_law_same" = some (some (.ref f_law_same))) (l_law_same : K.lookup f_law_same = some ⟨oc_law_same, od_law_same, .func (PySem.W.fnOf "_law_same" "_law_same" (defArgs s_law_same) (defBody s_law_same) (defScope s_law_same) .none kV_law_same dc_law_same pm_law_same an_law_same cd_law_same ct_law_same), sl_law_same⟩) (c_law_same : PySem.W.codeIn K cd_law_same "_law_same" = true) (k_law_same : PySem.W.keepIn K (.ref f_law_same) = true)
    (a_law_order : PySem.W.nsIn K mainGlobals "_law_order" = some (some (.ref f_law_order))) (l_law_order : K.lookup f_law_order = some ⟨oc_law_order, od_law_order, .func (PySem.W.fnOf "_law_order" "_law_order" (defArgs s_law_order) (defBody s_law_order) (defScope s_law_order) .none kV_law_order dc_law_order pm_law_order an_law_order cd_law_order ct_law_order), sl_law_order⟩) (c_law_order : PySem.W.codeIn K cd_law_order "_law_order" = true) (k_law_order : PySem.W.keepIn K (.ref f_law_order) = true)
    (a_law_hall : PySem.W.nsIn K mainGlobals "_law_hall" = some (some (.ref f_law_hall))) (l_law_hall : K.lookup f_law_hall = some ⟨oc_law_hall, od_law_hall, .func (PySem.W.fnOf "_law_hall" "_law_hall" (defArgs s_law_hall) (defBody s_law_hall) (defScope s_law_hall) .none kV_law_hall dc_law_hall pm_law_hall an_law_hall cd_law_hall ct_law_hall), sl_law_hall⟩) (c_law_hall : PySem.W.codeIn K cd_law_hall "_law_hall" = true) (k_law_hall : PySem.W.keepIn K (.ref f_law_hall) = true)
    (a_law_list : PySem.W.nsIn K mainGlobals "_law_list" = some (some (.ref f_law_list))) (l_law_list : K.lookup f_law_list = some ⟨oc_law_list, od_law_list, .func (PySem.W.fnOf "_law_list" "_law_list" (defArgs s_law_list) (defBody s_law_list) (defScope s_law_list) .none kV_law_list dc_law_list pm_law_list an_law_list cd_law_list ct_law_list), sl_law_list⟩) (c_law_list : PySem.W.codeIn K cd_law_list "_law_list" = true) (k_law_list : PySem.W.keepIn K (.ref f_law_list) = true)
    (a_law_wishes : PySem.W.nsIn K mainGlobals "_law_wishes" = some (some (.ref f_law_wishes))) (l_law_wishes : K.lookup f_law_wishes = some ⟨oc_law_wishes, od_law_wishes, .func (PySem.W.fnOf "_law_wishes" "_law_wishes" (defArgs s_law_wishes) (defBody s_law_wishes) (defScope s_law_wishes) .none kV_law_wishes dc_law_wishes pm_law_wishes an_law_wishes cd_law_wishes ct_law_wishes), sl_law_wishes⟩) (c_law_wishes : PySem.W.codeIn K cd_law_wishes "_law_wishes" = true) (k_law_wishes : PySem.W.keepIn K (.ref f_law_wishes) = true)
    (a_law_at : PySem.W.nsIn K mainGlobals "_law_at" = some (some (.ref f_law_at))) (l_law_at : K.lookup f_law_at = some ⟨oc_law_at, od_law_at, .func (PySem.W.fnOf "_law_at" "_law_at" (defArgs s_law_at) (defBody s_law_at) (defScope s_law_at) .none kV_law_at dc_law_at pm_law_at an_law_at cd_law_at ct_law_at), sl_law_at⟩) (c_law_at : PySem.W.codeIn K cd_law_at "_law_at" = true) (k_law_at : PySem.W.keepIn K (.ref f_law_at) = true)
    (a_law_ranks : PySem.W.nsIn K mainGlobals "_law_ranks" = some (some (.ref f_law_ranks))) (l_law_ranks : K.lookup f_law_ranks = some ⟨oc_law_ranks, od_law_ranks, .func (PySem.W.fnOf "_law_ranks" "_law_ranks" (defArgs s_law_ranks) (defBody s_law_ranks) (defScope s_law_ranks) .none kV_law_ranks dc_law_ranks pm_law_ranks an_law_ranks cd_law_ranks ct_law_ranks), sl_law_ranks⟩) (c_law_ranks : PySem.W.codeIn K cd_law_ranks "_law_ranks" = true) (k_law_ranks : PySem.W.keepIn K (.ref f_law_ranks) = true)
    (a_law_go : PySem.W.nsIn K mainGlobals "_law_go" = some (some (.ref f_law_go))) (l_law_go : K.lookup f_law_go = some ⟨oc_law_go, od_law_go, .func (PySem.W.fnOf "_law_go" "_law_go" (defArgs s_law_go) (defBody s_law_go) (defScope s_law_go) .none kV_law_go dc_law_go pm_law_go an_law_go cd_law_go ct_law_go), sl_law_go⟩) (c_law_go : PySem.W.codeIn K cd_law_go "_law_go" = true) (k_law_go : PySem.W.keepIn K (.ref f_law_go) = true)
    (a_law_with : PySem.W.nsIn K mainGlobals "_law_with" = some (some (.ref f_law_with))) (l_law_with : K.lookup f_law_with = some ⟨oc_law_with, od_law_with, .func (PySem.W.fnOf "_law_with" "_law_with" (defArgs s_law_with) (defBody s_law_with) (defScope s_law_with) .none kV_law_with dc_law_with pm_law_with an_law_with cd_law_with ct_law_with), sl_law_with⟩) (c_law_with : PySem.W.codeIn K cd_law_with "_law_with" = true) (k_law_with : PySem.W.keepIn K (.ref f_law_with) = true)
    (a_law_cuts : PySem.W.nsIn K mainGlobals "_law_cuts" = some (some (.ref f_law_cuts))) (l_law_cuts : K.lookup f_law_cuts = some ⟨oc_law_cuts, od_law_cuts, .func (PySem.W.fnOf "_law_cuts" "_law_cuts" (defArgs s_law_cuts) (defBody s_law_cuts) (defScope s_law_cuts) .none kV_law_cuts dc_law_cuts pm_law_cuts an_law_cuts cd_law_cuts ct_law_cuts), sl_law_cuts⟩) (c_law_cuts : PySem.W.codeIn K cd_law_cuts "_law_cuts" = true) (k_law_cuts : PySem.W.keepIn K (.ref f_law_cuts) = true)
    (a_law_shut_out : PySem.W.nsIn K mainGlobals "_law_shut_out" = some (some (.ref f_law_shut_out))) (l_law_shut_out : K.lookup f_law_shut_out = some ⟨oc_law_shut_out, od_law_shut_out, .func (PySem.W.fnOf "_law_shut_out" "_law_shut_out" (defArgs s_law_shut_out) (defBody s_law_shut_out) (defScope s_law_shut_out) .none kV_law_shut_out dc_law_shut_out pm_law_shut_out an_law_shut_out cd_law_shut_out ct_law_shut_out), sl_law_shut_out⟩) (c_law_shut_out : PySem.W.codeIn K cd_law_shut_out "_law_shut_out" = true) (k_law_shut_out : PySem.W.keepIn K (.ref f_law_shut_out) = true)
    (a_law : PySem.W.nsIn K mainGlobals "law" = some (some (.ref f_law))) (l_law : K.lookup f_law = some ⟨oc_law, od_law, .func (PySem.W.fnOf "law" "law" (defArgs s_law) (defBody s_law) (defScope s_law) .none kV_law dc_law pm_law an_law cd_law ct_law), sl_law⟩) (c_law : PySem.W.codeIn K cd_law "law" = true) (k_law : PySem.W.keepIn K (.ref f_law) = true)
    (z_abs : PySem.W.nsIn K mainGlobals "abs" = some none)
    (z_all : PySem.W.nsIn K mainGlobals "all" = some none)
    (z_any : PySem.W.nsIn K mainGlobals "any" = some none)
    (z_bool : PySem.W.nsIn K mainGlobals "bool" = some none)
    (z_enumerate : PySem.W.nsIn K mainGlobals "enumerate" = some none)
    (z_int : PySem.W.nsIn K mainGlobals "int" = some none)
    (z_isinstance : PySem.W.nsIn K mainGlobals "isinstance" = some none)
    (z_len : PySem.W.nsIn K mainGlobals "len" = some none)
    (z_list : PySem.W.nsIn K mainGlobals "list" = some none)
    (z_max : PySem.W.nsIn K mainGlobals "max" = some none)
    (z_min : PySem.W.nsIn K mainGlobals "min" = some none)
    (z_range : PySem.W.nsIn K mainGlobals "range" = some none)
    (z_str : PySem.W.nsIn K mainGlobals "str" = some none)
    (z_tuple : PySem.W.nsIn K mainGlobals "tuple" = some none)
    (z_zip : PySem.W.nsIn K mainGlobals "zip" = some none) :
    ∃ fd : FuncData, (∀ (s : Shared) (v : Value), BindsTo s fd ⟨[v], []⟩ [("script", v)]) ∧ ∀ base : Heap, K.In base → base.Ns mainGlobals mg → FnOk l.prog w K mg base (L2.CX l.prog w) LV fa fd ["script"] (spUp K 1 sp_law) := by
  have e := hfa.symm.trans (PySem.W.mg_of X G a_law)
  cases e
  have m_abs := PySem.W.mg_none_of X G z_abs
  have m_all := PySem.W.mg_none_of X G z_all
  have m_any := PySem.W.mg_none_of X G z_any
  have m_bool := PySem.W.mg_none_of X G z_bool
  have m_enumerate := PySem.W.mg_none_of X G z_enumerate
  have m_int := PySem.W.mg_none_of X G z_int
  have m_isinstance := PySem.W.mg_none_of X G z_isinstance
  have m_len := PySem.W.mg_none_of X G z_len
  have m_list := PySem.W.mg_none_of X G z_list
  have m_max := PySem.W.mg_none_of X G z_max
  have m_min := PySem.W.mg_none_of X G z_min
  have m_range := PySem.W.mg_none_of X G z_range
  have m_str := PySem.W.mg_none_of X G z_str
  have m_tuple := PySem.W.mg_none_of X G z_tuple
  have m_zip := PySem.W.mg_none_of X G z_zip
  refine ⟨PySem.W.fnOf "law" "law" (defArgs s_law) (defBody s_law) (defScope s_law) .none kV_law dc_law pm_law an_law cd_law ct_law, fun s v => .of_eq rfl, fun base _ _ => ?_⟩
  have G_is_integer : Fn l.prog w K mg base 1 "is_integer" s_is_integer ["value"] sp_is_integer := fn_is_integer (k := 0) m_bool m_int m_isinstance  (fun_mk (st := s_is_integer) l_is_integer c_is_integer k_is_integer) (PySem.W.mg_of X G a_is_integer)
  have G_is_index : Fn l.prog w K mg base 2 "is_index" s_is_index ["value", "many"] sp_is_index := fn_is_index (k := 1)  (G_is_integer.mono (by decide : 1 ≤ 1)) (fun_mk (st := s_is_index) l_is_index c_is_index k_is_index) (PySem.W.mg_of X G a_is_index)
  have G_people_in : Fn l.prog w K mg base 1 "people_in" s_people_in ["hall"] sp_people_in := fn_people_in (k := 0) m_len  (fun_mk (st := s_people_in) l_people_in c_people_in k_people_in) (PySem.W.mg_of X G a_people_in)
  have G_rank : Fn l.prog w K mg base 1 "rank" s_rank ["hall", "place", "person"] sp_rank := fn_rank (k := 0)   (fun_mk (st := s_rank) l_rank c_rank k_rank) (PySem.W.mg_of X G a_rank)
  have G_is_ahead : Fn l.prog w K mg base 2 "is_ahead" s_is_ahead ["hall", "place", "one", "other"] sp_is_ahead := fn_is_ahead (k := 1)  (G_rank.mono (by decide : 1 ≤ 1)) (fun_mk (st := s_is_ahead) l_is_ahead c_is_ahead k_is_ahead) (PySem.W.mg_of X G a_is_ahead)
  have G_is_dealing : Fn l.prog w K mg base 3 "is_dealing" s_is_dealing ["hall", "value"] sp_is_dealing := fn_is_dealing (k := 2) m_all m_isinstance m_len m_tuple (G_people_in.mono (by decide : 1 ≤ 2)) (G_is_index.mono (by decide : 2 ≤ 2)) (fun_mk (st := s_is_dealing) l_is_dealing c_is_dealing k_is_dealing) (PySem.W.mg_of X G a_is_dealing)
  have G_those_at : Fn l.prog w K mg base 1 "those_at" s_those_at ["dealing", "place"] sp_those_at := fn_those_at (k := 0) m_enumerate m_tuple  (fun_mk (st := s_those_at) l_those_at c_those_at k_those_at) (PySem.W.mg_of X G a_those_at)
  have G_filled : Fn l.prog w K mg base 2 "filled" s_filled ["hall", "dealing"] sp_filled := fn_filled (k := 1) m_len m_range m_tuple (G_those_at.mono (by decide : 1 ≤ 1)) (fun_mk (st := s_filled) l_filled c_filled k_filled) (PySem.W.mg_of X G a_filled)
  have G_fits : Fn l.prog w K mg base 3 "fits" s_fits ["hall", "wishes", "dealing"] sp_fits := fn_fits (k := 2) m_all m_enumerate m_zip (G_filled.mono (by decide : 2 ≤ 2)) (fun_mk (st := s_fits) l_fits c_fits k_fits) (PySem.W.mg_of X G a_fits)
  have G_place_in_list : Fn l.prog w K mg base 1 "place_in_list" s_place_in_list ["wishes", "person", "x"] sp_place_in_list := fn_place_in_list (k := 0) m_len  (fun_mk (st := s_place_in_list) l_place_in_list c_place_in_list k_place_in_list) (PySem.W.mg_of X G a_place_in_list)
  have G_likes_better : Fn l.prog w K mg base 2 "likes_better" s_likes_better ["wishes", "person", "one", "other"] sp_likes_better := fn_likes_better (k := 1)  (G_place_in_list.mono (by decide : 1 ≤ 1)) (fun_mk (st := s_likes_better) l_likes_better c_likes_better k_likes_better) (PySem.W.mg_of X G a_likes_better)
  have G_last_of : Fn l.prog w K mg base 2 "last_of" s_last_of ["hall", "place", "people"] sp_last_of := fn_last_of (k := 1) m_max (G_rank.mono (by decide : 1 ≤ 1)) (fun_mk (st := s_last_of) l_last_of c_last_of k_last_of) (PySem.W.mg_of X G a_last_of)
  have G_people_best : Fn l.prog w K mg base 3 "people_best" s_people_best ["hall", "wishes"] sp_people_best := fn_people_best (k := 2) m_enumerate m_len m_list m_range m_tuple (G_last_of.mono (by decide : 2 ≤ 2)) (fun_mk (st := s_people_best) l_people_best c_people_best k_people_best) (PySem.W.mg_of X G a_people_best)
  have G_cut_short : Fn l.prog w K mg base 1 "cut_short" s_cut_short ["wishes", "most"] sp_cut_short := fn_cut_short (k := 0) m_tuple  (fun_mk (st := s_cut_short) l_cut_short c_cut_short k_cut_short) (PySem.W.mg_of X G a_cut_short)
  have G_with_list : Fn l.prog w K mg base 1 "with_list" s_with_list ["wishes", "person", "chosen"] sp_with_list := fn_with_list (k := 0)   (fun_mk (st := s_with_list) l_with_list c_with_list k_with_list) (PySem.W.mg_of X G a_with_list)
  have G_names_enough : Fn l.prog w K mg base 4 "names_enough" s_names_enough ["hall", "wishes"] sp_names_enough := fn_names_enough (k := 3)  (G_people_best.mono (by decide : 3 ≤ 3)) (G_cut_short.mono (by decide : 1 ≤ 3)) (fun_mk (st := s_names_enough) l_names_enough c_names_enough k_names_enough) (PySem.W.mg_of X G a_names_enough)
  have G_shut_out : Fn l.prog w K mg base 4 "shut_out" s_shut_out ["hall", "wishes", "most"] sp_shut_out := fn_shut_out (k := 3) m_enumerate m_tuple (G_cut_short.mono (by decide : 1 ≤ 3)) (G_people_best.mono (by decide : 3 ≤ 3)) (G_with_list.mono (by decide : 1 ≤ 3)) (fun_mk (st := s_shut_out) l_shut_out c_shut_out k_shut_out) (PySem.W.mg_of X G a_shut_out)
  have G_would_enter : Fn l.prog w K mg base 3 "would_enter" s_would_enter ["hall", "dealing", "person", "place"] sp_would_enter := fn_would_enter (k := 2) m_any m_len (G_those_at.mono (by decide : 1 ≤ 2)) (G_is_ahead.mono (by decide : 2 ≤ 2)) (fun_mk (st := s_would_enter) l_would_enter c_would_enter k_would_enter) (PySem.W.mg_of X G a_would_enter)
  have G_is_blocking : Fn l.prog w K mg base 4 "is_blocking" s_is_blocking ["hall", "wishes", "dealing", "person", "place"] sp_is_blocking := fn_is_blocking (k := 3)  (G_likes_better.mono (by decide : 2 ≤ 3)) (G_would_enter.mono (by decide : 3 ≤ 3)) (fun_mk (st := s_is_blocking) l_is_blocking c_is_blocking k_is_blocking) (PySem.W.mg_of X G a_is_blocking)
  have G_blocking_pairs : Fn l.prog w K mg base 5 "blocking_pairs" s_blocking_pairs ["hall", "wishes", "dealing"] sp_blocking_pairs := fn_blocking_pairs (k := 4) m_len m_range m_tuple (G_people_in.mono (by decide : 1 ≤ 4)) (G_is_blocking.mono (by decide : 4 ≤ 4)) (fun_mk (st := s_blocking_pairs) l_blocking_pairs c_blocking_pairs k_blocking_pairs) (PySem.W.mg_of X G a_blocking_pairs)
  have G_is_stable : Fn l.prog w K mg base 6 "is_stable" s_is_stable ["hall", "wishes", "value"] sp_is_stable := fn_is_stable (k := 5)  (G_is_dealing.mono (by decide : 3 ≤ 5)) (G_fits.mono (by decide : 3 ≤ 5)) (G_blocking_pairs.mono (by decide : 5 ≤ 5)) (fun_mk (st := s_is_stable) l_is_stable c_is_stable k_is_stable) (PySem.W.mg_of X G a_is_stable)
  have G_law_draw : Fn l.prog w K mg base 1 "_law_draw" s_law_draw ["script", "salt"] sp_law_draw := fn_law_draw (k := 0) m_abs m_int  (fun_mk (st := s_law_draw) l_law_draw c_law_draw k_law_draw) (PySem.W.mg_of X G a_law_draw)
  have G_law_any : Fn l.prog w K mg base 1 "_law_any" s_law_any ["deal", "bound"] sp_law_any := fn_law_any (k := 0) m_int  (fun_mk (st := s_law_any) l_law_any c_law_any k_law_any) (PySem.W.mg_of X G a_law_any)
  have G_law_of : Fn l.prog w K mg base 2 "_law_of" s_law_of ["deal", "some"] sp_law_of := fn_law_of (k := 1) m_len (G_law_any.mono (by decide : 1 ≤ 1)) (fun_mk (st := s_law_of) l_law_of c_law_of k_law_of) (PySem.W.mg_of X G a_law_of)
  have G_law_mixed : Fn l.prog w K mg base 2 "_law_mixed" s_law_mixed ["deal", "some"] sp_law_mixed := fn_law_mixed (k := 1) m_len m_list (G_law_any.mono (by decide : 1 ≤ 1)) (fun_mk (st := s_law_mixed) l_law_mixed c_law_mixed k_law_mixed) (PySem.W.mg_of X G a_law_mixed)
  have G_law_same : Fn l.prog w K mg base 12 "_law_same" s_law_same ["value", "due"] sp_law_same := fn_law_same (k := 0) m_bool m_int m_isinstance m_len m_str m_tuple m_zip  (fun_mk (st := s_law_same) l_law_same c_law_same k_law_same) (PySem.W.mg_of X G a_law_same) 12
  have G_law_order : Fn l.prog w K mg base 3 "_law_order" s_law_order ["deal", "many", "like"] sp_law_order := fn_law_order (k := 2) m_len m_list m_max m_min m_range m_tuple (G_law_any.mono (by decide : 1 ≤ 2)) (G_law_mixed.mono (by decide : 2 ≤ 2)) (G_law_of.mono (by decide : 2 ≤ 2)) (fun_mk (st := s_law_order) l_law_order c_law_order k_law_order) (PySem.W.mg_of X G a_law_order)
  have G_law_hall : Fn l.prog w K mg base 4 "_law_hall" s_law_hall ["deal", "people", "places", "seats"] sp_law_hall := fn_law_hall (k := 3) m_range m_tuple (G_law_any.mono (by decide : 1 ≤ 3)) (G_law_order.mono (by decide : 3 ≤ 3)) (fun_mk (st := s_law_hall) l_law_hall c_law_hall k_law_hall) (PySem.W.mg_of X G a_law_hall)
  have G_law_list : Fn l.prog w K mg base 3 "_law_list" s_law_list ["deal", "places", "like"] sp_law_list := fn_law_list (k := 2) m_list m_range m_tuple (G_law_any.mono (by decide : 1 ≤ 2)) (G_law_mixed.mono (by decide : 2 ≤ 2)) (fun_mk (st := s_law_list) l_law_list c_law_list k_law_list) (PySem.W.mg_of X G a_law_list)
  have G_law_wishes : Fn l.prog w K mg base 4 "_law_wishes" s_law_wishes ["deal", "hall"] sp_law_wishes := fn_law_wishes (k := 3) m_len m_list m_range m_tuple (G_law_any.mono (by decide : 1 ≤ 3)) (G_law_mixed.mono (by decide : 2 ≤ 3)) (G_law_list.mono (by decide : 3 ≤ 3)) (fun_mk (st := s_law_wishes) l_law_wishes c_law_wishes k_law_wishes) (PySem.W.mg_of X G a_law_wishes)
  have G_law_at : Fn l.prog w K mg base 1 "_law_at" s_law_at ["dealing", "place"] sp_law_at := fn_law_at (k := 0) m_enumerate  (fun_mk (st := s_law_at) l_law_at c_law_at k_law_at) (PySem.W.mg_of X G a_law_at)
  have G_law_ranks : Fn l.prog w K mg base 1 "_law_ranks" s_law_ranks ["hall"] sp_law_ranks := fn_law_ranks (k := 0) m_len m_range  (fun_mk (st := s_law_ranks) l_law_ranks c_law_ranks k_law_ranks) (PySem.W.mg_of X G a_law_ranks)
  have G_law_go : Fn l.prog w K mg base 2 "_law_go" s_law_go ["hall", "ranks", "lists", "found", "spots", "free"] sp_law_go := fn_law_go (k := 1) m_len m_max (G_law_at.mono (by decide : 1 ≤ 1)) (fun_mk (st := s_law_go) l_law_go c_law_go k_law_go) (PySem.W.mg_of X G a_law_go)
  have G_law_with : Fn l.prog w K mg base 1 "_law_with" s_law_with ["wishes", "person", "chosen"] sp_law_with := fn_law_with (k := 0)   (fun_mk (st := s_law_with) l_law_with c_law_with k_law_with) (PySem.W.mg_of X G a_law_with)
  have G_law_cuts : Fn l.prog w K mg base 3 "_law_cuts" s_law_cuts ["hall", "ranks", "wishes"] sp_law_cuts := fn_law_cuts (k := 2) m_enumerate m_range m_tuple (G_law_go.mono (by decide : 2 ≤ 2)) (fun_mk (st := s_law_cuts) l_law_cuts c_law_cuts k_law_cuts) (PySem.W.mg_of X G a_law_cuts)
  have G_law_shut_out : Fn l.prog w K mg base 3 "_law_shut_out" s_law_shut_out ["hall", "ranks", "wishes", "most"] sp_law_shut_out := fn_law_shut_out (k := 2) m_enumerate m_len m_list m_range m_tuple (G_law_go.mono (by decide : 2 ≤ 2)) (G_law_with.mono (by decide : 1 ≤ 2)) (fun_mk (st := s_law_shut_out) l_law_shut_out c_law_shut_out k_law_shut_out) (PySem.W.mg_of X G a_law_shut_out)
  exact dl_fn (k := 12) (fun_mk (st := s_law) l_law c_law k_law) sc_law (rd_law sp_law_draw sp_law_of sp_law_hall sp_law_wishes sp_law_any sp_law_ranks sp_law_cuts sp_law_same sp_names_enough sp_cut_short sp_law_shut_out sp_shut_out sp_people_best sp_is_stable sp_blocking_pairs) fun cdv A outer s H E B W hr tk => ds_law m_len m_list m_max m_min m_range m_tuple (G_law_draw.mono (by decide : 1 ≤ 12)) (G_law_of.mono (by decide : 2 ≤ 12)) (G_law_hall.mono (by decide : 4 ≤ 12)) (G_law_wishes.mono (by decide : 4 ≤ 12)) (G_law_any.mono (by decide : 1 ≤ 12)) (G_law_ranks.mono (by decide : 1 ≤ 12)) (G_law_cuts.mono (by decide : 3 ≤ 12)) (G_law_same.mono (by decide : 12 ≤ 12)) (G_names_enough.mono (by decide : 4 ≤ 12)) (G_cut_short.mono (by decide : 1 ≤ 12)) (G_law_shut_out.mono (by decide : 3 ≤ 12)) (G_shut_out.mono (by decide : 4 ≤ 12)) (G_people_best.mono (by decide : 3 ≤ 12)) (G_is_stable.mono (by decide : 6 ≤ 12)) (G_blocking_pairs.mono (by decide : 5 ≤ 12)) _ cdv A outer s H E B W hr tk
end LW
open PySem PySem.W PyProof.Rows
set_option maxHeartbeats 0 in
theorem PySem.Challenge.cw_seatedwell_k59_whole_lists_cut_short_holds : PySem.Challenge.rw_seatedwell_k59_whole_lists_cut_short.Holds := by
  w_on; o_law; k_head; (case hw => w_witness2)
  k_fill
  refine L2.walk_of (l := PySem.Challenge.rw_seatedwell_k59_whole_lists_cut_short) (n := 63) (k := LW.LV) (x := "script") (CX := fun w => L2.CX PySem.Challenge.pw_seatedwell_k59_whole_lists_cut_short w) (sp := fun w => DL.spUp _ 1 LW.sp_law) rfl (by decide) rfl ⟨rfl, by decide, by decide⟩ (fun w h Y => PySem.W.kIn_of Y) ?F (fun _ _ a ns hl _ hS => DL.law_sp hS (LW.law_plain ns hl)) (fun _ _ _ _ _ h => DL.cx_false h)
  case F =>
    intro w mg fa h KX G hmg
    refine' LW.all_mk KX G hmg ?a_is_integer ?l_is_integer ?c_is_integer ?k_is_integer ?a_is_index ?l_is_index ?c_is_index ?k_is_index ?a_people_in ?l_people_in ?c_people_in ?k_people_in ?a_rank ?l_rank ?c_rank ?k_rank ?a_is_ahead ?l_is_ahead ?c_is_ahead ?k_is_ahead ?a_is_dealing ?l_is_dealing ?c_is_dealing ?k_is_dealing ?a_those_at ?l_those_at ?c_those_at ?k_those_at ?a_filled ?l_filled ?c_filled ?k_filled ?a_fits ?l_fits ?c_fits ?k_fits ?a_place_in_list ?l_place_in_list ?c_place_in_list ?k_place_in_list ?a_likes_better ?l_likes_better ?c_likes_better ?k_likes_better ?a_last_of ?l_last_of ?c_last_of ?k_last_of ?a_people_best ?l_people_best ?c_people_best ?k_people_best ?a_cut_short ?l_cut_short ?c_cut_short ?k_cut_short ?a_with_list ?l_with_list ?c_with_list ?k_with_list ?a_names_enough ?l_names_enough ?c_names_enough ?k_names_enough ?a_shut_out ?l_shut_out ?c_shut_out ?k_shut_out ?a_would_enter ?l_would_enter ?c_would_enter ?k_would_enter ?a_is_blocking ?l_is_blocking ?c_is_blocking ?k_is_blocking ?a_blocking_pairs ?l_blocking_pairs ?c_blocking_pairs ?k_blocking_pairs ?a_is_stable ?l_is_stable ?c_is_stable ?k_is_stable ?a_law_draw ?l_law_draw ?c_law_draw ?k_law_draw ?a_law_any ?l_law_any ?c_law_any ?k_law_any ?a_law_of ?l_law_of ?c_law_of ?k_law_of ?a_law_mixed ?l_law_mixed ?c_law_mixed ?k_law_mixed ?a_law_same ?l_law_same ?c_law_same ?k_law_same ?a_law_order ?l_law_order ?c_law_order ?k_law_order ?a_law_hall ?l_law_hall ?c_law_hall ?k_law_hall ?a_law_list ?l_law_list ?c_law_list ?k_law_list ?a_law_wishes ?l_law_wishes ?c_law_wishes ?k_law_wishes ?a_law_at ?l_law_at ?c_law_at ?k_law_at ?a_law_ranks ?l_law_ranks ?c_law_ranks ?k_law_ranks ?a_law_go ?l_law_go ?c_law_go ?k_law_go ?a_law_with ?l_law_with ?c_law_with ?k_law_with ?a_law_cuts ?l_law_cuts ?c_law_cuts ?k_law_cuts ?a_law_shut_out ?l_law_shut_out ?c_law_shut_out ?k_law_shut_out ?a_law ?l_law ?c_law ?k_law ?z_abs ?z_all ?z_any ?z_bool ?z_enumerate ?z_int ?z_isinstance ?z_len ?z_list ?z_max ?z_min ?z_range ?z_str ?z_tuple ?z_zip
    (case a_is_integer => k_is); (case l_is_integer => k_is); (case c_is_integer => k_is); (case k_is_integer => k_is); (case a_is_index => k_is); (case l_is_index => k_is); (case c_is_index => k_is); (case k_is_index => k_is); (case a_people_in => k_is); (case l_people_in => k_is); (case c_people_in => k_is); (case k_people_in => k_is); (case a_rank => k_is); (case l_rank => k_is); (case c_rank => k_is); (case k_rank => k_is); (case a_is_ahead => k_is); (case l_is_ahead => k_is); (case c_is_ahead => k_is); (case k_is_ahead => k_is); (case a_is_dealing => k_is); (case l_is_dealing => k_is); (case c_is_dealing => k_is); (case k_is_dealing => k_is); (case a_those_at => k_is); (case l_those_at => k_is); (case c_those_at => k_is); (case k_those_at => k_is); (case a_filled => k_is); (case l_filled => k_is); (case c_filled => k_is); (case k_filled => k_is); (case a_fits => k_is); (case l_fits => k_is); (case c_fits => k_is); (case k_fits => k_is); (case a_place_in_list => k_is); (case l_place_in_list => k_is); (case c_place_in_list => k_is); (case k_place_in_list => k_is); (case a_likes_better => k_is); (case l_likes_better => k_is); (case c_likes_better => k_is); (case k_likes_better => k_is); (case a_last_of => k_is); (case l_last_of => k_is); (case c_last_of => k_is); (case k_last_of => k_is); (case a_people_best => k_is); (case l_people_best => k_is); (case c_people_best => k_is); (case k_people_best => k_is); (case a_cut_short => k_is); (case l_cut_short => k_is); (case c_cut_short => k_is); (case k_cut_short => k_is); (case a_with_list => k_is); (case l_with_list => k_is); (case c_with_list => k_is); (case k_with_list => k_is); (case a_names_enough => k_is); (case l_names_enough => k_is); (case c_names_enough => k_is); (case k_names_enough => k_is); (case a_shut_out => k_is); (case l_shut_out => k_is); (case c_shut_out => k_is); (case k_shut_out => k_is); (case a_would_enter => k_is); (case l_would_enter => k_is); (case c_would_enter => k_is); (case k_would_enter => k_is); (case a_is_blocking => k_is); (case l_is_blocking => k_is); (case c_is_blocking => k_is); (case k_is_blocking => k_is); (case a_blocking_pairs => k_is); (case l_blocking_pairs => k_is); (case c_blocking_pairs => k_is); (case k_blocking_pairs => k_is); (case a_is_stable => k_is); (case l_is_stable => k_is); (case c_is_stable => k_is); (case k_is_stable => k_is); (case a_law_draw => k_is); (case l_law_draw => k_is); (case c_law_draw => k_is); (case k_law_draw => k_is); (case a_law_any => k_is); (case l_law_any => k_is); (case c_law_any => k_is); (case k_law_any => k_is); (case a_law_of => k_is); (case l_law_of => k_is); (case c_law_of => k_is); (case k_law_of => k_is); (case a_law_mixed => k_is); (case l_law_mixed => k_is); (case c_law_mixed => k_is); (case k_law_mixed => k_is); (case a_law_same => k_is); (case l_law_same => k_is); (case c_law_same => k_is); (case k_law_same => k_is); (case a_law_order => k_is); (case l_law_order => k_is); (case c_law_order => k_is); (case k_law_order => k_is); (case a_law_hall => k_is); (case l_law_hall => k_is); (case c_law_hall => k_is); (case k_law_hall => k_is); (case a_law_list => k_is); (case l_law_list => k_is); (case c_law_list => k_is); (case k_law_list => k_is); (case a_law_wishes => k_is); (case l_law_wishes => k_is); (case c_law_wishes => k_is); (case k_law_wishes => k_is); (case a_law_at => k_is); (case l_law_at => k_is); (case c_law_at => k_is); (case k_law_at => k_is); (case a_law_ranks => k_is); (case l_law_ranks => k_is); (case c_law_ranks => k_is); (case k_law_ranks => k_is); (case a_law_go => k_is); (case l_law_go => k_is); (case c_law_go => k_is); (case k_law_go => k_is); (case a_law_with => k_is); (case l_law_with => k_is); (case c_law_with => k_is); (case k_law_with => k_is); (case a_law_cuts => k_is); (case l_law_cuts => k_is); (case c_law_cuts => k_is); (case k_law_cuts => k_is); (case a_law_shut_out => k_is); (case l_law_shut_out => k_is); (case c_law_shut_out => k_is); (case k_law_shut_out => k_is); (case a_law => k_is); (case l_law => k_is); (case c_law => k_is); (case k_law => k_is); (case z_abs => k_is); (case z_all => k_is); (case z_any => k_is); (case z_bool => k_is); (case z_enumerate => k_is); (case z_int => k_is); (case z_isinstance => k_is); (case z_len => k_is); (case z_list => k_is); (case z_max => k_is); (case z_min => k_is); (case z_range => k_is); (case z_str => k_is); (case z_tuple => k_is); (case z_zip => k_is)
