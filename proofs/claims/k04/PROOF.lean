import PyProof.Rows.All
import Wide.All
import OpenK.AllK
import Wide.FinOn
import HandS.ForMost
import HandS.ForExc
import HandS.CallSlots
import HandS.TupAny
import HandS.Conv
import HandS.Zip
import HandS.Strs
import KE.GoesEnum
import KE.GoesNew
import HandS.Style
import HandS.IsInst
import HandS.SortInts
import HandS.Deep
import HandS.SetFor
import HandS.Nested
import KE.GoesZip
import KE.GoesMore
import HandS.More
import HandS.Comp
import HandS.Flow
import HandS.WordsExc
import HandS.Codes
import HandS.NoneIn
import PySem.Challenge.RW_seatedwell_k04_whole_pairs_that_block
set_option Elab.async false
set_option linter.all false
set_option maxRecDepth 100000
set_option maxHeartbeats 4000000
/-! DL1: pure data D over the hand layer; mutable lists as numbered cells; readings that speak of data alone. -/
namespace DL
open PySem PySem.Spec PyProof.Rows L2

/-- pure data; scr: a list that is read alone (the script); cel n: the n-th mutable list; obj: a def, a class -/
inductive D where
  | non | bl (b : Bool) | int (i : Int) | str (x : Str) | tup (xs : List D) | lst (xs : List D) | scr (xs : List D) | cel (n : Nat) | obj (a : Addr)
inductive Cl where
  | lst (xs : List D)
abbrev Cs := List Cl
abbrev Ev := List (Option D)

def off (m : List Addr) (H : Hp) : Hp := fun a => if a ∈ m then none else H a
theorem off_some {m : List Addr} {H : Hp} {a : Addr} {o : HO} : off m H a = some o ↔ a ∉ m ∧ H a = some o := by
  unfold off
  by_cases e : a ∈ m
  · rw [if_pos e]
    exact ⟨fun z => (nomatch z), fun z => absurd e z.1⟩
  · rw [if_neg e]
    exact ⟨fun z => ⟨e, z⟩, fun z => z.2⟩

mutual
def Rep (K : PySem.W.Frag) (m : List Addr) (H : Hp) : D → V → Prop
  | .non, v => v = .non
  | .bl b, v => v = .bl b
  | .int i, v => v = .int i
  | .str x, v => v = .str x
  | .tup ds, v => ∃ a vs o, v = .ref a ∧ H a = some (.frz o (.tup vs)) ∧ o.dict = none ∧ Reps K m H ds vs
  | .lst ds, v => ∃ a vs, v = .ref a ∧ H a = some (.lst vs) ∧ Reps K m H ds vs
  | .scr ds, v => ∃ a vs, v = .ref a ∧ SqL K H a vs ∧ Reps K m H ds vs
  | .cel n, v => ∃ a, v = .ref a ∧ m[n]? = some a
  | .obj a, v => v = .ref a
def Reps (K : PySem.W.Frag) (m : List Addr) (H : Hp) : List D → List V → Prop
  | [], vs => vs = []
  | d :: ds, vs => ∃ v vr, vs = v :: vr ∧ Rep K m H d v ∧ Reps K m H ds vr
end

theorem Rd.mono {H H' : Hp} (k : ∀ a o, H a = some o → H' a = some o) {a : Addr} {u : HO} (r : Rd H a u) : Rd H' a u := by
  rcases r with r | ⟨o, r⟩
  · exact .inl (k _ _ r)
  · exact .inr ⟨o, k _ _ r⟩
theorem SqL.mono {K : PySem.W.Frag} {H H' : Hp} (k : ∀ a o, H a = some o → H' a = some o) {a : Addr} {xs : List V} (r : SqL K H a xs) : SqL K H' a xs := by
  rcases r with r | r
  · exact .inl (Rd.mono k r)
  · exact .inr r
theorem SqT.mono {K : PySem.W.Frag} {H H' : Hp} (k : ∀ a o, H a = some o → H' a = some o) {a : Addr} {xs : List V} (r : SqT K H a xs) : SqT K H' a xs := by
  rcases r with r | r
  · exact .inl (Rd.mono k r)
  · exact .inr r
theorem pre_get {m m' : List Addr} (p : m <+: m') {n : Nat} {a : Addr} (h : m[n]? = some a) : m'[n]? = some a := by
  obtain ⟨t, rfl⟩ := p
  rw [List.getElem?_append_left (List.getElem?_eq_some_iff.mp h).1]
  exact h

mutual
theorem Rep.mono {K : PySem.W.Frag} {m m' : List Addr} {H H' : Hp} (p : m <+: m') (k : ∀ a o, H a = some o → H' a = some o) : ∀ (d : D) {v : V}, Rep K m H d v → Rep K m' H' d v
  | .non, _, r => r
  | .bl _, _, r => r
  | .int _, _, r => r
  | .str _, _, r => r
  | .tup ds, _, ⟨a, vs, o, e, s, z, r⟩ => ⟨a, vs, o, e, k _ _ s, z, Reps.mono p k ds r⟩
  | .lst ds, _, ⟨a, vs, e, s, r⟩ => ⟨a, vs, e, k _ _ s, Reps.mono p k ds r⟩
  | .scr ds, _, ⟨a, vs, e, s, r⟩ => ⟨a, vs, e, SqL.mono k s, Reps.mono p k ds r⟩
  | .cel n, _, ⟨a, e, g⟩ => ⟨a, e, pre_get p g⟩
  | .obj _, _, r => r
theorem Reps.mono {K : PySem.W.Frag} {m m' : List Addr} {H H' : Hp} (p : m <+: m') (k : ∀ a o, H a = some o → H' a = some o) : ∀ (ds : List D) {vs : List V}, Reps K m H ds vs → Reps K m' H' ds vs
  | [], _, r => r
  | d :: ds, _, ⟨v, vr, e, r, q⟩ => ⟨v, vr, e, Rep.mono p k d r, Reps.mono p k ds q⟩
end

theorem reps_iff {K : PySem.W.Frag} {m : List Addr} {H : Hp} : ∀ {ds : List D} {vs : List V}, Reps K m H ds vs ↔ ds.length = vs.length ∧ ∀ (i : Nat) d v, ds[i]? = some d → vs[i]? = some v → Rep K m H d v
  | [], vs => by
    constructor
    · intro r
      have e : vs = [] := r
      subst e
      exact ⟨rfl, fun i d v h => by simp at h⟩
    · intro ⟨e, _⟩
      exact List.eq_nil_of_length_eq_zero e.symm
  | d :: ds, vs => by
    constructor
    · intro ⟨v, vr, e, r, q⟩
      subst e
      obtain ⟨l, g⟩ := reps_iff.mp q
      refine ⟨by simp [l], fun i d' v' h1 h2 => ?_⟩
      cases i with
      | zero =>
        simp at h1 h2
        subst h1 h2
        exact r
      | succ i => exact g i d' v' (by simpa using h1) (by simpa using h2)
    · intro ⟨l, g⟩
      cases vs with
      | nil => simp at l
      | cons v vr =>
        refine ⟨v, vr, rfl, g 0 d v rfl rfl, reps_iff.mpr ⟨by simpa using l, fun i d' v' h1 h2 => g (i + 1) d' v' (by simpa using h1) (by simpa using h2)⟩⟩
section
variable {K : PySem.W.Frag} {m : List Addr} {H : Hp} {ds es : List D} {vs us : List V}
theorem Reps.length (r : Reps K m H ds vs) : ds.length = vs.length := (reps_iff.mp r).1
theorem Reps.get (r : Reps K m H ds vs) {i : Nat} {d : D} (h : ds[i]? = some d) : ∃ v, vs[i]? = some v ∧ Rep K m H d v := by
  obtain ⟨l, g⟩ := reps_iff.mp r
  have hi : i < vs.length := by rw [← l]; exact (List.getElem?_eq_some_iff.mp h).1
  exact ⟨vs[i], List.getElem?_eq_getElem hi, g i d _ h (List.getElem?_eq_getElem hi)⟩
theorem Reps.getV (r : Reps K m H ds vs) {i : Nat} {v : V} (h : vs[i]? = some v) : ∃ d, ds[i]? = some d ∧ Rep K m H d v := by
  obtain ⟨l, g⟩ := reps_iff.mp r
  have hi : i < ds.length := by rw [l]; exact (List.getElem?_eq_some_iff.mp h).1
  exact ⟨ds[i], List.getElem?_eq_getElem hi, g i _ v (List.getElem?_eq_getElem hi) h⟩
theorem Reps.nil : Reps K m H [] [] := rfl
theorem Reps.cons {d : D} {v : V} (r : Rep K m H d v) (q : Reps K m H ds vs) : Reps K m H (d :: ds) (v :: vs) := ⟨v, vs, rfl, r, q⟩
theorem Reps.one {d : D} {v : V} (r : Rep K m H d v) : Reps K m H [d] [v] := ⟨v, [], rfl, r, rfl⟩
theorem Reps.append : ∀ {ds : List D} {vs : List V}, Reps K m H ds vs → Reps K m H es us → Reps K m H (ds ++ es) (vs ++ us)
  | [], _, r, q => by
    have e : _ = [] := r
    subst e
    exact q
  | d :: ds, _, ⟨v, vr, e, r, t⟩, q => by
    subst e
    exact ⟨v, vr ++ us, rfl, r, Reps.append t q⟩
theorem Reps.take (n : Nat) (r : Reps K m H ds vs) : Reps K m H (ds.take n) (vs.take n) := by
  obtain ⟨l, g⟩ := reps_iff.mp r
  refine reps_iff.mpr ⟨by simp [l], fun i d v h1 h2 => ?_⟩
  rw [List.getElem?_take] at h1 h2
  split at h1
  · rename_i hi
    rw [if_pos hi] at h2
    exact g i d v h1 h2
  · cases h1
theorem Reps.drop (n : Nat) (r : Reps K m H ds vs) : Reps K m H (ds.drop n) (vs.drop n) := by
  obtain ⟨l, g⟩ := reps_iff.mp r
  refine reps_iff.mpr ⟨by simp [l], fun i d v h1 h2 => ?_⟩
  rw [List.getElem?_drop] at h1 h2
  exact g _ d v h1 h2
theorem Reps.set {d : D} {v : V} (n : Nat) (rd : Rep K m H d v) (r : Reps K m H ds vs) : Reps K m H (ds.set n d) (vs.set n v) := by
  obtain ⟨l, g⟩ := reps_iff.mp r
  refine reps_iff.mpr ⟨by simp [l], fun i d' v' h1 h2 => ?_⟩
  rw [List.getElem?_set] at h1 h2
  by_cases e : n = i
  · subst e
    rw [if_pos rfl] at h1 h2
    by_cases hl : n < ds.length
    · rw [if_pos hl] at h1
      rw [if_pos (l ▸ hl)] at h2
      cases h1
      cases h2
      exact rd
    · rw [if_neg hl] at h1
      cases h1
  · rw [if_neg e] at h1 h2
    exact g i d' v' h1 h2
theorem Reps.reverse (r : Reps K m H ds vs) : Reps K m H ds.reverse vs.reverse := by
  obtain ⟨l, g⟩ := reps_iff.mp r
  refine reps_iff.mpr ⟨by simp [l], fun i d v h1 h2 => ?_⟩
  have hi : i < ds.length := by simpa using (List.getElem?_eq_some_iff.mp h1).1
  rw [List.getElem?_reverse hi] at h1
  rw [List.getElem?_reverse (l ▸ hi)] at h2
  rw [← l] at h2
  exact g _ d v h1 h2
theorem Reps.eraseIdx : ∀ (i : Nat) {ds : List D} {vs : List V}, Reps K m H ds vs → Reps K m H (ds.eraseIdx i) (vs.eraseIdx i)
  | _, [], _, r => by
    have e : _ = [] := r
    subst e
    exact rfl
  | 0, d :: ds, _, ⟨v, vr, e, r, t⟩ => by
    subst e
    exact t
  | i + 1, d :: ds, _, ⟨v, vr, e, r, t⟩ => by
    subst e
    exact ⟨v, _, rfl, r, Reps.eraseIdx i t⟩
theorem Reps.dropLast (r : Reps K m H ds vs) : Reps K m H ds.dropLast vs.dropLast := by
  rw [List.dropLast_eq_take, List.dropLast_eq_take, r.length]
  exact r.take _
theorem Reps.ints : ∀ {ns : List Int}, Reps K m H (ns.map D.int) (ns.map V.int)
  | [] => rfl
  | n :: ns => ⟨.int n, _, rfl, rfl, Reps.ints⟩
theorem Reps.isEmpty (r : Reps K m H ds vs) : ds.isEmpty = vs.isEmpty := by
  have l := r.length
  cases ds <;> cases vs <;> first | rfl | (simp at l)
end

/-! ### the relation of a data state to an abstract heap -/
def CellOk (K : PySem.W.Frag) (m : List Addr) (H0 H : Hp) (a : Addr) : Cl → Prop
  | .lst ds => ∃ vs, H a = some (.lst vs) ∧ Reps K m H0 ds vs
abbrev hz (h m : List Addr) (H : Hp) : Hp := off (h ++ m) H
structure Rl (K : PySem.W.Frag) (h m : List Addr) (C : Cs) (H : Hp) : Prop where
  nd : (h ++ m).Nodup
  len : m.length = C.length
  cell : ∀ (n : Nat) c, C[n]? = some c → ∃ a, m[n]? = some a ∧ CellOk K m (hz h m H) H a c
  hid : ∀ a ∈ h, ∃ o, H a = some o
structure Ext (h m : List Addr) (H : Hp) (h' m' : List Addr) (H' : Hp) : Prop where
  suf : h <:+ h'
  pre : m <+: m'
  frz : ∀ a o, hz h m H a = some o → hz h' m' H' a = some o
  hid : ∀ a ∈ h, H' a = H a
theorem Ext.refl {h m : List Addr} {H : Hp} : Ext h m H h m H := ⟨List.suffix_refl _, List.prefix_refl _, fun _ _ e => e, fun _ _ => rfl⟩
theorem Ext.trans {h h1 h2 m m1 m2 : List Addr} {H H1 H2 : Hp} (a : Ext h m H h1 m1 H1) (b : Ext h1 m1 H1 h2 m2 H2) : Ext h m H h2 m2 H2 :=
  ⟨a.suf.trans b.suf, a.pre.trans b.pre, fun x o e => b.frz x o (a.frz x o e), fun x hx => (b.hid x (a.suf.subset hx)).trans (a.hid x hx)⟩
section
variable {K : PySem.W.Frag} {h m m' : List Addr} {C C' : Cs} {H H' : Hp} {d : D} {v : V} {ds : List D} {vs : List V}
theorem Ext.rep {h' : List Addr} (x : Ext h m H h' m' H') (r : Rep K m (hz h m H) d v) : Rep K m' (hz h' m' H') d v := Rep.mono x.pre x.frz d r
theorem Ext.reps {h' : List Addr} (x : Ext h m H h' m' H') (r : Reps K m (hz h m H) ds vs) : Reps K m' (hz h' m' H') ds vs := Reps.mono x.pre x.frz ds r
theorem hz_sub {a : Addr} {o : HO} (e : hz h m H a = some o) : H a = some o := (off_some.mp e).2
theorem Rep.real (r : Rep K m (hz h m H) d v) : Rep K m H d v := Rep.mono (List.prefix_refl _) (fun _ _ e => hz_sub e) d r
theorem Reps.real (r : Reps K m (hz h m H) ds vs) : Reps K m H ds vs := Reps.mono (List.prefix_refl _) (fun _ _ e => hz_sub e) ds r
theorem Rl.mem_there (R : Rl K h m C H) {a : Addr} (ha : a ∈ h ++ m) : ∃ o, H a = some o := by
  rcases List.mem_append.mp ha with z | z
  · exact R.hid a z
  · obtain ⟨n, hn, e⟩ := List.mem_iff_getElem.mp z
    have hc : n < C.length := R.len ▸ hn
    obtain ⟨b, hb, k⟩ := R.cell n C[n] (List.getElem?_eq_getElem hc)
    rw [List.getElem?_eq_getElem hn, e] at hb
    cases hb
    cases hcc : C[n] with
    | lst ds =>
      rw [hcc] at k
      obtain ⟨vs, q, _⟩ := k
      exact ⟨_, q⟩
theorem Rl.fresh (R : Rl K h m C H) {p : Addr} (np : H p = none) : p ∉ h ++ m := fun z => by
  obtain ⟨o, e⟩ := R.mem_there z
  rw [np] at e
  cases e
/-- a new object that is not written any more -/
theorem Rl.newF (R : Rl K h m C H) {p : Addr} {o : HO} (np : H p = none) : Ext h m H h m (upd H p o) ∧ Rl K h m C (upd H p o) ∧ hz h m (upd H p o) p = some o := by
  have nm := R.fresh np
  have hne : ∀ b, b ∈ h ++ m → b ≠ p := fun b hb e => nm (e ▸ hb)
  have hfz : ∀ a x, hz h m H a = some x → hz h m (upd H p o) a = some x := fun a x e => by
    obtain ⟨z1, z2⟩ := off_some.mp e
    exact off_some.mpr ⟨z1, by rw [upd_ne (ne_of_none z2 np)]; exact z2⟩
  refine ⟨⟨List.suffix_refl _, List.prefix_refl _, hfz, fun a ha => upd_ne (hne a (List.mem_append_left _ ha))⟩, ⟨R.nd, R.len, fun n c e => ?_, fun a ha => ?_⟩, off_some.mpr ⟨nm, upd_same⟩⟩
  · obtain ⟨a, ha, k⟩ := R.cell n c e
    refine ⟨a, ha, ?_⟩
    cases c with
    | lst ds =>
      obtain ⟨vs, q, r⟩ := k
      exact ⟨vs, by rw [upd_ne (ne_of_none q np)]; exact q, Reps.mono (List.prefix_refl _) hfz ds r⟩
  · obtain ⟨o', e⟩ := R.hid a ha
    exact ⟨o', by rw [upd_ne (ne_of_none e np)]; exact e⟩
/-- a new cell -/
theorem Rl.newC (R : Rl K h m C H) {p : Addr} (np : H p = none) (r : Reps K m (hz h m H) ds vs) :
    Ext h m H h (m ++ [p]) (upd H p (.lst vs)) ∧ Rl K h (m ++ [p]) (C ++ [.lst ds]) (upd H p (.lst vs)) ∧ Rep K (m ++ [p]) (hz h (m ++ [p]) (upd H p (.lst vs))) (.cel C.length) (.ref p) := by
  have nm := R.fresh np
  have hne : ∀ b, b ∈ h ++ m → b ≠ p := fun b hb e => nm (e ▸ hb)
  have ea : h ++ (m ++ [p]) = (h ++ m) ++ [p] := (List.append_assoc _ _ _).symm
  have hfz : ∀ a x, hz h m H a = some x → hz h (m ++ [p]) (upd H p (.lst vs)) a = some x := fun a x e => by
    obtain ⟨z1, z2⟩ := off_some.mp e
    have hap : a ≠ p := ne_of_none z2 np
    refine off_some.mpr ⟨?_, by rw [upd_ne hap]; exact z2⟩
    rw [ea]
    intro hm
    rcases List.mem_append.mp hm with z | z
    · exact z1 z
    · exact hap (by simpa using z)
  have pre : m <+: m ++ [p] := List.prefix_append _ _
  refine ⟨⟨List.suffix_refl _, pre, hfz, fun a ha => upd_ne (hne a (List.mem_append_left _ ha))⟩, ⟨?_, by simp [R.len], fun n c e => ?_, fun a ha => ?_⟩, ⟨p, rfl, ?_⟩⟩
  · rw [ea]
    refine List.nodup_append.mpr ⟨R.nd, by simp, fun a ha b hb => ?_⟩
    have : b = p := by simpa using hb
    subst this
    exact hne a ha
  · by_cases hn : n < C.length
    · rw [List.getElem?_append_left hn] at e
      obtain ⟨a, ha, k⟩ := R.cell n c e
      refine ⟨a, pre_get pre ha, ?_⟩
      cases c with
      | lst es =>
        obtain ⟨us, q, rr⟩ := k
        exact ⟨us, by rw [upd_ne (ne_of_none q np)]; exact q, Reps.mono pre hfz es rr⟩
    · have hn' : n = C.length := by
        have := (List.getElem?_eq_some_iff.mp e).1
        simp at this
        omega
      subst hn'
      simp at e
      subst e
      refine ⟨p, by rw [← R.len]; simp, vs, upd_same, Reps.mono pre hfz ds r⟩
  · obtain ⟨o', e⟩ := R.hid a ha
    exact ⟨o', by rw [upd_ne (ne_of_none e np)]; exact e⟩
  · rw [← R.len]
    simp
/-- a cell written -/
theorem Rl.write {n : Nat} {c : Cl} {a : Addr} (R : Rl K h m C H) (hc : C[n]? = some c) (ha : m[n]? = some a) (r : Reps K m (hz h m H) ds vs) :
    Ext h m H h m (upd H a (.lst vs)) ∧ Rl K h m (C.set n (.lst ds)) (upd H a (.lst vs)) := by
  have am : a ∈ m := List.mem_of_getElem? ha
  have nh : ∀ b ∈ h, b ≠ a := fun b hb e => (List.nodup_append.mp R.nd).2.2 b hb a am e
  have hfz : ∀ b x, hz h m H b = some x → hz h m (upd H a (.lst vs)) b = some x := fun b x e => by
    obtain ⟨z1, z2⟩ := off_some.mp e
    have hba : b ≠ a := fun z => z1 (z ▸ List.mem_append_right _ am)
    exact off_some.mpr ⟨z1, by rw [upd_ne hba]; exact z2⟩
  refine ⟨⟨List.suffix_refl _, List.prefix_refl _, hfz, fun b hb => upd_ne (nh b hb)⟩, ⟨R.nd, by simp [R.len], fun k c' e => ?_, fun b hb => ?_⟩⟩
  · rw [List.getElem?_set] at e
    by_cases hk : n = k
    · subst hk
      rw [if_pos rfl] at e
      split at e
      · cases e
        exact ⟨a, ha, vs, upd_same, Reps.mono (List.prefix_refl _) hfz ds r⟩
      · cases e
    · rw [if_neg hk] at e
      obtain ⟨b, hb, q⟩ := R.cell k c' e
      have hba : b ≠ a := fun z => by
        subst z
        have nd := (List.nodup_append.mp R.nd).2.1
        exact hk (nd_ix nd ha hb)
      refine ⟨b, hb, ?_⟩
      cases c' with
      | lst es =>
        obtain ⟨us, q1, q2⟩ := q
        exact ⟨us, by rw [upd_ne hba]; exact q1, Reps.mono (List.prefix_refl _) hfz es q2⟩
  · obtain ⟨o', e⟩ := R.hid b hb
    exact ⟨o', by rw [upd_ne (nh b hb)]; exact e⟩
end

/-! ### the frame -/
structure En (K : PySem.W.Frag) (m : List Addr) (H0 : Hp) (r : Ev) (σ : L2.St) : Prop where
  len : r.length = σ.length
  get : ∀ (i : Nat) d, r[i]? = some (some d) → ∃ v, σ[i]? = some (some v) ∧ Rep K m H0 d v
abbrev BS := List Addr → List Addr → Hp → Prop
def Stable (B : BS) : Prop := ∀ h m H m' H', B h m H → Ext h m H h m' H' → B h m' H'
structure Sta (K : PySem.W.Frag) (B : BS) (h m : List Addr) (C : Cs) (r : Ev) (σ : L2.St) (H : Hp) : Prop where
  rl : Rl K h m C H
  en : En K m (hz h m H) r σ
  base : B h m H
  st : Stable B
section
variable {K : PySem.W.Frag} {B : BS} {h m m' : List Addr} {C C' : Cs} {r : Ev} {σ : L2.St} {H H' : Hp}
theorem En.ext (e : En K m (hz h m H) r σ) (x : Ext h m H h m' H') : En K m' (hz h m' H') r σ :=
  ⟨e.len, fun i d q => let ⟨v, a, b⟩ := e.get i d q; ⟨v, a, x.rep b⟩⟩
theorem Sta.ext (S : Sta K B h m C r σ H) (x : Ext h m H h m' H') (R : Rl K h m' C' H') : Sta K B h m' C' r σ H' :=
  ⟨R, S.en.ext x, S.st _ _ _ _ _ S.base x, S.st⟩
theorem En.set {d : D} {v : V} {H0 : Hp} (e : En K m H0 r σ) (i : Nat) (q : Rep K m H0 d v) : En K m H0 (r.set i (some d)) (σ.set i (some v)) := by
  refine ⟨by simp [e.len], fun j d' h1 => ?_⟩
  rw [List.getElem?_set] at h1
  by_cases hj : i = j
  · subst hj
    rw [if_pos rfl] at h1
    split at h1
    · rename_i hl
      cases h1
      exact ⟨v, by rw [List.getElem?_set, if_pos rfl, if_pos (e.len ▸ hl)], q⟩
    · cases h1
  · rw [if_neg hj] at h1
    obtain ⟨v', a, b⟩ := e.get j d' h1
    exact ⟨v', by rw [List.getElem?_set, if_neg hj]; exact a, b⟩
theorem En.setN {H0 : Hp} (e : En K m H0 r σ) (i : Nat) (o : Option V) : En K m H0 (r.set i none) (σ.set i o) := by
  refine ⟨by simp [e.len], fun j d' h1 => ?_⟩
  rw [List.getElem?_set] at h1
  by_cases hj : i = j
  · subst hj
    rw [if_pos rfl] at h1
    split at h1 <;> cases h1
  · rw [if_neg hj] at h1
    obtain ⟨v', a, b⟩ := e.get j d' h1
    exact ⟨v', by rw [List.getElem?_set, if_neg hj]; exact a, b⟩
end

/-! ### the judgements -/
abbrev QD := D → Cs → Prop
abbrev RE := Ev → Cs → QD → Prop
abbrev RT := Ev → Cs → (Bool → Cs → Prop) → Prop
abbrev RA := Ev → Cs → (List D → Cs → Prop) → Prop
structure EndsD where
  nx : Ev → Cs → Prop
  rt : QD
  bk : Ev → Cs → Prop := fun _ _ => False
  ct : Ev → Cs → Prop := fun _ _ => False
abbrev RS := EndsD → Ev → Cs → Prop
/-- an exception: its class, what its at is -/
abbrev XQ := Value → Option D → Cs → Prop
abbrev XW := Value → Option D → Ev → Cs → Prop
def opt {α : Type} (o : Option α) (Q : α → Prop) : Prop := match o with
  | some a => Q a
  | none => False
theorem opt_some {α : Type} {a : α} {Q : α → Prop} : opt (some a) Q = Q a := rfl
theorem opt_none {α : Type} {Q : α → Prop} : opt none Q = False := rfl
theorem opt_iff {α : Type} {o : Option α} {Q : α → Prop} : opt o Q ↔ ∃ a, o = some a ∧ Q a := by
  cases o with
  | none => exact ⟨fun z => (nomatch z), fun ⟨_, z, _⟩ => (nomatch z)⟩
  | some a => exact ⟨fun z => ⟨a, rfl, z⟩, fun ⟨_, z, q⟩ => by cases z; exact q⟩

def upE (K : PySem.W.Frag) (B : BS) (t : RE) : TE := fun σ H Q => ∃ h m C r Q0, Sta K B h m C r σ H ∧ t r C Q0 ∧
  ∀ d C' m' H' v, Q0 d C' → Ext h m H h m' H' → Rl K h m' C' H' → Rep K m' (hz h m' H') d v → Q v H'
def upT (K : PySem.W.Frag) (B : BS) (t : RT) : TT := fun σ H Q => ∃ h m C r Q0, Sta K B h m C r σ H ∧ t r C Q0 ∧
  ∀ b C' m' H', Q0 b C' → Ext h m H h m' H' → Rl K h m' C' H' → Q b H'
def upA (K : PySem.W.Frag) (B : BS) (n : Nat) (t : RA) : TA := fun σ H Q => ∃ h m C r Q0, Sta K B h m C r σ H ∧ t r C Q0 ∧
  ∀ ds C' m' H' vs, Q0 ds C' → ds.length = n → Ext h m H h m' H' → Rl K h m' C' H' → Reps K m' (hz h m' H') ds vs → Q vs H'
def upS (K : PySem.W.Frag) (B : BS) (t : RS) : TS := fun D σ H => ∃ h m C r D0, Sta K B h m C r σ H ∧ t D0 r C ∧
  ∀ m' H' C', Ext h m H h m' H' → Rl K h m' C' H' →
    (∀ r' σ', D0.nx r' C' → Sta K B h m' C' r' σ' H' → D.nx σ' H') ∧
    (∀ r' σ', D0.bk r' C' → Sta K B h m' C' r' σ' H' → D.bk σ' H') ∧
    (∀ r' σ', D0.ct r' C' → Sta K B h m' C' r' σ' H' → D.ct σ' H') ∧
    (∀ d v, D0.rt d C' → Rep K m' (hz h m' H') d v → D.rt v H')
def XRep (K : PySem.W.Frag) (m : List Addr) (H0 : Hp) (dx : Option Addr) : Option D → Prop
  | none => dx = none
  | some d => ∃ a v, dx = some a ∧ H0 a = some (.xd [(("at" : Str), v)]) ∧ Rep K m H0 d v
def upW (K : PySem.W.Frag) (B : BS) (W : XW) : WX := fun cls dx σ H => ∃ h m C r od, Sta K B h m C r σ H ∧ XRep K m (hz h m H) dx od ∧ W cls od r C
structure DE (X : Cx) (B : BS) (e : Expr) (t : RE) : Prop where
  run : PE X e (upE X.K B t)
structure DT (X : Cx) (B : BS) (e : Expr) (t : RT) : Prop where
  run : PT X e (upT X.K B t)
structure DW (X : Cx) (B : BS) (e : Expr) (t : RT) : Prop where
  run : PW X e (upT X.K B t)
structure DA (X : Cx) (B : BS) (es : List Expr) (t : RA) : Prop where
  run : PA X es (upA X.K B es.length t)
structure DS (X : Cx) (B : BS) (st : Stmt) (t : RS) : Prop where
  run : PS X st (upS X.K B t)
structure DSs (X : Cx) (B : BS) (st : List Stmt) (t : RS) : Prop where
  run : PSs X st (upS X.K B t)

theorem pe_imp {X : Cx} {e : Expr} {t t' : TE} (p : PE X e t) (i : ∀ σ H Q, t' σ H Q → t σ H Q) : PE X e t' := ⟨fun pins s σ H Q I h => p.run pins s σ H Q I (i σ H Q h)⟩
theorem pt_imp {X : Cx} {e : Expr} {t t' : TT} (p : PT X e t) (i : ∀ σ H Q, t' σ H Q → t σ H Q) : PT X e t' := ⟨fun pins s σ H Q I h => p.run pins s σ H Q I (i σ H Q h)⟩
theorem pw_imp {X : Cx} {e : Expr} {t t' : TT} (p : PW X e t) (i : ∀ σ H Q, t' σ H Q → t σ H Q) : PW X e t' := ⟨fun wh pins s σ H Q I h => p.run wh pins s σ H Q I (i σ H Q h)⟩
theorem pa_imp {X : Cx} {e : List Expr} {t t' : TA} (p : PA X e t) (i : ∀ σ H Q, t' σ H Q → t σ H Q) : PA X e t' := ⟨fun pos pins s σ H Q I h => p.run pos pins s σ H Q I (i σ H Q h)⟩
theorem ps_imp {X : Cx} {e : Stmt} {t t' : TS} (p : PS X e t) (i : ∀ D σ H, t' D σ H → t D σ H) : PS X e t' := ⟨fun pins s σ H D I h => p.run pins s σ H D I (i D σ H h)⟩
theorem pss_imp {X : Cx} {e : List Stmt} {t t' : TS} (p : PSs X e t) (i : ∀ D σ H, t' D σ H → t D σ H) : PSs X e t' := ⟨fun pins s σ H D I h => p.run pins s σ H D I (i D σ H h)⟩

/-! ### names, constants -/
def dVar (i : Nat) : RE := fun r C Q => opt (r.getD i none) fun d => Q d C
def dC (d : D) : RE := fun _ C Q => Q d C
section
variable {X : Cx} {B : BS}
theorem getD_some {r : Ev} {i : Nat} {d : D} (h : r.getD i none = some d) : r[i]? = some (some d) := by
  rw [List.getD_eq_getElem?_getD] at h
  cases e : r[i]? with
  | none => rw [e] at h; cases h
  | some o => rw [e] at h; simp at h; rw [h]
theorem d_v (i : Nat) {x : Str} {pos : Pos} (hN : X.N[i]? = some x := by rfl) (hv : Vis X.env.scope x := by first | exact Or.inl rfl | exact Or.inr (Or.inl rfl) | exact Or.inr (Or.inr rfl))
    (hd : (x == ("__debug__" : Str)) = false := by decide) (hcd : (x == ("__classdict__" : Str)) = false := by decide) : DE X B (.Name x pos) (dVar i) := by
  refine ⟨pe_imp (pe_var hN hv hd hcd) fun σ H Q ⟨h, m, C, r, Q0, S, t, k⟩ => ?_⟩
  obtain ⟨d, e, q⟩ := opt_iff.mp t
  obtain ⟨v, hv, rp⟩ := S.en.get i d (getD_some e)
  exact ⟨v, hv, k d C m H v q Ext.refl S.rl rp⟩
theorem d_const {e : Expr} {v : V} {d : D} (p : PE X e (L2.tC v)) (rp : ∀ m H, Rep X.K m H d v) : DE X B e (dC d) :=
  ⟨pe_imp p fun σ H Q ⟨h, m, C, r, Q0, S, t, k⟩ => k d C m H v t Ext.refl S.rl (rp _ _)⟩
theorem d_int {i j pos} : DE X B (.Constant (.int i) j pos) (dC (.int i)) := d_const pe_int fun _ _ => rfl
theorem d_bl {b j pos} : DE X B (.Constant (.bool b) j pos) (dC (.bl b)) := d_const pe_bl fun _ _ => rfl
theorem d_non {j pos} : DE X B (.Constant .none j pos) (dC .non) := d_const pe_non fun _ _ => rfl
theorem d_str {x j pos} : DE X B (.Constant (.str x) j pos) (dC (.str x)) := d_const pe_str fun _ _ => rfl
theorem d_globI {x : Str} {i : Int} {t : Tok} {pos : Pos} (hg : Gl X x) (hm : X.mg x = some (.int i t)) (hd : (x == ("__debug__" : Str)) = false := by decide) : DE X B (.Name x pos) (dC (.int i)) :=
  d_const (pe_glob hg hm (show RelV (.int i) (.int i t) from ⟨t, rfl⟩) hd) fun _ _ => rfl
theorem d_globO {x : Str} {a : Addr} {pos : Pos} (hg : Gl X x) (hm : X.mg x = some (.ref a)) (hd : (x == ("__debug__" : Str)) = false := by decide) : DE X B (.Name x pos) (dC (.obj a)) :=
  d_const (pe_glob hg hm (show RelV (.ref a) (.ref a) from rfl) hd) fun _ _ => rfl
end
end DL
/-! DLT: tuples whose object is known to have no dict: made by displays, tuple(..), slices, sums; their methods. -/
namespace DL
open PySem PySem.Spec PyProof.Rows L2
section
variable {X : Cx} {pins : List (Addr × Obj)} {σ : L2.St} {H : Hp} {s : Shared}
/-- a tuple just laid -/
theorem Inv.tupF {h' : Heap} {vs : List Value} {xs : List V} {t' : Nat} (I : Inv X pins σ H { s with heap := h' }) (hz : xs.length ≤ sizeLine) (r : Vals xs vs) :
    Inv X pins σ (upd H h'.objs.size (.frz { cls := .type "tuple", data := .seq vs.toArray } (.tup xs))) { s with heap := h'.push { cls := .type "tuple", data := .seq vs.toArray }, toks := t' } :=
  Inv.laid (s := { s with heap := h' }) (t' := t') I (fun b o e => Heap.get?_push_of_some _ e) (Nat.le_refl _) ⟨Heap.get?_push_size _ rfl, hz, vs, r, IsTup.new _ _⟩
def tTupF (t : TA) : TE := fun σ H Q => t σ H fun xs H1 => xs.length ≤ sizeLine ∧ ∀ p o, H1 p = none → o.dict = none → Q (.ref p) (upd H1 p (.frz o (.tup xs)))
theorem pe_tupF {es : List Expr} {pos : Pos} {t : TA} {x1} (h : PA X es t) : PE X (.Tuple es x1 pos) (tTupF t) := by
  refine ⟨fun pins s σ H Q I hq => ?_⟩
  refine wpAny_Tuple_spliced (thn (h.run pos pins s σ H _ I hq) fun us s1 ⟨xs, H1, I1, r, z, q⟩ => ⟨by rw [← r.length]; exact z, ?_⟩)
  have hf : H1 s1.heap.objs.size = none := I1.hok.fresh (Nat.le_refl _)
  exact ⟨.ref s1.heap.objs.size, _, Inv.tupF (s := s1) (t' := s1.toks) I1 z r, rfl, q _ _ hf rfl⟩
def kTupF (K : PySem.W.Frag) (xs : List V) (H : Hp) (Q : VK) : Prop := ∃ p ys, xs = [.ref p] ∧
  ((SqL K H p ys ∧ ∀ l o, H l = none → o.dict = none → Q (.ref l) (upd H l (.frz o (.tup ys)))) ∨ (SqT K H p ys ∧ Q (.ref p) H))
theorem call_tupleF : CallR X (.type "tuple") (kTupF X.K) := by
  intro pins s σ H xs us Q I r h
  obtain ⟨p, ys, rfl, h⟩ := h
  obtain ⟨u, rfl, rx⟩ := vals1 r
  cases rx
  rcases h with ⟨hq, q⟩ | ⟨hq, q⟩
  · obtain ⟨its, r', pl, hz⟩ := I.list hq
    have hlen := r'.length
    refine call_tuple_list pl.isList (fun h' kp => ?_) (by simp only [List.size_toArray] <;> omega)
    have I1 : Inv X pins σ H { s with heap := h' } := I.kept (t' := s.toks) kp
    exact ⟨.ref h'.objs.size, _, Inv.tupF (s := s) (t' := s.toks) I1 hz r', rfl, q _ _ (I1.hok.fresh (Nat.le_refl _)) rfl⟩
  · obtain ⟨its, r', pl, hz⟩ := I.tuple hq
    exact call_tuple_same pl ⟨.ref p, H, I, rfl, q⟩
/-- t + u -/
def rCatF (K : PySem.W.Frag) : R2 := fun x y H Q => ∃ a b xs ys, x = .ref a ∧ y = .ref b ∧ SqT K H a xs ∧ SqT K H b ys ∧ xs.length + ys.length ≤ sizeLine ∧
  (xs = [] → Q (.ref b) H) ∧ (xs ≠ [] → ys = [] → Q (.ref a) H) ∧ (xs ≠ [] → ys ≠ [] → ∀ p o, H p = none → o.dict = none → Q (.ref p) (upd H p (.frz o (.tup (xs ++ ys)))))
theorem op_catF : OpR X (binaryOp .Add) (rCatF X.K) := by
  intro pins s σ H x y v u Q I rx ry h
  obtain ⟨a, b, xs, ys, rfl, rfl, ha, hb, hz, q0, q1, q2⟩ := h
  by_cases hx : xs = []
  · subst hx
    cases rx
    cases ry
    obtain ⟨its, r1, p1, _⟩ := I.tuple ha
    obtain ⟨its2, r2, p2, _⟩ := I.tuple hb
    cases r1
    exact cat_tup0 p1 p2 ⟨.ref b, H, I, rfl, q0 rfl⟩
  · cases rx
    cases ry
    obtain ⟨its, r1, p1, _⟩ := I.tuple ha
    obtain ⟨its2, r2, p2, _⟩ := I.tuple hb
    refine HT.cat_tup p1 p2 (fun z => hx (r1.nil_iff.mp z)) (fun z => ⟨.ref a, H, I, rfl, q1 hx (r2.nil_iff.mp z)⟩) (fun z => ?_) (by rw [← r1.length, ← r2.length]; exact hz)
    exact ⟨.ref s.heap.objs.size, _, Inv.tupF (s := s) (t' := s.toks) I (by rw [List.length_append]; exact hz) (r1.append r2), rfl, q2 hx (fun w => z (r2.nil_iff.mpr w)) _ _ (I.hok.fresh (Nat.le_refl _)) rfl⟩
/-- t[lo:hi] -/
def rSlF (K : PySem.W.Frag) : V → Option Int → Option Int → Hp → VK → Prop := fun x lo hi H Q => ∃ a xs, x = .ref a ∧ SqT K H a xs ∧
  (HT.sIx xs.length 0 lo = 0 ∧ HT.sIx xs.length xs.length hi = xs.length → Q (.ref a) H) ∧ (¬ (HT.sIx xs.length 0 lo = 0 ∧ HT.sIx xs.length xs.length hi = xs.length) → ∀ p o, H p = none → o.dict = none → Q (.ref p) (upd H p (.frz o (.tup (cutV xs lo hi)))))
theorem sl_tupF : SlR X (rSlF X.K) := by
  intro pins s σ H x v vl vu lo hi sl Q I rx hs pl pu h
  obtain ⟨a, xs, rfl, hx, q1, q2⟩ := h
  cases rx
  obtain ⟨its, r, ht, hz⟩ := I.tuple hx
  have hlen : its.toArray.size = xs.length := by rw [List.size_toArray]; exact r.length.symm
  refine ⟨"tuple", _, PyProof.Rows.slot_tuple_getitem.lookup, ht.typeIs, ?_⟩
  by_cases hw : HT.sIx xs.length 0 lo = 0 ∧ HT.sIx xs.length xs.length hi = xs.length
  · exact getItem_tuple_whole ht hs pl pu (by rw [hlen]; exact hw) ⟨.ref a, H, I, rfl, q1 hw⟩
  · refine HT.getItem_tuple_cut ht hs pl pu (by rw [hlen]; exact hw) ?_ (by rw [hlen]; exact hz)
    rw [hlen]
    exact ⟨.ref s.heap.objs.size, _, Inv.tupF (s := s) (t' := s.toks) I (Nat.le_trans (cutV_length xs lo hi) hz) ((r.drop (HT.sIx xs.length 0 lo)).take (HT.sIx xs.length xs.length hi - HT.sIx xs.length 0 lo)), rfl, q2 hw _ _ (I.hok.fresh (Nat.le_refl _)) rfl⟩
/-- a method of a known tuple -/
theorem tupF_is {a : Addr} {o : Obj} {xs : List V} (I : Inv X pins σ H s) (h : H a = some (.frz o (.tup xs))) (hd : o.dict = none) : s.TypeIs (.ref a) "tuple" ∧ ∀ b, Value.ref a = .ref b → ∃ ob, s.heap.get? b = some ob ∧ ob.dict = none := by
  obtain ⟨e, z, its, r, o', e', hc, n, hdt⟩ := I.hok a _ h
  rw [e] at e'
  cases e'
  exact ⟨⟨o, e, hc⟩, fun b q => by cases q; exact ⟨o, e, hd⟩⟩
def tBMT (r : V → List V → Hp → VK → Prop) (to : TE) (t : TA) : TE := fun σ H Q => to σ H fun x H1 => (∃ a o xs, x = .ref a ∧ H1 a = some (.frz o (.tup xs)) ∧ o.dict = none) ∧ t σ H1 fun xs H2 => r x xs H2 Q
theorem pe_bmT {o e : Expr} {es : List Expr} {to : TE} {t : TA} {name : Str} {apos cpos : Pos} {id : String} {r : V → List V → Hp → VK → Prop} (slot : Slot "tuple" name id) (hty : typeOf (.builtin id) = pure (.type "method_descriptor")) (hm : MtR X id r) (ho : PE X o to) (ha : PA X (e :: es) t)
    (hbase : attributeBase o name X.env (eval o X.env) = eval o X.env := by rfl)
    (hfew : ((backTo cpos (starEach (e :: es) X.env)).all (fun x => !x.1) && (backToKw cpos (keywordEach [] X.env)).all (fun x => x.1.isSome)
      && decide ((e :: es).length + ([] : List Keyword).length + (if ([] : List Keyword).isEmpty then 0 else 1) < 30)) = true := by rfl)
    (hline : (apos.endLine == cpos.line) = true := by rfl) (hs : starEach (e :: es) X.env = (false, eval e X.env) :: starEach es X.env := by rfl) (hplain : (backTo cpos (starEach es X.env)).any (·.1) = false := by rfl) :
    PE X (.Call (.Attribute o name apos) (e :: es) [] cpos) (tBMT r to t) := by
  refine ⟨fun pins s σ H Q I h => ?_⟩
  refine wpAny_Call_method_late hbase hfew hline rfl (thn (ho.run pins s σ H _ I h) fun v s1 ⟨x, H1, I1, r1, ty, q1⟩ => ?_)
  obtain ⟨a, ob, xs, rfl, h1, hd⟩ := ty
  cases r1
  obtain ⟨k1, k2⟩ := tupF_is I1 h1 hd
  refine ⟨"tuple", id, PySem.F.plainAttrs_tuple, slot, hty, k1, k2, ?_⟩
  have hA := ha.run cpos pins s1 σ H1 _ I1 q1
  rw [hs] at hA ⊢
  refine Calls.callWith_builtin (by show (false || (backTo cpos (starEach es X.env)).any (·.1)) = false; rw [hplain] <;> rfl) (Calls.evalArgs_plain ?_)
  exact thn hA fun us s2 ⟨vs, H2, I2, r2, q2⟩ => hm pins s2 σ H2 (.ref a) vs (.ref a) us Q I2 rfl r2 q2
def rTIndex (K : PySem.W.Frag) : V → List V → Hp → VK → Prop := fun x xs H Q => ∃ (a : Addr) (ys : List V) (y : V) (j : Nat) (z : V), x = V.ref a ∧ xs = [y] ∧ SqT K H a ys ∧ flatV y = true ∧ ys.all flatV = true ∧ ys[j]? = some z ∧ eqV z y = true ∧
  (∀ (m : Nat) (z' : V), m < j → ys[m]? = some z' → eqV z' y = false) ∧ Q (.int (j : Nat)) H
theorem mt_tindex : MtR X "tuple.index" (rTIndex X.K) := by
  intro pins s σ H x xs v us Q I rx rxs h
  obtain ⟨a, ys, y, j, z, rfl, rfl, hs, fy, fys, hz, hzj, hno, q⟩ := h
  cases rx
  obtain ⟨uy, rfl, ry⟩ := vals1 rxs
  obtain ⟨its, rv, pl, hlen⟩ := I.tuple hs
  obtain ⟨⟨cls, dd, data, sl⟩, ho, hc, n, hd⟩ := pl
  simp only at hc hd
  subst hc hd
  obtain ⟨u, hu, ru⟩ := rv.get hz
  obtain ⟨hjl, hje⟩ := List.getElem?_eq_some_iff.mp hu
  have hj : j < its.toArray.size := by simpa using hjl
  refine call_meets PySem.F.slot_tuple_index ⟨_, ho, rfl⟩ PySem.F.entry_tuple_index (PySem.F.args_tuple_index_2 _ _) (TI.tuple_indexAt a its.toArray n dd sl uy (eqU y) j hj ?_ ?_)
    ⟨ho, fun w hw => mem_eqAt ry fy rv fys w (by simpa using hw), ⟨.int (j : Nat), H, I.tok _, ⟨_, rfl⟩, q⟩⟩
  · have e1 : its.toArray[j] = u := by simpa using hje
    rw [e1, eqU_of ru (flat_at fys hz)]
    exact hzj
  · intro m hm hmj
    have hml : m < its.length := by simpa using hm
    have hmy : m < ys.length := by rw [rv.length]; exact hml
    obtain ⟨u2, hu2, ru2⟩ := rv.get (List.getElem?_eq_getElem hmy)
    have e2 : its.toArray[m] = u2 := by
      have := (List.getElem?_eq_some_iff.mp hu2).2
      simpa using this
    rw [e2, eqU_of ru2 (flat_at fys (List.getElem?_eq_getElem hmy))]
    exact hno m _ hmj (List.getElem?_eq_getElem hmy)
end
end DL
/-! DL2: expressions. -/
namespace DL
open PySem PySem.Spec PyProof.Rows L2

/-! ### sequences -/
def lsD (C : Cs) : D → Option (List D)
  | .lst xs => some xs
  | .cel n => match C[n]? with
    | some (.lst xs) => some xs
    | none => none
  | _ => none
/-- lists of any kind -/
def llD (C : Cs) : D → Option (List D)
  | .scr xs => some xs
  | d => lsD C d
def tpD : D → Option (List D)
  | .tup xs => some xs
  | _ => none
/-- lists and tuples -/
def sqD (C : Cs) : D → Option (List D)
  | .tup xs => some xs
  | d => llD C d
section
variable {K : PySem.W.Frag} {h m : List Addr} {C : Cs} {H : Hp} {d : D} {v : V} {ds : List D}
theorem ls_ok (R : Rl K h m C H) (r : Rep K m (hz h m H) d v) (e : lsD C d = some ds) : ∃ a vs, v = .ref a ∧ H a = some (.lst vs) ∧ Reps K m (hz h m H) ds vs := by
  cases d with
  | lst xs =>
    cases e
    obtain ⟨a, vs, e1, e2, e3⟩ := r
    exact ⟨a, vs, e1, hz_sub e2, e3⟩
  | cel n =>
    obtain ⟨a, e1, e2⟩ := r
    have e' : (match C[n]? with | some (.lst xs) => some xs | none => none) = some ds := e
    cases hc : C[n]? with
    | none => rw [hc] at e'; cases e'
    | some c =>
      cases c with
      | lst xs =>
        rw [hc] at e'
        cases e'
        obtain ⟨b, hb, vs, k1, k2⟩ := R.cell n _ hc
        rw [e2] at hb
        cases hb
        exact ⟨a, vs, e1, k1, k2⟩
  | _ => cases e
theorem ll_ok (R : Rl K h m C H) (r : Rep K m (hz h m H) d v) (e : llD C d = some ds) : ∃ a vs, v = .ref a ∧ SqL K H a vs ∧ Reps K m (hz h m H) ds vs := by
  cases d with
  | scr xs =>
    cases e
    obtain ⟨a, vs, e1, e2, e3⟩ := r
    exact ⟨a, vs, e1, SqL.mono (fun _ _ z => hz_sub z) e2, e3⟩
  | lst xs =>
    obtain ⟨a, vs, e1, e2, e3⟩ := ls_ok R r e
    exact ⟨a, vs, e1, .of e2, e3⟩
  | cel n =>
    obtain ⟨a, vs, e1, e2, e3⟩ := ls_ok R r e
    exact ⟨a, vs, e1, .of e2, e3⟩
  | _ => cases e
theorem tp_ok (R : Rl K h m C H) (r : Rep K m (hz h m H) d v) (e : tpD d = some ds) : ∃ a vs o, v = .ref a ∧ H a = some (.frz o (.tup vs)) ∧ o.dict = none ∧ Reps K m (hz h m H) ds vs := by
  cases d with
  | tup xs =>
    cases e
    obtain ⟨a, vs, o, e1, e2, e4, e3⟩ := r
    exact ⟨a, vs, o, e1, hz_sub e2, e4, e3⟩
  | _ => cases e
theorem sq_ok (R : Rl K h m C H) (r : Rep K m (hz h m H) d v) (e : sqD C d = some ds) : ∃ a vs, v = .ref a ∧ (SqL K H a vs ∨ SqT K H a vs) ∧ Reps K m (hz h m H) ds vs := by
  cases d with
  | tup ys =>
    cases e
    obtain ⟨a, vs, o, e1, e2, e4, e3⟩ := tp_ok R r rfl
    exact ⟨a, vs, e1, .inr (.inl (.inr ⟨o, e2⟩)), e3⟩
  | scr xs =>
    obtain ⟨a, vs, e1, e2, e3⟩ := ll_ok (ds := ds) R r e
    exact ⟨a, vs, e1, .inl e2, e3⟩
  | lst xs =>
    obtain ⟨a, vs, e1, e2, e3⟩ := ll_ok (ds := ds) R r e
    exact ⟨a, vs, e1, .inl e2, e3⟩
  | cel n =>
    obtain ⟨a, vs, e1, e2, e3⟩ := ll_ok (ds := ds) R r e
    exact ⟨a, vs, e1, .inl e2, e3⟩
  | _ => cases e
end

/-! ### what is wanted, carried on -/
def Con (K : PySem.W.Frag) (h m : List Addr) (H : Hp) (Q0 : QD) (Q : VK) : Prop :=
  ∀ d C' m' H' v, Q0 d C' → Ext h m H h m' H' → Rl K h m' C' H' → Rep K m' (hz h m' H') d v → Q v H'
section
variable {K : PySem.W.Frag} {h m m1 : List Addr} {C C1 : Cs} {H H1 : Hp} {Q0 : QD} {Q : VK}
theorem Con.ext (k : Con K h m H Q0 Q) (x : Ext h m H h m1 H1) : Con K h m1 H1 Q0 Q := fun d C' m' H' v q y R r => k d C' m' H' v q (x.trans y) R r
theorem Con.now (k : Con K h m H Q0 Q) (R : Rl K h m C H) {d : D} {v : V} (r : Rep K m (hz h m H) d v) (q : Q0 d C) : Q v H := k d C m H v q Ext.refl R r
theorem Con.int (k : Con K h m H Q0 Q) (R : Rl K h m C H) {i : Int} (q : Q0 (.int i) C) : Q (.int i) H := k.now (d := .int i) R rfl q
theorem Con.bl (k : Con K h m H Q0 Q) (R : Rl K h m C H) {i : Bool} (q : Q0 (.bl i) C) : Q (.bl i) H := k.now (d := .bl i) R rfl q
theorem Con.str (k : Con K h m H Q0 Q) (R : Rl K h m C H) {i : Str} (q : Q0 (.str i) C) : Q (.str i) H := k.now (d := .str i) R rfl q
theorem Con.non (k : Con K h m H Q0 Q) (R : Rl K h m C H) (q : Q0 .non C) : Q .non H := k.now (d := .non) R rfl q
/-- a new tuple -/
theorem Con.tup (k : Con K h m H Q0 Q) (R : Rl K h m C H) {ds : List D} {vs : List V} (r : Reps K m (hz h m H) ds vs) (q : Q0 (.tup ds) C) {p : Addr} {o : Obj} (np : H p = none) (hd : o.dict = none) : Q (.ref p) (upd H p (.frz o (.tup vs))) := by
  obtain ⟨x, R', e⟩ := R.newF (o := .frz o (.tup vs)) np
  exact k _ C m _ _ q x R' ⟨p, vs, o, rfl, e, hd, x.reps r⟩
/-- a new list -/
theorem Con.lst (k : Con K h m H Q0 Q) (R : Rl K h m C H) {ds : List D} {vs : List V} (r : Reps K m (hz h m H) ds vs) (q : Q0 (.lst ds) C) {p : Addr} (np : H p = none) : Q (.ref p) (upd H p (.lst vs)) := by
  obtain ⟨x, R', e⟩ := R.newF (o := .lst vs) np
  exact k _ C m _ _ q x R' ⟨p, vs, rfl, e, x.reps r⟩
/-- a new list as a cell -/
theorem Con.cel (k : Con K h m H Q0 Q) (R : Rl K h m C H) {ds : List D} {vs : List V} (r : Reps K m (hz h m H) ds vs) (q : Q0 (.cel C.length) (C ++ [.lst ds])) {p : Addr} (np : H p = none) : Q (.ref p) (upd H p (.lst vs)) := by
  obtain ⟨x, R', e⟩ := R.newC np r
  exact k _ _ _ _ _ q x R' e
end

/-! ### operators by data -/
abbrev O2 := D → D → Cs → QD → Prop
abbrev O1 := D → Cs → QD → Prop
def OpD (K : PySem.W.Frag) (r : R2) (o : O2) : Prop := ∀ h m C H d1 d2 v1 v2 Q0 Q, Rl K h m C H → Rep K m (hz h m H) d1 v1 → Rep K m (hz h m H) d2 v2 → o d1 d2 C Q0 → Con K h m H Q0 Q → r v1 v2 H Q
def UnD (K : PySem.W.Frag) (r : V → Hp → VK → Prop) (o : O1) : Prop := ∀ h m C H d v Q0 Q, Rl K h m C H → Rep K m (hz h m H) d v → o d C Q0 → Con K h m H Q0 Q → r v H Q
def dOp (o : O2) (ta tb : RE) : RE := fun r C Q => ta r C fun x C1 => tb r C1 fun y C2 => o x y C2 Q
def dUn (o : O1) (ta : RE) : RE := fun r C Q => ta r C fun x C1 => o x C1 Q
section
variable {X : Cx} {B : BS} {a b c : Expr} {ta tb tc : RE} {pos : Pos}
theorem up_op {K : PySem.W.Frag} {r : R2} {o : O2} (od : OpD K r o) {σ : L2.St} {H : Hp} {Q : VK} (h : upE K B (dOp o ta tb) σ H Q) : tOp r (upE K B ta) (upE K B tb) σ H Q := by
  obtain ⟨h, m, C, ρ, Q0, S, t, k⟩ := h
  refine ⟨h, m, C, ρ, _, S, t, fun d1 C1 m1 H1 v1 q1 x1 R1 r1 => ?_⟩
  refine ⟨h, m1, C1, ρ, _, S.ext x1 R1, q1, fun d2 C2 m2 H2 v2 q2 x2 R2 r2 => ?_⟩
  exact od h m2 C2 H2 d1 d2 v1 v2 Q0 Q R2 (x2.rep r1) r2 q2 (Con.ext k (x1.trans x2))
theorem d_op {op : Operator} {r : R2} {o : O2} (ho : OpR X (binaryOp op) r) (od : OpD X.K r o) (ha : DE X B a ta) (hb : DE X B b tb) : DE X B (.BinOp a op b pos) (dOp o ta tb) :=
  ⟨pe_imp (pe_op ho ha.run hb.run) fun σ H Q h => up_op od h⟩
theorem d_cmp {op : CmpOp} {r : R2} {o : O2} (ho : OpR X (compareOp op) r) (od : OpD X.K r o) (ha : DE X B a ta) (hb : DE X B b tb) (hm : behindInMarks op b = false) : DE X B (.Compare a [op] [b] pos) (dOp o ta tb) :=
  ⟨pe_imp (pe_cmpR ho ha.run hb.run hm) fun σ H Q h => up_op od h⟩
theorem d_un {op : UnaryOp} {r : V → Hp → VK → Prop} {o : O1} (ho : UnR X (unaryOp op) r) (od : UnD X.K r o) (ha : DE X B a ta) : DE X B (.UnaryOp op a pos) (dUn o ta) := by
  refine ⟨pe_imp (pe_un ho ha.run) fun σ H Q ⟨h, m, C, ρ, Q0, S, t, k⟩ => ?_⟩
  exact ⟨h, m, C, ρ, _, S, t, fun d1 C1 m1 H1 v1 q1 x1 R1 r1 => od h m1 C1 H1 d1 v1 Q0 Q R1 r1 q1 (Con.ext k x1)⟩
/-- a op b op' c -/
def dChain (o o' : O2) (ta tb tc : RE) : RE := fun r C Q => ta r C fun x C1 => tb r C1 fun y C2 => o x y C2 fun z C3 => match z with
  | .bl true => tc r C3 fun w C4 => o' y w C4 Q
  | .bl false => Q (.bl false) C3
  | _ => False
theorem d_chain {op op' : CmpOp} {q q' : R2} {o o' : O2} (ho : OpR X (compareOp op) q) (ho' : OpR X (compareOp op') q') (od : OpD X.K q o) (od' : OpD X.K q' o') (ha : DE X B a ta) (hb : DE X B b tb) (hc : DE X B c tc)
    (hm : lastMarks [op, op'] [b, c] = false := by with_unfolding_all rfl) : DE X B (.Compare a [op, op'] [b, c] pos) (dChain o o' ta tb tc) := by
  refine ⟨pe_imp (pe_chain ho ho' ha.run hb.run hc.run hm) fun σ H Q ⟨h, m, C, ρ, Q0, S, t, k⟩ => ?_⟩
  refine ⟨h, m, C, ρ, _, S, t, fun d1 C1 m1 H1 v1 q1 x1 R1 r1 => ?_⟩
  have S1 := S.ext x1 R1
  refine ⟨h, m1, C1, ρ, _, S1, q1, fun d2 C2 m2 H2 v2 q2 x2 R2 r2 => ?_⟩
  have S2 := S1.ext x2 R2
  refine od h m2 C2 H2 d1 d2 v1 v2 _ _ R2 (x2.rep r1) r2 q2 fun z C3 m3 H3 v3 q3 x3 R3 r3 => ?_
  cases z with
  | bl c =>
    refine ⟨c, r3, ?_⟩
    cases c with
    | true =>
      rw [if_pos rfl]
      refine ⟨h, m3, C3, ρ, _, S2.ext x3 R3, q3, fun d4 C4 m4 H4 v4 q4 x4 R4 r4 => ?_⟩
      exact od' h m4 C4 H4 d2 d4 v2 v4 Q0 Q R4 (x4.rep (x3.rep r2)) r4 q4 (Con.ext k (((x1.trans x2).trans x3).trans x4))
    | false =>
      rw [if_neg Bool.false_ne_true]
      exact k _ _ _ _ _ q3 ((x1.trans x2).trans x3) R3 rfl
  | _ => exact q3.elim

/-! ### tests -/
def dTest (t : RE) : RT := fun r C Q => t r C fun d C1 => match d with
  | .bl b => Q b C1
  | _ => False
theorem d_val {e : Expr} {t : RE} (h : DE X B e t) (he : ∀ whole, isTrue e X.env whole = (do let v ← whole; standAt e.pos; holding [v] (truthy v)) := by intro _; rfl) : DT X B e (dTest t) := by
  refine ⟨pt_imp (pt_val h.run he) fun σ H Q ⟨h, m, C, ρ, Q0, S, t, k⟩ => ?_⟩
  refine ⟨h, m, C, ρ, _, S, t, fun d1 C1 m1 H1 v1 q1 x1 R1 r1 => ?_⟩
  cases d1 with
  | bl b => exact ⟨b, r1, k b C1 m1 H1 q1 x1 R1⟩
  | _ => exact q1.elim
theorem d_cmpT {op : CmpOp} {r : R2} {o : O2} (ho : OpR X (compareOp op) r) (od : OpD X.K r o) (ha : DE X B a ta) (hb : DE X B b tb) (hm : behindInMarks op b = false) : DT X B (.Compare a [op] [b] pos) (dTest (dOp o ta tb)) := by
  refine ⟨pt_imp (pt_cmpR ho ha.run hb.run hm) fun σ H Q ⟨h, m, C, ρ, Q0, S, t, k⟩ => ?_⟩
  refine up_op (o := o) od ⟨h, m, C, ρ, _, S, t, fun d1 C1 m1 H1 v1 q1 x1 R1 r1 => ?_⟩
  cases d1 with
  | bl b => exact ⟨b, r1, k b C1 m1 H1 q1 x1 R1⟩
  | _ => exact q1.elim
theorem d_chainT {op op' : CmpOp} {q q' : R2} {o o' : O2} (ho : OpR X (compareOp op) q) (ho' : OpR X (compareOp op') q') (od : OpD X.K q o) (od' : OpD X.K q' o') (ha : DE X B a ta) (hb : DE X B b tb) (hc : DE X B c tc)
    (hm : lastMarks [op, op'] [b, c] = false := by with_unfolding_all rfl) : DT X B (.Compare a [op, op'] [b, c] pos) (dTest (dChain o o' ta tb tc)) := by
  refine ⟨pt_imp (pt_chain ho ho' ha.run hb.run hc.run hm) fun σ H Q ⟨h, m, C, ρ, Q0, S, t, k⟩ => ?_⟩
  refine ⟨h, m, C, ρ, _, S, t, fun d1 C1 m1 H1 v1 q1 x1 R1 r1 => ?_⟩
  have S1 := S.ext x1 R1
  refine ⟨h, m1, C1, ρ, _, S1, q1, fun d2 C2 m2 H2 v2 q2 x2 R2 r2 => ?_⟩
  have S2 := S1.ext x2 R2
  refine od h m2 C2 H2 d1 d2 v1 v2 _ _ R2 (x2.rep r1) r2 q2 fun z C3 m3 H3 v3 q3 x3 R3 r3 => ?_
  cases z with
  | bl c =>
    refine ⟨c, r3, ?_⟩
    cases c with
    | true =>
      rw [if_pos rfl]
      refine ⟨h, m3, C3, ρ, _, S2.ext x3 R3, q3, fun d4 C4 m4 H4 v4 q4 x4 R4 r4 => ?_⟩
      refine od' h m4 C4 H4 d2 d4 v2 v4 _ _ R4 (x4.rep (x3.rep r2)) r4 q4 fun z5 C5 m5 H5 v5 q5 x5 R5 r5 => ?_
      cases z5 with
      | bl b => exact ⟨b, r5, k b C5 m5 H5 q5 ((((x1.trans x2).trans x3).trans x4).trans x5) R5⟩
      | _ => exact q5.elim
    | false =>
      rw [if_neg Bool.false_ne_true]
      exact ⟨false, rfl, k _ _ _ _ q3 ((x1.trans x2).trans x3) R3⟩
  | _ => exact q3.elim
def dAnd (t u : RT) : RT := fun r C Q => t r C fun c C1 => if c = true then u r C1 Q else Q false C1
def dOr (t u : RT) : RT := fun r C Q => t r C fun c C1 => if c = true then Q true C1 else u r C1 Q
def dNot (t : RT) : RT := fun r C Q => t r C fun c C1 => Q (!c) C1
theorem ite_pushT {c : Bool} {A A' : Prop} {P : Prop} (h1 : c = true → A → P) (h2 : c = false → A' → P) (h : if c = true then A else A') : P := by
  cases c with
  | true => exact h1 rfl (by simpa using h)
  | false => exact h2 rfl (by simpa using h)
section
variable {t u : RT} {rest : List Expr}
theorem dw_pt {e : Expr} (h : DW X B e t) : DT X B e t := ⟨h.run.pt⟩
theorem dw_and1 (ha : DT X B a t) : DW X B (.BoolOp .And [a] pos) t := ⟨pw_and1 ha.run⟩
theorem dw_or1 (ha : DT X B a t) : DW X B (.BoolOp .Or [a] pos) t := ⟨pw_or1 ha.run⟩
theorem dw_and (ha : DT X B a t) (hb : DW X B (.BoolOp .And (b :: rest) pos) u) : DW X B (.BoolOp .And (a :: b :: rest) pos) (dAnd t u) := by
  refine ⟨pw_imp (pw_and ha.run hb.run) fun σ H Q ⟨h, m, C, ρ, Q0, S, t, k⟩ => ?_⟩
  refine ⟨h, m, C, ρ, _, S, t, fun c C1 m1 H1 q1 x1 R1 => ?_⟩
  cases c with
  | true => exact ⟨h, m1, C1, ρ, Q0, S.ext x1 R1, q1, fun d C2 m2 H2 q2 x2 R2 => k d C2 m2 H2 q2 (x1.trans x2) R2⟩
  | false => exact k _ _ _ _ q1 x1 R1
theorem dw_or (ha : DT X B a t) (hb : DW X B (.BoolOp .Or (b :: rest) pos) u) : DW X B (.BoolOp .Or (a :: b :: rest) pos) (dOr t u) := by
  refine ⟨pw_imp (pw_or ha.run hb.run) fun σ H Q ⟨h, m, C, ρ, Q0, S, t, k⟩ => ?_⟩
  refine ⟨h, m, C, ρ, _, S, t, fun c C1 m1 H1 q1 x1 R1 => ?_⟩
  cases c with
  | true => exact k _ _ _ _ q1 x1 R1
  | false => exact ⟨h, m1, C1, ρ, Q0, S.ext x1 R1, q1, fun d C2 m2 H2 q2 x2 R2 => k d C2 m2 H2 q2 (x1.trans x2) R2⟩
theorem dt_not (ha : DT X B a t) : DT X B (.UnaryOp .Not a pos) (dNot t) := by
  refine ⟨pt_imp (pt_not ha.run) fun σ H Q ⟨h, m, C, ρ, Q0, S, t, k⟩ => ?_⟩
  exact ⟨h, m, C, ρ, _, S, t, fun c C1 m1 H1 q1 x1 R1 => k _ _ _ _ q1 x1 R1⟩
end
/-- .. as values -/
def dAndV (ta tb : RE) : RE := fun r C Q => ta r C fun d C1 => match d with
  | .bl true => tb r C1 Q
  | .bl false => Q (.bl false) C1
  | _ => False
def dOrV (ta tb : RE) : RE := fun r C Q => ta r C fun d C1 => match d with
  | .bl true => Q (.bl true) C1
  | .bl false => tb r C1 Q
  | _ => False
def dNotV (ta : RE) : RE := fun r C Q => ta r C fun d C1 => match d with
  | .bl c => Q (.bl (!c)) C1
  | _ => False
theorem de_one {op : BoolOp} (h : DE X B a ta) : DE X B (.BoolOp op [a] pos) ta := ⟨pe_one h.run⟩
theorem de_and {rest : List Expr} (ha : DE X B a ta) (hb : DE X B (.BoolOp .And (b :: rest) pos) tb) : DE X B (.BoolOp .And (a :: b :: rest) pos) (dAndV ta tb) := by
  refine ⟨pe_imp (pe_and ha.run hb.run) fun σ H Q ⟨h, m, C, ρ, Q0, S, t, k⟩ => ?_⟩
  refine ⟨h, m, C, ρ, _, S, t, fun d C1 m1 H1 v1 q1 x1 R1 r1 => ?_⟩
  cases d with
  | bl c =>
    refine ⟨c, r1, ?_⟩
    cases c with
    | true => exact ⟨h, m1, C1, ρ, Q0, S.ext x1 R1, q1, Con.ext k x1⟩
    | false => exact k _ _ _ _ _ q1 x1 R1 rfl
  | _ => exact q1.elim
theorem de_or {rest : List Expr} (ha : DE X B a ta) (hb : DE X B (.BoolOp .Or (b :: rest) pos) tb) : DE X B (.BoolOp .Or (a :: b :: rest) pos) (dOrV ta tb) := by
  refine ⟨pe_imp (pe_or ha.run hb.run) fun σ H Q ⟨h, m, C, ρ, Q0, S, t, k⟩ => ?_⟩
  refine ⟨h, m, C, ρ, _, S, t, fun d C1 m1 H1 v1 q1 x1 R1 r1 => ?_⟩
  cases d with
  | bl c =>
    refine ⟨c, r1, ?_⟩
    cases c with
    | true => exact k _ _ _ _ _ q1 x1 R1 rfl
    | false => exact ⟨h, m1, C1, ρ, Q0, S.ext x1 R1, q1, Con.ext k x1⟩
  | _ => exact q1.elim
theorem de_not (ha : DE X B a ta) : DE X B (.UnaryOp .Not a pos) (dNotV ta) := by
  refine ⟨pe_imp (pe_not ha.run) fun σ H Q ⟨h, m, C, ρ, Q0, S, t, k⟩ => ?_⟩
  refine ⟨h, m, C, ρ, _, S, t, fun d C1 m1 H1 v1 q1 x1 R1 r1 => ?_⟩
  cases d with
  | bl c => exact ⟨c, r1, k _ _ _ _ _ q1 x1 R1 rfl⟩
  | _ => exact q1.elim
def dIf (t : RT) (ta tb : RE) : RE := fun r C Q => t r C fun c C1 => if c = true then ta r C1 Q else tb r C1 Q
theorem de_if {t : RT} (hc : DT X B c t) (ha : DE X B a ta) (hb : DE X B b tb) : DE X B (.IfExp c a b pos) (dIf t ta tb) := by
  refine ⟨pe_imp (pe_ifExp hc.run ha.run hb.run) fun σ H Q ⟨h, m, C, ρ, Q0, S, t, k⟩ => ?_⟩
  refine ⟨h, m, C, ρ, _, S, t, fun c C1 m1 H1 q1 x1 R1 => ?_⟩
  cases c with
  | true => exact ⟨h, m1, C1, ρ, Q0, S.ext x1 R1, q1, Con.ext k x1⟩
  | false => exact ⟨h, m1, C1, ρ, Q0, S.ext x1 R1, q1, Con.ext k x1⟩
end

/-! ### the operators -/
section
variable {X : Cx} {K : PySem.W.Frag}
def oI (g : Int → Int → D) : O2 := fun x y C Q => match x, y with
  | .int i, .int j => Q (g i j) C
  | _, _ => False
def oIc (P : Int → Int → Prop) (g : Int → Int → D) : O2 := fun x y C Q => match x, y with
  | .int i, .int j => P i j ∧ Q (g i j) C
  | _, _ => False
theorem od_I {g : Int → Int → D} {g' : Int → Int → V} (e : ∀ i j m H, Rep K m H (g i j) (g' i j)) : OpD K (rI0 g') (oI g) := by
  intro h m C H d1 d2 v1 v2 Q0 Q R r1 r2 o k
  cases d1 <;> first | exact o.elim | skip
  cases d2 <;> first | exact o.elim | skip
  exact ⟨_, _, r1, r2, k.now R (e _ _ _ _) o⟩
theorem od_Ic {P : Int → Int → Prop} {g : Int → Int → D} {g' : Int → Int → V} (e : ∀ i j m H, Rep K m H (g i j) (g' i j)) : OpD K (rI P g') (oIc P g) := by
  intro h m C H d1 d2 v1 v2 Q0 Q R r1 r2 o k
  cases d1 <;> first | exact o.elim | skip
  cases d2 <;> first | exact o.elim | skip
  exact ⟨_, _, r1, r2, o.1, k.now R (e _ _ _ _) o.2⟩
theorem OpD.or {r r' : R2} {o : O2} (h : ∀ h m C H d1 d2 v1 v2 Q0 Q, Rl K h m C H → Rep K m (hz h m H) d1 v1 → Rep K m (hz h m H) d2 v2 → o d1 d2 C Q0 → Con K h m H Q0 Q → r v1 v2 H Q ∨ r' v1 v2 H Q) : OpD K (fun x y H Q => r x y H Q ∨ r' x y H Q) o := h
def oAdd : O2 := fun x y C Q => match x, y with
  | .int i, .int j => Q (.int (i + j)) C
  | .str x, .str y => x.length + y.length ≤ sizeLine ∧ Q (.str (x ++ y)) C
  | .tup xs, .tup ys => xs.length + ys.length ≤ sizeLine ∧ Q (.tup (xs ++ ys)) C
  | x, y => opt (lsD C x) fun xs => opt (lsD C y) fun ys => xs.length + ys.length ≤ sizeLine ∧ Q (.lst (xs ++ ys)) C
def rAddA (K : PySem.W.Frag) : R2 := fun x y H Q => (rI0 (fun i j => .int (i + j)) x y H Q ∨ (∃ i j, x = .str i ∧ y = .str j ∧ i.length + j.length ≤ sizeLine ∧ Q (.str (i ++ j)) H)) ∨ (rCatF K x y H Q ∨ rCat x y H Q)
theorem op_addA : OpR X (binaryOp .Add) (rAddA X.K) := (op_add.or op_add_str).or (op_catF.or op_cat)
theorem od_addL {h m : List Addr} {C : Cs} {H : Hp} {d1 d2 : D} {v1 v2 : V} {Q0 : QD} {Q : VK} (R : Rl K h m C H) (r1 : Rep K m (hz h m H) d1 v1) (r2 : Rep K m (hz h m H) d2 v2)
    (o : opt (lsD C d1) fun xs => opt (lsD C d2) fun ys => xs.length + ys.length ≤ sizeLine ∧ Q0 (.lst (xs ++ ys)) C) (k : Con K h m H Q0 Q) : rCat v1 v2 H Q := by
  obtain ⟨xs, e1, o⟩ := opt_iff.mp o
  obtain ⟨ys, e2, hl, q⟩ := opt_iff.mp o
  obtain ⟨a, vs, rfl, h1, p1⟩ := ls_ok R r1 e1
  obtain ⟨b, us, rfl, h2, p2⟩ := ls_ok R r2 e2
  exact ⟨a, b, vs, us, rfl, rfl, h1, h2, by rw [← p1.length, ← p2.length]; exact hl, fun p np => k.lst R (p1.append p2) q np⟩
theorem od_add : OpD K (rAddA K) oAdd := by
  intro h m C H d1 d2 v1 v2 Q0 Q R r1 r2 o k
  have L : (opt (lsD C d1) fun xs => opt (lsD C d2) fun ys => xs.length + ys.length ≤ sizeLine ∧ Q0 (.lst (xs ++ ys)) C) → rAddA K v1 v2 H Q := fun o => .inr (.inr (od_addL R r1 r2 o k))
  cases d1 with
  | int i =>
    cases d2 <;> first | exact (L o) | skip
    exact .inl (.inl ⟨_, _, r1, r2, k.int R o⟩)
  | str i =>
    cases d2 <;> first | exact (L o) | skip
    exact .inl (.inr ⟨_, _, r1, r2, o.1, k.str R o.2⟩)
  | tup xs =>
    cases d2 <;> first | exact (L o) | skip
    rename_i ys
    obtain ⟨a, vs, o1, rfl, h1, z1, p1⟩ := tp_ok R r1 rfl
    obtain ⟨b, us, o2, rfl, h2, z2, p2⟩ := tp_ok R r2 rfl
    refine .inr (.inl ⟨a, b, vs, us, rfl, rfl, .inl (.inr ⟨o1, h1⟩), .inl (.inr ⟨o2, h2⟩), by rw [← p1.length, ← p2.length]; exact o.1, fun e => ?_, fun e e' => ?_, fun _ _ p ob np hd => k.tup R (p1.append p2) o.2 np hd⟩)
    · subst e
      have ex : xs = [] := List.eq_nil_of_length_eq_zero p1.length
      subst ex
      exact k.now R r2 o.2
    · subst e'
      have ey : ys = [] := List.eq_nil_of_length_eq_zero p2.length
      subst ey
      have o2 := o.2
      rw [List.append_nil] at o2
      exact k.now R r1 o2
  | _ => exact L o
end
section
variable {X : Cx} {B : BS} {a b c : Expr} {ta tb tc : RE} {pos : Pos}
theorem d_add (ha : DE X B a ta) (hb : DE X B b tb) : DE X B (.BinOp a .Add b pos) (dOp oAdd ta tb) := d_op op_addA od_add ha hb
abbrev oSub : O2 := oI fun i j => .int (i - j)
theorem d_sub (ha : DE X B a ta) (hb : DE X B b tb) : DE X B (.BinOp a .Sub b pos) (dOp oSub ta tb) := d_op op_sub (od_I fun _ _ _ _ => rfl) ha hb
abbrev oFdiv : O2 := oIc CDiv fun i j => .int (i / j)
theorem d_fdiv (ha : DE X B a ta) (hb : DE X B b tb) : DE X B (.BinOp a .FloorDiv b pos) (dOp oFdiv ta tb) := d_op op_fdiv (od_Ic fun _ _ _ _ => rfl) ha hb
abbrev oMod : O2 := oIc (fun _ j => 0 < j) fun i j => .int (i % j)
theorem d_mod (ha : DE X B a ta) (hb : DE X B b tb) : DE X B (.BinOp a .Mod b pos) (dOp oMod ta tb) := d_op op_mod (od_Ic fun _ _ _ _ => rfl) ha hb
abbrev oPow : O2 := oIc CPow fun i j => .int (i ^ j.toNat)
theorem d_pow (ha : DE X B a ta) (hb : DE X B b tb) : DE X B (.BinOp a .Pow b pos) (dOp oPow ta tb) := d_op op_pow (od_Ic fun _ _ _ _ => rfl) ha hb
abbrev oMulI : O2 := oIc CMul fun i j => .int (i * j)
/-- int * int, list * int -/
def oMul : O2 := fun x y C Q => match x, y with
  | .int i, .int j => CMul i j ∧ Q (.int (i * j)) C
  | x, .int k => opt (lsD C x) fun xs => (-(2 ^ 63) ≤ k ∧ k < 2 ^ 63 ∧ xs.length * k.toNat ≤ sizeLine) ∧ Q (.lst (List.replicate k.toNat xs).flatten) C
  | _, _ => False
theorem Reps.rep {K : PySem.W.Frag} {m : List Addr} {H : Hp} {ds : List D} {vs : List V} (r : Reps K m H ds vs) : ∀ k : Nat, Reps K m H (List.replicate k ds).flatten (List.replicate k vs).flatten
  | 0 => rfl
  | k + 1 => by
    rw [List.replicate_succ, List.replicate_succ, List.flatten_cons, List.flatten_cons]
    exact r.append (Reps.rep r k)
theorem d_mul (ha : DE X B a ta) (hb : DE X B b tb) : DE X B (.BinOp a .Mult b pos) (dOp oMul ta tb) := by
  refine d_op (op_mul.or op_rep) (fun h m C H d1 d2 v1 v2 Q0 Q R r1 r2 o k => ?_) ha hb
  cases d2 with
  | int j =>
    have L : (opt (lsD C d1) fun xs => (-(2 ^ 63) ≤ j ∧ j < 2 ^ 63 ∧ xs.length * j.toNat ≤ sizeLine) ∧ Q0 (.lst (List.replicate j.toNat xs).flatten) C) → rRep v1 v2 H Q := fun o => by
      obtain ⟨xs, e1, ⟨b1, b2, b3⟩, q⟩ := opt_iff.mp o
      obtain ⟨a, vs, rfl, h1, p1⟩ := ls_ok R r1 e1
      exact ⟨a, j, vs, rfl, r2, h1, b1, b2, by rw [← p1.length]; exact b3, fun p np => k.lst R (p1.rep _) q np⟩
    cases d1 with
    | int i => exact .inl ⟨_, _, r1, r2, o.1, k.int R o.2⟩
    | _ => exact .inr (L o)
  | _ => cases d1 <;> exact o.elim
abbrev oNeg : O1 := fun x C Q => match x with
  | .int i => Q (.int (-i)) C
  | _ => False
theorem d_neg (ha : DE X B a ta) : DE X B (.UnaryOp .USub a pos) (dUn oNeg ta) := by
  refine d_un un_neg (fun h m C H d v Q0 Q R r o k => ?_) ha
  cases d <;> first | exact o.elim | skip
  exact ⟨_, r, k.int R o⟩

/-! ### comparisons -/
abbrev oLt : O2 := oI fun i j => .bl (decide (i < j))
abbrev oLe : O2 := oI fun i j => .bl (decide (i ≤ j))
abbrev oGt : O2 := oI fun i j => .bl (decide (j < i))
abbrev oGe : O2 := oI fun i j => .bl (decide (j ≤ i))
theorem d_lt (ha : DE X B a ta) (hb : DE X B b tb) : DE X B (.Compare a [.Lt] [b] pos) (dOp oLt ta tb) := d_cmp op_lt (od_I fun _ _ _ _ => rfl) ha hb (nomark _)
theorem d_le (ha : DE X B a ta) (hb : DE X B b tb) : DE X B (.Compare a [.LtE] [b] pos) (dOp oLe ta tb) := d_cmp op_le (od_I fun _ _ _ _ => rfl) ha hb (nomark _)
theorem d_gt (ha : DE X B a ta) (hb : DE X B b tb) : DE X B (.Compare a [.Gt] [b] pos) (dOp oGt ta tb) := d_cmp op_gt (od_I fun _ _ _ _ => rfl) ha hb (nomark _)
theorem d_ge (ha : DE X B a ta) (hb : DE X B b tb) : DE X B (.Compare a [.GtE] [b] pos) (dOp oGe ta tb) := d_cmp op_ge (od_I fun _ _ _ _ => rfl) ha hb (nomark _)
theorem dt_lt (ha : DE X B a ta) (hb : DE X B b tb) : DT X B (.Compare a [.Lt] [b] pos) (dTest (dOp oLt ta tb)) := d_cmpT op_lt (od_I fun _ _ _ _ => rfl) ha hb (nomark _)
theorem dt_le (ha : DE X B a ta) (hb : DE X B b tb) : DT X B (.Compare a [.LtE] [b] pos) (dTest (dOp oLe ta tb)) := d_cmpT op_le (od_I fun _ _ _ _ => rfl) ha hb (nomark _)
theorem dt_gt (ha : DE X B a ta) (hb : DE X B b tb) : DT X B (.Compare a [.Gt] [b] pos) (dTest (dOp oGt ta tb)) := d_cmpT op_gt (od_I fun _ _ _ _ => rfl) ha hb (nomark _)
theorem dt_ge (ha : DE X B a ta) (hb : DE X B b tb) : DT X B (.Compare a [.GtE] [b] pos) (dTest (dOp oGe ta tb)) := d_cmpT op_ge (od_I fun _ _ _ _ => rfl) ha hb (nomark _)
/-- a <= b <= c and its kin -/
theorem d_leLt (ha : DE X B a ta) (hb : DE X B b tb) (hc : DE X B c tc) (hm : lastMarks [.LtE, .Lt] [b, c] = false := by with_unfolding_all rfl) : DE X B (.Compare a [.LtE, .Lt] [b, c] pos) (dChain oLe oLt ta tb tc) := d_chain op_le op_lt (od_I fun _ _ _ _ => rfl) (od_I fun _ _ _ _ => rfl) ha hb hc hm
theorem d_leLe (ha : DE X B a ta) (hb : DE X B b tb) (hc : DE X B c tc) (hm : lastMarks [.LtE, .LtE] [b, c] = false := by with_unfolding_all rfl) : DE X B (.Compare a [.LtE, .LtE] [b, c] pos) (dChain oLe oLe ta tb tc) := d_chain op_le op_le (od_I fun _ _ _ _ => rfl) (od_I fun _ _ _ _ => rfl) ha hb hc hm
theorem d_ltLt (ha : DE X B a ta) (hb : DE X B b tb) (hc : DE X B c tc) (hm : lastMarks [.Lt, .Lt] [b, c] = false := by with_unfolding_all rfl) : DE X B (.Compare a [.Lt, .Lt] [b, c] pos) (dChain oLt oLt ta tb tc) := d_chain op_lt op_lt (od_I fun _ _ _ _ => rfl) (od_I fun _ _ _ _ => rfl) ha hb hc hm
theorem dt_leLt (ha : DE X B a ta) (hb : DE X B b tb) (hc : DE X B c tc) (hm : lastMarks [.LtE, .Lt] [b, c] = false := by with_unfolding_all rfl) : DT X B (.Compare a [.LtE, .Lt] [b, c] pos) (dTest (dChain oLe oLt ta tb tc)) := d_chainT op_le op_lt (od_I fun _ _ _ _ => rfl) (od_I fun _ _ _ _ => rfl) ha hb hc hm
theorem dt_leLe (ha : DE X B a ta) (hb : DE X B b tb) (hc : DE X B c tc) (hm : lastMarks [.LtE, .LtE] [b, c] = false := by with_unfolding_all rfl) : DT X B (.Compare a [.LtE, .LtE] [b, c] pos) (dTest (dChain oLe oLe ta tb tc)) := d_chainT op_le op_le (od_I fun _ _ _ _ => rfl) (od_I fun _ _ _ _ => rfl) ha hb hc hm
theorem dt_ltLt (ha : DE X B a ta) (hb : DE X B b tb) (hc : DE X B c tc) (hm : lastMarks [.Lt, .Lt] [b, c] = false := by with_unfolding_all rfl) : DT X B (.Compare a [.Lt, .Lt] [b, c] pos) (dTest (dChain oLt oLt ta tb tc)) := d_chainT op_lt op_lt (od_I fun _ _ _ _ => rfl) (od_I fun _ _ _ _ => rfl) ha hb hc hm
/-- is None -/
def isNon : D → Bool
  | .non => true
  | _ => false
theorem rep_isNon {K : PySem.W.Frag} {m : List Addr} {H : Hp} {d : D} {v : V} (r : Rep K m H d v) : decide (v = .non) = isNon d := by
  cases d with
  | non =>
    have e : v = .non := r
    subst e
    rfl
  | bl _ => have e : v = .bl _ := r; subst e; rfl
  | int _ => have e : v = .int _ := r; subst e; rfl
  | str _ => have e : v = .str _ := r; subst e; rfl
  | tup _ => obtain ⟨a, vs, _, rfl, _⟩ := r; rfl
  | lst _ => obtain ⟨a, vs, rfl, _⟩ := r; rfl
  | scr _ => obtain ⟨a, vs, rfl, _⟩ := r; rfl
  | cel _ => obtain ⟨a, rfl, _⟩ := r; rfl
  | obj _ => have e : v = .ref _ := r; subst e; rfl
abbrev oIsN : O2 := fun x y C Q => match y with
  | .non => Q (.bl (isNon x)) C
  | _ => False
abbrev oNotN : O2 := fun x y C Q => match y with
  | .non => Q (.bl (!isNon x)) C
  | _ => False
theorem od_isN {K : PySem.W.Frag} : OpD K (fun x y H Q => y = .non ∧ Q (.bl (decide (x = .non))) H) oIsN := by
  intro h m C H d1 d2 v1 v2 Q0 Q R r1 r2 o k
  cases d2 <;> first | exact o.elim | skip
  refine ⟨r2, ?_⟩
  rw [rep_isNon r1]
  exact k.bl R o
theorem od_notN {K : PySem.W.Frag} : OpD K (fun x y H Q => y = .non ∧ Q (.bl (!decide (x = .non))) H) oNotN := by
  intro h m C H d1 d2 v1 v2 Q0 Q R r1 r2 o k
  cases d2 <;> first | exact o.elim | skip
  refine ⟨r2, ?_⟩
  rw [rep_isNon r1]
  exact k.bl R o
theorem d_isN (ha : DE X B a ta) (hb : DE X B b tb) : DE X B (.Compare a [.Is] [b] pos) (dOp oIsN ta tb) := d_cmp op_isN od_isN ha hb (nomark _)
theorem d_notN (ha : DE X B a ta) (hb : DE X B b tb) : DE X B (.Compare a [.IsNot] [b] pos) (dOp oNotN ta tb) := d_cmp op_notN od_notN ha hb (nomark _)
theorem dt_isN (ha : DE X B a ta) (hb : DE X B b tb) : DT X B (.Compare a [.Is] [b] pos) (dTest (dOp oIsN ta tb)) := d_cmpT op_isN od_isN ha hb (nomark _)
theorem dt_notN (ha : DE X B a ta) (hb : DE X B b tb) : DT X B (.Compare a [.IsNot] [b] pos) (dTest (dOp oNotN ta tb)) := d_cmpT op_notN od_notN ha hb (nomark _)
end
end DL
/-! DL3: equality, in, indexes, slices, displays, builtin functions, methods. -/
namespace DL
open PySem PySem.Spec PyProof.Rows L2

/-! ### equality -/
mutual
def pd : D → PyData
  | .non => .none
  | .bl b => .bool b
  | .int i => .int i
  | .str x => .str x
  | .tup xs => .tuple (pds xs)
  | .lst xs => .list (pds xs)
  | .scr xs => .list (pds xs)
  | .cel _ => .none
  | .obj _ => .none
def pds : List D → List PyData
  | [] => []
  | x :: xs => pd x :: pds xs
end
/-! plain data of at most that depth -/
mutual
def shp : Nat → D → Bool
  | _, .non => true
  | _, .bl _ => true
  | _, .int _ => true
  | _, .str x => PyData.strOk x
  | 0, .tup _ => false
  | n + 1, .tup xs => shps n xs
  | 0, .lst _ => false
  | n + 1, .lst xs => shps n xs
  | 0, .scr _ => false
  | n + 1, .scr xs => shps n xs
  | _, .cel _ => false
  | _, .obj _ => false
def shps : Nat → List D → Bool
  | _, [] => true
  | n, x :: xs => shp n x && shps n xs
end
mutual
theorem shp_ok : ∀ (n : Nat) (d : D), shp n d = true → (pd d).canLay0 = true ∧ (pd d).depth ≤ n
  | n, .non, _ => ⟨by simp [pd, PyData.canLay0], by simp [pd, PyData.depth]⟩
  | n, .bl _, _ => ⟨by simp [pd, PyData.canLay0], by simp [pd, PyData.depth]⟩
  | n, .int _, _ => ⟨by simp [pd, PyData.canLay0], by simp [pd, PyData.depth]⟩
  | n, .str x, h => ⟨by simpa [pd, PyData.canLay0, shp] using h, by simp [pd, PyData.depth]⟩
  | 0, .tup _, h => by simp [shp] at h
  | n + 1, .tup xs, h => by
    obtain ⟨h1, h2⟩ := shps_ok n xs (by simpa [shp] using h)
    exact ⟨by simpa [pd, PyData.canLay0] using h1, by simpa [pd, PyData.depth] using h2⟩
  | 0, .lst _, h => by simp [shp] at h
  | n + 1, .lst xs, h => by
    obtain ⟨h1, h2⟩ := shps_ok n xs (by simpa [shp] using h)
    exact ⟨by simpa [pd, PyData.canLay0] using h1, by simpa [pd, PyData.depth] using h2⟩
  | 0, .scr _, h => by simp [shp] at h
  | n + 1, .scr xs, h => by
    obtain ⟨h1, h2⟩ := shps_ok n xs (by simpa [shp] using h)
    exact ⟨by simpa [pd, PyData.canLay0] using h1, by simpa [pd, PyData.depth] using h2⟩
  | _, .cel _, h => by simp [shp] at h
  | _, .obj _, h => by simp [shp] at h
theorem shps_ok : ∀ (n : Nat) (ds : List D), shps n ds = true → PyData.canLayAll0 (pds ds) = true ∧ PyData.depthAll (pds ds) ≤ n
  | n, [], _ => ⟨by simp [pds, PyData.canLayAll0], by simp [pds, PyData.depthAll]⟩
  | n, d :: ds, h => by
    have h' : shp n d = true ∧ shps n ds = true := by simpa [shps] using h
    obtain ⟨a1, a2⟩ := shp_ok n d h'.1
    obtain ⟨b1, b2⟩ := shps_ok n ds h'.2
    exact ⟨by simp [pds, PyData.canLayAll0, a1, b1], by simp only [pds, PyData.depthAll]; omega⟩
end
theorem shp_shaped {n : Nat} {d : D} (hn : n ≤ 64) (h : shp n d = true) : SeqAt.shaped (pd d) = true := by
  obtain ⟨a, b⟩ := shp_ok n d h
  unfold SeqAt.shaped
  rw [a, Bool.true_and]
  exact decide_eq_true (Nat.le_trans b hn)
mutual
theorem dp_of {K : PySem.W.Frag} {m : List Addr} {H : Hp} : ∀ (n : Nat) (d : D) {v : V}, shp n d = true → Rep K m H d v → Dp K H v (pd d)
  | _, .non, _, _, r => by have e := r; cases e; exact .non
  | _, .bl _, _, _, r => by have e : _ = _ := r; subst e; exact .bl _
  | _, .int _, _, _, r => by have e : _ = _ := r; subst e; exact .int _
  | _, .str _, _, _, r => by have e : _ = _ := r; subst e; exact .str _
  | 0, .tup _, _, h, _ => by simp [shp] at h
  | n + 1, .tup xs, _, h, r => by
    obtain ⟨a, vs, o, rfl, e, _, q⟩ := r
    exact .tup (.inl (.inr ⟨o, e⟩)) (dps_of n xs (by simpa [shp] using h) q)
  | 0, .lst _, _, h, _ => by simp [shp] at h
  | n + 1, .lst xs, _, h, r => by
    obtain ⟨a, vs, rfl, e, q⟩ := r
    exact .lst (.of e) (dps_of n xs (by simpa [shp] using h) q)
  | 0, .scr _, _, h, _ => by simp [shp] at h
  | n + 1, .scr xs, _, h, r => by
    obtain ⟨a, vs, rfl, e, q⟩ := r
    exact .lst e (dps_of n xs (by simpa [shp] using h) q)
  | _, .cel _, _, h, _ => by simp [shp] at h
  | _, .obj _, _, h, _ => by simp [shp] at h
theorem dps_of {K : PySem.W.Frag} {m : List Addr} {H : Hp} : ∀ (n : Nat) (ds : List D) {vs : List V}, shps n ds = true → Reps K m H ds vs → DpAll K H vs (pds ds)
  | _, [], _, _, r => by have e : _ = _ := r; subst e; exact .nil
  | n, d :: ds, _, h, r => by
    have h' : shp n d = true ∧ shps n ds = true := by simpa [shps] using h
    obtain ⟨v, vr, rfl, r1, r2⟩ := r
    exact .cons (dp_of n d h'.1 r1) (dps_of n ds h'.2 r2)
end
/-- a value read for ==: a cell is its list -/
def rdC (C : Cs) : D → D
  | .cel n => match C[n]? with
    | some (.lst xs) => .lst xs
    | none => .cel n
  | d => d
def eqD (x y : D) : Bool := PyData.eqv (pd x) (pd y)
def oEqN (neg : Bool) : O2 := fun x y C Q => match x, y with
  | .int i, .int j => Q (.bl (if neg then !decide (i = j) else decide (i = j))) C
  | x, y => shp 60 (rdC C x) = true ∧ shp 60 (rdC C y) = true ∧ Q (.bl (if neg then !eqD (rdC C x) (rdC C y) else eqD (rdC C x) (rdC C y))) C
abbrev oEq : O2 := oEqN false
abbrev oNe : O2 := oEqN true
theorem rdC_dp {K : PySem.W.Frag} {h m : List Addr} {C : Cs} {H : Hp} {d : D} {v : V} (R : Rl K h m C H) (r : Rep K m (hz h m H) d v) (s : shp 60 (rdC C d) = true) : Dp K H v (pd (rdC C d)) := by
  cases d with
  | cel n =>
    obtain ⟨a, rfl, e2⟩ := r
    cases hc : C[n]? with
    | none => simp [rdC, hc, shp] at s
    | some c =>
      cases c with
      | lst xs =>
        obtain ⟨b, hb, vs, k1, k2⟩ := R.cell n _ hc
        rw [e2] at hb
        cases hb
        have e : rdC C (.cel n) = .lst xs := by simp [rdC, hc]
        rw [e] at s ⊢
        exact dp_of (m := m) (H := H) 60 (.lst xs) s ⟨a, vs, rfl, k1, Reps.real k2⟩
  | _ => exact dp_of (m := m) (H := H) 60 _ s (Rep.real r)
theorem eqD_int (i j : Int) : eqD (.int i) (.int j) = decide (i = j) := by
  show PyData.eqv (.int i) (.int j) = _
  rw [PyData.eqv, Bool.beq_eq_decide_eq]
theorem oEqN_gen {neg : Bool} {x y : D} {C : Cs} {Q : QD} (o : oEqN neg x y C Q) : shp 60 (rdC C x) = true ∧ shp 60 (rdC C y) = true ∧ Q (.bl (if neg then !eqD (rdC C x) (rdC C y) else eqD (rdC C x) (rdC C y))) C := by
  cases x with
  | int i =>
    cases y with
    | int j =>
      refine ⟨rfl, rfl, ?_⟩
      show Q (.bl (if neg then !eqD (.int i) (.int j) else eqD (.int i) (.int j))) C
      rw [eqD_int]
      exact o
    | _ => exact o
  | _ => exact o
section
variable {X : Cx} {B : BS} {a b c : Expr} {ta tb tc : RE} {pos : Pos}
theorem od_eqN {K : PySem.W.Frag} : OpD K (rEqD K) (oEqN false) := by
  intro h m C H d1 d2 v1 v2 Q0 Q R r1 r2 o k
  obtain ⟨s1, s2, q⟩ := oEqN_gen o
  refine ⟨_, _, rdC_dp R r1 s1, rdC_dp R r2 s2, shp_shaped (by omega) s1, shp_shaped (by omega) s2, ?_⟩
  exact k.bl R q
theorem od_neN {K : PySem.W.Frag} : OpD K (rNeD K) (oEqN true) := by
  intro h m C H d1 d2 v1 v2 Q0 Q R r1 r2 o k
  obtain ⟨s1, s2, q⟩ := oEqN_gen o
  refine ⟨_, _, rdC_dp R r1 s1, rdC_dp R r2 s2, shp_shaped (by omega) s1, shp_shaped (by omega) s2, ?_⟩
  exact k.bl R q
variable {k : Nat} (hr : Room k X.A)
include hr
theorem d_eq (ha : DE X B a ta) (hb : DE X B b tb) : DE X B (.Compare a [.Eq] [b] pos) (dOp oEq ta tb) := d_cmp (op_eqD hr.units) od_eqN ha hb (nomark _)
theorem d_ne (ha : DE X B a ta) (hb : DE X B b tb) : DE X B (.Compare a [.NotEq] [b] pos) (dOp oNe ta tb) := d_cmp (op_neD hr.units) od_neN ha hb (nomark _)
theorem dt_eq (ha : DE X B a ta) (hb : DE X B b tb) : DT X B (.Compare a [.Eq] [b] pos) (dTest (dOp oEq ta tb)) := d_cmpT (op_eqD hr.units) od_eqN ha hb (nomark _)
theorem dt_ne (ha : DE X B a ta) (hb : DE X B b tb) : DT X B (.Compare a [.NotEq] [b] pos) (dTest (dOp oNe ta tb)) := d_cmpT (op_neD hr.units) od_neN ha hb (nomark _)
end

/-! ### in -/
def flatD : D → Bool
  | .non => true
  | .bl _ => true
  | .int _ => true
  | .str _ => true
  | _ => false
section
variable {K : PySem.W.Frag} {m : List Addr} {H : Hp} {d e : D} {v u : V} {ds : List D} {vs : List V}
theorem flat_rep (r : Rep K m H d v) (f : flatD d = true) : flatV v = true := by
  cases d <;> first | (cases f; done) | (have e : v = _ := r; subst e; rfl)
theorem flats_rep : ∀ {ds : List D} {vs : List V}, Reps K m H ds vs → ds.all flatD = true → vs.all flatV = true
  | [], _, r, _ => by have e : _ = _ := r; subst e; rfl
  | d :: ds, _, ⟨v, vr, e, r, q⟩, f => by
    subst e
    rw [List.all_cons, Bool.and_eq_true] at f ⊢
    exact ⟨flat_rep r f.1, flats_rep q f.2⟩
theorem eqV_rep (r1 : Rep K m H d v) (r2 : Rep K m H e u) (f1 : flatD d = true) (f2 : flatD e = true) : eqV v u = eqD d e := by
  cases d <;> first | (cases f1; done) | skip
  all_goals cases e <;> first | (cases f2; done) | skip
  all_goals
    have e1 : v = _ := r1
    have e2 : u = _ := r2
    subst e1 e2
    unfold eqD
    simp [pd, PyData.eqv, eqV]
theorem any_rep (r : Rep K m H e u) (f : flatD e = true) : ∀ {ds : List D} {vs : List V}, Reps K m H ds vs → ds.all flatD = true → vs.any (fun y => eqV y u) = ds.any fun y => eqD y e
  | [], _, q, _ => by have z : _ = _ := q; subst z; rfl
  | d :: ds, _, ⟨v, vr, z, p, q⟩, g => by
    subst z
    rw [List.all_cons, Bool.and_eq_true] at g
    rw [List.any_cons, List.any_cons, eqV_rep p r g.1 f, any_rep r f q g.2]
end
/-- x in ys: flat things, or a list of plain data -/
def oInN (neg : Bool) : O2 := fun x y C Q => opt (sqD C y) fun ys =>
  ((flatD x = true ∧ ys.all flatD = true) ∨ ((llD C y).isSome = true ∧ shp 60 x = true ∧ shps 59 ys = true)) ∧ Q (.bl (if neg then !ys.any (fun z => eqD z x) else ys.any fun z => eqD z x)) C
theorem pds_map : ∀ ds : List D, pds ds = ds.map pd
  | [] => rfl
  | d :: ds => by rw [pds, pds_map ds]; rfl
theorem ll_sq {C : Cs} {d : D} {ys zs : List D} (h : llD C d = some ys) (h2 : sqD C d = some zs) : zs = ys := by
  cases d <;> simp_all [sqD, llD, lsD]
section
variable {X : Cx} {B : BS} {a b c : Expr} {ta tb tc : RE} {pos : Pos}
theorem od_in {K : PySem.W.Frag} {neg : Bool} : OpD K (fun x y H Q => rIn K neg x y H Q ∨ (if neg then rNotInD K x y H Q else rInD K x y H Q)) (oInN neg) := by
  intro h m C H d1 d2 v1 v2 Q0 Q R r1 r2 o k
  obtain ⟨ys, e, c, q⟩ := opt_iff.mp o
  rcases c with ⟨f1, f2⟩ | ⟨l, s1, s2⟩
  · refine .inl ?_
    obtain ⟨a, vs, rfl, hq, rs⟩ := sq_ok R r2 e
    refine ⟨a, vs, rfl, hq, flat_rep r1 f1, flats_rep rs f2, ?_⟩
    have ea : inV v1 vs = ys.any fun z => eqD z d1 := any_rep r1 f1 rs f2
    cases neg with
    | true => rw [if_pos rfl] at q ⊢; rw [ea]; exact k.bl R q
    | false => rw [if_neg Bool.false_ne_true] at q ⊢; rw [ea]; exact k.bl R q
  · refine .inr ?_
    cases el : llD C d2 with
    | none => rw [el] at l; cases l
    | some zs =>
      have ez := ll_sq el e
      subst ez
      obtain ⟨a, vs, rfl, hq, rs⟩ := ll_ok R r2 el
      have hs : shp 60 (.lst ys) = true := by simpa [shp] using s2
      have dl : Dp K H (.ref a) (.list (pds ys)) := .lst hq (dps_of 59 ys s2 (Reps.real rs))
      have sl : SeqAt.shaped (.list (pds ys)) = true := shp_shaped (n := 60) (d := .lst ys) (by omega) hs
      have ea : (pds ys).any (fun z => PyData.eqv z (pd d1)) = ys.any fun z => eqD z d1 := by
        rw [pds_map, List.any_map]
        rfl
      cases neg with
      | true =>
        rw [if_pos rfl] at q ⊢
        refine ⟨pd d1, pds ys, dp_of 60 d1 s1 (Rep.real r1), dl, shp_shaped (by omega) s1, sl, ?_⟩
        rw [ea]
        exact k.bl R q
      | false =>
        rw [if_neg Bool.false_ne_true] at q ⊢
        refine ⟨pd d1, pds ys, dp_of 60 d1 s1 (Rep.real r1), dl, shp_shaped (by omega) s1, sl, ?_⟩
        rw [ea]
        exact k.bl R q
variable {k : Nat} (hr : Room k X.A)
include hr
theorem units65 : X.A.units + 65 < cLine := by have := hr.un; omega
theorem op_inA : OpR X (compareOp .In) (fun x y H Q => rIn X.K false x y H Q ∨ (if false then rNotInD X.K x y H Q else rInD X.K x y H Q)) := op_in_seq.or (op_inD (units65 hr))
theorem op_notInA : OpR X (compareOp .NotIn) (fun x y H Q => rIn X.K true x y H Q ∨ (if true then rNotInD X.K x y H Q else rInD X.K x y H Q)) := op_notIn_seq.or (op_notInD (units65 hr))
theorem d_in (ha : DE X B a ta) (hb : DE X B b tb) (hm : behindInMarks .In b = false := by rfl) : DE X B (.Compare a [.In] [b] pos) (dOp (oInN false) ta tb) := d_cmp (op_inA hr) od_in ha hb hm
theorem d_notIn (ha : DE X B a ta) (hb : DE X B b tb) (hm : behindInMarks .NotIn b = false := by rfl) : DE X B (.Compare a [.NotIn] [b] pos) (dOp (oInN true) ta tb) := d_cmp (op_notInA hr) od_in ha hb hm
theorem dt_in (ha : DE X B a ta) (hb : DE X B b tb) (hm : behindInMarks .In b = false := by rfl) : DT X B (.Compare a [.In] [b] pos) (dTest (dOp (oInN false) ta tb)) := d_cmpT (op_inA hr) od_in ha hb hm
theorem dt_notIn (ha : DE X B a ta) (hb : DE X B b tb) (hm : behindInMarks .NotIn b = false := by rfl) : DT X B (.Compare a [.NotIn] [b] pos) (dTest (dOp (oInN true) ta tb)) := d_cmpT (op_notInA hr) od_in ha hb hm
end

/-! ### indexes -/
theorem atI_reps {K : PySem.W.Frag} {m : List Addr} {H : Hp} {ds : List D} {vs : List V} (r : Reps K m H ds vs) {i : Int} {d : D} (h : atI ds i = some d) : ∃ v, atI vs i = some v ∧ Rep K m H d v := by
  unfold atI at h ⊢
  rw [← r.length]
  cases e : ixN ds.length i with
  | none => rw [e] at h; cases h
  | some j =>
    rw [e] at h
    obtain ⟨v, hv, q⟩ := r.get (show ds[j]? = some d from h)
    exact ⟨v, hv, q⟩
/-- x[i], for a text, a list, a tuple -/
def oIx : O2 := fun x y C Q => match y with
  | .int i => match x with
    | .str z => z.length ≤ sizeLine ∧ opt (atI z.cps.toList i) fun c => Q (.str ⟨#[c]⟩) C
    | x => opt (sqD C x) fun xs => opt (atI xs i) fun d => Q d C
  | _ => False
section
variable {X : Cx} {B : BS} {a b c : Expr} {ta tb tc : RE} {pos : Pos}
theorem od_ix {K : PySem.W.Frag} : OpD K (rIx K) oIx := by
  intro h m C H d1 d2 v1 v2 Q0 Q R r1 r2 o k
  cases d2 <;> first | exact o.elim | skip
  rename_i i
  have L : (opt (sqD C d1) fun xs => opt (atI xs i) fun d => Q0 d C) → rIx K v1 v2 H Q := fun o => by
    obtain ⟨xs, e, o⟩ := opt_iff.mp o
    obtain ⟨d, e2, q⟩ := opt_iff.mp o
    obtain ⟨a, vs, rfl, hq, rs⟩ := sq_ok R r1 e
    obtain ⟨v, hv, rv⟩ := atI_reps rs e2
    rcases hq with hq | hq
    · exact .inl ⟨a, vs, i, v, rfl, r2, hq, hv, k.now R rv q⟩
    · exact .inr (.inl ⟨a, vs, i, v, rfl, r2, hq, hv, k.now R rv q⟩)
  cases d1 with
  | str z =>
    obtain ⟨hl, o⟩ := o
    obtain ⟨ch, e, q⟩ := opt_iff.mp o
    exact .inr (.inr ⟨z, i, ch, r1, r2, hl, e, k.str R q⟩)
  | _ => exact L o
theorem d_ix (ha : DE X B a ta) (hb : DE X B b tb) (hs : PlainIx b := by exact fun _ _ => rfl) : DE X B (.Subscript a b pos) (dOp oIx ta tb) :=
  ⟨pe_imp (pe_ix ix_seq ha.run hb.run hs) fun σ H Q h => up_op od_ix h⟩
end

/-! ### slices -/
abbrev RO := Ev → Cs → (Option Int → Cs → Prop) → Prop
def upO (K : PySem.W.Frag) (B : BS) (t : RO) : TO := fun σ H Q => ∃ h m C r Q0, Sta K B h m C r σ H ∧ t r C Q0 ∧
  ∀ b C' m' H', Q0 b C' → Ext h m H h m' H' → Rl K h m' C' H' → Q b H'
structure DO (X : Cx) (B : BS) (e : Option Expr) (t : RO) : Prop where
  run : PO X e (upO X.K B t)
def dNo : RO := fun _ C Q => Q none C
def dPart (t : RE) : RO := fun r C Q => t r C fun d C1 => match d with
  | .int i => Q (some i) C1
  | _ => False
def cutD (xs : List D) (lo hi : Option Int) : List D := (xs.drop (HT.sIx xs.length 0 lo)).take (HT.sIx xs.length xs.length hi - HT.sIx xs.length 0 lo)
def oSl (C : Cs) (x : D) (lo hi : Option Int) (Q : QD) : Prop := match x with
  | .str z => z.length ≤ sizeLine ∧ Q (.str (cutS z lo hi)) C
  | .tup xs => Q (.tup (cutD xs lo hi)) C
  | x => opt (llD C x) fun xs => Q (.lst (cutD xs lo hi)) C
/-- the same, a new cell -/
def oSlC (C : Cs) (x : D) (lo hi : Option Int) (Q : QD) : Prop := opt (llD C x) fun xs => Q (.cel C.length) (C ++ [.lst (cutD xs lo hi)])
def dSl (o : Cs → D → Option Int → Option Int → QD → Prop) (t : RE) (tl th : RO) : RE := fun r C Q => t r C fun x C1 => tl r C1 fun l C2 => th r C2 fun u C3 => o C3 x l u Q
section
variable {X : Cx} {B : BS} {e : Expr} {te : RE} {lo hi : Option Expr} {tl th : RO} {pos p2 : Pos}
theorem do_no : DO X B none dNo := by
  refine ⟨⟨fun pins s σ H Q I ⟨h, m, C, r, Q0, S, t, k⟩ => ?_⟩⟩
  exact po_none.run pins s σ H Q I (k none C m H t Ext.refl S.rl)
theorem do_some {e : Expr} {te : RE} (he : DE X B e te) : DO X B (some e) (dPart te) := by
  refine ⟨⟨fun pins s σ H Q I ⟨h, m, C, r, Q0, S, t, k⟩ => ?_⟩⟩
  refine (po_some he.run).run pins s σ H Q I ⟨h, m, C, r, _, S, t, fun d C1 m1 H1 v1 q1 x1 R1 r1 => ?_⟩
  cases d <;> first | exact q1.elim | skip
  exact ⟨_, r1, k _ _ _ _ q1 x1 R1⟩
theorem Reps.cut {K : PySem.W.Frag} {m : List Addr} {H : Hp} {ds : List D} {vs : List V} (r : Reps K m H ds vs) (lo hi : Option Int) : Reps K m H (cutD ds lo hi) (cutV vs lo hi) := by
  unfold cutD cutV
  rw [r.length]
  exact (r.drop _).take _
theorem sl_strA : SlR X (fun x lo hi H Q => ∃ z, x = .str z ∧ z.length ≤ sizeLine ∧ Q (.str (cutS z lo hi)) H) := by
  intro pins s σ H x v vl vu lo hi sl Q I rx hs pl pu h
  exact sl_str pins s σ H x v vl vu lo hi sl Q I rx hs pl pu h
def rSlAll (K : PySem.W.Frag) : V → Option Int → Option Int → Hp → VK → Prop := fun x lo hi H Q => (rSlF K x lo hi H Q ∨ rSlL K x lo hi H Q) ∨ (∃ z, x = .str z ∧ z.length ≤ sizeLine ∧ Q (.str (cutS z lo hi)) H)
theorem sl_all : SlR X (rSlAll X.K) := (sl_tupF.or sl_list).or sl_strA
theorem d_slG {o : Cs → D → Option Int → Option Int → QD → Prop} (ho : ∀ h m C H d v lo hi Q0 Q, Rl X.K h m C H → Rep X.K m (hz h m H) d v → o C d lo hi Q0 → Con X.K h m H Q0 Q → rSlAll X.K v lo hi H Q) (he : DE X B e te) (hl : DO X B lo tl) (hu : DO X B hi th) :
    DE X B (.Subscript e (.Slice lo hi none p2) pos) (dSl o te tl th) := by
  refine ⟨pe_imp (pe_slice sl_all he.run hl.run hu.run) fun σ H Q ⟨h, m, C, r, Q0, S, t, k⟩ => ?_⟩
  refine ⟨h, m, C, r, _, S, t, fun d1 C1 m1 H1 v1 q1 x1 R1 r1 => ?_⟩
  have S1 := S.ext x1 R1
  refine ⟨h, m1, C1, r, _, S1, q1, fun l C2 m2 H2 q2 x2 R2 => ?_⟩
  have S2 := S1.ext x2 R2
  refine ⟨h, m2, C2, r, _, S2, q2, fun u C3 m3 H3 q3 x3 R3 => ?_⟩
  exact ho h m3 C3 H3 d1 v1 l u Q0 Q R3 (x3.rep (x2.rep r1)) q3 (Con.ext k ((x1.trans x2).trans x3))
theorem d_sl (he : DE X B e te) (hl : DO X B lo tl) (hu : DO X B hi th) : DE X B (.Subscript e (.Slice lo hi none p2) pos) (dSl oSl te tl th) := by
  refine d_slG (fun h m C H d v lo hi Q0 Q R r o k => ?_) he hl hu
  have L : (opt (llD C d) fun xs => Q0 (.lst (cutD xs lo hi)) C) → rSlAll X.K v lo hi H Q := fun o => by
    obtain ⟨xs, e1, q⟩ := opt_iff.mp o
    obtain ⟨a, vs, rfl, hq, rs⟩ := ll_ok R r e1
    exact .inl (.inr ⟨a, vs, rfl, hq, fun p np => k.lst R (rs.cut lo hi) q np⟩)
  cases d with
  | str z => exact .inr ⟨z, r, o.1, k.str R o.2⟩
  | tup xs =>
    obtain ⟨a, vs, ob, rfl, e, hd, rs⟩ := tp_ok R r rfl
    refine .inl (.inl ⟨a, vs, rfl, .inl (.inr ⟨ob, e⟩), fun hw => ?_, fun hw p o' np hd => k.tup R (rs.cut lo hi) o np hd⟩)
    have ec : cutD xs lo hi = xs := by
      unfold cutD
      rw [← rs.length] at hw
      rw [hw.1, hw.2]
      simp
    have o' : Q0 (.tup (cutD xs lo hi)) C := o
    rw [ec] at o'
    exact k.now R r o'
  | _ => exact L o
theorem d_slC (he : DE X B e te) (hl : DO X B lo tl) (hu : DO X B hi th) : DE X B (.Subscript e (.Slice lo hi none p2) pos) (dSl oSlC te tl th) := by
  refine d_slG (fun h m C H d v lo hi Q0 Q R r o k => ?_) he hl hu
  obtain ⟨xs, e1, q⟩ := opt_iff.mp o
  obtain ⟨a, vs, rfl, hq, rs⟩ := ll_ok R r e1
  exact .inl (.inr ⟨a, vs, rfl, hq, fun p np => k.cel R (rs.cut lo hi) q np⟩)
/-- x[::-1] of a list -/
def dRev (te : RE) : RE := fun r C Q => te r C fun d C1 => opt (llD C1 d) fun xs => Q (.lst xs.reverse) C1
def dRevC (te : RE) : RE := fun r C Q => te r C fun d C1 => opt (llD C1 d) fun xs => Q (.cel C1.length) (C1 ++ [.lst xs.reverse])
theorem d_rev {k : Nat} {p1 p3 : Pos} (he : DE X B e te) : DE X B (.Subscript e (.Slice none none (some (.UnaryOp .USub (.Constant (.int 1) k p1) p2)) p3) pos) (dRev te) := by
  refine ⟨pe_imp (pe_revL he.run) fun σ H Q ⟨h, m, C, r, Q0, S, t, k⟩ => ?_⟩
  refine ⟨h, m, C, r, _, S, t, fun d1 C1 m1 H1 v1 q1 x1 R1 r1 => ?_⟩
  obtain ⟨xs, e1, q⟩ := opt_iff.mp q1
  obtain ⟨a, vs, rfl, hq, rs⟩ := ll_ok R1 r1 e1
  exact ⟨a, vs, rfl, hq, fun p np => Con.lst (Con.ext k x1) R1 rs.reverse q np⟩
theorem d_revC {k : Nat} {p1 p3 : Pos} (he : DE X B e te) : DE X B (.Subscript e (.Slice none none (some (.UnaryOp .USub (.Constant (.int 1) k p1) p2)) p3) pos) (dRevC te) := by
  refine ⟨pe_imp (pe_revL he.run) fun σ H Q ⟨h, m, C, r, Q0, S, t, k⟩ => ?_⟩
  refine ⟨h, m, C, r, _, S, t, fun d1 C1 m1 H1 v1 q1 x1 R1 r1 => ?_⟩
  obtain ⟨xs, e1, q⟩ := opt_iff.mp q1
  obtain ⟨a, vs, rfl, hq, rs⟩ := ll_ok R1 r1 e1
  exact ⟨a, vs, rfl, hq, fun p np => Con.cel (Con.ext k x1) R1 rs.reverse q np⟩
end
end DL
/-! DL4: arguments, displays, builtin functions, methods of lists and tuples. -/
namespace DL
open PySem PySem.Spec PyProof.Rows L2

/-! ### arguments, displays -/
def dNil : RA := fun _ C Q => Q [] C
def dCons (ta : RE) (tr : RA) : RA := fun r C Q => ta r C fun x C1 => tr r C1 fun xs C2 => Q (x :: xs) C2
def dTup (t : RA) : RE := fun r C Q => t r C fun ds C1 => Q (.tup ds) C1
def dLst (t : RA) : RE := fun r C Q => t r C fun ds C1 => Q (.lst ds) C1
def dLstC (t : RA) : RE := fun r C Q => t r C fun ds C1 => Q (.cel C1.length) (C1 ++ [.lst ds])
section
variable {X : Cx} {B : BS} {e : Expr} {es : List Expr} {te : RE} {t : RA} {pos : Pos}
theorem da_nil : DA X B [] dNil := by
  refine ⟨pa_imp pa_nil fun σ H Q ⟨h, m, C, r, Q0, S, t, k⟩ => ?_⟩
  exact k [] C m H [] t rfl Ext.refl S.rl rfl
theorem da_cons (ha : DE X B e te) (hr : DA X B es t) (hs : starEach (e :: es) X.env = (false, eval e X.env) :: starEach es X.env := by rfl) : DA X B (e :: es) (dCons te t) := by
  refine ⟨pa_imp (pa_cons ha.run hr.run hs) fun σ H Q ⟨h, m, C, r, Q0, S, t, k⟩ => ?_⟩
  refine ⟨h, m, C, r, _, S, t, fun d C1 m1 H1 v1 q1 x1 R1 r1 => ?_⟩
  refine ⟨h, m1, C1, r, _, S.ext x1 R1, q1, fun ds C2 m2 H2 vs q2 hl x2 R2 r2 => ?_⟩
  exact k (d :: ds) C2 m2 H2 (v1 :: vs) q2 (by simp [hl]) (x1.trans x2) R2 (.cons (x2.rep r1) r2)
theorem small_line {n : Nat} (h : n ≤ 1000) : n ≤ sizeLine := Nat.le_trans h (by decide)
theorem d_tup {x1} (h : DA X B es t) (hz : es.length ≤ 1000 := by decide) : DE X B (.Tuple es x1 pos) (dTup t) := by
  refine ⟨pe_imp (pe_tupF h.run) fun σ H Q ⟨h, m, C, r, Q0, S, t, k⟩ => ?_⟩
  refine ⟨h, m, C, r, _, S, t, fun ds C1 m1 H1 vs q1 hl x1 R1 r1 => ⟨by rw [← r1.length, hl]; exact small_line hz, fun p o np hd => ?_⟩⟩
  exact Con.tup (Con.ext k x1) R1 r1 q1 np hd
theorem d_lst (h : DA X B es t) (hz : es.length ≤ 1000 := by decide) : DE X B (.List es pos) (dLst t) := by
  refine ⟨pe_imp (pe_lst h.run) fun σ H Q ⟨h, m, C, r, Q0, S, t, k⟩ => ?_⟩
  refine ⟨h, m, C, r, _, S, t, fun ds C1 m1 H1 vs q1 hl x1 R1 r1 => ⟨by rw [← r1.length, hl]; exact small_line hz, fun p np => ?_⟩⟩
  exact Con.lst (Con.ext k x1) R1 r1 q1 np
theorem d_lstC (h : DA X B es t) (hz : es.length ≤ 1000 := by decide) : DE X B (.List es pos) (dLstC t) := by
  refine ⟨pe_imp (pe_lst h.run) fun σ H Q ⟨h, m, C, r, Q0, S, t, k⟩ => ?_⟩
  refine ⟨h, m, C, r, _, S, t, fun ds C1 m1 H1 vs q1 hl x1 R1 r1 => ⟨by rw [← r1.length, hl]; exact small_line hz, fun p np => ?_⟩⟩
  exact Con.cel (Con.ext k x1) R1 r1 q1 np
end

/-! ### calls of built-ins by data -/
abbrev OA := List D → Cs → QD → Prop
def CallD (K : PySem.W.Frag) (r : List V → Hp → VK → Prop) (o : OA) : Prop := ∀ h m C H ds vs Q0 Q, Rl K h m C H → Reps K m (hz h m H) ds vs → o ds C Q0 → Con K h m H Q0 Q → r vs H Q
def dCB (o : OA) (t : RA) : RE := fun r C Q => t r C fun ds C1 => o ds C1 Q
section
variable {K : PySem.W.Frag} {m : List Addr} {H : Hp} {d e : D} {vs : List V}
theorem reps1 (r : Reps K m H [d] vs) : ∃ v, vs = [v] ∧ Rep K m H d v := by
  obtain ⟨v, vr, rfl, r1, r2⟩ := r
  have e : vr = [] := r2
  subst e
  exact ⟨v, rfl, r1⟩
theorem reps2 (r : Reps K m H [d, e] vs) : ∃ v u, vs = [v, u] ∧ Rep K m H d v ∧ Rep K m H e u := by
  obtain ⟨v, vr, rfl, r1, r2⟩ := r
  obtain ⟨u, rfl, r3⟩ := reps1 r2
  exact ⟨v, u, rfl, r1, r3⟩
theorem reps0 (r : Reps K m H [] vs) : vs = [] := r
end
section
variable {X : Cx} {B : BS} {e : Expr} {es : List Expr} {t : RA} {x : Str} {p pos : Pos} {id T : String} {r : List V → Hp → VK → Prop} {o : OA}
theorem up_cb {K : PySem.W.Frag} {n : Nat} (od : CallD K r o) {σ : L2.St} {H : Hp} {Q : VK} (h : upE K B (dCB o t) σ H Q) : tCB r (upA K B n t) σ H Q := by
  obtain ⟨h, m, C, ρ, Q0, S, t, k⟩ := h
  exact ⟨h, m, C, ρ, _, S, t, fun ds C1 m1 H1 vs q1 hl x1 R1 r1 => od h m1 C1 H1 ds vs Q0 Q R1 r1 q1 (Con.ext k x1)⟩
theorem d_cb (hc : CallR X (.builtin id) r) (od : CallD X.K r o) (hg : Gl X x) (hm : X.mg x = none) (hv : bootBuiltins x = some (.builtin id)) (ha : DA X B (e :: es) t) (hn : x ≠ "__name__" := by decide) (hdb : (x == ("__debug__" : Str)) = false := by decide)
    (he : starEach (e :: es) X.env = (false, eval e X.env) :: starEach es X.env := by rfl) (hpl : (backTo pos (starEach es X.env)).any (·.1) = false := by rfl) :
    DE X B (.Call (.Name x p) (e :: es) [] pos) (dCB o t) :=
  ⟨pe_imp (pe_callB hc hg hm hv ha.run hn hdb he hpl) fun σ H Q h => up_cb od h⟩
theorem d_ct (hc : CallR X (.type T) r) (od : CallD X.K r o) (hg : Gl X x) (hm : X.mg x = none) (hv : bootBuiltins x = some (.type T)) (ha : DA X B (e :: es) t) (hn : x ≠ "__name__" := by decide) (hdb : (x == ("__debug__" : Str)) = false := by decide)
    (he : starEach (e :: es) X.env = (false, eval e X.env) :: starEach es X.env := by rfl) (hpl : (backTo pos (starEach es X.env)).any (·.1) = false := by rfl) :
    DE X B (.Call (.Name x p) (e :: es) [] pos) (dCB o t) :=
  ⟨pe_imp (pe_callTy hc hg hm hv ha.run hn hdb he hpl) fun σ H Q h => up_cb od h⟩
end
def oLen : OA := fun ds C Q => match ds with
  | [.str z] => z.length ≤ sizeLine ∧ Q (.int z.length) C
  | [d] => opt (sqD C d) fun xs => Q (.int xs.length) C
  | _ => False
theorem cd_len {K : PySem.W.Frag} : CallD K (fun xs H Q => ∃ x n, xs = [x] ∧ LenV K x H n ∧ Q (.int n) H) oLen := by
  intro h m C H ds vs Q0 Q R rs o k
  match ds, o with
  | [d], o =>
    obtain ⟨v, rfl, r⟩ := reps1 rs
    have L : (opt (sqD C d) fun xs => Q0 (.int xs.length) C) → ∃ x n, [v] = [x] ∧ LenV K x H n ∧ Q (.int n) H := fun o => by
      obtain ⟨xs, e, q⟩ := opt_iff.mp o
      obtain ⟨a, us, rfl, hq, ru⟩ := sq_ok R r e
      refine ⟨.ref a, us.length, rfl, ?_, ?_⟩
      · rcases hq with hq | hq
        · exact .inl ⟨us, hq, rfl⟩
        · exact .inr ⟨us, hq, rfl⟩
      · rw [← ru.length]
        exact k.int R q
    cases d with
    | str z =>
      have e : v = .str z := r
      subst e
      exact ⟨.str z, z.length, rfl, ⟨o.1, rfl⟩, k.int R o.2⟩
    | _ => exact L o
  | [], o => exact o.elim
  | a :: b :: l, o =>
    cases a <;> exact (False.elim o)
def oTuple : OA := fun ds C Q => match ds with
  | [d] => opt (sqD C d) fun xs => Q (.tup xs) C
  | _ => False
theorem cd_tuple {K : PySem.W.Frag} : CallD K (kTupF K) oTuple := by
  intro h m C H ds vs Q0 Q R rs o k
  match ds, o with
  | [d], o =>
    obtain ⟨v, rfl, r⟩ := reps1 rs
    obtain ⟨xs, e, q⟩ := opt_iff.mp o
    have L : llD C d = some xs → kTupF K [v] H Q := fun e => by
      obtain ⟨a, us, rfl, hq, ru⟩ := ll_ok R r e
      exact ⟨a, us, rfl, .inl ⟨hq, fun l o nl hd => k.tup R ru q nl hd⟩⟩
    cases d with
    | tup ys =>
      cases e
      obtain ⟨a, us, ob, rfl, e, hd, ru⟩ := tp_ok R r rfl
      exact ⟨a, us, rfl, .inr ⟨.inl (.inr ⟨ob, e⟩), k.now R r q⟩⟩
    | _ => exact L e
  | [], o => exact o.elim
  | _ :: _ :: _, o => exact o.elim
def oList : OA := fun ds C Q => match ds with
  | [d] => opt (sqD C d) fun xs => Q (.lst xs) C
  | _ => False
def oListC : OA := fun ds C Q => match ds with
  | [d] => opt (sqD C d) fun xs => Q (.cel C.length) (C ++ [.lst xs])
  | _ => False
abbrev rListOf (K : PySem.W.Frag) : List V → Hp → VK → Prop := fun xs H Q => ∃ p ys, xs = [.ref p] ∧ (SqL K H p ys ∨ SqT K H p ys) ∧ ∀ l, H l = none → Q (.ref l) (upd H l (.lst ys))
theorem cd_list {K : PySem.W.Frag} : CallD K (rListOf K) oList := by
  intro h m C H ds vs Q0 Q R rs o k
  match ds, o with
  | [d], o =>
    obtain ⟨v, rfl, r⟩ := reps1 rs
    obtain ⟨xs, e, q⟩ := opt_iff.mp o
    obtain ⟨a, us, rfl, hq, ru⟩ := sq_ok R r e
    exact ⟨a, us, rfl, hq, fun l nl => k.lst R ru q nl⟩
  | [], o => exact o.elim
  | _ :: _ :: _, o => exact o.elim
theorem cd_listC {K : PySem.W.Frag} : CallD K (rListOf K) oListC := by
  intro h m C H ds vs Q0 Q R rs o k
  match ds, o with
  | [d], o =>
    obtain ⟨v, rfl, r⟩ := reps1 rs
    obtain ⟨xs, e, q⟩ := opt_iff.mp o
    obtain ⟨a, us, rfl, hq, ru⟩ := sq_ok R r e
    exact ⟨a, us, rfl, hq, fun l nl => k.cel R ru q nl⟩
  | [], o => exact o.elim
  | _ :: _ :: _, o => exact o.elim
def oAbs : OA := fun ds C Q => match ds with
  | [.int i] => Q (.int (if i < 0 then -i else i)) C
  | _ => False
theorem cd_abs {K : PySem.W.Frag} : CallD K (fun xs H Q => ∃ i, xs = [.int i] ∧ Q (.int (if i < 0 then -i else i)) H) oAbs := by
  intro h m C H ds vs Q0 Q R rs o k
  match ds, o with
  | [.int i], o =>
    obtain ⟨v, rfl, r⟩ := reps1 rs
    have e : v = .int i := r
    subst e
    exact ⟨i, rfl, k.int R o⟩
def oInt : OA := fun ds C Q => match ds with
  | [.int i] => Q (.int i) C
  | _ => False
theorem cd_int {K : PySem.W.Frag} : CallD K (fun xs H Q => (∃ i, xs = [.int i] ∧ Q (.int i) H) ∨ ∃ k, xs = [.bl k] ∧ Q (.int (if k then 1 else 0)) H) oInt := by
  intro h m C H ds vs Q0 Q R rs o k
  match ds, o with
  | [.int i], o =>
    obtain ⟨v, rfl, r⟩ := reps1 rs
    have e : v = .int i := r
    subst e
    exact .inl ⟨i, rfl, k.int R o⟩
def oStrI : OA := fun ds C Q => match ds with
  | [.int i] => i.natAbs.log2 < 1920 ∧ Q (.str (toString i)) C
  | _ => False
theorem cd_strI {K : PySem.W.Frag} : CallD K (fun xs H Q => ∃ i, xs = [.int i] ∧ i.natAbs.log2 < 1920 ∧ Q (.str (toString i)) H) oStrI := by
  intro h m C H ds vs Q0 Q R rs o k
  match ds, o with
  | [.int i], o =>
    obtain ⟨v, rfl, r⟩ := reps1 rs
    have e : v = .int i := r
    subst e
    exact ⟨i, rfl, o.1, k.str R o.2⟩
def oMax2 : OA := fun ds C Q => match ds with
  | [.int i, .int j] => Q (.int (if j > i then j else i)) C
  | _ => False
theorem cd_max2 {K : PySem.W.Frag} : CallD K (fun xs H Q => ∃ i j, xs = [.int i, .int j] ∧ Q (.int (if j > i then j else i)) H) oMax2 := by
  intro h m C H ds vs Q0 Q R rs o k
  match ds, o with
  | [.int i, .int j], o =>
    obtain ⟨v, u, rfl, r1, r2⟩ := reps2 rs
    have e1 : v = .int i := r1
    have e2 : u = .int j := r2
    subst e1 e2
    exact ⟨i, j, rfl, k.int R o⟩
def oMin2 : OA := fun ds C Q => match ds with
  | [.int i, .int j] => Q (.int (if j < i then j else i)) C
  | _ => False
theorem cd_min2 {K : PySem.W.Frag} : CallD K (fun xs H Q => ∃ i j, xs = [.int i, .int j] ∧ Q (.int (if j < i then j else i)) H) oMin2 := by
  intro h m C H ds vs Q0 Q R rs o k
  match ds, o with
  | [.int i, .int j], o =>
    obtain ⟨v, u, rfl, r1, r2⟩ := reps2 rs
    have e1 : v = .int i := r1
    have e2 : u = .int j := r2
    subst e1 e2
    exact ⟨i, j, rfl, k.int R o⟩
/-- lists of bools, of ints -/
def blsD : List D → Option (List Bool)
  | [] => some []
  | .bl b :: ds => (blsD ds).map (b :: ·)
  | _ => none
def intsD : List D → Option (List Int)
  | [] => some []
  | .int b :: ds => (intsD ds).map (b :: ·)
  | _ => none
theorem bls_rep {K : PySem.W.Frag} {m : List Addr} {H : Hp} : ∀ {ds : List D} {vs : List V} {bs : List Bool}, Reps K m H ds vs → blsD ds = some bs → vs = bs.map V.bl
  | [], _, _, r, e => by
    cases e
    exact r
  | d :: ds, _, bs, ⟨v, vr, z, r, q⟩, e => by
    subst z
    cases d <;> first | (cases e; done) | skip
    cases e2 : blsD ds with
    | none => simp [blsD, e2] at e
    | some cs =>
      simp [blsD, e2] at e
      subst e
      have e1 : v = .bl _ := r
      rw [e1, bls_rep q e2]
      rfl
theorem ints_rep {K : PySem.W.Frag} {m : List Addr} {H : Hp} : ∀ {ds : List D} {vs : List V} {bs : List Int}, Reps K m H ds vs → intsD ds = some bs → vs = bs.map V.int
  | [], _, _, r, e => by
    cases e
    exact r
  | d :: ds, _, bs, ⟨v, vr, z, r, q⟩, e => by
    subst z
    cases d <;> first | (cases e; done) | skip
    cases e2 : intsD ds with
    | none => simp [intsD, e2] at e
    | some cs =>
      simp [intsD, e2] at e
      subst e
      have e1 : v = .int _ := r
      rw [e1, ints_rep q e2]
      rfl
theorem blsD_map : ∀ bs : List Bool, blsD (bs.map D.bl) = some bs
  | [] => rfl
  | b :: bs => by rw [List.map_cons, blsD, blsD_map bs]; rfl
theorem intsD_map : ∀ bs : List Int, intsD (bs.map D.int) = some bs
  | [] => rfl
  | b :: bs => by rw [List.map_cons, intsD, intsD_map bs]; rfl
def oAll : OA := fun ds C Q => match ds with
  | [d] => opt (llD C d) fun xs => opt (blsD xs) fun bs => Q (.bl (bs.all id)) C
  | _ => False
def oAny : OA := fun ds C Q => match ds with
  | [d] => opt (llD C d) fun xs => opt (blsD xs) fun bs => Q (.bl (bs.any id)) C
  | _ => False
theorem cd_all {K : PySem.W.Frag} : CallD K (rAll K) oAll := by
  intro h m C H ds vs Q0 Q R rs o k
  match ds, o with
  | [d], o =>
    obtain ⟨v, rfl, r⟩ := reps1 rs
    obtain ⟨xs, e, o⟩ := opt_iff.mp o
    obtain ⟨bs, e2, q⟩ := opt_iff.mp o
    obtain ⟨a, us, rfl, hq, ru⟩ := ll_ok R r e
    rw [bls_rep ru e2] at hq
    exact ⟨a, bs, rfl, hq, k.bl R q⟩
  | [], o => exact o.elim
  | _ :: _ :: _, o => exact o.elim
theorem cd_any {K : PySem.W.Frag} : CallD K (rAny K) oAny := by
  intro h m C H ds vs Q0 Q R rs o k
  match ds, o with
  | [d], o =>
    obtain ⟨v, rfl, r⟩ := reps1 rs
    obtain ⟨xs, e, o⟩ := opt_iff.mp o
    obtain ⟨bs, e2, q⟩ := opt_iff.mp o
    obtain ⟨a, us, rfl, hq, ru⟩ := ll_ok R r e
    rw [bls_rep ru e2] at hq
    exact ⟨a, bs, rfl, hq, k.bl R q⟩
  | [], o => exact o.elim
  | _ :: _ :: _, o => exact o.elim
def oSum : OA := fun ds C Q => match ds with
  | [d] => opt (llD C d) fun xs => opt (intsD xs) fun ns => Q (.int ns.sum) C
  | _ => False
theorem cd_sum {K : PySem.W.Frag} : CallD K (rSum K) oSum := by
  intro h m C H ds vs Q0 Q R rs o k
  match ds, o with
  | [d], o =>
    obtain ⟨v, rfl, r⟩ := reps1 rs
    obtain ⟨xs, e, o⟩ := opt_iff.mp o
    obtain ⟨bs, e2, q⟩ := opt_iff.mp o
    obtain ⟨a, us, rfl, hq, ru⟩ := ll_ok R r e
    rw [ints_rep ru e2] at hq
    exact ⟨a, bs, rfl, hq, k.int R q⟩
  | [], o => exact o.elim
  | _ :: _ :: _, o => exact o.elim
def oMaxL : OA := fun ds C Q => match ds with
  | [d] => opt (llD C d) fun xs => opt (intsD xs) fun ns => 0 < ns.length ∧ ∀ m, m ∈ ns → (∀ y, y ∈ ns → y ≤ m) → Q (.int m) C
  | _ => False
theorem cd_maxL {K : PySem.W.Frag} : CallD K (rMax K) oMaxL := by
  intro h m C H ds vs Q0 Q R rs o k
  match ds, o with
  | [d], o =>
    obtain ⟨v, rfl, r⟩ := reps1 rs
    obtain ⟨xs, e, o⟩ := opt_iff.mp o
    obtain ⟨bs, e2, hl, q⟩ := opt_iff.mp o
    obtain ⟨a, us, rfl, hq, ru⟩ := ll_ok R r e
    rw [ints_rep ru e2] at hq
    exact ⟨a, bs, rfl, hq, hl, fun mm h1 h2 => k.int R (q mm h1 h2)⟩
  | [], o => exact o.elim
  | _ :: _ :: _, o => exact o.elim
/-- sorted(ints) -/
def oSorted : OA := fun ds C Q => match ds with
  | [d] => opt (llD C d) fun xs => opt (intsD xs) fun ns => ∀ ns' : List Int, ns'.Perm ns → ns'.Pairwise (· ≤ ·) → Q (.lst (ns'.map D.int)) C
  | _ => False
theorem cd_sorted {K : PySem.W.Frag} : CallD K (rSortedI K) oSorted := by
  intro h m C H ds vs Q0 Q R rs o k
  match ds, o with
  | [d], o =>
    obtain ⟨v, rfl, r⟩ := reps1 rs
    obtain ⟨xs, e, o⟩ := opt_iff.mp o
    obtain ⟨bs, e2, q⟩ := opt_iff.mp o
    obtain ⟨a, us, rfl, hq, ru⟩ := ll_ok R r e
    rw [ints_rep ru e2] at hq
    exact ⟨a, bs, rfl, hq, fun ns' p h1 h2 np => k.lst R Reps.ints (q ns' h1 h2) np⟩
  | [], o => exact o.elim
  | _ :: _ :: _, o => exact o.elim

/-! ### the built-in functions by name -/
section
variable {X : Cx} {B : BS} {e : Expr} {es : List Expr} {t : RA} {p pos : Pos}
theorem d_len (hm : X.mg "len" = none) (ha : DA X B [e] t) (hg : Gl X "len" := by rfl) (he : starEach (e :: []) X.env = (false, eval e X.env) :: starEach [] X.env := by rfl) : DE X B (.Call (.Name "len" p) [e] [] pos) (dCB oLen t) :=
  d_cb call_len cd_len hg hm PySem.boot_len ha (by decide) (by decide) he rfl
theorem d_tuple (hm : X.mg "tuple" = none) (ha : DA X B [e] t) (hg : Gl X "tuple" := by rfl) (he : starEach (e :: []) X.env = (false, eval e X.env) :: starEach [] X.env := by rfl) : DE X B (.Call (.Name "tuple" p) [e] [] pos) (dCB oTuple t) :=
  d_ct call_tupleF cd_tuple hg hm boot_tuple ha (by decide) (by decide) he rfl
theorem d_list (hm : X.mg "list" = none) (ha : DA X B [e] t) (hg : Gl X "list" := by rfl) (he : starEach (e :: []) X.env = (false, eval e X.env) :: starEach [] X.env := by rfl) : DE X B (.Call (.Name "list" p) [e] [] pos) (dCB oList t) :=
  d_ct call_list_of cd_list hg hm (by decide +kernel) ha (by decide) (by decide) he rfl
theorem d_listC (hm : X.mg "list" = none) (ha : DA X B [e] t) (hg : Gl X "list" := by rfl) (he : starEach (e :: []) X.env = (false, eval e X.env) :: starEach [] X.env := by rfl) : DE X B (.Call (.Name "list" p) [e] [] pos) (dCB oListC t) :=
  d_ct call_list_of cd_listC hg hm (by decide +kernel) ha (by decide) (by decide) he rfl
theorem d_abs (hm : X.mg "abs" = none) (ha : DA X B [e] t) (hg : Gl X "abs" := by rfl) (he : starEach (e :: []) X.env = (false, eval e X.env) :: starEach [] X.env := by rfl) : DE X B (.Call (.Name "abs" p) [e] [] pos) (dCB oAbs t) :=
  d_cb call_abs cd_abs hg hm (by decide +kernel) ha (by decide) (by decide) he rfl
theorem d_intC (hm : X.mg "int" = none) (ha : DA X B [e] t) (hg : Gl X "int" := by rfl) (he : starEach (e :: []) X.env = (false, eval e X.env) :: starEach [] X.env := by rfl) : DE X B (.Call (.Name "int" p) [e] [] pos) (dCB oInt t) :=
  d_ct call_int1 cd_int hg hm (by decide +kernel) ha (by decide) (by decide) he rfl
theorem d_strI (hm : X.mg "str" = none) (ha : DA X B [e] t) (hg : Gl X "str" := by rfl) (he : starEach (e :: []) X.env = (false, eval e X.env) :: starEach [] X.env := by rfl) : DE X B (.Call (.Name "str" p) [e] [] pos) (dCB oStrI t) :=
  d_ct call_str_int cd_strI hg hm (by decide +kernel) ha (by decide) (by decide) he rfl
theorem d_max2 {e2 : Expr} (hc : X.calm = true) (hm : X.mg "max" = none) (ha : DA X B [e, e2] t) (hg : Gl X "max" := by rfl) (he : starEach (e :: [e2]) X.env = (false, eval e X.env) :: starEach [e2] X.env := by rfl) (hpl : (backTo pos (starEach [e2] X.env)).any (·.1) = false := by rfl) : DE X B (.Call (.Name "max" p) [e, e2] [] pos) (dCB oMax2 t) :=
  d_cb (call_max2 hc) cd_max2 hg hm (by decide +kernel) ha (by decide) (by decide) he hpl
theorem d_min2 {e2 : Expr} (hc : X.calm = true) (hm : X.mg "min" = none) (ha : DA X B [e, e2] t) (hg : Gl X "min" := by rfl) (he : starEach (e :: [e2]) X.env = (false, eval e X.env) :: starEach [e2] X.env := by rfl) (hpl : (backTo pos (starEach [e2] X.env)).any (·.1) = false := by rfl) : DE X B (.Call (.Name "min" p) [e, e2] [] pos) (dCB oMin2 t) :=
  d_cb (call_min2 hc) cd_min2 hg hm (by decide +kernel) ha (by decide) (by decide) he hpl
theorem d_all (hc : X.calm = true) (hm : X.mg "all" = none) (ha : DA X B [e] t) (hg : Gl X "all" := by rfl) (he : starEach (e :: []) X.env = (false, eval e X.env) :: starEach [] X.env := by rfl) : DE X B (.Call (.Name "all" p) [e] [] pos) (dCB oAll t) :=
  d_cb (cr_all hc) cd_all hg hm (by decide +kernel) ha (by decide) (by decide) he rfl
theorem d_any (hc : X.calm = true) (hm : X.mg "any" = none) (ha : DA X B [e] t) (hg : Gl X "any" := by rfl) (he : starEach (e :: []) X.env = (false, eval e X.env) :: starEach [] X.env := by rfl) : DE X B (.Call (.Name "any" p) [e] [] pos) (dCB oAny t) :=
  d_cb (cr_any hc) cd_any hg hm (by decide +kernel) ha (by decide) (by decide) he rfl
theorem d_sum (hc : X.calm = true) (hm : X.mg "sum" = none) (ha : DA X B [e] t) (hg : Gl X "sum" := by rfl) (he : starEach (e :: []) X.env = (false, eval e X.env) :: starEach [] X.env := by rfl) : DE X B (.Call (.Name "sum" p) [e] [] pos) (dCB oSum t) :=
  d_cb (cr_sum hc) cd_sum hg hm (by decide +kernel) ha (by decide) (by decide) he rfl
theorem d_maxL (hc : X.calm = true) (hm : X.mg "max" = none) (ha : DA X B [e] t) (hg : Gl X "max" := by rfl) (he : starEach (e :: []) X.env = (false, eval e X.env) :: starEach [] X.env := by rfl) : DE X B (.Call (.Name "max" p) [e] [] pos) (dCB oMaxL t) :=
  d_cb (cr_max hc) cd_maxL hg hm (by decide +kernel) ha (by decide) (by decide) he rfl
theorem d_sorted (hm : X.mg "sorted" = none) (ha : DA X B [e] t) (hg : Gl X "sorted" := by rfl) (he : starEach (e :: []) X.env = (false, eval e X.env) :: starEach [] X.env := by rfl) : DE X B (.Call (.Name "sorted" p) [e] [] pos) (dCB oSorted t) :=
  d_cb cr_sortedI cd_sorted hg hm (by decide +kernel) ha (by decide) (by decide) he rfl
end

/-! ### isinstance against built-in classes -/
def tyOf : D → Option String
  | .non => some "NoneType"
  | .bl _ => some "bool"
  | .int _ => some "int"
  | .str _ => some "str"
  | .tup _ => some "tuple"
  | .lst _ => some "list"
  | .scr _ => some "list"
  | .cel _ => some "list"
  | .obj _ => none
def isTy (T : String) (d : D) : Option Bool := (tyOf d).bind fun t => kitB t T
theorem tyx_of {K : PySem.W.Frag} {h m : List Addr} {C : Cs} {H : Hp} {d : D} {v : V} {t : String} (R : Rl K h m C H) (r : Rep K m (hz h m H) d v) (e : tyOf d = some t) : TyX K H v (.type t) := by
  cases d <;> cases e
  · have z : v = _ := r
    subst z
    exact .base .non
  · have z : v = _ := r
    subst z
    exact .base (.bl _)
  · have z : v = _ := r
    subst z
    exact .base (.int _)
  · have z : v = _ := r
    subst z
    exact .base (.str _)
  · obtain ⟨a, vs, o, rfl, e, hd, _⟩ := r
    exact .fTuple (hz_sub e)
  · obtain ⟨a, vs, rfl, e, _⟩ := r
    exact .base (.lst (hz_sub e))
  · obtain ⟨a, vs, rfl, e, _⟩ := r
    rcases e with (e | ⟨o, e⟩) | ⟨o, its, n, e1, e2, _⟩
    · exact .base (.lst (hz_sub e))
    · exact .base (.frz (hz_sub e))
    · exact .kList e1 e2
  · rename_i n
    obtain ⟨a, rfl, e⟩ := r
    have hl : n < m.length := (List.getElem?_eq_some_iff.mp e).1
    rw [R.len] at hl
    obtain ⟨b, hb, k⟩ := R.cell _ _ (List.getElem?_eq_getElem hl)
    rw [e] at hb
    cases hb
    cases hc : C[n] with
    | lst ds =>
      rw [hc] at k
      obtain ⟨vs, q, _⟩ := k
      exact .base (.lst q)
/-- isinstance(e, T) -/
def dIsi (T : String) (te : RE) : RE := fun r C Q => te r C fun d C1 => opt (isTy T d) fun b => Q (.bl b) C1
section
variable {X : Cx} {B : BS} {e : Expr} {te : RE} {x y : Str} {p p2 pos : Pos} {T : String}
theorem d_isi (hm : X.mg "isinstance" = none) (he : DE X B e te) (hmT : X.mg y = none) (hvT : bootBuiltins y = some (.type T)) (hgT : Gl X y := by rfl) (hg : Gl X "isinstance" := by rfl) (hn : y ≠ "__name__" := by decide) (hdb : (y == ("__debug__" : Str)) = false := by decide)
    (hs : starEach [e, .Name y p2] X.env = (false, eval e X.env) :: starEach [.Name y p2] X.env := by rfl) (hs2 : starEach [.Name y p2] X.env = (false, eval (.Name y p2) X.env) :: starEach [] X.env := by rfl) (hpl : (backTo pos (starEach [.Name y p2] X.env)).any (·.1) = false := by rfl) :
    DE X B (.Call (.Name "isinstance" p) [e, .Name y p2] [] pos) (dIsi T te) := by
  have hT : PE X (.Name y p2) (tC (.ty T)) := pe_bltn hgT hmT hvT (show L2.RelV (.ty T) (.type T) from rfl) hn hdb
  refine ⟨pe_imp (pe_callB call_isi hg hm (by decide +kernel) (pa_cons he.run (pa_cons hT pa_nil hs2) hs) (by decide) (by decide) hs hpl) fun σ H Q ⟨h, m, C, r, Q0, S, t, k⟩ => ?_⟩
  refine ⟨h, m, C, r, _, S, t, fun d C1 m1 H1 v1 q1 x1 R1 r1 => ?_⟩
  obtain ⟨b, e1, q⟩ := opt_iff.mp q1
  unfold isTy at e1
  cases et : tyOf d with
  | none => rw [et] at e1; cases e1
  | some t =>
    rw [et] at e1
    exact ⟨v1, .ty T, .type t, .type T, b, rfl, .ty T, tyx_of R1 r1 et, kit_ty e1, Con.bl (Con.ext k x1) R1 q⟩
/-- isinstance(e, (S, T)) -/
def dIsi2 (S T : String) (te : RE) : RE := fun r C Q => te r C fun d C1 => opt (isTy S d) fun b => opt (isTy T d) fun c => Q (.bl (b || c)) C1
theorem d_isi2 {y2 : Str} {p3 p4 : Pos} {k2 : Nat} {S : String} (hm : X.mg "isinstance" = none) (he : DE X B e te) (hmT : X.mg y = none) (hvT : bootBuiltins y = some (.type S)) (hmT2 : X.mg y2 = none) (hvT2 : bootBuiltins y2 = some (.type T)) (hgT : Gl X y := by rfl) (hgT2 : Gl X y2 := by rfl) (hg : Gl X "isinstance" := by rfl)
    (hn : y ≠ "__name__" := by decide) (hdb : (y == ("__debug__" : Str)) = false := by decide) (hn2 : y2 ≠ "__name__" := by decide) (hdb2 : (y2 == ("__debug__" : Str)) = false := by decide)
    (hs : starEach [e, .Tuple [.Name y p2, .Name y2 p3] k2 p4] X.env = (false, eval e X.env) :: starEach [.Tuple [.Name y p2, .Name y2 p3] k2 p4] X.env := by rfl)
    (hs2 : starEach [.Tuple [.Name y p2, .Name y2 p3] k2 p4] X.env = (false, eval (.Tuple [.Name y p2, .Name y2 p3] k2 p4) X.env) :: starEach [] X.env := by rfl) (hpl : (backTo pos (starEach [.Tuple [.Name y p2, .Name y2 p3] k2 p4] X.env)).any (·.1) = false := by rfl)
    (hs3 : starEach [.Name y p2, .Name y2 p3] X.env = (false, eval (.Name y p2) X.env) :: starEach [.Name y2 p3] X.env := by rfl) (hs4 : starEach [.Name y2 p3] X.env = (false, eval (.Name y2 p3) X.env) :: starEach [] X.env := by rfl) :
    DE X B (.Call (.Name "isinstance" p) [e, .Tuple [.Name y p2, .Name y2 p3] k2 p4] [] pos) (dIsi2 S T te) := by
  have h1 : PE X (.Name y p2) (tC (.ty S)) := pe_bltn hgT hmT hvT (show L2.RelV (.ty S) (.type S) from rfl) hn hdb
  have h2 : PE X (.Name y2 p3) (tC (.ty T)) := pe_bltn hgT2 hmT2 hvT2 (show L2.RelV (.ty T) (.type T) from rfl) hn2 hdb2
  refine ⟨pe_imp (pe_callB call_isiT hg hm (by decide +kernel) (pa_cons he.run (pa_cons (pe_tup (pa_cons h1 (pa_cons h2 pa_nil hs4) hs3)) pa_nil hs2) hs) (by decide) (by decide) hs hpl) fun σ H Q ⟨h, m, C, r, Q0, Sx, t, k⟩ => ?_⟩
  refine ⟨h, m, C, r, _, Sx, t, fun d C1 m1 H1 v1 q1 x1 R1 r1 => ⟨by show 2 ≤ sizeLine; decide, fun tp np => ?_⟩⟩
  obtain ⟨b, e1, q1⟩ := opt_iff.mp q1
  obtain ⟨c, e2, q⟩ := opt_iff.mp q1
  unfold isTy at e1 e2
  cases et : tyOf d with
  | none => rw [et] at e1; cases e1
  | some t =>
    rw [et] at e1 e2
    obtain ⟨x2, R2, _⟩ := R1.newF (o := .tup [.ty S, .ty T]) np
    refine ⟨v1, tp, [.ty S, .ty T], .type t, [.type S, .type T], b || c, rfl, upd_same, .cons (.ty S) (.cons (.ty T) .nil), tyx_of R2 (x2.rep r1) et, ?_, Con.bl (Con.ext k (x1.trans x2)) R2 q⟩
    refine kitAny_cons (kit_ty e1) (fun hb => ?_) (fun hb => by rw [hb]; rfl)
    refine kitAny_cons (kit_ty e2) (fun hc => ?_) (fun hc => by rw [hc]; simp)
    rw [hb, hc]
    exact kitAny_nil
end
end DL
/-! DLI: what is walked: lists and tuples, enumerate, zip, range; each told by its items. -/
namespace DL
open PySem PySem.Spec PyProof.Rows L2

/-! ### a source: a list (true) or a tuple (false) -/
def SrcAt (K : PySem.W.Frag) (k : Bool) (H : Hp) (a : Addr) (xs : List V) : Prop := if k = true then SqL K H a xs else SqT K H a xs
def ItAt (k : Bool) (h : Heap) (it a : Addr) (i : Nat) : Prop := if k = true then h.IsListIter it a i else h.IsTupleIter it a i
def Ct (k : Bool) (h : Heap) (a : Addr) (its : Array Value) : Prop := if k = true then h.IsList a its else h.IsTuple a its
section
variable {X : Cx} {pins : List (Addr × Obj)} {σ : L2.St} {H : Hp} {s : Shared} {k : Bool} {a it : Addr} {xs ys : List V}
theorem Inv.src (I : Inv X pins σ H s) (h : SrcAt X.K k H a xs) : ∃ its : List Value, Vals xs its ∧ Ct k s.heap a its.toArray ∧ xs.length ≤ sizeLine ∧ a < s.heap.objs.size := by
  cases k with
  | true =>
    obtain ⟨its, r, p, z⟩ := I.list h
    exact ⟨its, r, p.isList, z, p.lt⟩
  | false =>
    obtain ⟨its, r, p, z⟩ := I.tuple h
    obtain ⟨o, ho, _⟩ := id p
    exact ⟨its, r, p, z, Heap.lt_size ho⟩
theorem Inv.src_inj (I : Inv X pins σ H s) (h : SrcAt X.K k H a xs) (h' : SrcAt X.K k H a ys) : xs = ys := by
  cases k with
  | true => exact I.list_inj h h'
  | false => exact I.tuple_inj h h'
theorem draws_of {P : Program} {w : World} {A : Around} (hh : A.handled = none) (hne : a ≠ it) (its : Array Value) : Draws P w A it [it, a] its.size (fun i v => its[i]? = some v) (fun i h => ItAt k h it a i ∧ Ct k h a its) := by
  cases k with
  | true => exact Draws.list hh it a hne its
  | false => exact Draws.tuple hh it a hne its
theorem ItAt.at {h h' : Heap} {i : Nat} (x : ItAt k h it a i) (f : ∀ o, h.get? it = some o → h'.get? it = some o) : ItAt k h' it a i := by
  cases k with
  | true => exact Heap.IsListIter.at x f
  | false => exact Heap.IsTupleIter.at x f
theorem ItAt.ob {h : Heap} {i : Nat} (x : ItAt k h it a i) : ∃ o, h.get? it = some o ∧ ∀ v, o.data ≠ .cell v := by
  cases k with
  | true =>
    obtain ⟨o, e, _, d⟩ := x
    exact ⟨o, e, fun v z => by rw [d] at z; cases z⟩
  | false =>
    obtain ⟨o, e, _, d⟩ := x
    exact ⟨o, e, fun v z => by rw [d] at z; cases z⟩
end
theorem enum_endT {prog : Program} {w : World} {A : Around} {E : Value → Shared → Prop} {s : Shared} {e it l : Addr} {i : Nat} {items : Array Value} {old : Value} {Q : Option Value → Shared → Prop} (hh : A.handled = none)
    (he : IsEnum s.heap e it i old) (hit : s.heap.IsTupleIter it l i) (hl : s.heap.IsTuple l items) (hx : items[i]? = none)
    (hQ : ∀ h', Heap.ExtBut it s.heap h' → Q none { s with heap := h' }) : wpAny (model prog w) A (pyNext (.ref e)) Q E s := by
  have hT : s.TypeIs (.ref e) "enumerate" := ⟨_, he, rfl⟩
  unfold pyNext
  refine wpAny_bind (wpAny_attempt (wpAny_callSpecial?_slot (name := Str.ofString "__next__") hT F.slot_enumerate_next
    (wpAny_call_entry F.slot_enumerate_next hT F.entry_enumerate_next ?_ (F.args_enumerate_next_1 _))))
  show wpAny _ _ (field (.ref e) 2 >>= _) _ _ _
  refine wpAny_bind (wpAny_field he rfl (x := .ref it) rfl ?_)
  refine wpAny_bind (wpAny_nextOf_tuple_end hh hit hl hx fun h' x he' hx' => ?_)
  obtain ⟨o, ho, hc⟩ := hx'
  refine wpAny_bind (wpAny_isInstance (T := "StopIteration") (b := true) ⟨o, ho, hc⟩ isSubtype_stop ?_)
  exact wpAny_pure (hQ _ he')
/-! ### enumerate -/
def IteG (K : PySem.W.Frag) (k : Bool) (a : Addr) : It :=
  ⟨fun i H => ∃ (xs : List V) (x : V), SrcAt K k H a xs ∧ xs[i]? = some x,
   fun i H v H' => ∃ T o x, v = .ref T ∧ H T = none ∧ o.dict = none ∧ H' = upd H T (.frz o (.tup [.int (i : Nat), x])) ∧ ∀ xs, SrcAt K k H a xs → xs[i]? = some x,
   fun i H => ∃ xs : List V, SrcAt K k H a xs ∧ xs.length ≤ i⟩
theorem turn_enumG {P : Program} {w : World} {K : PySem.W.Frag} {elts : List Expr} {kk : Nat} {tpos : Pos} (k : Bool) (a e it : Addr) (hne : e ≠ it) (ha : a ≠ it) (hea : e ≠ a) :
    Turn P w K (.Tuple elts kk tpos) (IteG K k a) [e, it] e (fun i h => (∃ old, IsEnum h e it ((i : Nat) : Int) old) ∧ ItAt k h it a i) where
  mem := by simp
  obj := fun i h st b hb => by
    obtain ⟨⟨old, he⟩, hi⟩ := st
    have e' : b = e ∨ b = it := by simpa using hb
    rcases e' with z | z
    · rw [z]; exact ⟨_, he, fun v q => nomatch q⟩
    · rw [z]; exact hi.ob
  keep := fun i h h' st kp => let ⟨⟨old, he⟩, hi⟩ := st; ⟨⟨old, kp e (by simp) _ he⟩, hi.at fun o q => kp it (by simp) o q⟩
  item := by
    intro X hP hw hK hc i pins s σ H E I hf st hg
    subst hP hw hK
    obtain ⟨⟨old, he⟩, hit⟩ := st
    obtain ⟨xs, x, hq, hx⟩ := hg
    obtain ⟨its, rv, ct, hz, hal⟩ := Inv.src I hq
    obtain ⟨u, hu, ru⟩ := rv.get hx
    have hel : e < s.heap.objs.size := Heap.lt_size he
    have hil : it < s.heap.objs.size := by obtain ⟨o, q, _⟩ := hit.ob; exact Heap.lt_size q
    have D := draws_of (P := X.prog) (w := X.w) (A := X.A.in1) (k := k) (a := a) (it := it) (I.ok.hd hc) ha its.toArray
    have hlt : i < its.toArray.size := by simpa using (List.getElem?_eq_some_iff.mp hu).1
    refine wpAny_pyNext_enum_itemC D he ⟨hit, ct⟩ hlt hne (by simp [hne, hea]) fun x' h' tk hP ho hst' hT hsz hk => ?_
    have ex : x' = u := by
      have hP' : its[i]? = some x' := by simpa using hP
      rw [hu] at hP'
      exact (Option.some.inj hP').symm
    subst ex
    refine ⟨_, rfl, wpAny_letOwnedTupleGo_enum (s := { s with heap := h', toks := tk + 1 }) ho fun h'' he' sb => ?_⟩
    have hT2 : h''.get? s.heap.objs.size = some { cls := .type "tuple", data := .seq #[.int i tk, x'] } := (sb.2 _ (Nat.ne_of_gt hel)).trans hT
    have new : ObjOk X.prog X.w (upd H s.heap.objs.size (.frz { cls := .type "tuple", data := .seq #[.int i tk, x'] } (.tup [.int (i : Nat), x]))) h'' s.heap.objs.size (.frz { cls := .type "tuple", data := .seq #[.int i tk, x'] } (.tup [.int (i : Nat), x])) :=
      ⟨hT2, by show 2 ≤ sizeLine; decide, [.int i tk, x'], .cons ⟨_, rfl⟩ (.cons ru .nil), ⟨_, hT2, rfl, _, rfl⟩⟩
    have I1 := I.turnedNew (t' := tk + 1) (ch := [e, it]) (fun b ob hb q => (sb.2 b (fun z => hb (by simp [z]))).trans (hk b ob (fun z => hb (by simp [z])) (fun z => hb (by simp [z])) q)) hf (Nat.le_refl _) new
    refine ⟨.ref s.heap.objs.size, _, I1, rfl, ⟨_, _, x, rfl, I.hok.fresh (Nat.le_refl _), rfl, rfl, fun ys hy => by rw [Inv.src_inj I hy hq]; exact hx⟩, ⟨⟨x', ?_⟩, hst'.1.at fun o q => (sb.2 it (Ne.symm hne)).trans q⟩, fun b hb => ?_⟩
    · have e1 : ((i + 1 : Nat) : Int) = (i : Int) + 1 := by omega
      rw [e1]; exact he'
    · have hb' : b < s.heap.objs.size := by
        have e' : b = e ∨ b = it := by simpa using hb
        rcases e' with z | z
        · rw [z]; exact hel
        · rw [z]; exact hil
      rw [upd_ne (Nat.ne_of_lt hb')]
      exact (hf b hb).1
  done := by
    intro X hP hw hK hc i pins s σ H E I hf st hg
    subst hP hw hK
    obtain ⟨⟨old, he⟩, hit⟩ := st
    obtain ⟨xs, hq, hx⟩ := hg
    obtain ⟨its, rv, ct, hz, hal⟩ := Inv.src I hq
    obtain ⟨f0, f1, f2, f3, f4, f5⟩ := hf it (by simp)
    have hl := rv.length
    cases k with
    | true => exact wpAny_pyNext_enum_end (I.ok.hd hc) he hit ct (by simp; omega) fun h' eb => ⟨rfl, I.turned (t' := s.toks) (fun b o hb q => eb b o hb q) f0 f1 f3 f4 f5⟩
    | false => exact enum_endT (I.ok.hd hc) he hit ct (by simp; omega) fun h' eb => ⟨rfl, I.turned (t' := s.toks) (fun b o hb q => eb b o hb q) f0 f1 f3 f4 f5⟩
  self := fun A i s Q E st h => let ⟨⟨_, he⟩, _⟩ := st; wpAny_pyIter_enum he h
set_option maxHeartbeats 1000000 in
theorem meets_enumerate_new1 {v : Value} {o : Obj} {H : Heap → Prop} (B : Begins v o H) :
    Meets (Builtin.«enumerate.__new__» ⟨[.type "enumerate", v], []⟩) (fun _ R s => H s.heap ∧
      R (.ok (.ret (.ref (s.heap.push o).objs.size))) { s with heap := (s.heap.push o).push { cls := .type "enumerate", data := .fields #[.none, .bool false, .ref s.heap.objs.size, rawInt 0, .none, .none] } }) :=
  .of_wp fun prog w A R s h => by
    obtain ⟨hp, g, d, tk, os⟩ := s; obtain ⟨h1, h⟩ := h
    have hsub := sub_enumerate
    have q1 : ∀ {A' : Around} {E : Value → Shared → Prop} {Q : Value → Shared → Prop}, Q (.ref hp.objs.size) ⟨hp.push o, g, d, tk, os⟩ → wpAny (model prog w) A' (pyIter v) Q E ⟨hp, g, d, tk, os⟩ :=
      fun q => B.iter prog w _ _ ⟨hp, g, d, tk, os⟩ _ h1 q
    wp_walk using q1
    refine wpAny_stack_any fun st => wpAny_pure ?_
    split
    · rename_i c _ _ _ _ _
      cases (c == Value.type "enumerate")
      · wp_walk using q1
        exact ⟨_, rfl, h⟩
      · wp_walk using q1
        exact ⟨_, rfl, h⟩
    · wp_walk using q1
      exact ⟨_, rfl, h⟩
theorem call_enumerate1 {prog : Program} {w : World} {A : Around} {E : Value → Shared → Prop} {s : Shared} {v : Value} {o : Obj} {H : Heap → Prop} {Q : Value → Shared → Prop} (B : Begins v o H) (h1 : H s.heap)
    (h : ∀ h', IsEnum h' (s.heap.objs.size + 1) s.heap.objs.size 0 .none → h'.get? s.heap.objs.size = some o → h'.objs.size = s.heap.objs.size + 2 →
      (∀ b o, s.heap.get? b = some o → h'.get? b = some o) → Q (.ref (s.heap.objs.size + 1)) { s with heap := h' }) :
    wpAny (model prog w) A (call (.type "enumerate") [v]) Q E s := by
  refine callType_new F.called_enumerate (by decide) (F.typeCall_enumerate_1 _) (F.newCall_enumerate_1 _) (fun obj => F.args_object_init_2 obj _) F.entry_enumerate_new
    (meets_enumerate_new1 B) ⟨h1, ?_⟩
  have hz : (s.heap.push o).objs.size = s.heap.objs.size + 1 := Heap.size_push ..
  show _ ∧ _
  rw [hz]
  have he : IsEnum ((s.heap.push o).push { cls := .type "enumerate", data := .fields #[.none, .bool false, .ref s.heap.objs.size, rawInt 0, .none, .none] }) (s.heap.objs.size + 1) s.heap.objs.size 0 .none := by
    have := Heap.get?_push_size (s.heap.push o) (o := { cls := .type "enumerate", data := .fields #[.none, .bool false, .ref s.heap.objs.size, rawInt 0, .none, .none] }) rfl
    rw [hz] at this; exact this
  refine ⟨⟨_, he, rfl⟩, h _ he (Heap.get?_push_of_some _ (Heap.get?_push_size _ B.free)) (by rw [Heap.size_push, hz]) fun b o x => Heap.get?_push_of_some _ (Heap.get?_push_of_some _ x)⟩
/-! ### zip -/
def ItzG (K : PySem.W.Frag) (k1 k2 : Bool) (a b : Addr) : It :=
  ⟨fun i H => ∃ (xs ys : List V) (x y : V), SrcAt K k1 H a xs ∧ SrcAt K k2 H b ys ∧ xs[i]? = some x ∧ ys[i]? = some y,
   fun i H v H' => ∃ T o x y, v = .ref T ∧ H T = none ∧ o.dict = none ∧ H' = upd H T (.frz o (.tup [x, y])) ∧ (∀ xs, SrcAt K k1 H a xs → xs[i]? = some x) ∧ ∀ ys, SrcAt K k2 H b ys → ys[i]? = some y,
   fun i H => ∃ xs ys : List V, SrcAt K k1 H a xs ∧ SrcAt K k2 H b ys ∧ i = min xs.length ys.length⟩
theorem turn_zipG {P : Program} {w : World} {K : PySem.W.Frag} {elts : List Expr} {kk : Nat} {tpos : Pos} (k1 k2 : Bool) {a b z TI TO i1 i2 : Addr} (S : ZipSep2 z TI TO i1 i2 [i1, a] [i2, b]) (na : a ≠ i1) (nb : b ≠ i2) :
    Turn P w K (.Tuple elts kk tpos) (ItzG K k1 k2 a b) [z, TI, TO, i1, i2] z (fun i h => IsZip h z TI TO .none ∧ IsTupOf2 h TI (.ref i1) (.ref i2) ∧ (∃ x y, IsTupOf2 h TO x y) ∧ ItAt k1 h i1 a i ∧ ItAt k2 h i2 b i) where
  mem := by simp
  obj := fun i h st c hc => by
    obtain ⟨hz, hTI, ⟨x, y, hTO⟩, h1, h2⟩ := st
    have e' : c = z ∨ c = TI ∨ c = TO ∨ c = i1 ∨ c = i2 := by simpa using hc
    rcases e' with q | q | q | q | q
    · rw [q]; exact ⟨_, hz, fun v q => nomatch q⟩
    · rw [q]; exact ⟨_, hTI, fun v q => nomatch q⟩
    · rw [q]; exact ⟨_, hTO, fun v q => nomatch q⟩
    · rw [q]; exact h1.ob
    · rw [q]; exact h2.ob
  keep := fun i h h' st kp => by
    obtain ⟨hz, hTI, ⟨x, y, hTO⟩, h1, h2⟩ := st
    exact ⟨kp z (by simp) _ hz, kp TI (by simp) _ hTI, ⟨x, y, kp TO (by simp) _ hTO⟩, h1.at fun o q => kp i1 (by simp) o q, h2.at fun o q => kp i2 (by simp) o q⟩
  item := by
    intro X hP hw hK hc i pins s σ H E I hf st hg
    subst hP hw hK
    obtain ⟨hz, hTI, ⟨x0, y0, hTO⟩, h1, h2⟩ := st
    obtain ⟨xs, ys, x, y, hqx, hqy, hx, hy⟩ := hg
    obtain ⟨its, rv, c1, _, _⟩ := Inv.src I hqx
    obtain ⟨its2, rv2, c2, _, _⟩ := Inv.src I hqy
    obtain ⟨u, hu, ru⟩ := rv.get hx
    obtain ⟨u2, hu2, ru2⟩ := rv2.get hy
    have hzl : z < s.heap.objs.size := Heap.lt_size hz
    have D1 := draws_of (P := X.prog) (w := X.w) (A := X.A.in1) (k := k1) (a := a) (it := i1) (I.ok.hd hc) na its.toArray
    have D2 := draws_of (P := X.prog) (w := X.w) (A := X.A.in1) (k := k2) (a := b) (it := i2) (I.ok.hd hc) nb its2.toArray
    have l1 : i < its.toArray.size := by simpa using (List.getElem?_eq_some_iff.mp hu).1
    have l2 : i < its2.toArray.size := by simpa using (List.getElem?_eq_some_iff.mp hu2).1
    have dz1 : i1 ≠ z := fun e => S.zf1 (by simp [e])
    have dz2 : i2 ≠ z := fun e => S.zf2 (by simp [e])
    refine wpAny_pyNext_zipD2_item S D1 D2 hz hTI hTO ⟨h1, c1⟩ ⟨h2, c2⟩ l1 l2 fun x1 x2 h' tk p1 p2 z' TO' h1' h2' hT hsz hk => ?_
    have e1 : x1 = u := by
      have p : its[i]? = some x1 := by simpa using p1
      rw [hu] at p
      exact (Option.some.inj p).symm
    have e2 : x2 = u2 := by
      have p : its2[i]? = some x2 := by simpa using p2
      rw [hu2] at p
      exact (Option.some.inj p).symm
    subst e1 e2
    refine ⟨_, rfl, wpAny_letOwnedTupleGo_zip (s := { s with heap := h', toks := tk }) z' fun h'' z'' sb => ?_⟩
    have hT2 : h''.get? s.heap.objs.size = some { cls := .type "tuple", data := .seq #[x1, x2] } := (sb.2 _ (Nat.ne_of_gt hzl)).trans hT
    have new : ObjOk X.prog X.w (upd H s.heap.objs.size (.frz { cls := .type "tuple", data := .seq #[x1, x2] } (.tup [x, y]))) h'' s.heap.objs.size (.frz { cls := .type "tuple", data := .seq #[x1, x2] } (.tup [x, y])) :=
      ⟨hT2, by show 2 ≤ sizeLine; decide, [x1, x2], .cons ru (.cons ru2 .nil), ⟨_, hT2, rfl, _, rfl⟩⟩
    have I1 := I.turnedNew (t' := tk) (ch := [z, TI, TO, i1, i2]) (fun c o hb q => (sb.2 c (fun q' => hb (by simp [q']))).trans (hk c o (fun q' => hb (by simp [q'])) (fun q' => hb (by simp [q'])) (fun q' => hb (by simp [q'])) (fun q' => hb (by simp [q'])) q)) hf (Nat.le_refl _) new
    refine ⟨.ref s.heap.objs.size, _, I1, rfl, ⟨_, _, x, y, rfl, I.hok.fresh (Nat.le_refl _), rfl, rfl, fun l hl => by rw [Inv.src_inj I hl hqx]; exact hx, fun l hl => by rw [Inv.src_inj I hl hqy]; exact hy⟩, ⟨z'', ?_, ⟨x1, x2, ?_⟩, ?_, ?_⟩, fun c hcm => ?_⟩
    · exact (sb.2 _ S.TIz).trans (hk _ _ S.TIz S.TITO S.TIi1 S.TIi2 hTI)
    · exact (sb.2 _ S.TOz).trans TO'
    · exact h1'.1.at fun o q => (sb.2 _ dz1).trans q
    · exact h2'.1.at fun o q => (sb.2 _ dz2).trans q
    · have hlt : c < s.heap.objs.size := by
        have e' : c = z ∨ c = TI ∨ c = TO ∨ c = i1 ∨ c = i2 := by simpa using hcm
        rcases e' with q | q | q | q | q
        · rw [q]; exact hzl
        · rw [q]; exact Heap.lt_size hTI
        · rw [q]; exact Heap.lt_size hTO
        · rw [q]; obtain ⟨_, e1, _⟩ := h1.ob; exact Heap.lt_size e1
        · rw [q]; obtain ⟨_, e2, _⟩ := h2.ob; exact Heap.lt_size e2
      rw [upd_ne (Nat.ne_of_lt hlt)]
      exact (hf c hcm).1
  done := by
    intro X hP hw hK hc i pins s σ H E I hf st hg
    subst hP hw hK
    obtain ⟨hz, hTI, ⟨x0, y0, hTO⟩, h1, h2⟩ := st
    obtain ⟨xs, ys, hqx, hqy, hend⟩ := hg
    obtain ⟨its, rv, c1, _, _⟩ := Inv.src I hqx
    obtain ⟨its2, rv2, c2, _, _⟩ := Inv.src I hqy
    have D1 := draws_of (P := X.prog) (w := X.w) (A := X.A.in1) (k := k1) (a := a) (it := i1) (I.ok.hd hc) na its.toArray
    have D2 := draws_of (P := X.prog) (w := X.w) (A := X.A.in1) (k := k2) (a := b) (it := i2) (I.ok.hd hc) nb its2.toArray
    have l1 := rv.length
    have l2 := rv2.length
    have s1 : its.toArray.size = xs.length := by simp [l1]
    have s2 : its2.toArray.size = ys.length := by simp [l2]
    refine wpAny_pyNext_zipD2_end S D1 D2 hz hTI hTO ⟨h1, c1⟩ ⟨h2, c2⟩ (by omega) (by omega) (by omega) fun h' tk hk => ⟨rfl, Inv.turnedL (h' := h') (t' := tk) (ch := [z, TI, TO, i1, i2]) I (fun c o hb q =>
      hk c o (fun q' => hb (by simp [q'])) (fun q' => hb (by simp [q'])) (fun q' => hb (by simp [q'])) (fun q' => hb (by simp [q'])) q) hf⟩
  self := fun A i s Q E st h => wpAny_pyIter_zip st.1 h

/-! ### the judgement: an iterator told by its items; G: what must stand of the cells at each turn -/
def JOk (K : PySem.W.Frag) (J : It) (h m : List Addr) (H : Hp) (items : List D) (G : Cs → Prop) : Prop :=
  ∀ h' m' C H', Ext h m H h' m' H' → Rl K h' m' C H' → G C →
    (∀ i, i < items.length → J.go i H') ∧ J.stop items.length H' ∧
    ∀ i v H2, i < items.length → J.yld i H' v H2 → ∃ d, items[i]? = some d ∧ Ext h' m' H' h' m' H2 ∧ Rl K h' m' C H2 ∧ Rep K m' (hz h' m' H2) d v
abbrev RI := Ev → Cs → (List D → (Cs → Prop) → Cs → Prop) → Prop
def upI (K : PySem.W.Frag) (B : BS) (t : RI) : TI := fun σ H R => ∃ h m C r Q0, Sta K B h m C r σ H ∧ t r C Q0 ∧
  ∀ items G C' m' H' J, Q0 items G C' → items.length ≤ sizeLine → Ext h m H h m' H' → Rl K h m' C' H' → G C' → JOk K J h m' H' items G → R J H'
structure DI (X : Cx) (B : BS) (tg iter : Expr) (t : RI) : Prop where
  run : PI X tg iter (upI X.K B t)
/-- a source of data at a place -/
def Src (K : PySem.W.Frag) (k : Bool) (a : Addr) (h m : List Addr) (H : Hp) (ds : List D) (G : Cs → Prop) : Prop :=
  ∀ h' m' C H', Ext h m H h' m' H' → Rl K h' m' C H' → G C → ∃ vs, SrcAt K k H' a vs ∧ Reps K m' (hz h' m' H') ds vs
section
variable {K : PySem.W.Frag} {h m : List Addr} {C : Cs} {H : Hp} {d : D} {v : V} {ds : List D}
/-- which kind it is -/
def isLst : D → Bool
  | .tup _ => false
  | _ => true
theorem src_of (r : Rep K m (hz h m H) d v) (R : Rl K h m C H) (e : sqD C d = some ds) : ∃ a, v = .ref a ∧ Src K (isLst d) a h m H ds fun C' => sqD C' d = some ds := by
  obtain ⟨a, vs, rfl, _⟩ := sq_ok R r e
  refine ⟨a, rfl, fun h' m' C' H' x R' g => ?_⟩
  have r' := x.rep r
  have L : llD C' d = some ds → isLst d = true → ∃ vs, SrcAt K (isLst d) H' a vs ∧ Reps K m' (hz h' m' H') ds vs := fun e el => by
    obtain ⟨a', us, e1, e2, e3⟩ := ll_ok R' r' e
    cases e1
    rw [el]
    exact ⟨us, e2, e3⟩
  cases d with
  | tup xs =>
    cases g
    obtain ⟨a', us, o, e1, e2, _, e3⟩ := tp_ok R' r' rfl
    cases e1
    exact ⟨us, (.inl (.inr ⟨o, e2⟩) : SqT K H' _ us), e3⟩
  | lst xs => exact L g rfl
  | scr xs => exact L g rfl
  | cel n => exact L g rfl
  | _ => cases e
/-- a plain walk over a source -/
def ItG (K : PySem.W.Frag) (k : Bool) (a : Addr) : It := if k = true then Itl K a else Itt K a
theorem jok_seq {k : Bool} {a : Addr} {G : Cs → Prop} (S : Src K k a h m H ds G) : JOk K (ItG K k a) h m H ds G := by
  intro h' m' C H' x R g
  obtain ⟨vs, hs, rs⟩ := S h' m' C H' x R g
  have hl := rs.length
  cases k with
  | true =>
    refine ⟨fun i hi => ⟨vs, vs[i]'(hl ▸ hi), hs, List.getElem?_eq_getElem _⟩, ⟨vs, hs, by omega⟩, fun i v H2 hi y => ?_⟩
    obtain ⟨rfl, y⟩ := y
    obtain ⟨d, e, rd⟩ := rs.getV (y vs hs)
    exact ⟨d, e, Ext.refl, R, rd⟩
  | false =>
    refine ⟨fun i hi => ⟨vs, vs[i]'(hl ▸ hi), hs, List.getElem?_eq_getElem _⟩, ⟨vs, hs, by omega⟩, fun i v H2 hi y => ?_⟩
    obtain ⟨rfl, y⟩ := y
    obtain ⟨d, e, rd⟩ := rs.getV (y vs hs)
    exact ⟨d, e, Ext.refl, R, rd⟩
def enumD (ds : List D) : List D := ds.mapIdx fun i d => .tup [.int (i : Nat), d]
theorem jok_enum {k : Bool} {a : Addr} {G : Cs → Prop} (S : Src K k a h m H ds G) : JOk K (IteG K k a) h m H (enumD ds) G := by
  intro h' m' C H' x R g
  obtain ⟨vs, hs, rs⟩ := S h' m' C H' x R g
  have hl := rs.length
  have hle : (enumD ds).length = ds.length := by simp [enumD]
  rw [hle]
  refine ⟨fun i hi => ⟨vs, vs[i]'(hl ▸ hi), hs, List.getElem?_eq_getElem _⟩, ⟨vs, hs, by omega⟩, fun i v H2 hi y => ?_⟩
  obtain ⟨T, o, w, rfl, nT, hd, rfl, y⟩ := y
  obtain ⟨d, e, rd⟩ := rs.getV (y vs hs)
  obtain ⟨x2, R2, e2⟩ := R.newF (o := .frz o (.tup [.int (i : Nat), w])) nT
  refine ⟨.tup [.int (i : Nat), d], by simp [enumD, List.getElem?_mapIdx, e], x2, R2, T, _, o, rfl, e2, hd, ?_⟩
  exact .cons (show Rep K m' _ (.int (i : Nat)) (.int (i : Nat)) from rfl) (.one (x2.rep rd))
def zipD (ds es : List D) : List D := List.zipWith (fun x y => .tup [x, y]) ds es
theorem jok_zip {k1 k2 : Bool} {a b : Addr} {es : List D} {G G' : Cs → Prop} (S : Src K k1 a h m H ds G) (S' : Src K k2 b h m H es G') : JOk K (ItzG K k1 k2 a b) h m H (zipD ds es) fun C => G C ∧ G' C := by
  intro h' m' C H' x R ⟨g, g'⟩
  obtain ⟨vs, hs, rs⟩ := S h' m' C H' x R g
  obtain ⟨us, hu, ru⟩ := S' h' m' C H' x R g'
  have hl := rs.length
  have hl2 := ru.length
  have hle : (zipD ds es).length = min ds.length es.length := by simp [zipD]
  rw [hle]
  refine ⟨fun i hi => ⟨vs, us, vs[i]'(by omega), us[i]'(by omega), hs, hu, List.getElem?_eq_getElem _, List.getElem?_eq_getElem _⟩, ⟨vs, us, hs, hu, by omega⟩, fun i v H2 hi y => ?_⟩
  obtain ⟨T, o, w, z, rfl, nT, hd, rfl, y1, y2⟩ := y
  obtain ⟨d, e, rd⟩ := rs.getV (y1 vs hs)
  obtain ⟨d2, e2, rd2⟩ := ru.getV (y2 us hu)
  obtain ⟨x2, R2, e3⟩ := R.newF (o := .frz o (.tup [w, z])) nT
  refine ⟨.tup [d, d2], ?_, x2, R2, T, _, o, rfl, e3, hd, .cons (x2.rep rd) (.one (x2.rep rd2))⟩
  unfold zipD
  rw [List.getElem?_zipWith, e, e2]
def rngD (lo : Int) (n : Nat) : List D := (List.range n).map fun (i : Nat) => .int (lo + (i : Int))
theorem rngD_length (lo : Int) (n : Nat) : (rngD lo n).length = n := by simp [rngD]
theorem jok_range {lo : Int} {n : Nat} : JOk K (Itr lo n) h m H (rngD lo n) fun _ => True := by
  intro h' m' C H' x R _
  rw [rngD_length]
  refine ⟨fun i hi => hi, Nat.le_refl n, fun i v H2 hi y => ?_⟩
  obtain ⟨rfl, rfl⟩ := y
  exact ⟨.int (lo + i), by simp [rngD, hi], Ext.refl, R, rfl⟩
end
section
variable {X : Cx} {B : BS} {tg e e2 : Expr} {te : RE}
def iSeq (te : RE) : RI := fun r C Q => te r C fun d C1 => opt (sqD C1 d) fun xs => Q xs (fun C' => sqD C' d = some xs) C1
theorem di_seq (he : DE X B e te) : DI X B tg e (iSeq te) := by
  refine ⟨⟨fun pins s σ H R I ⟨h, m, C, r, Q0, S, t, k⟩ => ?_⟩⟩
  refine thn (he.run.run pins s σ H (fun v H1 => ∃ a k, v = .ref a ∧ (∃ vs, SrcAt X.K k H1 a vs) ∧ ((∃ vs : List V, vs.length ≤ sizeLine → True) ) ∧ ((∀ vs, SrcAt X.K k H1 a vs → vs.length ≤ sizeLine) → R (ItG X.K k a) H1)) I ⟨h, m, C, r, _, S, t, fun d C1 m1 H1 v1 q1 x1 R1 r1 => ?_⟩) fun v s1 ⟨x, H1, I1, r1, q1⟩ => ?_
  · obtain ⟨xs, e1, q⟩ := opt_iff.mp q1
    obtain ⟨a, rfl, sr⟩ := src_of r1 R1 e1
    obtain ⟨vs, hs, rs⟩ := sr h m1 C1 H1 Ext.refl R1 e1
    refine ⟨a, isLst d, rfl, ⟨vs, hs⟩, ⟨[], fun _ => trivial⟩, fun hz => k xs _ C1 m1 H1 _ q (by rw [rs.length]; exact hz vs hs) x1 R1 e1 (jok_seq sr)⟩
  · obtain ⟨a, k, rfl, ⟨vs, hs⟩, _, q⟩ := q1
    cases r1
    obtain ⟨its, rv, ct, hz, hal⟩ := Inv.src I1 hs
    have q' := q fun us hu => by rw [Inv.src_inj I1 hu hs]; exact hz
    have fresh : ∀ b ∈ [s1.heap.objs.size], FpOk X pins H1 b := fun b hb => by
      have e : b = s1.heap.objs.size := by simpa using hb
      subst e
      exact I1.fpOk (Nat.le_refl _) (I1.hok.fresh (Nat.le_refl _))
    cases k with
    | true =>
      refine wpAny_pyIter_list (show s1.heap.IsList a its.toArray from ct) ?_
      exact ⟨s1.heap.objs.size, [s1.heap.objs.size], _, _, H1, rfl, I1.kept (t' := s1.toks) fun b o e => Heap.get?_push_of_some _ e, turn_list a _, ⟨_, Heap.get?_push_size _ rfl, rfl, rfl⟩, fresh, q'⟩
    | false =>
      refine wpAny_pyIter_tuple (show s1.heap.IsTuple a its.toArray from ct) ?_
      exact ⟨s1.heap.objs.size, [s1.heap.objs.size], _, _, H1, rfl, I1.kept (t' := s1.toks) fun b o e => Heap.get?_push_of_some _ e, turn_tuple a _, ⟨_, Heap.get?_push_size _ rfl, rfl, rfl⟩, fresh, q'⟩
def iEnu (te : RE) : RI := fun r C Q => te r C fun d C1 => opt (sqD C1 d) fun xs => Q (enumD xs) (fun C' => sqD C' d = some xs) C1
theorem one_value {pos : Pos} {pins : List (Addr × Obj)} {s : Shared} {σ : L2.St} {H : Hp} {te : TE} {R : V → Hp → Prop} {Q : List Value → Shared → Prop} (he : PE X e te) (I : Inv X pins σ H s) (h : te σ H R)
    (hf : ∀ v s2 x H2, Inv X pins σ H2 s2 → L2.RelV x v → R x H2 → Q [v] s2) (na : starEach [e] X.env = (false, eval e X.env) :: starEach [] X.env := by rfl) : wpAny (model X.prog X.w) X.A (spliced (backTo pos (starEach [e] X.env))) Q X.xe s := by
  refine thn ((pa_cons he pa_nil na).run pos pins s σ H (fun vs H1 => ∃ v, vs = [v] ∧ R v H1) I (?_ : tCons te tNil σ H _)) fun us s1 ⟨vs, H1, I1, r1, v, e, q⟩ => ?_
  · have : te σ H (fun x H1 => (fun vs H1 => ∃ v, vs = [v] ∧ R v H1) [x] H1) := by
      have e : (fun x H1 => (fun vs H1 => ∃ v, vs = [v] ∧ R v H1) [x] H1) = R := by
        funext x H1
        exact propext ⟨fun ⟨v, z, q⟩ => by cases z; exact q, fun q => ⟨x, rfl, q⟩⟩
      rw [e]
      exact h
    exact this
  · subst e
    obtain ⟨u, rfl, ru⟩ := vals1 r1
    exact hf u s1 v H1 I1 ru q
theorem di_enum {p pos tpos : Pos} {elts : List Expr} {kk : Nat} (hm : X.mg "enumerate" = none) (he : DE X B e te) (hg : Gl X "enumerate" := by rfl) (hs : starEach [e] X.env = [(false, eval e X.env)] := by rfl) :
    DI X B (.Tuple elts kk tpos) (.Call (.Name "enumerate" p) [e] [] pos) (iEnu te) := by
  refine ⟨⟨fun pins s σ H R I ⟨h, m, C, r, Q0, S, t, k⟩ => ?_⟩⟩
  refine Call_ (ld_blt I hg hm PyProof.Rows.boot_enumerate (PyProof.Rows.callWith_type1 (one_value (R := fun v H1 => ∃ a k, v = .ref a ∧ (∃ vs, SrcAt X.K k H1 a vs) ∧ ((∀ vs, SrcAt X.K k H1 a vs → vs.length ≤ sizeLine) → R (IteG X.K k a) H1)) he.run I ⟨h, m, C, r, _, S, t, fun d C1 m1 H1 v1 q1 x1 R1 r1 => ?_⟩ (fun v s1 x H1 I1 r1 q1 => ?_) hs) hs rfl))
  · obtain ⟨xs, e1, q⟩ := opt_iff.mp q1
    obtain ⟨a, rfl, sr⟩ := src_of r1 R1 e1
    obtain ⟨vs, hs, rs⟩ := sr h m1 C1 H1 Ext.refl R1 e1
    refine ⟨a, isLst d, rfl, ⟨vs, hs⟩, fun hz => k _ _ C1 m1 H1 _ q (by simp only [enumD, List.length_mapIdx]; rw [rs.length]; exact hz vs hs) x1 R1 e1 (jok_enum sr)⟩
  · obtain ⟨a, k, rfl, ⟨vs, hs⟩, q⟩ := q1
    cases r1
    obtain ⟨its, rv, ct, hz, hal⟩ := Inv.src I1 hs
    have q' := q fun us hu => by rw [Inv.src_inj I1 hu hs]; exact hz
    have ne1 : a ≠ s1.heap.objs.size := Nat.ne_of_lt hal
    have ne2 : s1.heap.objs.size + 1 ≠ a := Nat.ne_of_gt (Nat.lt_succ_of_lt hal)
    have fin : ∀ h', IsEnum h' (s1.heap.objs.size + 1) s1.heap.objs.size 0 .none → ItAt k h' s1.heap.objs.size a 0 → (∀ b o, s1.heap.get? b = some o → h'.get? b = some o) →
        PIE X pins σ (.Tuple elts kk tpos) R (.ref (s1.heap.objs.size + 1)) { s1 with heap := h' } := fun h' he hit hk => by
      have I2 : Inv X pins σ H1 { s1 with heap := h' } := I1.kept (t' := s1.toks) hk
      refine ⟨s1.heap.objs.size + 1, [s1.heap.objs.size + 1, s1.heap.objs.size], _, _, H1, rfl, I2, turn_enumG k a (s1.heap.objs.size + 1) s1.heap.objs.size (Nat.succ_ne_self _) ne1 ne2, ⟨⟨.none, he⟩, hit⟩, fun b hb => ?_, q'⟩
      have e' : b = s1.heap.objs.size + 1 ∨ b = s1.heap.objs.size := by simpa using hb
      have hle : s1.heap.objs.size ≤ b := by
        rcases e' with z | z
        · rw [z]; exact Nat.le_add_right _ _
        · rw [z]; exact Nat.le_refl _
      exact I1.fpOk hle (I1.hok.fresh hle)
    cases k with
    | true => exact call_enumerate1 (begins_list a its.toArray) ct fun h' he ho hsz hk => wpAny_pyIter_enum he (fin h' he ⟨_, ho, rfl, rfl⟩ hk)
    | false => exact call_enumerate1 (begins_tuple a its.toArray) ct fun h' he ho hsz hk => wpAny_pyIter_enum he (fin h' he ⟨_, ho, rfl, rfl⟩ hk)
end
end DL
/-! DL5: zip, range; targets, statements, loops, comprehensions. -/
namespace DL
open PySem PySem.Spec PyProof.Rows L2
section
variable {X : Cx} {B : BS} {tg e e2 : Expr} {te te2 : RE}
def iZip2 (te te2 : RE) : RI := fun r C Q => te r C fun d C1 => te2 r C1 fun d2 C2 => opt (sqD C2 d) fun xs => opt (sqD C2 d2) fun ys => Q (zipD xs ys) (fun C' => sqD C' d = some xs ∧ sqD C' d2 = some ys) C2
theorem di_zip {p pos tpos : Pos} {elts : List Expr} {kk : Nat} (hm : X.mg "zip" = none) (he : DE X B e te) (he2 : DE X B e2 te2) (hg : Gl X "zip" := by rfl) (hs : starEach [e, e2] X.env = (false, eval e X.env) :: starEach [e2] X.env := by rfl)
    (hs2 : starEach [e2] X.env = (false, eval e2 X.env) :: starEach [] X.env := by rfl) (hpl : (backTo pos (starEach [e2] X.env)).any (·.1) = false := by rfl) :
    DI X B (.Tuple elts kk tpos) (.Call (.Name "zip" p) [e, e2] [] pos) (iZip2 te te2) := by
  refine ⟨⟨fun pins s σ H R I ⟨h, m, C, r, Q0, S, t, k⟩ => ?_⟩⟩
  refine Call_ (ld_blt I hg hm PyProof.Rows.boot_zip (PyProof.Rows.callWith_type1 (thn ((da_cons he (da_cons he2 da_nil hs2) hs).run.run pos pins s σ H
    (fun vs H1 => ∃ a b k1 k2, vs = [.ref a, .ref b] ∧ (∃ vs, SrcAt X.K k1 H1 a vs) ∧ (∃ vs, SrcAt X.K k2 H1 b vs) ∧ ((∀ vs, SrcAt X.K k1 H1 a vs → vs.length ≤ sizeLine) → R (ItzG X.K k1 k2 a b) H1)) I
    ⟨h, m, C, r, fun ds C2 => ∃ d d2, ds = [d, d2] ∧ opt (sqD C2 d) fun xs => opt (sqD C2 d2) fun ys => Q0 (zipD xs ys) (fun C' => sqD C' d = some xs ∧ sqD C' d2 = some ys) C2, S, ?_, fun ds C2 m2 H2 vs q2 hl x2 R2 r2 => ?_⟩) fun us s1 ⟨vs, H1, I1, r1, q1⟩ => ?_) hs hpl))
  · have e0 : (fun d C1 => dCons te2 dNil r C1 fun ds C2 => ∃ d' d2, d :: ds = [d', d2] ∧ opt (sqD C2 d') fun xs => opt (sqD C2 d2) fun ys => Q0 (zipD xs ys) (fun C' => sqD C' d' = some xs ∧ sqD C' d2 = some ys) C2)
        = fun d C1 => te2 r C1 fun d2 C2 => opt (sqD C2 d) fun xs => opt (sqD C2 d2) fun ys => Q0 (zipD xs ys) (fun C' => sqD C' d = some xs ∧ sqD C' d2 = some ys) C2 := by
      funext d C1
      show te2 r C1 _ = te2 r C1 _
      congr 1
      funext d2 C2
      refine propext ⟨fun ⟨a, b, z, q⟩ => by cases z; exact q, fun q => ⟨d, d2, rfl, q⟩⟩
    show te r C _
    rw [e0]
    exact t
  · obtain ⟨d, d2, rfl, q⟩ := q2
    obtain ⟨xs, e1, q⟩ := opt_iff.mp q
    obtain ⟨ys, e2, q⟩ := opt_iff.mp q
    obtain ⟨v1, v2, rfl, p1, p2⟩ := reps2 r2
    obtain ⟨a, rfl, sr⟩ := src_of p1 R2 e1
    obtain ⟨b, rfl, sr2⟩ := src_of p2 R2 e2
    obtain ⟨vs, hs, rs⟩ := sr h m2 C2 H2 Ext.refl R2 e1
    obtain ⟨us, hu, ru⟩ := sr2 h m2 C2 H2 Ext.refl R2 e2
    refine ⟨a, b, isLst d, isLst d2, rfl, ⟨vs, hs⟩, ⟨us, hu⟩, fun hz => k _ _ C2 m2 H2 _ q ?_ x2 R2 ⟨e1, e2⟩ (jok_zip sr sr2)⟩
    have := hz vs hs
    have hl1 := rs.length
    simp only [zipD, List.length_zipWith]
    omega
  · obtain ⟨a, b, k1, k2, rfl, ⟨vs, hs'⟩, ⟨us', hu'⟩, q⟩ := q1
    obtain ⟨u1, u2, rfl, z1, z2⟩ := vals2 r1
    cases z1
    cases z2
    obtain ⟨its, rv, ct, hz, hal⟩ := Inv.src I1 hs'
    obtain ⟨its2, rv2, ct2, hz2, hbl⟩ := Inv.src I1 hu'
    have q' := q fun us hu => by rw [Inv.src_inj I1 hu hs']; exact hz
    have fin : ∀ h', IsZip h' (s1.heap.objs.size + 4) (s1.heap.objs.size + 2) (s1.heap.objs.size + 3) .none → IsTupOf2 h' (s1.heap.objs.size + 2) (.ref s1.heap.objs.size) (.ref (s1.heap.objs.size + 1)) → IsTupOf2 h' (s1.heap.objs.size + 3) .none .none →
        ItAt k1 h' s1.heap.objs.size a 0 → ItAt k2 h' (s1.heap.objs.size + 1) b 0 → (∀ c o, s1.heap.get? c = some o → h'.get? c = some o) → PIE X pins σ (.Tuple elts kk tpos) R (.ref (s1.heap.objs.size + 4)) { s1 with heap := h' } := fun h' hz hTI hTO h1 h2 hk => by
      have I2 : Inv X pins σ H1 { s1 with heap := h' } := I1.kept (t' := s1.toks) hk
      have sep : ZipSep2 (s1.heap.objs.size + 4) (s1.heap.objs.size + 2) (s1.heap.objs.size + 3) s1.heap.objs.size (s1.heap.objs.size + 1) [s1.heap.objs.size, a] [s1.heap.objs.size + 1, b] := by
        have ha : a < s1.heap.objs.size := hal
        have hb : b < s1.heap.objs.size := hbl
        generalize s1.heap.objs.size = n at ha hb
        have ha' : @LT.lt Nat instLTNat a n := ha
        have hb' : @LT.lt Nat instLTNat b n := hb
        have ni : ∀ {c x y : Nat}, c ≠ x → c ≠ y → c ∉ [x, y] := fun h1 h2 hm => by
          rcases List.mem_cons.mp hm with z | z
          · exact h1 z
          · exact h2 (by simpa using z)
        exact ⟨(show (n + 2 : Nat) ≠ n + 4 by omega), (show (n + 3 : Nat) ≠ n + 4 by omega), (show (n + 2 : Nat) ≠ n + 3 by omega), (show (n + 2 : Nat) ≠ n by omega), List.mem_cons_self,
          ni (by omega) (show (n + 4 : Nat) ≠ a by omega), ni (by omega) (show (n + 3 : Nat) ≠ a by omega), (show (n + 2 : Nat) ≠ n + 1 by omega), List.mem_cons_self,
          ni (by omega) (show (n + 4 : Nat) ≠ b by omega), ni (by omega) (show (n + 3 : Nat) ≠ b by omega), ni (show (n : Nat) ≠ n + 1 by omega) (show (n : Nat) ≠ b by omega), ni (show (n + 1 : Nat) ≠ n by omega) (show (n + 1 : Nat) ≠ a by omega)⟩
      refine ⟨s1.heap.objs.size + 4, [s1.heap.objs.size + 4, s1.heap.objs.size + 2, s1.heap.objs.size + 3, s1.heap.objs.size, s1.heap.objs.size + 1], _, _, H1, rfl, I2, turn_zipG k1 k2 sep (Nat.ne_of_lt hal) (Nat.ne_of_lt (Nat.lt_succ_of_lt hbl)), ⟨hz, hTI, ⟨_, _, hTO⟩, h1, h2⟩, fun c hcm => ?_, q'⟩
      have e' : c = s1.heap.objs.size + 4 ∨ c = s1.heap.objs.size + 2 ∨ c = s1.heap.objs.size + 3 ∨ c = s1.heap.objs.size ∨ c = s1.heap.objs.size + 1 := by simpa using hcm
      have hle : s1.heap.objs.size ≤ c := by
        rcases e' with z | z | z | z | z
        · rw [z]; exact Nat.le_add_right _ _
        · rw [z]; exact Nat.le_add_right _ _
        · rw [z]; exact Nat.le_add_right _ _
        · rw [z]; exact Nat.le_refl _
        · rw [z]; exact Nat.le_add_right _ _
      exact I1.fpOk hle (I1.hok.fresh hle)
    cases k1 <;> cases k2
    · exact zip_begins2 (begins_tuple a its.toArray) (begins_tuple b its2.toArray) ct ct2 fun h' hz hTI hTO o1 o2 hsz hk => wpAny_pyIter_zip hz (fin h' hz hTI hTO ⟨_, o1, rfl, rfl⟩ ⟨_, o2, rfl, rfl⟩ hk)
    · exact zip_begins2 (begins_tuple a its.toArray) (begins_list b its2.toArray) ct ct2 fun h' hz hTI hTO o1 o2 hsz hk => wpAny_pyIter_zip hz (fin h' hz hTI hTO ⟨_, o1, rfl, rfl⟩ ⟨_, o2, rfl, rfl⟩ hk)
    · exact zip_begins2 (begins_list a its.toArray) (begins_tuple b its2.toArray) ct ct2 fun h' hz hTI hTO o1 o2 hsz hk => wpAny_pyIter_zip hz (fin h' hz hTI hTO ⟨_, o1, rfl, rfl⟩ ⟨_, o2, rfl, rfl⟩ hk)
    · exact zip_begins2 (begins_list a its.toArray) (begins_list b its2.toArray) ct ct2 fun h' hz hTI hTO o1 o2 hsz hk => wpAny_pyIter_zip hz (fin h' hz hTI hTO ⟨_, o1, rfl, rfl⟩ ⟨_, o2, rfl, rfl⟩ hk)
theorem line_eq : (2 : Int) ^ 24 = (sizeLine : Nat) := by decide
def iR1 (te : RE) : RI := fun r C Q => te r C fun d C1 => match d with
  | .int j => (-(2 ^ 62) ≤ j ∧ j ≤ 2 ^ 24) ∧ Q (rngD 0 j.toNat) (fun _ => True) C1
  | _ => False
theorem pi_imp {iter : Expr} {w w' : TI} (p : PI X tg iter w) (i : ∀ σ H R, w' σ H R → w σ H R) : PI X tg iter w' := ⟨fun pins s σ H R I h => p.run pins s σ H R I (i σ H R h)⟩
theorem di_range1 {p pos : Pos} (hm : X.mg "range" = none) (he : DE X B e te) (hg : Gl X "range" := by rfl) (hs : starEach [e] X.env = (false, eval e X.env) :: starEach [] X.env := by rfl) (hs' : starEach [e] X.env = [(false, eval e X.env)] := by rfl) : DI X B tg (.Call (.Name "range" p) [e] [] pos) (iR1 te) := by
  refine ⟨pi_imp (pi_range1 hg hm (pa_cons he.run pa_nil hs) hs') fun σ H R ⟨h, m, C, r, Q0, S, t, k⟩ => ?_⟩
  refine ⟨h, m, C, r, _, S, t, fun d C1 m1 H1 v1 q1 x1 R1 r1 => ?_⟩
  cases d <;> first | exact q1.elim | skip
  rename_i j
  have e : v1 = .int j := r1
  subst e
  obtain ⟨⟨b1, b2⟩, q⟩ := q1
  have l : (rngD 0 j.toNat).length ≤ sizeLine := by
    rw [rngD_length]
    have := line_eq
    omega
  exact ⟨j, rfl, b1, by have : (2 : Int) ^ 24 < 2 ^ 62 := by decide
                        omega, k _ _ C1 m1 H1 _ q l x1 R1 trivial jok_range⟩
def iR2 (ta tb : RE) : RI := fun r C Q => ta r C fun d C1 => tb r C1 fun e C2 => match d, e with
  | .int i, .int j => (-(2 ^ 24) ≤ i ∧ i ≤ 2 ^ 24 ∧ -(2 ^ 24) ≤ j ∧ j ≤ 2 ^ 24 ∧ j - i ≤ 2 ^ 24) ∧ Q (rngD i (j - i).toNat) (fun _ => True) C2
  | _, _ => False
theorem di_range2 {p pos : Pos} (hm : X.mg "range" = none) (he : DE X B e te) (he2 : DE X B e2 te2) (hg : Gl X "range" := by rfl) (hs1 : starEach [e, e2] X.env = (false, eval e X.env) :: starEach [e2] X.env := by rfl) (hs3 : starEach [e2] X.env = (false, eval e2 X.env) :: starEach [] X.env := by rfl)
    (hs : starEach [e, e2] X.env = [(false, eval e X.env), (false, eval e2 X.env)] := by rfl) (hs2 : starEach [e2] X.env = [(false, eval e2 X.env)] := by rfl) : DI X B tg (.Call (.Name "range" p) [e, e2] [] pos) (iR2 te te2) := by
  refine ⟨pi_imp (pi_range2 hg hm (pa_cons he.run (pa_cons he2.run pa_nil hs3) hs1) hs hs2) fun σ H R ⟨h, m, C, r, Q0, S, t, k⟩ => ?_⟩
  refine ⟨h, m, C, r, _, S, t, fun d C1 m1 H1 v1 q1 x1 R1 r1 => ?_⟩
  refine ⟨h, m1, C1, r, _, S.ext x1 R1, q1, fun d2 C2 m2 H2 v2 q2 x2 R2 r2 => ?_⟩
  cases d <;> first | exact q2.elim | skip
  cases d2 <;> first | exact q2.elim | skip
  rename_i i j
  have e : v1 = .int i := r1
  have e' : v2 = .int j := r2
  subst e e'
  obtain ⟨⟨b1, b2, b3, b4, b5⟩, q⟩ := q2
  have l : (rngD i (j - i).toNat).length ≤ sizeLine := by
    rw [rngD_length]
    have := line_eq
    omega
  have big : (2 : Int) ^ 24 < 2 ^ 62 := by decide
  exact ⟨i, j, rfl, ⟨by omega, by omega, by omega, by omega⟩, k _ _ C2 m2 H2 _ q l (x1.trans x2) R2 trivial jok_range⟩
end

/-! ### targets -/
abbrev RG := D → Ev → Cs → (Ev → Cs → Prop) → Prop
abbrev RGs := List D → Ev → Cs → (Ev → Cs → Prop) → Prop
def upG (K : PySem.W.Frag) (B : BS) (vs : List Nat) (g : RG) : TG := fun v σ H Q => ∃ h m C r d Q0, Sta K B h m C r σ H ∧ Rep K m (hz h m H) d v ∧ g d r C Q0 ∧
  ∀ r' C' m' H' σ', Q0 r' C' → Ext h m H h m' H' → Sta K B h m' C' r' σ' H' → wipe σ' vs = wipe σ vs → Q σ' H'
def upGs (K : PySem.W.Frag) (B : BS) (vs : List Nat) (g : RGs) : TGs := fun us σ H Q => ∃ h m C r ds Q0, Sta K B h m C r σ H ∧ Reps K m (hz h m H) ds us ∧ g ds r C Q0 ∧
  ∀ r' C' m' H' σ', Q0 r' C' → Ext h m H h m' H' → Sta K B h m' C' r' σ' H' → wipe σ' vs = wipe σ vs → Q σ' H'
structure DG (X : Cx) (B : BS) (vs : List Nat) (tg : Expr) (g : RG) : Prop where
  run : PG X tg (upG X.K B vs g)
structure DGs (X : Cx) (B : BS) (vs : List Nat) (tg : List Expr) (g : RGs) : Prop where
  run : PGs X tg (upGs X.K B vs g)
theorem pg_imp {X : Cx} {tg : Expr} {t t' : TG} (p : PG X tg t) (i : ∀ v σ H Q, t' v σ H Q → t v σ H Q) : PG X tg t' := ⟨fun pins s σ H v u Q I r h => p.run pins s σ H v u Q I r (i v σ H Q h)⟩
theorem pgs_imp {X : Cx} {tg : List Expr} {t t' : TGs} (p : PGs X tg t) (i : ∀ v σ H Q, t' v σ H Q → t v σ H Q) : PGs X tg t' := ⟨fun pins s σ H v u Q I r h => p.run pins s σ H v u Q I r (i v σ H Q h)⟩
theorem wipe_set_out {σ : L2.St} {i : Nat} {o : Option V} : ∀ vs : List Nat, i ∉ vs → wipe (σ.set i o) vs = (wipe σ vs).set i o
  | [], _ => rfl
  | v :: vs, h => by
    have h1 : v ≠ i := fun e => h (e ▸ List.mem_cons_self)
    unfold wipe
    rw [wipe_set_out vs fun z => h (List.mem_cons_of_mem _ z), List.set_comm _ _ h1]
theorem wipe_set {σ : L2.St} {i : Nat} {o : Option V} : ∀ vs : List Nat, i ∈ vs → wipe (σ.set i o) vs = wipe σ vs
  | v :: vs, h => by
    unfold wipe
    by_cases hm : i ∈ vs
    · rw [wipe_set vs hm]
    · have e : v = i := by
        rcases List.mem_cons.mp h with z | z
        · exact z.symm
        · exact absurd z hm
      subst e
      rw [wipe_set_out vs hm, List.set_set]
def gN (i : Nat) : RG := fun d r C Q => Q (r.set i (some d)) C
def gT (g : RGs) : RG := fun d r C Q => match d with
  | .tup ds => g ds r C Q
  | _ => False
def gL (g : RGs) : RG := fun d r C Q => opt (llD C d) fun ds => g ds r C Q
def gNi : RGs := fun ds r C Q => match ds with
  | [] => Q r C
  | _ => False
def gCo (g : RG) (gs : RGs) : RGs := fun ds r C Q => match ds with
  | d :: es => g d r C fun r' C' => gs es r' C' Q
  | [] => False
section
variable {X : Cx} {B : BS} {vs : List Nat} {pos : Pos}
theorem dg_n {i : Nat} {x : Str} (hN : X.N.Nodup) (hi : X.N[i]? = some x) (hx : Loc X.env.scope x) (hv : i ∈ vs) (hf : X.fn x = true ∨ X.env.scope.names.lookup x = some .local := by first | exact .inl rfl | exact .inr rfl | assumption) : DG X B vs (.Name x pos) (gN i) := by
  refine ⟨pg_imp (pg_name hN hi hx hf) fun v σ H Q ⟨h, m, C, r, d, Q0, S, rp, t, k⟩ => ?_⟩
  exact k _ C m H _ t Ext.refl ⟨S.rl, S.en.set i rp, S.base, S.st⟩ (wipe_set vs hv)
theorem dgs_nil : DGs X B vs [] gNi := by
  refine ⟨pgs_imp pgs_nil fun us σ H Q ⟨h, m, C, r, ds, Q0, S, rp, t, k⟩ => ?_⟩
  cases ds with
  | nil => exact ⟨rp, k r C m H σ t Ext.refl S rfl⟩
  | cons d ds => exact t.elim
theorem dgs_cons {e : Expr} {es : List Expr} {g : RG} {gs : RGs} (h1 : DG X B vs e g) (h2 : DGs X B vs es gs) (hs : (assignEach (e :: es) X.env).map (·.2) = assign e X.env :: (assignEach es X.env).map (·.2) := by rfl) : DGs X B vs (e :: es) (gCo g gs) := by
  refine ⟨pgs_imp (pgs_cons h1.run h2.run hs) fun us σ H Q ⟨h, m, C, r, ds, Q0, S, rp, t, k⟩ => ?_⟩
  cases ds with
  | nil => exact t.elim
  | cons d ds =>
    obtain ⟨v, vr, rfl, r1, r2⟩ := rp
    refine ⟨v, vr, rfl, h, m, C, r, d, _, S, r1, t, fun r' C' m' H' σ' q x S' w => ?_⟩
    exact ⟨h, m', C', r', ds, Q0, S', x.reps r2, q, fun r2 C2 m2 H2 σ2 q2 x2 S2 w2 => k r2 C2 m2 H2 σ2 q2 (x.trans x2) S2 (w2.trans w)⟩
theorem Reps.glen {K : PySem.W.Frag} {m : List Addr} {H : Hp} {ds : List D} {vs : List V} (r : Reps K m H ds vs) {n : Nat} (h : ds.length = n) : vs.length = n := by rw [← r.length]; exact h
/-- how many things a tuple target takes -/
def gLen : RGs → Nat → Prop := fun g n => ∀ ds r C Q, g ds r C Q → ds.length = n
theorem gLen_nil : gLen gNi 0 := fun ds r C Q h => by
  cases ds with
  | nil => rfl
  | cons d ds => exact h.elim
theorem dg_tup {es : List Expr} {k : Nat} {g : RGs} {n : Nat} (hc : X.calm = true) (h : DGs X B vs es g) (hn : (assignEach es X.env).length = n := by rfl) (hst : (assignEach es X.env).findIdx? (·.1) = none := by rfl) : DG X B vs (.Tuple es k pos) (fun d r C Q => match d with
    | .tup ds => ds.length = n ∧ g ds r C Q
    | _ => False) := by
  refine ⟨pg_imp (pg_tup hc h.run hn hst) fun v σ H Q ⟨h, m, C, r, d, Q0, S, rp, t, k⟩ => ?_⟩
  cases d <;> first | exact t.elim | skip
  obtain ⟨hl, t⟩ := t
  obtain ⟨a, us, o, rfl, e, hd, rs⟩ := rp
  exact ⟨a, us, rfl, .inl (.inr ⟨o, hz_sub e⟩), rs.glen hl, h, m, C, r, _, Q0, S, rs, t, k⟩
/-- o[i] = v -/
def oSet (o i d : D) (C : Cs) (Q : Cs → Prop) : Prop := match o, i with
  | .cel n, .int k => opt (lsD C (.cel n)) fun xs => opt (ixN xs.length k) fun j => Q (C.set n (.lst (xs.set j d)))
  | _, _ => False
def gSb (to ti : RE) : RG := fun d r C Q => to r C fun o C1 => ti r C1 fun i C2 => oSet o i d C2 fun C3 => Q r C3
theorem dg_sub {o i : Expr} {to ti : RE} (ho : DE X B o to) (hi : DE X B i ti) (ha : ∀ v, assign (.Subscript o i pos) X.env v = (do
      let ov ← holding [v] (eval o X.env)
      let iv ← holding [v, ov] (eval i X.env)
      standAt pos
      holding [v, ov, iv] (setItem ov iv v)
      release [v, ov, iv] []) := by intro _; rfl) : DG X B vs (.Subscript o i pos) (gSb to ti) := by
  refine ⟨pg_imp (pg_sub ho.run hi.run set_list ha) fun v σ H Q ⟨h, m, C, r, d, Q0, S, rp, t, k⟩ => ?_⟩
  refine ⟨h, m, C, r, _, S, t, fun od C1 m1 H1 v1 q1 x1 R1 r1 => ?_⟩
  have S1 := S.ext x1 R1
  refine ⟨h, m1, C1, r, _, S1, q1, fun id C2 m2 H2 v2 q2 x2 R2 r2 => ?_⟩
  have S2 := S1.ext x2 R2
  cases od <;> first | exact q2.elim | skip
  cases id <;> first | exact q2.elim | skip
  rename_i n j
  obtain ⟨xs, e1, q⟩ := opt_iff.mp q2
  obtain ⟨jj, e2, q⟩ := opt_iff.mp q
  obtain ⟨a, rfl, ea⟩ := x2.rep r1
  have hc : C2[n]? = some (.lst xs) := by
    have e1' : (match C2[n]? with | some (.lst xs) => some xs | none => none) = some xs := e1
    cases hc : C2[n]? with
    | none => rw [hc] at e1'; cases e1'
    | some c => cases c; rw [hc] at e1'; cases e1'; rfl
  obtain ⟨b, hb, us, k1, k2⟩ := R2.cell n _ hc
  rw [ea] at hb
  cases hb
  have rd : Rep X.K m2 (hz h m2 H2) d v := x2.rep (x1.rep rp)
  obtain ⟨x3, R3⟩ := R2.write hc ea (k2.set jj rd)
  exact ⟨a, us, j, jj, rfl, r2, k1, by rw [← k2.length]; exact e2, k _ _ _ _ σ q ((x1.trans x2).trans x3) (S2.ext x3 R3) rfl⟩
end

/-! ### small statements -/
def sSet (i : Nat) (te : RE) : RS := fun D r C => te r C fun d C1 => D.nx (r.set i (some d)) C1
def sAsg (te : RE) (g : RG) : RS := fun D r C => te r C fun d C1 => g d r C1 D.nx
def sDrop (te : RE) : RS := fun D r C => te r C fun _ C1 => D.nx r C1
def sRet (te : RE) : RS := fun D r C => te r C D.rt
def sRetN : RS := fun D _ C => D.rt .non C
def sIf (c : RT) (t u : RS) : RS := fun D r C => c r C fun b C1 => if b = true then t D r C1 else u D r C1
def sNext : RS := fun D r C => D.nx r C
def sSeq (t u : RS) : RS := fun D r C => t { D with nx := u D } r C
def sBrk : RS := fun D r C => D.bk r C
def sCnt : RS := fun D r C => D.ct r C
def sPar (i j : Nat) (ta : RA) : RS := fun D r C => ta r C fun ds C1 => match ds with
  | [d, e] => D.nx ((r.set i (some d)).set j (some e)) C1
  | _ => False
def sPar3 (i j l : Nat) (ta : RA) : RS := fun D r C => ta r C fun ds C1 => match ds with
  | [d, e, f] => D.nx (((r.set i (some d)).set j (some e)).set l (some f)) C1
  | _ => False
section
variable {X : Cx} {B : BS} {st : Stmt} {rest : List Stmt} {t u : RS} {e : Expr} {te : RE} {pos : Pos}
/-- what follows, once more at a later state -/
def Fol (K : PySem.W.Frag) (B : BS) (h m : List Addr) (H : Hp) (D0 : EndsD) (D : Ends) : Prop := ∀ m' H' C', Ext h m H h m' H' → Rl K h m' C' H' →
    (∀ r' σ', D0.nx r' C' → Sta K B h m' C' r' σ' H' → D.nx σ' H') ∧
    (∀ r' σ', D0.bk r' C' → Sta K B h m' C' r' σ' H' → D.bk σ' H') ∧
    (∀ r' σ', D0.ct r' C' → Sta K B h m' C' r' σ' H' → D.ct σ' H') ∧
    (∀ d v, D0.rt d C' → Rep K m' (hz h m' H') d v → D.rt v H')
theorem Fol.ext {K : PySem.W.Frag} {h m m1 : List Addr} {H H1 : Hp} {D0 : EndsD} {D : Ends} (k : Fol K B h m H D0 D) (x : Ext h m H h m1 H1) : Fol K B h m1 H1 D0 D := fun m' H' C' y R => k m' H' C' (x.trans y) R
theorem Fol.nx {K : PySem.W.Frag} {h m : List Addr} {C : Cs} {H : Hp} {D0 : EndsD} {D : Ends} {r : Ev} {σ : L2.St} (k : Fol K B h m H D0 D) (S : Sta K B h m C r σ H) (q : D0.nx r C) : D.nx σ H := (k m H C Ext.refl S.rl).1 r σ q S
theorem ds_set {i : Nat} {x : Str} {pos' : Pos} (hN : X.N.Nodup) (hi : X.N[i]? = some x) (hx : Loc X.env.scope x) (he : DE X B e te) (hs : swapsWith e (some (.Name x pos')) pos.line X.env = pure false := by rfl) (hf : X.fn x = true ∨ X.env.scope.names.lookup x = some .local := by first | exact .inl rfl | exact .inr rfl | assumption) :
    DS X B (.Assign [.Name x pos'] e pos) (sSet i te) := by
  refine ⟨ps_imp (ps_set hN hi hx he.run hs hf) fun D σ H ⟨h, m, C, r, D0, S, t, k⟩ => ?_⟩
  refine ⟨h, m, C, r, _, S, t, fun d C1 m1 H1 v1 q1 x1 R1 r1 => ?_⟩
  have S1 := S.ext x1 R1
  exact Fol.nx (Fol.ext k x1) ⟨R1, S1.en.set i r1, S1.base, S1.st⟩ q1
theorem ds_asg {tg : Expr} {g : RG} {vs : List Nat} (he : DE X B e te) (hg : DG X B vs tg g) (hs : swapsWithSole [tg] e pos.line X.env = pure false := by rfl) (hw : swappedStores [tg] e X.env = pure none := by rfl)
    (h1 : (assignEach [tg] X.env).map (·.2) = [assign tg X.env] := by rfl) : DS X B (.Assign [tg] e pos) (sAsg te g) := by
  refine ⟨ps_imp (ps_asg he.run hg.run hs hw h1) fun D σ H ⟨h, m, C, r, D0, S, t, k⟩ => ?_⟩
  refine ⟨h, m, C, r, _, S, t, fun d C1 m1 H1 v1 q1 x1 R1 r1 => ?_⟩
  exact ⟨h, m1, C1, r, d, _, S.ext x1 R1, r1, q1, fun r' C' m' H' σ' q x S' _ => Fol.nx (Fol.ext k (x1.trans x)) S' q⟩
theorem ds_par {i j : Nat} {x y : Str} {a b : Expr} {ta : RA} {px py pt : Pos} {kt k2 pt2} (hc : X.calm = true) (hN : X.N.Nodup) (hi : X.N[i]? = some x) (hj : X.N[j]? = some y) (hij : i ≠ j)
    (hx : X.env.scope.names.lookup x = some .local) (hy : X.env.scope.names.lookup y = some .local) (ha : DA X B [a, b] ta)
    (hw : swappedStores [.Tuple [.Name x px, .Name y py] kt pt] (.Tuple [a, b] k2 pt2) X.env = pure (some [x, y]) := by rfl)
    (hs : swapsWithSole [.Tuple [.Name x px, .Name y py] kt pt] (.Tuple [a, b] k2 pt2) pos.line X.env = pure false := by rfl) :
    DS X B (.Assign [.Tuple [.Name x px, .Name y py] kt pt] (.Tuple [a, b] k2 pt2) pos) (sPar i j ta) := by
  refine ⟨ps_imp (L2.ps_par hc hN hi hj hij hx hy ha.run hw hs) fun D σ H ⟨h, m, C, r, D0, S, t, k⟩ => ?_⟩
  refine ⟨h, m, C, r, _, S, t, fun ds C1 m1 H1 vs q1 hl x1 R1 r1 => ?_⟩
  match ds, q1 with
  | [d, e], q1 =>
    obtain ⟨v, w, rfl, p1, p2⟩ := reps2 r1
    have S1 := S.ext x1 R1
    exact ⟨v, w, rfl, Fol.nx (Fol.ext k x1) ⟨R1, (S1.en.set i p1).set j p2, S1.base, S1.st⟩ q1⟩
theorem ds_par3 {i j l : Nat} {x y z : Str} {a b c : Expr} {ta : RA} {px py pz pt : Pos} {kt k2 pt2} (hc : X.calm = true) (hN : X.N.Nodup) (hi : X.N[i]? = some x) (hj : X.N[j]? = some y) (hl : X.N[l]? = some z) (hij : i ≠ j) (hil : i ≠ l) (hjl : j ≠ l)
    (hx : X.env.scope.names.lookup x = some .local) (hy : X.env.scope.names.lookup y = some .local) (hz' : X.env.scope.names.lookup z = some .local) (ha : DA X B [a, b, c] ta)
    (hw : swappedStores [.Tuple [.Name x px, .Name y py, .Name z pz] kt pt] (.Tuple [a, b, c] k2 pt2) X.env = pure (some [x, y, z]) := by rfl)
    (hs : swapsWithSole [.Tuple [.Name x px, .Name y py, .Name z pz] kt pt] (.Tuple [a, b, c] k2 pt2) pos.line X.env = pure false := by rfl) :
    DS X B (.Assign [.Tuple [.Name x px, .Name y py, .Name z pz] kt pt] (.Tuple [a, b, c] k2 pt2) pos) (sPar3 i j l ta) := by
  refine ⟨ps_imp (L2.ps_par3 hc hN hi hj hl hij hil hjl hx hy hz' ha.run hw hs) fun D σ H ⟨h, m, C, r, D0, S, t, k⟩ => ?_⟩
  refine ⟨h, m, C, r, _, S, t, fun ds C1 m1 H1 vs q1 hl x1 R1 r1 => ?_⟩
  match ds, q1 with
  | [d, e, f], q1 =>
    obtain ⟨v, vr, rfl, p1, p2⟩ := r1
    obtain ⟨v2, v3, rfl, p3, p4⟩ := reps2 p2
    have S1 := S.ext x1 R1
    exact ⟨v, v2, v3, rfl, Fol.nx (Fol.ext k x1) ⟨R1, ((S1.en.set i p1).set j p3).set l p4, S1.base, S1.st⟩ q1⟩
theorem ds_expr (he : DE X B e te) (hs : swapsWith e none pos.line X.env = pure false := by rfl) : DS X B (.Expr e pos) (sDrop te) := by
  refine ⟨ps_imp (ps_expr he.run hs) fun D σ H ⟨h, m, C, r, D0, S, t, k⟩ => ?_⟩
  exact ⟨h, m, C, r, _, S, t, fun d C1 m1 H1 v1 q1 x1 R1 r1 => Fol.nx (Fol.ext k x1) (S.ext x1 R1) q1⟩
theorem ds_doc {x j pos pos'} : DS X B (.Expr (.Constant (.str x) j pos) pos') sNext := by
  refine ⟨ps_imp ps_doc fun D σ H ⟨h, m, C, r, D0, S, t, k⟩ => Fol.nx k S t⟩
theorem ds_ret (he : DE X B e te) : DS X B (.Return (some e) pos) (sRet te) := by
  refine ⟨ps_imp (ps_ret he.run) fun D σ H ⟨h, m, C, r, D0, S, t, k⟩ => ?_⟩
  exact ⟨h, m, C, r, _, S, t, fun d C1 m1 H1 v1 q1 x1 R1 r1 => (k m1 H1 C1 x1 R1).2.2.2 d v1 q1 r1⟩
theorem ds_retN : DS X B (.Return none pos) sRetN := by
  refine ⟨ps_imp ps_retN fun D σ H ⟨h, m, C, r, D0, S, t, k⟩ => (k m H C Ext.refl S.rl).2.2.2 .non .non t rfl⟩
theorem ds_pass : DS X B (.Pass pos) sNext := by
  refine ⟨ps_imp ps_pass fun D σ H ⟨h, m, C, r, D0, S, t, k⟩ => Fol.nx k S t⟩
theorem ds_break : DS X B (.Break pos) sBrk := by
  refine ⟨ps_imp ps_break fun D σ H ⟨h, m, C, r, D0, S, t, k⟩ => (k m H C Ext.refl S.rl).2.1 r σ t S⟩
theorem ds_cont : DS X B (.Continue pos) sCnt := by
  refine ⟨ps_imp ps_continue fun D σ H ⟨h, m, C, r, D0, S, t, k⟩ => (k m H C Ext.refl S.rl).2.2.1 r σ t S⟩
theorem dss_nil : DSs X B [] sNext := by
  refine ⟨pss_imp pss_nil fun D σ H ⟨h, m, C, r, D0, S, t, k⟩ => Fol.nx k S t⟩
theorem dss_one (h1 : DS X B st t) : DSs X B [st] t := ⟨pss_one h1.run⟩
theorem dss_cons (h1 : DS X B st t) (h2 : DSs X B rest u) : DSs X B (st :: rest) (sSeq t u) := by
  refine ⟨pss_imp (pss_cons h1.run h2.run) fun D σ H ⟨h, m, C, r, D0, S, t, k⟩ => ?_⟩
  refine ⟨h, m, C, r, _, S, t, fun m' H' C' x R => ?_⟩
  obtain ⟨k1, k2, k3, k4⟩ := k m' H' C' x R
  exact ⟨fun r' σ' q S' => ⟨h, m', C', r', D0, S', q, Fol.ext k x⟩, k2, k3, k4⟩
theorem ds_if {c : Expr} {a b : List Stmt} {tc : RT} (hc : DT X B c tc) (ha : DSs X B a t) (hb : DSs X B b u) : DS X B (.If c a b pos) (sIf tc t u) := by
  refine ⟨ps_imp (ps_if hc.run ha.run hb.run) fun D σ H ⟨h, m, C, r, D0, S, t, k⟩ => ?_⟩
  refine ⟨h, m, C, r, _, S, t, fun b C1 m1 H1 q1 x1 R1 => ?_⟩
  cases b with
  | true => exact ⟨h, m1, C1, r, D0, S.ext x1 R1, q1, Fol.ext k x1⟩
  | false => exact ⟨h, m1, C1, r, D0, S.ext x1 R1, q1, Fol.ext k x1⟩
/-- name op= e -/
def sAug (i : Nat) (o : O2) (te : RE) : RS := fun D r C => opt (r.getD i none) fun x => te r C fun y C1 => o x y C1 fun z C2 => D.nx (r.set i (some z)) C2
theorem ds_aug {i : Nat} {x : Str} {op : Operator} {q : R2} {o : O2} {pos' : Pos} (hN : X.N.Nodup) (hi : X.N[i]? = some x) (hx : Loc X.env.scope x) (he : DE X B e te) (ho : PIp X op q) (od : OpD X.K q o) (hf : X.fn x = true ∨ X.env.scope.names.lookup x = some .local := by first | exact .inl rfl | exact .inr rfl | assumption) :
    DS X B (.AugAssign (.Name x pos') op e pos) (sAug i o te) := by
  refine ⟨ps_imp (ps_aug hN hi hx he.run ho hf) fun D σ H ⟨h, m, C, r, D0, S, t, k⟩ => ?_⟩
  obtain ⟨d, e, t⟩ := opt_iff.mp t
  obtain ⟨v, hv, rp⟩ := S.en.get i d (getD_some e)
  refine ⟨v, hv, h, m, C, r, _, S, t, fun d2 C2 m2 H2 v2 q2 x2 R2 r2 => ?_⟩
  refine od h m2 C2 H2 d d2 v v2 _ _ R2 (x2.rep rp) r2 q2 fun z C3 m3 H3 v3 q3 x3 R3 r3 => ?_
  have S3 := (S.ext x2 R2).ext x3 R3
  exact Fol.nx (Fol.ext k (x2.trans x3)) ⟨R3, S3.en.set i r3, S3.base, S3.st⟩ q3
theorem ds_augAdd {i : Nat} {x : Str} {pos' : Pos} (hN : X.N.Nodup) (hi : X.N[i]? = some x) (hx : Loc X.env.scope x) (he : DE X B e te) (hf : X.fn x = true ∨ X.env.scope.names.lookup x = some .local := by first | exact .inl rfl | exact .inr rfl | assumption) :
    DS X B (.AugAssign (.Name x pos') .Add e pos) (sAug i (oI fun i j => .int (i + j)) te) := ds_aug hN hi hx he iop_add (od_I fun _ _ _ _ => rfl) hf
theorem ds_augSub {i : Nat} {x : Str} {pos' : Pos} (hN : X.N.Nodup) (hi : X.N[i]? = some x) (hx : Loc X.env.scope x) (he : DE X B e te) (hf : X.fn x = true ∨ X.env.scope.names.lookup x = some .local := by first | exact .inl rfl | exact .inr rfl | assumption) :
    DS X B (.AugAssign (.Name x pos') .Sub e pos) (sAug i (oI fun i j => .int (i - j)) te) := ds_aug hN hi hx he iop_sub (od_I fun _ _ _ _ => rfl) hf
end
end DL
/-! DL6: for, while, list comprehensions. -/
namespace DL
open PySem PySem.Spec PyProof.Rows L2
theorem ite_t {p q : Prop} (h : p) : if true = true then p else q := h
theorem ite_f {p q : Prop} (h : q) : if false = true then p else q := h
def sFor (it : RI) (g : RG) (body : RS) : RS := fun D r C => it r C fun items G C1 => ∃ I : Nat → Ev → Cs → Prop, I 0 r C1 ∧ (∀ i r C, i ≤ items.length → I i r C → G C) ∧
  (∀ i d r C, items[i]? = some d → I i r C → g d r C fun r2 C2 => body { nx := I (i + 1), rt := D.rt, bk := D.nx, ct := I (i + 1) } r2 C2) ∧ ∀ r C, I items.length r C → D.nx r C
def sWhile (c : RT) (body : RS) : RS := fun D r C => ∃ W : Nat → Ev → Cs → Prop, (∃ n, W n r C) ∧ ∀ n r C, W n r C → c r C fun b C1 =>
  if b = true then body { nx := fun r C => ∃ k, k < n ∧ W k r C, rt := D.rt, bk := D.nx, ct := fun r C => ∃ k, k < n ∧ W k r C } r C1 else D.nx r C1
section
variable {X : Cx} {B : BS} {tg iter c : Expr} {body : List Stmt} {it : RI} {g : RG} {t : RS} {tc : RT} {pos : Pos} {vs : List Nat}
theorem ds_for (hp : PassesOwn (model X.prog X.w) X.A X.env X.xe) (hc : X.calm = true) (hi : DI X B tg iter it) (hg : DG X B vs tg g) (hb : DSs X B body t)
    (hs : ∀ x, foldedSetIterable iter X.env x = pure x := by intro _; rfl) : DS X B (.For tg iter body [] pos) (sFor it g t) := by
  refine ⟨ps_imp (ps_for hp hc hi.run hg.run hb.run hs) fun D σ H ⟨h, m, C, r, D0, S, t, k⟩ => ?_⟩
  refine ⟨h, m, C, r, _, S, t, fun items G C1 m1 H1 J q hz x R gd jok => ?_⟩
  obtain ⟨I, i0, iG, step, stop⟩ := q
  refine ⟨fun i n σ' H' => n = items.length - i ∧ i ≤ items.length ∧ ∃ m' C' r', Ext h m1 H1 h m' H' ∧ Sta X.K B h m' C' r' σ' H' ∧ I i r' C', ⟨_, rfl, Nat.zero_le _, m1, C1, r, Ext.refl, S.ext x R, i0⟩, ?_⟩
  rintro i n σ' H' ⟨hn, hi, m', C', r', x', S', q'⟩
  obtain ⟨j1, j2, j3⟩ := jok h m' C' H' x' S'.rl (iG i r' C' hi q')
  by_cases hlt : i < items.length
  · refine .inr ⟨j1 i hlt, fun σ2 H2 => ∃ n', n' < n ∧ n' = items.length - (i + 1) ∧ (i + 1) ≤ items.length ∧ ∃ m2 C2 r2, Ext h m1 H1 h m2 H2 ∧ Sta X.K B h m2 C2 r2 σ2 H2 ∧ I (i + 1) r2 C2, fun σ2 H2 ⟨n', a, b⟩ => ⟨n', a, b⟩, fun v H2 y => ?_⟩
    obtain ⟨d, e, x2, R2, rd⟩ := j3 i v H2 hlt y
    have S2 := S'.ext x2 R2
    refine ⟨h, m', C', r', d, _, S2, rd, step i d r' C' e q', fun r3 C3 m3 H3 σ3 q3 x3 S3 _ => ?_⟩
    have xx := (x'.trans x2).trans x3
    have nxt : ∀ m4 H4 C4 r4 σ4, Ext h m3 H3 h m4 H4 → I (i + 1) r4 C4 → Sta X.K B h m4 C4 r4 σ4 H4 → ∃ n', n' < n ∧ n' = items.length - (i + 1) ∧ (i + 1) ≤ items.length ∧ ∃ m2 C2 r2, Ext h m1 H1 h m2 H4 ∧ Sta X.K B h m2 C2 r2 σ4 H4 ∧ I (i + 1) r2 C2 := fun m4 H4 C4 r4 σ4 x4 q4 S4 =>
      ⟨_, by omega, rfl, hlt, m4, C4, r4, xx.trans x4, S4, q4⟩
    refine ⟨h, m3, C3, r3, _, S3, q3, fun m4 H4 C4 x4 R4 => ?_⟩
    obtain ⟨k1, k2, k3, k4⟩ := k m4 H4 C4 ((x.trans xx).trans x4) R4
    exact ⟨fun r4 σ4 q4 S4 => nxt m4 H4 C4 r4 σ4 x4 q4 S4, fun r4 σ4 q4 S4 => k1 r4 σ4 q4 S4, fun r4 σ4 q4 S4 => nxt m4 H4 C4 r4 σ4 x4 q4 S4, k4⟩
  · have e : i = items.length := by omega
    subst e
    exact .inl ⟨j2, Fol.nx (Fol.ext k (x.trans x')) S' (stop r' C' q')⟩
theorem ds_while (hp : PassesOwn (model X.prog X.w) X.A X.env X.xe) (hc : DT X B c tc) (hb : DSs X B body t) : DS X B (.While c body [] pos) (sWhile tc t) := by
  refine ⟨ps_imp (ps_while hp hc.run hb.run) fun D σ H ⟨h, m, C, r, D0, S, t, k⟩ => ?_⟩
  obtain ⟨W, ⟨n0, w0⟩, step⟩ := t
  refine ⟨fun n σ' H' => ∃ m' C' r', Ext h m H h m' H' ∧ Sta X.K B h m' C' r' σ' H' ∧ W n r' C', ⟨n0, m, C, r, Ext.refl, S, w0⟩, ?_⟩
  rintro n σ' H' ⟨m', C', r', x', S', q'⟩
  refine ⟨h, m', C', r', _, S', step n r' C' q', fun b C2 m2 H2 q2 x2 R2 => ?_⟩
  have S2 := S'.ext x2 R2
  have xx := x'.trans x2
  cases b with
  | false =>
    refine ite_f ?_
    exact Fol.nx (Fol.ext k xx) S2 q2
  | true =>
    refine ite_t ?_
    have nxt : ∀ m4 H4 C4 r4 σ4, Ext h m2 H2 h m4 H4 → (∃ k, k < n ∧ W k r4 C4) → Sta X.K B h m4 C4 r4 σ4 H4 → ∃ n', n' < n ∧ ∃ m' C' r', Ext h m H h m' H4 ∧ Sta X.K B h m' C' r' σ4 H4 ∧ W n' r' C' := fun m4 H4 C4 r4 σ4 x4 ⟨j, hj, q4⟩ S4 =>
      ⟨j, hj, m4, C4, r4, xx.trans x4, S4, q4⟩
    refine ⟨fun σ4 H4 => ∃ n', n' < n ∧ ∃ m' C' r', Ext h m H h m' H4 ∧ Sta X.K B h m' C' r' σ4 H4 ∧ W n' r' C', fun _ _ z => z, h, m2, C2, r', _, S2, q2, fun m4 H4 C4 x4 R4 => ?_⟩
    obtain ⟨k1, k2, k3, k4⟩ := k m4 H4 C4 (xx.trans x4) R4
    exact ⟨fun r4 σ4 q4 S4 => nxt m4 H4 C4 r4 σ4 x4 q4 S4, fun r4 σ4 q4 S4 => k1 r4 σ4 q4 S4, fun r4 σ4 q4 S4 => nxt m4 H4 C4 r4 σ4 x4 q4 S4, k4⟩
end

/-! ### list comprehensions -/
def wipeD (r : Ev) : List Nat → Ev
  | [] => r
  | v :: vs => (wipeD r vs).set v none
theorem En.wipe {K : PySem.W.Frag} {m : List Addr} {H0 : Hp} {r : Ev} {σ : L2.St} (e : En K m H0 r σ) : ∀ vs, En K m H0 (wipeD r vs) (L2.wipe σ vs)
  | [] => e
  | v :: vs => (En.wipe e vs).setN v none
theorem wipe_idem (σ : L2.St) (vs : List Nat) : wipe (wipe σ vs) vs = wipe σ vs := by
  refine List.ext_getElem? fun i => ?_
  have key : ∀ (us : List Nat) (τ : L2.St), (wipe τ us)[i]? = if i ∈ us then (if i < τ.length then some none else none) else τ[i]? := by
    intro us
    induction us with
    | nil => intro τ; simp [wipe]
    | cons v us ih =>
      intro τ
      show ((wipe τ us).set v none)[i]? = _
      rw [List.getElem?_set, ih, wipe_length]
      by_cases h : v = i
      · subst h
        simp
      · rw [if_neg h]
        have : (i ∈ v :: us) ↔ i ∈ us := by
          simp only [List.mem_cons]
          constructor
          · rintro (z | z)
            · exact absurd z.symm h
            · exact z
          · exact .inr
        simp only [this]
  rw [key, wipe_length]
  split
  · rename_i h
    rw [key, if_pos h]
  · rfl
abbrev BT : BS := fun _ _ _ => True
theorem stBT : Stable BT := fun _ _ _ _ _ _ _ => trivial
/-- the conditions of a comprehension -/
structure DTs (X : Cx) (B : BS) (es : List Expr) (t : RT) : Prop where
  run : PTs X es (upT X.K B t)
theorem pts_imp {X : Cx} {e : List Expr} {t t' : TT} (p : PTs X e t) (i : ∀ σ H Q, t' σ H Q → t σ H Q) : PTs X e t' := ⟨fun pins s σ H Q I h => p.run pins s σ H Q I (i σ H Q h)⟩
def cNil : RT := fun _ C Q => Q true C
section
variable {X : Cx} {B : BS} {e : Expr} {t : RT}
theorem dts_nil : DTs X B [] cNil := ⟨pts_imp pts_nil fun σ H Q ⟨h, m, C, r, Q0, S, t, k⟩ => k true C m H t Ext.refl S.rl⟩
theorem dts_one (he : DT X B e t) : DTs X B [e] t := ⟨pts_imp (pts_one he.run) fun σ H Q h => h⟩
end
/-- adding the list under way -/
theorem Rl.push {K : PySem.W.Frag} {h m : List Addr} {C : Cs} {H : Hp} (R : Rl K h m C H) {p : Addr} {o : HO} (np : H p = none) : Ext h m H (p :: h) m (upd H p o) ∧ Rl K (p :: h) m C (upd H p o) := by
  have nm := R.fresh np
  have hne : ∀ b, b ∈ h ++ m → b ≠ p := fun b hb e => nm (e ▸ hb)
  have hfz : ∀ a x, hz h m H a = some x → hz (p :: h) m (upd H p o) a = some x := fun a x e => by
    obtain ⟨z1, z2⟩ := off_some.mp e
    have hap : a ≠ p := ne_of_none z2 np
    exact off_some.mpr ⟨fun z => (List.mem_cons.mp z).elim hap z1, by rw [upd_ne hap]; exact z2⟩
  refine ⟨⟨List.suffix_cons _ _, List.prefix_refl _, hfz, fun a ha => upd_ne (hne a (List.mem_append_left _ ha))⟩, ⟨List.nodup_cons.mpr ⟨nm, R.nd⟩, R.len, fun n c e => ?_, fun a ha => ?_⟩⟩
  · obtain ⟨a, ha, k⟩ := R.cell n c e
    refine ⟨a, ha, ?_⟩
    cases c with
    | lst ds =>
      obtain ⟨vs, q, r⟩ := k
      exact ⟨vs, by rw [upd_ne (ne_of_none q np)]; exact q, Reps.mono (List.prefix_refl _) hfz ds r⟩
  · rcases List.mem_cons.mp ha with z | z
    · exact ⟨o, by rw [z]; exact upd_same⟩
    · obtain ⟨o', e⟩ := R.hid a z
      exact ⟨o', by rw [upd_ne (ne_of_none e np)]; exact e⟩
/-- writing a hidden object -/
theorem Rl.writeH {K : PySem.W.Frag} {h m : List Addr} {C : Cs} {H : Hp} (R : Rl K h m C H) {p : Addr} {o : HO} (hp : p ∈ h) : (∀ a x, hz h m H a = some x → hz h m (upd H p o) a = some x) ∧ Rl K h m C (upd H p o) := by
  have hfz : ∀ a x, hz h m H a = some x → hz h m (upd H p o) a = some x := fun a x e => by
    obtain ⟨z1, z2⟩ := off_some.mp e
    have hap : a ≠ p := fun z => z1 (z ▸ List.mem_append_left _ hp)
    exact off_some.mpr ⟨z1, by rw [upd_ne hap]; exact z2⟩
  refine ⟨hfz, ⟨R.nd, R.len, fun n c e => ?_, fun a ha => ?_⟩⟩
  · obtain ⟨a, ha, k⟩ := R.cell n c e
    have hap : a ≠ p := fun z => (List.nodup_append.mp R.nd).2.2 p hp a (List.mem_of_getElem? ha) z.symm
    refine ⟨a, ha, ?_⟩
    cases c with
    | lst ds =>
      obtain ⟨vs, q, r⟩ := k
      exact ⟨vs, by rw [upd_ne hap]; exact q, Reps.mono (List.prefix_refl _) hfz ds r⟩
  · obtain ⟨o', e⟩ := R.hid a ha
    by_cases z : a = p
    · exact ⟨o, by rw [z]; exact upd_same⟩
    · exact ⟨o', by rw [upd_ne z]; exact e⟩
/-- a block's text is in order -/
def isFn : ScopeKind → Bool
  | .function => true
  | _ => false
def blkB (N : List Str) (sc scope : Scope) (own : List (Str × Nat)) : Bool :=
  isFn scope.kind && scope.names.all (fun y => scope.names.lookup y.1 == some y.2) && own.all (fun p => N[p.2]? == some p.1) &&
  scope.names.all (fun y => !(y.2 == .free) || (sc.names.lookup y.1 == some .cell || sc.names.lookup y.1 == some .free)) &&
  scope.names.all (fun y => !(y.2 == .local || y.2 == .cell) || ((own.map (·.1)).contains y.1 || !N.contains y.1))
abbrev Bk (X : Cx) (scope : Scope) (s : Shared) (H : Hp) (c : Addr) (cl : List (Str × Addr)) (fp : List Addr) : Cx := X.blk s H scope (compEnvC scope cl c X.env) fp
def dLcB (K0 : Bool) (it : RI) (g : RG) (tt : RT) (te : RE) (own : List Nat) : RE := fun r C Q => it r C fun items G C1 => ∃ I : Nat → List D → Cs → Prop, I 0 [] C1 ∧ (∀ i acc C, i ≤ items.length → I i acc C → G C) ∧
  (∀ i d acc C, items[i]? = some d → I i acc C → g d (wipeD r own) C fun r2 C2 => tt r2 C2 fun b C3 => if b = true then te r2 C3 fun y C4 => I (i + 1) (acc ++ [y]) C4 else I (i + 1) acc C3) ∧
  ∀ acc C, I items.length acc C → if K0 = true then Q (.cel C.length) (C ++ [.lst acc]) else Q (.lst acc) C
/-- the list is not written any more -/
abbrev dLc := dLcB false
/-- the list is a cell -/
abbrev dLcC := dLcB true
section
variable {X : Cx} {B : BS} {elt tg iter : Expr} {ifs : List Expr} {scope : Scope} {own : List (Str × Nat)} {pos : Pos} {it : RI} {g : RG} {tt : RT} {te : RE}
/-- the walk's reading, from the reading by data -/
theorem lc_up (K0 : Bool) {K : PySem.W.Frag} {σ : L2.St} {H : Hp} {Q : VK} {vs : List Nat} (z : upE K B (dLcB K0 it g tt te vs) σ H Q) :
    tLc (upI K B it) (upG K BT vs g) (upT K BT tt) (upE K BT te) vs σ H Q := by
  obtain ⟨h, m, C, r, Q0, S, t, k⟩ := z
  refine ⟨h, m, C, r, _, S, t, fun items G C1 m1 H1 J q hzl x R gd jok => ?_⟩
  intro P hP
  obtain ⟨I, i0, iG, step, stop⟩ := q
  obtain ⟨xp, Rp⟩ := R.push (o := .lst []) hP
  refine ⟨fun i n H' => n = items.length - i ∧ i ≤ items.length ∧ ∃ m' C' acc us, Ext h m1 H1 (P :: h) m' H' ∧ Rl K (P :: h) m' C' H' ∧ H' P = some (.lst us) ∧ Reps K m' (hz (P :: h) m' H') acc us ∧ acc.length ≤ i ∧ I i acc C',
    ⟨_, rfl, Nat.zero_le _, m1, C1, [], [], xp, Rp, upd_same, Reps.nil, Nat.le_refl _, i0⟩, ?_⟩
  rintro i n H' ⟨hn, hi, m', C', acc, us, x', R', eP, ru, hal, q'⟩
  -- seen from before the list was made
  obtain ⟨j1, j2, j3⟩ : (∀ i, i < items.length → J.go i H') ∧ J.stop items.length H' ∧ ∀ i v H2, i < items.length → J.yld i H' v H2 → ∃ d, items[i]? = some d ∧ Ext (P :: h) m' H' (P :: h) m' H2 ∧ Rl K (P :: h) m' C' H2 ∧ Rep K m' (hz (P :: h) m' H2) d v :=
    jok (P :: h) m' C' H' x' R' (iG i acc C' hi q')
  by_cases hlt : i < items.length
  · refine .inr ⟨j1 i hlt, fun H2 => ∃ n', n' < n ∧ n' = items.length - (i + 1) ∧ (i + 1) ≤ items.length ∧ ∃ m' C' acc us, Ext h m1 H1 (P :: h) m' H2 ∧ Rl K (P :: h) m' C' H2 ∧ H2 P = some (.lst us) ∧ Reps K m' (hz (P :: h) m' H2) acc us ∧ acc.length ≤ i + 1 ∧ I (i + 1) acc C', fun H2 ⟨n', a, b⟩ => ⟨n', a, b⟩, fun v H2 y => ?_⟩
    obtain ⟨d, e, x2, R2, rd⟩ := j3 i v H2 hlt y
    have S2 : Sta K BT (P :: h) m' C' (wipeD r vs) (wipe σ vs) H2 := by
      have e0 : En K m1 (hz h m1 H1) r σ := S.en.ext x
      have e1 : En K m' (hz (P :: h) m' H2) r σ := ⟨e0.len, fun i d q => let ⟨v, a, b⟩ := e0.get i d q; ⟨v, a, (x'.trans x2).rep b⟩⟩
      exact ⟨R2, e1.wipe vs, trivial, stBT⟩
    refine ⟨P :: h, m', C', wipeD r vs, d, _, S2, rd, step i d acc C' e q', fun r3 C3 m3 H3 σ3 q3 x3 S3 hw => ⟨hw.trans (wipe_idem σ vs), ?_⟩⟩
    refine ⟨P :: h, m3, C3, r3, _, S3, q3, fun b C4 m4 H4 q4 x4 R4 => ?_⟩
    have S4 := S3.ext x4 R4
    have xx := ((x'.trans x2).trans x3).trans x4
    cases b with
    | false =>
      refine ite_f ?_
      exact ⟨_, by omega, rfl, hlt, m4, C4, acc, us, xx, R4, by rw [x4.hid P List.mem_cons_self, x3.hid P List.mem_cons_self, x2.hid P List.mem_cons_self]; exact eP, x4.reps (x3.reps (x2.reps ru)), by omega, q4⟩
    | true =>
      refine ite_t ?_
      refine ⟨P :: h, m4, C4, r3, _, S4, q4, fun y C5 m5 H5 w q5 x5 R5 r5 => ?_⟩
      have ru5 := x5.reps (x4.reps (x3.reps (x2.reps ru)))
      have eP5 : H5 P = some (.lst us) := by rw [x5.hid P List.mem_cons_self, x4.hid P List.mem_cons_self, x3.hid P List.mem_cons_self, x2.hid P List.mem_cons_self]; exact eP
      obtain ⟨f6, R6⟩ := R5.writeH (p := P) (o := .lst (us ++ [w])) List.mem_cons_self
      have x6 := xx.trans x5
      refine ⟨us, eP5, by rw [← ru5.length]; omega, _, by omega, rfl, hlt, m5, C5, acc ++ [y], us ++ [w], ⟨x6.suf, x6.pre, fun a o e => f6 a o (x6.frz a o e), fun a ha => ?_⟩, R6, upd_same, Reps.mono (List.prefix_refl _) f6 _ (ru5.append (Reps.one r5)), by simp; omega, q5⟩
      rw [upd_ne, x6.hid a ha]
      intro z
      subst z
      have := R'.nd
      exact (List.nodup_cons.mp this).1 (List.mem_append_left _ ha)
  · have e : i = items.length := by omega
    subst e
    have nP : P ∉ h ++ m' := (List.nodup_cons.mp R'.nd).1
    refine .inl ⟨j2, ?_⟩
    have fin := stop acc C' q'
    have hsub : ∀ a o, hz (P :: h) m' H' a = some o → a ≠ P ∧ hz h m' H' a = some o := fun a o e => by
      obtain ⟨z1, z2⟩ := off_some.mp e
      exact ⟨fun z => z1 (z ▸ List.mem_cons_self), off_some.mpr ⟨fun z => z1 (List.mem_cons_of_mem _ z), z2⟩⟩
    have Rh : Rl K h m' C' H' := ⟨(List.nodup_cons.mp R'.nd).2, R'.len, fun n c e => by
      obtain ⟨a, ha, k⟩ := R'.cell n c e
      refine ⟨a, ha, ?_⟩
      cases c with
      | lst ds =>
        obtain ⟨vs, q, r⟩ := k
        exact ⟨vs, q, Reps.mono (List.prefix_refl _) (fun a o e => (hsub a o e).2) ds r⟩, fun a ha => R'.hid a (List.mem_cons_of_mem _ ha)⟩
    have xh : Ext h m1 H1 h m' H' := ⟨List.suffix_refl _, x'.pre, fun a o e => (hsub a o (x'.frz a o e)).2, x'.hid⟩
    cases K0 with
    | false =>
      rw [if_neg (by simp)] at fin
      exact k (.lst acc) C' m' H' (.ref P) fin (x.trans xh) Rh ⟨P, us, rfl, off_some.mpr ⟨nP, eP⟩, Reps.mono (List.prefix_refl _) (fun a o e => (hsub a o e).2) acc ru⟩
    | true =>
      rw [if_pos rfl] at fin
      have ea : h ++ (m' ++ [P]) = (h ++ m') ++ [P] := (List.append_assoc _ _ _).symm
      have hm2 : ∀ a o, hz (P :: h) m' H' a = some o → hz h (m' ++ [P]) H' a = some o := fun a o e => by
        obtain ⟨z0, z⟩ := hsub a o e
        obtain ⟨z1, z2⟩ := off_some.mp z
        refine off_some.mpr ⟨?_, z2⟩
        rw [ea]
        intro hm
        rcases List.mem_append.mp hm with w | w
        · exact z1 w
        · exact z0 (by simpa using w)
      have pre : m' <+: m' ++ [P] := List.prefix_append _ _
      refine k (.cel C'.length) (C' ++ [.lst acc]) (m' ++ [P]) H' (.ref P) fin (x.trans ⟨List.suffix_refl _, x'.pre.trans pre, fun a o e => hm2 a o (x'.frz a o e), x'.hid⟩) ⟨?_, by simp [R'.len], fun n c e => ?_, Rh.hid⟩ ⟨P, rfl, ?_⟩
      · rw [ea]
        exact List.nodup_append.mpr ⟨Rh.nd, by simp, fun a ha b hb e => nP (by have : b = P := by simpa using hb
                                                                               rw [← this, ← e]; exact ha)⟩
      · by_cases hn : n < C'.length
        · rw [List.getElem?_append_left hn] at e
          obtain ⟨a, ha, k⟩ := R'.cell n c e
          refine ⟨a, pre_get pre ha, ?_⟩
          cases c with
          | lst es =>
            obtain ⟨us, q, rr⟩ := k
            exact ⟨us, q, Reps.mono pre hm2 es rr⟩
        · have hn' : n = C'.length := by
            have := (List.getElem?_eq_some_iff.mp e).1
            simp at this
            omega
          subst hn'
          simp at e
          subst e
          exact ⟨P, by rw [← R'.len]; simp, us, eP, Reps.mono pre hm2 acc ru⟩
      · rw [← R'.len]
        simp
theorem blk_of {N : List Str} {sc scope : Scope} {own : List (Str × Nat)} (h : blkB N sc scope own = true) : BlkOk N sc scope own := by
  unfold blkB at h
  simp only [Bool.and_eq_true, List.all_eq_true] at h
  obtain ⟨⟨⟨⟨h1, h2⟩, h3⟩, h4⟩, h5⟩ := h
  refine ⟨?_, fun y hy => by simpa using h2 y hy, fun p hp => by simpa using h3 p hp, fun y hy e => ?_, fun y hy e => ?_⟩
  · cases hk : scope.kind <;> rw [hk] at h1 <;> first | rfl | cases h1
  · have := h4 y hy
    rw [e] at this
    simpa using this
  · have := h5 y hy
    rcases e with e | e <;> rw [e] at this <;> simpa using this
theorem de_lc (K0 : Bool) (hc : X.calm = true) (hN : X.N.Nodup) (ok : BlkOk X.N X.env.scope scope own) (hi : DI X B tg iter it)
    (hb : ∀ (s : Shared) (H : Hp) (c : Addr) (cl : List (Str × Addr)) (fp : List Addr), DG (Bk X scope s H c cl fp) BT (own.map (·.2)) tg g ∧ DTs (Bk X scope s H c cl fp) BT ifs tt ∧ DE (Bk X scope s H c cl fp) BT elt te)
    (hs : ∀ x, foldedSetIterable iter X.env x = pure x := by intro _; rfl) : DE X B (.ListComp elt [⟨tg, iter, ifs, 0⟩] scope pos) (dLcB K0 it g tt te (own.map (·.2))) :=
  ⟨pe_imp (pe_lc (g := upG X.K BT (own.map (·.2)) g) (tt := upT X.K BT tt) (te := upE X.K BT te) hc hN hi.run ok (fun s H c cl fp => (hb s H c cl fp).1.run) (fun s H c cl fp => (hb s H c cl fp).2.1.run) (fun s H c cl fp => (hb s H c cl fp).2.2.run) hs) fun σ H Q z => lc_up K0 z⟩
/-- name = [..], the name a plain local -/
theorem ds_setLc (K0 : Bool) {i : Nat} {y : Str} {py spos : Pos} (hc : X.calm = true) (hN : X.N.Nodup) (ok : BlkOk X.N X.env.scope scope own) (hy : X.N[i]? = some y) (hyl : X.env.scope.names.lookup y = some .local) (hi : DI X B tg iter it)
    (hb : ∀ (s : Shared) (H : Hp) (c : Addr) (cl : List (Str × Addr)) (fp : List Addr), DG (Bk X scope s H c cl fp) BT (own.map (·.2)) tg g ∧ DTs (Bk X scope s H c cl fp) BT ifs tt ∧ DE (Bk X scope s H c cl fp) BT elt te)
    (hsw : swapsWith (.ListComp elt [⟨tg, iter, ifs, 0⟩] scope pos) (some (.Name y py)) spos.line X.env = pure true := by rfl) (hs : ∀ x, foldedSetIterable iter X.env x = pure x := by intro _; rfl) :
    DS X B (.Assign [.Name y py] (.ListComp elt [⟨tg, iter, ifs, 0⟩] scope pos) spos) (sSet i (dLcB K0 it g tt te (own.map (·.2)))) := by
  refine ⟨ps_imp (ps_setLc (g := upG X.K BT (own.map (·.2)) g) (tt := upT X.K BT tt) (te := upE X.K BT te) hc hN hy hyl hsw hi.run ok (fun s H c cl fp => (hb s H c cl fp).1.run) (fun s H c cl fp => (hb s H c cl fp).2.1.run) (fun s H c cl fp => (hb s H c cl fp).2.2.run) hs) fun D σ H ⟨h, m, C, r, D0, S, t, k⟩ => ?_⟩
  refine lc_up (B := B) K0 ⟨h, m, C, r, _, S, t, fun d C1 m1 H1 v1 q1 x1 R1 r1 => ?_⟩
  have S1 := S.ext x1 R1
  exact Fol.nx (Fol.ext k x1) ⟨R1, S1.en.set i r1, S1.base, S1.st⟩ q1
end
end DL
/-! DL7: methods of lists and tuples; list(range), tuple(range). -/
namespace DL
open PySem PySem.Spec PyProof.Rows L2
abbrev OM := D → List D → Cs → QD → Prop
def MetD (K : PySem.W.Frag) (r : V → List V → Hp → VK → Prop) (o : OM) : Prop := ∀ h m C H d ds v vs Q0 Q, Rl K h m C H → Rep K m (hz h m H) d v → Reps K m (hz h m H) ds vs → o d ds C Q0 → Con K h m H Q0 Q → r v vs H Q
def dMl (o : OM) (to : RE) (t : RA) : RE := fun r C Q => to r C fun d C1 => opt (llD C1 d) fun _ => t r C1 fun ds C2 => o d ds C2 Q
def dMl0 (o : OM) (to : RE) : RE := fun r C Q => to r C fun d C1 => opt (llD C1 d) fun _ => o d [] C1 Q
def isTupD : D → Bool
  | .tup _ => true
  | _ => false
def dMt (o : OM) (to : RE) (t : RA) : RE := fun r C Q => to r C fun d C1 => isTupD d = true ∧ t r C1 fun ds C2 => o d ds C2 Q
section
variable {X : Cx} {B : BS} {o e : Expr} {es : List Expr} {to : RE} {t : RA} {name : Str} {apos cpos : Pos} {id : String} {rr : V → List V → Hp → VK → Prop} {om : OM}
theorem d_ml (slot : Slot "list" name id) (hty : typeOf (.builtin id) = pure (.type "method_descriptor")) (hm : MtR X id rr) (od : MetD X.K rr om) (ho : DE X B o to) (ha : DA X B (e :: es) t)
    (hbase : attributeBase o name X.env (eval o X.env) = eval o X.env := by rfl)
    (hfew : ((backTo cpos (starEach (e :: es) X.env)).all (fun x => !x.1) && (backToKw cpos (keywordEach [] X.env)).all (fun x => x.1.isSome)
      && decide ((e :: es).length + ([] : List Keyword).length + (if ([] : List Keyword).isEmpty then 0 else 1) < 30)) = true := by rfl)
    (hline : (apos.endLine == cpos.line) = true := by rfl) (hs : starEach (e :: es) X.env = (false, eval e X.env) :: starEach es X.env := by rfl) (hplain : (backTo cpos (starEach es X.env)).any (·.1) = false := by rfl) :
    DE X B (.Call (.Attribute o name apos) (e :: es) [] cpos) (dMl om to t) := by
  refine ⟨pe_imp (pe_bm PySem.F.plainAttrs_list slot hty hm ho.run ha.run hbase hfew hline hs hplain) fun σ H Q ⟨h, m, C, r, Q0, S, t, k⟩ => ?_⟩
  refine ⟨h, m, C, r, _, S, t, fun d C1 m1 H1 v1 q1 x1 R1 r1 => ?_⟩
  obtain ⟨xs, e1, q⟩ := opt_iff.mp q1
  obtain ⟨a, us, rfl, hq, ru⟩ := ll_ok R1 r1 e1
  refine ⟨.inl ⟨rfl, us, hq⟩, h, m1, C1, r, _, S.ext x1 R1, q, fun ds C2 m2 H2 vs q2 hl x2 R2 r2 => ?_⟩
  exact od h m2 C2 H2 d ds _ vs Q0 Q R2 (x2.rep r1) r2 q2 (Con.ext k (x1.trans x2))
theorem d_ml0 (slot : Slot "list" name id) (hty : typeOf (.builtin id) = pure (.type "method_descriptor")) (hm : MtR X id rr) (od : MetD X.K rr om) (ho : DE X B o to)
    (hbase : attributeBase o name X.env (eval o X.env) = eval o X.env := by rfl) (hline : (apos.endLine == cpos.line) = true := by rfl) :
    DE X B (.Call (.Attribute o name apos) [] [] cpos) (dMl0 om to) := by
  refine ⟨pe_imp (pe_bm0 PySem.F.plainAttrs_list slot hty hm ho.run hbase hline) fun σ H Q ⟨h, m, C, r, Q0, S, t, k⟩ => ?_⟩
  refine ⟨h, m, C, r, _, S, t, fun d C1 m1 H1 v1 q1 x1 R1 r1 => ?_⟩
  obtain ⟨xs, e1, q⟩ := opt_iff.mp q1
  obtain ⟨a, us, rfl, hq, ru⟩ := ll_ok R1 r1 e1
  refine ⟨.inl ⟨rfl, us, hq⟩, ?_⟩
  exact od h m1 C1 H1 d [] _ [] Q0 Q R1 r1 rfl q (Con.ext k x1)
theorem d_mt (slot : Slot "tuple" name id) (hty : typeOf (.builtin id) = pure (.type "method_descriptor")) (hm : MtR X id rr) (od : MetD X.K rr om) (ho : DE X B o to) (ha : DA X B (e :: es) t)
    (hbase : attributeBase o name X.env (eval o X.env) = eval o X.env := by rfl)
    (hfew : ((backTo cpos (starEach (e :: es) X.env)).all (fun x => !x.1) && (backToKw cpos (keywordEach [] X.env)).all (fun x => x.1.isSome)
      && decide ((e :: es).length + ([] : List Keyword).length + (if ([] : List Keyword).isEmpty then 0 else 1) < 30)) = true := by rfl)
    (hline : (apos.endLine == cpos.line) = true := by rfl) (hs : starEach (e :: es) X.env = (false, eval e X.env) :: starEach es X.env := by rfl) (hplain : (backTo cpos (starEach es X.env)).any (·.1) = false := by rfl) :
    DE X B (.Call (.Attribute o name apos) (e :: es) [] cpos) (dMt om to t) := by
  refine ⟨pe_imp (pe_bmT slot hty hm ho.run ha.run hbase hfew hline hs hplain) fun σ H Q ⟨h, m, C, r, Q0, S, t, k⟩ => ?_⟩
  refine ⟨h, m, C, r, _, S, t, fun d C1 m1 H1 v1 q1 x1 R1 r1 => ?_⟩
  obtain ⟨ht, q⟩ := q1
  cases d <;> first | (cases ht; done) | skip
  have r1' := r1
  obtain ⟨a, us, ob, rfl, e, hd, ru⟩ := r1'
  refine ⟨⟨a, ob, us, rfl, hz_sub e, hd⟩, h, m1, C1, r, _, S.ext x1 R1, q, fun ds C2 m2 H2 vs q2 hl x2 R2 r2 => ?_⟩
  exact od h m2 C2 H2 _ ds _ vs Q0 Q R2 (x2.rep r1) r2 q2 (Con.ext k (x1.trans x2))
end
section
variable {K : PySem.W.Frag} {h m : List Addr} {C : Cs} {H : Hp} {v : V} {xs : List D} {n : Nat}
theorem cel_ok (R : Rl K h m C H) (r : Rep K m (hz h m H) (.cel n) v) (e : lsD C (.cel n) = some xs) : ∃ a us, v = .ref a ∧ m[n]? = some a ∧ C[n]? = some (.lst xs) ∧ H a = some (.lst us) ∧ Reps K m (hz h m H) xs us := by
  obtain ⟨a, rfl, ea⟩ := r
  have hc : C[n]? = some (.lst xs) := by
    have e1' : (match C[n]? with | some (.lst xs) => some xs | none => none) = some xs := e
    cases hc : C[n]? with
    | none => rw [hc] at e1'; cases e1'
    | some c => cases c; rw [hc] at e1'; cases e1'; rfl
  obtain ⟨b, hb, us, k1, k2⟩ := R.cell n _ hc
  rw [ea] at hb
  cases hb
  exact ⟨a, us, rfl, ea, hc, k1, k2⟩
theorem Con.wr {Q0 : QD} {Q : VK} {a : Addr} {ys : List D} {us : List V} {d : D} {w : V} (k : Con K h m H Q0 Q) (R : Rl K h m C H) (hc : C[n]? = some (.lst xs)) (ha : m[n]? = some a) (ru : Reps K m (hz h m H) ys us) (rd : Rep K m (hz h m H) d w) (q : Q0 d (C.set n (.lst ys))) : Q w (upd H a (.lst us)) := by
  obtain ⟨x, R'⟩ := R.write hc ha ru
  exact k d _ m _ w q x R' (x.rep rd)
end
def oApp : OM := fun d ds C Q => match d, ds with
  | .cel n, [y] => opt (lsD C (.cel n)) fun xs => xs.length < sizeLine ∧ Q .non (C.set n (.lst (xs ++ [y])))
  | _, _ => False
theorem md_app {K : PySem.W.Frag} : MetD K rAppend oApp := by
  intro h m C H d ds v vs Q0 Q R r rs o k
  match d, ds, o with
  | .cel n, [y], o =>
    obtain ⟨xs, e, hl, q⟩ := opt_iff.mp o
    obtain ⟨a, us, rfl, ha, hc, hH, ru⟩ := cel_ok R r e
    obtain ⟨w, rfl, rw'⟩ := reps1 rs
    exact ⟨a, us, w, rfl, rfl, hH, by rw [← ru.length]; exact hl, k.wr R hc ha (ru.append (.one rw')) (d := .non) rfl q⟩
def oPop : OM := fun d ds C Q => match d, ds with
  | .cel n, [] => opt (lsD C (.cel n)) fun xs => opt xs[xs.length - 1]? fun y => Q y (C.set n (.lst xs.dropLast))
  | _, _ => False
theorem md_pop {K : PySem.W.Frag} : MetD K rPop oPop := by
  intro h m C H d ds v vs Q0 Q R r rs o k
  match d, ds, o with
  | .cel n, [], o =>
    obtain ⟨xs, e, o⟩ := opt_iff.mp o
    obtain ⟨y, ey, q⟩ := opt_iff.mp o
    obtain ⟨a, us, rfl, ha, hc, hH, ru⟩ := cel_ok R r e
    obtain rfl := reps0 rs
    obtain ⟨w, ew, rw'⟩ := ru.get ey
    exact ⟨a, us, w, rfl, rfl, hH, by rw [← ru.length]; exact ew, k.wr R hc ha ru.dropLast rw' q⟩
def oPopAt : OM := fun d ds C Q => match d, ds with
  | .cel n, [.int i] => opt (lsD C (.cel n)) fun xs => (-(2 ^ 63) ≤ i ∧ i < 2 ^ 63) ∧ opt (seqIndex? i xs.length) fun j => opt xs[j]? fun y => Q y (C.set n (.lst (xs.eraseIdx j)))
  | _, _ => False
theorem md_popAt {K : PySem.W.Frag} : MetD K rPopAt oPopAt := by
  intro h m C H d ds v vs Q0 Q R r rs o k
  match d, ds, o with
  | .cel n, [.int i], o =>
    obtain ⟨xs, e, ⟨b1, b2⟩, o⟩ := opt_iff.mp o
    obtain ⟨j, ej, o⟩ := opt_iff.mp o
    obtain ⟨y, ey, q⟩ := opt_iff.mp o
    obtain ⟨a, us, rfl, ha, hc, hH, ru⟩ := cel_ok R r e
    obtain ⟨u, rfl, r1⟩ := reps1 rs
    have e1 : u = .int i := r1
    subst e1
    obtain ⟨w, ew, rw'⟩ := ru.get ey
    exact ⟨a, us, i, j, w, rfl, rfl, hH, b1, b2, by rw [← ru.length]; exact ej, ew, k.wr R hc ha (ru.eraseIdx j) rw' q⟩
abbrev rInsert : V → List V → Hp → VK → Prop := fun x vs H Q => ∃ (l : Addr) (xs : List V) (i : Int) (y : V), x = .ref l ∧ vs = [.int i, y] ∧ H l = some (.lst xs) ∧ xs.length < sizeLine ∧ 0 ≤ i ∧ i < 2 ^ 63 ∧
    Q .non (upd H l (.lst (xs.take i.toNat ++ [y] ++ xs.drop i.toNat)))
def oIns : OM := fun d ds C Q => match d, ds with
  | .cel n, [.int i, y] => opt (lsD C (.cel n)) fun xs => (xs.length < sizeLine ∧ 0 ≤ i ∧ i < 2 ^ 63) ∧ Q .non (C.set n (.lst (xs.take i.toNat ++ [y] ++ xs.drop i.toNat)))
  | _, _ => False
theorem md_ins {K : PySem.W.Frag} : MetD K rInsert oIns := by
  intro h m C H d ds v vs Q0 Q R r rs o k
  match d, ds, o with
  | .cel n, [.int i, y], o =>
    obtain ⟨xs, e, ⟨hl, b1, b2⟩, q⟩ := opt_iff.mp o
    obtain ⟨a, us, rfl, ha, hc, hH, ru⟩ := cel_ok R r e
    obtain ⟨u, w, rfl, r1, rw'⟩ := reps2 rs
    have e1 : u = .int i := r1
    subst e1
    exact ⟨a, us, i, w, rfl, rfl, hH, by rw [← ru.length]; exact hl, b1, b2, k.wr R hc ha (((ru.take _).append (.one rw')).append (ru.drop _)) (d := .non) rfl q⟩
def oCnt : OM := fun d ds C Q => match ds with
  | [.int k] => opt (llD C d) fun xs => opt (intsD xs) fun ns => Q (.int (ns.count k : Nat)) C
  | _ => False
theorem md_cnt {K : PySem.W.Frag} : MetD K (rCntI K) oCnt := by
  intro h m C H d ds v vs Q0 Q R r rs o k
  match ds, o with
  | [.int i], o =>
    obtain ⟨xs, e, o⟩ := opt_iff.mp o
    obtain ⟨ns, e2, q⟩ := opt_iff.mp o
    obtain ⟨a, us, rfl, hq, ru⟩ := ll_ok R r e
    rw [ints_rep ru e2] at hq
    obtain ⟨u, rfl, r1⟩ := reps1 rs
    have e1 : u = .int i := r1
    subst e1
    exact ⟨a, ns, i, rfl, rfl, hq, k.int R q⟩
def oRem : OM := fun d ds C Q => match d, ds with
  | .cel n, [.int i] => opt (lsD C (.cel n)) fun xs => opt (intsD xs) fun ns => i ∈ ns ∧ Q .non (C.set n (.lst ((ns.erase i).map D.int)))
  | _, _ => False
theorem idxOf_spec {ns : List Int} {i : Int} (h : i ∈ ns) : ns[ns.idxOf i]? = some i ∧ ∀ m : Nat, m < ns.idxOf i → ns[m]? ≠ some i := by
  have hl : ns.idxOf i < ns.length := List.idxOf_lt_length_iff.mpr h
  refine ⟨by rw [List.getElem?_eq_getElem hl, List.getElem_idxOf], fun m hm e => ?_⟩
  obtain ⟨h1, h2⟩ := List.getElem?_eq_some_iff.mp e
  have := List.not_of_lt_findIdx (xs := ns) (p := (· == i)) (i := m) (by simpa [List.idxOf] using hm)
  simp [h2] at this
theorem erase_idx {ns : List Int} {i : Int} : ns.eraseIdx (ns.idxOf i) = ns.erase i := by
  rw [List.erase_eq_eraseIdx_of_idxOf rfl]
theorem md_rem {K : PySem.W.Frag} : MetD K rRemI oRem := by
  intro h m C H d ds v vs Q0 Q R r rs o k
  match d, ds, o with
  | .cel n, [.int i], o =>
    obtain ⟨xs, e, o⟩ := opt_iff.mp o
    obtain ⟨ns, e2, hm, q⟩ := opt_iff.mp o
    obtain ⟨a, us, rfl, ha, hc, hH, ru⟩ := cel_ok R r e
    rw [ints_rep ru e2] at hH
    obtain ⟨u, rfl, r1⟩ := reps1 rs
    have e1 : u = .int i := r1
    subst e1
    obtain ⟨i1, i2⟩ := idxOf_spec hm
    refine ⟨a, ns, i, ns.idxOf i, rfl, rfl, hH, i1, i2, ?_⟩
    rw [erase_idx]
    exact k.wr R hc ha Reps.ints (d := .non) rfl q
theorem eqV_ints {i j : Int} : eqV (.int i) (.int j) = (i == j) := by first | rfl | simp [eqV]
def oIdx : OM := fun d ds C Q => match ds with
  | [.int k] => opt (llD C d) fun xs => opt (intsD xs) fun ns => k ∈ ns ∧ Q (.int (ns.idxOf k : Nat)) C
  | _ => False
def oIdxT : OM := fun d ds C Q => match d, ds with
  | .tup xs, [.int k] => opt (intsD xs) fun ns => k ∈ ns ∧ Q (.int (ns.idxOf k : Nat)) C
  | _, _ => False
theorem ints_flat (ns : List Int) : (ns.map V.int).all flatV = true := by
  rw [List.all_map]
  exact List.all_eq_true.mpr fun _ _ => rfl
theorem md_idx {K : PySem.W.Frag} : MetD K (rIndex K) oIdx := by
  intro h m C H d ds v vs Q0 Q R r rs o k
  match ds, o with
  | [.int i], o =>
    obtain ⟨xs, e, o⟩ := opt_iff.mp o
    obtain ⟨ns, e2, hm, q⟩ := opt_iff.mp o
    obtain ⟨a, us, rfl, hq, ru⟩ := ll_ok R r e
    rw [ints_rep ru e2] at hq
    obtain ⟨u, rfl, r1⟩ := reps1 rs
    have e1 : u = .int i := r1
    subst e1
    obtain ⟨i1, i2⟩ := idxOf_spec hm
    refine ⟨a, ns.map V.int, .int i, ns.idxOf i, .int i, rfl, rfl, hq, rfl, ints_flat ns, by rw [List.getElem?_map, i1]; rfl, by rw [eqV_ints]; simp, fun mm z' hmm hz => ?_, k.int R q⟩
    rw [List.getElem?_map] at hz
    cases hg : ns[mm]? with
    | none => rw [hg] at hz; cases hz
    | some w =>
      rw [hg] at hz
      cases hz
      rw [eqV_ints]
      exact beq_eq_false_iff_ne.mpr fun z => i2 mm hmm (by rw [hg, z])
theorem md_idxT {K : PySem.W.Frag} : MetD K (rTIndex K) oIdxT := by
  intro h m C H d ds v vs Q0 Q R r rs o k
  match d, ds, o with
  | .tup xs, [.int i], o =>
    obtain ⟨ns, e2, hm, q⟩ := opt_iff.mp o
    obtain ⟨a, us, ob, rfl, e, hd, ru⟩ := tp_ok R r rfl
    rw [ints_rep ru e2] at e
    obtain ⟨u, rfl, r1⟩ := reps1 rs
    have e1 : u = .int i := r1
    subst e1
    obtain ⟨i1, i2⟩ := idxOf_spec hm
    refine ⟨a, ns.map V.int, .int i, ns.idxOf i, .int i, rfl, rfl, .inl (.inr ⟨ob, e⟩), rfl, ints_flat ns, by rw [List.getElem?_map, i1]; rfl, by rw [eqV_ints]; simp, fun mm z' hmm hz => ?_, k.int R q⟩
    rw [List.getElem?_map] at hz
    cases hg : ns[mm]? with
    | none => rw [hg] at hz; cases hz
    | some w =>
      rw [hg] at hz
      cases hz
      rw [eqV_ints]
      exact beq_eq_false_iff_ne.mpr fun z => i2 mm hmm (by rw [hg, z])
/-- xs.sort(), ints -/
def oSort : OM := fun d ds C Q => match d, ds with
  | .cel n, [] => opt (lsD C (.cel n)) fun xs => opt (intsD xs) fun ns => ∀ ns' : List Int, ns'.Perm ns → ns'.Pairwise (· ≤ ·) → Q .non (C.set n (.lst (ns'.map D.int)))
  | _, _ => False
theorem md_sort {K : PySem.W.Frag} : MetD K rSortI oSort := by
  intro h m C H d ds v vs Q0 Q R r rs o k
  match d, ds, o with
  | .cel n, [], o =>
    obtain ⟨xs, e, o⟩ := opt_iff.mp o
    obtain ⟨ns, e2, q⟩ := opt_iff.mp o
    obtain ⟨a, us, rfl, ha, hc, hH, ru⟩ := cel_ok R r e
    rw [ints_rep ru e2] at hH
    obtain rfl := reps0 rs
    exact ⟨a, ns, rfl, rfl, hH, fun ns' p1 p2 => k.wr R hc ha Reps.ints (d := .non) rfl (q ns' p1 p2)⟩
section
variable {X : Cx} {B : BS} {o e : Expr} {es : List Expr} {to : RE} {t : RA} {apos cpos : Pos}
theorem d_append (ho : DE X B o to) (ha : DA X B [e] t) (hbase : attributeBase o "append" X.env (eval o X.env) = eval o X.env := by rfl) (hline : (apos.endLine == cpos.line) = true := by rfl)
    (hs : starEach [e] X.env = (false, eval e X.env) :: starEach [] X.env := by rfl) (hfew : ((backTo cpos (starEach (e :: []) X.env)).all (fun x => !x.1) && (backToKw cpos (keywordEach [] X.env)).all (fun x => x.1.isSome) && decide ((e :: ([] : List Expr)).length + ([] : List Keyword).length + (if ([] : List Keyword).isEmpty then 0 else 1) < 30)) = true := by rfl) : DE X B (.Call (.Attribute o "append" apos) [e] [] cpos) (dMl oApp to t) :=
  d_ml PySem.F.slot_list_append rfl mt_append md_app ho ha hbase hfew hline hs rfl
theorem d_pop (ho : DE X B o to) (hbase : attributeBase o "pop" X.env (eval o X.env) = eval o X.env := by rfl) (hline : (apos.endLine == cpos.line) = true := by rfl) : DE X B (.Call (.Attribute o "pop" apos) [] [] cpos) (dMl0 oPop to) :=
  d_ml0 PySem.F.slot_list_pop rfl mt_pop md_pop ho hbase hline
theorem d_popAt (ho : DE X B o to) (ha : DA X B [e] t) (hbase : attributeBase o "pop" X.env (eval o X.env) = eval o X.env := by rfl) (hline : (apos.endLine == cpos.line) = true := by rfl)
    (hs : starEach [e] X.env = (false, eval e X.env) :: starEach [] X.env := by rfl) (hfew : ((backTo cpos (starEach (e :: []) X.env)).all (fun x => !x.1) && (backToKw cpos (keywordEach [] X.env)).all (fun x => x.1.isSome) && decide ((e :: ([] : List Expr)).length + ([] : List Keyword).length + (if ([] : List Keyword).isEmpty then 0 else 1) < 30)) = true := by rfl) : DE X B (.Call (.Attribute o "pop" apos) [e] [] cpos) (dMl oPopAt to t) :=
  d_ml PySem.F.slot_list_pop rfl mt_popAt md_popAt ho ha hbase hfew hline hs rfl
theorem d_count (ho : DE X B o to) (ha : DA X B [e] t) (hbase : attributeBase o "count" X.env (eval o X.env) = eval o X.env := by rfl) (hline : (apos.endLine == cpos.line) = true := by rfl)
    (hs : starEach [e] X.env = (false, eval e X.env) :: starEach [] X.env := by rfl) (hfew : ((backTo cpos (starEach (e :: []) X.env)).all (fun x => !x.1) && (backToKw cpos (keywordEach [] X.env)).all (fun x => x.1.isSome) && decide ((e :: ([] : List Expr)).length + ([] : List Keyword).length + (if ([] : List Keyword).isEmpty then 0 else 1) < 30)) = true := by rfl) : DE X B (.Call (.Attribute o "count" apos) [e] [] cpos) (dMl oCnt to t) :=
  d_ml PySem.F.slot_list_count rfl mt_lcount md_cnt ho ha hbase hfew hline hs rfl
theorem d_remove (ho : DE X B o to) (ha : DA X B [e] t) (hbase : attributeBase o "remove" X.env (eval o X.env) = eval o X.env := by rfl) (hline : (apos.endLine == cpos.line) = true := by rfl)
    (hs : starEach [e] X.env = (false, eval e X.env) :: starEach [] X.env := by rfl) (hfew : ((backTo cpos (starEach (e :: []) X.env)).all (fun x => !x.1) && (backToKw cpos (keywordEach [] X.env)).all (fun x => x.1.isSome) && decide ((e :: ([] : List Expr)).length + ([] : List Keyword).length + (if ([] : List Keyword).isEmpty then 0 else 1) < 30)) = true := by rfl) : DE X B (.Call (.Attribute o "remove" apos) [e] [] cpos) (dMl oRem to t) :=
  d_ml PySem.F.slot_list_remove rfl mt_remove md_rem ho ha hbase hfew hline hs rfl
theorem d_index (ho : DE X B o to) (ha : DA X B [e] t) (hbase : attributeBase o "index" X.env (eval o X.env) = eval o X.env := by rfl) (hline : (apos.endLine == cpos.line) = true := by rfl)
    (hs : starEach [e] X.env = (false, eval e X.env) :: starEach [] X.env := by rfl) (hfew : ((backTo cpos (starEach (e :: []) X.env)).all (fun x => !x.1) && (backToKw cpos (keywordEach [] X.env)).all (fun x => x.1.isSome) && decide ((e :: ([] : List Expr)).length + ([] : List Keyword).length + (if ([] : List Keyword).isEmpty then 0 else 1) < 30)) = true := by rfl) : DE X B (.Call (.Attribute o "index" apos) [e] [] cpos) (dMl oIdx to t) :=
  d_ml PySem.F.slot_list_index rfl mt_index md_idx ho ha hbase hfew hline hs rfl
theorem d_indexT (ho : DE X B o to) (ha : DA X B [e] t) (hbase : attributeBase o "index" X.env (eval o X.env) = eval o X.env := by rfl) (hline : (apos.endLine == cpos.line) = true := by rfl)
    (hs : starEach [e] X.env = (false, eval e X.env) :: starEach [] X.env := by rfl) (hfew : ((backTo cpos (starEach (e :: []) X.env)).all (fun x => !x.1) && (backToKw cpos (keywordEach [] X.env)).all (fun x => x.1.isSome) && decide ((e :: ([] : List Expr)).length + ([] : List Keyword).length + (if ([] : List Keyword).isEmpty then 0 else 1) < 30)) = true := by rfl) : DE X B (.Call (.Attribute o "index" apos) [e] [] cpos) (dMt oIdxT to t) :=
  d_mt PySem.F.slot_tuple_index rfl mt_tindex md_idxT ho ha hbase hfew hline hs rfl
theorem d_sort (ho : DE X B o to) (hbase : attributeBase o "sort" X.env (eval o X.env) = eval o X.env := by rfl) (hline : (apos.endLine == cpos.line) = true := by rfl) : DE X B (.Call (.Attribute o "sort" apos) [] [] cpos) (dMl0 oSort to) :=
  d_ml0 PySem.F.slot_list_sort rfl mt_sortI md_sort ho hbase hline
theorem d_insert {e2 : Expr} (ho : DE X B o to) (ha : DA X B [e, e2] t) (hbase : attributeBase o "insert" X.env (eval o X.env) = eval o X.env := by rfl) (hline : (apos.endLine == cpos.line) = true := by rfl)
    (hs : starEach [e, e2] X.env = (false, eval e X.env) :: starEach [e2] X.env := by rfl) (hpl : (backTo cpos (starEach [e2] X.env)).any (·.1) = false := by rfl) (hfew : ((backTo cpos (starEach (e :: [e2]) X.env)).all (fun x => !x.1) && (backToKw cpos (keywordEach [] X.env)).all (fun x => x.1.isSome) && decide ((e :: [e2]).length + ([] : List Keyword).length + (if ([] : List Keyword).isEmpty then 0 else 1) < 30)) = true := by rfl) : DE X B (.Call (.Attribute o "insert" apos) [e, e2] [] cpos) (dMl oIns to t) :=
  d_ml PySem.F.slot_list_insert rfl mt_insert md_ins ho ha hbase hfew hline hs hpl
end

/-! ### list(range(..)), tuple(range(..)) -/
abbrev RR := Ev → Cs → (Int → Int → Cs → Prop) → Prop
def upR (K : PySem.W.Frag) (B : BS) (t : RR) : L2.St → Hp → (Int → Int → Hp → Prop) → Prop := fun σ H Q => ∃ h m C r Q0, Sta K B h m C r σ H ∧ t r C Q0 ∧
  ∀ i j C' m' H', Q0 i j C' → Ext h m H h m' H' → Rl K h m' C' H' → Q i j H'
structure DR (X : Cx) (B : BS) (e : Expr) (t : RR) : Prop where
  run : PRg X e (upR X.K B t)
theorem prg_imp {X : Cx} {e : Expr} {t t' : L2.St → Hp → (Int → Int → Hp → Prop) → Prop} (p : PRg X e t) (i : ∀ σ H Q, t' σ H Q → t σ H Q) : PRg X e t' := fun pins s σ H Q I h => p pins s σ H Q I (i σ H Q h)
def rR1 (ta : RE) : RR := fun r C Q => ta r C fun d C1 => match d with
  | .int j => Q 0 j C1
  | _ => False
def rR2 (ta tb : RE) : RR := fun r C Q => ta r C fun d C1 => tb r C1 fun e C2 => match d, e with
  | .int i, .int j => Q i j C2
  | _, _ => False
section
variable {X : Cx} {B : BS} {e e2 : Expr} {te te2 : RE} {tr : RR} {p pos : Pos}
theorem dr_1 (hm : X.mg "range" = none) (he : DE X B e te) (hg : Gl X "range" := by rfl) (hs : starEach [e] X.env = (false, eval e X.env) :: starEach [] X.env := by rfl) : DR X B (.Call (.Name "range" p) [e] [] pos) (rR1 te) := by
  refine ⟨prg_imp (prg_1 hg hm he.run hs) fun σ H R ⟨h, m, C, r, Q0, S, t, k⟩ => ⟨h, m, C, r, _, S, t, fun d C1 m1 H1 v1 q1 x1 R1 r1 => ?_⟩⟩
  cases d <;> first | exact q1.elim | skip
  exact ⟨_, r1, k _ _ C1 m1 H1 q1 x1 R1⟩
theorem dr_2 (hm : X.mg "range" = none) (he : DE X B e te) (he2 : DE X B e2 te2) (hg : Gl X "range" := by rfl) (hs : starEach [e, e2] X.env = (false, eval e X.env) :: starEach [e2] X.env := by rfl) (hs2 : starEach [e2] X.env = (false, eval e2 X.env) :: starEach [] X.env := by rfl)
    (hpl : (backTo pos (starEach [e2] X.env)).any (·.1) = false := by rfl) : DR X B (.Call (.Name "range" p) [e, e2] [] pos) (rR2 te te2) := by
  refine ⟨prg_imp (prg_2 hg hm he.run he2.run hs hs2 hpl) fun σ H R ⟨h, m, C, r, Q0, S, t, k⟩ => ⟨h, m, C, r, _, S, t, fun d C1 m1 H1 v1 q1 x1 R1 r1 => ?_⟩⟩
  refine ⟨h, m1, C1, r, _, S.ext x1 R1, q1, fun d2 C2 m2 H2 v2 q2 x2 R2 r2 => ?_⟩
  cases d <;> first | exact q2.elim | skip
  cases d2 <;> first | exact q2.elim | skip
  exact ⟨_, _, r1, r2, k _ _ C2 m2 H2 q2 (x1.trans x2) R2⟩
theorem rgV_eq (a b : Int) : rgV a b = ((List.range (b - a).toNat).map fun (i : Nat) => (a + (i : Int))).map V.int := by
  rw [List.map_map]; rfl
theorem rngD_eq (a : Int) (n : Nat) : rngD a n = ((List.range n).map fun (i : Nat) => (a + (i : Int))).map D.int := by
  unfold rngD
  rw [List.map_map]; rfl
theorem rng_reps {K : PySem.W.Frag} {m : List Addr} {H : Hp} {a b : Int} : Reps K m H (rngD a (b - a).toNat) (rgV a b) := by
  rw [rgV_eq, rngD_eq]
  exact Reps.ints
def rgOk (i j : Int) : Prop := -(2 ^ 24) ≤ i ∧ i ≤ 2 ^ 24 ∧ -(2 ^ 24) ≤ j ∧ j ≤ 2 ^ 24 ∧ j - i ≤ 2 ^ 24
theorem rgOk_ok {i j : Int} (h : rgOk i j) : RgOk i j := by
  obtain ⟨a, b, c, d, e⟩ := h
  have big : (2 : Int) ^ 24 < 2 ^ 62 := by decide
  have b2 : (2 : Int) ^ 24 = 16777216 := by decide
  have b3 : (2 : Nat) ^ 24 = 16777216 := by decide
  exact ⟨by omega, by omega, by omega, by omega, by omega⟩
def dLstR (C0 : Bool) (tr : RR) : RE := fun r C Q => tr r C fun i j C1 => rgOk i j ∧ if C0 = true then Q (.cel C1.length) (C1 ++ [.lst (rngD i (j - i).toNat)]) else Q (.lst (rngD i (j - i).toNat)) C1
theorem d_listR (C0 : Bool) (hc : X.calm = true) (hm : X.mg "list" = none) (he : DR X B e tr) (hg : Gl X "list" := by rfl) (hs : starEach [e] X.env = (false, eval e X.env) :: starEach [] X.env := by rfl) : DE X B (.Call (.Name "list" p) [e] [] pos) (dLstR C0 tr) := by
  refine ⟨pe_imp (pe_listRg hc hg hm he.run hs) fun σ H Q ⟨h, m, C, r, Q0, S, t, k⟩ => ⟨h, m, C, r, _, S, t, fun i j C1 m1 H1 q1 x1 R1 => ?_⟩⟩
  obtain ⟨ok, q⟩ := q1
  refine ⟨rgOk_ok ok, fun p np => ?_⟩
  cases C0 with
  | true => exact Con.cel (Con.ext k x1) R1 rng_reps q np
  | false => exact Con.lst (Con.ext k x1) R1 rng_reps q np
def dTupR (tr : RR) : RE := fun r C Q => tr r C fun i j C1 => rgOk i j ∧ Q (.tup (rngD i (j - i).toNat)) C1
def tTupRgF (te : L2.St → Hp → (Int → Int → Hp → Prop) → Prop) : TE := fun σ H Q => te σ H fun a b H1 => RgOk a b ∧ ∀ q o, H1 q = none → o.dict = none → Q (.ref q) (upd H1 q (.frz o (.tup (rgV a b))))
theorem pe_tupRgF {te : L2.St → Hp → (Int → Int → Hp → Prop) → Prop} (hc : X.calm = true) (hg : Gl X "tuple") (hm : X.mg "tuple" = none) (he : PRg X e te) (na : starEach [e] X.env = (false, eval e X.env) :: starEach [] X.env := by rfl) : PE X (.Call (.Name "tuple" p) [e] [] pos) (tTupRgF te) := by
  refine ⟨fun pins s σ H Q I h => ?_⟩
  refine Call_ (ld_blt I hg hm boot_tuple (PyProof.Rows.callWith_type1 (args_cons (thn (he pins s σ H _ I h) fun x s1 ⟨r, a, b, t, u, v, H1, ex, hr, I1, ok, q⟩ => args_nil ?_) na) na))
  subst ex
  obtain ⟨b1, b2, b3, b4, b5⟩ := ok
  refine call_tuple_range (n := (b - a).toNat) (I1.ok.hd hc) hr (small_one b1 b2 b3 b4) (rangeSize_nat a b) b5 fun h' tk acc hk hi => ?_
  have I2 : L2.Inv X pins σ H1 { s1 with heap := h', toks := tk } := I1.kept hk
  have hv := vals_rg hi
  have := Inv.tupF (s := { s1 with heap := h', toks := tk }) (t' := tk) I2 (by rw [rgV_length, sizeLine_eq]; omega) hv
  rw [Array.toArray_toList] at this
  exact ⟨.ref h'.objs.size, _, this, rfl, q _ _ (I2.hok.fresh (Nat.le_refl _)) rfl⟩
theorem d_tupR (hc : X.calm = true) (hm : X.mg "tuple" = none) (he : DR X B e tr) (hg : Gl X "tuple" := by rfl) (hs : starEach [e] X.env = (false, eval e X.env) :: starEach [] X.env := by rfl) : DE X B (.Call (.Name "tuple" p) [e] [] pos) (dTupR tr) := by
  refine ⟨pe_imp (pe_tupRgF hc hg hm he.run hs) fun σ H Q ⟨h, m, C, r, Q0, S, t, k⟩ => ⟨h, m, C, r, _, S, t, fun i j C1 m1 H1 q1 x1 R1 => ?_⟩⟩
  obtain ⟨ok, q⟩ := q1
  exact ⟨rgOk_ok ok, fun p o np hd => Con.tup (Con.ext k x1) R1 rng_reps q np hd⟩
end
end DL
/-! DL8: defs and their calls. -/
namespace DL
open PySem PySem.Spec PyProof.Rows L2
abbrev SpD := List D → Cs → QD → XQ → Prop
def spUp (K : PySem.W.Frag) (n : Nat) (sp : SpD) : Sp := fun vs H Q E => ∃ h m C ds Q0 E0, Rl K h m C H ∧ Reps K m (hz h m H) ds vs ∧ ds.length = n ∧ sp ds C Q0 E0 ∧ Con K h m H Q0 Q ∧
  ∀ cls od C' m' H' dx, E0 cls od C' → Ext h m H h m' H' → Rl K h m' C' H' → XRep K m' (hz h m' H') dx od → E cls dx H'
theorem spUp_len {K : PySem.W.Frag} {n : Nat} {sp : SpD} {vs : List V} {H : Hp} {Q : VK} {E : XK} (h : spUp K n sp vs H Q E) : vs.length = n := by
  obtain ⟨h, m, C, ds, Q0, E0, R, r, l, _⟩ := h
  rw [← r.length, l]

/-! ### cells that stay -/
mutual
/-- no cell from k on -/
def lo (k : Nat) : D → Bool
  | .cel n => decide (n < k)
  | .tup xs => los k xs
  | .lst xs => los k xs
  | .scr xs => los k xs
  | _ => true
def los (k : Nat) : List D → Bool
  | [] => true
  | x :: xs => lo k x && los k xs
end
def loC (k : Nat) : Cl → Bool
  | .lst xs => los k xs
def loCs (k : Nat) (C : Cs) : Bool := C.all (loC k)
mutual
/-- the cells of sel stay, others are read alone from now on -/
inductive Fz (C : Cs) (sel : List Nat) : D → D → Prop
  | non : Fz C sel .non .non
  | bl {b} : Fz C sel (.bl b) (.bl b)
  | int {b} : Fz C sel (.int b) (.int b)
  | str {b} : Fz C sel (.str b) (.str b)
  | obj {b} : Fz C sel (.obj b) (.obj b)
  | tup {xs ys} : Fzs C sel xs ys → Fz C sel (.tup xs) (.tup ys)
  | lst {xs ys} : Fzs C sel xs ys → Fz C sel (.lst xs) (.lst ys)
  | scr {xs ys} : Fzs C sel xs ys → Fz C sel (.scr xs) (.scr ys)
  | keep {j n : Nat} : sel[j]? = some n → Fz C sel (.cel n) (.cel j)
  | gone {n : Nat} {xs ys} : n ∉ sel → C[n]? = some (.lst xs) → Fzs C sel xs ys → Fz C sel (.cel n) (.lst ys)
inductive Fzs (C : Cs) (sel : List Nat) : List D → List D → Prop
  | nil : Fzs C sel [] []
  | cons {x y xs ys} : Fz C sel x y → Fzs C sel xs ys → Fzs C sel (x :: xs) (y :: ys)
end
/-- behind a call: C1 the cells at its end, k: how many there were, ks: the new ones that stay -/
def fin (C : Cs) (d : D) (C1 : Cs) (Q : QD) : Prop := ∃ (ks : List Nat) (d' : D) (C2 : Cs), ks.Nodup ∧ (∀ n ∈ ks, C.length ≤ n ∧ n < C1.length) ∧ C2.length = C.length + ks.length ∧ C.length ≤ C1.length ∧
  (∀ j n xs, (List.range C.length ++ ks)[j]? = some n → C1[n]? = some (.lst xs) → (j < C.length ∧ C[j]? = some (.lst xs) ∧ C2[j]? = some (.lst xs)) ∨ ∃ ys, C2[j]? = some (.lst ys) ∧ Fzs C1 (List.range C.length ++ ks) xs ys) ∧
  Fz C1 (List.range C.length ++ ks) d d' ∧ Q d' C2
mutual
theorem fz_lo {C : Cs} {sel : List Nat} {k : Nat} (hs : ∀ n, n < k → sel[n]? = some n) : ∀ d : D, lo k d = true → Fz C sel d d
  | .non, _ => .non
  | .bl _, _ => .bl
  | .int _, _ => .int
  | .str _, _ => .str
  | .obj _, _ => .obj
  | .tup xs, h => .tup (fzs_lo hs xs (by simpa [lo] using h))
  | .lst xs, h => .lst (fzs_lo hs xs (by simpa [lo] using h))
  | .scr xs, h => .scr (fzs_lo hs xs (by simpa [lo] using h))
  | .cel n, h => .keep (hs n (by simpa [lo] using h))
theorem fzs_lo {C : Cs} {sel : List Nat} {k : Nat} (hs : ∀ n, n < k → sel[n]? = some n) : ∀ ds : List D, los k ds = true → Fzs C sel ds ds
  | [], _ => .nil
  | d :: ds, h => by
    have h' : lo k d = true ∧ los k ds = true := by simpa [los] using h
    exact .cons (fz_lo hs d h'.1) (fzs_lo hs ds h'.2)
end
theorem sel_get {k : Nat} {ks : List Nat} : ∀ n, n < k → (List.range k ++ ks)[n]? = some n := fun n h => by
  rw [List.getElem?_append_left (by simpa using h)]
  simp [h]
theorem lsc_get {C : Cs} {n : Nat} (h : n < C.length) : ∃ xs, C[n]? = some (.lst xs) := by
  cases e : C[n] with
  | lst xs => exact ⟨xs, by rw [List.getElem?_eq_getElem h, e]⟩
/-- nothing was written but new cells, all dropped -/
theorem fin_same {C : Cs} {d : D} {more : Cs} {Q : QD} (h : lo C.length d = true) (q : Q d C) : fin C d (C ++ more) Q := by
  refine ⟨[], d, C, .nil, fun n hn => (nomatch hn), by simp, by simp, fun j n xs e1 e2 => ?_, fz_lo sel_get d h, q⟩
  rw [List.append_nil] at e1
  have hj : j < C.length := by simpa using (List.getElem?_eq_some_iff.mp e1).1
  have e : j = n := by
    have := (List.getElem?_eq_some_iff.mp e1).2
    simpa using this
  subst e
  rw [List.getElem?_append_left hj] at e2
  exact .inl ⟨hj, e2, e2⟩
theorem fin_same0 {C : Cs} {d : D} {Q : QD} (h : lo C.length d = true) (q : Q d C) : fin C d C Q := by
  have := fin_same (more := []) h q
  rwa [List.append_nil] at this
/-- a new cell is given back, read alone from now on -/
theorem fin_lst {C : Cs} {more : Cs} {xs : List D} {n : Nat} {Q : QD} (hn : C.length ≤ n) (e : (C ++ more)[n]? = some (.lst xs)) (h : los C.length xs = true) (q : Q (.lst xs) C) : fin C (.cel n) (C ++ more) Q := by
  refine ⟨[], .lst xs, C, .nil, fun n hn => (nomatch hn), by simp, by simp, fun j n xs e1 e2 => ?_, .gone ?_ e (fzs_lo sel_get xs h), q⟩
  · rw [List.append_nil] at e1
    have hj : j < C.length := by simpa using (List.getElem?_eq_some_iff.mp e1).1
    have e : j = n := by
      have := (List.getElem?_eq_some_iff.mp e1).2
      simpa using this
    subst e
    rw [List.getElem?_append_left hj] at e2
    exact .inl ⟨hj, e2, e2⟩
  · simp; omega
/-- a new cell is given back and stays one -/
theorem fin_keep {C : Cs} {more : Cs} {xs : List D} {n : Nat} {Q : QD} (hn : C.length ≤ n) (e : (C ++ more)[n]? = some (.lst xs)) (h : los C.length xs = true) (q : Q (.cel C.length) (C ++ [.lst xs])) : fin C (.cel n) (C ++ more) Q := by
  refine ⟨[n], .cel C.length, C ++ [.lst xs], by simp, fun k hk => ?_, by simp, by simp, fun j k ys e1 e2 => ?_, .keep (by simp), q⟩
  · have : k = n := by simpa using hk
    subst this
    exact ⟨hn, (List.getElem?_eq_some_iff.mp e).1⟩
  · by_cases hj : j < C.length
    · rw [sel_get j hj] at e1
      cases e1
      rw [List.getElem?_append_left hj] at e2
      exact .inl ⟨hj, e2, by rw [List.getElem?_append_left hj]; exact e2⟩
    · have : j = C.length ∧ k = n := by
        rw [List.getElem?_append_right (by simpa using hj)] at e1
        simp at e1
        cases hq : j - C.length with
        | zero => rw [hq] at e1; simp at e1; exact ⟨by omega, e1.symm⟩
        | succ i => rw [hq] at e1; simp at e1
      obtain ⟨rfl, rfl⟩ := this
      rw [e] at e2
      cases e2
      exact .inr ⟨xs, by simp, fzs_lo sel_get xs h⟩
/-- old cells were written, all new ones are dropped -/
theorem fin_wr {C C1 : Cs} {d : D} {Q : QD} (hl : C.length ≤ C1.length) (h : lo C.length d = true) (hc : loCs C.length (C1.take C.length) = true) (q : Q d (C1.take C.length)) : fin C d C1 Q := by
  refine ⟨[], d, C1.take C.length, .nil, fun n hn => (nomatch hn), by simp; omega, hl, fun j n xs e1 e2 => ?_, fz_lo sel_get d h, q⟩
  rw [List.append_nil] at e1
  have hj : j < C.length := by simpa using (List.getElem?_eq_some_iff.mp e1).1
  have e : j = n := by
    have := (List.getElem?_eq_some_iff.mp e1).2
    simpa using this
  subst e
  have e3 : (C1.take C.length)[j]? = some (.lst xs) := by rw [List.getElem?_take, if_pos hj]; exact e2
  have := List.all_eq_true.mp hc _ (List.mem_of_getElem? e3)
  exact .inr ⟨xs, e3, fzs_lo sel_get xs this⟩

/-! ### the rule for fin -/
section
variable {K : PySem.W.Frag} {h m m' : List Addr} {C C' : Cs} {H H' : Hp}
mutual
theorem rep_lo {m : List Addr} {H0 : Hp} : ∀ (d : D) {v : V}, Rep K m H0 d v → lo m.length d = true
  | .non, _, _ => rfl
  | .bl _, _, _ => rfl
  | .int _, _, _ => rfl
  | .str _, _, _ => rfl
  | .obj _, _, _ => rfl
  | .tup ds, _, ⟨a, vs, o, e, s, z, r⟩ => by simpa [lo] using reps_lo ds r
  | .lst ds, _, ⟨a, vs, e, s, r⟩ => by simpa [lo] using reps_lo ds r
  | .scr ds, _, ⟨a, vs, e, s, r⟩ => by simpa [lo] using reps_lo ds r
  | .cel n, _, ⟨a, e, g⟩ => by simpa [lo] using (List.getElem?_eq_some_iff.mp g).1
theorem reps_lo {m : List Addr} {H0 : Hp} : ∀ (ds : List D) {vs : List V}, Reps K m H0 ds vs → los m.length ds = true
  | [], _, _ => rfl
  | d :: ds, _, ⟨v, vr, e, r, q⟩ => by
    have h1 := rep_lo d r
    have h2 := reps_lo ds q
    simp [los, h1, h2]
end
theorem Rl.lo (R : Rl K h m C H) : loCs C.length C = true := by
  refine List.all_eq_true.mpr fun c hc => ?_
  obtain ⟨n, hn, e⟩ := List.mem_iff_getElem.mp hc
  obtain ⟨a, _, k⟩ := R.cell n c (by rw [List.getElem?_eq_getElem hn, e])
  cases c with
  | lst xs =>
    obtain ⟨vs, _, r⟩ := k
    rw [← R.len]
    exact reps_lo xs r
mutual
theorem rep_fz {sel : List Nat} {m2 : List Addr} {H2 : Hp} (R : Rl K h m' C' H') (hm : ∀ (j n : Nat) a, sel[j]? = some n → m'[n]? = some a → m2[j]? = some a) (hk : ∀ a o, hz h m' H' a = some o → H2 a = some o)
    (hg : ∀ (n : Nat) a, n ∉ sel → m'[n]? = some a → ∀ o, H' a = some o → H2 a = some o) : ∀ {d e : D} {v : V}, Fz C' sel d e → Rep K m' (hz h m' H') d v → Rep K m2 H2 e v
  | _, _, _, .non, r => r
  | _, _, _, .bl, r => r
  | _, _, _, .int, r => r
  | _, _, _, .str, r => r
  | _, _, _, .obj, r => r
  | _, _, _, .tup f, ⟨a, vs, o, e, s, z, r⟩ => ⟨a, vs, o, e, hk _ _ s, z, reps_fz R hm hk hg f r⟩
  | _, _, _, .lst f, ⟨a, vs, e, s, r⟩ => ⟨a, vs, e, hk _ _ s, reps_fz R hm hk hg f r⟩
  | _, _, _, .scr f, ⟨a, vs, e, s, r⟩ => ⟨a, vs, e, SqL.mono hk s, reps_fz R hm hk hg f r⟩
  | _, _, _, .keep e, ⟨a, e1, g⟩ => ⟨a, e1, hm _ _ a e g⟩
  | _, _, _, @Fz.gone _ _ n xs ys hn e f, ⟨a, e1, g⟩ => by
    obtain ⟨b, hb, k⟩ := R.cell n _ e
    rw [g] at hb
    cases hb
    obtain ⟨us, q1, q2⟩ := k
    exact ⟨a, us, e1, hg n a hn g _ q1, reps_fz R hm hk hg f q2⟩
theorem reps_fz {sel : List Nat} {m2 : List Addr} {H2 : Hp} (R : Rl K h m' C' H') (hm : ∀ (j n : Nat) a, sel[j]? = some n → m'[n]? = some a → m2[j]? = some a) (hk : ∀ a o, hz h m' H' a = some o → H2 a = some o)
    (hg : ∀ (n : Nat) a, n ∉ sel → m'[n]? = some a → ∀ o, H' a = some o → H2 a = some o) : ∀ {ds es : List D} {vs : List V}, Fzs C' sel ds es → Reps K m' (hz h m' H') ds vs → Reps K m2 H2 es vs
  | _, _, _, .nil, r => r
  | _, _, _, .cons f g, ⟨v, vr, e, r, q⟩ => ⟨v, vr, e, rep_fz R hm hk hg f r, reps_fz R hm hk hg g q⟩
end
theorem sel_lt {C : Cs} {C1 : Cs} {ks : List Nat} (hks : ∀ n ∈ ks, C.length ≤ n ∧ n < C1.length) (hl : C.length ≤ C1.length) : ∀ n ∈ List.range C.length ++ ks, n < C1.length := fun n hn => by
  rcases List.mem_append.mp hn with z | z
  · have := List.mem_range.mp z
    omega
  · exact (hks n z).2
/-- a call's end -/
theorem fin_core {d : D} {v : V} {Q0 : QD} (R0 : Rl K h m C H) (x : Ext h m H h m' H') (R : Rl K h m' C' H') (r : Rep K m' (hz h m' H') d v) (f : fin C d C' Q0) :
    ∃ d' C2 m2, Q0 d' C2 ∧ Ext h m H h m2 H' ∧ Rl K h m2 C2 H' ∧ Rep K m2 (hz h m2 H') d' v ∧ ∀ a o, hz h m' H' a = some o → hz h m2 H' a = some o := by
  obtain ⟨ks, d', C2, nd, hks, l2, hl, hc, fd, q⟩ := f
  have hsl := sel_lt hks hl
  let sel := List.range C.length ++ ks
  have hselnd : sel.Nodup := List.nodup_append.mpr ⟨List.nodup_range, nd, fun a ha b hb e => by
    have h1 := List.mem_range.mp ha
    have h2 := (hks b hb).1
    omega⟩
  let m2 : List Addr := sel.map fun n => m'.getD n 0
  have hsm : ∀ n ∈ sel, ∃ a, m'[n]? = some a ∧ m'.getD n 0 = a := fun n hn => by
    have : n < m'.length := by rw [R.len]; exact hsl n hn
    exact ⟨m'[n], List.getElem?_eq_getElem this, by simp [List.getD_eq_getElem?_getD, this]⟩
  have hm : ∀ (j n : Nat) a, sel[j]? = some n → m'[n]? = some a → m2[j]? = some a := fun j n a e1 e2 => by
    show (sel.map _)[j]? = _
    rw [List.getElem?_map, e1]
    simp [List.getD_eq_getElem?_getD, e2]
  have hm' : ∀ (j : Nat) a, m2[j]? = some a → ∃ n : Nat, sel[j]? = some n ∧ m'[n]? = some a := fun j a e => by
    have e : (sel.map fun n => m'.getD n 0)[j]? = some a := e
    rw [List.getElem?_map] at e
    cases hs : sel[j]? with
    | none => rw [hs] at e; cases e
    | some n =>
      rw [hs] at e
      obtain ⟨b, h1, h2⟩ := hsm n (List.mem_of_getElem? hs)
      refine ⟨n, rfl, ?_⟩
      have : m'.getD n 0 = a := by simpa using e
      rw [h1, ← h2, this]
  have sub : ∀ a ∈ m2, a ∈ m' := fun a ha => by
    obtain ⟨j, hj, e⟩ := List.mem_iff_getElem.mp ha
    obtain ⟨n, _, e2⟩ := hm' j a (by rw [List.getElem?_eq_getElem hj, e])
    exact List.mem_of_getElem? e2
  have mnd := (List.nodup_append.mp R.nd).2.1
  have m2nd : m2.Nodup := by
    refine List.pairwise_iff_getElem.mpr fun i j hi hj hij ee => ?_
    obtain ⟨n1, a1, a2⟩ := hm' i _ (List.getElem?_eq_getElem hi)
    obtain ⟨n2, b1, b2⟩ := hm' j _ (List.getElem?_eq_getElem hj)
    rw [ee] at a2
    have := nd_ix mnd a2 b2
    subst this
    have := nd_ix hselnd a1 b1
    omega
  have pre : m <+: m2 := by
    have hml : m.length = C.length := R0.len
    refine List.prefix_iff_getElem?.mpr fun i hi => ?_
    have e1 : m'[i]? = some m[i] := pre_get x.pre (List.getElem?_eq_getElem hi)
    exact hm i i _ (sel_get i (by omega)) e1
  have hk : ∀ a o, hz h m' H' a = some o → hz h m2 H' a = some o := fun a o e => by
    obtain ⟨z1, z2⟩ := off_some.mp e
    refine off_some.mpr ⟨fun z => ?_, z2⟩
    rcases List.mem_append.mp z with w | w
    · exact z1 (List.mem_append_left _ w)
    · exact z1 (List.mem_append_right _ (sub a w))
  have hg : ∀ (n : Nat) a, n ∉ sel → m'[n]? = some a → ∀ o, H' a = some o → hz h m2 H' a = some o := fun n a hn e o eo => by
    refine off_some.mpr ⟨fun z => ?_, eo⟩
    rcases List.mem_append.mp z with w | w
    · exact (List.nodup_append.mp R.nd).2.2 a w a (List.mem_of_getElem? e) rfl
    · obtain ⟨j, hj, e2⟩ := List.mem_iff_getElem.mp w
      obtain ⟨n2, e3, e4⟩ := hm' j a (by rw [List.getElem?_eq_getElem hj, e2])
      have := nd_ix mnd e e4
      subst this
      exact hn (List.mem_of_getElem? e3)
  have x2 : Ext h m H h m2 H' := ⟨List.suffix_refl _, pre, fun a o e => hk a o (x.frz a o e), x.hid⟩
  refine ⟨d', C2, m2, q, x2, ⟨?_, by show (sel.map _).length = _; rw [List.length_map, l2]; simp [sel], fun j c e => ?_, R.hid⟩, rep_fz R hm hk hg fd r, hk⟩
  · refine List.nodup_append.mpr ⟨(List.nodup_append.mp R.nd).1, m2nd, fun a ha b hb e => (List.nodup_append.mp R.nd).2.2 a ha b (sub b hb) e⟩
  · have hj : j < sel.length := by
      have := (List.getElem?_eq_some_iff.mp e).1
      show j < (List.range C.length ++ ks).length
      simp
      omega
    have e1 : sel[j]? = some sel[j] := List.getElem?_eq_getElem hj
    have hlt := hsl sel[j] (List.getElem_mem hj)
    obtain ⟨xs, ex⟩ := lsc_get hlt
    obtain ⟨a, ha, us, q1, q2⟩ := R.cell _ _ ex
    refine ⟨a, hm j _ a e1 ha, ?_⟩
    rcases hc j _ xs e1 ex with ⟨hjc, ec, e2⟩ | ⟨ys, e2, fz⟩
    · rw [e2] at e
      cases e
      obtain ⟨b, hb, ws, w1, w2⟩ := R0.cell j _ ec
      have e5 : sel[j]? = some j := sel_get j hjc
      rw [e1] at e5
      have e6 : m'[j]? = some a := by
        have : sel[j] = j := by simpa using e5
        rw [this] at ha
        exact ha
      have e7 : m'[j]? = some b := pre_get x.pre hb
      rw [e6] at e7
      cases e7
      -- the same cell: its items read as they did at the end
      refine ⟨us, q1, ?_⟩
      have hlo : los C.length xs = true := by
        have := reps_lo xs w2
        rw [R0.len] at this
        exact this
      exact reps_fz R hm hk hg (fzs_lo sel_get xs hlo) q2
    · rw [e2] at e
      cases e
      exact ⟨us, q1, reps_fz R hm hk hg fz q2⟩
theorem fin_ok {d : D} {v : V} {Q0 : QD} {Q : VK} (R0 : Rl K h m C H) (x : Ext h m H h m' H') (R : Rl K h m' C' H') (r : Rep K m' (hz h m' H') d v) (f : fin C d C' Q0) (k : Con K h m H Q0 Q) : Q v H' := by
  obtain ⟨d', C2, m2, q, x2, R2, r2, _⟩ := fin_core R0 x R r f
  exact k d' C2 m2 H' v q x2 R2 r2
end
/-- .. of an exception -/
def finX (C : Cs) (od : Option D) (C1 : Cs) (Q : Option D → Cs → Prop) : Prop := match od with
  | none => fin C .non C1 fun _ C2 => Q none C2
  | some d => fin C d C1 fun d' C2 => Q (some d') C2
theorem finX_ok {K : PySem.W.Frag} {h m m' : List Addr} {C C' : Cs} {H H' : Hp} {od : Option D} {dx : Option Addr} {Q0 : Option D → Cs → Prop} (R0 : Rl K h m C H) (x : Ext h m H h m' H') (R : Rl K h m' C' H') (r : XRep K m' (hz h m' H') dx od) (f : finX C od C' Q0) :
    ∃ od' C2 m2, Q0 od' C2 ∧ Ext h m H h m2 H' ∧ Rl K h m2 C2 H' ∧ XRep K m2 (hz h m2 H') dx od' := by
  cases od with
  | none =>
    obtain ⟨d', C2, m2, q, x2, R2, r2, _⟩ := fin_core (d := .non) (v := .non) R0 x R rfl f
    exact ⟨none, C2, m2, q, x2, R2, r⟩
  | some d =>
    obtain ⟨a, v, e1, e2, r1⟩ := r
    obtain ⟨d', C2, m2, q, x2, R2, r2, k⟩ := fin_core R0 x R r1 f
    exact ⟨some d', C2, m2, q, x2, R2, a, v, e1, k _ _ e2, r2⟩
end DL
/-! DL9: the rule for a def, the rule for its call. -/
namespace DL
open PySem PySem.Spec PyProof.Rows L2
def startD (N : List Str) (ds : List D) : Ev := ds.map some ++ List.replicate (N.length - ds.length) none
def spOf (N : List Str) (rd : XW → RS) : SpD := fun ds C Q E => los C.length ds = true → loCs C.length C = true →
  rd (fun cls od _ C' => finX C od C' fun od' C2 => E cls od' C2) { nx := fun _ C' => fin C .non C' Q, rt := fun d C' => fin C d C' Q } (startD N ds) C
def TakesD (X : Cx) (B : BS) (W : XW) : Prop := Takes X (upW X.K B W)
theorem takes0D {X : Cx} {B : BS} : TakesD X B (fun _ _ _ _ => False) := fun _ _ x => by
  obtain ⟨_, _, _, _, _, _, _, _, _, _, _, _, _, _, _, _, h, m, C, r, od, _, _, z⟩ := x
  exact z.elim
section
variable {P : Program} {w : World} {K : PySem.W.Frag} {mg : Str → Option Value} {base : Heap}
theorem start_en {m : List Addr} {H0 : Hp} {N : List Str} {ds : List D} {vs : List V} (r : Reps K m H0 ds vs) : En K m H0 (startD N ds) (L2.start N vs) := by
  have hl := r.length
  refine ⟨by simp [startD, L2.start, hl], fun i d e => ?_⟩
  unfold startD at e
  by_cases hi : i < ds.length
  · rw [List.getElem?_append_left (by simpa using hi), List.getElem?_map] at e
    cases hd : ds[i]? with
    | none => rw [hd] at e; cases e
    | some d' =>
      rw [hd] at e
      have : d' = d := by simpa using e
      subst this
      obtain ⟨v, hv, rp⟩ := r.get hd
      refine ⟨v, ?_, rp⟩
      unfold L2.start
      rw [List.getElem?_append_left (by simpa [← hl] using hi), List.getElem?_map, hv]
      rfl
  · rw [List.getElem?_append_right (by simpa using Nat.le_of_not_lt hi)] at e
    rw [List.getElem?_replicate] at e
    split at e <;> cases e
theorem dl_fn {x qual : Str} {st : Stmt} {f : Addr} {fd : FuncData} {N ps : List Str} {k : Nat} (F : Fun K x qual st f fd) (S : FnScope N ps (defScope st)) (rd : XW → RS)
    (hb : ∀ (cdv : Value) (A : Around) (outer : List Env) (s : Shared) (H : Hp) (E : XK) (B : BS) (W : XW), Room k (A.deeper (envOfC qual (defScope st) s.heap.objs.size f cdv)) →
      TakesD (cxOf (L2.CX P w) P w K mg base N qual (defScope st) f cdv A outer s H E) B W → DSs (cxOf (L2.CX P w) P w K mg base N qual (defScope st) f cdv A outer s H E) B (defBody st) (rd W)) :
    FnOk P w K mg base (L2.CX P w) (k + 1) f fd ps (spUp K ps.length (spOf N rd)) := by
  refine Fun.okX F S (fun vs H Q E h => spUp_len h) fun cdv A outer s H vs Q E hr hsp => ?_
  obtain ⟨h, m, C, ds, Q0, E0, R, r, l, sp, kk, kx⟩ := hsp
  let B : BS := fun h' m' H' => h' = h ∧ Ext h m H h m' H'
  have stB : Stable B := fun h1 m1 H1 m2 H2 ⟨e, x⟩ y => ⟨e, by subst e; exact x.trans y⟩
  have tk : TakesD (cxOf (L2.CX P w) P w K mg base N qual (defScope st) f cdv A outer s H E) B (fun cls od _ C' => finX C od C' fun od' C2 => E0 cls od' C2) := by
    refine Takes.imp (takes_of (X := cxOf (L2.CX P w) P w K mg base N qual (defScope st) f cdv A outer s H E) (E := E) rfl rfl rfl rfl) fun cls dx σ H' z => ?_
    obtain ⟨h', m', C', r', od, S', xr, q⟩ := z
    obtain ⟨e, x⟩ := S'.base
    subst e
    obtain ⟨od', C2, m2, q2, x2, R2, r2⟩ := finX_ok R x S'.rl xr q
    exact kx cls od' C2 m2 H' dx q2 x2 R2 r2
  refine ⟨_, (hb cdv A outer s H E B _ hr tk).run, ?_⟩
  have hlo : los C.length ds = true := by rw [← R.len]; exact reps_lo ds r
  refine ⟨h, m, C, startD N ds, _, ⟨R, start_en r, ⟨rfl, Ext.refl⟩, stB⟩, sp hlo R.lo, fun m' H' C' x R' => ⟨fun r' σ' q S' => fin_ok (d := .non) (v := .non) R x R' rfl q kk, fun _ _ z => z.elim, fun _ _ z => z.elim, fun d v q rr => fin_ok R x R' rr q kk⟩⟩
/-- a def as its callers know it -/
structure Fn (P : Program) (w : World) (K : PySem.W.Frag) (mg : Str → Option Value) (base : Heap) (k : Nat) (x : Str) (st : Stmt) (ps : List Str) (sp : SpD) : Prop where
  ex : ∃ f fd qual, Fun K x qual st f fd ∧ mg x = some (.ref f) ∧ FnOk P w K mg base (L2.CX P w) k f fd ps (spUp K ps.length sp)
theorem Fn.mono {j k : Nat} {x : Str} {st : Stmt} {ps : List Str} {sp : SpD} (F : Fn P w K mg base j x st ps sp) (h : j ≤ k) : Fn P w K mg base k x st ps sp := by
  obtain ⟨f, fd, q, a, b, c⟩ := F.ex
  exact ⟨f, fd, q, a, b, c.mono h⟩
theorem Fn.imp {k : Nat} {x : Str} {st : Stmt} {ps : List Str} {sp sp' : SpD} (F : Fn P w K mg base k x st ps sp) (h : ∀ ds C Q E, ds.length = ps.length → sp' ds C Q E → sp ds C Q E) : Fn P w K mg base k x st ps sp' := by
  obtain ⟨f, fd, q, a, b, c⟩ := F.ex
  refine ⟨f, fd, q, a, b, c.imp fun vs H Q E z => ?_⟩
  obtain ⟨h', m, C, ds, Q0, E0, R, r, l, sp, kk, kx⟩ := z
  exact ⟨h', m, C, ds, Q0, E0, R, r, l, h ds C Q0 E0 l sp, kk, kx⟩
end
/-- how a def's arguments bind -/
def BindP (x : Str) (st : Stmt) (ps : List Str) : Prop := ∀ (qual : Str) (kV doc pm : Value) (an : Option Addr) (cdv ct : Value) (us : List Value), us.length = ps.length →
  bindArgs (PySem.W.fnOf x qual (defArgs st) (defBody st) (defScope st) .none kV doc pm an cdv ct) ⟨us, []⟩ = pure (ps.zip us)
def pick {α : Type} (p : List Nat) (xs : List α) : List α := p.filterMap (xs[·]?)
def BindK (x : Str) (st : Stmt) (ps ks : List Str) (n1 : Nat) (p : List Nat) : Prop := ∀ (qual : Str) (kV doc pm : Value) (an : Option Addr) (cdv ct : Value) (us ws : List Value), us.length = n1 → ws.length = ks.length →
  bindArgs (PySem.W.fnOf x qual (defArgs st) (defBody st) (defScope st) .none kV doc pm an cdv ct) ⟨us, ks.zip ws⟩ = pure (ps.zip (us ++ pick p ws))
theorem pick_reps {K : PySem.W.Frag} {m : List Addr} {H : Hp} {ds : List D} {vs : List V} (r : Reps K m H ds vs) : ∀ p : List Nat, Reps K m H (pick p ds) (pick p vs)
  | [] => rfl
  | i :: p => by
    have ih := pick_reps r p
    unfold pick at ih ⊢
    cases e : ds[i]? with
    | none =>
      have e2 : vs[i]? = none := by
        rw [List.getElem?_eq_none_iff] at e ⊢
        rw [← r.length]
        exact e
      rw [List.filterMap_cons, List.filterMap_cons, e, e2]
      exact ih
    | some d =>
      obtain ⟨v, hv, rp⟩ := r.get e
      rw [List.filterMap_cons, List.filterMap_cons, e, hv]
      exact Reps.cons rp ih
theorem pick_vals {vs : List V} {us : List Value} (r : Vals vs us) : ∀ p : List Nat, Vals (pick p vs) (pick p us)
  | [] => .nil
  | i :: p => by
    have ih := pick_vals r p
    unfold pick at ih ⊢
    cases e : vs[i]? with
    | none =>
      have e2 : us[i]? = none := by
        rw [List.getElem?_eq_none_iff] at e ⊢
        rw [← r.length]
        exact e
      rw [List.filterMap_cons, List.filterMap_cons, e, e2]
      exact ih
    | some d =>
      obtain ⟨v, hv, rp⟩ := r.get e
      rw [List.filterMap_cons, List.filterMap_cons, e, hv]
      exact .cons rp ih
theorem pick_len {α : Type} {xs : List α} : ∀ {p : List Nat}, p.all (· < xs.length) = true → (pick p xs).length = p.length
  | [], _ => rfl
  | i :: p, h => by
    have h' : i < xs.length ∧ p.all (· < xs.length) = true := by simpa using h
    unfold pick
    rw [List.filterMap_cons, List.getElem?_eq_getElem h'.1]
    show ((pick p xs).length + 1) = _
    rw [pick_len h'.2]
    rfl
def dCall (sp : SpD) (W : XW) (t : RA) : RE := fun r C Q => t r C fun ds C1 => sp ds C1 Q fun cls od C' => W cls od r C'
def dCallK (sp : SpD) (p : List Nat) (W : XW) (t tk : RA) : RE := fun r C Q => t r C fun ds C1 => tk r C1 fun es C2 => sp (ds ++ pick p es) C2 Q fun cls od C' => W cls od r C'
/-- the keywords' values -/
structure DK (X : Cx) (B : BS) (kws : List Keyword) (t : RA) : Prop where
  run : PK X kws (upA X.K B kws.length t)
theorem pk_imp {X : Cx} {kws : List Keyword} {t t' : TA} (p : PK X kws t) (i : ∀ σ H Q, t' σ H Q → t σ H Q) : PK X kws t' := ⟨fun pos pins s σ H Q I h => p.run pos pins s σ H Q I (i σ H Q h)⟩
section
variable {X : Cx} {B : BS} {W : XW} {k : Nat} {x : Str} {st : Stmt} {ps ks : List Str} {sp : SpD} {e : Expr} {es : List Expr} {kws : List Keyword} {te : RE} {t tk' : RA} {p pos kpos : Pos} {pm : List Nat} {nm : Option Str}
theorem dk_nil : DK X B [] dNil := by
  refine ⟨pk_imp pk_nil fun σ H Q ⟨h, m, C, r, Q0, S, t, k⟩ => ?_⟩
  exact k [] C m H [] t rfl Ext.refl S.rl rfl
theorem dk_cons (ha : DE X B e te) (hr : DK X B kws t) : DK X B (⟨nm, e, kpos⟩ :: kws) (dCons te t) := by
  refine ⟨pk_imp (pk_cons ha.run hr.run) fun σ H Q ⟨h, m, C, r, Q0, S, t, k⟩ => ?_⟩
  refine ⟨h, m, C, r, _, S, t, fun d C1 m1 H1 v1 q1 x1 R1 r1 => ?_⟩
  refine ⟨h, m1, C1, r, _, S.ext x1 R1, q1, fun ds C2 m2 H2 vs q2 hl x2 R2 r2 => ?_⟩
  exact k (d :: ds) C2 m2 H2 (v1 :: vs) q2 (by simp [hl]) (x1.trans x2) R2 (.cons (x2.rep r1) r2)
theorem call_up {σ : L2.St} {H1 : Hp} {Q : VK} {h m1 : List Addr} {C1 : Cs} {r : Ev} {ds : List D} {vs : List V} {Q0 : QD} {n : Nat} (S : Sta X.K B h m1 C1 r σ H1) (rs : Reps X.K m1 (hz h m1 H1) ds vs) (hl : ds.length = n)
    (q : sp ds C1 Q0 fun cls od C' => W cls od r C') (k : Con X.K h m1 H1 Q0 Q) : spUp X.K n sp vs H1 Q (WE (upW X.K B W) σ) :=
  ⟨h, m1, C1, ds, Q0, _, S.rl, rs, hl, q, k, fun cls od C' m' H' dx q' x R xr => ⟨h, m', C', r, od, S.ext x R, xr, q'⟩⟩
theorem d_call (F : Fn X.prog X.w X.K X.mg X.base k x st ps sp) (hb : BindP x st ps) (hr : Room k X.A) (tk : TakesD X B W) (ha : DA X B (e :: es) t) (hlen : (e :: es).length = ps.length := by rfl) (hg : Gl X x := by rfl)
    (hdb : (x == ("__debug__" : Str)) = false := by decide) (he : starEach (e :: es) X.env = (false, eval e X.env) :: starEach es X.env := by rfl) (hpl : (backTo pos (starEach es X.env)).any (·.1) = false := by rfl) :
    DE X B (.Call (.Name x p) (e :: es) [] pos) (dCall sp W t) := by
  obtain ⟨f, fd, qual, F0, hm, ok⟩ := F.ex
  have bd : Binds X.K fd ps [] := F0.binds fun kV doc pm an cdv ct us hu => hb qual kV doc pm an cdv ct us hu
  refine ⟨pe_imp (pe_callSD (dvs := []) (ds := []) ok hr hg hm F0.kp bd .nil (fun σ => passAt tk σ) ha.run hdb he hpl) fun σ H Q ⟨h, m, C, r, Q0, S, t, k⟩ => ?_⟩
  refine ⟨h, m, C, r, _, S, t, fun ds C1 m1 H1 vs q1 hl x1 R1 r1 => ?_⟩
  show spUp X.K ps.length sp (vs ++ []) H1 Q _
  rw [List.append_nil]
  exact call_up (S.ext x1 R1) r1 (hl.trans hlen) q1 (Con.ext k x1)
theorem run_fnKD {CX : CXT} {f : Addr} {fd : FuncData} {sp : Sp} {E : L2.St → XK} {pins : List (Addr × Obj)} {σ : L2.St} {H : Hp} {s : Shared} {Q : VK} {us ws : List Value} {vs zs : List V} (F : FnOk X.prog X.w X.K X.mg X.base CX k f fd ps sp) (hr : Room k X.A)
    (hb : bindArgs fd ⟨us, ks.zip ws⟩ = pure (ps.zip (us ++ pick pm ws))) (hx : PassesAt CX X σ (E σ))
    (I : L2.Inv X pins σ H s) (r : Vals vs us) (rz : Vals zs ws) (h : sp (vs ++ pick pm zs) H Q (E σ)) : wpAny (model X.prog X.w) X.A (call (.ref f) us (ks.zip ws)) (EP X pins σ Q) X.xe s := by
  have r2 : Vals (vs ++ pick pm zs) (us ++ pick pm ws) := r.append (pick_vals rz pm)
  refine wpAny_call (codeAny_mono (F.run X.A X.stack s H ⟨us, ks.zip ws⟩ (us ++ pick pm ws) (vs ++ pick pm zs) Q (E σ) hr I.env0 (.of_eq hb) r2 h) fun r s' hq => ?_)
  cases r with
  | error e => exact hx pins H s e s' I hq
  | ok fl =>
    cases fl with
    | ret u => exact I.after hq
    | next => exact False.elim hq
    | brk => exact False.elim hq
    | cont => exact False.elim hq
theorem d_callK (F : Fn X.prog X.w X.K X.mg X.base k x st ps sp) (hb : BindK x st ps ks (e :: es).length pm) (hr : Room k X.A) (tk : TakesD X B W) (ha : DA X B (e :: es) t) (hkw : DK X B kws tk') (hkl : kws.length = ks.length := by rfl)
    (hpm : pm.all (· < kws.length) = true := by decide) (hlen : (e :: es).length + pm.length = ps.length := by rfl) (hg : Gl X x := by rfl)
    (hall : (backToKw pos (keywordEach kws X.env)).all (·.1.isSome) = true := by rfl) (hks : (backToKw pos (keywordEach kws X.env)).filterMap (·.1) = ks := by rfl)
    (hdb : (x == ("__debug__" : Str)) = false := by decide) (he : starEach (e :: es) X.env = (false, eval e X.env) :: starEach es X.env := by rfl)
    (hpl : ((backTo pos (starEach (e :: es) X.env)).any (·.1) || (backToKw pos (keywordEach kws X.env)).any (·.1.isNone)) = false := by rfl) :
    DE X B (.Call (.Name x p) (e :: es) kws pos) (dCallK sp pm W t tk') := by
  obtain ⟨f, fd, qual, F0, hm, ok⟩ := F.ex
  refine ⟨⟨fun pins s σ H Q I ⟨h, m, C, r, Q0, S, t, k⟩ => ?_⟩⟩
  refine wpAny_Call_Name_kw (ld_glob I hg hm ?_ hdb)
  refine PySem.W.callWith_KW (h₀ := X.base) I.ok.mod.kin F0.kp hall (thn (ha.run.run pos pins s σ H (fun vs H1 => vs.length = (e :: es).length ∧ upA X.K B kws.length tk' σ H1 fun zs H2 => zs.length = kws.length ∧ spUp X.K ps.length sp (vs ++ pick pm zs) H2 Q (WE (upW X.K B W) σ)) I
    ⟨h, m, C, r, _, S, t, fun ds C1 m1 H1 vs q1 hl x1 R1 r1 => ⟨by rw [← r1.length, hl], h, m1, C1, r, _, S.ext x1 R1, q1, fun es' C2 m2 H2 zs q2 hl2 x2 R2 r2 => ⟨by rw [← r2.length, hl2], ?_⟩⟩⟩) fun us s1 ⟨vs, H1, I1, r1, hvl, q⟩ => ?_) hpl he
  · refine call_up ((S.ext x1 R1).ext x2 R2) ((x2.reps r1).append (pick_reps r2 pm)) ?_ q2 (Con.ext k (x1.trans x2))
    rw [List.length_append, hl, pick_len (by rw [hl2]; exact hpm)]
    exact hlen
  · refine thn (hkw.run.run pos pins s1 σ H1 _ I1 q) fun ws s2 ⟨zs, H2, I2, rz, hzl, q2⟩ => ⟨I2.kIn, ?_⟩
    rw [hks]
    obtain ⟨oc, od, kV, doc, pmm, an, cdv, ct, osl, rfl, lk, hcd⟩ := F0.ex
    exact run_fnKD ok hr (hb qual kV doc pmm an cdv ct us ws (by rw [← r1.length, hvl]) (by rw [← rz.length, hzl, hkl])) (passAt tk σ) I2 r1 rz q2
theorem d_callK0 (F : Fn X.prog X.w X.K X.mg X.base k x st ps sp) (hb : BindK x st ps ks 0 pm) (hr : Room k X.A) (tk : TakesD X B W) (hkw : DK X B kws tk') (hkl : kws.length = ks.length := by rfl)
    (hpm : pm.all (· < kws.length) = true := by decide) (hlen : pm.length = ps.length := by rfl) (hg : Gl X x := by rfl)
    (hall : (backToKw pos (keywordEach kws X.env)).all (·.1.isSome) = true := by rfl) (hks : (backToKw pos (keywordEach kws X.env)).filterMap (·.1) = ks := by rfl)
    (hdb : (x == ("__debug__" : Str)) = false := by decide)
    (hpl : ((backTo pos (starEach [] X.env)).any (·.1) || (backToKw pos (keywordEach kws X.env)).any (·.1.isNone)) = false := by rfl) :
    DE X B (.Call (.Name x p) [] kws pos) (dCallK sp pm W dNil tk') := by
  obtain ⟨f, fd, qual, F0, hm, ok⟩ := F.ex
  refine ⟨⟨fun pins s σ H Q I ⟨h, m, C, r, Q0, S, t, k⟩ => ?_⟩⟩
  refine wpAny_Call_Name_kw (ld_glob I hg hm ?_ hdb)
  refine PySem.W.callWith_KW0 (h₀ := X.base) I.ok.mod.kin F0.kp hall ?_ hpl
  refine thn (hkw.run.run pos pins s σ H (fun zs H2 => zs.length = kws.length ∧ spUp X.K ps.length sp ([] ++ pick pm zs) H2 Q (WE (upW X.K B W) σ)) I
    ⟨h, m, C, r, _, S, t, fun es' C2 m2 H2 zs q2 hl2 x2 R2 r2 => ⟨by rw [← r2.length, hl2], ?_⟩⟩) fun ws s2 ⟨zs, H2, I2, rz, hzl, q2⟩ => ⟨I2.kIn, ?_⟩
  · refine call_up (S.ext x2 R2) (pick_reps r2 pm) ?_ q2 (Con.ext k x2)
    show (pick pm es').length = _
    rw [pick_len (by rw [hl2]; exact hpm)]
    exact hlen
  · rw [hks]
    obtain ⟨oc, od, kV, doc, pmm, an, cdv, ct, osl, rfl, lk, hcd⟩ := F0.ex
    exact run_fnKD (vs := []) (us := []) ok hr (hb qual kV doc pmm an cdv ct [] ws rfl (by rw [← rz.length, hzl, hkl])) (passAt tk σ) I2 .nil rz q2
end
end DL
/-! DLA: is with None, True, False; list + list as a new cell; targets from lists; bits; a module's int. -/
namespace DL
open PySem PySem.Spec PyProof.Rows L2
def isSameB (x y : D) : Bool := match y with
  | .non => isNon x
  | .bl c => match x with
    | .bl b => b == c
    | _ => false
  | _ => false
def isConst : D → Bool
  | .non => true
  | .bl _ => true
  | _ => false
def oIs (neg : Bool) : O2 := fun x y C Q => isConst y = true ∧ Q (.bl (if neg then !isSameB x y else isSameB x y)) C
def isSameV (x y : V) : Bool := match y with
  | .non => decide (x = .non)
  | .bl c => match x with
    | .bl b => b == c
    | _ => false
  | _ => false
def rIsC (neg : Bool) : R2 := fun x y H Q => (y = .non ∨ ∃ c, y = .bl c) ∧ Q (.bl (if neg then !isSameV x y else isSameV x y)) H
section
variable {X : Cx}
theorem is_bl {M : Model} {A : Around} {E : Value → Shared → Prop} {s : Shared} {x : V} {u : Value} {c : Bool} {R : Bool → Shared → Prop} (r : L2.RelV x u) (q : R (isSameV x (.bl c)) s) : wpAny M A (isSame u (.bool c)) R E s := by
  have eq_ : ∀ {u : Value} {b : Bool}, plainIs u (.bool c) = true → (u == Value.bool c) = b → R b s → wpAny M A (isSame u (.bool c)) R E s := fun h1 h2 q => wpAny_isSame_plain h1 (by rw [h2]; exact q)
  cases x with
  | ref a => cases r; exact eq_ rfl rfl q
  | non => cases r; exact eq_ rfl rfl q
  | bl b => cases r; exact eq_ (b := b == c) rfl (by cases b <;> cases c <;> rfl) q
  | int i => obtain ⟨t, rfl⟩ := r; exact eq_ rfl rfl q
  | str x => obtain ⟨t, rfl⟩ := r; exact eq_ rfl rfl q
  | byt x => obtain ⟨t, rfl⟩ := r; exact eq_ rfl rfl q
  | flt x => obtain ⟨t, rfl⟩ := r; exact eq_ rfl rfl q
  | ty n => cases r; exact eq_ rfl rfl q
theorem op_isC : OpR X (compareOp .Is) (rIsC false) := by
  intro pins s σ H x y v u Q I rx ry h
  obtain ⟨rfl | ⟨c, rfl⟩, q⟩ := h
  · exact op_isN pins s σ H x .non v u Q I rx ry ⟨rfl, q⟩
  · cases ry
    show wpAny _ _ ((isSame v (Value.bool c)) >>= fun z => pure (Value.bool z)) _ _ s
    exact wpAny_bind (is_bl rx (wpAny_pure (fin_bl I q rfl)))
theorem op_notC : OpR X (compareOp .IsNot) (rIsC true) := by
  intro pins s σ H x y v u Q I rx ry h
  obtain ⟨rfl | ⟨c, rfl⟩, q⟩ := h
  · exact op_notN pins s σ H x .non v u Q I rx ry ⟨rfl, q⟩
  · cases ry
    show wpAny _ _ ((isSame v (Value.bool c)) >>= fun z => pure (Value.bool (!z))) _ _ s
    exact wpAny_bind (is_bl rx (wpAny_pure (fin_bl I q rfl)))
theorem od_is {K : PySem.W.Frag} {neg : Bool} : OpD K (rIsC neg) (oIs neg) := by
  intro h m C H d1 d2 v1 v2 Q0 Q R r1 r2 o k
  obtain ⟨hc, q⟩ := o
  cases d2 <;> first | (cases hc; done) | skip
  · have e : v2 = .non := r2
    subst e
    refine ⟨.inl rfl, ?_⟩
    have e2 : isSameV v1 .non = isSameB d1 .non := rep_isNon r1
    rw [e2]
    exact k.bl R q
  · rename_i c
    have e : v2 = .bl c := r2
    subst e
    refine ⟨.inr ⟨c, rfl⟩, ?_⟩
    have e2 : isSameV v1 (.bl c) = isSameB d1 (.bl c) := by
      cases d1 with
      | non => have e : v1 = .non := r1; subst e; rfl
      | bl _ => have e : v1 = .bl _ := r1; subst e; rfl
      | int _ => have e : v1 = .int _ := r1; subst e; rfl
      | str _ => have e : v1 = .str _ := r1; subst e; rfl
      | tup _ => obtain ⟨a, vs, _, rfl, _⟩ := r1; rfl
      | lst _ => obtain ⟨a, vs, rfl, _⟩ := r1; rfl
      | scr _ => obtain ⟨a, vs, rfl, _⟩ := r1; rfl
      | cel _ => obtain ⟨a, rfl, _⟩ := r1; rfl
      | obj _ => have e : v1 = .ref _ := r1; subst e; rfl
    rw [e2]
    exact k.bl R q
end
section
variable {X : Cx} {B : BS} {a b : Expr} {ta tb : RE} {pos : Pos}
theorem d_is (ha : DE X B a ta) (hb : DE X B b tb) : DE X B (.Compare a [.Is] [b] pos) (dOp (oIs false) ta tb) := d_cmp op_isC od_is ha hb (nomark _)
theorem d_isNot (ha : DE X B a ta) (hb : DE X B b tb) : DE X B (.Compare a [.IsNot] [b] pos) (dOp (oIs true) ta tb) := d_cmp op_notC od_is ha hb (nomark _)
theorem dt_is (ha : DE X B a ta) (hb : DE X B b tb) : DT X B (.Compare a [.Is] [b] pos) (dTest (dOp (oIs false) ta tb)) := d_cmpT op_isC od_is ha hb (nomark _)
theorem dt_isNot (ha : DE X B a ta) (hb : DE X B b tb) : DT X B (.Compare a [.IsNot] [b] pos) (dTest (dOp (oIs true) ta tb)) := d_cmpT op_notC od_is ha hb (nomark _)
def oAddC : O2 := fun x y C Q => opt (lsD C x) fun xs => opt (lsD C y) fun ys => xs.length + ys.length ≤ sizeLine ∧ Q (.cel C.length) (C ++ [.lst (xs ++ ys)])
theorem d_addC (ha : DE X B a ta) (hb : DE X B b tb) : DE X B (.BinOp a .Add b pos) (dOp oAddC ta tb) := by
  refine d_op op_cat (fun h m C H d1 d2 v1 v2 Q0 Q R r1 r2 o k => ?_) ha hb
  obtain ⟨xs, e1, o⟩ := opt_iff.mp o
  obtain ⟨ys, e2, hl, q⟩ := opt_iff.mp o
  obtain ⟨a, vs, rfl, h1, p1⟩ := ls_ok R r1 e1
  obtain ⟨b, us, rfl, h2, p2⟩ := ls_ok R r2 e2
  exact ⟨a, b, vs, us, rfl, rfl, h1, h2, by rw [← p1.length, ← p2.length]; exact hl, fun p np => k.cel R (p1.append p2) q np⟩
abbrev oAnd : O2 := oI fun i j => .int (Builtin.bitAnd i j)
abbrev oOr : O2 := oI fun i j => .int (Builtin.bitOr i j)
abbrev oShr : O2 := oIc (fun _ j => 0 ≤ j) fun i j => .int (i / 2 ^ j.toNat)
abbrev oShl : O2 := oIc CPow fun i j => .int (i * 2 ^ j.toNat)
theorem d_band (ha : DE X B a ta) (hb : DE X B b tb) : DE X B (.BinOp a .BitAnd b pos) (dOp oAnd ta tb) := d_op op_and (od_I fun _ _ _ _ => rfl) ha hb
theorem d_bor (ha : DE X B a ta) (hb : DE X B b tb) : DE X B (.BinOp a .BitOr b pos) (dOp oOr ta tb) := d_op op_or (od_I fun _ _ _ _ => rfl) ha hb
theorem d_shr (ha : DE X B a ta) (hb : DE X B b tb) : DE X B (.BinOp a .RShift b pos) (dOp oShr ta tb) := d_op op_shr (od_Ic fun _ _ _ _ => rfl) ha hb
theorem d_shl (ha : DE X B a ta) (hb : DE X B b tb) : DE X B (.BinOp a .LShift b pos) (dOp oShl ta tb) := d_op op_shl (od_Ic fun _ _ _ _ => rfl) ha hb
/-- a module's int -/
theorem d_globE {x : Str} {i : Int} {pos : Pos} (hm : ∃ t, X.mg x = some (.int i t)) (hg : Gl X x := by rfl) (hd : (x == ("__debug__" : Str)) = false := by decide) : DE X B (.Name x pos) (dC (.int i)) := by
  obtain ⟨t, hm⟩ := hm
  exact d_globI hg hm hd
end
theorem pg_or {X : Cx} {tg : Expr} {t t' : TG} (p : PG X tg t) (p' : PG X tg t') : PG X tg (fun v σ H Q => t v σ H Q ∨ t' v σ H Q) := ⟨fun pins s σ H v u Q I r h => h.elim (p.run pins s σ H v u Q I r) (p'.run pins s σ H v u Q I r)⟩
/-- a tuple as a target, of a tuple or a list -/
def gTup (n : Nat) (g : RGs) : RG := fun d r C Q => opt (sqD C d) fun ds => ds.length = n ∧ g ds r C Q
theorem dg_tupA {X : Cx} {B : BS} {vs : List Nat} {pos : Pos} {es : List Expr} {k : Nat} {g : RGs} {n : Nat} (hc : X.calm = true) (h : DGs X B vs es g) (hn : (assignEach es X.env).length = n := by rfl) (hst : (assignEach es X.env).findIdx? (·.1) = none := by rfl) : DG X B vs (.Tuple es k pos) (gTup n g) := by
  refine ⟨pg_imp (pg_or (pg_unl hc h.run hn hst) (pg_tup hc h.run hn hst)) fun v σ H Q ⟨h, m, C, r, d, Q0, S, rp, t, k⟩ => ?_⟩
  obtain ⟨ds, e, hl, t⟩ := opt_iff.mp t
  obtain ⟨a, us, rfl, hq, ru⟩ := sq_ok S.rl rp e
  rcases hq with hq | hq
  · exact .inl ⟨a, us, rfl, hq, ru.glen hl, h, m, C, r, _, Q0, S, ru, t, k⟩
  · exact .inr ⟨a, us, rfl, hq, ru.glen hl, h, m, C, r, _, Q0, S, ru, t, k⟩
/-! ### ends -/
theorem fn_none {P : Program} {w : World} {K : PySem.W.Frag} {mg : Str → Option Value} {base : Heap} {k : Nat} {x qual : Str} {st : Stmt} {ps : List Str} {f : Addr} {fd : FuncData} (F : Fun K x qual st f fd) (hm : mg x = some (.ref f)) : Fn P w K mg base k x st ps (fun _ _ _ _ => False) :=
  ⟨f, fd, qual, F, hm, ⟨fun vs H Q E h => spUp_len h, fun A outer s H args us vs Q E hr e0 hb r z => by
    obtain ⟨h, m, C, ds, Q0, E0, R, r, l, sp, _⟩ := z
    exact sp.elim⟩⟩
theorem law_sp {K : PySem.W.Frag} {sp : SpD} {H : Hp} {a : Addr} {ns : List Int} (hS : SqL K H a (ns.map V.int)) (h : sp [.scr (ns.map D.int)] [] (fun d _ => d = .bl true) fun _ _ _ => False) :
    spUp K 1 sp [.ref a] H (fun v _ => v = .bl true) fun _ _ _ => False := by
  have hz0 : hz [] [] H = H := by
    funext b
    unfold hz off
    rw [if_neg (by simp)]
  refine ⟨[], [], [], [.scr (ns.map D.int)], fun d _ => d = .bl true, fun _ _ _ => False, ⟨.nil, rfl, fun n c e => by simp at e, fun a ha => by simp at ha⟩, Reps.one ⟨a, ns.map V.int, rfl, by rw [hz0]; exact hS, Reps.ints⟩, rfl, h, fun d C' m' H' v q x R r => ?_, fun cls od C' m' H' dx q _ _ _ => q⟩
  subst q
  exact r
theorem cx_false {P : Program} {w : World} {outer : List Env} {H : Hp} {s : Shared} {e : Value} {s' : Shared} (h : L2.CX P w outer H s (fun _ _ _ => False) e s') : False := by
  obtain ⟨_, _, _, _, _, _, _, _, _, _, _, _, z⟩ := h
  exact z
end DL
/-! DLX: sorted(a tuple of ints). -/
namespace DL
open PySem PySem.Spec PyProof.Rows L2
section
variable {prog : Program} {w : World} {A : Around} {E : Value → Shared → Prop} {s : Shared}
theorem collect_tup {l : Addr} {vs : List Value} {Q : List Value → Shared → Prop} (hl : s.heap.IsTuple l vs.toArray) (hz : vs.length ≤ sizeLine)
    (hq : Q vs { s with heap := (s.heap.push (seqObj "list" #[] 0)).update s.heap.objs.size (Obj.mapSeq (· ++ vs.toArray)) }) : wpAny (model prog w) A (collect (.ref l)) Q E s := by
  obtain ⟨o, ho, hc, n, hd⟩ := hl
  have new : (s.heap.push (seqObj "list" #[] 0)).get? s.heap.objs.size = some (seqObj "list" #[] 0) := Heap.get?_push_size _ rfl
  unfold collect
  refine wpAny_bind (wpAny_runValue (codeAny_builtin entry_proto_collect' ?_))
  show wpAny _ _ (newList [] >>= fun v => again (.builtin "list.__iadd__" ⟨[v, .ref l], []⟩)) _ _ s
  refine wpAny_bind (wpAny_newList ?_)
  refine wpAny_pure ⟨Code.quiet_builtin _ (by decide +kernel), ?_⟩
  refine codeAny_builtin entry_list_iadd' ?_
  show wpAny _ _ (Builtin.List.listExtendWith (.ref s.heap.objs.size) (.ref l) (.ref s.heap.objs.size)) _ _
    { s with heap := s.heap.push (seqObj "list" #[] 0) }
  unfold Builtin.List.listExtendWith
  have there := Heap.get?_push_of_some (seqObj "list" #[] 0) ho
  refine wpAny_bind (wpAny_typeOf (T := "tuple") ⟨o, there, hc⟩ ?_)
  have tt : (Value.type "tuple" == Value.type "tuple") = true := by rfl
  have c1 : (Builtin.List.listSameRef (.ref s.heap.objs.size) (.ref l) || Value.type "tuple" == Value.type "list" || Value.type "tuple" == Value.type "tuple") = true := by
    rw [tt, Bool.or_true]
  rw [if_pos c1]
  refine wpAny_bind (listItems_at there hd ?_)
  refine wpAny_bind (listItems_at (xs := #[]) (n := 0) new rfl ?_)
  rw [if_neg (by simp)]
  refine wpAny_bind (listUpdate_at (xs := #[]) (n := 0) new rfl ?_ (Nat.zero_le _) ?_)
  rotate_left
  · show (#[] ++ vs.toArray).size ≤ sizeLine + 1
    rw [Array.size_append, List.size_toArray]
    show 0 + vs.length ≤ sizeLine + 1
    omega
  refine wpAny_pure ?_
  show wpAny _ A (load s.heap.objs.size >>= fun o => match o.data with
      | .seq xs _ => pure xs.toList
      | _ => unsupported "internal:collect") Q E { s with heap := (s.heap.push (seqObj "list" #[] 0)).update s.heap.objs.size (Obj.mapSeq (· ++ vs.toArray)) }
  refine wpAny_bind (wpAny_load (get?_update_seq new _) ?_)
  show wpAny _ _ (pure ((#[] : Array Value) ++ vs.toArray).toList) _ _ _
  have e : ((#[] : Array Value) ++ vs.toArray).toList = vs := by simp
  rw [e]
  exact wpAny_pure hq
theorem sorted_tup {l : Addr} {vs : List Value} {ltv : Value → Value → Bool} {Q : Value → Shared → Prop} (O : SrtO.Swo ltv) (hl : s.heap.IsTuple l vs.toArray) (hz : vs.length ≤ sizeLine)
    (hS : 2 ≤ vs.length → ∀ (h₁ : Heap) (a : Addr), h₁.get? a = some (seqObj "list" vs.toArray 0) → (∀ b o, s.heap.get? b = some o → b ≠ a ∧ h₁.get? b = some o) → SrtO.SortableO prog w A.in1.in1 { s with heap := h₁ } a vs ltv)
    (h : ∀ out : List Value, SrtO.Srtd ltv out → SrtO.Stb ltv out vs → Q (.ref (s.heap.objs.size + 1)) { s with heap := sortedAll s.heap vs out.toArray }) :
    wpAny (model prog w) A (PySem.call (.builtin "sorted") [.ref l]) Q E s := by
  refine Calls.call_function_entry kind_sorted plain_sorted entry_sorted (args_sorted1 _) ?_
  unfold Builtin.«sorted»
  refine wpAny_bind (m := checkCount "sorted" 1 1 _) (wpAny_pure ?_)
  refine wpAny_bind (collect_tup hl hz ?_)
  refine wpAny_bind (wpAny_newList ?_ hz)
  have len1 : ((s.heap.push (seqObj "list" #[] 0)).update s.heap.objs.size (Obj.mapSeq (· ++ vs.toArray))).objs.size = s.heap.objs.size + 1 := by rw [Heap.size_update, size_push']
  have at1 : (((s.heap.push (seqObj "list" #[] 0)).update s.heap.objs.size (Obj.mapSeq (· ++ vs.toArray))).push (seqObj "list" vs.toArray 0)).get? (s.heap.objs.size + 1) = some (seqObj "list" vs.toArray 0) := (congrArg _ len1.symm).trans (Heap.get?_push_size _ rfl)
  have old : ∀ b o, s.heap.get? b = some o → b ≠ s.heap.objs.size + 1 ∧ (((s.heap.push (seqObj "list" #[] 0)).update s.heap.objs.size (Obj.mapSeq (· ++ vs.toArray))).push (seqObj "list" vs.toArray 0)).get? b = some o := fun b o q => by
    have lt : b < s.heap.objs.size := Heap.lt_size q
    refine ⟨Nat.ne_of_lt (Nat.lt_succ_of_lt lt), Heap.get?_push_of_some _ ((Heap.get?_update_ne _ _ _ _ (Nat.ne_of_lt lt)).trans (Heap.get?_push_of_some _ q))⟩
  show wpAny _ _ _ _ _ { s with heap := ((s.heap.push (seqObj "list" #[] 0)).update s.heap.objs.size (Obj.mapSeq (· ++ vs.toArray))).push (seqObj "list" vs.toArray 0) }
  rw [len1]
  refine wpAny_bind (wpAny_holding (wpAny_call_entry slot_list_sort ⟨_, at1, rfl⟩ entry_list_sort (SrtO.list_sort_ord O at1 hz (fun h2 => hS h2 _ _ at1 old) fun out hs hb => ⟨_, rfl, wpAny_pure ⟨_, rfl, h out hs hb⟩⟩) (args_list_sort _)))
end
def rSortedT2 (K : PySem.W.Frag) : List V → Hp → VK → Prop := fun vs H Q => ∃ (a : Addr) (ns : List Int), vs = [V.ref a] ∧ SqT K H a (ns.map V.int) ∧ ∀ ns' : List Int, ns'.Perm ns → ns'.Pairwise (· ≤ ·) → ∀ p, H p = none → Q (.ref p) (upd H p (.lst (ns'.map V.int)))
theorem cr_sortedT2 {X : Cx} : CallR X (.builtin "sorted") (rSortedT2 X.K) := by
  intro pins s σ H vs us Q I r h
  obtain ⟨a, ns, rfl, hs, q⟩ := h
  obtain ⟨its, rv, hl, hz⟩ := I.tuple hs
  rw [Vals.ref1 r]
  have hi := rv.ints
  refine sorted_tup SrtO.swo_int (show s.heap.IsTuple a its.toArray from hl) (by rw [← rv.length]; exact hz) (fun h2 h₁ a' _ _ => SrtO.ints_sortable hi h2) fun out h1 h2 => ?_
  obtain ⟨k1, k2, k3⟩ := SrtO.ints_out hi h1 h2
  obtain ⟨ep, he'⟩ := PyProof.Rows.sortedAll_at s.heap its out.toArray
  have hlen : ((out.map SrtO.iv).map V.int).length ≤ sizeLine := by
    rw [List.length_map] at hz
    rw [List.length_map, k2.length_eq]
    exact hz
  exact ⟨.ref _, upd H (s.heap.objs.size + 1) (.lst ((out.map SrtO.iv).map V.int)), I.laid (t' := s.toks) (fun _ _ => PyProof.Rows.sortedAll_old) (Nat.le_succ _) ⟨hlen, out, ep, vals_of_ints k1, he'⟩, rfl, q _ k2 k3 _ (I.hok.fresh (Nat.le_succ _))⟩
/-- sorted of a list or a tuple of ints; the second: a new cell -/
def oSortA : OA := fun ds C Q => match ds with
  | [d] => opt (sqD C d) fun xs => opt (intsD xs) fun ns => ∀ ns' : List Int, ns'.Perm ns → ns'.Pairwise (· ≤ ·) → Q (.lst (ns'.map D.int)) C
  | _ => False
def oSortC : OA := fun ds C Q => match ds with
  | [d] => opt (sqD C d) fun xs => opt (intsD xs) fun ns => ∀ ns' : List Int, ns'.Perm ns → ns'.Pairwise (· ≤ ·) → Q (.cel C.length) (C ++ [.lst (ns'.map D.int)])
  | _ => False
theorem cd_sortA {K : PySem.W.Frag} : CallD K (fun vs H Q => rSortedI K vs H Q ∨ rSortedT2 K vs H Q) oSortA := by
  intro h m C H ds vs Q0 Q R rs o k
  match ds, o with
  | [d], o =>
    obtain ⟨v, rfl, r⟩ := reps1 rs
    obtain ⟨xs, e, o⟩ := opt_iff.mp o
    obtain ⟨bs, e2, q⟩ := opt_iff.mp o
    obtain ⟨a, us, rfl, hq, ru⟩ := sq_ok R r e
    rw [ints_rep ru e2] at hq
    rcases hq with hq | hq
    · exact .inl ⟨a, bs, rfl, hq, fun ns' p h1 h2 np => k.lst R Reps.ints (q ns' h1 h2) np⟩
    · exact .inr ⟨a, bs, rfl, hq, fun ns' h1 h2 p np => k.lst R Reps.ints (q ns' h1 h2) np⟩
  | [], o => exact o.elim
  | _ :: _ :: _, o => exact o.elim
theorem cd_sortC {K : PySem.W.Frag} : CallD K (fun vs H Q => rSortedI K vs H Q ∨ rSortedT2 K vs H Q) oSortC := by
  intro h m C H ds vs Q0 Q R rs o k
  match ds, o with
  | [d], o =>
    obtain ⟨v, rfl, r⟩ := reps1 rs
    obtain ⟨xs, e, o⟩ := opt_iff.mp o
    obtain ⟨bs, e2, q⟩ := opt_iff.mp o
    obtain ⟨a, us, rfl, hq, ru⟩ := sq_ok R r e
    rw [ints_rep ru e2] at hq
    rcases hq with hq | hq
    · exact .inl ⟨a, bs, rfl, hq, fun ns' p h1 h2 np => k.cel R Reps.ints (q ns' h1 h2) np⟩
    · exact .inr ⟨a, bs, rfl, hq, fun ns' h1 h2 p np => k.cel R Reps.ints (q ns' h1 h2) np⟩
  | [], o => exact o.elim
  | _ :: _ :: _, o => exact o.elim
section
variable {X : Cx} {B : BS} {e : Expr} {t : RA} {p pos : Pos}
theorem d_sortA (hm : X.mg "sorted" = none) (ha : DA X B [e] t) (hg : Gl X "sorted" := by rfl) (he : starEach (e :: []) X.env = (false, eval e X.env) :: starEach [] X.env := by rfl) : DE X B (.Call (.Name "sorted" p) [e] [] pos) (dCB oSortA t) :=
  d_cb (cr_sortedI.or cr_sortedT2) cd_sortA hg hm (by decide +kernel) ha (by decide) (by decide) he rfl
theorem d_sortC (hm : X.mg "sorted" = none) (ha : DA X B [e] t) (hg : Gl X "sorted" := by rfl) (he : starEach (e :: []) X.env = (false, eval e X.env) :: starEach [] X.env := by rfl) : DE X B (.Call (.Name "sorted" p) [e] [] pos) (dCB oSortC t) :=
  d_cb (cr_sortedI.or cr_sortedT2) cd_sortC hg hm (by decide +kernel) ha (by decide) (by decide) he rfl
end
end DL
/-! DLV: steps through a reading, one rule a combinator. -/
namespace DL
open PySem PySem.Spec PyProof.Rows L2
section
variable {r : Ev} {C : Cs} {Q : QD} {D : EndsD} {t u : RS} {te ta tb tc : RE} {d : DL.D} {i j : Nat}
theorem v_seq (h : t { D with nx := u D } r C) : sSeq t u D r C := h
theorem v_set (h : te r C fun d C1 => D.nx (r.set i (some d)) C1) : sSet i te D r C := h
theorem v_asg {g : RG} (h : te r C fun d C1 => g d r C1 D.nx) : sAsg te g D r C := h
theorem v_drop (h : te r C fun _ C1 => D.nx r C1) : sDrop te D r C := h
theorem v_ret (h : te r C D.rt) : sRet te D r C := h
theorem v_retN (h : D.rt .non C) : sRetN D r C := h
theorem v_if {c : RT} (h : c r C fun b C1 => if b = true then t D r C1 else u D r C1) : sIf c t u D r C := h
theorem v_next (h : D.nx r C) : sNext D r C := h
theorem v_brk (h : D.bk r C) : sBrk D r C := h
theorem v_cnt (h : D.ct r C) : sCnt D r C := h
theorem v_par {ra : RA} (h : ra r C fun ds C1 => match ds with
  | [d, e] => D.nx ((r.set i (some d)).set j (some e)) C1
  | _ => False) : sPar i j ra D r C := h
theorem v_par3 {l : Nat} {ra : RA} (h : ra r C fun ds C1 => match ds with
  | [d, e, f] => D.nx (((r.set i (some d)).set j (some e)).set l (some f)) C1
  | _ => False) : sPar3 i j l ra D r C := h
theorem v_aug {o : O2} {x : DL.D} (e : r.getD i none = some x) (h : te r C fun y C1 => o x y C1 fun z C2 => D.nx (r.set i (some z)) C2) : sAug i o te D r C := by
  unfold sAug
  rw [e]
  exact h
theorem v_var (e : r.getD i none = some d) (h : Q d C) : dVar i r C Q := by
  unfold dVar
  rw [e]
  exact h
theorem v_c (h : Q d C) : dC d r C Q := h
theorem v_op {o : O2} (h : ta r C fun x C1 => tb r C1 fun y C2 => o x y C2 Q) : dOp o ta tb r C Q := h
theorem v_un {o : O1} (h : ta r C fun x C1 => o x C1 Q) : dUn o ta r C Q := h
theorem v_chain {o o' : O2} (h : ta r C fun x C1 => tb r C1 fun y C2 => o x y C2 fun z C3 => match z with
  | .bl true => tc r C3 fun w C4 => o' y w C4 Q
  | .bl false => Q (.bl false) C3
  | _ => False) : dChain o o' ta tb tc r C Q := h
theorem v_ifE {c : RT} (h : c r C fun b C1 => if b = true then ta r C1 Q else tb r C1 Q) : dIf c ta tb r C Q := h
theorem v_cons {tr : RA} {Q : List DL.D → Cs → Prop} (h : ta r C fun x C1 => tr r C1 fun xs C2 => Q (x :: xs) C2) : dCons ta tr r C Q := h
theorem v_nil {Q : List DL.D → Cs → Prop} (h : Q [] C) : dNil r C Q := h
theorem v_tup {ra : RA} (h : ra r C fun ds C1 => Q (.tup ds) C1) : dTup ra r C Q := h
theorem v_lst {ra : RA} (h : ra r C fun ds C1 => Q (.lst ds) C1) : dLst ra r C Q := h
theorem v_lstC {ra : RA} (h : ra r C fun ds C1 => Q (.cel C1.length) (C1 ++ [.lst ds])) : dLstC ra r C Q := h
theorem v_cb {o : OA} {ra : RA} (h : ra r C fun ds C1 => o ds C1 Q) : dCB o ra r C Q := h
theorem v_call {sp : SpD} {W : XW} {ra : RA} (h : ra r C fun ds C1 => sp ds C1 Q fun cls od C' => W cls od r C') : dCall sp W ra r C Q := h
theorem v_callK {sp : SpD} {W : XW} {p : List Nat} {ra rk : RA} (h : ra r C fun ds C1 => rk r C1 fun es C2 => sp (ds ++ pick p es) C2 Q fun cls od C' => W cls od r C') : dCallK sp p W ra rk r C Q := h
theorem v_ml {o : OM} {ra : RA} (h : ta r C fun d C1 => opt (llD C1 d) fun _ => ra r C1 fun ds C2 => o d ds C2 Q) : dMl o ta ra r C Q := h
theorem v_ml0 {o : OM} (h : ta r C fun d C1 => opt (llD C1 d) fun _ => o d [] C1 Q) : dMl0 o ta r C Q := h
theorem v_mt {o : OM} {ra : RA} (h : ta r C fun d C1 => isTupD d = true ∧ ra r C1 fun ds C2 => o d ds C2 Q) : dMt o ta ra r C Q := h
theorem v_sl {o : Cs → DL.D → Option Int → Option Int → QD → Prop} {tl th : RO} (h : te r C fun x C1 => tl r C1 fun l C2 => th r C2 fun u C3 => o C3 x l u Q) : dSl o te tl th r C Q := h
theorem v_no {Q : Option Int → Cs → Prop} (h : Q none C) : dNo r C Q := h
theorem v_part {Q : Option Int → Cs → Prop} (h : te r C fun d C1 => match d with
  | .int i => Q (some i) C1
  | _ => False) : dPart te r C Q := h
theorem v_rev (h : te r C fun d C1 => opt (llD C1 d) fun xs => Q (.lst xs.reverse) C1) : dRev te r C Q := h
theorem v_revC (h : te r C fun d C1 => opt (llD C1 d) fun xs => Q (.cel C1.length) (C1 ++ [.lst xs.reverse])) : dRevC te r C Q := h
theorem v_isi {T : String} (h : te r C fun d C1 => opt (isTy T d) fun b => Q (.bl b) C1) : dIsi T te r C Q := h
theorem v_isi2 {T U : String} (h : te r C fun d C1 => opt (isTy T d) fun b => opt (isTy U d) fun c => Q (.bl (b || c)) C1) : dIsi2 T U te r C Q := h
theorem v_andV (h : ta r C fun d C1 => match d with
  | .bl true => tb r C1 Q
  | .bl false => Q (.bl false) C1
  | _ => False) : dAndV ta tb r C Q := by
  unfold dAndV
  have e : (fun (d : DL.D) C1 => match d with
    | .bl true => tb r C1 Q
    | .bl false => Q (.bl false) C1
    | _ => False) = (fun d C1 => match d with
    | .bl b => if b = true then tb r C1 Q else Q (.bl false) C1
    | _ => False) := by
    funext d C1
    cases d with
    | bl b => cases b <;> rfl
    | _ => rfl
  first
    | exact h
    | (rw [e] at h; exact h)
theorem v_orV (h : ta r C fun d C1 => match d with
  | .bl true => Q (.bl true) C1
  | .bl false => tb r C1 Q
  | _ => False) : dOrV ta tb r C Q := by
  unfold dOrV
  have e : (fun (d : DL.D) C1 => match d with
    | .bl true => Q (.bl true) C1
    | .bl false => tb r C1 Q
    | _ => False) = (fun d C1 => match d with
    | .bl b => if b = true then Q (.bl true) C1 else tb r C1 Q
    | _ => False) := by
    funext d C1
    cases d with
    | bl b => cases b <;> rfl
    | _ => rfl
  first
    | exact h
    | (rw [e] at h; exact h)
theorem v_notV (h : ta r C fun d C1 => match d with
  | .bl true => Q (.bl false) C1
  | .bl false => Q (.bl true) C1
  | _ => False) : dNotV ta r C Q := by
  unfold dNotV
  refine Eq.mp (congrArg (ta r C) ?_) h
  funext d C1
  cases d with
  | bl b => cases b <;> rfl
  | _ => rfl
end
section
variable {r : Ev} {C : Cs} {Q : Bool → Cs → Prop} {t u : RT} {te : RE}
theorem v_test (h : te r C fun d C1 => match d with
  | .bl b => Q b C1
  | _ => False) : dTest te r C Q := h
theorem v_and (h : t r C fun c C1 => if c = true then u r C1 Q else Q false C1) : dAnd t u r C Q := h
theorem v_or (h : t r C fun c C1 => if c = true then Q true C1 else u r C1 Q) : dOr t u r C Q := h
theorem v_not (h : t r C fun c C1 => Q (!c) C1) : dNot t r C Q := h
theorem v_cNil (h : Q true C) : cNil r C Q := h
end
section
variable {r : Ev} {C : Cs} {Q : Ev → Cs → Prop} {d : D} {ds : List D} {g : RG} {gs : RGs} {i n : Nat}
theorem v_gN (h : Q (r.set i (some d)) C) : gN i d r C Q := h
theorem v_gNi (h : Q r C) : gNi [] r C Q := h
theorem v_gCo (h : g d r C fun r' C' => gs ds r' C' Q) : gCo g gs (d :: ds) r C Q := h
theorem v_gTupT (h : ds.length = n ∧ gs ds r C Q) : gTup n gs (.tup ds) r C Q := h
theorem v_gTupL (h : ds.length = n ∧ gs ds r C Q) : gTup n gs (.lst ds) r C Q := h
theorem v_gSb {to ti : RE} (h : to r C fun o C1 => ti r C1 fun i C2 => oSet o i d C2 fun C3 => Q r C3) : gSb to ti d r C Q := h
end
section
variable {r : Ev} {C : Cs} {Q : List D → (Cs → Prop) → Cs → Prop} {te te2 : RE}
theorem v_iSeq (h : te r C fun d C1 => opt (sqD C1 d) fun xs => Q xs (fun C' => sqD C' d = some xs) C1) : iSeq te r C Q := h
theorem v_iEnu (h : te r C fun d C1 => opt (sqD C1 d) fun xs => Q (enumD xs) (fun C' => sqD C' d = some xs) C1) : iEnu te r C Q := h
theorem v_iZip (h : te r C fun d C1 => te2 r C1 fun d2 C2 => opt (sqD C2 d) fun xs => opt (sqD C2 d2) fun ys => Q (zipD xs ys) (fun C' => sqD C' d = some xs ∧ sqD C' d2 = some ys) C2) : iZip2 te te2 r C Q := h
theorem v_iR1 (h : te r C fun d C1 => match d with
  | .int j => (-(2 ^ 62) ≤ j ∧ j ≤ 2 ^ 24) ∧ Q (rngD 0 j.toNat) (fun _ => True) C1
  | _ => False) : iR1 te r C Q := h
theorem v_iR2 (h : te r C fun d C1 => te2 r C1 fun e C2 => match d, e with
  | .int i, .int j => (-(2 ^ 24) ≤ i ∧ i ≤ 2 ^ 24 ∧ -(2 ^ 24) ≤ j ∧ j ≤ 2 ^ 24 ∧ j - i ≤ 2 ^ 24) ∧ Q (rngD i (j - i).toNat) (fun _ => True) C2
  | _, _ => False) : iR2 te te2 r C Q := h
theorem v_rR1 {Q : Int → Int → Cs → Prop} (h : te r C fun d C1 => match d with
  | .int j => Q 0 j C1
  | _ => False) : rR1 te r C Q := h
theorem v_rR2 {Q : Int → Int → Cs → Prop} (h : te r C fun d C1 => te2 r C1 fun e C2 => match d, e with
  | .int i, .int j => Q i j C2
  | _, _ => False) : rR2 te te2 r C Q := h
theorem v_lstR {C0 : Bool} {tr : RR} {Q : QD} (h : tr r C fun i j C1 => rgOk i j ∧ if C0 = true then Q (.cel C1.length) (C1 ++ [.lst (rngD i (j - i).toNat)]) else Q (.lst (rngD i (j - i).toNat)) C1) : dLstR C0 tr r C Q := h
theorem v_tupR {tr : RR} {Q : QD} (h : tr r C fun i j C1 => rgOk i j ∧ Q (.tup (rngD i (j - i).toNat)) C1) : dTupR tr r C Q := h
end
section
variable {C : Cs} {Q : QD} {i j : Int} {g : Int → Int → D} {P : Int → Int → Prop} {d : D} {xs ys : List D} {b c : Bool} {n : Nat}
theorem w_I (h : Q (g i j) C) : oI g (.int i) (.int j) C Q := h
theorem w_Ic (p : P i j) (h : Q (g i j) C) : oIc P g (.int i) (.int j) C Q := ⟨p, h⟩
theorem w_addI (h : Q (.int (i + j)) C) : oAdd (.int i) (.int j) C Q := h
theorem w_addT (hl : xs.length + ys.length ≤ sizeLine) (h : Q (.tup (xs ++ ys)) C) : oAdd (.tup xs) (.tup ys) C Q := ⟨hl, h⟩
theorem w_addL (hl : xs.length + ys.length ≤ sizeLine) (h : Q (.lst (xs ++ ys)) C) : oAdd (.lst xs) (.lst ys) C Q := ⟨hl, h⟩
theorem w_mulI (p : CMul i j) (h : Q (.int (i * j)) C) : oMul (.int i) (.int j) C Q := ⟨p, h⟩
theorem w_neg (h : Q (.int (-i)) C) : oNeg (.int i) C Q := h
theorem w_lenT (h : Q (.int xs.length) C) : oLen [.tup xs] C Q := h
theorem w_lenL (h : Q (.int xs.length) C) : oLen [.lst xs] C Q := h
theorem w_lenS (h : Q (.int xs.length) C) : oLen [.scr xs] C Q := h
theorem w_lenC (e : lsD C (.cel n) = some xs) (h : Q (.int xs.length) C) : oLen [.cel n] C Q := by
  show opt (lsD C (.cel n)) _
  rw [e]
  exact h
theorem w_ixT (e : atI xs i = some d) (h : Q d C) : oIx (.tup xs) (.int i) C Q := by
  show opt (atI xs i) _
  rw [e]
  exact h
theorem w_ixL (e : atI xs i = some d) (h : Q d C) : oIx (.lst xs) (.int i) C Q := by
  show opt (atI xs i) _
  rw [e]
  exact h
theorem w_ixS (e : atI xs i = some d) (h : Q d C) : oIx (.scr xs) (.int i) C Q := by
  show opt (atI xs i) _
  rw [e]
  exact h
theorem w_ixC (e0 : lsD C (.cel n) = some xs) (e : atI xs i = some d) (h : Q d C) : oIx (.cel n) (.int i) C Q := by
  show opt (lsD C (.cel n)) _
  rw [e0]
  show opt (atI xs i) _
  rw [e]
  exact h
theorem w_slT {lo hi : Option Int} (h : Q (.tup (cutD xs lo hi)) C) : oSl C (.tup xs) lo hi Q := h
theorem w_slL {lo hi : Option Int} (h : Q (.lst (cutD xs lo hi)) C) : oSl C (.lst xs) lo hi Q := h
theorem w_slS {lo hi : Option Int} (h : Q (.lst (cutD xs lo hi)) C) : oSl C (.scr xs) lo hi Q := h
theorem w_tupT (h : Q (.tup xs) C) : oTuple [.tup xs] C Q := h
theorem w_tupL (h : Q (.tup xs) C) : oTuple [.lst xs] C Q := h
theorem w_tupC (e0 : lsD C (.cel n) = some xs) (h : Q (.tup xs) C) : oTuple [.cel n] C Q := by
  show opt (lsD C (.cel n)) _
  rw [e0]
  exact h
theorem w_listT (h : Q (.lst xs) C) : oList [.tup xs] C Q := h
theorem w_listL (h : Q (.lst xs) C) : oList [.lst xs] C Q := h
theorem w_listCT (h : Q (.cel C.length) (C ++ [.lst xs])) : oListC [.tup xs] C Q := h
theorem w_listCL (h : Q (.cel C.length) (C ++ [.lst xs])) : oListC [.lst xs] C Q := h
theorem w_abs (h : Q (.int (if i < 0 then -i else i)) C) : oAbs [.int i] C Q := h
theorem w_int (h : Q (.int i) C) : oInt [.int i] C Q := h
theorem w_max2 (h : Q (.int (if j > i then j else i)) C) : oMax2 [.int i, .int j] C Q := h
theorem w_min2 (h : Q (.int (if j < i then j else i)) C) : oMin2 [.int i, .int j] C Q := h
theorem w_is {neg : Bool} {x y : D} (p : isConst y = true) (h : Q (.bl (if neg then !isSameB x y else isSameB x y)) C) : oIs neg x y C Q := ⟨p, h⟩
theorem w_app (e : lsD C (.cel n) = some xs) (hl : xs.length < sizeLine) (h : Q .non (C.set n (.lst (xs ++ [d])))) : oApp (.cel n) [d] C Q := by
  show opt (lsD C (.cel n)) _
  rw [e]
  exact ⟨hl, h⟩
theorem w_pop {y : D} (e : lsD C (.cel n) = some xs) (ey : xs[xs.length - 1]? = some y) (h : Q y (C.set n (.lst xs.dropLast))) : oPop (.cel n) [] C Q := by
  show opt (lsD C (.cel n)) _
  rw [e]
  show opt (xs[xs.length - 1]?) _
  rw [ey]
  exact h
theorem w_popAt {k : Nat} {y : D} (e : lsD C (.cel n) = some xs) (hi : i = k) (hk : k < 2 ^ 62) (ey : xs[k]? = some y) (h : Q y (C.set n (.lst (xs.eraseIdx k)))) : oPopAt (.cel n) [.int i] C Q := by
  show opt (lsD C (.cel n)) _
  rw [e]
  subst hi
  have hl : k < xs.length := (List.getElem?_eq_some_iff.mp ey).1
  refine ⟨⟨by omega, by omega⟩, ?_⟩
  have es : seqIndex? (k : Int) xs.length = some k := by
    unfold seqIndex?
    simp only [show ¬ ((k : Int) < 0) by omega, if_false]
    rw [if_pos (by simp; omega)]
    simp
  rw [es]
  show opt (xs[k]?) _
  rw [ey]
  exact h
theorem w_ins (e : lsD C (.cel n) = some xs) (hl : xs.length < sizeLine ∧ 0 ≤ i ∧ i < 2 ^ 63) (h : Q .non (C.set n (.lst (xs.take i.toNat ++ [d] ++ xs.drop i.toNat)))) : oIns (.cel n) [.int i, d] C Q := by
  show opt (lsD C (.cel n)) _
  rw [e]
  exact ⟨hl, h⟩
theorem opt_ok {α : Type} {o : Option α} {a : α} {Q : α → Prop} (e : o = some a) (h : Q a) : opt o Q := by
  rw [e]
  exact h
theorem ite_dec {p : Prop} [Decidable p] {A B : Prop} (h1 : p → A) (h2 : ¬ p → B) : if decide p = true then A else B := by
  by_cases h : p
  · rw [if_pos (decide_eq_true h)]
    exact h1 h
  · rw [if_neg (by simp [h])]
    exact h2 h
theorem ite_ndec {p : Prop} [Decidable p] {A B : Prop} (h1 : ¬ p → A) (h2 : p → B) : if (!decide p) = true then A else B := by
  by_cases h : p
  · rw [if_neg (by simp [h])]
    exact h2 h
  · rw [if_pos (by simp [h])]
    exact h1 h
theorem ite_b {b : Bool} {A B : Prop} (h1 : b = true → A) (h2 : b = false → B) : if b = true then A else B := by
  cases b
  · exact h2 rfl
  · exact h1 rfl
theorem ite_nb {b : Bool} {A B : Prop} (h1 : b = false → A) (h2 : b = true → B) : if (!b) = true then A else B := by
  cases b
  · exact h1 rfl
  · exact h2 rfl
theorem ite_true' {A B : Prop} (h : A) : if true = true then A else B := h
theorem ite_false' {A B : Prop} (h : B) : if false = true then A else B := h
end

/-! ### cells -/
theorem lsD_new {C : Cs} {xs : List D} : lsD (C ++ [.lst xs]) (.cel C.length) = some xs := by
  simp [lsD]
theorem lsD_at {C : Cs} {xs : List D} {n : Nat} (h : C[n]? = some (.lst xs)) : lsD C (.cel n) = some xs := by
  show (match C[n]? with | some (.lst xs) => some xs | none => none) = some xs
  rw [h]
theorem set_new {C : Cs} {x y : Cl} : (C ++ [x]).set C.length y = C ++ [y] := by
  rw [List.set_append_right _ _ (Nat.le_refl _)]
  simp
/-! ### plain data has no cell -/
theorem los_ints (k : Nat) : ∀ ns : List Int, los k (ns.map D.int) = true
  | [] => rfl
  | n :: ns => by
    show (lo k (.int n) && los k (ns.map D.int)) = true
    rw [los_ints k ns]
    rfl
theorem los_append {k : Nat} : ∀ {xs ys : List D}, los k (xs ++ ys) = (los k xs && los k ys)
  | [], ys => by simp [los]
  | x :: xs, ys => by
    show (lo k x && los k (xs ++ ys)) = _
    rw [los_append]
    simp [los, Bool.and_assoc]
theorem los_iff {k : Nat} : ∀ {xs : List D}, los k xs = true ↔ ∀ x ∈ xs, lo k x = true
  | [] => by simp [los]
  | x :: xs => by simp [los, los_iff]
theorem los_mem {k : Nat} {xs : List D} {x : D} (h : los k xs = true) (m : x ∈ xs) : lo k x = true := los_iff.mp h x m
/-- a comprehension's question -/
abbrev LcEx (items : List D) (G : Cs → Prop) (C1 : Cs) (rw' : Ev) (g : RG) (tt : RT) (te : RE) (K0 : Bool) (Q : QD) : Prop := ∃ I : Nat → List D → Cs → Prop, I 0 [] C1 ∧ (∀ i acc C, i ≤ items.length → I i acc C → G C) ∧
  (∀ i d acc C, items[i]? = some d → I i acc C → g d rw' C fun r2 C2 => tt r2 C2 fun b C3 => if b = true then te r2 C3 fun y C4 => I (i + 1) (acc ++ [y]) C4 else I (i + 1) acc C3) ∧
  ∀ acc C, I items.length acc C → if K0 = true then Q (.cel C.length) (C ++ [.lst acc]) else Q (.lst acc) C
section
variable {r : Ev} {C : Cs} {Q : QD} {i : Nat}
theorem v_varG (h : opt (r.getD i none) fun d => Q d C) : dVar i r C Q := h
theorem w_ixG {x : D} {j : Int} (h : opt (sqD C x) fun xs => opt (atI xs j) fun d => Q d C) : oIx x (.int j) C Q := by
  cases x <;> first | exact h | exact h.elim
theorem w_gTupG {n : Nat} {gs : RGs} {d : D} {Q : Ev → Cs → Prop} (h : opt (sqD C d) fun ds => ds.length = n ∧ gs ds r C Q) : gTup n gs d r C Q := h
theorem v_for {it : RI} {g : RG} {body : RS} {D : EndsD} (h : it r C fun items G C1 => ∃ I : Nat → Ev → Cs → Prop, I 0 r C1 ∧ (∀ i r C, i ≤ items.length → I i r C → G C) ∧
  (∀ i d r C, items[i]? = some d → I i r C → g d r C fun r2 C2 => body { nx := I (i + 1), rt := D.rt, bk := D.nx, ct := I (i + 1) } r2 C2) ∧ ∀ r C, I items.length r C → D.nx r C) : sFor it g body D r C := h
theorem v_while {c : RT} {body : RS} {D : EndsD} (h : ∃ W : Nat → Ev → Cs → Prop, (∃ n, W n r C) ∧ ∀ n r C, W n r C → c r C fun b C1 =>
  if b = true then body { nx := fun r C => ∃ k, k < n ∧ W k r C, rt := D.rt, bk := D.nx, ct := fun r C => ∃ k, k < n ∧ W k r C } r C1 else D.nx r C1) : sWhile c body D r C := h
theorem v_lc {K0 : Bool} {it : RI} {g : RG} {tt : RT} {te : RE} {own : List Nat} (h : it r C fun items G C1 => LcEx items G C1 (wipeD r own) g tt te K0 Q) : dLcB K0 it g tt te own r C Q := h
end
theorem shps_ints (k : Nat) : ∀ ns : List Int, shps k (ns.map D.int) = true
  | [] => by cases k <;> rfl
  | n :: ns => by
    have ih := shps_ints k ns
    show (shp k (.int n) && shps k (ns.map D.int)) = true
    rw [ih]
    cases k <;> rfl
theorem rdC_at {C : Cs} {n : Nat} {xs : List D} (h : C[n]? = some (.lst xs)) : rdC C (.cel n) = .lst xs := by
  show (match C[n]? with | some (.lst xs) => .lst xs | none => .cel n) = D.lst xs
  rw [h]
theorem eqv_nil : ∀ xs : List D, PyData.eqv (pd (.lst xs)) (pd (.lst [])) = xs.isEmpty
  | [] => by simp [pd, pds, PyData.eqv, PyData.eqvAll]
  | x :: xs => by simp [pd, pds, PyData.eqv, PyData.eqvAll]
section
variable {C : Cs} {Q : QD} {i j : Int} {n : Nat} {xs : List D} {neg : Bool}
theorem w_eqI (h : Q (.bl (decide (i = j))) C) : oEq (.int i) (.int j) C Q := h
theorem w_neI (h : Q (.bl (!decide (i = j))) C) : oNe (.int i) (.int j) C Q := h
theorem w_neNilC (e : C[n]? = some (.lst xs)) (s : shps 59 xs = true) (h : Q (.bl (!xs.isEmpty)) C) : oNe (.cel n) (.lst []) C Q := by
  refine ⟨by rw [rdC_at e]; exact s, rfl, ?_⟩
  rw [rdC_at e]
  show Q (.bl (!PyData.eqv (pd (.lst xs)) (pd (.lst [])))) C
  rw [eqv_nil]
  exact h
theorem w_eqNilC (e : C[n]? = some (.lst xs)) (s : shps 59 xs = true) (h : Q (.bl xs.isEmpty) C) : oEq (.cel n) (.lst []) C Q := by
  refine ⟨by rw [rdC_at e]; exact s, rfl, ?_⟩
  rw [rdC_at e]
  show Q (.bl (PyData.eqv (pd (.lst xs)) (pd (.lst [])))) C
  rw [eqv_nil]
  exact h
theorem w_neNilL (s : shps 59 xs = true) (h : Q (.bl (!xs.isEmpty)) C) : oNe (.lst xs) (.lst []) C Q := by
  refine ⟨s, rfl, ?_⟩
  show Q (.bl (!PyData.eqv (pd (.lst xs)) (pd (.lst [])))) C
  rw [eqv_nil]
  exact h
theorem w_eqNilL (s : shps 59 xs = true) (h : Q (.bl xs.isEmpty) C) : oEq (.lst xs) (.lst []) C Q := by
  refine ⟨s, rfl, ?_⟩
  show Q (.bl (PyData.eqv (pd (.lst xs)) (pd (.lst [])))) C
  rw [eqv_nil]
  exact h
end
theorem atI_neg1 {α : Type} (xs : List α) (x : α) : atI (xs ++ [x]) (-1) = some x := by
  unfold atI ixN
  have e : (-1 + ((xs ++ [x]).length : Int)).toNat = xs.length := by rw [List.length_append, List.length_singleton]; omega
  rw [if_neg (by decide), if_pos (by rw [List.length_append, List.length_singleton]; omega), e]
  show (xs ++ [x])[xs.length]? = some x
  simp
theorem atI_n {α : Type} {xs : List α} {i : Int} {n : Nat} {x : α} (hi : i = n) (h : xs[n]? = some x) : atI xs i = some x := by
  unfold atI ixN
  have hl := (List.getElem?_eq_some_iff.mp h).1
  subst hi
  rw [if_pos (by omega), if_pos (by omega)]
  show xs[((n : Int)).toNat]? = some x
  rw [Int.toNat_natCast]
  exact h
theorem snoc_cases {α : Type} (xs : List α) : xs = [] ∨ ∃ ys y, xs = ys ++ [y] := by
  cases e : xs.reverse with
  | nil => exact .inl (by simpa using e)
  | cons y ys => exact .inr ⟨ys.reverse, y, by have := congrArg List.reverse e; simpa using this⟩
theorem ite_nil {xs : List D} {A B : Prop} (h1 : xs ≠ [] → A) (h2 : xs = [] → B) : if (!xs.isEmpty) = true then A else B := by
  cases xs with
  | nil => exact h2 rfl
  | cons x xs => exact h1 (by simp)
theorem ite_isnil {xs : List D} {A B : Prop} (h1 : xs = [] → A) (h2 : xs ≠ [] → B) : if xs.isEmpty = true then A else B := by
  cases xs with
  | nil => exact h1 rfl
  | cons x xs => exact h2 (by simp)
theorem ixN_n {l n : Nat} {i : Int} (hi : i = n) (h : n < l) : ixN l i = some n := by
  unfold ixN
  subst hi
  rw [if_pos (by omega), if_pos (by omega), Int.toNat_natCast]
theorem w_setC {n k : Nat} {i : Int} {d : D} {xs : List D} {C : Cs} {Q : Cs → Prop} (e : lsD C (.cel n) = some xs) (hi : i = k) (hk : k < xs.length) (h : Q (C.set n (.lst (xs.set k d)))) : oSet (.cel n) (.int i) d C Q := by
  show opt (lsD C (.cel n)) _
  rw [e]
  show opt (ixN xs.length i) _
  rw [ixN_n hi hk]
  exact h
theorem v_C {P : Cs → Prop} {C C' : Cs} (e : C = C') (h : P C') : P C := by
  rw [e]
  exact h
theorem shps_iff {k : Nat} : ∀ {xs : List D}, shps k xs = true ↔ ∀ x ∈ xs, shp k x = true
  | [] => by simp [shps]
  | x :: xs => by simp [shps, shps_iff]
theorem iT_tuple_non : isTy "tuple" .non = some false := by
  show kitB "NoneType" "tuple" = some false
  decide +kernel
theorem iT_tuple_bl {b : Bool} : isTy "tuple" (.bl b) = some false := by
  show kitB "bool" "tuple" = some false
  decide +kernel
theorem iT_tuple_int {i : Int} : isTy "tuple" (.int i) = some false := by
  show kitB "int" "tuple" = some false
  decide +kernel
theorem iT_tuple_str {x : Str} : isTy "tuple" (.str x) = some false := by
  show kitB "str" "tuple" = some false
  decide +kernel
theorem iT_tuple_tup {xs : List D} : isTy "tuple" (.tup xs) = some true := by
  show kitB "tuple" "tuple" = some true
  decide +kernel
theorem iT_tuple_lst {xs : List D} : isTy "tuple" (.lst xs) = some false := by
  show kitB "list" "tuple" = some false
  decide +kernel
theorem iT_tuple_scr {xs : List D} : isTy "tuple" (.scr xs) = some false := by
  show kitB "list" "tuple" = some false
  decide +kernel
theorem iT_tuple_cel {n : Nat} : isTy "tuple" (.cel n) = some false := by
  show kitB "list" "tuple" = some false
  decide +kernel
theorem iT_int_non : isTy "int" .non = some false := by
  show kitB "NoneType" "int" = some false
  decide +kernel
theorem iT_int_bl {b : Bool} : isTy "int" (.bl b) = some true := by
  show kitB "bool" "int" = some true
  decide +kernel
theorem iT_int_int {i : Int} : isTy "int" (.int i) = some true := by
  show kitB "int" "int" = some true
  decide +kernel
theorem iT_int_str {x : Str} : isTy "int" (.str x) = some false := by
  show kitB "str" "int" = some false
  decide +kernel
theorem iT_int_tup {xs : List D} : isTy "int" (.tup xs) = some false := by
  show kitB "tuple" "int" = some false
  decide +kernel
theorem iT_int_lst {xs : List D} : isTy "int" (.lst xs) = some false := by
  show kitB "list" "int" = some false
  decide +kernel
theorem iT_int_scr {xs : List D} : isTy "int" (.scr xs) = some false := by
  show kitB "list" "int" = some false
  decide +kernel
theorem iT_int_cel {n : Nat} : isTy "int" (.cel n) = some false := by
  show kitB "list" "int" = some false
  decide +kernel
theorem iT_bool_non : isTy "bool" .non = some false := by
  show kitB "NoneType" "bool" = some false
  decide +kernel
theorem iT_bool_bl {b : Bool} : isTy "bool" (.bl b) = some true := by
  show kitB "bool" "bool" = some true
  decide +kernel
theorem iT_bool_int {i : Int} : isTy "bool" (.int i) = some false := by
  show kitB "int" "bool" = some false
  decide +kernel
theorem iT_bool_str {x : Str} : isTy "bool" (.str x) = some false := by
  show kitB "str" "bool" = some false
  decide +kernel
theorem iT_bool_tup {xs : List D} : isTy "bool" (.tup xs) = some false := by
  show kitB "tuple" "bool" = some false
  decide +kernel
theorem iT_bool_lst {xs : List D} : isTy "bool" (.lst xs) = some false := by
  show kitB "list" "bool" = some false
  decide +kernel
theorem iT_bool_scr {xs : List D} : isTy "bool" (.scr xs) = some false := by
  show kitB "list" "bool" = some false
  decide +kernel
theorem iT_bool_cel {n : Nat} : isTy "bool" (.cel n) = some false := by
  show kitB "list" "bool" = some false
  decide +kernel
theorem iT_str_non : isTy "str" .non = some false := by
  show kitB "NoneType" "str" = some false
  decide +kernel
theorem iT_str_bl {b : Bool} : isTy "str" (.bl b) = some false := by
  show kitB "bool" "str" = some false
  decide +kernel
theorem iT_str_int {i : Int} : isTy "str" (.int i) = some false := by
  show kitB "int" "str" = some false
  decide +kernel
theorem iT_str_str {x : Str} : isTy "str" (.str x) = some true := by
  show kitB "str" "str" = some true
  decide +kernel
theorem iT_str_tup {xs : List D} : isTy "str" (.tup xs) = some false := by
  show kitB "tuple" "str" = some false
  decide +kernel
theorem iT_str_lst {xs : List D} : isTy "str" (.lst xs) = some false := by
  show kitB "list" "str" = some false
  decide +kernel
theorem iT_str_scr {xs : List D} : isTy "str" (.scr xs) = some false := by
  show kitB "list" "str" = some false
  decide +kernel
theorem iT_str_cel {n : Nat} : isTy "str" (.cel n) = some false := by
  show kitB "list" "str" = some false
  decide +kernel
theorem iT_list_non : isTy "list" .non = some false := by
  show kitB "NoneType" "list" = some false
  decide +kernel
theorem iT_list_bl {b : Bool} : isTy "list" (.bl b) = some false := by
  show kitB "bool" "list" = some false
  decide +kernel
theorem iT_list_int {i : Int} : isTy "list" (.int i) = some false := by
  show kitB "int" "list" = some false
  decide +kernel
theorem iT_list_str {x : Str} : isTy "list" (.str x) = some false := by
  show kitB "str" "list" = some false
  decide +kernel
theorem iT_list_tup {xs : List D} : isTy "list" (.tup xs) = some false := by
  show kitB "tuple" "list" = some false
  decide +kernel
theorem iT_list_lst {xs : List D} : isTy "list" (.lst xs) = some true := by
  show kitB "list" "list" = some true
  decide +kernel
theorem iT_list_scr {xs : List D} : isTy "list" (.scr xs) = some true := by
  show kitB "list" "list" = some true
  decide +kernel
theorem iT_list_cel {n : Nat} : isTy "list" (.cel n) = some true := by
  show kitB "list" "list" = some true
  decide +kernel
theorem w_is_non_non {C : Cs} {Q : QD} (h : Q (.bl true) C) : oIs false .non .non C Q := ⟨rfl, h⟩
theorem w_is_t_non {C : Cs} {Q : QD} (h : Q (.bl false) C) : oIs false (.bl true) .non C Q := ⟨rfl, h⟩
theorem w_is_f_non {C : Cs} {Q : QD} (h : Q (.bl false) C) : oIs false (.bl false) .non C Q := ⟨rfl, h⟩
theorem w_is_int_non {i : Int} {C : Cs} {Q : QD} (h : Q (.bl false) C) : oIs false (.int i) .non C Q := ⟨rfl, h⟩
theorem w_is_str_non {x : Str} {C : Cs} {Q : QD} (h : Q (.bl false) C) : oIs false (.str x) .non C Q := ⟨rfl, h⟩
theorem w_is_tup_non {xs : List D} {C : Cs} {Q : QD} (h : Q (.bl false) C) : oIs false (.tup xs) .non C Q := ⟨rfl, h⟩
theorem w_is_lst_non {xs : List D} {C : Cs} {Q : QD} (h : Q (.bl false) C) : oIs false (.lst xs) .non C Q := ⟨rfl, h⟩
theorem w_is_scr_non {xs : List D} {C : Cs} {Q : QD} (h : Q (.bl false) C) : oIs false (.scr xs) .non C Q := ⟨rfl, h⟩
theorem w_is_cel_non {n : Nat} {C : Cs} {Q : QD} (h : Q (.bl false) C) : oIs false (.cel n) .non C Q := ⟨rfl, h⟩
theorem w_is_non_t {C : Cs} {Q : QD} (h : Q (.bl false) C) : oIs false .non (.bl true) C Q := ⟨rfl, h⟩
theorem w_is_t_t {C : Cs} {Q : QD} (h : Q (.bl true) C) : oIs false (.bl true) (.bl true) C Q := ⟨rfl, h⟩
theorem w_is_f_t {C : Cs} {Q : QD} (h : Q (.bl false) C) : oIs false (.bl false) (.bl true) C Q := ⟨rfl, h⟩
theorem w_is_int_t {i : Int} {C : Cs} {Q : QD} (h : Q (.bl false) C) : oIs false (.int i) (.bl true) C Q := ⟨rfl, h⟩
theorem w_is_str_t {x : Str} {C : Cs} {Q : QD} (h : Q (.bl false) C) : oIs false (.str x) (.bl true) C Q := ⟨rfl, h⟩
theorem w_is_tup_t {xs : List D} {C : Cs} {Q : QD} (h : Q (.bl false) C) : oIs false (.tup xs) (.bl true) C Q := ⟨rfl, h⟩
theorem w_is_lst_t {xs : List D} {C : Cs} {Q : QD} (h : Q (.bl false) C) : oIs false (.lst xs) (.bl true) C Q := ⟨rfl, h⟩
theorem w_is_scr_t {xs : List D} {C : Cs} {Q : QD} (h : Q (.bl false) C) : oIs false (.scr xs) (.bl true) C Q := ⟨rfl, h⟩
theorem w_is_cel_t {n : Nat} {C : Cs} {Q : QD} (h : Q (.bl false) C) : oIs false (.cel n) (.bl true) C Q := ⟨rfl, h⟩
theorem w_is_non_f {C : Cs} {Q : QD} (h : Q (.bl false) C) : oIs false .non (.bl false) C Q := ⟨rfl, h⟩
theorem w_is_t_f {C : Cs} {Q : QD} (h : Q (.bl false) C) : oIs false (.bl true) (.bl false) C Q := ⟨rfl, h⟩
theorem w_is_f_f {C : Cs} {Q : QD} (h : Q (.bl true) C) : oIs false (.bl false) (.bl false) C Q := ⟨rfl, h⟩
theorem w_is_int_f {i : Int} {C : Cs} {Q : QD} (h : Q (.bl false) C) : oIs false (.int i) (.bl false) C Q := ⟨rfl, h⟩
theorem w_is_str_f {x : Str} {C : Cs} {Q : QD} (h : Q (.bl false) C) : oIs false (.str x) (.bl false) C Q := ⟨rfl, h⟩
theorem w_is_tup_f {xs : List D} {C : Cs} {Q : QD} (h : Q (.bl false) C) : oIs false (.tup xs) (.bl false) C Q := ⟨rfl, h⟩
theorem w_is_lst_f {xs : List D} {C : Cs} {Q : QD} (h : Q (.bl false) C) : oIs false (.lst xs) (.bl false) C Q := ⟨rfl, h⟩
theorem w_is_scr_f {xs : List D} {C : Cs} {Q : QD} (h : Q (.bl false) C) : oIs false (.scr xs) (.bl false) C Q := ⟨rfl, h⟩
theorem w_is_cel_f {n : Nat} {C : Cs} {Q : QD} (h : Q (.bl false) C) : oIs false (.cel n) (.bl false) C Q := ⟨rfl, h⟩
theorem w_in_non_non {C : Cs} {Q : QD} (h : Q (.bl false) C) : oIs true .non .non C Q := ⟨rfl, h⟩
theorem w_in_t_non {C : Cs} {Q : QD} (h : Q (.bl true) C) : oIs true (.bl true) .non C Q := ⟨rfl, h⟩
theorem w_in_f_non {C : Cs} {Q : QD} (h : Q (.bl true) C) : oIs true (.bl false) .non C Q := ⟨rfl, h⟩
theorem w_in_int_non {i : Int} {C : Cs} {Q : QD} (h : Q (.bl true) C) : oIs true (.int i) .non C Q := ⟨rfl, h⟩
theorem w_in_str_non {x : Str} {C : Cs} {Q : QD} (h : Q (.bl true) C) : oIs true (.str x) .non C Q := ⟨rfl, h⟩
theorem w_in_tup_non {xs : List D} {C : Cs} {Q : QD} (h : Q (.bl true) C) : oIs true (.tup xs) .non C Q := ⟨rfl, h⟩
theorem w_in_lst_non {xs : List D} {C : Cs} {Q : QD} (h : Q (.bl true) C) : oIs true (.lst xs) .non C Q := ⟨rfl, h⟩
theorem w_in_scr_non {xs : List D} {C : Cs} {Q : QD} (h : Q (.bl true) C) : oIs true (.scr xs) .non C Q := ⟨rfl, h⟩
theorem w_in_cel_non {n : Nat} {C : Cs} {Q : QD} (h : Q (.bl true) C) : oIs true (.cel n) .non C Q := ⟨rfl, h⟩
theorem w_in_non_t {C : Cs} {Q : QD} (h : Q (.bl true) C) : oIs true .non (.bl true) C Q := ⟨rfl, h⟩
theorem w_in_t_t {C : Cs} {Q : QD} (h : Q (.bl false) C) : oIs true (.bl true) (.bl true) C Q := ⟨rfl, h⟩
theorem w_in_f_t {C : Cs} {Q : QD} (h : Q (.bl true) C) : oIs true (.bl false) (.bl true) C Q := ⟨rfl, h⟩
theorem w_in_int_t {i : Int} {C : Cs} {Q : QD} (h : Q (.bl true) C) : oIs true (.int i) (.bl true) C Q := ⟨rfl, h⟩
theorem w_in_str_t {x : Str} {C : Cs} {Q : QD} (h : Q (.bl true) C) : oIs true (.str x) (.bl true) C Q := ⟨rfl, h⟩
theorem w_in_tup_t {xs : List D} {C : Cs} {Q : QD} (h : Q (.bl true) C) : oIs true (.tup xs) (.bl true) C Q := ⟨rfl, h⟩
theorem w_in_lst_t {xs : List D} {C : Cs} {Q : QD} (h : Q (.bl true) C) : oIs true (.lst xs) (.bl true) C Q := ⟨rfl, h⟩
theorem w_in_scr_t {xs : List D} {C : Cs} {Q : QD} (h : Q (.bl true) C) : oIs true (.scr xs) (.bl true) C Q := ⟨rfl, h⟩
theorem w_in_cel_t {n : Nat} {C : Cs} {Q : QD} (h : Q (.bl true) C) : oIs true (.cel n) (.bl true) C Q := ⟨rfl, h⟩
theorem w_in_non_f {C : Cs} {Q : QD} (h : Q (.bl true) C) : oIs true .non (.bl false) C Q := ⟨rfl, h⟩
theorem w_in_t_f {C : Cs} {Q : QD} (h : Q (.bl true) C) : oIs true (.bl true) (.bl false) C Q := ⟨rfl, h⟩
theorem w_in_f_f {C : Cs} {Q : QD} (h : Q (.bl false) C) : oIs true (.bl false) (.bl false) C Q := ⟨rfl, h⟩
theorem w_in_int_f {i : Int} {C : Cs} {Q : QD} (h : Q (.bl true) C) : oIs true (.int i) (.bl false) C Q := ⟨rfl, h⟩
theorem w_in_str_f {x : Str} {C : Cs} {Q : QD} (h : Q (.bl true) C) : oIs true (.str x) (.bl false) C Q := ⟨rfl, h⟩
theorem w_in_tup_f {xs : List D} {C : Cs} {Q : QD} (h : Q (.bl true) C) : oIs true (.tup xs) (.bl false) C Q := ⟨rfl, h⟩
theorem w_in_lst_f {xs : List D} {C : Cs} {Q : QD} (h : Q (.bl true) C) : oIs true (.lst xs) (.bl false) C Q := ⟨rfl, h⟩
theorem w_in_scr_f {xs : List D} {C : Cs} {Q : QD} (h : Q (.bl true) C) : oIs true (.scr xs) (.bl false) C Q := ⟨rfl, h⟩
theorem w_in_cel_f {n : Nat} {C : Cs} {Q : QD} (h : Q (.bl true) C) : oIs true (.cel n) (.bl false) C Q := ⟨rfl, h⟩
theorem ite_nt {A B : Prop} (h : B) : if (!true) = true then A else B := h
theorem ite_nf {A B : Prop} (h : A) : if (!false) = true then A else B := h
theorem isTyG {T : String} {d : D} {Q : Bool → Prop} (h : opt (isTy T d) Q) : opt (isTy T d) Q := h
theorem oIsG {neg : Bool} {x y : D} {C : Cs} {Q : QD} (h : oIs neg x y C Q) : oIs neg x y C Q := h
theorem sIx_k (n d k : Nat) : HT.sIx n d (some ((k : Nat) : Int)) = min k n := HT.sIx_nat n d k
theorem cutD_hi (xs : List D) (k : Nat) : cutD xs none (some (k : Int)) = xs.take k := by
  unfold cutD
  rw [HT.sIx_none, HT.sIx_nat, List.drop_zero, Nat.sub_zero]
  rcases Nat.le_total k xs.length with h | h
  · rw [Nat.min_eq_left h]
  · rw [Nat.min_eq_right h, List.take_length, List.take_of_length_le h]
theorem cutD_lo (xs : List D) (k : Nat) : cutD xs (some (k : Int)) none = xs.drop k := by
  unfold cutD
  rw [HT.sIx_none, HT.sIx_nat]
  rcases Nat.le_total k xs.length with h | h
  · rw [Nat.min_eq_left h]
    exact List.take_of_length_le (by simp)
  · rw [Nat.min_eq_right h, Nat.sub_self, List.take_zero, List.drop_of_length_le h]
theorem cutD_both (xs : List D) (a b : Nat) : cutD xs (some (a : Int)) (some (b : Int)) = (xs.take b).drop a := by
  unfold cutD
  rw [HT.sIx_nat, HT.sIx_nat]
  rw [List.drop_take]
  rcases Nat.le_total a xs.length with h | h
  · rw [Nat.min_eq_left h]
    rcases Nat.le_total b xs.length with h2 | h2
    · rw [Nat.min_eq_left h2]
    · rw [Nat.min_eq_right h2, List.take_of_length_le (by simp), List.take_of_length_le (by simp; omega)]
  · rw [Nat.min_eq_right h, List.drop_of_length_le (Nat.le_refl _), List.drop_of_length_le h]
    simp
theorem cutD_loI (xs : List D) {i : Int} (h : 0 ≤ i) : cutD xs (some i) none = xs.drop i.toNat := by
  obtain ⟨k, rfl⟩ := Int.eq_ofNat_of_zero_le h
  exact cutD_lo xs k
theorem cutD_hiI (xs : List D) {i : Int} (h : 0 ≤ i) : cutD xs none (some i) = xs.take i.toNat := by
  obtain ⟨k, rfl⟩ := Int.eq_ofNat_of_zero_le h
  exact cutD_hi xs k
theorem cutD_bothI (xs : List D) {i j : Int} (h : 0 ≤ i) (h2 : 0 ≤ j) : cutD xs (some i) (some j) = (xs.take j.toNat).drop i.toNat := by
  obtain ⟨k, rfl⟩ := Int.eq_ofNat_of_zero_le h
  obtain ⟨l, rfl⟩ := Int.eq_ofNat_of_zero_le h2
  exact cutD_both xs k l
/-! ### comprehensions that change no cell -/
def lcK (f : Option D) (Y : D → Cs → Prop) (Z : Cs → Prop) (C : Cs) : Prop := match f with
  | some y => Y y C
  | none => Z C
theorem lc_ok {α : Type} {xs : List α} {e : α → D} {items : List D} (f : α → Option D) {G : Cs → Prop} {C : Cs} {r : Ev} {g : RG} {tt : RT} {te : RE} {K0 : Bool} {Q : QD} (hi : items = xs.map e) (hG : G C)
    (hs : ∀ x ∈ xs, ∀ (Y : D → Cs → Prop) (Z : Cs → Prop), lcK (f x) Y Z C → g (e x) r C fun r2 C2 => tt r2 C2 fun b C3 => if b = true then te r2 C3 Y else Z C3)
    (k : if K0 = true then Q (.cel C.length) (C ++ [.lst (xs.filterMap f)]) else Q (.lst (xs.filterMap f)) C) : LcEx items G C r g tt te K0 Q := by
  subst hi
  refine ⟨fun i acc C' => C' = C ∧ acc = (xs.take i).filterMap f, ⟨rfl, by simp⟩, fun i acc C' _ h => by rw [h.1]; exact hG, ?_, ?_⟩
  · rintro i d acc C' hd ⟨rfl, rfl⟩
    rw [List.getElem?_map] at hd
    cases hx : xs[i]? with
    | none => rw [hx] at hd; cases hd
    | some x =>
      rw [hx] at hd
      obtain rfl : e x = d := by simpa using hd
      have et : (xs.take (i + 1)).filterMap f = (xs.take i).filterMap f ++ (f x).toList := by
        rw [List.take_add_one, hx, List.filterMap_append]
        cases hf : f x <;> simp [hf]
      refine hs x (List.mem_of_getElem? hx) (fun y C4 => C4 = C' ∧ ((xs.take i).filterMap f ++ [y]) = (xs.take (i + 1)).filterMap f) (fun C3 => C3 = C' ∧ (xs.take i).filterMap f = (xs.take (i + 1)).filterMap f) ?_
      cases hf : f x with
      | none => exact ⟨rfl, by rw [et, hf]; simp⟩
      | some y => exact ⟨rfl, by rw [et, hf]; rfl⟩
  · rintro acc C' ⟨rfl, rfl⟩
    rw [List.length_map, List.take_length]
    exact k
/-! ### == of lists and tuples of ints -/
theorem eqvAll_ints : ∀ as bs : List Int, PyData.eqvAll (pds (as.map D.int)) (pds (bs.map D.int)) = decide (as = bs)
  | [], [] => by simp [pds, PyData.eqvAll]
  | [], b :: bs => by simp [pds, PyData.eqvAll]
  | a :: as, [] => by simp [pds, PyData.eqvAll]
  | a :: as, b :: bs => by
    have ih := eqvAll_ints as bs
    simp only [List.map_cons, pds, PyData.eqvAll, ih, pd, PyData.eqv]
    by_cases h : a = b <;> by_cases h2 : as = bs <;> simp [h, h2]
theorem eqD_tints (as bs : List Int) : eqD (.tup (as.map D.int)) (.tup (bs.map D.int)) = decide (as = bs) := by
  show PyData.eqv (.tuple (pds (as.map D.int))) (.tuple (pds (bs.map D.int))) = _
  rw [PyData.eqv, eqvAll_ints]
theorem eqD_lints (as bs : List Int) : eqD (.lst (as.map D.int)) (.lst (bs.map D.int)) = decide (as = bs) := by
  show PyData.eqv (.list (pds (as.map D.int))) (.list (pds (bs.map D.int))) = _
  rw [PyData.eqv, eqvAll_ints]
theorem shp_tints (n : Nat) (as : List Int) : shp (n + 1) (.tup (as.map D.int)) = true := by simpa [shp] using shps_ints n as
theorem shp_lints (n : Nat) (as : List Int) : shp (n + 1) (.lst (as.map D.int)) = true := by simpa [shp] using shps_ints n as
section
variable {C : Cs} {Q : QD} {as bs ns : List Int} {i : Int}
theorem w_eqT (h : Q (.bl (decide (as = bs))) C) : oEq (.tup (as.map D.int)) (.tup (bs.map D.int)) C Q := ⟨shp_tints 59 as, shp_tints 59 bs, by show Q (.bl (eqD _ _)) C; rw [show rdC C (.tup (as.map D.int)) = .tup (as.map D.int) from rfl, show rdC C (.tup (bs.map D.int)) = .tup (bs.map D.int) from rfl, eqD_tints]; exact h⟩
theorem w_neT (h : Q (.bl (!decide (as = bs))) C) : oNe (.tup (as.map D.int)) (.tup (bs.map D.int)) C Q := ⟨shp_tints 59 as, shp_tints 59 bs, by show Q (.bl (!eqD _ _)) C; rw [show rdC C (.tup (as.map D.int)) = .tup (as.map D.int) from rfl, show rdC C (.tup (bs.map D.int)) = .tup (bs.map D.int) from rfl, eqD_tints]; exact h⟩
theorem w_eqL (h : Q (.bl (decide (as = bs))) C) : oEq (.lst (as.map D.int)) (.lst (bs.map D.int)) C Q := ⟨shp_lints 59 as, shp_lints 59 bs, by show Q (.bl (eqD _ _)) C; rw [show rdC C (.lst (as.map D.int)) = .lst (as.map D.int) from rfl, show rdC C (.lst (bs.map D.int)) = .lst (bs.map D.int) from rfl, eqD_lints]; exact h⟩
theorem w_neL (h : Q (.bl (!decide (as = bs))) C) : oNe (.lst (as.map D.int)) (.lst (bs.map D.int)) C Q := ⟨shp_lints 59 as, shp_lints 59 bs, by show Q (.bl (!eqD _ _)) C; rw [show rdC C (.lst (as.map D.int)) = .lst (as.map D.int) from rfl, show rdC C (.lst (bs.map D.int)) = .lst (bs.map D.int) from rfl, eqD_lints]; exact h⟩
theorem any_ints (i : Int) : ∀ ns : List Int, (ns.map D.int).any (fun z => eqD z (.int i)) = ns.contains i
  | [] => rfl
  | n :: ns => by
    rw [List.map_cons, List.any_cons, any_ints i ns, List.contains_cons, eqD_int]
    congr 1
    rw [Bool.beq_eq_decide_eq]
    exact decide_eq_decide.mpr eq_comm
theorem flat_ints : ∀ ns : List Int, (ns.map D.int).all flatD = true
  | [] => rfl
  | n :: ns => by
    rw [List.map_cons, List.all_cons, flat_ints ns]
    rfl
theorem w_inT (h : Q (.bl (ns.contains i)) C) : oInN false (.int i) (.tup (ns.map D.int)) C Q := ⟨.inl ⟨rfl, flat_ints ns⟩, by show Q (.bl ((ns.map D.int).any fun z => eqD z (.int i))) C; rw [any_ints]; exact h⟩
theorem w_inL (h : Q (.bl (ns.contains i)) C) : oInN false (.int i) (.lst (ns.map D.int)) C Q := ⟨.inl ⟨rfl, flat_ints ns⟩, by show Q (.bl ((ns.map D.int).any fun z => eqD z (.int i))) C; rw [any_ints]; exact h⟩
theorem w_idxT (hm : i ∈ ns) (h : Q (.int (ns.idxOf i : Nat)) C) : oIdxT (.tup (ns.map D.int)) [.int i] C Q := by
  show opt (intsD (ns.map D.int)) _
  rw [intsD_map]
  exact ⟨hm, h⟩
theorem w_sorted (h : ∀ ns' : List Int, ns'.Perm ns → ns'.Pairwise (· ≤ ·) → Q (.lst (ns'.map D.int)) C) : oSortA [.lst (ns.map D.int)] C Q := by
  show opt (intsD (ns.map D.int)) _
  rw [intsD_map]
  exact h
theorem w_sortT (h : ∀ ns' : List Int, ns'.Perm ns → ns'.Pairwise (· ≤ ·) → Q (.lst (ns'.map D.int)) C) : oSortA [.tup (ns.map D.int)] C Q := by
  show opt (intsD (ns.map D.int)) _
  rw [intsD_map]
  exact h
end
/-! ### more ends of calls -/
theorem fin_wrL {C C1 : Cs} {n : Nat} {xs : List D} {Q : QD} (hl : C.length ≤ C1.length) (hn : C.length ≤ n) (e : C1[n]? = some (.lst xs)) (h : los C.length xs = true) (hc : loCs C.length (C1.take C.length) = true) (q : Q (.lst xs) (C1.take C.length)) : fin C (.cel n) C1 Q := by
  refine ⟨[], .lst xs, C1.take C.length, .nil, fun n hn => (nomatch hn), by simp; omega, hl, fun j m xs e1 e2 => ?_, .gone ?_ e (fzs_lo sel_get xs h), q⟩
  · rw [List.append_nil] at e1
    have hj : j < C.length := by simpa using (List.getElem?_eq_some_iff.mp e1).1
    have e : j = m := by
      have := (List.getElem?_eq_some_iff.mp e1).2
      simpa using this
    subst e
    have e3 : (C1.take C.length)[j]? = some (.lst xs) := by rw [List.getElem?_take, if_pos hj]; exact e2
    have := List.all_eq_true.mp hc _ (List.mem_of_getElem? e3)
    exact .inr ⟨xs, e3, fzs_lo sel_get xs this⟩
  · simp; omega
theorem fin_wrC {C C1 : Cs} {n : Nat} {xs : List D} {Q : QD} (hl : C.length ≤ C1.length) (hn : C.length ≤ n) (e : C1[n]? = some (.lst xs)) (h : los C.length xs = true) (hc : loCs C.length (C1.take C.length) = true) (q : Q (.cel C.length) (C1.take C.length ++ [.lst xs])) : fin C (.cel n) C1 Q := by
  have hnl := (List.getElem?_eq_some_iff.mp e).1
  have ht : (C1.take C.length).length = C.length := by simp; omega
  refine ⟨[n], .cel C.length, C1.take C.length ++ [.lst xs], by simp, fun k hk => ?_, by simp; omega, hl, fun j m ys e1 e2 => ?_, .keep (by simp), q⟩
  · have : k = n := by simpa using hk
    subst this
    exact ⟨hn, hnl⟩
  · by_cases hj : j < C.length
    · rw [sel_get j hj] at e1
      cases e1
      have e3 : (C1.take C.length)[j]? = some (.lst ys) := by rw [List.getElem?_take, if_pos hj]; exact e2
      have := List.all_eq_true.mp hc _ (List.mem_of_getElem? e3)
      exact .inr ⟨ys, by rw [List.getElem?_append_left (by omega)]; exact e3, fzs_lo sel_get ys this⟩
    · have : j = C.length ∧ m = n := by
        rw [List.getElem?_append_right (by simpa using hj)] at e1
        simp at e1
        cases hq : j - C.length with
        | zero => rw [hq] at e1; simp at e1; exact ⟨by omega, e1.symm⟩
        | succ i => rw [hq] at e1; simp at e1
      obtain ⟨rfl, rfl⟩ := this
      rw [e] at e2
      cases e2
      exact .inr ⟨xs, by rw [List.getElem?_append_right (by omega), ht, Nat.sub_self]; rfl, fzs_lo sel_get xs h⟩
theorem w_isTup {xs : List D} {P : Prop} (h : P) : isTupD (.tup xs) = true ∧ P := ⟨rfl, h⟩
theorem w_addCL {C : Cs} {Q : QD} {n : Nat} {xs ys : List D} (e : lsD C (.cel n) = some xs) (hl : xs.length + ys.length ≤ sizeLine) (h : Q (.lst (xs ++ ys)) C) : oAdd (.cel n) (.lst ys) C Q := by
  show opt (lsD C (.cel n)) _
  rw [e]
  exact ⟨hl, h⟩
theorem w_addLL {C : Cs} {Q : QD} {xs ys : List D} (hl : xs.length + ys.length ≤ sizeLine) (h : Q (.cel C.length) (C ++ [.lst (xs ++ ys)])) : oAddC (.lst xs) (.lst ys) C Q := ⟨hl, h⟩
theorem line_le {n : Nat} (h : n ≤ 100000) : n ≤ sizeLine := Nat.le_trans h (by decide)
theorem line_lt {n : Nat} (h : n < 100000) : n < sizeLine := Nat.lt_of_lt_of_le h (by decide)
/-- a call's end: plain data, the old cells as they are now -/
theorem fin_any {C C0 J : Cs} {d : D} {Q : QD} (hl : C0.length = C.length) (h : lo C.length d = true) (hc : loCs C.length C0 = true) (q : Q d C0) : fin C d (C0 ++ J) Q := by
  refine fin_wr (by rw [List.length_append, hl]; exact Nat.le_add_right _ _) h ?_ ?_
  · rw [List.take_left' hl]
    exact hc
  · rw [List.take_left' hl]
    exact q
theorem fin_any0 {C C0 : Cs} {d : D} {Q : QD} (hl : C0.length = C.length) (h : lo C.length d = true) (hc : loCs C.length C0 = true) (q : Q d C0) : fin C d C0 Q := by
  have := fin_any (J := []) hl h hc q
  rwa [List.append_nil] at this
theorem w_listL2 {C : Cs} {Q : QD} {xs : List D} (h : Q (.lst xs) C) : oList [.lst xs] C Q := h
theorem w_listC2 {C : Cs} {Q : QD} {n : Nat} {xs : List D} (e : lsD C (.cel n) = some xs) (h : Q (.lst xs) C) : oList [.cel n] C Q := by
  show opt (lsD C (.cel n)) _
  rw [e]
  exact h
theorem w_neTn {as : List Int} {C : Cs} {Q : QD} (h : Q (.bl (!decide (as = []))) C) : oNe (.tup (as.map D.int)) (.tup []) C Q := w_neT (bs := []) h
theorem w_eqTn {as : List Int} {C : Cs} {Q : QD} (h : Q (.bl (decide (as = []))) C) : oEq (.tup (as.map D.int)) (.tup []) C Q := w_eqT (bs := []) h
theorem w_neLn {as : List Int} {C : Cs} {Q : QD} (h : Q (.bl (!decide (as = []))) C) : oNe (.lst (as.map D.int)) (.lst []) C Q := w_neL (bs := []) h
theorem w_eqLn {as : List Int} {C : Cs} {Q : QD} (h : Q (.bl (decide (as = []))) C) : oEq (.lst (as.map D.int)) (.lst []) C Q := w_eqL (bs := []) h
theorem fm_filter (p : Int → Bool) : ∀ xs : List Int, xs.filterMap (fun z => if p z = true then some (D.int z) else none) = (xs.filter p).map D.int
  | [] => rfl
  | x :: xs => by
    have ih := fm_filter p xs
    by_cases hx : p x = true
    · rw [List.filterMap_cons, if_pos hx, List.filter_cons_of_pos hx, ih]
      rfl
    · rw [List.filterMap_cons, if_neg hx, List.filter_cons_of_neg hx, ih]
/-- a and b, both sides known -/
theorem andV_bl {x y : Bool} {A : Prop} {Q : Bool → Prop} (h : Q (x && y)) (ha : x = true → Q y → A) : match D.bl x with
    | .bl true => (x = true → A)
    | .bl false => Q false
    | _ => False := by
  cases x
  · exact h
  · exact fun e => ha e h
end DL
namespace LW
open PySem PySem.Spec PyProof.Rows L2 DL
local macro_rules | `(tactic| walk_at "go") => `(tactic| (repeat (first | with_reducible refine v_seq ?_ | with_reducible refine v_set ?_ | with_reducible refine v_asg ?_ | with_reducible refine v_drop ?_ | with_reducible refine v_ret ?_ | with_reducible refine v_retN ?_ | with_reducible refine v_if ?_ | with_reducible refine v_next ?_ | with_reducible refine v_brk ?_ | with_reducible refine v_cnt ?_ | with_reducible refine v_par ?_ | with_reducible refine v_par3 ?_ | with_reducible refine v_c ?_ | with_reducible refine v_op ?_ | with_reducible refine v_un ?_ | with_reducible refine v_chain ?_ | with_reducible refine v_ifE ?_ | with_reducible refine v_cons ?_ | with_reducible refine v_nil ?_ | with_reducible refine v_tup ?_ | with_reducible refine v_lst ?_ | with_reducible refine v_lstC ?_ | with_reducible refine v_cb ?_ | with_reducible refine v_call ?_ | with_reducible refine v_callK ?_ | with_reducible refine v_ml ?_ | with_reducible refine v_ml0 ?_ | with_reducible refine v_mt ?_ | with_reducible refine v_sl ?_ | with_reducible refine v_no ?_ | with_reducible refine v_part ?_ | with_reducible refine v_rev ?_ | with_reducible refine v_revC ?_ | with_reducible refine v_isi ?_ | with_reducible refine v_isi2 ?_ | with_reducible refine v_andV ?_ | with_reducible refine v_orV ?_ | with_reducible refine v_notV ?_ | with_reducible refine v_test ?_ | with_reducible refine v_and ?_ | with_reducible refine v_or ?_ | with_reducible refine v_not ?_ | with_reducible refine v_cNil ?_ | with_reducible refine v_gN ?_ | with_reducible refine v_gNi ?_ | with_reducible refine v_gCo ?_ | with_reducible refine v_gSb ?_ | with_reducible refine v_iSeq ?_ | with_reducible refine v_iEnu ?_ | with_reducible refine v_iZip ?_ | with_reducible refine v_iR1 ?_ | with_reducible refine v_iR2 ?_ | with_reducible refine v_rR1 ?_ | with_reducible refine v_rR2 ?_ | with_reducible refine v_lstR ?_ | with_reducible refine v_tupR ?_ | with_reducible refine w_I ?_ | with_reducible refine w_addI ?_ | with_reducible refine w_neg ?_ | with_reducible refine w_lenT ?_ | with_reducible refine w_lenL ?_ | with_reducible refine w_lenS ?_ | with_reducible refine w_slT ?_ | with_reducible refine w_slL ?_ | with_reducible refine w_slS ?_ | with_reducible refine w_tupT ?_ | with_reducible refine w_tupL ?_ | with_reducible refine w_listT ?_ | with_reducible refine w_listL ?_ | with_reducible refine w_listCT ?_ | with_reducible refine w_listCL ?_ | with_reducible refine w_abs ?_ | with_reducible refine w_int ?_ | with_reducible refine w_max2 ?_ | with_reducible refine w_min2 ?_ | with_reducible refine ite_true' ?_ | with_reducible refine ite_false' ?_ | with_reducible refine ite_nt ?_ | with_reducible refine ite_nf ?_ | with_reducible refine w_isTup ?_ | with_reducible refine v_for ?_ | with_reducible refine v_while ?_ | with_reducible refine v_lc ?_ | (with_reducible refine v_varG ?_; refine opt_ok rfl ?_) | (with_reducible refine w_ixG ?_; refine opt_ok rfl (opt_ok rfl ?_)) | (with_reducible refine oIsG ?_; first | with_reducible refine w_is_non_non ?_ | with_reducible refine w_is_t_non ?_ | with_reducible refine w_is_f_non ?_ | with_reducible refine w_is_int_non ?_ | with_reducible refine w_is_str_non ?_ | with_reducible refine w_is_tup_non ?_ | with_reducible refine w_is_lst_non ?_ | with_reducible refine w_is_scr_non ?_ | with_reducible refine w_is_cel_non ?_ | with_reducible refine w_is_non_t ?_ | with_reducible refine w_is_t_t ?_ | with_reducible refine w_is_f_t ?_ | with_reducible refine w_is_int_t ?_ | with_reducible refine w_is_str_t ?_ | with_reducible refine w_is_tup_t ?_ | with_reducible refine w_is_lst_t ?_ | with_reducible refine w_is_scr_t ?_ | with_reducible refine w_is_cel_t ?_ | with_reducible refine w_is_non_f ?_ | with_reducible refine w_is_t_f ?_ | with_reducible refine w_is_f_f ?_ | with_reducible refine w_is_int_f ?_ | with_reducible refine w_is_str_f ?_ | with_reducible refine w_is_tup_f ?_ | with_reducible refine w_is_lst_f ?_ | with_reducible refine w_is_scr_f ?_ | with_reducible refine w_is_cel_f ?_ | with_reducible refine w_in_non_non ?_ | with_reducible refine w_in_t_non ?_ | with_reducible refine w_in_f_non ?_ | with_reducible refine w_in_int_non ?_ | with_reducible refine w_in_str_non ?_ | with_reducible refine w_in_tup_non ?_ | with_reducible refine w_in_lst_non ?_ | with_reducible refine w_in_scr_non ?_ | with_reducible refine w_in_cel_non ?_ | with_reducible refine w_in_non_t ?_ | with_reducible refine w_in_t_t ?_ | with_reducible refine w_in_f_t ?_ | with_reducible refine w_in_int_t ?_ | with_reducible refine w_in_str_t ?_ | with_reducible refine w_in_tup_t ?_ | with_reducible refine w_in_lst_t ?_ | with_reducible refine w_in_scr_t ?_ | with_reducible refine w_in_cel_t ?_ | with_reducible refine w_in_non_f ?_ | with_reducible refine w_in_t_f ?_ | with_reducible refine w_in_f_f ?_ | with_reducible refine w_in_int_f ?_ | with_reducible refine w_in_str_f ?_ | with_reducible refine w_in_tup_f ?_ | with_reducible refine w_in_lst_f ?_ | with_reducible refine w_in_scr_f ?_ | with_reducible refine w_in_cel_f ?_) | (with_reducible refine w_gTupG ?_; refine opt_ok rfl ⟨rfl, ?_⟩) | (with_reducible refine isTyG ?_; first | with_reducible refine opt_ok iT_tuple_non ?_ | with_reducible refine opt_ok iT_tuple_bl ?_ | with_reducible refine opt_ok iT_tuple_int ?_ | with_reducible refine opt_ok iT_tuple_str ?_ | with_reducible refine opt_ok iT_tuple_tup ?_ | with_reducible refine opt_ok iT_tuple_lst ?_ | with_reducible refine opt_ok iT_tuple_scr ?_ | with_reducible refine opt_ok iT_tuple_cel ?_ | with_reducible refine opt_ok iT_int_non ?_ | with_reducible refine opt_ok iT_int_bl ?_ | with_reducible refine opt_ok iT_int_int ?_ | with_reducible refine opt_ok iT_int_str ?_ | with_reducible refine opt_ok iT_int_tup ?_ | with_reducible refine opt_ok iT_int_lst ?_ | with_reducible refine opt_ok iT_int_scr ?_ | with_reducible refine opt_ok iT_int_cel ?_ | with_reducible refine opt_ok iT_bool_non ?_ | with_reducible refine opt_ok iT_bool_bl ?_ | with_reducible refine opt_ok iT_bool_int ?_ | with_reducible refine opt_ok iT_bool_str ?_ | with_reducible refine opt_ok iT_bool_tup ?_ | with_reducible refine opt_ok iT_bool_lst ?_ | with_reducible refine opt_ok iT_bool_scr ?_ | with_reducible refine opt_ok iT_bool_cel ?_ | with_reducible refine opt_ok iT_str_non ?_ | with_reducible refine opt_ok iT_str_bl ?_ | with_reducible refine opt_ok iT_str_int ?_ | with_reducible refine opt_ok iT_str_str ?_ | with_reducible refine opt_ok iT_str_tup ?_ | with_reducible refine opt_ok iT_str_lst ?_ | with_reducible refine opt_ok iT_str_scr ?_ | with_reducible refine opt_ok iT_str_cel ?_ | with_reducible refine opt_ok iT_list_non ?_ | with_reducible refine opt_ok iT_list_bl ?_ | with_reducible refine opt_ok iT_list_int ?_ | with_reducible refine opt_ok iT_list_str ?_ | with_reducible refine opt_ok iT_list_tup ?_ | with_reducible refine opt_ok iT_list_lst ?_ | with_reducible refine opt_ok iT_list_scr ?_ | with_reducible refine opt_ok iT_list_cel ?_) | (with_reducible refine opt_ok rfl ?_))))
local macro_rules | `(tactic| walk_at "on") => `(tactic| (repeat (first | with_reducible refine v_set ?_ | with_reducible refine v_asg ?_ | with_reducible refine v_drop ?_ | with_reducible refine v_ret ?_ | with_reducible refine v_retN ?_ | with_reducible refine v_if ?_ | with_reducible refine v_next ?_ | with_reducible refine v_brk ?_ | with_reducible refine v_cnt ?_ | with_reducible refine v_par ?_ | with_reducible refine v_par3 ?_ | with_reducible refine v_c ?_ | with_reducible refine v_op ?_ | with_reducible refine v_un ?_ | with_reducible refine v_chain ?_ | with_reducible refine v_ifE ?_ | with_reducible refine v_cons ?_ | with_reducible refine v_nil ?_ | with_reducible refine v_tup ?_ | with_reducible refine v_lst ?_ | with_reducible refine v_lstC ?_ | with_reducible refine v_cb ?_ | with_reducible refine v_call ?_ | with_reducible refine v_callK ?_ | with_reducible refine v_ml ?_ | with_reducible refine v_ml0 ?_ | with_reducible refine v_mt ?_ | with_reducible refine v_sl ?_ | with_reducible refine v_no ?_ | with_reducible refine v_part ?_ | with_reducible refine v_rev ?_ | with_reducible refine v_revC ?_ | with_reducible refine v_isi ?_ | with_reducible refine v_isi2 ?_ | with_reducible refine v_andV ?_ | with_reducible refine v_orV ?_ | with_reducible refine v_notV ?_ | with_reducible refine v_test ?_ | with_reducible refine v_and ?_ | with_reducible refine v_or ?_ | with_reducible refine v_not ?_ | with_reducible refine v_cNil ?_ | with_reducible refine v_gN ?_ | with_reducible refine v_gNi ?_ | with_reducible refine v_gCo ?_ | with_reducible refine v_gSb ?_ | with_reducible refine v_iSeq ?_ | with_reducible refine v_iEnu ?_ | with_reducible refine v_iZip ?_ | with_reducible refine v_iR1 ?_ | with_reducible refine v_iR2 ?_ | with_reducible refine v_rR1 ?_ | with_reducible refine v_rR2 ?_ | with_reducible refine v_lstR ?_ | with_reducible refine v_tupR ?_ | with_reducible refine w_I ?_ | with_reducible refine w_addI ?_ | with_reducible refine w_neg ?_ | with_reducible refine w_lenT ?_ | with_reducible refine w_lenL ?_ | with_reducible refine w_lenS ?_ | with_reducible refine w_slT ?_ | with_reducible refine w_slL ?_ | with_reducible refine w_slS ?_ | with_reducible refine w_tupT ?_ | with_reducible refine w_tupL ?_ | with_reducible refine w_listT ?_ | with_reducible refine w_listL ?_ | with_reducible refine w_listCT ?_ | with_reducible refine w_listCL ?_ | with_reducible refine w_abs ?_ | with_reducible refine w_int ?_ | with_reducible refine w_max2 ?_ | with_reducible refine w_min2 ?_ | with_reducible refine ite_true' ?_ | with_reducible refine ite_false' ?_ | with_reducible refine ite_nt ?_ | with_reducible refine ite_nf ?_ | with_reducible refine w_isTup ?_ | with_reducible refine v_lc ?_ | (with_reducible refine v_varG ?_; refine opt_ok rfl ?_) | (with_reducible refine w_ixG ?_; refine opt_ok rfl (opt_ok rfl ?_)) | (with_reducible refine oIsG ?_; first | with_reducible refine w_is_non_non ?_ | with_reducible refine w_is_t_non ?_ | with_reducible refine w_is_f_non ?_ | with_reducible refine w_is_int_non ?_ | with_reducible refine w_is_str_non ?_ | with_reducible refine w_is_tup_non ?_ | with_reducible refine w_is_lst_non ?_ | with_reducible refine w_is_scr_non ?_ | with_reducible refine w_is_cel_non ?_ | with_reducible refine w_is_non_t ?_ | with_reducible refine w_is_t_t ?_ | with_reducible refine w_is_f_t ?_ | with_reducible refine w_is_int_t ?_ | with_reducible refine w_is_str_t ?_ | with_reducible refine w_is_tup_t ?_ | with_reducible refine w_is_lst_t ?_ | with_reducible refine w_is_scr_t ?_ | with_reducible refine w_is_cel_t ?_ | with_reducible refine w_is_non_f ?_ | with_reducible refine w_is_t_f ?_ | with_reducible refine w_is_f_f ?_ | with_reducible refine w_is_int_f ?_ | with_reducible refine w_is_str_f ?_ | with_reducible refine w_is_tup_f ?_ | with_reducible refine w_is_lst_f ?_ | with_reducible refine w_is_scr_f ?_ | with_reducible refine w_is_cel_f ?_ | with_reducible refine w_in_non_non ?_ | with_reducible refine w_in_t_non ?_ | with_reducible refine w_in_f_non ?_ | with_reducible refine w_in_int_non ?_ | with_reducible refine w_in_str_non ?_ | with_reducible refine w_in_tup_non ?_ | with_reducible refine w_in_lst_non ?_ | with_reducible refine w_in_scr_non ?_ | with_reducible refine w_in_cel_non ?_ | with_reducible refine w_in_non_t ?_ | with_reducible refine w_in_t_t ?_ | with_reducible refine w_in_f_t ?_ | with_reducible refine w_in_int_t ?_ | with_reducible refine w_in_str_t ?_ | with_reducible refine w_in_tup_t ?_ | with_reducible refine w_in_lst_t ?_ | with_reducible refine w_in_scr_t ?_ | with_reducible refine w_in_cel_t ?_ | with_reducible refine w_in_non_f ?_ | with_reducible refine w_in_t_f ?_ | with_reducible refine w_in_f_f ?_ | with_reducible refine w_in_int_f ?_ | with_reducible refine w_in_str_f ?_ | with_reducible refine w_in_tup_f ?_ | with_reducible refine w_in_lst_f ?_ | with_reducible refine w_in_scr_f ?_ | with_reducible refine w_in_cel_f ?_) | (with_reducible refine w_gTupG ?_; refine opt_ok rfl ⟨rfl, ?_⟩) | (with_reducible refine isTyG ?_; first | with_reducible refine opt_ok iT_tuple_non ?_ | with_reducible refine opt_ok iT_tuple_bl ?_ | with_reducible refine opt_ok iT_tuple_int ?_ | with_reducible refine opt_ok iT_tuple_str ?_ | with_reducible refine opt_ok iT_tuple_tup ?_ | with_reducible refine opt_ok iT_tuple_lst ?_ | with_reducible refine opt_ok iT_tuple_scr ?_ | with_reducible refine opt_ok iT_tuple_cel ?_ | with_reducible refine opt_ok iT_int_non ?_ | with_reducible refine opt_ok iT_int_bl ?_ | with_reducible refine opt_ok iT_int_int ?_ | with_reducible refine opt_ok iT_int_str ?_ | with_reducible refine opt_ok iT_int_tup ?_ | with_reducible refine opt_ok iT_int_lst ?_ | with_reducible refine opt_ok iT_int_scr ?_ | with_reducible refine opt_ok iT_int_cel ?_ | with_reducible refine opt_ok iT_bool_non ?_ | with_reducible refine opt_ok iT_bool_bl ?_ | with_reducible refine opt_ok iT_bool_int ?_ | with_reducible refine opt_ok iT_bool_str ?_ | with_reducible refine opt_ok iT_bool_tup ?_ | with_reducible refine opt_ok iT_bool_lst ?_ | with_reducible refine opt_ok iT_bool_scr ?_ | with_reducible refine opt_ok iT_bool_cel ?_ | with_reducible refine opt_ok iT_str_non ?_ | with_reducible refine opt_ok iT_str_bl ?_ | with_reducible refine opt_ok iT_str_int ?_ | with_reducible refine opt_ok iT_str_str ?_ | with_reducible refine opt_ok iT_str_tup ?_ | with_reducible refine opt_ok iT_str_lst ?_ | with_reducible refine opt_ok iT_str_scr ?_ | with_reducible refine opt_ok iT_str_cel ?_ | with_reducible refine opt_ok iT_list_non ?_ | with_reducible refine opt_ok iT_list_bl ?_ | with_reducible refine opt_ok iT_list_int ?_ | with_reducible refine opt_ok iT_list_str ?_ | with_reducible refine opt_ok iT_list_tup ?_ | with_reducible refine opt_ok iT_list_lst ?_ | with_reducible refine opt_ok iT_list_scr ?_ | with_reducible refine opt_ok iT_list_cel ?_) | (with_reducible refine opt_ok rfl ?_))))
def topS (i : Nat) : Stmt := PySem.Challenge.pw_seatedwell_k04_whole_pairs_that_block.main.body.getD i (.Pass ⟨0, 0, 0, 0⟩)
abbrev W0 : XW := fun _ _ _ _ => False
/-! ### is_integer -/
abbrev s_is_integer : Stmt := topS 1
abbrev N_is_integer : List Str := ["value"]
theorem sc_is_integer : FnScope N_is_integer ["value"] (defScope s_is_integer) := ⟨rfl, rfl, rfl, by decide +kernel, rfl, by decide +kernel, by decide +kernel⟩
theorem b_is_integer : BindP "is_integer" s_is_integer ["value"] := fun _ _ _ _ _ _ _ us hl => match us, hl with | [_], _ => rfl
def rd_is_integer (W : XW) : RS :=
    (sRet (dAndV (dIsi "int" (dVar 0)) (dNotV (dIsi "bool" (dVar 0)))))
def sp_is_integer : SpD := spOf N_is_integer (rd_is_integer)
theorem ds_is_integer {P : Program} {w : World} {K : PySem.W.Frag} {mg : Str → Option Value} {base : Heap} {k : Nat} (m_bool : mg "bool" = none) (m_int : mg "int" = none) (m_isinstance : mg "isinstance" = none)   
    (f : Addr) (cdv : Value) (A : Around) (outer : List Env) (s : Shared) (H : Hp) (E : XK) (B : BS) (W : XW) (hr : Room k (A.deeper (envOfC "is_integer" (defScope s_is_integer) s.heap.objs.size f cdv)))
    (tk : TakesD (cxOf (L2.CX P w) P w K mg base N_is_integer "is_integer" (defScope s_is_integer) f cdv A outer s H E) B W) : DSs (cxOf (L2.CX P w) P w K mg base N_is_integer "is_integer" (defScope s_is_integer) f cdv A outer s H E) B (defBody s_is_integer) (rd_is_integer W) :=
    (dss_one (ds_ret (de_and (d_isi m_isinstance (d_v 0) m_int (by decide +kernel)) (de_one (de_not (d_isi m_isinstance (d_v 0) m_bool (by decide +kernel)))))))
theorem fn_is_integer {P : Program} {w : World} {K : PySem.W.Frag} {mg : Str → Option Value} {base : Heap} {k : Nat} (m_bool : mg "bool" = none) (m_int : mg "int" = none) (m_isinstance : mg "isinstance" = none) {f : Addr} {fd : FuncData} (F : Fun K "is_integer" "is_integer" s_is_integer f fd) (hm : mg "is_integer" = some (.ref f)) : Fn P w K mg base (k + 1) "is_integer" s_is_integer ["value"] sp_is_integer :=
  ⟨f, fd, "is_integer", F, hm, dl_fn F sc_is_integer (rd_is_integer) fun cdv A outer s H E B W hr tk => ds_is_integer m_bool m_int m_isinstance  f cdv A outer s H E B W hr tk⟩
/-! ### is_index -/
abbrev s_is_index : Stmt := topS 2
abbrev N_is_index : List Str := ["value", "many"]
theorem sc_is_index : FnScope N_is_index ["value", "many"] (defScope s_is_index) := ⟨rfl, rfl, rfl, by decide +kernel, rfl, by decide +kernel, by decide +kernel⟩
theorem b_is_index : BindP "is_index" s_is_index ["value", "many"] := fun _ _ _ _ _ _ _ us hl => match us, hl with | [_, _], _ => rfl
def rd_is_index (sp_is_integer : SpD) (W : XW) : RS :=
    (sRet (dAndV (dCall sp_is_integer W (dCons (dVar 0) dNil)) (dChain oLe oLt (dC (.int 0)) (dVar 0) (dVar 1))))
def sp_is_index : SpD := spOf N_is_index (rd_is_index sp_is_integer)
theorem ds_is_index {P : Program} {w : World} {K : PySem.W.Frag} {mg : Str → Option Value} {base : Heap} {k : Nat}   {sp_is_integer : SpD} (F_is_integer : Fn P w K mg base k "is_integer" s_is_integer ["value"] sp_is_integer)
    (f : Addr) (cdv : Value) (A : Around) (outer : List Env) (s : Shared) (H : Hp) (E : XK) (B : BS) (W : XW) (hr : Room k (A.deeper (envOfC "is_index" (defScope s_is_index) s.heap.objs.size f cdv)))
    (tk : TakesD (cxOf (L2.CX P w) P w K mg base N_is_index "is_index" (defScope s_is_index) f cdv A outer s H E) B W) : DSs (cxOf (L2.CX P w) P w K mg base N_is_index "is_index" (defScope s_is_index) f cdv A outer s H E) B (defBody s_is_index) (rd_is_index sp_is_integer W) :=
    (dss_one (ds_ret (de_and (d_call F_is_integer b_is_integer hr tk (da_cons (d_v 0) da_nil)) (de_one (d_leLt d_int (d_v 0) (d_v 1))))))
theorem fn_is_index {P : Program} {w : World} {K : PySem.W.Frag} {mg : Str → Option Value} {base : Heap} {k : Nat} (F_is_integer : Fn P w K mg base k "is_integer" s_is_integer ["value"] sp_is_integer) {f : Addr} {fd : FuncData} (F : Fun K "is_index" "is_index" s_is_index f fd) (hm : mg "is_index" = some (.ref f)) : Fn P w K mg base (k + 1) "is_index" s_is_index ["value", "many"] sp_is_index :=
  ⟨f, fd, "is_index", F, hm, dl_fn F sc_is_index (rd_is_index sp_is_integer) fun cdv A outer s H E B W hr tk => ds_is_index  F_is_integer f cdv A outer s H E B W hr tk⟩
/-! ### people_in -/
abbrev s_people_in : Stmt := topS 4
abbrev N_people_in : List Str := ["hall"]
theorem sc_people_in : FnScope N_people_in ["hall"] (defScope s_people_in) := ⟨rfl, rfl, rfl, by decide +kernel, rfl, by decide +kernel, by decide +kernel⟩
theorem b_people_in : BindP "people_in" s_people_in ["hall"] := fun _ _ _ _ _ _ _ us hl => match us, hl with | [_], _ => rfl
def rd_people_in (W : XW) : RS :=
    (sRet (dCB oLen (dCons (dOp oIx (dOp oIx (dVar 0) (dC (.int 0))) (dC (.int 1))) dNil)))
def sp_people_in : SpD := spOf N_people_in (rd_people_in)
theorem ds_people_in {P : Program} {w : World} {K : PySem.W.Frag} {mg : Str → Option Value} {base : Heap} {k : Nat} (m_len : mg "len" = none)   
    (f : Addr) (cdv : Value) (A : Around) (outer : List Env) (s : Shared) (H : Hp) (E : XK) (B : BS) (W : XW) (hr : Room k (A.deeper (envOfC "people_in" (defScope s_people_in) s.heap.objs.size f cdv)))
    (tk : TakesD (cxOf (L2.CX P w) P w K mg base N_people_in "people_in" (defScope s_people_in) f cdv A outer s H E) B W) : DSs (cxOf (L2.CX P w) P w K mg base N_people_in "people_in" (defScope s_people_in) f cdv A outer s H E) B (defBody s_people_in) (rd_people_in W) :=
    (dss_one (ds_ret (d_len m_len (da_cons (d_ix (d_ix (d_v 0) d_int) d_int) da_nil))))
theorem fn_people_in {P : Program} {w : World} {K : PySem.W.Frag} {mg : Str → Option Value} {base : Heap} {k : Nat} (m_len : mg "len" = none) {f : Addr} {fd : FuncData} (F : Fun K "people_in" "people_in" s_people_in f fd) (hm : mg "people_in" = some (.ref f)) : Fn P w K mg base (k + 1) "people_in" s_people_in ["hall"] sp_people_in :=
  ⟨f, fd, "people_in", F, hm, dl_fn F sc_people_in (rd_people_in) fun cdv A outer s H E B W hr tk => ds_people_in m_len  f cdv A outer s H E B W hr tk⟩
/-! ### rank -/
abbrev s_rank : Stmt := topS 5
abbrev N_rank : List Str := ["hall", "place", "person"]
theorem sc_rank : FnScope N_rank ["hall", "place", "person"] (defScope s_rank) := ⟨rfl, rfl, rfl, by decide +kernel, rfl, by decide +kernel, by decide +kernel⟩
theorem b_rank : BindP "rank" s_rank ["hall", "place", "person"] := fun _ _ _ _ _ _ _ us hl => match us, hl with | [_, _, _], _ => rfl
def rd_rank (W : XW) : RS :=
    (sRet (dMt oIdxT (dOp oIx (dOp oIx (dVar 0) (dVar 1)) (dC (.int 1))) (dCons (dVar 2) dNil)))
def sp_rank : SpD := spOf N_rank (rd_rank)
theorem ds_rank {P : Program} {w : World} {K : PySem.W.Frag} {mg : Str → Option Value} {base : Heap} {k : Nat}    
    (f : Addr) (cdv : Value) (A : Around) (outer : List Env) (s : Shared) (H : Hp) (E : XK) (B : BS) (W : XW) (hr : Room k (A.deeper (envOfC "rank" (defScope s_rank) s.heap.objs.size f cdv)))
    (tk : TakesD (cxOf (L2.CX P w) P w K mg base N_rank "rank" (defScope s_rank) f cdv A outer s H E) B W) : DSs (cxOf (L2.CX P w) P w K mg base N_rank "rank" (defScope s_rank) f cdv A outer s H E) B (defBody s_rank) (rd_rank W) :=
    (dss_one (ds_ret (d_indexT (d_ix (d_ix (d_v 0) (d_v 1)) d_int) (da_cons (d_v 2) da_nil))))
theorem fn_rank {P : Program} {w : World} {K : PySem.W.Frag} {mg : Str → Option Value} {base : Heap} {k : Nat}  {f : Addr} {fd : FuncData} (F : Fun K "rank" "rank" s_rank f fd) (hm : mg "rank" = some (.ref f)) : Fn P w K mg base (k + 1) "rank" s_rank ["hall", "place", "person"] sp_rank :=
  ⟨f, fd, "rank", F, hm, dl_fn F sc_rank (rd_rank) fun cdv A outer s H E B W hr tk => ds_rank   f cdv A outer s H E B W hr tk⟩
/-! ### is_ahead -/
abbrev s_is_ahead : Stmt := topS 6
abbrev N_is_ahead : List Str := ["hall", "place", "one", "other"]
theorem sc_is_ahead : FnScope N_is_ahead ["hall", "place", "one", "other"] (defScope s_is_ahead) := ⟨rfl, rfl, rfl, by decide +kernel, rfl, by decide +kernel, by decide +kernel⟩
theorem b_is_ahead : BindP "is_ahead" s_is_ahead ["hall", "place", "one", "other"] := fun _ _ _ _ _ _ _ us hl => match us, hl with | [_, _, _, _], _ => rfl
def rd_is_ahead (sp_rank : SpD) (W : XW) : RS :=
    (sRet (dOp oLt (dCall sp_rank W (dCons (dVar 0) (dCons (dVar 1) (dCons (dVar 2) dNil)))) (dCall sp_rank W (dCons (dVar 0) (dCons (dVar 1) (dCons (dVar 3) dNil))))))
def sp_is_ahead : SpD := spOf N_is_ahead (rd_is_ahead sp_rank)
theorem ds_is_ahead {P : Program} {w : World} {K : PySem.W.Frag} {mg : Str → Option Value} {base : Heap} {k : Nat}   {sp_rank : SpD} (F_rank : Fn P w K mg base k "rank" s_rank ["hall", "place", "person"] sp_rank)
    (f : Addr) (cdv : Value) (A : Around) (outer : List Env) (s : Shared) (H : Hp) (E : XK) (B : BS) (W : XW) (hr : Room k (A.deeper (envOfC "is_ahead" (defScope s_is_ahead) s.heap.objs.size f cdv)))
    (tk : TakesD (cxOf (L2.CX P w) P w K mg base N_is_ahead "is_ahead" (defScope s_is_ahead) f cdv A outer s H E) B W) : DSs (cxOf (L2.CX P w) P w K mg base N_is_ahead "is_ahead" (defScope s_is_ahead) f cdv A outer s H E) B (defBody s_is_ahead) (rd_is_ahead sp_rank W) :=
    (dss_one (ds_ret (d_lt (d_call F_rank b_rank hr tk (da_cons (d_v 0) (da_cons (d_v 1) (da_cons (d_v 2) da_nil)))) (d_call F_rank b_rank hr tk (da_cons (d_v 0) (da_cons (d_v 1) (da_cons (d_v 3) da_nil)))))))
theorem fn_is_ahead {P : Program} {w : World} {K : PySem.W.Frag} {mg : Str → Option Value} {base : Heap} {k : Nat} (F_rank : Fn P w K mg base k "rank" s_rank ["hall", "place", "person"] sp_rank) {f : Addr} {fd : FuncData} (F : Fun K "is_ahead" "is_ahead" s_is_ahead f fd) (hm : mg "is_ahead" = some (.ref f)) : Fn P w K mg base (k + 1) "is_ahead" s_is_ahead ["hall", "place", "one", "other"] sp_is_ahead :=
  ⟨f, fd, "is_ahead", F, hm, dl_fn F sc_is_ahead (rd_is_ahead sp_rank) fun cdv A outer s H E B W hr tk => ds_is_ahead  F_rank f cdv A outer s H E B W hr tk⟩
/-! ### those_at -/
abbrev s_those_at : Stmt := topS 8
abbrev N_those_at : List Str := ["dealing", "place", "person", "one"]
theorem sc_those_at : FnScope N_those_at ["dealing", "place"] (defScope s_those_at) := ⟨rfl, rfl, rfl, by decide +kernel, rfl, by decide +kernel, by decide +kernel⟩
theorem b_those_at : BindP "those_at" s_those_at ["dealing", "place"] := fun _ _ _ _ _ _ _ us hl => match us, hl with | [_, _], _ => rfl
def rd_those_at (W : XW) : RS :=
    (sRet (dCB oTuple (dCons (dLcB false (iEnu (dVar 0)) (gTup 2 (gCo (gN 2) (gCo (gN 3) gNi))) (dTest (dOp oEq (dVar 3) (dVar 1))) (dVar 2) [2, 3]) dNil)))
def sp_those_at : SpD := spOf N_those_at (rd_those_at)
theorem ds_those_at {P : Program} {w : World} {K : PySem.W.Frag} {mg : Str → Option Value} {base : Heap} {k : Nat} (m_enumerate : mg "enumerate" = none) (m_tuple : mg "tuple" = none)   
    (f : Addr) (cdv : Value) (A : Around) (outer : List Env) (s : Shared) (H : Hp) (E : XK) (B : BS) (W : XW) (hr : Room k (A.deeper (envOfC "those_at" (defScope s_those_at) s.heap.objs.size f cdv)))
    (tk : TakesD (cxOf (L2.CX P w) P w K mg base N_those_at "those_at" (defScope s_those_at) f cdv A outer s H E) B W) : DSs (cxOf (L2.CX P w) P w K mg base N_those_at "those_at" (defScope s_those_at) f cdv A outer s H E) B (defBody s_those_at) (rd_those_at W) :=
    (dss_one (ds_ret (d_tuple m_tuple (da_cons (de_lc false rfl sc_those_at.nd (blk_of (own := [("person", 2), ("one", 3)]) (by kernel_rfl)) (di_enum m_enumerate (d_v 0)) (fun _ _ _ _ _ => ⟨(dg_tupA rfl (dgs_cons (dg_n (i := 2) sc_those_at.nd rfl (by first | exact .inl rfl | exact .inr rfl) (by decide)) (dgs_cons (dg_n (i := 3) sc_those_at.nd rfl (by first | exact .inl rfl | exact .inr rfl) (by decide)) dgs_nil))), (dts_one (dt_eq hr (d_v 3) (d_v 1))), (d_v 2)⟩)) da_nil))))
theorem fn_those_at {P : Program} {w : World} {K : PySem.W.Frag} {mg : Str → Option Value} {base : Heap} {k : Nat} (m_enumerate : mg "enumerate" = none) (m_tuple : mg "tuple" = none) {f : Addr} {fd : FuncData} (F : Fun K "those_at" "those_at" s_those_at f fd) (hm : mg "those_at" = some (.ref f)) : Fn P w K mg base (k + 1) "those_at" s_those_at ["dealing", "place"] sp_those_at :=
  ⟨f, fd, "those_at", F, hm, dl_fn F sc_those_at (rd_those_at) fun cdv A outer s H E B W hr tk => ds_those_at m_enumerate m_tuple  f cdv A outer s H E B W hr tk⟩
/-! ### place_in_list -/
abbrev s_place_in_list : Stmt := topS 9
abbrev N_place_in_list : List Str := ["wishes", "person", "x"]
theorem sc_place_in_list : FnScope N_place_in_list ["wishes", "person", "x"] (defScope s_place_in_list) := ⟨rfl, rfl, rfl, by decide +kernel, rfl, by decide +kernel, by decide +kernel⟩
theorem b_place_in_list : BindP "place_in_list" s_place_in_list ["wishes", "person", "x"] := fun _ _ _ _ _ _ _ us hl => match us, hl with | [_, _, _], _ => rfl
def rd_place_in_list (W : XW) : RS :=
    (sSeq (sIf (dTest (dOp (oIs false) (dVar 2) (dC .non))) (sRet (dCB oLen (dCons (dOp oIx (dVar 0) (dVar 1)) dNil))) sNext)
    (sRet (dIf (dTest (dOp (oInN false) (dVar 2) (dOp oIx (dVar 0) (dVar 1)))) (dMt oIdxT (dOp oIx (dVar 0) (dVar 1)) (dCons (dVar 2) dNil)) (dOp oAdd (dCB oLen (dCons (dOp oIx (dVar 0) (dVar 1)) dNil)) (dC (.int 1))))))
def sp_place_in_list : SpD := spOf N_place_in_list (rd_place_in_list)
theorem ds_place_in_list {P : Program} {w : World} {K : PySem.W.Frag} {mg : Str → Option Value} {base : Heap} {k : Nat} (m_len : mg "len" = none)   
    (f : Addr) (cdv : Value) (A : Around) (outer : List Env) (s : Shared) (H : Hp) (E : XK) (B : BS) (W : XW) (hr : Room k (A.deeper (envOfC "place_in_list" (defScope s_place_in_list) s.heap.objs.size f cdv)))
    (tk : TakesD (cxOf (L2.CX P w) P w K mg base N_place_in_list "place_in_list" (defScope s_place_in_list) f cdv A outer s H E) B W) : DSs (cxOf (L2.CX P w) P w K mg base N_place_in_list "place_in_list" (defScope s_place_in_list) f cdv A outer s H E) B (defBody s_place_in_list) (rd_place_in_list W) :=
    (dss_cons (ds_if (dt_is (d_v 2) d_non) (dss_one (ds_ret (d_len m_len (da_cons (d_ix (d_v 0) (d_v 1)) da_nil)))) dss_nil)
    (dss_one (ds_ret (de_if (dt_in hr (d_v 2) (d_ix (d_v 0) (d_v 1))) (d_indexT (d_ix (d_v 0) (d_v 1)) (da_cons (d_v 2) da_nil)) (d_add (d_len m_len (da_cons (d_ix (d_v 0) (d_v 1)) da_nil)) d_int)))))
theorem fn_place_in_list {P : Program} {w : World} {K : PySem.W.Frag} {mg : Str → Option Value} {base : Heap} {k : Nat} (m_len : mg "len" = none) {f : Addr} {fd : FuncData} (F : Fun K "place_in_list" "place_in_list" s_place_in_list f fd) (hm : mg "place_in_list" = some (.ref f)) : Fn P w K mg base (k + 1) "place_in_list" s_place_in_list ["wishes", "person", "x"] sp_place_in_list :=
  ⟨f, fd, "place_in_list", F, hm, dl_fn F sc_place_in_list (rd_place_in_list) fun cdv A outer s H E B W hr tk => ds_place_in_list m_len  f cdv A outer s H E B W hr tk⟩
/-! ### likes_better -/
abbrev s_likes_better : Stmt := topS 10
abbrev N_likes_better : List Str := ["wishes", "person", "one", "other"]
theorem sc_likes_better : FnScope N_likes_better ["wishes", "person", "one", "other"] (defScope s_likes_better) := ⟨rfl, rfl, rfl, by decide +kernel, rfl, by decide +kernel, by decide +kernel⟩
theorem b_likes_better : BindP "likes_better" s_likes_better ["wishes", "person", "one", "other"] := fun _ _ _ _ _ _ _ us hl => match us, hl with | [_, _, _, _], _ => rfl
def rd_likes_better (sp_place_in_list : SpD) (W : XW) : RS :=
    (sRet (dOp oLt (dCall sp_place_in_list W (dCons (dVar 0) (dCons (dVar 1) (dCons (dVar 2) dNil)))) (dCall sp_place_in_list W (dCons (dVar 0) (dCons (dVar 1) (dCons (dVar 3) dNil))))))
def sp_likes_better : SpD := spOf N_likes_better (rd_likes_better sp_place_in_list)
theorem ds_likes_better {P : Program} {w : World} {K : PySem.W.Frag} {mg : Str → Option Value} {base : Heap} {k : Nat}   {sp_place_in_list : SpD} (F_place_in_list : Fn P w K mg base k "place_in_list" s_place_in_list ["wishes", "person", "x"] sp_place_in_list)
    (f : Addr) (cdv : Value) (A : Around) (outer : List Env) (s : Shared) (H : Hp) (E : XK) (B : BS) (W : XW) (hr : Room k (A.deeper (envOfC "likes_better" (defScope s_likes_better) s.heap.objs.size f cdv)))
    (tk : TakesD (cxOf (L2.CX P w) P w K mg base N_likes_better "likes_better" (defScope s_likes_better) f cdv A outer s H E) B W) : DSs (cxOf (L2.CX P w) P w K mg base N_likes_better "likes_better" (defScope s_likes_better) f cdv A outer s H E) B (defBody s_likes_better) (rd_likes_better sp_place_in_list W) :=
    (dss_one (ds_ret (d_lt (d_call F_place_in_list b_place_in_list hr tk (da_cons (d_v 0) (da_cons (d_v 1) (da_cons (d_v 2) da_nil)))) (d_call F_place_in_list b_place_in_list hr tk (da_cons (d_v 0) (da_cons (d_v 1) (da_cons (d_v 3) da_nil)))))))
theorem fn_likes_better {P : Program} {w : World} {K : PySem.W.Frag} {mg : Str → Option Value} {base : Heap} {k : Nat} (F_place_in_list : Fn P w K mg base k "place_in_list" s_place_in_list ["wishes", "person", "x"] sp_place_in_list) {f : Addr} {fd : FuncData} (F : Fun K "likes_better" "likes_better" s_likes_better f fd) (hm : mg "likes_better" = some (.ref f)) : Fn P w K mg base (k + 1) "likes_better" s_likes_better ["wishes", "person", "one", "other"] sp_likes_better :=
  ⟨f, fd, "likes_better", F, hm, dl_fn F sc_likes_better (rd_likes_better sp_place_in_list) fun cdv A outer s H E B W hr tk => ds_likes_better  F_place_in_list f cdv A outer s H E B W hr tk⟩
/-! ### would_enter -/
abbrev s_would_enter : Stmt := topS 12
abbrev N_would_enter : List Str := ["hall", "dealing", "person", "place", "held", "one"]
theorem sc_would_enter : FnScope N_would_enter ["hall", "dealing", "person", "place"] (defScope s_would_enter) := ⟨rfl, rfl, rfl, by decide +kernel, rfl, by decide +kernel, by decide +kernel⟩
theorem b_would_enter : BindP "would_enter" s_would_enter ["hall", "dealing", "person", "place"] := fun _ _ _ _ _ _ _ us hl => match us, hl with | [_, _, _, _], _ => rfl
def rd_would_enter (sp_those_at : SpD) (sp_is_ahead : SpD) (W : XW) : RS :=
    (sSeq (sSet 4 (dCall sp_those_at W (dCons (dVar 1) (dCons (dVar 3) dNil))))
    (sRet (dOrV (dOp oLt (dCB oLen (dCons (dVar 4) dNil)) (dOp oIx (dOp oIx (dVar 0) (dVar 3)) (dC (.int 0)))) (dCB oAny (dCons (dLcB false (iSeq (dVar 4)) (gN 5) cNil (dCall sp_is_ahead W0 (dCons (dVar 0) (dCons (dVar 3) (dCons (dVar 2) (dCons (dVar 5) dNil))))) [5]) dNil)))))
def sp_would_enter : SpD := spOf N_would_enter (rd_would_enter sp_those_at sp_is_ahead)
theorem ds_would_enter {P : Program} {w : World} {K : PySem.W.Frag} {mg : Str → Option Value} {base : Heap} {k : Nat} (m_any : mg "any" = none) (m_len : mg "len" = none)  {sp_those_at : SpD} {sp_is_ahead : SpD} (F_those_at : Fn P w K mg base k "those_at" s_those_at ["dealing", "place"] sp_those_at) (F_is_ahead : Fn P w K mg base k "is_ahead" s_is_ahead ["hall", "place", "one", "other"] sp_is_ahead)
    (f : Addr) (cdv : Value) (A : Around) (outer : List Env) (s : Shared) (H : Hp) (E : XK) (B : BS) (W : XW) (hr : Room k (A.deeper (envOfC "would_enter" (defScope s_would_enter) s.heap.objs.size f cdv)))
    (tk : TakesD (cxOf (L2.CX P w) P w K mg base N_would_enter "would_enter" (defScope s_would_enter) f cdv A outer s H E) B W) : DSs (cxOf (L2.CX P w) P w K mg base N_would_enter "would_enter" (defScope s_would_enter) f cdv A outer s H E) B (defBody s_would_enter) (rd_would_enter sp_those_at sp_is_ahead W) :=
    (dss_cons (ds_set (i := 4) sc_would_enter.nd rfl (.inl rfl) (d_call F_those_at b_those_at hr tk (da_cons (d_v 1) (da_cons (d_v 3) da_nil))))
    (dss_one (ds_ret (de_or (d_lt (d_len m_len (da_cons (d_v 4) da_nil)) (d_ix (d_ix (d_v 0) (d_v 3)) d_int)) (de_one (d_any rfl m_any (da_cons (de_lc false rfl sc_would_enter.nd (blk_of (own := [("one", 5)]) (by kernel_rfl)) (di_seq (d_v 4)) (fun _ _ _ _ _ => ⟨(dg_n (i := 5) sc_would_enter.nd rfl (by first | exact .inl rfl | exact .inr rfl) (by decide)), dts_nil, (d_call F_is_ahead b_is_ahead hr takes0D (da_cons (d_v 0) (da_cons (d_v 3) (da_cons (d_v 2) (da_cons (d_v 5) da_nil)))))⟩)) da_nil)))))))
theorem fn_would_enter {P : Program} {w : World} {K : PySem.W.Frag} {mg : Str → Option Value} {base : Heap} {k : Nat} (m_any : mg "any" = none) (m_len : mg "len" = none) (F_those_at : Fn P w K mg base k "those_at" s_those_at ["dealing", "place"] sp_those_at) (F_is_ahead : Fn P w K mg base k "is_ahead" s_is_ahead ["hall", "place", "one", "other"] sp_is_ahead) {f : Addr} {fd : FuncData} (F : Fun K "would_enter" "would_enter" s_would_enter f fd) (hm : mg "would_enter" = some (.ref f)) : Fn P w K mg base (k + 1) "would_enter" s_would_enter ["hall", "dealing", "person", "place"] sp_would_enter :=
  ⟨f, fd, "would_enter", F, hm, dl_fn F sc_would_enter (rd_would_enter sp_those_at sp_is_ahead) fun cdv A outer s H E B W hr tk => ds_would_enter m_any m_len F_those_at F_is_ahead f cdv A outer s H E B W hr tk⟩
/-! ### is_blocking -/
abbrev s_is_blocking : Stmt := topS 13
abbrev N_is_blocking : List Str := ["hall", "wishes", "dealing", "person", "place"]
theorem sc_is_blocking : FnScope N_is_blocking ["hall", "wishes", "dealing", "person", "place"] (defScope s_is_blocking) := ⟨rfl, rfl, rfl, by decide +kernel, rfl, by decide +kernel, by decide +kernel⟩
theorem b_is_blocking : BindP "is_blocking" s_is_blocking ["hall", "wishes", "dealing", "person", "place"] := fun _ _ _ _ _ _ _ us hl => match us, hl with | [_, _, _, _, _], _ => rfl
def rd_is_blocking (sp_likes_better : SpD) (sp_would_enter : SpD) (W : XW) : RS :=
    (sSeq (sIf (dNot (dTest (dCall sp_likes_better W (dCons (dVar 1) (dCons (dVar 3) (dCons (dVar 4) (dCons (dOp oIx (dVar 2) (dVar 3)) dNil))))))) (sRet (dC (.bl false))) sNext)
    (sRet (dCall sp_would_enter W (dCons (dVar 0) (dCons (dVar 2) (dCons (dVar 3) (dCons (dVar 4) dNil)))))))
def sp_is_blocking : SpD := spOf N_is_blocking (rd_is_blocking sp_likes_better sp_would_enter)
theorem ds_is_blocking {P : Program} {w : World} {K : PySem.W.Frag} {mg : Str → Option Value} {base : Heap} {k : Nat}   {sp_likes_better : SpD} {sp_would_enter : SpD} (F_likes_better : Fn P w K mg base k "likes_better" s_likes_better ["wishes", "person", "one", "other"] sp_likes_better) (F_would_enter : Fn P w K mg base k "would_enter" s_would_enter ["hall", "dealing", "person", "place"] sp_would_enter)
    (f : Addr) (cdv : Value) (A : Around) (outer : List Env) (s : Shared) (H : Hp) (E : XK) (B : BS) (W : XW) (hr : Room k (A.deeper (envOfC "is_blocking" (defScope s_is_blocking) s.heap.objs.size f cdv)))
    (tk : TakesD (cxOf (L2.CX P w) P w K mg base N_is_blocking "is_blocking" (defScope s_is_blocking) f cdv A outer s H E) B W) : DSs (cxOf (L2.CX P w) P w K mg base N_is_blocking "is_blocking" (defScope s_is_blocking) f cdv A outer s H E) B (defBody s_is_blocking) (rd_is_blocking sp_likes_better sp_would_enter W) :=
    (dss_cons (ds_if (dt_not (d_val (d_call F_likes_better b_likes_better hr tk (da_cons (d_v 1) (da_cons (d_v 3) (da_cons (d_v 4) (da_cons (d_ix (d_v 2) (d_v 3)) da_nil))))))) (dss_one (ds_ret d_bl)) dss_nil)
    (dss_one (ds_ret (d_call F_would_enter b_would_enter hr tk (da_cons (d_v 0) (da_cons (d_v 2) (da_cons (d_v 3) (da_cons (d_v 4) da_nil))))))))
theorem fn_is_blocking {P : Program} {w : World} {K : PySem.W.Frag} {mg : Str → Option Value} {base : Heap} {k : Nat} (F_likes_better : Fn P w K mg base k "likes_better" s_likes_better ["wishes", "person", "one", "other"] sp_likes_better) (F_would_enter : Fn P w K mg base k "would_enter" s_would_enter ["hall", "dealing", "person", "place"] sp_would_enter) {f : Addr} {fd : FuncData} (F : Fun K "is_blocking" "is_blocking" s_is_blocking f fd) (hm : mg "is_blocking" = some (.ref f)) : Fn P w K mg base (k + 1) "is_blocking" s_is_blocking ["hall", "wishes", "dealing", "person", "place"] sp_is_blocking :=
  ⟨f, fd, "is_blocking", F, hm, dl_fn F sc_is_blocking (rd_is_blocking sp_likes_better sp_would_enter) fun cdv A outer s H E B W hr tk => ds_is_blocking  F_likes_better F_would_enter f cdv A outer s H E B W hr tk⟩
/-! ### blocking_pairs -/
abbrev s_blocking_pairs : Stmt := topS 14
abbrev N_blocking_pairs : List Str := ["hall", "wishes", "dealing", "found", "person", "place"]
theorem sc_blocking_pairs : FnScope N_blocking_pairs ["hall", "wishes", "dealing"] (defScope s_blocking_pairs) := ⟨rfl, rfl, rfl, by decide +kernel, rfl, by decide +kernel, by decide +kernel⟩
theorem b_blocking_pairs : BindP "blocking_pairs" s_blocking_pairs ["hall", "wishes", "dealing"] := fun _ _ _ _ _ _ _ us hl => match us, hl with | [_, _, _], _ => rfl
def rd_blocking_pairs (sp_people_in : SpD) (sp_is_blocking : SpD) (W : XW) : RS :=
    (sSeq (sSet 3 (dLstC dNil))
    (sSeq (sFor (iR1 (dCall sp_people_in W (dCons (dVar 0) dNil))) (gN 4) (sFor (iR1 (dCB oLen (dCons (dVar 0) dNil))) (gN 5) (sIf (dTest (dCall sp_is_blocking W (dCons (dVar 0) (dCons (dVar 1) (dCons (dVar 2) (dCons (dVar 4) (dCons (dVar 5) dNil))))))) (sDrop (dMl oApp (dVar 3) (dCons (dTup (dCons (dVar 4) (dCons (dVar 5) dNil))) dNil))) sNext)))
    (sRet (dCB oTuple (dCons (dVar 3) dNil)))))
def sp_blocking_pairs : SpD := spOf N_blocking_pairs (rd_blocking_pairs sp_people_in sp_is_blocking)
theorem ds_blocking_pairs {P : Program} {w : World} {K : PySem.W.Frag} {mg : Str → Option Value} {base : Heap} {k : Nat} (m_len : mg "len" = none) (m_range : mg "range" = none) (m_tuple : mg "tuple" = none)  {sp_people_in : SpD} {sp_is_blocking : SpD} (F_people_in : Fn P w K mg base k "people_in" s_people_in ["hall"] sp_people_in) (F_is_blocking : Fn P w K mg base k "is_blocking" s_is_blocking ["hall", "wishes", "dealing", "person", "place"] sp_is_blocking)
    (f : Addr) (cdv : Value) (A : Around) (outer : List Env) (s : Shared) (H : Hp) (E : XK) (B : BS) (W : XW) (hr : Room k (A.deeper (envOfC "blocking_pairs" (defScope s_blocking_pairs) s.heap.objs.size f cdv)))
    (tk : TakesD (cxOf (L2.CX P w) P w K mg base N_blocking_pairs "blocking_pairs" (defScope s_blocking_pairs) f cdv A outer s H E) B W) : DSs (cxOf (L2.CX P w) P w K mg base N_blocking_pairs "blocking_pairs" (defScope s_blocking_pairs) f cdv A outer s H E) B (defBody s_blocking_pairs) (rd_blocking_pairs sp_people_in sp_is_blocking W) :=
    (dss_cons (ds_set (i := 3) sc_blocking_pairs.nd rfl (.inl rfl) (d_lstC da_nil))
    (dss_cons (ds_for (vs := [4]) (passes_of rfl) rfl (di_range1 m_range (d_call F_people_in b_people_in hr tk (da_cons (d_v 0) da_nil))) (dg_n (i := 4) sc_blocking_pairs.nd rfl (by first | exact .inl rfl | exact .inr rfl) (by decide)) (dss_one (ds_for (vs := [5]) (passes_of rfl) rfl (di_range1 m_range (d_len m_len (da_cons (d_v 0) da_nil))) (dg_n (i := 5) sc_blocking_pairs.nd rfl (by first | exact .inl rfl | exact .inr rfl) (by decide)) (dss_one (ds_if (d_val (d_call F_is_blocking b_is_blocking hr tk (da_cons (d_v 0) (da_cons (d_v 1) (da_cons (d_v 2) (da_cons (d_v 4) (da_cons (d_v 5) da_nil))))))) (dss_one (ds_expr (d_append (d_v 3) (da_cons (d_tup (da_cons (d_v 4) (da_cons (d_v 5) da_nil))) da_nil)))) dss_nil)))))
    (dss_one (ds_ret (d_tuple m_tuple (da_cons (d_v 3) da_nil))))))
theorem fn_blocking_pairs {P : Program} {w : World} {K : PySem.W.Frag} {mg : Str → Option Value} {base : Heap} {k : Nat} (m_len : mg "len" = none) (m_range : mg "range" = none) (m_tuple : mg "tuple" = none) (F_people_in : Fn P w K mg base k "people_in" s_people_in ["hall"] sp_people_in) (F_is_blocking : Fn P w K mg base k "is_blocking" s_is_blocking ["hall", "wishes", "dealing", "person", "place"] sp_is_blocking) {f : Addr} {fd : FuncData} (F : Fun K "blocking_pairs" "blocking_pairs" s_blocking_pairs f fd) (hm : mg "blocking_pairs" = some (.ref f)) : Fn P w K mg base (k + 1) "blocking_pairs" s_blocking_pairs ["hall", "wishes", "dealing"] sp_blocking_pairs :=
  ⟨f, fd, "blocking_pairs", F, hm, dl_fn F sc_blocking_pairs (rd_blocking_pairs sp_people_in sp_is_blocking) fun cdv A outer s H E B W hr tk => ds_blocking_pairs m_len m_range m_tuple F_people_in F_is_blocking f cdv A outer s H E B W hr tk⟩
/-! ### blocks -/
abbrev s_blocks : Stmt := topS 15
abbrev N_blocks : List Str := ["hall", "wishes", "dealing", "value"]
theorem sc_blocks : FnScope N_blocks ["hall", "wishes", "dealing", "value"] (defScope s_blocks) := ⟨rfl, rfl, rfl, by decide +kernel, rfl, by decide +kernel, by decide +kernel⟩
theorem b_blocks : BindP "blocks" s_blocks ["hall", "wishes", "dealing", "value"] := fun _ _ _ _ _ _ _ us hl => match us, hl with | [_, _, _, _], _ => rfl
def rd_blocks (sp_is_index : SpD) (sp_people_in : SpD) (sp_is_blocking : SpD) (W : XW) : RS :=
    (sSeq (sIf (dOr (dNot (dTest (dIsi "tuple" (dVar 3)))) (dTest (dOp oNe (dCB oLen (dCons (dVar 3) dNil)) (dC (.int 2))))) (sRet (dC (.bl false))) sNext)
    (sSeq (sIf (dOr (dNot (dTest (dCall sp_is_index W (dCons (dOp oIx (dVar 3) (dC (.int 0))) (dCons (dCall sp_people_in W (dCons (dVar 0) dNil)) dNil))))) (dNot (dTest (dCall sp_is_index W (dCons (dOp oIx (dVar 3) (dC (.int 1))) (dCons (dCB oLen (dCons (dVar 0) dNil)) dNil)))))) (sRet (dC (.bl false))) sNext)
    (sRet (dCall sp_is_blocking W (dCons (dVar 0) (dCons (dVar 1) (dCons (dVar 2) (dCons (dOp oIx (dVar 3) (dC (.int 0))) (dCons (dOp oIx (dVar 3) (dC (.int 1))) dNil)))))))))
def sp_blocks : SpD := spOf N_blocks (rd_blocks sp_is_index sp_people_in sp_is_blocking)
theorem ds_blocks {P : Program} {w : World} {K : PySem.W.Frag} {mg : Str → Option Value} {base : Heap} {k : Nat} (m_isinstance : mg "isinstance" = none) (m_len : mg "len" = none) (m_tuple : mg "tuple" = none)  {sp_is_index : SpD} {sp_people_in : SpD} {sp_is_blocking : SpD} (F_is_index : Fn P w K mg base k "is_index" s_is_index ["value", "many"] sp_is_index) (F_people_in : Fn P w K mg base k "people_in" s_people_in ["hall"] sp_people_in) (F_is_blocking : Fn P w K mg base k "is_blocking" s_is_blocking ["hall", "wishes", "dealing", "person", "place"] sp_is_blocking)
    (f : Addr) (cdv : Value) (A : Around) (outer : List Env) (s : Shared) (H : Hp) (E : XK) (B : BS) (W : XW) (hr : Room k (A.deeper (envOfC "blocks" (defScope s_blocks) s.heap.objs.size f cdv)))
    (tk : TakesD (cxOf (L2.CX P w) P w K mg base N_blocks "blocks" (defScope s_blocks) f cdv A outer s H E) B W) : DSs (cxOf (L2.CX P w) P w K mg base N_blocks "blocks" (defScope s_blocks) f cdv A outer s H E) B (defBody s_blocks) (rd_blocks sp_is_index sp_people_in sp_is_blocking W) :=
    (dss_cons (ds_if (dw_pt (dw_or (dt_not (d_val (d_isi m_isinstance (d_v 3) m_tuple (by decide +kernel)))) (dw_or1 (dt_ne hr (d_len m_len (da_cons (d_v 3) da_nil)) d_int)))) (dss_one (ds_ret d_bl)) dss_nil)
    (dss_cons (ds_if (dw_pt (dw_or (dt_not (d_val (d_call F_is_index b_is_index hr tk (da_cons (d_ix (d_v 3) d_int) (da_cons (d_call F_people_in b_people_in hr tk (da_cons (d_v 0) da_nil)) da_nil))))) (dw_or1 (dt_not (d_val (d_call F_is_index b_is_index hr tk (da_cons (d_ix (d_v 3) d_int) (da_cons (d_len m_len (da_cons (d_v 0) da_nil)) da_nil)))))))) (dss_one (ds_ret d_bl)) dss_nil)
    (dss_one (ds_ret (d_call F_is_blocking b_is_blocking hr tk (da_cons (d_v 0) (da_cons (d_v 1) (da_cons (d_v 2) (da_cons (d_ix (d_v 3) d_int) (da_cons (d_ix (d_v 3) d_int) da_nil))))))))))
theorem fn_blocks {P : Program} {w : World} {K : PySem.W.Frag} {mg : Str → Option Value} {base : Heap} {k : Nat} (m_isinstance : mg "isinstance" = none) (m_len : mg "len" = none) (m_tuple : mg "tuple" = none) (F_is_index : Fn P w K mg base k "is_index" s_is_index ["value", "many"] sp_is_index) (F_people_in : Fn P w K mg base k "people_in" s_people_in ["hall"] sp_people_in) (F_is_blocking : Fn P w K mg base k "is_blocking" s_is_blocking ["hall", "wishes", "dealing", "person", "place"] sp_is_blocking) {f : Addr} {fd : FuncData} (F : Fun K "blocks" "blocks" s_blocks f fd) (hm : mg "blocks" = some (.ref f)) : Fn P w K mg base (k + 1) "blocks" s_blocks ["hall", "wishes", "dealing", "value"] sp_blocks :=
  ⟨f, fd, "blocks", F, hm, dl_fn F sc_blocks (rd_blocks sp_is_index sp_people_in sp_is_blocking) fun cdv A outer s H E B W hr tk => ds_blocks m_isinstance m_len m_tuple F_is_index F_people_in F_is_blocking f cdv A outer s H E B W hr tk⟩
/-! ### law_draw -/
abbrev s_law_draw : Stmt := topS 17
abbrev N_law_draw : List Str := ["script", "salt", "cells", "blend", "cell"]
theorem sc_law_draw : FnScope N_law_draw ["script", "salt"] (defScope s_law_draw) := ⟨rfl, rfl, rfl, by decide +kernel, rfl, by decide +kernel, by decide +kernel⟩
theorem b_law_draw : BindP "_law_draw" s_law_draw ["script", "salt"] := fun _ _ _ _ _ _ _ us hl => match us, hl with | [_, _], _ => rfl
def rd_law_draw (W : XW) : RS :=
    (sSeq (sSet 2 (dLcB false (iSeq (dSl oSl (dVar 0) dNo (dPart (dC (.int 48))))) (gN 4) cNil (dCB oAbs (dCons (dCB oInt (dCons (dVar 4) dNil)) dNil)) [4]))
    (sSeq (sSet 3 (dOp oAdd (dC (.int 7919)) (dOp oMul (dC (.int 104729)) (dVar 1))))
    (sSeq (sFor (iSeq (dVar 2)) (gN 4) (sSet 3 (dOp oMod (dCB oInt (dCons (dOp oAdd (dOp oAdd (dOp oMul (dVar 3) (dC (.int 48271))) (dOp oMod (dVar 4) (dC (.int 2147483549)))) (dC (.int 11))) dNil)) (dC (.int 2147483647)))))
    (sRet (dLstC (dCons (dRevC (dLcB true (iSeq (dVar 2)) (gN 4) (dTest (dOp oGe (dVar 4) (dOp oPow (dC (.int 10)) (dC (.int 18))))) (dVar 4) [4])) (dCons (dVar 3) dNil)))))))
def sp_law_draw : SpD := spOf N_law_draw (rd_law_draw)
theorem ds_law_draw {P : Program} {w : World} {K : PySem.W.Frag} {mg : Str → Option Value} {base : Heap} {k : Nat} (m_abs : mg "abs" = none) (m_int : mg "int" = none)   
    (f : Addr) (cdv : Value) (A : Around) (outer : List Env) (s : Shared) (H : Hp) (E : XK) (B : BS) (W : XW) (hr : Room k (A.deeper (envOfC "_law_draw" (defScope s_law_draw) s.heap.objs.size f cdv)))
    (tk : TakesD (cxOf (L2.CX P w) P w K mg base N_law_draw "_law_draw" (defScope s_law_draw) f cdv A outer s H E) B W) : DSs (cxOf (L2.CX P w) P w K mg base N_law_draw "_law_draw" (defScope s_law_draw) f cdv A outer s H E) B (defBody s_law_draw) (rd_law_draw W) :=
    (dss_cons (ds_setLc false rfl sc_law_draw.nd (blk_of (own := [("cell", 4)]) (by kernel_rfl)) (i := 2) rfl rfl (di_seq (d_sl (d_v 0) do_no (do_some d_int))) (fun _ _ _ _ _ => ⟨(dg_n (i := 4) sc_law_draw.nd rfl (by first | exact .inl rfl | exact .inr rfl) (by decide)), dts_nil, (d_abs m_abs (da_cons (d_intC m_int (da_cons (d_v 4) da_nil)) da_nil))⟩))
    (dss_cons (ds_set (i := 3) sc_law_draw.nd rfl (.inl rfl) (d_add d_int (d_mul d_int (d_v 1))))
    (dss_cons (ds_for (vs := [4]) (passes_of rfl) rfl (di_seq (d_v 2)) (dg_n (i := 4) sc_law_draw.nd rfl (by first | exact .inl rfl | exact .inr rfl) (by decide)) (dss_one (ds_set (i := 3) sc_law_draw.nd rfl (.inl rfl) (d_mod (d_intC m_int (da_cons (d_add (d_add (d_mul (d_v 3) d_int) (d_mod (d_v 4) d_int)) d_int) da_nil)) d_int))))
    (dss_one (ds_ret (d_lstC (da_cons (d_revC (de_lc true rfl sc_law_draw.nd (blk_of (own := [("cell", 4)]) (by kernel_rfl)) (di_seq (d_v 2)) (fun _ _ _ _ _ => ⟨(dg_n (i := 4) sc_law_draw.nd rfl (by first | exact .inl rfl | exact .inr rfl) (by decide)), (dts_one (dt_ge (d_v 4) (d_pow d_int d_int))), (d_v 4)⟩))) (da_cons (d_v 3) da_nil))))))))
theorem fn_law_draw {P : Program} {w : World} {K : PySem.W.Frag} {mg : Str → Option Value} {base : Heap} {k : Nat} (m_abs : mg "abs" = none) (m_int : mg "int" = none) {f : Addr} {fd : FuncData} (F : Fun K "_law_draw" "_law_draw" s_law_draw f fd) (hm : mg "_law_draw" = some (.ref f)) : Fn P w K mg base (k + 1) "_law_draw" s_law_draw ["script", "salt"] sp_law_draw :=
  ⟨f, fd, "_law_draw", F, hm, dl_fn F sc_law_draw (rd_law_draw) fun cdv A outer s H E B W hr tk => ds_law_draw m_abs m_int  f cdv A outer s H E B W hr tk⟩
/-! ### law_any -/
abbrev s_law_any : Stmt := topS 18
abbrev N_law_any : List Str := ["deal", "bound", "rest"]
theorem sc_law_any : FnScope N_law_any ["deal", "bound"] (defScope s_law_any) := ⟨rfl, rfl, rfl, by decide +kernel, rfl, by decide +kernel, by decide +kernel⟩
theorem b_law_any : BindP "_law_any" s_law_any ["deal", "bound"] := fun _ _ _ _ _ _ _ us hl => match us, hl with | [_, _], _ => rfl
def rd_law_any (W : XW) : RS :=
    (sSeq (sWhile (dAnd (dTest (dOp oNe (dOp oIx (dVar 0) (dC (.int 0))) (dLst dNil))) (dTest (dOp oEq (dOp oIx (dOp oIx (dVar 0) (dC (.int 0))) (dUn oNeg (dC (.int 1)))) (dC (.int 0))))) (sDrop (dMl0 oPop (dOp oIx (dVar 0) (dC (.int 0))))))
    (sSeq (sIf (dTest (dOp oNe (dOp oIx (dVar 0) (dC (.int 0))) (dLst dNil))) (sSeq (sSet 2 (dCB oInt (dCons (dMl0 oPop (dOp oIx (dVar 0) (dC (.int 0)))) dNil)))
    (sSeq (sDrop (dMl oApp (dOp oIx (dVar 0) (dC (.int 0))) (dCons (dOp oFdiv (dVar 2) (dVar 1)) dNil)))
    (sRet (dOp oMod (dVar 2) (dVar 1))))) sNext)
    (sSeq (sAsg (dOp oMod (dCB oInt (dCons (dOp oAdd (dOp oMul (dOp oIx (dVar 0) (dC (.int 1))) (dC (.int 40693))) (dC (.int 71))) dNil)) (dC (.int 2147483647))) (gSb (dVar 0) (dC (.int 1))))
    (sRet (dOp oMod (dCB oInt (dCons (dOp oFdiv (dOp oIx (dVar 0) (dC (.int 1))) (dC (.int 64))) dNil)) (dVar 1))))))
def sp_law_any : SpD := spOf N_law_any (rd_law_any)
theorem ds_law_any {P : Program} {w : World} {K : PySem.W.Frag} {mg : Str → Option Value} {base : Heap} {k : Nat} (m_int : mg "int" = none)   
    (f : Addr) (cdv : Value) (A : Around) (outer : List Env) (s : Shared) (H : Hp) (E : XK) (B : BS) (W : XW) (hr : Room k (A.deeper (envOfC "_law_any" (defScope s_law_any) s.heap.objs.size f cdv)))
    (tk : TakesD (cxOf (L2.CX P w) P w K mg base N_law_any "_law_any" (defScope s_law_any) f cdv A outer s H E) B W) : DSs (cxOf (L2.CX P w) P w K mg base N_law_any "_law_any" (defScope s_law_any) f cdv A outer s H E) B (defBody s_law_any) (rd_law_any W) :=
    (dss_cons (ds_while (passes_of rfl) (dw_pt (dw_and (dt_ne hr (d_ix (d_v 0) d_int) (d_lst da_nil)) (dw_and1 (dt_eq hr (d_ix (d_ix (d_v 0) d_int) (d_neg d_int)) d_int)))) (dss_one (ds_expr (d_pop (d_ix (d_v 0) d_int)))))
    (dss_cons (ds_if (dt_ne hr (d_ix (d_v 0) d_int) (d_lst da_nil)) (dss_cons (ds_set (i := 2) sc_law_any.nd rfl (.inl rfl) (d_intC m_int (da_cons (d_pop (d_ix (d_v 0) d_int)) da_nil)))
    (dss_cons (ds_expr (d_append (d_ix (d_v 0) d_int) (da_cons (d_fdiv (d_v 2) (d_v 1)) da_nil)))
    (dss_one (ds_ret (d_mod (d_v 2) (d_v 1)))))) dss_nil)
    (dss_cons (ds_asg (vs := []) (d_mod (d_intC m_int (da_cons (d_add (d_mul (d_ix (d_v 0) d_int) d_int) d_int) da_nil)) d_int) (dg_sub (d_v 0) d_int))
    (dss_one (ds_ret (d_mod (d_intC m_int (da_cons (d_fdiv (d_ix (d_v 0) d_int) d_int) da_nil)) (d_v 1)))))))
theorem fn_law_any {P : Program} {w : World} {K : PySem.W.Frag} {mg : Str → Option Value} {base : Heap} {k : Nat} (m_int : mg "int" = none) {f : Addr} {fd : FuncData} (F : Fun K "_law_any" "_law_any" s_law_any f fd) (hm : mg "_law_any" = some (.ref f)) : Fn P w K mg base (k + 1) "_law_any" s_law_any ["deal", "bound"] sp_law_any :=
  ⟨f, fd, "_law_any", F, hm, dl_fn F sc_law_any (rd_law_any) fun cdv A outer s H E B W hr tk => ds_law_any m_int  f cdv A outer s H E B W hr tk⟩
/-! ### law_of -/
abbrev s_law_of : Stmt := topS 19
abbrev N_law_of : List Str := ["deal", "some"]
theorem sc_law_of : FnScope N_law_of ["deal", "some"] (defScope s_law_of) := ⟨rfl, rfl, rfl, by decide +kernel, rfl, by decide +kernel, by decide +kernel⟩
theorem b_law_of : BindP "_law_of" s_law_of ["deal", "some"] := fun _ _ _ _ _ _ _ us hl => match us, hl with | [_, _], _ => rfl
def rd_law_of (sp_law_any : SpD) (W : XW) : RS :=
    (sRet (dOp oIx (dVar 1) (dCall sp_law_any W (dCons (dVar 0) (dCons (dCB oLen (dCons (dVar 1) dNil)) dNil)))))
def sp_law_of : SpD := spOf N_law_of (rd_law_of sp_law_any)
theorem ds_law_of {P : Program} {w : World} {K : PySem.W.Frag} {mg : Str → Option Value} {base : Heap} {k : Nat} (m_len : mg "len" = none)  {sp_law_any : SpD} (F_law_any : Fn P w K mg base k "_law_any" s_law_any ["deal", "bound"] sp_law_any)
    (f : Addr) (cdv : Value) (A : Around) (outer : List Env) (s : Shared) (H : Hp) (E : XK) (B : BS) (W : XW) (hr : Room k (A.deeper (envOfC "_law_of" (defScope s_law_of) s.heap.objs.size f cdv)))
    (tk : TakesD (cxOf (L2.CX P w) P w K mg base N_law_of "_law_of" (defScope s_law_of) f cdv A outer s H E) B W) : DSs (cxOf (L2.CX P w) P w K mg base N_law_of "_law_of" (defScope s_law_of) f cdv A outer s H E) B (defBody s_law_of) (rd_law_of sp_law_any W) :=
    (dss_one (ds_ret (d_ix (d_v 1) (d_call F_law_any b_law_any hr tk (da_cons (d_v 0) (da_cons (d_len m_len (da_cons (d_v 1) da_nil)) da_nil))))))
theorem fn_law_of {P : Program} {w : World} {K : PySem.W.Frag} {mg : Str → Option Value} {base : Heap} {k : Nat} (m_len : mg "len" = none) (F_law_any : Fn P w K mg base k "_law_any" s_law_any ["deal", "bound"] sp_law_any) {f : Addr} {fd : FuncData} (F : Fun K "_law_of" "_law_of" s_law_of f fd) (hm : mg "_law_of" = some (.ref f)) : Fn P w K mg base (k + 1) "_law_of" s_law_of ["deal", "some"] sp_law_of :=
  ⟨f, fd, "_law_of", F, hm, dl_fn F sc_law_of (rd_law_of sp_law_any) fun cdv A outer s H E B W hr tk => ds_law_of m_len F_law_any f cdv A outer s H E B W hr tk⟩
/-! ### law_mixed -/
abbrev s_law_mixed : Stmt := topS 20
abbrev N_law_mixed : List Str := ["deal", "some", "left", "found"]
theorem sc_law_mixed : FnScope N_law_mixed ["deal", "some"] (defScope s_law_mixed) := ⟨rfl, rfl, rfl, by decide +kernel, rfl, by decide +kernel, by decide +kernel⟩
theorem b_law_mixed : BindP "_law_mixed" s_law_mixed ["deal", "some"] := fun _ _ _ _ _ _ _ us hl => match us, hl with | [_, _], _ => rfl
def rd_law_mixed (sp_law_any : SpD) (W : XW) : RS :=
    (sSeq (sPar 2 3 (dCons (dCB oListC (dCons (dVar 1) dNil)) (dCons (dLstC dNil) dNil)))
    (sSeq (sWhile (dTest (dOp oNe (dVar 2) (dLst dNil))) (sDrop (dMl oApp (dVar 3) (dCons (dMl oPopAt (dVar 2) (dCons (dCall sp_law_any W (dCons (dVar 0) (dCons (dCB oLen (dCons (dVar 2) dNil)) dNil))) dNil)) dNil))))
    (sRet (dVar 3))))
def sp_law_mixed : SpD := spOf N_law_mixed (rd_law_mixed sp_law_any)
theorem ds_law_mixed {P : Program} {w : World} {K : PySem.W.Frag} {mg : Str → Option Value} {base : Heap} {k : Nat} (m_len : mg "len" = none) (m_list : mg "list" = none)  {sp_law_any : SpD} (F_law_any : Fn P w K mg base k "_law_any" s_law_any ["deal", "bound"] sp_law_any)
    (f : Addr) (cdv : Value) (A : Around) (outer : List Env) (s : Shared) (H : Hp) (E : XK) (B : BS) (W : XW) (hr : Room k (A.deeper (envOfC "_law_mixed" (defScope s_law_mixed) s.heap.objs.size f cdv)))
    (tk : TakesD (cxOf (L2.CX P w) P w K mg base N_law_mixed "_law_mixed" (defScope s_law_mixed) f cdv A outer s H E) B W) : DSs (cxOf (L2.CX P w) P w K mg base N_law_mixed "_law_mixed" (defScope s_law_mixed) f cdv A outer s H E) B (defBody s_law_mixed) (rd_law_mixed sp_law_any W) :=
    (dss_cons (ds_par (i := 2) (j := 3) rfl sc_law_mixed.nd rfl rfl (by decide) rfl rfl (da_cons (d_listC m_list (da_cons (d_v 1) da_nil)) (da_cons (d_lstC da_nil) da_nil)))
    (dss_cons (ds_while (passes_of rfl) (dt_ne hr (d_v 2) (d_lst da_nil)) (dss_one (ds_expr (d_append (d_v 3) (da_cons (d_popAt (d_v 2) (da_cons (d_call F_law_any b_law_any hr tk (da_cons (d_v 0) (da_cons (d_len m_len (da_cons (d_v 2) da_nil)) da_nil))) da_nil)) da_nil)))))
    (dss_one (ds_ret (d_v 3)))))
theorem fn_law_mixed {P : Program} {w : World} {K : PySem.W.Frag} {mg : Str → Option Value} {base : Heap} {k : Nat} (m_len : mg "len" = none) (m_list : mg "list" = none) (F_law_any : Fn P w K mg base k "_law_any" s_law_any ["deal", "bound"] sp_law_any) {f : Addr} {fd : FuncData} (F : Fun K "_law_mixed" "_law_mixed" s_law_mixed f fd) (hm : mg "_law_mixed" = some (.ref f)) : Fn P w K mg base (k + 1) "_law_mixed" s_law_mixed ["deal", "some"] sp_law_mixed :=
  ⟨f, fd, "_law_mixed", F, hm, dl_fn F sc_law_mixed (rd_law_mixed sp_law_any) fun cdv A outer s H E B W hr tk => ds_law_mixed m_len m_list F_law_any f cdv A outer s H E B W hr tk⟩
/-! ### law_same -/
abbrev s_law_same : Stmt := topS 21
abbrev N_law_same : List Str := ["value", "due", "one", "other"]
theorem sc_law_same : FnScope N_law_same ["value", "due"] (defScope s_law_same) := ⟨rfl, rfl, rfl, by decide +kernel, rfl, by decide +kernel, by decide +kernel⟩
theorem b_law_same : BindP "_law_same" s_law_same ["value", "due"] := fun _ _ _ _ _ _ _ us hl => match us, hl with | [_, _], _ => rfl
def rd_law_same (sp_law_same : SpD) (W : XW) : RS :=
    (sSeq (sIf (dTest (dIsi "tuple" (dVar 1))) (sSeq (sIf (dOr (dNot (dTest (dIsi "tuple" (dVar 0)))) (dTest (dOp oNe (dCB oLen (dCons (dVar 0) dNil)) (dCB oLen (dCons (dVar 1) dNil))))) (sRet (dC (.bl false))) sNext)
    (sRet (dOp oEq (dLcB false (iZip2 (dVar 0) (dVar 1)) (gTup 2 (gCo (gN 2) (gCo (gN 3) gNi))) (dNot (dTest (dCall sp_law_same W0 (dCons (dVar 2) (dCons (dVar 3) dNil))))) (dC (.int 0)) [2, 3]) (dLst dNil)))) sNext)
    (sSeq (sIf (dTest (dOp (oIs false) (dVar 1) (dC .non))) (sRet (dOp (oIs false) (dVar 0) (dC .non))) sNext)
    (sSeq (sIf (dTest (dOp (oIs false) (dVar 1) (dC (.bl true)))) (sRet (dOp (oIs false) (dVar 0) (dC (.bl true)))) sNext)
    (sSeq (sIf (dTest (dOp (oIs false) (dVar 1) (dC (.bl false)))) (sRet (dOp (oIs false) (dVar 0) (dC (.bl false)))) sNext)
    (sSeq (sIf (dTest (dIsi "int" (dVar 1))) (sRet (dAndV (dIsi "int" (dVar 0)) (dAndV (dNotV (dIsi "bool" (dVar 0))) (dOp oEq (dVar 0) (dVar 1))))) sNext)
    (sRet (dAndV (dIsi "str" (dVar 0)) (dOp oEq (dVar 0) (dVar 1)))))))))
def spR_law_same : Nat → SpD
  | 0 => fun _ _ _ _ => False
  | n + 1 => spOf N_law_same (rd_law_same (spR_law_same n))
def sp_law_same : SpD := spR_law_same 12
theorem ds_law_same {P : Program} {w : World} {K : PySem.W.Frag} {mg : Str → Option Value} {base : Heap} {k : Nat} (m_bool : mg "bool" = none) (m_int : mg "int" = none) (m_isinstance : mg "isinstance" = none) (m_len : mg "len" = none) (m_str : mg "str" = none) (m_tuple : mg "tuple" = none) (m_zip : mg "zip" = none)  {sp_law_same : SpD} (F_law_same : Fn P w K mg base k "_law_same" s_law_same ["value", "due"] sp_law_same)
    (f : Addr) (cdv : Value) (A : Around) (outer : List Env) (s : Shared) (H : Hp) (E : XK) (B : BS) (W : XW) (hr : Room k (A.deeper (envOfC "_law_same" (defScope s_law_same) s.heap.objs.size f cdv)))
    (tk : TakesD (cxOf (L2.CX P w) P w K mg base N_law_same "_law_same" (defScope s_law_same) f cdv A outer s H E) B W) : DSs (cxOf (L2.CX P w) P w K mg base N_law_same "_law_same" (defScope s_law_same) f cdv A outer s H E) B (defBody s_law_same) (rd_law_same sp_law_same W) :=
    (dss_cons (ds_if (d_val (d_isi m_isinstance (d_v 1) m_tuple (by decide +kernel))) (dss_cons (ds_if (dw_pt (dw_or (dt_not (d_val (d_isi m_isinstance (d_v 0) m_tuple (by decide +kernel)))) (dw_or1 (dt_ne hr (d_len m_len (da_cons (d_v 0) da_nil)) (d_len m_len (da_cons (d_v 1) da_nil)))))) (dss_one (ds_ret d_bl)) dss_nil)
    (dss_one (ds_ret (d_eq hr (de_lc false rfl sc_law_same.nd (blk_of (own := [("one", 2), ("other", 3)]) (by kernel_rfl)) (di_zip m_zip (d_v 0) (d_v 1)) (fun _ _ _ _ _ => ⟨(dg_tupA rfl (dgs_cons (dg_n (i := 2) sc_law_same.nd rfl (by first | exact .inl rfl | exact .inr rfl) (by decide)) (dgs_cons (dg_n (i := 3) sc_law_same.nd rfl (by first | exact .inl rfl | exact .inr rfl) (by decide)) dgs_nil))), (dts_one (dt_not (d_val (d_call F_law_same b_law_same hr takes0D (da_cons (d_v 2) (da_cons (d_v 3) da_nil)))))), d_int⟩)) (d_lst da_nil))))) dss_nil)
    (dss_cons (ds_if (dt_is (d_v 1) d_non) (dss_one (ds_ret (d_is (d_v 0) d_non))) dss_nil)
    (dss_cons (ds_if (dt_is (d_v 1) d_bl) (dss_one (ds_ret (d_is (d_v 0) d_bl))) dss_nil)
    (dss_cons (ds_if (dt_is (d_v 1) d_bl) (dss_one (ds_ret (d_is (d_v 0) d_bl))) dss_nil)
    (dss_cons (ds_if (d_val (d_isi m_isinstance (d_v 1) m_int (by decide +kernel))) (dss_one (ds_ret (de_and (d_isi m_isinstance (d_v 0) m_int (by decide +kernel)) (de_and (de_not (d_isi m_isinstance (d_v 0) m_bool (by decide +kernel))) (de_one (d_eq hr (d_v 0) (d_v 1))))))) dss_nil)
    (dss_one (ds_ret (de_and (d_isi m_isinstance (d_v 0) m_str (by decide +kernel)) (de_one (d_eq hr (d_v 0) (d_v 1)))))))))))
theorem fn_law_same {P : Program} {w : World} {K : PySem.W.Frag} {mg : Str → Option Value} {base : Heap} {k : Nat} (m_bool : mg "bool" = none) (m_int : mg "int" = none) (m_isinstance : mg "isinstance" = none) (m_len : mg "len" = none) (m_str : mg "str" = none) (m_tuple : mg "tuple" = none) (m_zip : mg "zip" = none) {f : Addr} {fd : FuncData} (F : Fun K "_law_same" "_law_same" s_law_same f fd) (hm : mg "_law_same" = some (.ref f)) : ∀ n, Fn P w K mg base (k + n) "_law_same" s_law_same ["value", "due"] (spR_law_same n)
  | 0 => fn_none F hm
  | n + 1 => ⟨f, fd, "_law_same", F, hm, dl_fn F sc_law_same (rd_law_same (spR_law_same n)) fun cdv A outer s H E B W hr tk => ds_law_same m_bool m_int m_isinstance m_len m_str m_tuple m_zip (fn_law_same m_bool m_int m_isinstance m_len m_str m_tuple m_zip  F hm n) f cdv A outer s H E B W hr tk⟩
/-! ### law_order -/
abbrev s_law_order : Stmt := topS 22
abbrev N_law_order : List Str := ["deal", "many", "like", "order", "turn", "at", "person"]
theorem sc_law_order : FnScope N_law_order ["deal", "many", "like"] (defScope s_law_order) := ⟨rfl, rfl, rfl, by decide +kernel, rfl, by decide +kernel, by decide +kernel⟩
theorem b_law_order : BindP "_law_order" s_law_order ["deal", "many", "like"] := fun _ _ _ _ _ _ _ us hl => match us, hl with | [_, _, _], _ => rfl
def rd_law_order (sp_law_any : SpD) (sp_law_mixed : SpD) (sp_law_of : SpD) (W : XW) : RS :=
    (sSeq (sIf (dOr (dTest (dOp (oIs false) (dVar 2) (dC .non))) (dTest (dOp oEq (dCall sp_law_any W (dCons (dVar 0) (dCons (dC (.int 3)) dNil))) (dC (.int 0))))) (sRet (dCB oTuple (dCons (dCall sp_law_mixed W (dCons (dVar 0) (dCons (dLstR false (rR1 (dVar 1))) dNil))) dNil))) sNext)
    (sSeq (sSet 3 (dCB oListC (dCons (dVar 2) dNil)))
    (sSeq (sFor (iR1 (dCall sp_law_of W (dCons (dVar 0) (dCons (dLst (dCons (dC (.int 0)) (dCons (dC (.int 1)) (dCons (dC (.int 2)) (dCons (dVar 1) dNil))))) dNil)))) (gN 4) (sSeq (sSet 5 (dCall sp_law_any W (dCons (dVar 0) (dCons (dVar 1) dNil))))
    (sSeq (sSet 6 (dMl oPopAt (dVar 3) (dCons (dVar 5) dNil)))
    (sDrop (dMl oIns (dVar 3) (dCons (dCB oMax2 (dCons (dC (.int 0)) (dCons (dCB oMin2 (dCons (dCB oLen (dCons (dVar 3) dNil)) (dCons (dOp oAdd (dVar 5) (dCall sp_law_of W (dCons (dVar 0) (dCons (dLst (dCons (dUn oNeg (dC (.int 1))) (dCons (dC (.int 1)) (dCons (dUn oNeg (dC (.int 2))) (dCons (dC (.int 2)) dNil))))) dNil)))) dNil))) dNil))) (dCons (dVar 6) dNil)))))))
    (sRet (dCB oTuple (dCons (dVar 3) dNil))))))
def sp_law_order : SpD := spOf N_law_order (rd_law_order sp_law_any sp_law_mixed sp_law_of)
theorem ds_law_order {P : Program} {w : World} {K : PySem.W.Frag} {mg : Str → Option Value} {base : Heap} {k : Nat} (m_len : mg "len" = none) (m_list : mg "list" = none) (m_max : mg "max" = none) (m_min : mg "min" = none) (m_range : mg "range" = none) (m_tuple : mg "tuple" = none)  {sp_law_any : SpD} {sp_law_mixed : SpD} {sp_law_of : SpD} (F_law_any : Fn P w K mg base k "_law_any" s_law_any ["deal", "bound"] sp_law_any) (F_law_mixed : Fn P w K mg base k "_law_mixed" s_law_mixed ["deal", "some"] sp_law_mixed) (F_law_of : Fn P w K mg base k "_law_of" s_law_of ["deal", "some"] sp_law_of)
    (f : Addr) (cdv : Value) (A : Around) (outer : List Env) (s : Shared) (H : Hp) (E : XK) (B : BS) (W : XW) (hr : Room k (A.deeper (envOfC "_law_order" (defScope s_law_order) s.heap.objs.size f cdv)))
    (tk : TakesD (cxOf (L2.CX P w) P w K mg base N_law_order "_law_order" (defScope s_law_order) f cdv A outer s H E) B W) : DSs (cxOf (L2.CX P w) P w K mg base N_law_order "_law_order" (defScope s_law_order) f cdv A outer s H E) B (defBody s_law_order) (rd_law_order sp_law_any sp_law_mixed sp_law_of W) :=
    (dss_cons (ds_if (dw_pt (dw_or (dt_is (d_v 2) d_non) (dw_or1 (dt_eq hr (d_call F_law_any b_law_any hr tk (da_cons (d_v 0) (da_cons d_int da_nil))) d_int)))) (dss_one (ds_ret (d_tuple m_tuple (da_cons (d_call F_law_mixed b_law_mixed hr tk (da_cons (d_v 0) (da_cons (d_listR false rfl m_list (dr_1 m_range (d_v 1))) da_nil))) da_nil)))) dss_nil)
    (dss_cons (ds_set (i := 3) sc_law_order.nd rfl (.inl rfl) (d_listC m_list (da_cons (d_v 2) da_nil)))
    (dss_cons (ds_for (vs := [4]) (passes_of rfl) rfl (di_range1 m_range (d_call F_law_of b_law_of hr tk (da_cons (d_v 0) (da_cons (d_lst (da_cons d_int (da_cons d_int (da_cons d_int (da_cons (d_v 1) da_nil))))) da_nil)))) (dg_n (i := 4) sc_law_order.nd rfl (by first | exact .inl rfl | exact .inr rfl) (by decide)) (dss_cons (ds_set (i := 5) sc_law_order.nd rfl (.inl rfl) (d_call F_law_any b_law_any hr tk (da_cons (d_v 0) (da_cons (d_v 1) da_nil))))
    (dss_cons (ds_set (i := 6) sc_law_order.nd rfl (.inl rfl) (d_popAt (d_v 3) (da_cons (d_v 5) da_nil)))
    (dss_one (ds_expr (d_insert (d_v 3) (da_cons (d_max2 rfl m_max (da_cons d_int (da_cons (d_min2 rfl m_min (da_cons (d_len m_len (da_cons (d_v 3) da_nil)) (da_cons (d_add (d_v 5) (d_call F_law_of b_law_of hr tk (da_cons (d_v 0) (da_cons (d_lst (da_cons (d_neg d_int) (da_cons d_int (da_cons (d_neg d_int) (da_cons d_int da_nil))))) da_nil)))) da_nil))) da_nil))) (da_cons (d_v 6) da_nil))))))))
    (dss_one (ds_ret (d_tuple m_tuple (da_cons (d_v 3) da_nil)))))))
theorem fn_law_order {P : Program} {w : World} {K : PySem.W.Frag} {mg : Str → Option Value} {base : Heap} {k : Nat} (m_len : mg "len" = none) (m_list : mg "list" = none) (m_max : mg "max" = none) (m_min : mg "min" = none) (m_range : mg "range" = none) (m_tuple : mg "tuple" = none) (F_law_any : Fn P w K mg base k "_law_any" s_law_any ["deal", "bound"] sp_law_any) (F_law_mixed : Fn P w K mg base k "_law_mixed" s_law_mixed ["deal", "some"] sp_law_mixed) (F_law_of : Fn P w K mg base k "_law_of" s_law_of ["deal", "some"] sp_law_of) {f : Addr} {fd : FuncData} (F : Fun K "_law_order" "_law_order" s_law_order f fd) (hm : mg "_law_order" = some (.ref f)) : Fn P w K mg base (k + 1) "_law_order" s_law_order ["deal", "many", "like"] sp_law_order :=
  ⟨f, fd, "_law_order", F, hm, dl_fn F sc_law_order (rd_law_order sp_law_any sp_law_mixed sp_law_of) fun cdv A outer s H E B W hr tk => ds_law_order m_len m_list m_max m_min m_range m_tuple F_law_any F_law_mixed F_law_of f cdv A outer s H E B W hr tk⟩
/-! ### law_hall -/
abbrev s_law_hall : Stmt := topS 23
abbrev N_law_hall : List Str := ["deal", "people", "places", "seats", "like", "place", "many", "found"]
theorem sc_law_hall : FnScope N_law_hall ["deal", "people", "places", "seats"] (defScope s_law_hall) := ⟨rfl, rfl, rfl, by decide +kernel, rfl, by decide +kernel, by decide +kernel⟩
theorem b_law_hall : BindP "_law_hall" s_law_hall ["deal", "people", "places", "seats"] := fun _ _ _ _ _ _ _ us hl => match us, hl with | [_, _, _, _], _ => rfl
def rd_law_hall (sp_law_any : SpD) (sp_law_order : SpD) (W : XW) : RS :=
    (sSeq (sPar 6 7 (dCons (dOp oAdd (dC (.int 1)) (dCall sp_law_any W (dCons (dVar 0) (dCons (dVar 1) dNil)))) (dCons (dLstC dNil) dNil)))
    (sSeq (sSet 4 (dIf (dTest (dOp oEq (dCall sp_law_any W (dCons (dVar 0) (dCons (dC (.int 2)) dNil))) (dC (.int 0)))) (dCall sp_law_order W (dCons (dVar 0) (dCons (dVar 6) (dCons (dC .non) dNil)))) (dC .non)))
    (sSeq (sFor (iR1 (dOp oAdd (dC (.int 1)) (dCall sp_law_any W (dCons (dVar 0) (dCons (dVar 2) dNil))))) (gN 5) (sDrop (dMl oApp (dVar 7) (dCons (dTup (dCons (dOp oAdd (dC (.int 1)) (dCall sp_law_any W (dCons (dVar 0) (dCons (dVar 3) dNil)))) (dCons (dCall sp_law_order W (dCons (dVar 0) (dCons (dVar 6) (dCons (dVar 4) dNil)))) dNil))) dNil))))
    (sRet (dCB oTuple (dCons (dVar 7) dNil))))))
def sp_law_hall : SpD := spOf N_law_hall (rd_law_hall sp_law_any sp_law_order)
theorem ds_law_hall {P : Program} {w : World} {K : PySem.W.Frag} {mg : Str → Option Value} {base : Heap} {k : Nat} (m_range : mg "range" = none) (m_tuple : mg "tuple" = none)  {sp_law_any : SpD} {sp_law_order : SpD} (F_law_any : Fn P w K mg base k "_law_any" s_law_any ["deal", "bound"] sp_law_any) (F_law_order : Fn P w K mg base k "_law_order" s_law_order ["deal", "many", "like"] sp_law_order)
    (f : Addr) (cdv : Value) (A : Around) (outer : List Env) (s : Shared) (H : Hp) (E : XK) (B : BS) (W : XW) (hr : Room k (A.deeper (envOfC "_law_hall" (defScope s_law_hall) s.heap.objs.size f cdv)))
    (tk : TakesD (cxOf (L2.CX P w) P w K mg base N_law_hall "_law_hall" (defScope s_law_hall) f cdv A outer s H E) B W) : DSs (cxOf (L2.CX P w) P w K mg base N_law_hall "_law_hall" (defScope s_law_hall) f cdv A outer s H E) B (defBody s_law_hall) (rd_law_hall sp_law_any sp_law_order W) :=
    (dss_cons (ds_par (i := 6) (j := 7) rfl sc_law_hall.nd rfl rfl (by decide) rfl rfl (da_cons (d_add d_int (d_call F_law_any b_law_any hr tk (da_cons (d_v 0) (da_cons (d_v 1) da_nil)))) (da_cons (d_lstC da_nil) da_nil)))
    (dss_cons (ds_set (i := 4) sc_law_hall.nd rfl (.inl rfl) (de_if (dt_eq hr (d_call F_law_any b_law_any hr tk (da_cons (d_v 0) (da_cons d_int da_nil))) d_int) (d_call F_law_order b_law_order hr tk (da_cons (d_v 0) (da_cons (d_v 6) (da_cons d_non da_nil)))) d_non))
    (dss_cons (ds_for (vs := [5]) (passes_of rfl) rfl (di_range1 m_range (d_add d_int (d_call F_law_any b_law_any hr tk (da_cons (d_v 0) (da_cons (d_v 2) da_nil))))) (dg_n (i := 5) sc_law_hall.nd rfl (by first | exact .inl rfl | exact .inr rfl) (by decide)) (dss_one (ds_expr (d_append (d_v 7) (da_cons (d_tup (da_cons (d_add d_int (d_call F_law_any b_law_any hr tk (da_cons (d_v 0) (da_cons (d_v 3) da_nil)))) (da_cons (d_call F_law_order b_law_order hr tk (da_cons (d_v 0) (da_cons (d_v 6) (da_cons (d_v 4) da_nil)))) da_nil))) da_nil)))))
    (dss_one (ds_ret (d_tuple m_tuple (da_cons (d_v 7) da_nil)))))))
theorem fn_law_hall {P : Program} {w : World} {K : PySem.W.Frag} {mg : Str → Option Value} {base : Heap} {k : Nat} (m_range : mg "range" = none) (m_tuple : mg "tuple" = none) (F_law_any : Fn P w K mg base k "_law_any" s_law_any ["deal", "bound"] sp_law_any) (F_law_order : Fn P w K mg base k "_law_order" s_law_order ["deal", "many", "like"] sp_law_order) {f : Addr} {fd : FuncData} (F : Fun K "_law_hall" "_law_hall" s_law_hall f fd) (hm : mg "_law_hall" = some (.ref f)) : Fn P w K mg base (k + 1) "_law_hall" s_law_hall ["deal", "people", "places", "seats"] sp_law_hall :=
  ⟨f, fd, "_law_hall", F, hm, dl_fn F sc_law_hall (rd_law_hall sp_law_any sp_law_order) fun cdv A outer s H E B W hr tk => ds_law_hall m_range m_tuple F_law_any F_law_order f cdv A outer s H E B W hr tk⟩
/-! ### law_list -/
abbrev s_law_list : Stmt := topS 24
abbrev N_law_list : List Str := ["deal", "places", "like", "order", "form", "one"]
theorem sc_law_list : FnScope N_law_list ["deal", "places", "like"] (defScope s_law_list) := ⟨rfl, rfl, rfl, by decide +kernel, rfl, by decide +kernel, by decide +kernel⟩
theorem b_law_list : BindP "_law_list" s_law_list ["deal", "places", "like"] := fun _ _ _ _ _ _ _ us hl => match us, hl with | [_, _, _], _ => rfl
def rd_law_list (sp_law_any : SpD) (sp_law_mixed : SpD) (W : XW) : RS :=
    (sSeq (sSet 3 (dIf (dOr (dTest (dOp (oIs false) (dVar 2) (dC .non))) (dTest (dOp oEq (dCall sp_law_any W (dCons (dVar 0) (dCons (dC (.int 2)) dNil))) (dC (.int 0))))) (dCall sp_law_mixed W (dCons (dVar 0) (dCons (dLstR false (rR1 (dVar 1))) dNil))) (dCB oList (dCons (dVar 2) dNil))))
    (sSeq (sSet 4 (dCall sp_law_any W (dCons (dVar 0) (dCons (dC (.int 4)) dNil))))
    (sRet (dIf (dTest (dOp oLt (dVar 4) (dC (.int 2)))) (dCB oTuple (dCons (dVar 3) dNil)) (dIf (dTest (dOp oEq (dVar 4) (dC (.int 2)))) (dCB oTuple (dCons (dSl oSl (dVar 3) dNo (dPart (dCall sp_law_any W (dCons (dVar 0) (dCons (dOp oAdd (dVar 1) (dC (.int 1))) dNil))))) dNil)) (dCB oTuple (dCons (dLcB false (iSeq (dVar 3)) (gN 5) (dTest (dOp oGt (dCall sp_law_any W0 (dCons (dVar 0) (dCons (dC (.int 3)) dNil))) (dC (.int 0)))) (dVar 5) [5]) dNil)))))))
def sp_law_list : SpD := spOf N_law_list (rd_law_list sp_law_any sp_law_mixed)
theorem ds_law_list {P : Program} {w : World} {K : PySem.W.Frag} {mg : Str → Option Value} {base : Heap} {k : Nat} (m_list : mg "list" = none) (m_range : mg "range" = none) (m_tuple : mg "tuple" = none)  {sp_law_any : SpD} {sp_law_mixed : SpD} (F_law_any : Fn P w K mg base k "_law_any" s_law_any ["deal", "bound"] sp_law_any) (F_law_mixed : Fn P w K mg base k "_law_mixed" s_law_mixed ["deal", "some"] sp_law_mixed)
    (f : Addr) (cdv : Value) (A : Around) (outer : List Env) (s : Shared) (H : Hp) (E : XK) (B : BS) (W : XW) (hr : Room k (A.deeper (envOfC "_law_list" (defScope s_law_list) s.heap.objs.size f cdv)))
    (tk : TakesD (cxOf (L2.CX P w) P w K mg base N_law_list "_law_list" (defScope s_law_list) f cdv A outer s H E) B W) : DSs (cxOf (L2.CX P w) P w K mg base N_law_list "_law_list" (defScope s_law_list) f cdv A outer s H E) B (defBody s_law_list) (rd_law_list sp_law_any sp_law_mixed W) :=
    (dss_cons (ds_set (i := 3) sc_law_list.nd rfl (.inl rfl) (de_if (dw_pt (dw_or (dt_is (d_v 2) d_non) (dw_or1 (dt_eq hr (d_call F_law_any b_law_any hr tk (da_cons (d_v 0) (da_cons d_int da_nil))) d_int)))) (d_call F_law_mixed b_law_mixed hr tk (da_cons (d_v 0) (da_cons (d_listR false rfl m_list (dr_1 m_range (d_v 1))) da_nil))) (d_list m_list (da_cons (d_v 2) da_nil))))
    (dss_cons (ds_set (i := 4) sc_law_list.nd rfl (.inl rfl) (d_call F_law_any b_law_any hr tk (da_cons (d_v 0) (da_cons d_int da_nil))))
    (dss_one (ds_ret (de_if (dt_lt (d_v 4) d_int) (d_tuple m_tuple (da_cons (d_v 3) da_nil)) (de_if (dt_eq hr (d_v 4) d_int) (d_tuple m_tuple (da_cons (d_sl (d_v 3) do_no (do_some (d_call F_law_any b_law_any hr tk (da_cons (d_v 0) (da_cons (d_add (d_v 1) d_int) da_nil))))) da_nil)) (d_tuple m_tuple (da_cons (de_lc false rfl sc_law_list.nd (blk_of (own := [("one", 5)]) (by kernel_rfl)) (di_seq (d_v 3)) (fun _ _ _ _ _ => ⟨(dg_n (i := 5) sc_law_list.nd rfl (by first | exact .inl rfl | exact .inr rfl) (by decide)), (dts_one (dt_gt (d_call F_law_any b_law_any hr takes0D (da_cons (d_v 0) (da_cons d_int da_nil))) d_int)), (d_v 5)⟩)) da_nil))))))))
theorem fn_law_list {P : Program} {w : World} {K : PySem.W.Frag} {mg : Str → Option Value} {base : Heap} {k : Nat} (m_list : mg "list" = none) (m_range : mg "range" = none) (m_tuple : mg "tuple" = none) (F_law_any : Fn P w K mg base k "_law_any" s_law_any ["deal", "bound"] sp_law_any) (F_law_mixed : Fn P w K mg base k "_law_mixed" s_law_mixed ["deal", "some"] sp_law_mixed) {f : Addr} {fd : FuncData} (F : Fun K "_law_list" "_law_list" s_law_list f fd) (hm : mg "_law_list" = some (.ref f)) : Fn P w K mg base (k + 1) "_law_list" s_law_list ["deal", "places", "like"] sp_law_list :=
  ⟨f, fd, "_law_list", F, hm, dl_fn F sc_law_list (rd_law_list sp_law_any sp_law_mixed) fun cdv A outer s H E B W hr tk => ds_law_list m_list m_range m_tuple F_law_any F_law_mixed f cdv A outer s H E B W hr tk⟩
/-! ### law_wishes -/
abbrev s_law_wishes : Stmt := topS 25
abbrev N_law_wishes : List Str := ["deal", "hall", "places", "like", "person"]
theorem sc_law_wishes : FnScope N_law_wishes ["deal", "hall"] (defScope s_law_wishes) := ⟨rfl, rfl, rfl, by decide +kernel, rfl, by decide +kernel, by decide +kernel⟩
theorem b_law_wishes : BindP "_law_wishes" s_law_wishes ["deal", "hall"] := fun _ _ _ _ _ _ _ us hl => match us, hl with | [_, _], _ => rfl
def rd_law_wishes (sp_law_any : SpD) (sp_law_mixed : SpD) (sp_law_list : SpD) (W : XW) : RS :=
    (sSeq (sSet 2 (dCB oLen (dCons (dVar 1) dNil)))
    (sSeq (sSet 3 (dIf (dTest (dOp oEq (dCall sp_law_any W (dCons (dVar 0) (dCons (dC (.int 2)) dNil))) (dC (.int 0)))) (dCall sp_law_mixed W (dCons (dVar 0) (dCons (dLstR false (rR1 (dVar 2))) dNil))) (dC .non)))
    (sRet (dCB oTuple (dCons (dLcB false (iSeq (dOp oIx (dOp oIx (dVar 1) (dC (.int 0))) (dC (.int 1)))) (gN 4) cNil (dCall sp_law_list W0 (dCons (dVar 0) (dCons (dVar 2) (dCons (dVar 3) dNil)))) [4]) dNil)))))
def sp_law_wishes : SpD := spOf N_law_wishes (rd_law_wishes sp_law_any sp_law_mixed sp_law_list)
theorem ds_law_wishes {P : Program} {w : World} {K : PySem.W.Frag} {mg : Str → Option Value} {base : Heap} {k : Nat} (m_len : mg "len" = none) (m_list : mg "list" = none) (m_range : mg "range" = none) (m_tuple : mg "tuple" = none)  {sp_law_any : SpD} {sp_law_mixed : SpD} {sp_law_list : SpD} (F_law_any : Fn P w K mg base k "_law_any" s_law_any ["deal", "bound"] sp_law_any) (F_law_mixed : Fn P w K mg base k "_law_mixed" s_law_mixed ["deal", "some"] sp_law_mixed) (F_law_list : Fn P w K mg base k "_law_list" s_law_list ["deal", "places", "like"] sp_law_list)
    (f : Addr) (cdv : Value) (A : Around) (outer : List Env) (s : Shared) (H : Hp) (E : XK) (B : BS) (W : XW) (hr : Room k (A.deeper (envOfC "_law_wishes" (defScope s_law_wishes) s.heap.objs.size f cdv)))
    (tk : TakesD (cxOf (L2.CX P w) P w K mg base N_law_wishes "_law_wishes" (defScope s_law_wishes) f cdv A outer s H E) B W) : DSs (cxOf (L2.CX P w) P w K mg base N_law_wishes "_law_wishes" (defScope s_law_wishes) f cdv A outer s H E) B (defBody s_law_wishes) (rd_law_wishes sp_law_any sp_law_mixed sp_law_list W) :=
    (dss_cons (ds_set (i := 2) sc_law_wishes.nd rfl (.inr rfl) (d_len m_len (da_cons (d_v 1) da_nil)))
    (dss_cons (ds_set (i := 3) sc_law_wishes.nd rfl (.inr rfl) (de_if (dt_eq hr (d_call F_law_any b_law_any hr tk (da_cons (d_v 0) (da_cons d_int da_nil))) d_int) (d_call F_law_mixed b_law_mixed hr tk (da_cons (d_v 0) (da_cons (d_listR false rfl m_list (dr_1 m_range (d_v 2))) da_nil))) d_non))
    (dss_one (ds_ret (d_tuple m_tuple (da_cons (de_lc false rfl sc_law_wishes.nd (blk_of (own := [("person", 4)]) (by kernel_rfl)) (di_seq (d_ix (d_ix (d_v 1) d_int) d_int)) (fun _ _ _ _ _ => ⟨(dg_n (i := 4) sc_law_wishes.nd rfl (by first | exact .inl rfl | exact .inr rfl) (by decide)), dts_nil, (d_call F_law_list b_law_list hr takes0D (da_cons (d_v 0) (da_cons (d_v 2) (da_cons (d_v 3) da_nil))))⟩)) da_nil))))))
theorem fn_law_wishes {P : Program} {w : World} {K : PySem.W.Frag} {mg : Str → Option Value} {base : Heap} {k : Nat} (m_len : mg "len" = none) (m_list : mg "list" = none) (m_range : mg "range" = none) (m_tuple : mg "tuple" = none) (F_law_any : Fn P w K mg base k "_law_any" s_law_any ["deal", "bound"] sp_law_any) (F_law_mixed : Fn P w K mg base k "_law_mixed" s_law_mixed ["deal", "some"] sp_law_mixed) (F_law_list : Fn P w K mg base k "_law_list" s_law_list ["deal", "places", "like"] sp_law_list) {f : Addr} {fd : FuncData} (F : Fun K "_law_wishes" "_law_wishes" s_law_wishes f fd) (hm : mg "_law_wishes" = some (.ref f)) : Fn P w K mg base (k + 1) "_law_wishes" s_law_wishes ["deal", "hall"] sp_law_wishes :=
  ⟨f, fd, "_law_wishes", F, hm, dl_fn F sc_law_wishes (rd_law_wishes sp_law_any sp_law_mixed sp_law_list) fun cdv A outer s H E B W hr tk => ds_law_wishes m_len m_list m_range m_tuple F_law_any F_law_mixed F_law_list f cdv A outer s H E B W hr tk⟩
/-! ### law_spot -/
abbrev s_law_spot : Stmt := topS 26
abbrev N_law_spot : List Str := ["wished", "x"]
theorem sc_law_spot : FnScope N_law_spot ["wished", "x"] (defScope s_law_spot) := ⟨rfl, rfl, rfl, by decide +kernel, rfl, by decide +kernel, by decide +kernel⟩
theorem b_law_spot : BindP "_law_spot" s_law_spot ["wished", "x"] := fun _ _ _ _ _ _ _ us hl => match us, hl with | [_, _], _ => rfl
def rd_law_spot (W : XW) : RS :=
    (sRet (dIf (dTest (dOp (oIs false) (dVar 1) (dC .non))) (dCB oLen (dCons (dVar 0) dNil)) (dIf (dTest (dOp (oInN false) (dVar 1) (dVar 0))) (dMt oIdxT (dVar 0) (dCons (dVar 1) dNil)) (dOp oAdd (dCB oLen (dCons (dVar 0) dNil)) (dC (.int 1))))))
def sp_law_spot : SpD := spOf N_law_spot (rd_law_spot)
theorem ds_law_spot {P : Program} {w : World} {K : PySem.W.Frag} {mg : Str → Option Value} {base : Heap} {k : Nat} (m_len : mg "len" = none)   
    (f : Addr) (cdv : Value) (A : Around) (outer : List Env) (s : Shared) (H : Hp) (E : XK) (B : BS) (W : XW) (hr : Room k (A.deeper (envOfC "_law_spot" (defScope s_law_spot) s.heap.objs.size f cdv)))
    (tk : TakesD (cxOf (L2.CX P w) P w K mg base N_law_spot "_law_spot" (defScope s_law_spot) f cdv A outer s H E) B W) : DSs (cxOf (L2.CX P w) P w K mg base N_law_spot "_law_spot" (defScope s_law_spot) f cdv A outer s H E) B (defBody s_law_spot) (rd_law_spot W) :=
    (dss_one (ds_ret (de_if (dt_is (d_v 1) d_non) (d_len m_len (da_cons (d_v 0) da_nil)) (de_if (dt_in hr (d_v 1) (d_v 0)) (d_indexT (d_v 0) (da_cons (d_v 1) da_nil)) (d_add (d_len m_len (da_cons (d_v 0) da_nil)) d_int)))))
theorem fn_law_spot {P : Program} {w : World} {K : PySem.W.Frag} {mg : Str → Option Value} {base : Heap} {k : Nat} (m_len : mg "len" = none) {f : Addr} {fd : FuncData} (F : Fun K "_law_spot" "_law_spot" s_law_spot f fd) (hm : mg "_law_spot" = some (.ref f)) : Fn P w K mg base (k + 1) "_law_spot" s_law_spot ["wished", "x"] sp_law_spot :=
  ⟨f, fd, "_law_spot", F, hm, dl_fn F sc_law_spot (rd_law_spot) fun cdv A outer s H E B W hr tk => ds_law_spot m_len  f cdv A outer s H E B W hr tk⟩
/-! ### law_at -/
abbrev s_law_at : Stmt := topS 27
abbrev N_law_at : List Str := ["dealing", "place", "person", "one"]
theorem sc_law_at : FnScope N_law_at ["dealing", "place"] (defScope s_law_at) := ⟨rfl, rfl, rfl, by decide +kernel, rfl, by decide +kernel, by decide +kernel⟩
theorem b_law_at : BindP "_law_at" s_law_at ["dealing", "place"] := fun _ _ _ _ _ _ _ us hl => match us, hl with | [_, _], _ => rfl
def rd_law_at (W : XW) : RS :=
    (sRet (dLcB false (iEnu (dVar 0)) (gTup 2 (gCo (gN 2) (gCo (gN 3) gNi))) (dAnd (dTest (dOp (oIs true) (dVar 3) (dC .non))) (dTest (dOp oEq (dVar 3) (dVar 1)))) (dVar 2) [2, 3]))
def sp_law_at : SpD := spOf N_law_at (rd_law_at)
theorem ds_law_at {P : Program} {w : World} {K : PySem.W.Frag} {mg : Str → Option Value} {base : Heap} {k : Nat} (m_enumerate : mg "enumerate" = none)   
    (f : Addr) (cdv : Value) (A : Around) (outer : List Env) (s : Shared) (H : Hp) (E : XK) (B : BS) (W : XW) (hr : Room k (A.deeper (envOfC "_law_at" (defScope s_law_at) s.heap.objs.size f cdv)))
    (tk : TakesD (cxOf (L2.CX P w) P w K mg base N_law_at "_law_at" (defScope s_law_at) f cdv A outer s H E) B W) : DSs (cxOf (L2.CX P w) P w K mg base N_law_at "_law_at" (defScope s_law_at) f cdv A outer s H E) B (defBody s_law_at) (rd_law_at W) :=
    (dss_one (ds_ret (de_lc false rfl sc_law_at.nd (blk_of (own := [("person", 2), ("one", 3)]) (by kernel_rfl)) (di_enum m_enumerate (d_v 0)) (fun _ _ _ _ _ => ⟨(dg_tupA rfl (dgs_cons (dg_n (i := 2) sc_law_at.nd rfl (by first | exact .inl rfl | exact .inr rfl) (by decide)) (dgs_cons (dg_n (i := 3) sc_law_at.nd rfl (by first | exact .inl rfl | exact .inr rfl) (by decide)) dgs_nil))), (dts_one (dw_pt (dw_and (dt_isNot (d_v 3) d_non) (dw_and1 (dt_eq hr (d_v 3) (d_v 1)))))), (d_v 2)⟩))))
theorem fn_law_at {P : Program} {w : World} {K : PySem.W.Frag} {mg : Str → Option Value} {base : Heap} {k : Nat} (m_enumerate : mg "enumerate" = none) {f : Addr} {fd : FuncData} (F : Fun K "_law_at" "_law_at" s_law_at f fd) (hm : mg "_law_at" = some (.ref f)) : Fn P w K mg base (k + 1) "_law_at" s_law_at ["dealing", "place"] sp_law_at :=
  ⟨f, fd, "_law_at", F, hm, dl_fn F sc_law_at (rd_law_at) fun cdv A outer s H E B W hr tk => ds_law_at m_enumerate  f cdv A outer s H E B W hr tk⟩
/-! ### law_pairs -/
abbrev s_law_pairs : Stmt := topS 28
abbrev N_law_pairs : List Str := ["hall", "wishes", "dealing", "found", "person", "wished", "better", "place", "held", "seats", "order", "one"]
theorem sc_law_pairs : FnScope N_law_pairs ["hall", "wishes", "dealing"] (defScope s_law_pairs) := ⟨rfl, rfl, rfl, by decide +kernel, rfl, by decide +kernel, by decide +kernel⟩
theorem b_law_pairs : BindP "_law_pairs" s_law_pairs ["hall", "wishes", "dealing"] := fun _ _ _ _ _ _ _ us hl => match us, hl with | [_, _, _], _ => rfl
def rd_law_pairs (sp_law_spot : SpD) (sp_law_at : SpD) (W : XW) : RS :=
    (sSeq (sSet 3 (dLstC dNil))
    (sSeq (sFor (iEnu (dVar 1)) (gTup 2 (gCo (gN 4) (gCo (gN 5) gNi))) (sSeq (sSet 6 (dSl oSl (dVar 5) dNo (dPart (dCall sp_law_spot W (dCons (dVar 5) (dCons (dOp oIx (dVar 2) (dVar 4)) dNil))))))
    (sFor (iSeq (dCB oSortA (dCons (dVar 6) dNil))) (gN 7) (sSeq (sAsg (dOp oIx (dVar 0) (dVar 7)) (gTup 2 (gCo (gN 9) (gCo (gN 10) gNi))))
    (sSeq (sSet 8 (dCall sp_law_at W (dCons (dVar 2) (dCons (dVar 7) dNil))))
    (sIf (dOr (dTest (dOp oLt (dCB oLen (dCons (dVar 8) dNil)) (dVar 9))) (dTest (dOp oNe (dLcB false (iSeq (dVar 8)) (gN 11) (dTest (dOp oGt (dMt oIdxT (dVar 10) (dCons (dVar 11) dNil)) (dMt oIdxT (dVar 10) (dCons (dVar 4) dNil)))) (dVar 11) [11]) (dLst dNil)))) (sDrop (dMl oApp (dVar 3) (dCons (dTup (dCons (dVar 4) (dCons (dVar 7) dNil))) dNil))) sNext))))))
    (sRet (dVar 3))))
def sp_law_pairs : SpD := spOf N_law_pairs (rd_law_pairs sp_law_spot sp_law_at)
theorem ds_law_pairs {P : Program} {w : World} {K : PySem.W.Frag} {mg : Str → Option Value} {base : Heap} {k : Nat} (m_enumerate : mg "enumerate" = none) (m_len : mg "len" = none) (m_sorted : mg "sorted" = none)  {sp_law_spot : SpD} {sp_law_at : SpD} (F_law_spot : Fn P w K mg base k "_law_spot" s_law_spot ["wished", "x"] sp_law_spot) (F_law_at : Fn P w K mg base k "_law_at" s_law_at ["dealing", "place"] sp_law_at)
    (f : Addr) (cdv : Value) (A : Around) (outer : List Env) (s : Shared) (H : Hp) (E : XK) (B : BS) (W : XW) (hr : Room k (A.deeper (envOfC "_law_pairs" (defScope s_law_pairs) s.heap.objs.size f cdv)))
    (tk : TakesD (cxOf (L2.CX P w) P w K mg base N_law_pairs "_law_pairs" (defScope s_law_pairs) f cdv A outer s H E) B W) : DSs (cxOf (L2.CX P w) P w K mg base N_law_pairs "_law_pairs" (defScope s_law_pairs) f cdv A outer s H E) B (defBody s_law_pairs) (rd_law_pairs sp_law_spot sp_law_at W) :=
    (dss_cons (ds_set (i := 3) sc_law_pairs.nd rfl (.inl rfl) (d_lstC da_nil))
    (dss_cons (ds_for (vs := [4, 5]) (passes_of rfl) rfl (di_enum m_enumerate (d_v 1)) (dg_tupA rfl (dgs_cons (dg_n (i := 4) sc_law_pairs.nd rfl (by first | exact .inl rfl | exact .inr rfl) (by decide)) (dgs_cons (dg_n (i := 5) sc_law_pairs.nd rfl (by first | exact .inl rfl | exact .inr rfl) (by decide)) dgs_nil))) (dss_cons (ds_set (i := 6) sc_law_pairs.nd rfl (.inl rfl) (d_sl (d_v 5) do_no (do_some (d_call F_law_spot b_law_spot hr tk (da_cons (d_v 5) (da_cons (d_ix (d_v 2) (d_v 4)) da_nil))))))
    (dss_one (ds_for (vs := [7]) (passes_of rfl) rfl (di_seq (d_sortA m_sorted (da_cons (d_v 6) da_nil))) (dg_n (i := 7) sc_law_pairs.nd rfl (by first | exact .inl rfl | exact .inr rfl) (by decide)) (dss_cons (ds_asg (vs := [9, 10]) (d_ix (d_v 0) (d_v 7)) (dg_tupA rfl (dgs_cons (dg_n (i := 9) sc_law_pairs.nd rfl (by first | exact .inl rfl | exact .inr rfl) (by decide)) (dgs_cons (dg_n (i := 10) sc_law_pairs.nd rfl (by first | exact .inl rfl | exact .inr rfl) (by decide)) dgs_nil))))
    (dss_cons (ds_set (i := 8) sc_law_pairs.nd rfl (.inl rfl) (d_call F_law_at b_law_at hr tk (da_cons (d_v 2) (da_cons (d_v 7) da_nil))))
    (dss_one (ds_if (dw_pt (dw_or (dt_lt (d_len m_len (da_cons (d_v 8) da_nil)) (d_v 9)) (dw_or1 (dt_ne hr (de_lc false rfl sc_law_pairs.nd (blk_of (own := [("one", 11)]) (by kernel_rfl)) (di_seq (d_v 8)) (fun _ _ _ _ _ => ⟨(dg_n (i := 11) sc_law_pairs.nd rfl (by first | exact .inl rfl | exact .inr rfl) (by decide)), (dts_one (dt_gt (d_indexT (d_v 10) (da_cons (d_v 11) da_nil)) (d_indexT (d_v 10) (da_cons (d_v 4) da_nil)))), (d_v 11)⟩)) (d_lst da_nil))))) (dss_one (ds_expr (d_append (d_v 3) (da_cons (d_tup (da_cons (d_v 4) (da_cons (d_v 7) da_nil))) da_nil)))) dss_nil))))))))
    (dss_one (ds_ret (d_v 3)))))
theorem fn_law_pairs {P : Program} {w : World} {K : PySem.W.Frag} {mg : Str → Option Value} {base : Heap} {k : Nat} (m_enumerate : mg "enumerate" = none) (m_len : mg "len" = none) (m_sorted : mg "sorted" = none) (F_law_spot : Fn P w K mg base k "_law_spot" s_law_spot ["wished", "x"] sp_law_spot) (F_law_at : Fn P w K mg base k "_law_at" s_law_at ["dealing", "place"] sp_law_at) {f : Addr} {fd : FuncData} (F : Fun K "_law_pairs" "_law_pairs" s_law_pairs f fd) (hm : mg "_law_pairs" = some (.ref f)) : Fn P w K mg base (k + 1) "_law_pairs" s_law_pairs ["hall", "wishes", "dealing"] sp_law_pairs :=
  ⟨f, fd, "_law_pairs", F, hm, dl_fn F sc_law_pairs (rd_law_pairs sp_law_spot sp_law_at) fun cdv A outer s H E B W hr tk => ds_law_pairs m_enumerate m_len m_sorted F_law_spot F_law_at f cdv A outer s H E B W hr tk⟩
/-! ### law_offers -/
abbrev s_law_offers : Stmt := topS 29
abbrev N_law_offers : List Str := ["hall", "wishes", "found", "at", "free", "person", "place", "held", "one", "last"]
theorem sc_law_offers : FnScope N_law_offers ["hall", "wishes"] (defScope s_law_offers) := ⟨rfl, rfl, rfl, by decide +kernel, rfl, by decide +kernel, by decide +kernel⟩
theorem b_law_offers : BindP "_law_offers" s_law_offers ["hall", "wishes"] := fun _ _ _ _ _ _ _ us hl => match us, hl with | [_, _], _ => rfl
def rd_law_offers (sp_law_at : SpD) (W : XW) : RS :=
    (sSeq (sPar3 2 3 4 (dCons (dLcB true (iSeq (dVar 1)) (gN 8) cNil (dC .non) [8]) (dCons (dLcB true (iSeq (dVar 1)) (gN 8) cNil (dC (.int 0)) [8]) (dCons (dLstR true (rR1 (dCB oLen (dCons (dVar 1) dNil)))) dNil))))
    (sSeq (sWhile (dTest (dOp oNe (dVar 4) (dLst dNil))) (sSeq (sSet 5 (dMl0 oPop (dVar 4)))
    (sIf (dTest (dOp oLt (dOp oIx (dVar 3) (dVar 5)) (dCB oLen (dCons (dOp oIx (dVar 1) (dVar 5)) dNil)))) (sSeq (sSet 6 (dOp oIx (dOp oIx (dVar 1) (dVar 5)) (dOp oIx (dVar 3) (dVar 5))))
    (sSeq (sAsg (dOp oAdd (dOp oIx (dVar 3) (dVar 5)) (dC (.int 1))) (gSb (dVar 3) (dVar 5)))
    (sSeq (sAsg (dVar 6) (gSb (dVar 2) (dVar 5)))
    (sSeq (sSet 7 (dCall sp_law_at W (dCons (dVar 2) (dCons (dVar 6) dNil))))
    (sIf (dTest (dOp oGt (dCB oLen (dCons (dVar 7) dNil)) (dOp oIx (dOp oIx (dVar 0) (dVar 6)) (dC (.int 0))))) (sSeq (sSet 9 (dOp oIx (dLcB false (iSeq (dOp oIx (dOp oIx (dVar 0) (dVar 6)) (dC (.int 1)))) (gN 8) (dTest (dOp (oInN false) (dVar 8) (dVar 7))) (dVar 8) [8]) (dUn oNeg (dC (.int 1)))))
    (sSeq (sAsg (dC .non) (gSb (dVar 2) (dVar 9)))
    (sDrop (dMl oApp (dVar 4) (dCons (dVar 9) dNil))))) sNext))))) sNext)))
    (sRet (dCB oTuple (dCons (dVar 2) dNil)))))
def sp_law_offers : SpD := spOf N_law_offers (rd_law_offers sp_law_at)
theorem ds_law_offers {P : Program} {w : World} {K : PySem.W.Frag} {mg : Str → Option Value} {base : Heap} {k : Nat} (m_len : mg "len" = none) (m_list : mg "list" = none) (m_range : mg "range" = none) (m_tuple : mg "tuple" = none)  {sp_law_at : SpD} (F_law_at : Fn P w K mg base k "_law_at" s_law_at ["dealing", "place"] sp_law_at)
    (f : Addr) (cdv : Value) (A : Around) (outer : List Env) (s : Shared) (H : Hp) (E : XK) (B : BS) (W : XW) (hr : Room k (A.deeper (envOfC "_law_offers" (defScope s_law_offers) s.heap.objs.size f cdv)))
    (tk : TakesD (cxOf (L2.CX P w) P w K mg base N_law_offers "_law_offers" (defScope s_law_offers) f cdv A outer s H E) B W) : DSs (cxOf (L2.CX P w) P w K mg base N_law_offers "_law_offers" (defScope s_law_offers) f cdv A outer s H E) B (defBody s_law_offers) (rd_law_offers sp_law_at W) :=
    (dss_cons (ds_par3 (i := 2) (j := 3) (l := 4) rfl sc_law_offers.nd rfl rfl rfl (by decide) (by decide) (by decide) rfl rfl rfl (da_cons (de_lc true rfl sc_law_offers.nd (blk_of (own := [("one", 8)]) (by kernel_rfl)) (di_seq (d_v 1)) (fun _ _ _ _ _ => ⟨(dg_n (i := 8) sc_law_offers.nd rfl (by first | exact .inl rfl | exact .inr rfl) (by decide)), dts_nil, d_non⟩)) (da_cons (de_lc true rfl sc_law_offers.nd (blk_of (own := [("one", 8)]) (by kernel_rfl)) (di_seq (d_v 1)) (fun _ _ _ _ _ => ⟨(dg_n (i := 8) sc_law_offers.nd rfl (by first | exact .inl rfl | exact .inr rfl) (by decide)), dts_nil, d_int⟩)) (da_cons (d_listR true rfl m_list (dr_1 m_range (d_len m_len (da_cons (d_v 1) da_nil)))) da_nil))))
    (dss_cons (ds_while (passes_of rfl) (dt_ne hr (d_v 4) (d_lst da_nil)) (dss_cons (ds_set (i := 5) sc_law_offers.nd rfl (.inl rfl) (d_pop (d_v 4)))
    (dss_one (ds_if (dt_lt (d_ix (d_v 3) (d_v 5)) (d_len m_len (da_cons (d_ix (d_v 1) (d_v 5)) da_nil))) (dss_cons (ds_set (i := 6) sc_law_offers.nd rfl (.inl rfl) (d_ix (d_ix (d_v 1) (d_v 5)) (d_ix (d_v 3) (d_v 5))))
    (dss_cons (ds_asg (vs := []) (d_add (d_ix (d_v 3) (d_v 5)) d_int) (dg_sub (d_v 3) (d_v 5)))
    (dss_cons (ds_asg (vs := []) (d_v 6) (dg_sub (d_v 2) (d_v 5)))
    (dss_cons (ds_set (i := 7) sc_law_offers.nd rfl (.inr rfl) (d_call F_law_at b_law_at hr tk (da_cons (d_v 2) (da_cons (d_v 6) da_nil))))
    (dss_one (ds_if (dt_gt (d_len m_len (da_cons (d_v 7) da_nil)) (d_ix (d_ix (d_v 0) (d_v 6)) d_int)) (dss_cons (ds_set (i := 9) sc_law_offers.nd rfl (.inl rfl) (d_ix (de_lc false rfl sc_law_offers.nd (blk_of (own := [("one", 8)]) (by kernel_rfl)) (di_seq (d_ix (d_ix (d_v 0) (d_v 6)) d_int)) (fun _ _ _ _ _ => ⟨(dg_n (i := 8) sc_law_offers.nd rfl (by first | exact .inl rfl | exact .inr rfl) (by decide)), (dts_one (dt_in hr (d_v 8) (d_v 7))), (d_v 8)⟩)) (d_neg d_int)))
    (dss_cons (ds_asg (vs := []) d_non (dg_sub (d_v 2) (d_v 9)))
    (dss_one (ds_expr (d_append (d_v 4) (da_cons (d_v 9) da_nil)))))) dss_nil)))))) dss_nil))))
    (dss_one (ds_ret (d_tuple m_tuple (da_cons (d_v 2) da_nil))))))
theorem fn_law_offers {P : Program} {w : World} {K : PySem.W.Frag} {mg : Str → Option Value} {base : Heap} {k : Nat} (m_len : mg "len" = none) (m_list : mg "list" = none) (m_range : mg "range" = none) (m_tuple : mg "tuple" = none) (F_law_at : Fn P w K mg base k "_law_at" s_law_at ["dealing", "place"] sp_law_at) {f : Addr} {fd : FuncData} (F : Fun K "_law_offers" "_law_offers" s_law_offers f fd) (hm : mg "_law_offers" = some (.ref f)) : Fn P w K mg base (k + 1) "_law_offers" s_law_offers ["hall", "wishes"] sp_law_offers :=
  ⟨f, fd, "_law_offers", F, hm, dl_fn F sc_law_offers (rd_law_offers sp_law_at) fun cdv A outer s H E B W hr tk => ds_law_offers m_len m_list m_range m_tuple F_law_at f cdv A outer s H E B W hr tk⟩
/-! ### law_dealing -/
abbrev s_law_dealing : Stmt := topS 30
abbrev N_law_dealing : List Str := ["deal", "hall", "wishes", "form", "found", "turn", "person", "place", "one"]
theorem sc_law_dealing : FnScope N_law_dealing ["deal", "hall", "wishes"] (defScope s_law_dealing) := ⟨rfl, rfl, rfl, by decide +kernel, rfl, by decide +kernel, by decide +kernel⟩
theorem b_law_dealing : BindP "_law_dealing" s_law_dealing ["deal", "hall", "wishes"] := fun _ _ _ _ _ _ _ us hl => match us, hl with | [_, _, _], _ => rfl
def rd_law_dealing (sp_law_any : SpD) (sp_law_offers : SpD) (sp_law_of : SpD) (sp_law_at : SpD) (W : XW) : RS :=
    (sSeq (sSet 3 (dCall sp_law_any W (dCons (dVar 0) (dCons (dC (.int 4)) dNil))))
    (sSeq (sSet 4 (dIf (dTest (dOp oLt (dVar 3) (dC (.int 2)))) (dCB oListC (dCons (dCall sp_law_offers W (dCons (dVar 1) (dCons (dVar 2) dNil))) dNil)) (dLcB true (iSeq (dVar 2)) (gN 8) cNil (dC .non) [8])))
    (sSeq (sFor (iR1 (dIf (dTest (dOp oLt (dVar 3) (dC (.int 2)))) (dCall sp_law_of W (dCons (dVar 0) (dCons (dLst (dCons (dC (.int 0)) (dCons (dC (.int 1)) (dCons (dC (.int 3)) dNil)))) dNil))) (dOp oMul (dC (.int 2)) (dCB oLen (dCons (dVar 2) dNil))))) (gN 5) (sSeq (sSet 6 (dCall sp_law_any W (dCons (dVar 0) (dCons (dCB oLen (dCons (dVar 2) dNil)) dNil))))
    (sSeq (sSet 7 (dCall sp_law_of W (dCons (dVar 0) (dCons (dOp oAdd (dCB oList (dCons (dOp oIx (dVar 2) (dVar 6)) dNil)) (dLst (dCons (dC .non) dNil))) dNil))))
    (sSeq (sAsg (dC .non) (gSb (dVar 4) (dVar 6)))
    (sIf (dAnd (dTest (dOp (oIs true) (dVar 7) (dC .non))) (dTest (dOp oLt (dCB oLen (dCons (dCall sp_law_at W (dCons (dVar 4) (dCons (dVar 7) dNil))) dNil)) (dOp oIx (dOp oIx (dVar 1) (dVar 7)) (dC (.int 0)))))) (sAsg (dVar 7) (gSb (dVar 4) (dVar 6))) sNext)))))
    (sRet (dCB oTuple (dCons (dVar 4) dNil))))))
def sp_law_dealing : SpD := spOf N_law_dealing (rd_law_dealing sp_law_any sp_law_offers sp_law_of sp_law_at)
theorem ds_law_dealing {P : Program} {w : World} {K : PySem.W.Frag} {mg : Str → Option Value} {base : Heap} {k : Nat} (m_len : mg "len" = none) (m_list : mg "list" = none) (m_range : mg "range" = none) (m_tuple : mg "tuple" = none)  {sp_law_any : SpD} {sp_law_offers : SpD} {sp_law_of : SpD} {sp_law_at : SpD} (F_law_any : Fn P w K mg base k "_law_any" s_law_any ["deal", "bound"] sp_law_any) (F_law_offers : Fn P w K mg base k "_law_offers" s_law_offers ["hall", "wishes"] sp_law_offers) (F_law_of : Fn P w K mg base k "_law_of" s_law_of ["deal", "some"] sp_law_of) (F_law_at : Fn P w K mg base k "_law_at" s_law_at ["dealing", "place"] sp_law_at)
    (f : Addr) (cdv : Value) (A : Around) (outer : List Env) (s : Shared) (H : Hp) (E : XK) (B : BS) (W : XW) (hr : Room k (A.deeper (envOfC "_law_dealing" (defScope s_law_dealing) s.heap.objs.size f cdv)))
    (tk : TakesD (cxOf (L2.CX P w) P w K mg base N_law_dealing "_law_dealing" (defScope s_law_dealing) f cdv A outer s H E) B W) : DSs (cxOf (L2.CX P w) P w K mg base N_law_dealing "_law_dealing" (defScope s_law_dealing) f cdv A outer s H E) B (defBody s_law_dealing) (rd_law_dealing sp_law_any sp_law_offers sp_law_of sp_law_at W) :=
    (dss_cons (ds_set (i := 3) sc_law_dealing.nd rfl (.inl rfl) (d_call F_law_any b_law_any hr tk (da_cons (d_v 0) (da_cons d_int da_nil))))
    (dss_cons (ds_set (i := 4) sc_law_dealing.nd rfl (.inl rfl) (de_if (dt_lt (d_v 3) d_int) (d_listC m_list (da_cons (d_call F_law_offers b_law_offers hr tk (da_cons (d_v 1) (da_cons (d_v 2) da_nil))) da_nil)) (de_lc true rfl sc_law_dealing.nd (blk_of (own := [("one", 8)]) (by kernel_rfl)) (di_seq (d_v 2)) (fun _ _ _ _ _ => ⟨(dg_n (i := 8) sc_law_dealing.nd rfl (by first | exact .inl rfl | exact .inr rfl) (by decide)), dts_nil, d_non⟩))))
    (dss_cons (ds_for (vs := [5]) (passes_of rfl) rfl (di_range1 m_range (de_if (dt_lt (d_v 3) d_int) (d_call F_law_of b_law_of hr tk (da_cons (d_v 0) (da_cons (d_lst (da_cons d_int (da_cons d_int (da_cons d_int da_nil)))) da_nil))) (d_mul d_int (d_len m_len (da_cons (d_v 2) da_nil))))) (dg_n (i := 5) sc_law_dealing.nd rfl (by first | exact .inl rfl | exact .inr rfl) (by decide)) (dss_cons (ds_set (i := 6) sc_law_dealing.nd rfl (.inl rfl) (d_call F_law_any b_law_any hr tk (da_cons (d_v 0) (da_cons (d_len m_len (da_cons (d_v 2) da_nil)) da_nil))))
    (dss_cons (ds_set (i := 7) sc_law_dealing.nd rfl (.inl rfl) (d_call F_law_of b_law_of hr tk (da_cons (d_v 0) (da_cons (d_add (d_list m_list (da_cons (d_ix (d_v 2) (d_v 6)) da_nil)) (d_lst (da_cons d_non da_nil))) da_nil))))
    (dss_cons (ds_asg (vs := []) d_non (dg_sub (d_v 4) (d_v 6)))
    (dss_one (ds_if (dw_pt (dw_and (dt_isNot (d_v 7) d_non) (dw_and1 (dt_lt (d_len m_len (da_cons (d_call F_law_at b_law_at hr tk (da_cons (d_v 4) (da_cons (d_v 7) da_nil))) da_nil)) (d_ix (d_ix (d_v 1) (d_v 7)) d_int))))) (dss_one (ds_asg (vs := []) (d_v 7) (dg_sub (d_v 4) (d_v 6)))) dss_nil))))))
    (dss_one (ds_ret (d_tuple m_tuple (da_cons (d_v 4) da_nil)))))))
theorem fn_law_dealing {P : Program} {w : World} {K : PySem.W.Frag} {mg : Str → Option Value} {base : Heap} {k : Nat} (m_len : mg "len" = none) (m_list : mg "list" = none) (m_range : mg "range" = none) (m_tuple : mg "tuple" = none) (F_law_any : Fn P w K mg base k "_law_any" s_law_any ["deal", "bound"] sp_law_any) (F_law_offers : Fn P w K mg base k "_law_offers" s_law_offers ["hall", "wishes"] sp_law_offers) (F_law_of : Fn P w K mg base k "_law_of" s_law_of ["deal", "some"] sp_law_of) (F_law_at : Fn P w K mg base k "_law_at" s_law_at ["dealing", "place"] sp_law_at) {f : Addr} {fd : FuncData} (F : Fun K "_law_dealing" "_law_dealing" s_law_dealing f fd) (hm : mg "_law_dealing" = some (.ref f)) : Fn P w K mg base (k + 1) "_law_dealing" s_law_dealing ["deal", "hall", "wishes"] sp_law_dealing :=
  ⟨f, fd, "_law_dealing", F, hm, dl_fn F sc_law_dealing (rd_law_dealing sp_law_any sp_law_offers sp_law_of sp_law_at) fun cdv A outer s H E B W hr tk => ds_law_dealing m_len m_list m_range m_tuple F_law_any F_law_offers F_law_of F_law_at f cdv A outer s H E B W hr tk⟩
/-! ### law -/
abbrev s_law : Stmt := topS 31
abbrev N_law : List Str := ["script", "deal", "hall", "turn", "wishes", "many", "places", "dealing", "pairs", "look", "pair", "near", "value", "due"]
theorem sc_law : FnScope N_law ["script"] (defScope s_law) := ⟨rfl, rfl, rfl, by decide +kernel, rfl, by decide +kernel, by decide +kernel⟩
theorem b_law : BindP "law" s_law ["script"] := fun _ _ _ _ _ _ _ us hl => match us, hl with | [_], _ => rfl
theorem bk_blocking_pairs_0_dealing_wishes_hall : BindK "blocking_pairs" s_blocking_pairs ["hall", "wishes", "dealing"] ["dealing", "wishes", "hall"] 0 [2, 1, 0] := fun _ _ _ _ _ _ _ us ws h1 h2 => match us, ws, h1, h2 with | [], [_, _, _], _, _ => rfl
theorem bk_blocks_0_value_dealing_wishes_hall : BindK "blocks" s_blocks ["hall", "wishes", "dealing", "value"] ["value", "dealing", "wishes", "hall"] 0 [3, 2, 1, 0] := fun _ _ _ _ _ _ _ us ws h1 h2 => match us, ws, h1, h2 with | [], [_, _, _, _], _, _ => rfl
def rd_law (sp_law_draw : SpD) (sp_law_of : SpD) (sp_law_hall : SpD) (sp_law_wishes : SpD) (sp_law_dealing : SpD) (sp_law_pairs : SpD) (sp_law_same : SpD) (sp_blocking_pairs : SpD) (sp_law_any : SpD) (sp_blocks : SpD) (W : XW) : RS :=
    (sSeq (sSet 1 (dCall sp_law_draw W (dCons (dVar 0) (dCons (dC (.int 4)) dNil))))
    (sSeq (sSet 2 (dCall sp_law_of W (dCons (dVar 1) (dCons (dLst (dCons (dCall sp_law_hall W (dCons (dVar 1) (dCons (dC (.int 40)) (dCons (dC (.int 12)) (dCons (dC (.int 20)) dNil))))) (dCons (dCall sp_law_hall W (dCons (dVar 1) (dCons (dC (.int 8)) (dCons (dC (.int 4)) (dCons (dC (.int 3)) dNil))))) (dCons (dCall sp_law_hall W (dCons (dVar 1) (dCons (dC (.int 6)) (dCons (dC (.int 4)) (dCons (dC (.int 2)) dNil))))) dNil)))) dNil))))
    (sSeq (sPar3 4 5 6 (dCons (dCall sp_law_wishes W (dCons (dVar 1) (dCons (dVar 2) dNil))) (dCons (dCB oLen (dCons (dOp oIx (dOp oIx (dVar 2) (dC (.int 0))) (dC (.int 1))) dNil)) (dCons (dCB oLen (dCons (dVar 2) dNil)) dNil))))
    (sSeq (sFor (iR1 (dC (.int 3))) (gN 3) (sSeq (sSet 7 (dCall sp_law_dealing W (dCons (dVar 1) (dCons (dVar 2) (dCons (dVar 4) dNil)))))
    (sSeq (sSet 8 (dCall sp_law_pairs W (dCons (dVar 2) (dCons (dVar 4) (dCons (dVar 7) dNil)))))
    (sSeq (sIf (dNot (dTest (dCall sp_law_same W (dCons (dCallK sp_blocking_pairs [2, 1, 0] W dNil (dCons (dVar 7) (dCons (dVar 4) (dCons (dVar 2) dNil)))) (dCons (dCB oTuple (dCons (dVar 8) dNil)) dNil))))) (sRet (dC (.bl false))) sNext)
    (sFor (iR1 (dC (.int 3))) (gN 9) (sSeq (sSet 10 (dIf (dAnd (dTest (dOp oNe (dVar 8) (dLst dNil))) (dTest (dOp oEq (dCall sp_law_any W (dCons (dVar 1) (dCons (dC (.int 2)) dNil))) (dC (.int 0))))) (dCall sp_law_of W (dCons (dVar 1) (dCons (dVar 8) dNil))) (dTup (dCons (dCall sp_law_any W (dCons (dVar 1) (dCons (dVar 5) dNil))) (dCons (dCall sp_law_any W (dCons (dVar 1) (dCons (dVar 6) dNil))) dNil)))))
    (sSeq (sSet 11 (dLst (dCons (dVar 10) (dCons (dVar 10) (dCons (dVar 10) (dCons (dCB oList (dCons (dVar 10) dNil)) (dCons (dSl oSl (dVar 10) dNo (dPart (dC (.int 1)))) (dCons (dOp oAdd (dVar 10) (dTup (dCons (dC (.int 0)) dNil))) (dCons (dTup (dCons (dOp oIx (dVar 10) (dC (.int 0))) (dCons (dVar 6) dNil))) (dCons (dTup (dCons (dVar 5) (dCons (dOp oIx (dVar 10) (dC (.int 1))) dNil))) (dCons (dTup (dCons (dUn oNeg (dC (.int 1))) (dCons (dOp oIx (dVar 10) (dC (.int 1))) dNil))) (dCons (dTup (dCons (dOp oIx (dVar 10) (dC (.int 0))) (dCons (dC .non) dNil))) (dCons (dC .non) (dCons (dC (.int 0)) dNil))))))))))))))
    (sSeq (sSet 11 (dOp oAdd (dVar 11) (dLst (dCons (dTup (dCons (dOp oEq (dOp oIx (dVar 10) (dC (.int 0))) (dC (.int 1))) (dCons (dOp oIx (dVar 10) (dC (.int 1))) dNil))) (dCons (dTup (dCons (dOp oIx (dVar 10) (dC (.int 0))) (dCons (dOp oEq (dOp oIx (dVar 10) (dC (.int 1))) (dC (.int 1))) dNil))) (dCons (dTup (dCons (dCB oStrI (dCons (dOp oIx (dVar 10) (dC (.int 0))) dNil)) (dCons (dOp oIx (dVar 10) (dC (.int 1))) dNil))) (dCons (dTup (dCons (dOp oIx (dVar 10) (dC (.int 0))) (dCons (dTup (dCons (dOp oIx (dVar 10) (dC (.int 1))) dNil)) dNil))) dNil)))))))
    (sSeq (sSet 12 (dCall sp_law_of W (dCons (dVar 1) (dCons (dVar 11) dNil))))
    (sSeq (sSet 13 (dAndV (dIsi "tuple" (dVar 12)) (dAndV (dOp oEq (dCB oLen (dCons (dVar 12) dNil)) (dC (.int 2))) (dAndV (dNotV (dIsi "bool" (dOp oIx (dVar 12) (dC (.int 0))))) (dAndV (dNotV (dIsi "bool" (dOp oIx (dVar 12) (dC (.int 1))))) (dOp (oInN false) (dVar 12) (dVar 8)))))))
    (sIf (dNot (dTest (dCall sp_law_same W (dCons (dCallK sp_blocks [3, 2, 1, 0] W dNil (dCons (dVar 12) (dCons (dVar 7) (dCons (dVar 4) (dCons (dVar 2) dNil))))) (dCons (dVar 13) dNil))))) (sRet (dC (.bl false))) sNext)))))))))))
    (sRet (dC (.bl true)))))))
def sp_law : SpD := spOf N_law (rd_law sp_law_draw sp_law_of sp_law_hall sp_law_wishes sp_law_dealing sp_law_pairs sp_law_same sp_blocking_pairs sp_law_any sp_blocks)
theorem ds_law {P : Program} {w : World} {K : PySem.W.Frag} {mg : Str → Option Value} {base : Heap} {k : Nat} (m_bool : mg "bool" = none) (m_isinstance : mg "isinstance" = none) (m_len : mg "len" = none) (m_list : mg "list" = none) (m_range : mg "range" = none) (m_str : mg "str" = none) (m_tuple : mg "tuple" = none)  {sp_law_draw : SpD} {sp_law_of : SpD} {sp_law_hall : SpD} {sp_law_wishes : SpD} {sp_law_dealing : SpD} {sp_law_pairs : SpD} {sp_law_same : SpD} {sp_blocking_pairs : SpD} {sp_law_any : SpD} {sp_blocks : SpD} (F_law_draw : Fn P w K mg base k "_law_draw" s_law_draw ["script", "salt"] sp_law_draw) (F_law_of : Fn P w K mg base k "_law_of" s_law_of ["deal", "some"] sp_law_of) (F_law_hall : Fn P w K mg base k "_law_hall" s_law_hall ["deal", "people", "places", "seats"] sp_law_hall) (F_law_wishes : Fn P w K mg base k "_law_wishes" s_law_wishes ["deal", "hall"] sp_law_wishes) (F_law_dealing : Fn P w K mg base k "_law_dealing" s_law_dealing ["deal", "hall", "wishes"] sp_law_dealing) (F_law_pairs : Fn P w K mg base k "_law_pairs" s_law_pairs ["hall", "wishes", "dealing"] sp_law_pairs) (F_law_same : Fn P w K mg base k "_law_same" s_law_same ["value", "due"] sp_law_same) (F_blocking_pairs : Fn P w K mg base k "blocking_pairs" s_blocking_pairs ["hall", "wishes", "dealing"] sp_blocking_pairs) (F_law_any : Fn P w K mg base k "_law_any" s_law_any ["deal", "bound"] sp_law_any) (F_blocks : Fn P w K mg base k "blocks" s_blocks ["hall", "wishes", "dealing", "value"] sp_blocks)
    (f : Addr) (cdv : Value) (A : Around) (outer : List Env) (s : Shared) (H : Hp) (E : XK) (B : BS) (W : XW) (hr : Room k (A.deeper (envOfC "law" (defScope s_law) s.heap.objs.size f cdv)))
    (tk : TakesD (cxOf (L2.CX P w) P w K mg base N_law "law" (defScope s_law) f cdv A outer s H E) B W) : DSs (cxOf (L2.CX P w) P w K mg base N_law "law" (defScope s_law) f cdv A outer s H E) B (defBody s_law) (rd_law sp_law_draw sp_law_of sp_law_hall sp_law_wishes sp_law_dealing sp_law_pairs sp_law_same sp_blocking_pairs sp_law_any sp_blocks W) :=
    (dss_cons (ds_set (i := 1) sc_law.nd rfl (.inl rfl) (d_call F_law_draw b_law_draw hr tk (da_cons (d_v 0) (da_cons d_int da_nil))))
    (dss_cons (ds_set (i := 2) sc_law.nd rfl (.inl rfl) (d_call F_law_of b_law_of hr tk (da_cons (d_v 1) (da_cons (d_lst (da_cons (d_call F_law_hall b_law_hall hr tk (da_cons (d_v 1) (da_cons d_int (da_cons d_int (da_cons d_int da_nil))))) (da_cons (d_call F_law_hall b_law_hall hr tk (da_cons (d_v 1) (da_cons d_int (da_cons d_int (da_cons d_int da_nil))))) (da_cons (d_call F_law_hall b_law_hall hr tk (da_cons (d_v 1) (da_cons d_int (da_cons d_int (da_cons d_int da_nil))))) da_nil)))) da_nil))))
    (dss_cons (ds_par3 (i := 4) (j := 5) (l := 6) rfl sc_law.nd rfl rfl rfl (by decide) (by decide) (by decide) rfl rfl rfl (da_cons (d_call F_law_wishes b_law_wishes hr tk (da_cons (d_v 1) (da_cons (d_v 2) da_nil))) (da_cons (d_len m_len (da_cons (d_ix (d_ix (d_v 2) d_int) d_int) da_nil)) (da_cons (d_len m_len (da_cons (d_v 2) da_nil)) da_nil))))
    (dss_cons (ds_for (vs := [3]) (passes_of rfl) rfl (di_range1 m_range d_int) (dg_n (i := 3) sc_law.nd rfl (by first | exact .inl rfl | exact .inr rfl) (by decide)) (dss_cons (ds_set (i := 7) sc_law.nd rfl (.inl rfl) (d_call F_law_dealing b_law_dealing hr tk (da_cons (d_v 1) (da_cons (d_v 2) (da_cons (d_v 4) da_nil)))))
    (dss_cons (ds_set (i := 8) sc_law.nd rfl (.inl rfl) (d_call F_law_pairs b_law_pairs hr tk (da_cons (d_v 2) (da_cons (d_v 4) (da_cons (d_v 7) da_nil)))))
    (dss_cons (ds_if (dt_not (d_val (d_call F_law_same b_law_same hr tk (da_cons (d_callK0 F_blocking_pairs bk_blocking_pairs_0_dealing_wishes_hall hr tk (dk_cons (d_v 7) (dk_cons (d_v 4) (dk_cons (d_v 2) dk_nil)))) (da_cons (d_tuple m_tuple (da_cons (d_v 8) da_nil)) da_nil))))) (dss_one (ds_ret d_bl)) dss_nil)
    (dss_one (ds_for (vs := [9]) (passes_of rfl) rfl (di_range1 m_range d_int) (dg_n (i := 9) sc_law.nd rfl (by first | exact .inl rfl | exact .inr rfl) (by decide)) (dss_cons (ds_set (i := 10) sc_law.nd rfl (.inl rfl) (de_if (dw_pt (dw_and (dt_ne hr (d_v 8) (d_lst da_nil)) (dw_and1 (dt_eq hr (d_call F_law_any b_law_any hr tk (da_cons (d_v 1) (da_cons d_int da_nil))) d_int)))) (d_call F_law_of b_law_of hr tk (da_cons (d_v 1) (da_cons (d_v 8) da_nil))) (d_tup (da_cons (d_call F_law_any b_law_any hr tk (da_cons (d_v 1) (da_cons (d_v 5) da_nil))) (da_cons (d_call F_law_any b_law_any hr tk (da_cons (d_v 1) (da_cons (d_v 6) da_nil))) da_nil)))))
    (dss_cons (ds_set (i := 11) sc_law.nd rfl (.inl rfl) (d_lst (da_cons (d_v 10) (da_cons (d_v 10) (da_cons (d_v 10) (da_cons (d_list m_list (da_cons (d_v 10) da_nil)) (da_cons (d_sl (d_v 10) do_no (do_some d_int)) (da_cons (d_add (d_v 10) (d_tup (da_cons d_int da_nil))) (da_cons (d_tup (da_cons (d_ix (d_v 10) d_int) (da_cons (d_v 6) da_nil))) (da_cons (d_tup (da_cons (d_v 5) (da_cons (d_ix (d_v 10) d_int) da_nil))) (da_cons (d_tup (da_cons (d_neg d_int) (da_cons (d_ix (d_v 10) d_int) da_nil))) (da_cons (d_tup (da_cons (d_ix (d_v 10) d_int) (da_cons d_non da_nil))) (da_cons d_non (da_cons d_int da_nil))))))))))))))
    (dss_cons (ds_set (i := 11) sc_law.nd rfl (.inl rfl) (d_add (d_v 11) (d_lst (da_cons (d_tup (da_cons (d_eq hr (d_ix (d_v 10) d_int) d_int) (da_cons (d_ix (d_v 10) d_int) da_nil))) (da_cons (d_tup (da_cons (d_ix (d_v 10) d_int) (da_cons (d_eq hr (d_ix (d_v 10) d_int) d_int) da_nil))) (da_cons (d_tup (da_cons (d_strI m_str (da_cons (d_ix (d_v 10) d_int) da_nil)) (da_cons (d_ix (d_v 10) d_int) da_nil))) (da_cons (d_tup (da_cons (d_ix (d_v 10) d_int) (da_cons (d_tup (da_cons (d_ix (d_v 10) d_int) da_nil)) da_nil))) da_nil)))))))
    (dss_cons (ds_set (i := 12) sc_law.nd rfl (.inl rfl) (d_call F_law_of b_law_of hr tk (da_cons (d_v 1) (da_cons (d_v 11) da_nil))))
    (dss_cons (ds_set (i := 13) sc_law.nd rfl (.inl rfl) (de_and (d_isi m_isinstance (d_v 12) m_tuple (by decide +kernel)) (de_and (d_eq hr (d_len m_len (da_cons (d_v 12) da_nil)) d_int) (de_and (de_not (d_isi m_isinstance (d_ix (d_v 12) d_int) m_bool (by decide +kernel))) (de_and (de_not (d_isi m_isinstance (d_ix (d_v 12) d_int) m_bool (by decide +kernel))) (de_one (d_in hr (d_v 12) (d_v 8))))))))
    (dss_one (ds_if (dt_not (d_val (d_call F_law_same b_law_same hr tk (da_cons (d_callK0 F_blocks bk_blocks_0_value_dealing_wishes_hall hr tk (dk_cons (d_v 12) (dk_cons (d_v 7) (dk_cons (d_v 4) (dk_cons (d_v 2) dk_nil))))) (da_cons (d_v 13) da_nil))))) (dss_one (ds_ret d_bl)) dss_nil)))))))))))))
    (dss_one (ds_ret d_bl))))))
theorem fn_law {P : Program} {w : World} {K : PySem.W.Frag} {mg : Str → Option Value} {base : Heap} {k : Nat} (m_bool : mg "bool" = none) (m_isinstance : mg "isinstance" = none) (m_len : mg "len" = none) (m_list : mg "list" = none) (m_range : mg "range" = none) (m_str : mg "str" = none) (m_tuple : mg "tuple" = none) (F_law_draw : Fn P w K mg base k "_law_draw" s_law_draw ["script", "salt"] sp_law_draw) (F_law_of : Fn P w K mg base k "_law_of" s_law_of ["deal", "some"] sp_law_of) (F_law_hall : Fn P w K mg base k "_law_hall" s_law_hall ["deal", "people", "places", "seats"] sp_law_hall) (F_law_wishes : Fn P w K mg base k "_law_wishes" s_law_wishes ["deal", "hall"] sp_law_wishes) (F_law_dealing : Fn P w K mg base k "_law_dealing" s_law_dealing ["deal", "hall", "wishes"] sp_law_dealing) (F_law_pairs : Fn P w K mg base k "_law_pairs" s_law_pairs ["hall", "wishes", "dealing"] sp_law_pairs) (F_law_same : Fn P w K mg base k "_law_same" s_law_same ["value", "due"] sp_law_same) (F_blocking_pairs : Fn P w K mg base k "blocking_pairs" s_blocking_pairs ["hall", "wishes", "dealing"] sp_blocking_pairs) (F_law_any : Fn P w K mg base k "_law_any" s_law_any ["deal", "bound"] sp_law_any) (F_blocks : Fn P w K mg base k "blocks" s_blocks ["hall", "wishes", "dealing", "value"] sp_blocks) {f : Addr} {fd : FuncData} (F : Fun K "law" "law" s_law f fd) (hm : mg "law" = some (.ref f)) : Fn P w K mg base (k + 1) "law" s_law ["script"] sp_law :=
  ⟨f, fd, "law", F, hm, dl_fn F sc_law (rd_law sp_law_draw sp_law_of sp_law_hall sp_law_wishes sp_law_dealing sp_law_pairs sp_law_same sp_blocking_pairs sp_law_any sp_blocks) fun cdv A outer s H E B W hr tk => ds_law m_bool m_isinstance m_len m_list m_range m_str m_tuple F_law_draw F_law_of F_law_hall F_law_wishes F_law_dealing F_law_pairs F_law_same F_blocking_pairs F_law_any F_blocks f cdv A outer s H E B W hr tk⟩
/-! ### the drawing -/
structure Deal (n m : Nat) (cs : List Int) (b : Int) (C : Cs) : Prop where
  dn : C[n]? = some (.lst [.cel m, .int b])
  dm : C[m]? = some (.lst (cs.map D.int))
  ne : n ≠ m
def putD (n m : Nat) (cs : List Int) (b : Int) (C : Cs) : Cs := (C.set m (.lst (cs.map D.int))).set n (.lst [.cel m, .int b])
theorem Deal.put {n m : Nat} {cs cs' : List Int} {b b' : Int} {C : Cs} (d : Deal n m cs b C) : Deal n m cs' b' (putD n m cs' b' C) := by
  have h1 := (List.getElem?_eq_some_iff.mp d.dn).1
  have h2 := (List.getElem?_eq_some_iff.mp d.dm).1
  refine ⟨by simp [putD, h1], ?_, d.ne⟩
  unfold putD
  rw [List.getElem?_set_ne d.ne]
  simp [h2]
theorem putD_len {n m : Nat} {cs : List Int} {b : Int} {C : Cs} : (putD n m cs b C).length = C.length := by simp [putD]
theorem putD_put {n m : Nat} {cs cs' : List Int} {b b' : Int} {C : Cs} (hne : n ≠ m) : putD n m cs b (putD n m cs' b' C) = putD n m cs b C := by
  unfold putD
  rw [List.set_comm (l := C.set m _) _ _ hne, List.set_set, List.set_set]
theorem putD_self {n m : Nat} {cs : List Int} {b : Int} {C : Cs} (d : Deal n m cs b C) : putD n m cs b C = C := by
  unfold putD
  have e : C.set m (.lst (cs.map D.int)) = C := by
    refine List.ext_getElem? fun i => ?_
    rw [List.getElem?_set]
    by_cases h : m = i
    · subst h
      rw [if_pos rfl, if_pos (List.getElem?_eq_some_iff.mp d.dm).1, d.dm]
    · rw [if_neg h]
  rw [e]
  refine List.ext_getElem? fun i => ?_
  rw [List.getElem?_set]
  by_cases h : n = i
  · subst h
    rw [if_pos rfl, if_pos (List.getElem?_eq_some_iff.mp d.dn).1, d.dn]
  · rw [if_neg h]
theorem putD_get {n m k : Nat} {cs : List Int} {b : Int} {C : Cs} (h1 : k ≠ n) (h2 : k ≠ m) : (putD n m cs b C)[k]? = C[k]? := by
  unfold putD
  rw [List.getElem?_set_ne h1.symm, List.getElem?_set_ne h2.symm]
theorem putD_app {n m : Nat} {cs : List Int} {b : Int} {C D : Cs} (h1 : n < C.length) (h2 : m < C.length) : putD n m cs b (C ++ D) = putD n m cs b C ++ D := by
  unfold putD
  rw [List.set_append_left _ _ h2, List.set_append_left _ _ (by simpa using h1)]
theorem putD_lo {n m : Nat} {cs : List Int} {b : Int} {C : Cs} {k : Nat} (h : loCs k C = true) (hm : m < k) : loCs k (putD n m cs b C) = true := by
  refine List.all_eq_true.mpr fun c hc => ?_
  rcases List.mem_or_eq_of_mem_set hc with hc | rfl
  · rcases List.mem_or_eq_of_mem_set hc with hc | rfl
    · exact List.all_eq_true.mp h c hc
    · exact los_ints k cs
  · show (decide (m < k) && (DL.lo k (.int b) && true)) = true
    simp [DL.lo, hm]
theorem Deal.ln {n m : Nat} {cs : List Int} {b : Int} {C : Cs} (d : Deal n m cs b C) : n < C.length := (List.getElem?_eq_some_iff.mp d.dn).1
theorem Deal.lm {n m : Nat} {cs : List Int} {b : Int} {C : Cs} (d : Deal n m cs b C) : m < C.length := (List.getElem?_eq_some_iff.mp d.dm).1
theorem Deal.sn {n m : Nat} {cs : List Int} {b : Int} {C : Cs} (d : Deal n m cs b C) : sqD C (.cel n) = some [.cel m, .int b] := lsD_at d.dn
theorem Deal.sm {n m : Nat} {cs : List Int} {b : Int} {C : Cs} (d : Deal n m cs b C) : sqD C (.cel m) = some (cs.map D.int) := lsD_at d.dm
theorem any_ok {n m : Nat} {cs : List Int} {b bd : Int} {C : Cs} {Q : QD} {E : XQ} (d : Deal n m cs b C) (hl : cs.length ≤ 48) (h0 : 0 < bd) (h1 : bd < 1073741824)
    (k : ∀ v cs' b', 0 ≤ v → v < bd → cs'.length ≤ 48 → Q (.int v) (putD n m cs' b' C)) : sp_law_any [.cel n, .int bd] C Q E := by
  intro hlo hlc
  have hmC := d.lm
  -- the end of each way
  have fin1 : ∀ cs' b' v, 0 ≤ v → v < bd → cs'.length ≤ 48 → fin C (.int v) (putD n m cs' b' C) Q := fun cs' b' v z1 z2 z3 => by
    refine fin_wr (by rw [putD_len]; exact Nat.le_refl _) rfl ?_ ?_
    · rw [List.take_of_length_le (by rw [putD_len]; exact Nat.le_refl _)]
      exact putD_lo hlc hmC
    · rw [List.take_of_length_le (by rw [putD_len]; exact Nat.le_refl _)]
      exact k v cs' b' z1 z2 z3
  have put0 : putD n m cs b C = C := putD_self d
  unfold rd_law_any
  walk_at "go"
  refine ⟨fun j r C1 => ∃ cs1, r = [some (.cel n), some (.int bd), none] ∧ C1 = putD n m cs1 b C ∧ cs1.length = j ∧ j ≤ 48, ⟨_, cs, rfl, put0.symm, rfl, hl⟩, ?_⟩
  rintro j r C1 ⟨cs1, rfl, rfl, rfl, h48⟩
  have d1 : Deal n m cs1 b (putD n m cs1 b C) := d.put
  walk_at "go"
  refine w_ixC d1.sn rfl ?_
  walk_at "go"
  refine w_neNilC d1.dm (shps_ints 59 cs1) ?_
  -- what follows the loop
  have after : sSeq (sIf (dTest (dOp oNe (dOp oIx (dVar 0) (dC (.int 0))) (dLst dNil))) (sSeq (sSet 2 (dCB oInt (dCons (dMl0 oPop (dOp oIx (dVar 0) (dC (.int 0)))) dNil))) (sSeq (sDrop (dMl oApp (dOp oIx (dVar 0) (dC (.int 0))) (dCons (dOp oFdiv (dVar 2) (dVar 1)) dNil))) (sRet (dOp oMod (dVar 2) (dVar 1))))) sNext)
      (sSeq (sAsg (dOp oMod (dCB oInt (dCons (dOp oAdd (dOp oMul (dOp oIx (dVar 0) (dC (.int 1))) (dC (.int 40693))) (dC (.int 71))) dNil)) (dC (.int 2147483647))) (gSb (dVar 0) (dC (.int 1)))) (sRet (dOp oMod (dCB oInt (dCons (dOp oFdiv (dOp oIx (dVar 0) (dC (.int 1))) (dC (.int 64))) dNil)) (dVar 1))))
      { nx := fun _ C' => fin C .non C' Q, rt := fun d C' => fin C d C' Q } [some (.cel n), some (.int bd), none] (putD n m cs1 b C) := by
    walk_at "go"
    refine w_ixC d1.sn rfl ?_
    walk_at "go"
    refine w_neNilC d1.dm (shps_ints 59 cs1) ?_
    walk_at "go"
    rcases snoc_cases cs1 with rfl | ⟨ys, y, rfl⟩
    · refine ite_nil (fun hb => absurd rfl hb) (fun _ => ?_)
      walk_at "go"
      refine w_ixC d1.sn rfl ?_
      walk_at "go"
      refine w_mulI (.inr (by decide)) ?_
      walk_at "go"
      refine w_Ic (by decide) ?_
      walk_at "go"
      refine w_setC (k := 1) d1.sn rfl (Nat.lt_succ_self 1) ?_
      have e2 : (putD n m ([] : List Int) b C).set n (.lst [.cel m, .int ((b * 40693 + 71) % 2147483647)]) = putD n m [] ((b * 40693 + 71) % 2147483647) C := by
        unfold putD
        rw [List.set_set]
      have d2 : Deal n m [] ((b * 40693 + 71) % 2147483647) (putD n m [] ((b * 40693 + 71) % 2147483647) C) := d.put
      refine v_C e2 ?_
      walk_at "go"
      refine w_ixC d2.sn rfl ?_
      walk_at "go"
      refine w_Ic ⟨by decide, by decide⟩ ?_
      walk_at "go"
      refine w_Ic h0 ?_
      exact fin1 _ _ _ (Int.emod_nonneg _ (by omega)) (Int.emod_lt_of_pos _ h0) h48
    · refine ite_nil (fun _ => ?_) (fun hb => by simp at hb)
      walk_at "go"
      refine w_ixC d1.sn rfl ?_
      refine opt_ok d1.sm ?_
      have ey : ((ys ++ [y]).map D.int)[((ys ++ [y]).map D.int).length - 1]? = some (.int y) := by simp
      refine w_pop d1.sm ey ?_
      have e2 : (putD n m (ys ++ [y]) b C).set m (.lst ((ys ++ [y]).map D.int).dropLast) = putD n m ys b C := by
        have e3 : ((ys ++ [y]).map D.int).dropLast = ys.map D.int := by simp
        rw [e3]
        unfold putD
        rw [List.set_comm _ _ d.ne, List.set_set]
      rw [e2]
      have d2 : Deal n m ys b (putD n m ys b C) := d.put
      walk_at "go"
      refine w_ixC d2.sn rfl ?_
      refine opt_ok d2.sm ?_
      walk_at "go"
      refine w_Ic ⟨h0, h1⟩ ?_
      walk_at "go"
      refine w_app d2.sm ?_ ?_
      · rw [List.length_map]
        rw [List.length_append] at h48
        exact small1000 (by omega)
      have e4 : (putD n m ys b C).set m (.lst (ys.map D.int ++ [.int (y / bd)])) = putD n m (ys ++ [y / bd]) b C := by
        unfold putD
        rw [List.set_comm _ _ d.ne, List.set_set, List.map_append]
        rfl
      rw [e4]
      walk_at "go"
      refine w_Ic h0 ?_
      exact fin1 _ _ _ (Int.emod_nonneg _ (by omega)) (Int.emod_lt_of_pos _ h0) (by rw [List.length_append] at h48 ⊢; exact h48)
  -- the loop's test
  rcases snoc_cases cs1 with rfl | ⟨ys, y, rfl⟩
  · refine ite_nil (fun hb => absurd rfl hb) (fun _ => ?_)
    exact after
  · refine ite_nil (fun _ => ?_) (fun hb => by simp at hb)
    walk_at "go"
    refine w_ixC d1.sn rfl ?_
    walk_at "go"
    have el : atI ((ys ++ [y]).map D.int) (-1) = some (.int y) := by
      rw [List.map_append]
      exact atI_neg1 _ _
    refine w_ixC d1.sm el ?_
    walk_at "go"
    refine w_eqI ?_
    refine ite_dec (fun hy => ?_) (fun hy => after)
    walk_at "go"
    refine w_ixC d1.sn rfl ?_
    refine opt_ok d1.sm ?_
    have ey : ((ys ++ [y]).map D.int)[((ys ++ [y]).map D.int).length - 1]? = some (.int y) := by simp
    refine w_pop d1.sm ey ?_
    have e2 : (putD n m (ys ++ [y]) b C).set m (.lst ((ys ++ [y]).map D.int).dropLast) = putD n m ys b C := by
      have e3 : ((ys ++ [y]).map D.int).dropLast = ys.map D.int := by simp
      rw [e3]
      unfold putD
      rw [List.set_comm _ _ d.ne, List.set_set]
    rw [e2]
    exact ⟨ys.length, by simp, ys, rfl, rfl, rfl, by simp at h48; omega⟩
/-- an item of some -/
theorem of_ok {n m : Nat} {cs : List Int} {b : Int} {C : Cs} {Q : QD} {E : XQ} {xs : List D} {some' : D} (d : Deal n m cs b C) (hl : cs.length ≤ 48) (hs : some' = .lst xs ∨ some' = .tup xs ∨ ∃ h, some' = .cel h ∧ h ≠ n ∧ h ≠ m ∧ C[h]? = some (.lst xs)) (h0 : xs ≠ []) (h1 : xs.length < 1000000) (hlo : los C.length xs = true)
    (k : ∀ x cs' b', x ∈ xs → cs'.length ≤ 48 → Q x (putD n m cs' b' C)) : sp_law_of [.cel n, some'] C Q E := by
  intro _ hlc
  have hxl : 0 < xs.length := List.length_pos_iff.mpr h0
  have go : ∀ v cs' b', 0 ≤ v → v < (xs.length : Int) → cs'.length ≤ 48 → fin C (xs.getD v.toNat .non) (putD n m cs' b' C) Q := fun v cs' b' z1 z2 z3 => by
    have hm : xs.getD v.toNat .non ∈ xs := by
      rw [List.getD_eq_getElem?_getD, List.getElem?_eq_getElem (show v.toNat < xs.length by omega)]
      exact List.getElem_mem _
    refine fin_wr (by rw [putD_len]; exact Nat.le_refl _) (los_mem hlo hm) ?_ ?_
    · rw [List.take_of_length_le (by rw [putD_len]; exact Nat.le_refl _)]
      exact putD_lo hlc d.lm
    · rw [List.take_of_length_le (by rw [putD_len]; exact Nat.le_refl _)]
      exact k _ cs' b' hm z3
  have at' : ∀ v : Int, 0 ≤ v → v < (xs.length : Int) → atI xs v = some (xs.getD v.toNat .non) := fun v z1 z2 => by
    refine atI_n (n := v.toNat) (by omega) ?_
    rw [List.getD_eq_getElem?_getD, List.getElem?_eq_getElem (show v.toNat < xs.length by omega)]
    rfl
  unfold rd_law_of
  rcases hs with rfl | rfl | ⟨h, rfl, e1, e2, e3⟩
  · walk_at "go"
    refine any_ok d hl (by omega) (by omega) fun v cs' b' z1 z2 z3 => ?_
    refine w_ixL (at' v z1 z2) ?_
    exact go v cs' b' z1 z2 z3
  · walk_at "go"
    refine any_ok d hl (by omega) (by omega) fun v cs' b' z1 z2 z3 => ?_
    refine w_ixT (at' v z1 z2) ?_
    exact go v cs' b' z1 z2 z3
  · walk_at "go"
    refine w_lenC (lsD_at e3) ?_
    walk_at "go"
    refine any_ok d hl (by omega) (by omega) fun v cs' b' z1 z2 z3 => ?_
    refine w_ixC (lsD_at (by rw [putD_get e1 e2]; exact e3)) (at' v z1 z2) ?_
    exact go v cs' b' z1 z2 z3
/-- what is left with one thing out -/
theorem perm_out {α : Type} {xs : List α} {k : Nat} {x : α} (h : xs[k]? = some x) : (x :: xs.eraseIdx k).Perm xs := by
  induction xs generalizing k with
  | nil => simp at h
  | cons y ys ih =>
    cases k with
    | zero =>
      simp at h
      subst h
      exact List.Perm.refl _
    | succ k =>
      have p := ih (k := k) (by simpa using h)
      exact (List.Perm.swap y x _).trans (p.cons y)
/-- the things of some in an order -/
theorem mixed_ok {n m : Nat} {cs : List Int} {b : Int} {C : Cs} {Q : QD} {E : XQ} {xs : List D} {some' : D} (d : Deal n m cs b C) (hl : cs.length ≤ 48) (hs : some' = .lst xs ∨ some' = .tup xs) (h1 : xs.length < 1000000) (hlo : los C.length xs = true) (hsh : shps 59 xs = true)
    (k : ∀ ys cs' b', loCs C.length C = true → ys.Perm xs → cs'.length ≤ 48 → fin C (.cel (C.length + 1)) (putD n m cs' b' C ++ [Cl.lst [], Cl.lst ys]) Q) : sp_law_mixed [.cel n, some'] C Q E := by
  intro _ hlc
  have go : ∀ r0 C0, C0 = C ++ [Cl.lst xs, Cl.lst []] → r0 = ([some (.cel n), some some', some (.cel C.length), some (.cel (C.length + 1))] : Ev) →
    sSeq (sWhile (dTest (dOp oNe (dVar 2) (dLst dNil))) (sDrop (dMl oApp (dVar 3) (dCons (dMl oPopAt (dVar 2) (dCons (dCall sp_law_any (fun cls od _ C' => finX C od C' fun od' C2 => E cls od' C2) (dCons (dVar 0) (dCons (dCB oLen (dCons (dVar 2) dNil)) dNil))) dNil)) dNil)))) (sRet (dVar 3))
      { nx := fun _ C' => fin C .non C' Q, rt := fun d C' => fin C d C' Q } r0 C0 := fun r0 C0 hC0 hr0 => by
    subst hr0 hC0
    walk_at "go"
    refine ⟨fun j r C1 => ∃ ls fs cs1 b1, r = [some (.cel n), some some', some (.cel C.length), some (.cel (C.length + 1))] ∧ C1 = putD n m cs1 b1 C ++ [Cl.lst ls, Cl.lst fs] ∧ (ls ++ fs).Perm xs ∧ ls.length = j ∧ cs1.length ≤ 48,
      ⟨_, xs, [], cs, b, rfl, by rw [putD_self d], by simp, rfl, hl⟩, ?_⟩
    rintro j r C1 ⟨ls, fs, cs1, b1, rfl, rfl, hp, rfl, hcl⟩
    have d1 : Deal n m cs1 b1 (putD n m cs1 b1 C) := d.put
    have d2 : Deal n m cs1 b1 (putD n m cs1 b1 C ++ [Cl.lst ls, Cl.lst fs]) := ⟨by rw [List.getElem?_append_left (by rw [putD_len]; exact d.ln)]; exact d1.dn, by rw [List.getElem?_append_left (by rw [putD_len]; exact d.lm)]; exact d1.dm, d.ne⟩
    have c0 : (putD n m cs1 b1 C ++ [Cl.lst ls, Cl.lst fs])[C.length]? = some (Cl.lst ls) := by
      rw [List.getElem?_append_right (by rw [putD_len]; exact Nat.le_refl _), putD_len]
      simp
    have hll : ls.length + fs.length = xs.length := by
      have := hp.length_eq
      simpa using this
    have hsub : shps 59 ls = true := shps_iff.mpr fun x hx => shps_iff.mp hsh x (hp.subset (List.mem_append_left _ hx))
    walk_at "go"
    refine w_neNilC c0 hsub ?_
    refine ite_nil (fun hne => ?_) (fun he => ?_)
    · walk_at "go"
      refine opt_ok (lsD_at (n := C.length + 1) (xs := fs) ?_) ?_
      · rw [List.getElem?_append_right (by rw [putD_len]; omega), putD_len]
        simp
      walk_at "go"
      refine opt_ok (lsD_at c0) ?_
      walk_at "go"
      refine w_lenC (lsD_at c0) ?_
      walk_at "go"
      have hpos : 0 < ls.length := List.length_pos_iff.mpr hne
      refine any_ok d2 hcl (by omega) (by omega) fun v cs' b' z1 z2 z3 => ?_
      have hv : v.toNat < ls.length := by omega
      have ea : putD n m cs' b' (putD n m cs1 b1 C ++ [Cl.lst ls, Cl.lst fs]) = putD n m cs' b' C ++ [Cl.lst ls, Cl.lst fs] := by
        rw [putD_app (by rw [putD_len]; exact d.ln) (by rw [putD_len]; exact d.lm), putD_put d.ne]
      rw [ea]
      walk_at "go"
      have c1 : (putD n m cs' b' C ++ [Cl.lst ls, Cl.lst fs])[C.length]? = some (Cl.lst ls) := by
        rw [List.getElem?_append_right (by rw [putD_len]; exact Nat.le_refl _), putD_len]
        simp
      refine w_popAt (i := v) (k := v.toNat) (lsD_at c1) (by omega) (by omega) (List.getElem?_eq_getElem hv) ?_
      have eb : (putD n m cs' b' C ++ [Cl.lst ls, Cl.lst fs]).set C.length (Cl.lst (ls.eraseIdx v.toNat)) = putD n m cs' b' C ++ [Cl.lst (ls.eraseIdx v.toNat), Cl.lst fs] := by
        rw [List.set_append_right _ _ (by rw [putD_len]; exact Nat.le_refl _), putD_len]
        simp
      rw [eb]
      walk_at "go"
      have c2 : (putD n m cs' b' C ++ [Cl.lst (ls.eraseIdx v.toNat), Cl.lst fs])[C.length + 1]? = some (Cl.lst fs) := by
        rw [List.getElem?_append_right (by rw [putD_len]; omega), putD_len]
        simp
      refine w_app (lsD_at c2) (Nat.lt_of_lt_of_le (show fs.length < 1000000 by omega) (by decide)) ?_
      have ec : (putD n m cs' b' C ++ [Cl.lst (ls.eraseIdx v.toNat), Cl.lst fs]).set (C.length + 1) (Cl.lst (fs ++ [ls[v.toNat]])) = putD n m cs' b' C ++ [Cl.lst (ls.eraseIdx v.toNat), Cl.lst (fs ++ [ls[v.toNat]])] := by
        rw [List.set_append_right _ _ (by rw [putD_len]; omega), putD_len]
        simp
      rw [ec]
      refine ⟨(ls.eraseIdx v.toNat).length, by rw [List.length_eraseIdx_of_lt hv]; omega, ls.eraseIdx v.toNat, fs ++ [ls[v.toNat]], cs', b', rfl, rfl, ?_, rfl, z3⟩
      have p1 : (ls[v.toNat] :: ls.eraseIdx v.toNat).Perm ls := perm_out (List.getElem?_eq_getElem hv)
      refine List.Perm.trans ?_ hp
      refine List.Perm.trans ?_ (p1.append_right fs)
      rw [← List.append_assoc]
      refine List.Perm.trans (List.perm_append_comm) ?_
      rw [List.singleton_append, List.cons_append]
    · subst he
      walk_at "go"
      exact k fs cs1 b1 hlc (by simpa using hp) hcl
  unfold rd_law_mixed
  rcases hs with rfl | rfl
  · refine v_seq ?_
    walk_at "on"
    exact go _ _ (by simp) (by simp [startD])
  · refine v_seq ?_
    walk_at "on"
    exact go _ _ (by simp) (by simp [startD])
theorem mixed_lst {n m : Nat} {cs : List Int} {b : Int} {C : Cs} {Q : QD} {E : XQ} {xs : List D} {some' : D} (d : Deal n m cs b C) (hl : cs.length ≤ 48) (hs : some' = .lst xs ∨ some' = .tup xs) (h1 : xs.length < 1000000) (hlo : los C.length xs = true) (hsh : shps 59 xs = true)
    (k : ∀ ys cs' b', ys.Perm xs → cs'.length ≤ 48 → Q (.lst ys) (putD n m cs' b' C)) : sp_law_mixed [.cel n, some'] C Q E := by
  refine mixed_ok d hl hs h1 hlo hsh fun ys cs' b' hlc hp hc => ?_
  have et : (putD n m cs' b' C ++ [Cl.lst [], Cl.lst ys]).take C.length = putD n m cs' b' C := List.take_left' putD_len
  refine fin_wrL (xs := ys) (by rw [List.length_append, putD_len]; exact Nat.le_add_right _ _) (Nat.le_succ _) ?_ (los_iff.mpr fun x hx => los_mem hlo (hp.subset hx)) ?_ ?_
  · rw [List.getElem?_append_right (by rw [putD_len]; exact Nat.le_succ _), putD_len]
    simp
  · rw [et]
    exact putD_lo hlc d.lm
  · rw [et]
    exact k ys cs' b' hp hc
theorem mixed_cel {n m : Nat} {cs : List Int} {b : Int} {C : Cs} {Q : QD} {E : XQ} {xs : List D} {some' : D} (d : Deal n m cs b C) (hl : cs.length ≤ 48) (hs : some' = .lst xs ∨ some' = .tup xs) (h1 : xs.length < 1000000) (hlo : los C.length xs = true) (hsh : shps 59 xs = true)
    (k : ∀ ys cs' b', ys.Perm xs → cs'.length ≤ 48 → Q (.cel C.length) (putD n m cs' b' C ++ [Cl.lst ys])) : sp_law_mixed [.cel n, some'] C Q E := by
  refine mixed_ok d hl hs h1 hlo hsh fun ys cs' b' hlc hp hc => ?_
  have et : (putD n m cs' b' C ++ [Cl.lst [], Cl.lst ys]).take C.length = putD n m cs' b' C := List.take_left' putD_len
  refine fin_wrC (xs := ys) (by rw [List.length_append, putD_len]; exact Nat.le_add_right _ _) (Nat.le_succ _) ?_ (los_iff.mpr fun x hx => los_mem hlo (hp.subset hx)) ?_ ?_
  · rw [List.getElem?_append_right (by rw [putD_len]; exact Nat.le_succ _), putD_len]
    simp
  · rw [et]
    exact putD_lo hlc d.lm
  · rw [et]
    exact k ys cs' b' hp hc
/-- ints again -/
def unI : D → Int
  | .int i => i
  | _ => 0
theorem perm_ints {ys : List D} {ns : List Int} (h : ys.Perm (ns.map D.int)) : ∃ ms : List Int, ys = ms.map D.int ∧ ms.Perm ns := by
  refine ⟨ys.map unI, ?_, ?_⟩
  · rw [List.map_map]
    refine (List.map_id' _).symm.trans (List.map_congr_left fun y hy => ?_)
    obtain ⟨i, _, rfl⟩ := List.mem_map.mp (h.subset hy)
    rfl
  · have := h.map unI
    rw [List.map_map] at this
    have e : (ns.map (unI ∘ D.int)) = ns := by
      have : (unI ∘ D.int) = id := by funext x; rfl
      rw [this, List.map_id]
    rw [e] at this
    exact this
/-! ### the same -/
mutual
/-- plain data without lists, of at most that depth -/
def pl : Nat → D → Bool
  | _, .non => true
  | _, .bl _ => true
  | _, .int _ => true
  | _, .str x => PyData.strOk x
  | 0, .tup _ => false
  | n + 1, .tup xs => pls n xs
  | _, _ => false
def pls : Nat → List D → Bool
  | _, [] => true
  | n, x :: xs => pl n x && pls n xs
end
theorem pls_mem {n : Nat} : ∀ {xs : List D} {x : D}, pls n xs = true → x ∈ xs → pl n x = true
  | [], _, _, h => by simp at h
  | y :: ys, x, h, hm => by
    have h' : pl n y = true ∧ pls n ys = true := by simpa [pls] using h
    rcases List.mem_cons.mp hm with rfl | hm
    · exact h'.1
    · exact pls_mem h'.2 hm
theorem eqD_str (x : Str) : eqD (.str x) (.str x) = true := by
  show PyData.eqv (.str x) (.str x) = true
  simp [PyData.eqv]
theorem same_ok : ∀ (n : Nat) (d : D) {C : Cs} {Q : QD} {E : XQ}, pl n d = true → Q (.bl true) C → spR_law_same (n + 1) [d, d] C Q E := by
  intro n
  induction n with
  | zero =>
    intro d C Q E hp q hlo hlc
    unfold rd_law_same
    cases d with
    | non => walk_at "go"; exact fin_same0 rfl q
    | bl b => cases b <;> (walk_at "go"; exact fin_same0 rfl q)
    | int i =>
      walk_at "go"
      refine w_eqI ?_
      rw [decide_eq_true rfl]
      exact fin_same0 rfl q
    | str x =>
      have hx : PyData.strOk x = true := by simpa [pl] using hp
      walk_at "go"
      refine ⟨hx, hx, ?_⟩
      show fin C (.bl (eqD (.str x) (.str x))) C Q
      rw [eqD_str]
      exact fin_same0 rfl q
    | _ => simp [pl] at hp
  | succ n ih =>
    intro d C Q E hp q hlo hlc
    unfold rd_law_same
    cases d with
    | non => walk_at "go"; exact fin_same0 rfl q
    | bl b => cases b <;> (walk_at "go"; exact fin_same0 rfl q)
    | int i =>
      walk_at "go"
      refine w_eqI ?_
      rw [decide_eq_true rfl]
      exact fin_same0 rfl q
    | str x =>
      have hx : PyData.strOk x = true := by simpa [pl] using hp
      walk_at "go"
      refine ⟨hx, hx, ?_⟩
      show fin C (.bl (eqD (.str x) (.str x))) C Q
      rw [eqD_str]
      exact fin_same0 rfl q
    | tup xs =>
      have hx : pls n xs = true := by simpa [pl] using hp
      walk_at "go"
      refine w_neI ?_
      refine ite_ndec (fun h => absurd rfl h) (fun _ => ?_)
      walk_at "go"
      refine ⟨fun i acc C' => acc = [] ∧ C' = C, ⟨rfl, rfl⟩, fun i acc C' _ ⟨_, e⟩ => ⟨by subst e; rfl, by subst e; rfl⟩, ?_, ?_⟩
      · rintro i d acc C' hi ⟨rfl, rfl⟩
        have hz : (zipD xs xs)[i]? = (xs[i]?).map fun x => D.tup [x, x] := by
          unfold zipD
          rw [List.getElem?_zipWith]
          cases xs[i]? <;> rfl
        rw [hz] at hi
        cases e : xs[i]? with
        | none => rw [e] at hi; cases hi
        | some x =>
          rw [e] at hi
          obtain rfl : D.tup [x, x] = d := by simpa using hi
          have hxp : pl n x = true := pls_mem hx (List.mem_of_getElem? e)
          walk_at "go"
          refine ih x hxp ?_
          exact ⟨rfl, rfl⟩
      · rintro acc C' ⟨rfl, rfl⟩
        walk_at "go"
        refine w_eqNilL rfl ?_
        exact fin_same0 rfl q
    | _ => simp [pl] at hp
/-! ### the script's part -/
theorem draw_ok {ns : List Int} {salt : Int} {C : Cs} {Q : QD} {E : XQ} (k : ∀ (cs : List Int) b, cs.length ≤ 48 → Q (.cel C.length) (C ++ [Cl.lst [.cel (C.length + 1), .int b], Cl.lst (cs.map D.int)])) : sp_law_draw [.scr (ns.map D.int), .int salt] C Q E := by
  intro _ hlc
  unfold rd_law_draw
  walk_at "go"
  have e48 : cutD (ns.map D.int) none (some 48) = (ns.take 48).map D.int := by rw [cutD_hiI _ (by decide), List.map_take]; rfl
  rw [e48]
  refine ⟨fun i acc C' => C' = C ∧ ∃ ms : List Int, acc = ms.map D.int ∧ ms.length = i, ⟨rfl, [], rfl, rfl⟩, fun _ _ _ _ _ => rfl, ?_, ?_⟩
  · rintro i d acc C' hi ⟨rfl, ms, rfl, rfl⟩
    rw [List.getElem?_map] at hi
    cases e : (ns.take 48)[ms.length]? with
    | none => rw [e] at hi; cases hi
    | some z =>
      rw [e] at hi
      obtain rfl : D.int z = d := by simpa using hi
      walk_at "go"
      exact ⟨rfl, ms ++ [if z < 0 then -z else z], by simp, by simp⟩
  rintro acc C' ⟨rfl, cells, rfl, hcl⟩
  have hc48 : cells.length ≤ 48 := by
    rw [List.length_map] at hcl
    rw [hcl, List.length_take]
    exact Nat.min_le_left _ _
  refine ite_false' ?_
  walk_at "go"
  refine w_mulI (.inl (by decide)) ?_
  walk_at "go"
  refine ⟨fun i r C1 => C1 = C' ∧ ∃ b x, r = [some (.scr (ns.map D.int)), some (.int salt), some (.lst (cells.map D.int)), some (.int b), x], ⟨rfl, _, _, rfl⟩, fun _ _ _ _ _ => rfl, ?_, ?_⟩
  · rintro i d r C1 hi ⟨rfl, b, x, rfl⟩
    rw [List.getElem?_map] at hi
    cases e : cells[i]? with
    | none => rw [e] at hi; cases hi
    | some z =>
      rw [e] at hi
      obtain rfl : D.int z = d := by simpa using hi
      walk_at "go"
      refine w_mulI (.inr (by decide)) ?_
      walk_at "go"
      refine w_Ic (by decide) ?_
      walk_at "go"
      refine w_Ic (by decide) ?_
      exact ⟨rfl, _, _, rfl⟩
  rintro r C1 ⟨rfl, b, x, rfl⟩
  walk_at "go"
  refine ⟨fun i acc C' => C' = C1 ∧ ∃ ms : List Int, acc = ms.map D.int ∧ ms.length ≤ i, ⟨rfl, [], rfl, Nat.le_refl _⟩, fun _ _ _ _ _ => rfl, ?_, ?_⟩
  · rintro i d acc C' hi ⟨rfl, ms, rfl, hms⟩
    rw [List.getElem?_map] at hi
    cases e : cells[i]? with
    | none => rw [e] at hi; cases hi
    | some z =>
      rw [e] at hi
      obtain rfl : D.int z = d := by simpa using hi
      walk_at "go"
      refine w_Ic ⟨by decide, by decide, by decide⟩ ?_
      walk_at "go"
      refine ite_dec (fun _ => ?_) (fun _ => ?_)
      · walk_at "go"
        exact ⟨rfl, ms ++ [z], by simp, by simp; omega⟩
      · exact ⟨rfl, ms, rfl, by omega⟩
  rintro acc C' ⟨rfl, ms, rfl, hms⟩
  have hm48 : ms.length ≤ 48 := by
    rw [List.length_map] at hms
    omega
  refine ite_true' ?_
  refine opt_ok lsD_new ?_
  walk_at "go"
  -- two of the three new cells stay
  have e3 : C' ++ [Cl.lst (ms.map D.int)] ++ [Cl.lst (ms.map D.int).reverse] ++ [Cl.lst [.cel (C' ++ [Cl.lst (ms.map D.int)]).length, .int b]] = C' ++ [Cl.lst (ms.map D.int), Cl.lst (ms.reverse.map D.int), Cl.lst [.cel (C'.length + 1), .int b]] := by simp
  have e4 : (C' ++ [Cl.lst (ms.map D.int)] ++ [Cl.lst (ms.map D.int).reverse]).length = C'.length + 2 := by simp
  show fin C' (.cel (C' ++ [Cl.lst (ms.map D.int)] ++ [Cl.lst (ms.map D.int).reverse]).length) (C' ++ [Cl.lst (ms.map D.int)] ++ [Cl.lst (ms.map D.int).reverse] ++ [Cl.lst [.cel (C' ++ [Cl.lst (ms.map D.int)]).length, .int b]]) Q
  rw [e4, e3]
  have sl : ∀ j n, (List.range C'.length ++ [C'.length + 2, C'.length + 1])[j]? = some n → (j < C'.length ∧ n = j) ∨ (j = C'.length ∧ n = C'.length + 2) ∨ (j = C'.length + 1 ∧ n = C'.length + 1) := fun j n h => by
    by_cases hj : j < C'.length
    · rw [sel_get j hj] at h
      exact .inl ⟨hj, by simpa using h.symm⟩
    · rw [List.getElem?_append_right (by simpa using hj)] at h
      rw [List.length_range] at h
      cases q : j - C'.length with
      | zero =>
        rw [q] at h
        simp at h
        exact .inr (.inl ⟨by omega, h.symm⟩)
      | succ q' =>
        rw [q] at h
        cases q' with
        | zero =>
          simp at h
          exact .inr (.inr ⟨by omega, h.symm⟩)
        | succ _ => simp at h
  have s1 : (List.range C'.length ++ [C'.length + 2, C'.length + 1])[C'.length + 1]? = some (C'.length + 1) := by
    rw [List.getElem?_append_right (by simp)]
    simp
  refine ⟨[C'.length + 2, C'.length + 1], .cel C'.length, C' ++ [Cl.lst [.cel (C'.length + 1), .int b], Cl.lst (ms.reverse.map D.int)], by simp, fun n hn => ?_, by simp, by simp, fun j n xs h1 h2 => ?_, .keep ?_, k _ b (by simpa using hm48)⟩
  · simp at hn
    rcases hn with rfl | rfl <;> (simp; try omega)
  · rcases sl j n h1 with ⟨hj, rfl⟩ | ⟨rfl, rfl⟩ | ⟨rfl, rfl⟩
    · rw [List.getElem?_append_left hj] at h2
      exact .inl ⟨hj, h2, by rw [List.getElem?_append_left hj]; exact h2⟩
    · rw [List.getElem?_append_right (by omega)] at h2
      simp at h2
      subst h2
      refine .inr ⟨[.cel (C'.length + 1), .int b], by rw [List.getElem?_append_right (Nat.le_refl _)]; simp, .cons (.keep s1) (.cons .int .nil)⟩
    · rw [List.getElem?_append_right (by omega)] at h2
      simp at h2
      subst h2
      refine .inr ⟨ms.reverse.map D.int, by rw [List.getElem?_append_right (by omega)]; simp, ?_⟩
      rw [List.map_reverse]
      exact fzs_lo (k := 0) (fun n hn => absurd hn (Nat.not_lt_zero n)) _ (by rw [← List.map_reverse]; exact los_ints 0 _)
  · rw [List.getElem?_append_right (by simp)]
    simp
theorem draw_ok0 {ns : List Int} {salt : Int} {Q : QD} {E : XQ} (k : ∀ (cs : List Int) b, cs.length ≤ 48 → Q (.cel 0) [Cl.lst [.cel 1, .int b], Cl.lst (cs.map D.int)]) : sp_law_draw [.scr (ns.map D.int), .int salt] [] Q E := draw_ok (C := []) k
/-! ### halls as data -/
abbrev ordD (o : List Int) : D := .tup (o.map D.int)
abbrev plD (p : Int × List Int) : D := .tup [.int p.1, ordD p.2]
abbrev hallD (hs : List (Int × List Int)) : D := .tup (hs.map plD)
theorem hall_at {hs : List (Int × List Int)} {i : Int} {p : Int × List Int} {n : Nat} (hi : i = n) (h : hs[n]? = some p) : atI (hs.map plD) i = some (plD p) := atI_n hi (by rw [List.getElem?_map, h]; rfl)
theorem los_ordD (k : Nat) : ∀ ps : List (List Int), los k (ps.map ordD) = true
  | [] => rfl
  | p :: ps => by
    show (DL.lo k (ordD p) && los k (ps.map ordD)) = true
    rw [los_ordD k ps]
    show (los k (p.map D.int) && true) = true
    rw [los_ints]
    rfl
theorem deal_app {n m : Nat} {cs cs1 : List Int} {b b1 : Int} {C J : Cs} (d : Deal n m cs b C) : Deal n m cs1 b1 (putD n m cs1 b1 C ++ J) := by
  have d1 : Deal n m cs1 b1 (putD n m cs1 b1 C) := d.put
  exact ⟨by rw [List.getElem?_append_left d1.ln]; exact d1.dn, by rw [List.getElem?_append_left d1.lm]; exact d1.dm, d.ne⟩
theorem put_app {n m : Nat} {cs cs1 cs' : List Int} {b b1 b' : Int} {C J : Cs} (d : Deal n m cs b C) : putD n m cs' b' (putD n m cs1 b1 C ++ J) = putD n m cs' b' C ++ J := by
  rw [putD_app (by rw [putD_len]; exact d.ln) (by rw [putD_len]; exact d.lm), putD_put d.ne]
def rng (n : Nat) : List Int := (List.range n).map fun (i : Nat) => (0 : Int) + (i : Int)
theorem rng_mem {n : Nat} {x : Int} (h : x ∈ rng n) : 0 ≤ x ∧ x < n := by
  obtain ⟨i, hi, rfl⟩ := List.mem_map.mp h
  have := List.mem_range.mp hi
  omega
theorem rng_nodup (n : Nat) : (rng n).Nodup := by
  unfold rng
  rw [List.nodup_iff_pairwise_ne, List.pairwise_map]
  exact (List.nodup_range (n := n)).imp fun {a b} h e => h (by omega)
theorem rng_len (n : Nat) : (rng n).length = n := by simp [rng]
/-- a hall as the law draws it -/
structure Hall (many : Nat) (hs : List (Int × List Int)) : Prop where
  seats : ∀ p ∈ hs, 1 ≤ p.1
  order : ∀ p ∈ hs, p.2.Perm (rng many)
theorem los_plD (k : Nat) : ∀ hs : List (Int × List Int), los k (hs.map plD) = true
  | [] => rfl
  | p :: hs => by
    show (DL.lo k (plD p) && los k (hs.map plD)) = true
    rw [los_plD k hs]
    show ((DL.lo k (.int p.1) && (DL.lo k (ordD p.2) && true)) && true) = true
    show ((true && (los k (p.2.map D.int) && true)) && true) = true
    rw [los_ints]
    rfl
theorem shps_plD (n : Nat) : ∀ hs : List (Int × List Int), shps (n + 2) (hs.map plD) = true
  | [] => rfl
  | p :: hs => by
    show (shp (n + 2) (plD p) && shps (n + 2) (hs.map plD)) = true
    rw [shps_plD n hs]
    show ((true && (shp (n + 1) (ordD p.2) && true)) && true) = true
    rw [shp_tints]
    rfl
theorem pls_ordD (n : Nat) : ∀ ps : List (List Int), pls (n + 1) (ps.map ordD) = true
  | [] => rfl
  | p :: ps => by
    show (pl (n + 1) (ordD p) && pls (n + 1) (ps.map ordD)) = true
    rw [pls_ordD n ps]
    have : ∀ ns : List Int, pls n (ns.map D.int) = true := fun ns => by
      induction ns with
      | nil => cases n <;> rfl
      | cons x xs ih =>
        show (pl n (.int x) && pls n (xs.map D.int)) = true
        rw [ih]
        cases n <;> rfl
    show (pls n (p.map D.int) && true) = true
    rw [this]
    rfl
abbrev lw (cs : List Int) (b : Int) (hs : List D) (J : Cs) : Cs := Cl.lst [.cel 1, .int b] :: Cl.lst (cs.map D.int) :: Cl.lst hs :: J
theorem lw_deal (cs : List Int) (b : Int) (hs : List D) (J : Cs) : Deal 0 1 cs b (lw cs b hs J) := ⟨rfl, rfl, by decide⟩
theorem lw_put (cs cs' : List Int) (b b' : Int) (hs : List D) (J : Cs) : putD 0 1 cs' b' (lw cs b hs J) = lw cs' b' hs J := rfl
theorem lw_app (cs : List Int) (b : Int) (hs : List D) (J : Cs) (c : Cl) : lw cs b hs J ++ [c] = lw cs b hs (J ++ [c]) := rfl
theorem rng_eq (n : Int) : rngD 0 (n - 0).toNat = (rng n.toNat).map D.int := by
  rw [rngD_eq, Int.sub_zero]
  rfl
theorem map_erase : ∀ (l : List Int) (i : Nat), (l.eraseIdx i).map D.int = (l.map D.int).eraseIdx i
  | [], i => by simp
  | x :: xs, 0 => rfl
  | x :: xs, i + 1 => by
    show D.int x :: (xs.eraseIdx i).map D.int = D.int x :: (xs.map D.int).eraseIdx i
    rw [map_erase xs i]
theorem pick3 (a b c : D) : ([] : List D) ++ pick [2, 1, 0] [a, b, c] = [c, b, a] := rfl
/-! ### the law's orders and halls -/
theorem order_ok {n m many : Nat} {cs : List Int} {b : Int} {C : Cs} {Q : QD} {E : XQ} {like : D} (d : Deal n m cs b C) (hl : cs.length ≤ 48) (h1 : 1 ≤ many) (h2 : many ≤ 1000) (hk : like = .non ∨ ∃ o : List Int, like = ordD o ∧ o.Perm (rng many))
    (k : ∀ (o cs' : List Int) b', o.Perm (rng many) → cs'.length ≤ 48 → Q (ordD o) (putD n m cs' b' C)) : sp_law_order [.cel n, .int (many : Nat), like] C Q E := by
  intro _ hlc
  have big : (2 : Int) ^ 24 = 16777216 := by decide
  have ed : ∀ cs' b', (putD n m cs' b' C).length = C.length := fun _ _ => putD_len
  have anew : ∀ (csx : List Int) (bx : Int), csx.length ≤ 48 → ∀ (Qx : QD) (Ex : XQ), (∀ (o : List Int) (cs' : List Int) (b' : Int), o.Perm (rng many) → cs'.length ≤ 48 → Qx (.lst (o.map D.int)) (putD n m cs' b' C)) →
      sp_law_mixed [.cel n, .lst (rngD 0 (((many : Nat) : Int) - 0).toNat)] (putD n m csx bx C) Qx Ex := fun csx bx hcx Qx Ex kk => by
    rw [rng_eq, Int.toNat_natCast]
    refine mixed_lst (d.put) hcx (.inl rfl) (by rw [List.length_map, rng_len]; omega) (los_ints _ _) (shps_ints _ _) fun ys cs' b' hp hc' => ?_
    rw [putD_put d.ne]
    obtain ⟨o, rfl, ho⟩ := perm_ints hp
    exact kk o cs' b' ho hc'
  unfold rd_law_order
  rcases hk with rfl | ⟨o0, rfl, ho0⟩
  · walk_at "go"
    refine ⟨⟨by omega, by omega, by omega, by omega, by omega⟩, ite_false' ?_⟩
    walk_at "go"
    rw [← putD_self d]
    refine anew cs b hl _ _ fun o cs' b' ho hc' => ?_
    rw [putD_self d]
    walk_at "go"
    exact fin_any0 (ed _ _) (los_ints _ _) (putD_lo hlc d.lm) (k o cs' b' ho hc')
  · walk_at "go"
    refine any_ok d hl (by omega) (by omega) fun v cs1 b1 v1 v2 hc1 => ?_
    walk_at "go"
    refine w_eqI ?_
    refine ite_dec (fun hz => ?_) (fun hz => ?_)
    · walk_at "go"
      refine ⟨⟨by omega, by omega, by omega, by omega, by omega⟩, ite_false' ?_⟩
      walk_at "go"
      refine anew cs1 b1 hc1 _ _ fun o cs' b' ho hc' => ?_
      walk_at "go"
      exact fin_any0 (ed _ _) (los_ints _ _) (putD_lo hlc d.lm) (k o cs' b' ho hc')
    · walk_at "go"
      refine of_ok (deal_app d) hc1 (.inl rfl) (by simp) (by simp) rfl fun x cs2 b2 hx hc2 => ?_
      rw [put_app d, putD_len]
      obtain ⟨y, rfl, hy1, hy2⟩ : ∃ y : Int, x = .int y ∧ 0 ≤ y ∧ y ≤ 1000 := by
        simp only [List.mem_cons, List.not_mem_nil, or_false] at hx
        rcases hx with rfl | rfl | rfl | rfl
        · exact ⟨_, rfl, by omega, by omega⟩
        · exact ⟨_, rfl, by omega, by omega⟩
        · exact ⟨_, rfl, by omega, by omega⟩
        · exact ⟨_, rfl, by omega, by omega⟩
      walk_at "go"
      refine ⟨⟨by omega, by omega⟩, ?_⟩
      refine ⟨fun c r C1 => ∃ (o cs3 : List Int) (b3 : Int) (x4 x5 x6 : Option D), r = [some (.cel n), some (.int (many : Nat)), some (ordD o0), some (.cel C.length), x4, x5, x6] ∧ C1 = putD n m cs3 b3 C ++ [Cl.lst (o.map D.int)] ∧ o.Perm (rng many) ∧ cs3.length ≤ 48,
        ⟨o0, cs2, b2, _, _, _, rfl, rfl, ho0, hc2⟩, fun _ _ _ _ _ => trivial, ?_, ?_⟩
      · rintro c dd r C1 hd ⟨o, cs3, b3, x4, x5, x6, rfl, rfl, ho, hc3⟩
        have hol : o.length = many := by rw [ho.length_eq, rng_len]
        have gl : ∀ (cs : List Int) (b : Int) (xs : List D), (putD n m cs b C ++ [Cl.lst xs])[C.length]? = some (.lst xs) := fun cs b xs => by
          rw [List.getElem?_append_right (by rw [putD_len]; exact Nat.le_refl _), putD_len]
          simp
        have sl : ∀ (cs : List Int) (b : Int) (xs ys : List D), (putD n m cs b C ++ [Cl.lst xs]).set C.length (.lst ys) = putD n m cs b C ++ [Cl.lst ys] := fun cs b xs ys => by
          rw [List.set_append_right _ _ (by rw [putD_len]; exact Nat.le_refl _), putD_len]
          simp
        walk_at "go"
        refine any_ok (deal_app d) hc3 (by omega) (by omega) fun v cs4 b4 v1 v2 hc4 => ?_
        rw [put_app d]
        walk_at "go"
        refine opt_ok (lsD_at (gl _ _ _)) ?_
        walk_at "go"
        have hv : v.toNat < o.length := by omega
        refine w_popAt (i := v) (k := v.toNat) (y := .int (o[v.toNat])) (lsD_at (gl _ _ _)) (by omega) (by omega) (by rw [List.getElem?_map, List.getElem?_eq_getElem hv]; rfl) ?_
        rw [sl, ← map_erase]
        walk_at "go"
        refine opt_ok (lsD_at (gl _ _ _)) ?_
        walk_at "go"
        refine w_lenC (lsD_at (gl _ _ _)) ?_
        walk_at "go"
        refine of_ok (deal_app d) hc4 (.inl rfl) (by simp) (by simp) rfl fun z cs5 b5 hz hc5 => ?_
        rw [put_app d]
        obtain ⟨w, rfl, hw1, hw2⟩ : ∃ w : Int, z = .int w ∧ -2 ≤ w ∧ w ≤ 2 := by
          simp only [List.mem_cons, List.not_mem_nil, or_false] at hz
          rcases hz with rfl | rfl | rfl | rfl <;> exact ⟨_, rfl, by decide, by decide⟩
        walk_at "go"
        generalize hi : (if (if v + w < (((o.eraseIdx v.toNat).map D.int).length : Int) then v + w else (((o.eraseIdx v.toNat).map D.int).length : Int)) > 0 then (if v + w < (((o.eraseIdx v.toNat).map D.int).length : Int) then v + w else (((o.eraseIdx v.toNat).map D.int).length : Int)) else 0) = i
        have hll : ((o.eraseIdx v.toNat).map D.int).length = many - 1 := by rw [List.length_map, List.length_eraseIdx_of_lt hv]; omega
        rw [hll] at hi
        have hi2 : 0 ≤ i ∧ i ≤ 2000 := by
          subst hi
          constructor <;> (split <;> (try split) <;> omega)
        refine w_ins (lsD_at (gl _ _ _)) ⟨line_lt (by rw [hll]; omega), hi2.1, by omega⟩ ?_
        rw [sl, ← List.map_take, ← List.map_drop]
        have em : (List.map D.int (List.take i.toNat (o.eraseIdx v.toNat)) ++ [D.int o[v.toNat]] ++ List.map D.int (List.drop i.toNat (o.eraseIdx v.toNat))) = (List.take i.toNat (o.eraseIdx v.toNat) ++ [o[v.toNat]] ++ List.drop i.toNat (o.eraseIdx v.toNat)).map D.int := by simp
        rw [em]
        refine ⟨_, cs5, b5, _, _, _, rfl, rfl, ?_, hc5⟩
        refine List.Perm.trans ?_ ho
        refine List.Perm.trans ?_ (perm_out (List.getElem?_eq_getElem hv))
        rw [List.append_assoc]
        show (List.take i.toNat (o.eraseIdx v.toNat) ++ o[v.toNat] :: List.drop i.toNat (o.eraseIdx v.toNat)).Perm _
        refine List.perm_middle.trans ?_
        rw [List.take_append_drop]
      · rintro r C1 ⟨o, cs3, b3, x4, x5, x6, rfl, rfl, ho, hc3⟩
        walk_at "go"
        refine w_tupC (lsD_at (n := C.length) (xs := o.map D.int) (by rw [List.getElem?_append_right (by rw [putD_len]; exact Nat.le_refl _), putD_len]; simp)) ?_
        exact fin_any (ed _ _) (los_ints _ _) (putD_lo hlc d.lm) (k o cs3 b3 ho hc3)
/-- a drawn hall -/
structure HallOf (many most : Nat) (hs : List (Int × List Int)) : Prop extends Hall many hs where
  some' : hs ≠ []
  few : hs.length ≤ 1000
  most' : ∀ p ∈ hs, p.1 ≤ most
theorem hall_ok {n m pe pl se : Nat} {cs : List Int} {b : Int} {C : Cs} {Q : QD} {E : XQ} (d : Deal n m cs b C) (hl : cs.length ≤ 48) (h1 : 1 ≤ pe ∧ pe ≤ 500) (h2 : 1 ≤ pl ∧ pl ≤ 500) (h3 : 1 ≤ se ∧ se ≤ 500)
    (k : ∀ (many : Nat) (hs : List (Int × List Int)) (cs' : List Int) b', 1 ≤ many → many ≤ pe → hs.length ≤ pl → HallOf many se hs → cs'.length ≤ 48 → Q (hallD hs) (putD n m cs' b' C)) : sp_law_hall [.cel n, .int (pe : Nat), .int (pl : Nat), .int (se : Nat)] C Q E := by
  intro _ hlc
  have big : (2 : Int) ^ 24 = 16777216 := by decide
  have ed : ∀ cs' b', (putD n m cs' b' C).length = C.length := fun _ _ => putD_len
  unfold rd_law_hall
  walk_at "go"
  refine any_ok d hl (by omega) (by omega) fun v cs1 b1 v1 v2 hc1 => ?_
  walk_at "go"
  obtain ⟨many, em, hm1, hm2⟩ : ∃ many : Nat, 1 + v = ((many : Nat) : Int) ∧ 1 ≤ many ∧ many ≤ pe := ⟨(1 + v).toNat, by omega, by omega, by omega⟩
  rw [em, putD_len]
  refine any_ok (deal_app d) hc1 (by omega) (by omega) fun v2' cs2 b2 _ _ hc2 => ?_
  rw [put_app d]
  walk_at "go"
  refine w_eqI ?_
  -- behind like
  have rest : ∀ (like : D) (csx : List Int) (bx : Int), csx.length ≤ 48 → (like = .non ∨ ∃ o : List Int, like = ordD o ∧ o.Perm (rng many)) →
      sSeq (sFor (iR1 (dOp oAdd (dC (.int 1)) (dCall sp_law_any (fun cls od _ C' => finX C od C' fun od' C2 => E cls od' C2) (dCons (dVar 0) (dCons (dVar 2) dNil))))) (gN 5) (sDrop (dMl oApp (dVar 7) (dCons (dTup (dCons (dOp oAdd (dC (.int 1)) (dCall sp_law_any (fun cls od _ C' => finX C od C' fun od' C2 => E cls od' C2) (dCons (dVar 0) (dCons (dVar 3) dNil)))) (dCons (dCall sp_law_order (fun cls od _ C' => finX C od C' fun od' C2 => E cls od' C2) (dCons (dVar 0) (dCons (dVar 6) (dCons (dVar 4) dNil)))) dNil))) dNil))))
        (sRet (dCB oTuple (dCons (dVar 7) dNil)))
        { nx := fun _ C' => fin C .non C' Q, rt := fun d C' => fin C d C' Q } [some (.cel n), some (.int (pe : Nat)), some (.int (pl : Nat)), some (.int (se : Nat)), some like, none, some (.int (many : Nat)), some (.cel C.length)] (putD n m csx bx C ++ [Cl.lst []]) := fun like csx bx hcx hk => by
    walk_at "go"
    refine any_ok (deal_app d) hcx (by omega) (by omega) fun w cs3 b3 w1 w2 hc3 => ?_
    rw [put_app d]
    walk_at "go"
    refine ⟨⟨by omega, by omega⟩, ?_⟩
    refine ⟨fun c r C1 => ∃ (hs : List (Int × List Int)) (cs4 : List Int) (b4 : Int) (x5 : Option D), r = [some (.cel n), some (.int (pe : Nat)), some (.int (pl : Nat)), some (.int (se : Nat)), some like, x5, some (.int (many : Nat)), some (.cel C.length)] ∧ C1 = putD n m cs4 b4 C ++ [Cl.lst (hs.map plD)] ∧ hs.length = c ∧ Hall many hs ∧ (∀ p ∈ hs, p.1 ≤ se) ∧ cs4.length ≤ 48,
      ⟨[], cs3, b3, none, rfl, rfl, rfl, ⟨by simp, by simp⟩, by simp, hc3⟩, fun _ _ _ _ _ => trivial, ?_, ?_⟩
    · rintro c dd r C1 hd ⟨hs, cs4, b4, x5, rfl, rfl, hlen, hall, hmost, hc4⟩
      have hc : hs.length < 1000 := by
        have := (List.getElem?_eq_some_iff.mp hd).1
        rw [rngD_length] at this
        omega
      have gl : ∀ (cs : List Int) (b : Int), (putD n m cs b C ++ [Cl.lst (hs.map plD)])[C.length]? = some (.lst (hs.map plD)) := fun cs b => by
        rw [List.getElem?_append_right (by rw [putD_len]; exact Nat.le_refl _), putD_len]
        simp
      walk_at "go"
      refine opt_ok (lsD_at (gl _ _)) ?_
      walk_at "go"
      refine any_ok (deal_app d) hc4 (by omega) (by omega) fun s cs5 b5 s1 s2 hc5 => ?_
      rw [put_app d]
      walk_at "go"
      refine order_ok (deal_app d) hc5 (by omega) (by omega) hk fun o cs6 b6 ho hc6 => ?_
      rw [put_app d]
      walk_at "go"
      refine w_app (lsD_at (gl _ _)) (line_lt (by rw [List.length_map]; omega)) ?_
      have es : (putD n m cs6 b6 C ++ [Cl.lst (hs.map plD)]).set C.length (.lst (hs.map plD ++ [.tup [.int (1 + s), ordD o]])) = putD n m cs6 b6 C ++ [Cl.lst ((hs ++ [(1 + s, o)]).map plD)] := by
        rw [List.set_append_right _ _ (by rw [putD_len]; exact Nat.le_refl _), putD_len]
        simp
      rw [es]
      refine ⟨hs ++ [(1 + s, o)], cs6, b6, _, rfl, rfl, by rw [List.length_append, hlen]; rfl, ⟨fun p hp => ?_, fun p hp => ?_⟩, fun p hp => ?_, hc6⟩
      · rcases List.mem_append.mp hp with z | z
        · exact hall.seats p z
        · rw [List.mem_singleton.mp z]; show 1 ≤ 1 + s; omega
      · rcases List.mem_append.mp hp with z | z
        · exact hall.order p z
        · rw [List.mem_singleton.mp z]; exact ho
      · rcases List.mem_append.mp hp with z | z
        · exact hmost p z
        · rw [List.mem_singleton.mp z]; show 1 + s ≤ se; omega
    · rintro r C1 ⟨hs, cs4, b4, x5, rfl, rfl, hlen, hall, hmost, hc4⟩
      rw [rngD_length] at hlen
      walk_at "go"
      refine w_tupC (lsD_at (n := C.length) (xs := hs.map plD) (by rw [List.getElem?_append_right (by rw [putD_len]; exact Nat.le_refl _), putD_len]; simp)) ?_
      exact fin_any (ed _ _) (los_plD _ hs) (putD_lo hlc d.lm) (k many hs cs4 b4 hm1 hm2 (by omega) ⟨hall, (fun e => by rw [e] at hlen; simp at hlen; omega), by omega, hmost⟩ hc4)
  refine ite_dec (fun hz => ?_) (fun hz => ?_)
  · walk_at "on"
    refine order_ok (deal_app d) hc2 (by omega) (by omega) (.inl rfl) fun o cs3 b3 ho hc3 => ?_
    rw [put_app d]
    exact rest (ordD o) cs3 b3 hc3 (.inr ⟨o, rfl, ho⟩)
  · walk_at "on"
    exact rest .non cs2 b2 hc2 (.inl rfl)
/-! ### the law's wishes -/
/-- lists of wishes: no place twice, only places -/
def WOk (places : Nat) (w : List Int) : Prop := w.Nodup ∧ ∀ x ∈ w, 0 ≤ x ∧ x < places
theorem WOk.of_perm {places : Nat} {o : List Int} (h : o.Perm (rng places)) : WOk places o := ⟨h.nodup_iff.mpr (rng_nodup places), fun x hx => rng_mem (h.subset hx)⟩
theorem WOk.sub {places : Nat} {o w : List Int} (h : WOk places o) (s : w.Sublist o) : WOk places w := ⟨h.1.sublist s, fun x hx => h.2 x (s.subset hx)⟩
theorem WOk.len {places : Nat} {w : List Int} (h : WOk places w) : w.length ≤ places := by
  have := List.Nodup.length_le_of_subset h.1 (l₂ := rng places) fun x hx => by
    obtain ⟨h1, h2⟩ := h.2 x hx
    exact List.mem_map.mpr ⟨x.toNat, List.mem_range.mpr (by omega), by omega⟩
  rwa [rng_len] at this
theorem list_ok {n m places : Nat} {cs : List Int} {b : Int} {C : Cs} {Q : QD} {E : XQ} {like : D} (d : Deal n m cs b C) (hl : cs.length ≤ 48) (h1 : 1 ≤ places) (h2 : places ≤ 1000) (hk : like = .non ∨ ∃ o : List Int, (like = .lst (o.map D.int) ∨ like = ordD o) ∧ o.Perm (rng places))
    (k : ∀ (w cs' : List Int) b', WOk places w → cs'.length ≤ 48 → Q (ordD w) (putD n m cs' b' C)) : sp_law_list [.cel n, .int (places : Nat), like] C Q E := by
  intro _ hlc
  have ed : ∀ cs' b', (putD n m cs' b' C).length = C.length := fun _ _ => putD_len
  have anew : ∀ (csx : List Int) (bx : Int), csx.length ≤ 48 → ∀ (Qx : QD) (Ex : XQ), (∀ (o : List Int) (cs' : List Int) (b' : Int), o.Perm (rng places) → cs'.length ≤ 48 → Qx (.lst (o.map D.int)) (putD n m cs' b' C)) →
      sp_law_mixed [.cel n, .lst (rngD 0 (((places : Nat) : Int) - 0).toNat)] (putD n m csx bx C) Qx Ex := fun csx bx hcx Qx Ex kk => by
    rw [rng_eq, Int.toNat_natCast]
    refine mixed_lst (d.put) hcx (.inl rfl) (by rw [List.length_map, rng_len]; omega) (los_ints _ _) (shps_ints _ _) fun ys cs' b' hp hc' => ?_
    rw [putD_put d.ne]
    obtain ⟨o, rfl, ho⟩ := perm_ints hp
    exact kk o cs' b' ho hc'
  -- behind the order
  have rest : ∀ (o csx : List Int) (bx : Int), csx.length ≤ 48 → o.Perm (rng places) →
      sSeq (sSet 4 (dCall sp_law_any (fun cls od _ C' => finX C od C' fun od' C2 => E cls od' C2) (dCons (dVar 0) (dCons (dC (.int 4)) dNil))))
        (sRet (dIf (dTest (dOp oLt (dVar 4) (dC (.int 2)))) (dCB oTuple (dCons (dVar 3) dNil)) (dIf (dTest (dOp oEq (dVar 4) (dC (.int 2)))) (dCB oTuple (dCons (dSl oSl (dVar 3) dNo (dPart (dCall sp_law_any (fun cls od _ C' => finX C od C' fun od' C2 => E cls od' C2) (dCons (dVar 0) (dCons (dOp oAdd (dVar 1) (dC (.int 1))) dNil))))) dNil)) (dCB oTuple (dCons (dLcB false (iSeq (dVar 3)) (gN 5) (dTest (dOp oGt (dCall sp_law_any W0 (dCons (dVar 0) (dCons (dC (.int 3)) dNil))) (dC (.int 0)))) (dVar 5) [5]) dNil)))))
        { nx := fun _ C' => fin C .non C' Q, rt := fun d C' => fin C d C' Q } [some (.cel n), some (.int (places : Nat)), some like, some (.lst (o.map D.int)), none, none] (putD n m csx bx C) := fun o csx bx hcx ho => by
    have wo := WOk.of_perm ho
    walk_at "go"
    refine any_ok d.put hcx (by omega) (by omega) fun f cs1 b1 _ _ hc1 => ?_
    rw [putD_put d.ne]
    walk_at "go"
    refine ite_dec (fun hf => ?_) (fun hf => ?_)
    · walk_at "go"
      exact fin_any0 (ed _ _) (los_ints _ _) (putD_lo hlc d.lm) (k o cs1 b1 wo hc1)
    · walk_at "go"
      refine w_eqI ?_
      refine ite_dec (fun hf => ?_) (fun hf => ?_)
      · walk_at "go"
        refine any_ok d.put hc1 (by omega) (by omega) fun v cs2 b2 v1 v2 hc2 => ?_
        rw [putD_put d.ne]
        walk_at "go"
        rw [cutD_hiI _ v1, ← List.map_take]
        exact fin_any0 (ed _ _) (los_ints _ _) (putD_lo hlc d.lm) (k _ cs2 b2 (wo.sub (List.take_sublist _ _)) hc2)
      · walk_at "go"
        refine ⟨fun c acc C1 => ∃ (w cs2 : List Int) (b2 : Int), acc = w.map D.int ∧ C1 = putD n m cs2 b2 C ∧ w.Sublist (o.take c) ∧ cs2.length ≤ 48, ⟨[], cs1, b1, rfl, rfl, List.nil_sublist _, hc1⟩, fun _ _ _ _ _ => rfl, ?_, ?_⟩
        · rintro c dd acc C1 hd ⟨w, cs2, b2, rfl, rfl, hw, hc2⟩
          rw [List.getElem?_map] at hd
          cases hx : o[c]? with
          | none => rw [hx] at hd; cases hd
          | some x =>
            rw [hx] at hd
            obtain rfl : D.int x = dd := by simpa using hd
            have et : o.take (c + 1) = o.take c ++ [x] := by rw [List.take_add_one, hx]; rfl
            walk_at "go"
            refine any_ok d.put hc2 (by omega) (by omega) fun v cs3 b3 v1 v2 hc3 => ?_
            rw [putD_put d.ne]
            walk_at "go"
            refine ite_dec (fun hv => ?_) (fun hv => ?_)
            · walk_at "go"
              exact ⟨w ++ [x], cs3, b3, by simp, rfl, by rw [et]; exact hw.append (List.Sublist.refl _), hc3⟩
            · exact ⟨w, cs3, b3, rfl, rfl, by rw [et]; exact hw.trans (List.sublist_append_left _ _), hc3⟩
        · rintro acc C1 ⟨w, cs2, b2, rfl, rfl, hw, hc2⟩
          rw [List.length_map, List.take_length] at hw
          refine ite_false' ?_
          walk_at "go"
          exact fin_any0 (ed _ _) (los_ints _ _) (putD_lo hlc d.lm) (k w cs2 b2 (wo.sub hw) hc2)
  unfold rd_law_list
  rcases hk with rfl | ⟨o0, hlk, ho0⟩
  · refine v_seq ?_
    walk_at "on"
    refine ⟨⟨by omega, by omega, by omega, by omega, by omega⟩, ite_false' ?_⟩
    walk_at "on"
    rw [← putD_self d]
    refine anew cs b hl _ _ fun o cs' b' ho hc' => ?_
    rw [putD_self d]
    exact rest o cs' b' hc' ho
  · rcases hlk with rfl | rfl
    · refine v_seq ?_
      walk_at "on"
      refine any_ok d hl (by omega) (by omega) fun v cs1 b1 v1 v2 hc1 => ?_
      walk_at "on"
      refine w_eqI ?_
      refine ite_dec (fun hz => ?_) (fun hz => ?_)
      · walk_at "on"
        refine ⟨⟨by omega, by omega, by omega, by omega, by omega⟩, ite_false' ?_⟩
        walk_at "on"
        refine anew cs1 b1 hc1 _ _ fun o cs' b' ho hc' => ?_
        exact rest o cs' b' hc' ho
      · walk_at "on"
        exact rest o0 cs1 b1 hc1 ho0
    · refine v_seq ?_
      walk_at "on"
      refine any_ok d hl (by omega) (by omega) fun v cs1 b1 v1 v2 hc1 => ?_
      walk_at "on"
      refine w_eqI ?_
      refine ite_dec (fun hz => ?_) (fun hz => ?_)
      · walk_at "on"
        refine ⟨⟨by omega, by omega, by omega, by omega, by omega⟩, ite_false' ?_⟩
        walk_at "on"
        refine anew cs1 b1 hc1 _ _ fun o cs' b' ho hc' => ?_
        exact rest o cs' b' hc' ho
      · walk_at "on"
        exact rest o0 cs1 b1 hc1 ho0
abbrev wishD (ws : List (List Int)) : D := .tup (ws.map ordD)
/-- drawn wishes -/
structure Wish (many places : Nat) (ws : List (List Int)) : Prop where
  len : ws.length = many
  ok : ∀ w ∈ ws, WOk places w
theorem wishes_ok {n m many se : Nat} {hs : List (Int × List Int)} {cs : List Int} {b : Int} {C : Cs} {Q : QD} {E : XQ} (d : Deal n m cs b C) (hl : cs.length ≤ 48) (hh : HallOf many se hs)
    (k : ∀ (ws : List (List Int)) (cs' : List Int) b', Wish many hs.length ws → cs'.length ≤ 48 → Q (wishD ws) (putD n m cs' b' C)) : sp_law_wishes [.cel n, hallD hs] C Q E := by
  intro _ hlc
  have ed : ∀ cs' b', (putD n m cs' b' C).length = C.length := fun _ _ => putD_len
  have hpos : 1 ≤ hs.length := List.length_pos_iff.mpr hh.some'
  have hfew := hh.few
  obtain ⟨p0, h0⟩ : ∃ p, hs[0]? = some p := ⟨hs[0], List.getElem?_eq_getElem hpos⟩
  have hp0 : p0 ∈ hs := List.mem_of_getElem? h0
  have rest : ∀ (like : D) (csx : List Int) (bx : Int), csx.length ≤ 48 → (like = .non ∨ ∃ o : List Int, (like = .lst (o.map D.int) ∨ like = ordD o) ∧ o.Perm (rng hs.length)) →
      sRet (dCB oTuple (dCons (dLcB false (iSeq (dOp oIx (dOp oIx (dVar 1) (dC (.int 0))) (dC (.int 1)))) (gN 4) cNil (dCall sp_law_list W0 (dCons (dVar 0) (dCons (dVar 2) (dCons (dVar 3) dNil)))) [4]) dNil))
        { nx := fun _ C' => fin C .non C' Q, rt := fun d C' => fin C d C' Q } [some (.cel n), some (hallD hs), some (.int (hs.length : Nat)), some like, none] (putD n m csx bx C) := fun like csx bx hcx hk => by
    walk_at "go"
    refine w_ixT (hall_at (n := 0) rfl h0) ?_
    walk_at "go"
    refine ⟨fun c acc C1 => ∃ (ws : List (List Int)) (cs2 : List Int) (b2 : Int), acc = ws.map ordD ∧ C1 = putD n m cs2 b2 C ∧ ws.length = c ∧ (∀ w ∈ ws, WOk hs.length w) ∧ cs2.length ≤ 48, ⟨[], csx, bx, rfl, rfl, rfl, by simp, hcx⟩, fun _ _ _ _ _ => rfl, ?_, ?_⟩
    · rintro c dd acc C1 hd ⟨ws, cs2, b2, rfl, rfl, hlen, hw, hc2⟩
      rw [List.getElem?_map] at hd
      cases hx : p0.2[c]? with
      | none => rw [hx] at hd; cases hd
      | some x =>
        rw [hx] at hd
        obtain rfl : D.int x = dd := by simpa using hd
        walk_at "go"
        refine list_ok d.put hc2 hpos hfew hk fun w cs3 b3 hw' hc3 => ?_
        rw [putD_put d.ne]
        refine ⟨ws ++ [w], cs3, b3, by simp, rfl, by rw [List.length_append, hlen]; rfl, fun y hy => ?_, hc3⟩
        rcases List.mem_append.mp hy with z | z
        · exact hw y z
        · rw [List.mem_singleton.mp z]; exact hw'
    · rintro acc C1 ⟨ws, cs2, b2, rfl, rfl, hlen, hw, hc2⟩
      rw [List.length_map] at hlen
      refine ite_false' ?_
      walk_at "go"
      refine fin_any0 (ed _ _) (los_ordD _ ws) (putD_lo hlc d.lm) (k ws cs2 b2 ⟨?_, hw⟩ hc2)
      rw [hlen, (hh.order p0 hp0).length_eq, rng_len]
  unfold rd_law_wishes
  refine v_seq ?_
  walk_at "on"
  refine v_seq ?_
  walk_at "on"
  rw [List.length_map]
  refine any_ok d hl (by omega) (by omega) fun v cs1 b1 v1 v2 hc1 => ?_
  walk_at "on"
  refine w_eqI ?_
  refine ite_dec (fun hz => ?_) (fun hz => ?_)
  · walk_at "on"
    refine ⟨⟨by omega, by omega, by omega, by omega, by omega⟩, ite_false' ?_⟩
    walk_at "on"
    rw [rng_eq, Int.toNat_natCast]
    refine mixed_lst (d.put) hc1 (.inl rfl) (by rw [List.length_map, rng_len]; omega) (los_ints _ _) (shps_ints _ _) fun ys cs' b' hp hc' => ?_
    rw [putD_put d.ne]
    obtain ⟨o, rfl, ho⟩ := perm_ints hp
    exact rest _ cs' b' hc' (.inr ⟨o, .inl rfl, ho⟩)
  · walk_at "on"
    exact rest .non cs1 b1 hc1 (.inl rfl)
abbrev oD : Option Int → D
  | none => .non
  | some i => .int i
def spot (w : List Int) : Option Int → Nat
  | none => w.length
  | some p => if w.contains p = true then w.idxOf p else w.length + 1
theorem spot_some (w : List Int) (p : Int) : spot w (some p) = if w.contains p = true then w.idxOf p else w.length + 1 := rfl
theorem spot_ok {w : List Int} {x : Option Int} {C : Cs} {Q : QD} {E : XQ} (k : Q (.int (spot w x : Nat)) C) : sp_law_spot [ordD w, oD x] C Q E := by
  intro _ _
  unfold rd_law_spot
  cases x with
  | none =>
    walk_at "go"
    rw [List.length_map]
    exact fin_same0 rfl k
  | some p =>
    walk_at "go"
    refine w_inT ?_
    refine ite_b (fun hb => ?_) (fun hb => ?_)
    · walk_at "go"
      refine w_idxT (List.contains_iff_mem.mp hb) ?_
      rw [spot_some, if_pos hb] at k
      exact fin_same0 rfl k
    · walk_at "go"
      rw [spot_some, if_neg (by rw [hb]; exact Bool.false_ne_true)] at k
      rw [List.length_map]
      exact fin_same0 rfl k
/-! ### who is dealt a place -/
abbrev dealD (dl : List (Option Int)) : D := .tup (dl.map oD)
def en (dl : List (Option Int)) : List (Nat × Option Int) := dl.mapIdx fun i x => (i, x)
def atL (dl : List (Option Int)) (p : Int) : List Int := (en dl).filterMap fun y => if y.2 = some p then some ((y.1 : Nat) : Int) else none
theorem en_eq (dl : List (Option Int)) : enumD (dl.map oD) = (en dl).map fun y => D.tup [.int (y.1 : Nat), oD y.2] := by
  unfold enumD en
  refine List.ext_getElem? fun i => ?_
  rw [List.getElem?_mapIdx, List.getElem?_map, List.getElem?_map, List.getElem?_mapIdx]
  cases dl[i]? <;> rfl
theorem en_mem {dl : List (Option Int)} {y : Nat × Option Int} (h : y ∈ en dl) : dl[y.1]? = some y.2 := by
  obtain ⟨i, e⟩ := List.mem_iff_getElem?.mp h
  unfold en at e
  rw [List.getElem?_mapIdx] at e
  cases hx : dl[i]? with
  | none => rw [hx] at e; cases e
  | some x =>
    rw [hx] at e
    obtain rfl : (i, x) = y := by simpa using e
    exact hx
theorem atL_mem {dl : List (Option Int)} {p x : Int} (h : x ∈ atL dl p) : 0 ≤ x ∧ dl[x.toNat]? = some (some p) := by
  obtain ⟨y, hy, e⟩ := List.mem_filterMap.mp h
  by_cases hp : y.2 = some p
  · rw [if_pos hp] at e
    have ex : ((y.1 : Nat) : Int) = x := by simpa using e
    refine ⟨by omega, ?_⟩
    have := en_mem hy
    rw [hp] at this
    rw [← ex, Int.toNat_natCast]
    exact this
  · rw [if_neg hp] at e
    cases e
theorem fm_oi {α : Type} (f : α → Option Int) : ∀ xs : List α, xs.filterMap (fun y => (f y).map D.int) = (xs.filterMap f).map D.int
  | [] => rfl
  | x :: xs => by
    have ih := fm_oi f xs
    cases h : f x with
    | none => simp [h, ih]
    | some y => simp [h, ih]
theorem at_ok {dl : List (Option Int)} {p : Int} {C : Cs} {Q : QD} {E : XQ} {x : D} (hx : x = dealD dl ∨ x = .lst (dl.map oD) ∨ ∃ n, x = .cel n ∧ C[n]? = some (.lst (dl.map oD))) (k : Q (.lst ((atL dl p).map D.int)) C) : sp_law_at [x, .int p] C Q E := by
  intro _ hlc
  have hs : sqD C x = some (dl.map oD) := by
    rcases hx with rfl | rfl | ⟨n, rfl, e⟩
    · rfl
    · rfl
    · exact lsD_at e
  unfold rd_law_at
  walk_at "go"
  refine opt_ok hs ?_
  refine lc_ok (xs := en dl) (e := fun y => D.tup [.int (y.1 : Nat), oD y.2]) (fun y => (if y.2 = some p then some ((y.1 : Nat) : Int) else none).map D.int) (by rw [en_eq]) hs (fun y hy Y Z h => ?_) (ite_false' ?_)
  · obtain ⟨i, z⟩ := y
    unfold lcK at h
    cases z with
    | none =>
      walk_at "go"
      exact h
    | some q =>
      walk_at "go"
      refine w_eqI ?_
      refine ite_dec (fun hq => ?_) (fun hq => ?_)
      · subst hq
        rw [if_pos rfl] at h
        walk_at "go"
        exact h
      · rw [if_neg (fun e => hq (by simpa using e))] at h
        exact h
  rw [fm_oi]
  exact fin_same0 (los_ints _ _) k
/-! ### the law's dealings -/
/-- dealings: a wished place or none -/
structure Dl (ws : List (List Int)) (dl : List (Option Int)) : Prop where
  len : dl.length = ws.length
  ok : ∀ (i : Nat) p, dl[i]? = some (some p) → ∃ w, ws[i]? = some w ∧ p ∈ w
theorem Dl.none (ws : List (List Int)) : Dl ws (ws.map fun _ => Option.none) := ⟨by simp, fun i p h => by
  rw [List.getElem?_map] at h
  cases e : ws[i]? <;> rw [e] at h <;> cases h⟩
theorem Dl.set {ws : List (List Int)} {dl : List (Option Int)} (h : Dl ws dl) {i : Nat} {p : Int} {w : List Int} (hw : ws[i]? = some w) (hp : p ∈ w) : Dl ws (dl.set i (some p)) := by
  refine ⟨by rw [List.length_set]; exact h.len, fun j q e => ?_⟩
  rw [List.getElem?_set] at e
  by_cases hj : i = j
  · subst hj
    rw [if_pos rfl] at e
    split at e
    · obtain rfl : p = q := by simpa using e
      exact ⟨w, hw, hp⟩
    · cases e
  · rw [if_neg hj] at e
    exact h.ok j q e
theorem Dl.clr {ws : List (List Int)} {dl : List (Option Int)} (h : Dl ws dl) (i : Nat) : Dl ws (dl.set i Option.none) := by
  refine ⟨by rw [List.length_set]; exact h.len, fun j q e => ?_⟩
  rw [List.getElem?_set] at e
  by_cases hj : i = j
  · subst hj
    rw [if_pos rfl] at e
    split at e <;> cases e
  · rw [if_neg hj] at e
    exact h.ok j q e
theorem map_set' {α β : Type} (f : α → β) (xs : List α) (i : Nat) (y : α) : (xs.map f).set i (f y) = (xs.set i y).map f := by
  rw [List.map_set]
def natD (k : Nat) : D := .int (k : Nat)
/-- what is still to be offered -/
def todo : List (List Int) → List Nat → Nat
  | w :: ws, a :: as => (w.length - a) + todo ws as
  | _, _ => 0
theorem todo_set : ∀ {ws : List (List Int)} {as : List Nat} {i a : Nat} {w : List Int}, ws[i]? = some w → as[i]? = some a → a < w.length → todo ws (as.set i (a + 1)) + 1 = todo ws as
  | [], _, _, _, _, h, _, _ => by simp at h
  | _ :: _, [], _, _, _, _, h, _ => by simp at h
  | w :: ws, b :: as, 0, a, v, h1, h2, h3 => by
    obtain rfl : w = v := by simpa using h1
    obtain rfl : b = a := by simpa using h2
    show (w.length - (b + 1)) + todo ws as + 1 = (w.length - b) + todo ws as
    omega
  | w :: ws, b :: as, i + 1, a, v, h1, h2, h3 => by
    have ih := todo_set (ws := ws) (as := as) (i := i) (by simpa using h1) (by simpa using h2) h3
    show (w.length - b) + todo ws (as.set i (a + 1)) + 1 = (w.length - b) + todo ws as
    omega
theorem los_oD (k : Nat) : ∀ dl : List (Option Int), los k (dl.map oD) = true
  | [] => rfl
  | x :: dl => by
    show (DL.lo k (oD x) && los k (dl.map oD)) = true
    rw [los_oD k dl]
    cases x <;> rfl
theorem place_at {hs : List (Int × List Int)} {ws : List (List Int)} {i : Nat} {w : List Int} {p : Int} {many : Nat} (hw : Wish many hs.length ws) (e : ws[i]? = some w) (hp : p ∈ w) : ∃ q, hs[p.toNat]? = some q ∧ q ∈ hs ∧ 0 ≤ p := by
  obtain ⟨h1, h2⟩ := (hw.ok w (List.mem_of_getElem? e)).2 p hp
  have : p.toNat < hs.length := by omega
  exact ⟨hs[p.toNat], List.getElem?_eq_getElem this, List.getElem_mem _, h1⟩
theorem fm_const {α : Type} (c : D) : ∀ xs : List α, xs.filterMap (fun _ => some c) = xs.map fun _ => c
  | [] => rfl
  | x :: xs => by
    rw [List.filterMap_cons, fm_const c xs]
    rfl
theorem offers_ok {many se : Nat} {hs : List (Int × List Int)} {ws : List (List Int)} {C : Cs} {Q : QD} {E : XQ} (hh : HallOf many se hs) (hw : Wish many hs.length ws) (hm : many ≤ 1000)
    (k : ∀ dl, Dl ws dl → Q (dealD dl) C) : sp_law_offers [hallD hs, wishD ws] C Q E := by
  intro _ hlc
  have hwl := hw.len
  unfold rd_law_offers
  walk_at "go"
  refine lc_ok (xs := ws) (e := ordD) (fun _ => some (oD none)) (by rfl) (by rfl) (fun x hx Y Z h => ?_) (ite_true' ?_)
  · walk_at "go"
    exact h
  walk_at "go"
  refine lc_ok (xs := ws) (e := ordD) (fun _ => some (natD 0)) (by rfl) (by rfl) (fun x hx Y Z h => ?_) (ite_true' ?_)
  · walk_at "go"
    exact h
  walk_at "go"
  rw [List.length_map]
  refine ⟨⟨by omega, by omega, by omega, by omega, by omega⟩, ite_true' ?_⟩
  rw [rng_eq, Int.toNat_natCast]
  have e1 : ws.filterMap (fun _ => some (oD none)) = (ws.map fun _ => (none : Option Int)).map oD := by
    rw [fm_const, List.map_map]
    rfl
  have e2 : ws.filterMap (fun _ => some (natD 0)) = (ws.map fun _ => (0 : Nat)).map natD := by
    rw [fm_const, List.map_map]
    rfl
  rw [e1, e2]
  have lC : ∀ (x y : Cl), (C ++ [x] ++ [y]).length = C.length + 2 := fun x y => by simp
  have lC1 : ∀ (x : Cl), (C ++ [x]).length = C.length + 1 := fun x => by simp
  walk_at "go"
  rw [lC, lC1]
  have eC : ∀ x y z : Cl, C ++ [x] ++ [y] ++ [z] = C ++ [x, y, z] := fun x y z => by simp
  rw [eC]
  have g0 : ∀ x y z : List D, (C ++ [Cl.lst x, Cl.lst y, Cl.lst z])[C.length]? = some (.lst x) := fun x y z => by
    rw [List.getElem?_append_right (Nat.le_refl _)]; simp
  have g1 : ∀ x y z : List D, (C ++ [Cl.lst x, Cl.lst y, Cl.lst z])[C.length + 1]? = some (.lst y) := fun x y z => by
    rw [List.getElem?_append_right (by omega)]; simp
  have g2 : ∀ x y z : List D, (C ++ [Cl.lst x, Cl.lst y, Cl.lst z])[C.length + 2]? = some (.lst z) := fun x y z => by
    rw [List.getElem?_append_right (by omega)]; simp
  have s0 : ∀ x y z u : List D, (C ++ [Cl.lst x, Cl.lst y, Cl.lst z]).set C.length (.lst u) = C ++ [Cl.lst u, Cl.lst y, Cl.lst z] := fun x y z u => by
    rw [List.set_append_right _ _ (Nat.le_refl _)]; simp
  have s1 : ∀ x y z u : List D, (C ++ [Cl.lst x, Cl.lst y, Cl.lst z]).set (C.length + 1) (.lst u) = C ++ [Cl.lst x, Cl.lst u, Cl.lst z] := fun x y z u => by
    rw [List.set_append_right _ _ (by omega)]; simp
  have s2 : ∀ x y z u : List D, (C ++ [Cl.lst x, Cl.lst y, Cl.lst z]).set (C.length + 2) (.lst u) = C ++ [Cl.lst x, Cl.lst y, Cl.lst u] := fun x y z u => by
    rw [List.set_append_right _ _ (by omega)]; simp
  refine ⟨fun c r C1 => ∃ (dl : List (Option Int)) (as : List Nat) (fr : List Int) (x5 x6 x7 x9 : Option D), r = [some (hallD hs), some (wishD ws), some (.cel C.length), some (.cel (C.length + 1)), some (.cel (C.length + 2)), x5, x6, x7, none, x9] ∧
      C1 = C ++ [Cl.lst (dl.map oD), Cl.lst (as.map natD), Cl.lst (fr.map D.int)] ∧ Dl ws dl ∧ as.length = ws.length ∧ (∀ f ∈ fr, 0 ≤ f ∧ f < many) ∧ 2 * todo ws as + fr.length = c ∧ fr.length ≤ 2 * many,
    ⟨_, _, _, _, none, none, none, none, rfl, rfl, Dl.none ws, by simp, fun f hf => by have := rng_mem hf; omega, rfl, by rw [rng_len]; omega⟩, ?_⟩
  rintro c r C1 ⟨dl, as, fr, x5, x6, x7, x9, rfl, rfl, hdl, has, hfr, rfl, hfl⟩
  have hdll := hdl.len
  walk_at "go"
  refine w_neNilC (g2 _ _ _) (shps_ints 59 fr) ?_
  rcases snoc_cases fr with rfl | ⟨fs, f, rfl⟩
  · refine ite_nil (fun h => absurd rfl h) (fun _ => ?_)
    walk_at "go"
    refine w_tupC (lsD_at (g0 _ _ _)) ?_
    exact fin_same (los_oD _ dl) (k dl hdl)
  · refine ite_nil (fun _ => ?_) (fun h => by simp at h)
    obtain ⟨hf0, hf1⟩ := hfr f (by simp)
    have hfs : ∀ x ∈ fs, 0 ≤ x ∧ x < many := fun x hx => hfr x (List.mem_append_left _ hx)
    have hfN : f.toNat < ws.length := by omega
    have gw := List.getElem?_eq_getElem hfN
    have ga := List.getElem?_eq_getElem (show f.toNat < as.length by omega)
    have hfl2 : fs.length + 1 ≤ 2 * many := by simpa using hfl
    walk_at "go"
    refine opt_ok (lsD_at (g2 _ _ _)) ?_
    have ep : ((fs ++ [f]).map D.int)[((fs ++ [f]).map D.int).length - 1]? = some (.int f) := by simp
    refine w_pop (lsD_at (g2 _ _ _)) ep ?_
    have ed : ((fs ++ [f]).map D.int).dropLast = fs.map D.int := by simp
    rw [ed, s2]
    walk_at "go"
    have aw : atI (ws.map ordD) f = some (ordD ws[f.toNat]) := atI_n (n := f.toNat) (by omega) (by rw [List.getElem?_map, gw]; rfl)
    have aa : ∀ as' : List Nat, ∀ a, as'[f.toNat]? = some a → atI (as'.map natD) f = some (natD a) := fun as' a h => atI_n (n := f.toNat) (by omega) (by rw [List.getElem?_map, h]; rfl)
    refine w_ixC (lsD_at (g1 _ _ _)) (aa _ _ ga) ?_
    walk_at "go"
    refine w_ixT aw ?_
    walk_at "go"
    refine w_I ?_
    rw [List.length_map]
    refine ite_dec (fun hlt => ?_) (fun hge => ?_)
    · have hlt : as[f.toNat] < ws[f.toNat].length := by omega
      have hp : ws[f.toNat][as[f.toNat]] ∈ ws[f.toNat] := List.getElem_mem _
      generalize hpe : ws[f.toNat][as[f.toNat]] = p at hp
      obtain ⟨q, gq, mq, p0⟩ := place_at hw gw hp
      walk_at "go"
      refine w_ixT aw ?_
      walk_at "go"
      refine w_ixC (lsD_at (g1 _ _ _)) (aa _ _ ga) ?_
      refine w_ixT (d := .int p) (atI_n (n := as[f.toNat]) rfl (by rw [List.getElem?_map, List.getElem?_eq_getElem hlt, hpe]; rfl)) ?_
      walk_at "go"
      refine w_ixC (lsD_at (g1 _ _ _)) (aa _ _ ga) ?_
      walk_at "go"
      refine w_addI ?_
      walk_at "go"
      refine w_setC (k := f.toNat) (lsD_at (g1 _ _ _)) (by omega) (by rw [List.length_map]; omega) ?_
      have en1 : (D.int (((as[f.toNat] : Nat) : Int) + 1)) = natD (as[f.toNat] + 1) := by
        unfold natD
        congr 1
      rw [en1, s1, map_set']
      walk_at "go"
      refine w_setC (k := f.toNat) (lsD_at (g0 _ _ _)) (by omega) (by rw [List.length_map]; omega) ?_
      rw [s0, show D.int p = oD (some p) from rfl, map_set']
      walk_at "go"
      have htodo := todo_set gw ga hlt
      have hdl2 : Dl ws (dl.set f.toNat (some p)) := hdl.set gw hp
      refine at_ok (dl := dl.set f.toNat (some p)) (.inr (.inr ⟨_, rfl, g0 _ _ _⟩)) ?_
      walk_at "go"
      refine w_ixT (hall_at (n := p.toNat) (by omega) gq) ?_
      walk_at "go"
      rw [List.length_map]
      refine ite_dec (fun hgt => ?_) (fun hle => ?_)
      · have hq1 := hh.seats q mq
        walk_at "go"
        refine w_ixT (hall_at (n := p.toNat) (by omega) gq) ?_
        walk_at "go"
        refine lc_ok (xs := q.2) (e := D.int) (fun z => if (atL (dl.set f.toNat (some p)) p).contains z = true then some (D.int z) else none) (by rfl) (by rfl) (fun x hx Y Z h => ?_) (ite_false' ?_)
        · walk_at "go"
          refine w_inL ?_
          unfold lcK at h
          refine ite_b (fun hb => ?_) (fun hb => ?_)
          · rw [if_pos hb] at h
            walk_at "go"
            exact h
          · rw [if_neg (by rw [hb]; exact Bool.false_ne_true)] at h
            exact h
        have ef : q.2.filterMap (fun z => if (atL (dl.set f.toNat (some p)) p).contains z = true then some (D.int z) else none) = (q.2.filter fun z => (atL (dl.set f.toNat (some p)) p).contains z).map D.int := by
          generalize q.2 = o
          induction o with
          | nil => rfl
          | cons x xs ih =>
            by_cases hx : (atL (dl.set f.toNat (some p)) p).contains x = true
            · rw [List.filterMap_cons, if_pos hx, List.filter_cons_of_pos hx, ih]
              rfl
            · rw [List.filterMap_cons, if_neg hx, List.filter_cons_of_neg hx, ih]
        rw [ef]
        have hne : (q.2.filter fun z => (atL (dl.set f.toNat (some p)) p).contains z) ≠ [] := by
          intro e
          have hpos : 0 < (atL (dl.set f.toNat (some p)) p).length := by omega
          have hz : (atL (dl.set f.toNat (some p)) p)[0] ∈ atL (dl.set f.toNat (some p)) p := List.getElem_mem _
          generalize (atL (dl.set f.toNat (some p)) p)[0] = z at hz
          obtain ⟨z0, z1⟩ := atL_mem hz
          have hzl := (List.getElem?_eq_some_iff.mp z1).1
          rw [List.length_set] at hzl
          have : z ∈ q.2 := (hh.order q mq).mem_iff.mpr (List.mem_map.mpr ⟨z.toNat, List.mem_range.mpr (by omega), by omega⟩)
          exact (List.filter_eq_nil_iff.mp e) z this (List.contains_iff_mem.mpr hz)
        obtain ⟨ys, y, ey⟩ : ∃ ys y, (q.2.filter fun z => (atL (dl.set f.toNat (some p)) p).contains z) = ys ++ [y] := by
          rcases snoc_cases (q.2.filter fun z => (atL (dl.set f.toNat (some p)) p).contains z) with e | e
          · exact absurd e hne
          · exact e
        have hy : y ∈ q.2 := by
          have : y ∈ (q.2.filter fun z => (atL (dl.set f.toNat (some p)) p).contains z) := by rw [ey]; simp
          exact (List.mem_filter.mp this).1
        have hyr := rng_mem ((hh.order q mq).subset hy)
        rw [ey]
        walk_at "go"
        refine w_ixL (d := .int y) (by rw [List.map_append]; exact atI_neg1 _ _) ?_
        walk_at "go"
        refine w_setC (k := y.toNat) (lsD_at (g0 _ _ _)) (by omega) (by rw [List.length_map, List.length_set]; omega) ?_
        rw [s0, show D.non = oD none from rfl, map_set']
        walk_at "go"
        refine opt_ok (lsD_at (g2 _ _ _)) ?_
        walk_at "go"
        refine w_app (lsD_at (g2 _ _ _)) (line_lt (by rw [List.length_map]; omega)) ?_
        rw [s2]
        refine ⟨2 * todo ws (as.set f.toNat (as[f.toNat] + 1)) + (fs ++ [y]).length, by simp; omega, _, _, fs ++ [y], _, _, _, _, rfl, by rw [List.map_append]; rfl, hdl2.clr _, by simpa using has, fun z hz => ?_, rfl, by simpa using hfl2⟩
        rcases List.mem_append.mp hz with hz | hz
        · exact hfs z hz
        · rw [List.mem_singleton.mp hz]; exact ⟨hyr.1, by omega⟩
      · exact ⟨2 * todo ws (as.set f.toNat (as[f.toNat] + 1)) + fs.length, by simp; omega, _, _, fs, _, _, _, _, rfl, rfl, hdl2, by simpa using has, hfs, rfl, by omega⟩
    · exact ⟨2 * todo ws as + fs.length, by simp, dl, as, fs, _, _, _, _, rfl, rfl, hdl, has, hfs, rfl, by omega⟩
theorem dealing_ok {n m many se : Nat} {hs : List (Int × List Int)} {ws : List (List Int)} {cs : List Int} {b : Int} {C : Cs} {Q : QD} {E : XQ} (d : Deal n m cs b C) (hl : cs.length ≤ 48) (hh : HallOf many se hs) (hw : Wish many hs.length ws) (hm0 : 1 ≤ many) (hm : many ≤ 1000)
    (k : ∀ dl (cs' : List Int) b', Dl ws dl → cs'.length ≤ 48 → Q (dealD dl) (putD n m cs' b' C)) : sp_law_dealing [.cel n, hallD hs, wishD ws] C Q E := by
  intro _ hlc
  have big : (2 : Int) ^ 24 = 16777216 := by decide
  have ed : ∀ cs' b', (putD n m cs' b' C).length = C.length := fun _ _ => putD_len
  have hwl := hw.len
  -- the loop
  have loop : ∀ (csx : List Int) (bx : Int) (dl : List (Option Int)) (fm : Int), csx.length ≤ 48 → Dl ws dl →
      (∀ (r : Ev) (C1 : Cs) (Qx : List D → (Cs → Prop) → Cs → Prop), r = [some (.cel n), some (hallD hs), some (wishD ws), some (.int fm), some (.cel C.length), none, none, none, none] → C1 = putD n m csx bx C ++ [Cl.lst (dl.map oD)] →
        (∀ (items : List D) (cs1 : List Int) (b1 : Int), items.length ≤ 16777216 → cs1.length ≤ 48 → Qx items (fun _ => True) (putD n m cs1 b1 C ++ [Cl.lst (dl.map oD)])) → (iR1 (dIf (dTest (dOp oLt (dVar 3) (dC (.int 2)))) (dCall sp_law_of (fun cls od _ C' => finX C od C' fun od' C2 => E cls od' C2) (dCons (dVar 0) (dCons (dLst (dCons (dC (.int 0)) (dCons (dC (.int 1)) (dCons (dC (.int 3)) dNil)))) dNil))) (dOp oMul (dC (.int 2)) (dCB oLen (dCons (dVar 2) dNil))))) r C1 Qx) →
      sSeq (sFor (iR1 (dIf (dTest (dOp oLt (dVar 3) (dC (.int 2)))) (dCall sp_law_of (fun cls od _ C' => finX C od C' fun od' C2 => E cls od' C2) (dCons (dVar 0) (dCons (dLst (dCons (dC (.int 0)) (dCons (dC (.int 1)) (dCons (dC (.int 3)) dNil)))) dNil))) (dOp oMul (dC (.int 2)) (dCB oLen (dCons (dVar 2) dNil))))) (gN 5) (sSeq (sSet 6 (dCall sp_law_any (fun cls od _ C' => finX C od C' fun od' C2 => E cls od' C2) (dCons (dVar 0) (dCons (dCB oLen (dCons (dVar 2) dNil)) dNil))))
        (sSeq (sSet 7 (dCall sp_law_of (fun cls od _ C' => finX C od C' fun od' C2 => E cls od' C2) (dCons (dVar 0) (dCons (dOp oAdd (dCB oList (dCons (dOp oIx (dVar 2) (dVar 6)) dNil)) (dLst (dCons (dC .non) dNil))) dNil))))
        (sSeq (sAsg (dC .non) (gSb (dVar 4) (dVar 6)))
        (sIf (dAnd (dTest (dOp (oIs true) (dVar 7) (dC .non))) (dTest (dOp oLt (dCB oLen (dCons (dCall sp_law_at (fun cls od _ C' => finX C od C' fun od' C2 => E cls od' C2) (dCons (dVar 4) (dCons (dVar 7) dNil))) dNil)) (dOp oIx (dOp oIx (dVar 1) (dVar 7)) (dC (.int 0)))))) (sAsg (dVar 7) (gSb (dVar 4) (dVar 6))) sNext)))))
        (sRet (dCB oTuple (dCons (dVar 4) dNil)))
        { nx := fun _ C' => fin C .non C' Q, rt := fun d C' => fin C d C' Q } [some (.cel n), some (hallD hs), some (wishD ws), some (.int fm), some (.cel C.length), none, none, none, none] (putD n m csx bx C ++ [Cl.lst (dl.map oD)]) := fun csx bx dl fm hcx hdl hit => by
    refine v_seq (v_for ?_)
    refine hit _ _ _ rfl rfl fun items cs1 b1 hil hc1 => ?_
    refine ⟨fun c r C1 => ∃ (dl2 : List (Option Int)) (cs2 : List Int) (b2 : Int) (x5 x6 x7 : Option D), r = [some (.cel n), some (hallD hs), some (wishD ws), some (.int fm), some (.cel C.length), x5, x6, x7, none] ∧ C1 = putD n m cs2 b2 C ++ [Cl.lst (dl2.map oD)] ∧ Dl ws dl2 ∧ cs2.length ≤ 48,
      ⟨dl, cs1, b1, none, none, none, rfl, rfl, hdl, hc1⟩, fun _ _ _ _ _ => trivial, ?_, ?_⟩
    · rintro c dd r C1 hd ⟨dl2, cs2, b2, x5, x6, x7, rfl, rfl, hdl2, hc2⟩
      have hdll := hdl2.len
      have gl : ∀ (cs : List Int) (b : Int) (xs : List D), (putD n m cs b C ++ [Cl.lst xs])[C.length]? = some (.lst xs) := fun cs b xs => by
        rw [List.getElem?_append_right (by rw [putD_len]; exact Nat.le_refl _), putD_len]
        simp
      have sl : ∀ (cs : List Int) (b : Int) (xs ys : List D), (putD n m cs b C ++ [Cl.lst xs]).set C.length (.lst ys) = putD n m cs b C ++ [Cl.lst ys] := fun cs b xs ys => by
        rw [List.set_append_right _ _ (by rw [putD_len]; exact Nat.le_refl _), putD_len]
        simp
      walk_at "go"
      rw [List.length_map]
      refine any_ok (deal_app d) hc2 (by omega) (by omega) fun v cs3 b3 v1 v2 hc3 => ?_
      rw [put_app d]
      have hv : v.toNat < ws.length := by omega
      have gw := List.getElem?_eq_getElem hv
      have wl := (hw.ok _ (List.getElem_mem hv)).len
      have hfew := hh.few
      walk_at "go"
      refine w_ixT (d := ordD ws[v.toNat]) (atI_n (n := v.toNat) (by omega) (by rw [List.getElem?_map, gw]; rfl)) ?_
      walk_at "go"
      refine w_addL (line_le (by simp; omega)) ?_
      walk_at "go"
      refine of_ok (deal_app d) hc3 (.inl rfl) (by simp) (by simp; omega) (by rw [los_append, los_ints]; rfl) fun z cs4 b4 hz hc4 => ?_
      rw [put_app d]
      walk_at "go"
      refine w_setC (k := v.toNat) (lsD_at (gl _ _ _)) (by omega) (by rw [List.length_map]; omega) ?_
      rw [sl, show D.non = oD none from rfl, map_set']
      walk_at "go"
      rcases List.mem_append.mp hz with hz | hz
      · obtain ⟨p, hp, rfl⟩ := List.mem_map.mp hz
        obtain ⟨q, gq, mq, p0⟩ := place_at hw gw hp
        walk_at "go"
        refine at_ok (dl := dl2.set v.toNat none) (.inr (.inr ⟨_, rfl, gl _ _ _⟩)) ?_
        walk_at "go"
        refine w_ixT (hall_at (n := p.toNat) (by omega) gq) ?_
        walk_at "go"
        refine ite_dec (fun hlt => ?_) (fun hge => ?_)
        · walk_at "go"
          refine w_setC (k := v.toNat) (lsD_at (gl _ _ _)) (by omega) (by rw [List.length_map, List.length_set]; omega) ?_
          rw [sl, show D.int p = oD (some p) from rfl, map_set', List.set_set]
          exact ⟨_, cs4, b4, _, _, _, rfl, rfl, hdl2.set gw hp, hc4⟩
        · walk_at "go"
          exact ⟨_, cs4, b4, _, _, _, rfl, rfl, hdl2.clr _, hc4⟩
      · obtain rfl : z = .non := by simpa using hz
        walk_at "go"
        exact ⟨_, cs4, b4, _, _, _, rfl, rfl, hdl2.clr _, hc4⟩
    · rintro r C1 ⟨dl2, cs2, b2, x5, x6, x7, rfl, rfl, hdl2, hc2⟩
      walk_at "go"
      refine w_tupC (lsD_at (n := C.length) (xs := dl2.map oD) (by rw [List.getElem?_append_right (by rw [putD_len]; exact Nat.le_refl _), putD_len]; simp)) ?_
      exact fin_any (ed _ _) (los_oD _ dl2) (putD_lo hlc d.lm) (k dl2 cs2 b2 hdl2 hc2)
  unfold rd_law_dealing
  refine v_seq ?_
  walk_at "on"
  refine any_ok d hl (by omega) (by omega) fun fm cs1 b1 _ _ hc1 => ?_
  refine v_seq ?_
  walk_at "on"
  refine ite_dec (fun hf => ?_) (fun hf => ?_)
  · walk_at "on"
    refine offers_ok hh hw hm fun dl hdl => ?_
    walk_at "on"
    rw [putD_len]
    refine loop cs1 b1 dl fm hc1 hdl fun r C1 Qx hr hC kk => ?_
    subst hr hC
    walk_at "on"
    refine ite_dec (fun _ => ?_) (fun h => absurd hf h)
    walk_at "on"
    refine of_ok (deal_app d) hc1 (.inl rfl) (by simp) (by simp) rfl fun x cs2 b2 hx hc2 => ?_
    rw [put_app d]
    obtain ⟨y, rfl, hy1, hy2⟩ : ∃ y : Int, x = .int y ∧ 0 ≤ y ∧ y ≤ 3 := by
      simp only [List.mem_cons, List.not_mem_nil, or_false] at hx
      rcases hx with rfl | rfl | rfl <;> exact ⟨_, rfl, by decide, by decide⟩
    exact ⟨⟨by omega, by omega⟩, kk _ cs2 b2 (by rw [rngD_length]; omega) hc2⟩
  · walk_at "on"
    refine lc_ok (xs := ws) (e := ordD) (fun _ => some (oD none)) (by rfl) (by rfl) (fun x hx Y Z h => ?_) (ite_true' ?_)
    · walk_at "go"
      exact h
    have e1 : ws.filterMap (fun _ => some (oD none)) = (ws.map fun _ => (none : Option Int)).map oD := by
      rw [fm_const, List.map_map]
      rfl
    rw [e1, putD_len]
    refine loop cs1 b1 _ fm hc1 (Dl.none ws) fun r C1 Qx hr hC kk => ?_
    subst hr hC
    walk_at "on"
    refine ite_dec (fun h => absurd h hf) (fun _ => ?_)
    walk_at "on"
    refine w_mulI (.inl (by decide)) ?_
    rw [List.length_map]
    exact ⟨⟨by omega, by omega⟩, kk _ cs1 b1 (by rw [rngD_length]; omega) hc1⟩
/-! ### likings and gains -/
theorem place_ok {ws : List (List Int)} {w : List Int} {p : Int} {x : Option Int} {C : Cs} {Q : QD} {E : XQ} (hp : 0 ≤ p) (e : ws[p.toNat]? = some w) (k : Q (.int (spot w x : Nat)) C) : sp_place_in_list [wishD ws, .int p, oD x] C Q E := by
  intro _ _
  have aw : atI (ws.map ordD) p = some (ordD w) := atI_n (n := p.toNat) (by omega) (by rw [List.getElem?_map, e]; rfl)
  unfold rd_place_in_list
  cases x with
  | none =>
    walk_at "go"
    refine w_ixT aw ?_
    walk_at "go"
    rw [List.length_map]
    exact fin_same0 rfl k
  | some q =>
    walk_at "go"
    refine w_ixT aw ?_
    refine w_inT ?_
    refine ite_b (fun hb => ?_) (fun hb => ?_)
    · walk_at "go"
      refine w_ixT aw ?_
      walk_at "go"
      refine w_idxT (List.contains_iff_mem.mp hb) ?_
      rw [spot_some, if_pos hb] at k
      exact fin_same0 rfl k
    · walk_at "go"
      refine w_ixT aw ?_
      walk_at "go"
      rw [spot_some, if_neg (by rw [hb]; exact Bool.false_ne_true)] at k
      rw [List.length_map]
      exact fin_same0 rfl k
theorem likes_ok {ws : List (List Int)} {w : List Int} {p : Int} {x y : Option Int} {C : Cs} {Q : QD} {E : XQ} (hp : 0 ≤ p) (e : ws[p.toNat]? = some w) (k : Q (.bl (decide (spot w x < spot w y))) C) : sp_likes_better [wishD ws, .int p, oD x, oD y] C Q E := by
  intro _ _
  unfold rd_likes_better
  walk_at "go"
  refine place_ok hp e ?_
  walk_at "go"
  refine place_ok hp e ?_
  refine w_I ?_
  have : decide (((spot w x : Nat) : Int) < ((spot w y : Nat) : Int)) = decide (spot w x < spot w y) := decide_eq_decide.mpr (by omega)
  rw [this]
  exact fin_same0 rfl k
theorem rngD_nat (n : Nat) : rngD 0 ((n : Nat) : Int).toNat = (rng n).map D.int := by
  rw [rngD_eq, Int.toNat_natCast]
  rfl
theorem opt_at {a : List (Option Int)} {n : Nat} {x : Int} (hl : a.length = n) (h : x ∈ rng n) : atI (a.map oD) x = some (oD (a.getD x.toNat none)) := by
  obtain ⟨h1, h2⟩ := rng_mem h
  have : x.toNat < a.length := by omega
  refine atI_n (n := x.toNat) (by omega) ?_
  rw [List.getElem?_map, List.getD_eq_getElem?_getD, List.getElem?_eq_getElem this]
  rfl
theorem wish_at {ws : List (List Int)} {n : Nat} {x : Int} (hl : ws.length = n) (h : x ∈ rng n) : ws[x.toNat]? = some (ws.getD x.toNat []) ∧ 0 ≤ x := by
  obtain ⟨h1, h2⟩ := rng_mem h
  have : x.toNat < ws.length := by omega
  rw [List.getD_eq_getElem?_getD, List.getElem?_eq_getElem this]
  exact ⟨rfl, h1⟩
theorem los_none (k : Nat) (n : Nat) : los k (((none : Option Int) :: (rng n).map some).map oD) = true := los_oD k _
theorem los_wish (k : Nat) (ws : List (List Int)) : DL.lo k (wishD ws) = true := los_ordD k ws
theorem pick4 (a b c e : D) : ([] : List D) ++ pick [3, 2, 1, 0] [a, b, c, e] = [e, c, b, a] := rfl
/-! ### pairs that block -/
theorem people_ok {many se : Nat} {hs : List (Int × List Int)} {C : Cs} {Q : QD} {E : XQ} (hh : HallOf many se hs) (k : Q (.int (many : Nat)) C) : sp_people_in [hallD hs] C Q E := by
  intro _ _
  have hpos : 1 ≤ hs.length := List.length_pos_iff.mpr hh.some'
  have g0 := List.getElem?_eq_getElem (l := hs) (i := 0) hpos
  have hol : hs[0].2.length = many := by rw [(hh.order _ (List.getElem_mem _)).length_eq, rng_len]
  unfold rd_people_in
  walk_at "go"
  refine w_ixT (hall_at (n := 0) rfl g0) ?_
  walk_at "go"
  rw [List.length_map, hol]
  exact fin_same0 rfl k
theorem rank_ok {hs : List (Int × List Int)} {q : Int × List Int} {pl x : Int} {C : Cs} {Q : QD} {E : XQ} (h0 : 0 ≤ pl) (e : hs[pl.toNat]? = some q) (hx : x ∈ q.2) (k : Q (.int (q.2.idxOf x : Nat)) C) : sp_rank [hallD hs, .int pl, .int x] C Q E := by
  intro _ _
  unfold rd_rank
  walk_at "go"
  refine w_ixT (hall_at (n := pl.toNat) (by omega) e) ?_
  walk_at "go"
  refine w_idxT hx ?_
  exact fin_same0 rfl k
theorem ahead_ok {hs : List (Int × List Int)} {q : Int × List Int} {pl x y : Int} {C : Cs} {Q : QD} {E : XQ} (h0 : 0 ≤ pl) (e : hs[pl.toNat]? = some q) (hx : x ∈ q.2) (hy : y ∈ q.2) (k : Q (.bl (decide (q.2.idxOf x < q.2.idxOf y))) C) : sp_is_ahead [hallD hs, .int pl, .int x, .int y] C Q E := by
  intro _ _
  unfold rd_is_ahead
  walk_at "go"
  refine rank_ok h0 e hx ?_
  walk_at "go"
  refine rank_ok h0 e hy ?_
  refine w_I ?_
  have : decide (((q.2.idxOf x : Nat) : Int) < ((q.2.idxOf y : Nat) : Int)) = decide (q.2.idxOf x < q.2.idxOf y) := decide_eq_decide.mpr (by omega)
  rw [this]
  exact fin_same0 rfl k
theorem eq_ni {p : Int} {C : Cs} {Q : QD} (k : Q (.bl false) C) : oEq .non (.int p) C Q := ⟨rfl, rfl, by
  show Q (.bl (PyData.eqv .none (.int p))) C
  simpa [PyData.eqv] using k⟩
theorem those_ok {dl : List (Option Int)} {p : Int} {C : Cs} {Q : QD} {E : XQ} (k : Q (.tup ((atL dl p).map D.int)) C) : sp_those_at [dealD dl, .int p] C Q E := by
  intro _ hlc
  unfold rd_those_at
  walk_at "go"
  refine lc_ok (xs := en dl) (e := fun y => D.tup [.int (y.1 : Nat), oD y.2]) (fun y => (if y.2 = some p then some ((y.1 : Nat) : Int) else none).map D.int) (by rw [en_eq]) (by rfl) (fun y hy Y Z h => ?_) (ite_false' ?_)
  · obtain ⟨i, z⟩ := y
    unfold lcK at h
    cases z with
    | none =>
      walk_at "go"
      refine eq_ni ?_
      exact h
    | some q =>
      walk_at "go"
      refine w_eqI ?_
      refine ite_dec (fun hq => ?_) (fun hq => ?_)
      · subst hq
        rw [if_pos rfl] at h
        walk_at "go"
        exact h
      · rw [if_neg (fun e => hq (by simpa using e))] at h
        exact h
  rw [fm_oi]
  walk_at "go"
  exact fin_same0 (los_ints _ _) k
/-- would the person be let in -/
def enters (q : Int × List Int) (held : List Int) (x : Int) : Bool := decide ((held.length : Int) < q.1) || held.any fun y => decide (q.2.idxOf x < q.2.idxOf y)
theorem at_order {many se : Nat} {hs : List (Int × List Int)} {q : Int × List Int} {dl : List (Option Int)} (hh : HallOf many se hs) (mq : q ∈ hs) (hl : dl.length = many) {p y : Int} (hy : y ∈ atL dl p) : y ∈ q.2 := by
  obtain ⟨y0, y1⟩ := atL_mem hy
  have := (List.getElem?_eq_some_iff.mp y1).1
  exact (hh.order q mq).mem_iff.mpr (List.mem_map.mpr ⟨y.toNat, List.mem_range.mpr (by omega), by omega⟩)
theorem enter_ok {many se : Nat} {hs : List (Int × List Int)} {q : Int × List Int} {dl : List (Option Int)} {x pl : Int} {C : Cs} {Q : QD} {E : XQ} (hh : HallOf many se hs) (h0 : 0 ≤ pl) (e : hs[pl.toNat]? = some q) (hl : dl.length = many) (hx : x ∈ rng many) (k : Q (.bl (enters q (atL dl pl) x)) C) : sp_would_enter [hallD hs, dealD dl, .int x, .int pl] C Q E := by
  intro _ _
  have mq := List.mem_of_getElem? e
  have hxq : x ∈ q.2 := (hh.order q mq).mem_iff.mpr hx
  unfold rd_would_enter
  walk_at "go"
  refine those_ok ?_
  walk_at "go"
  refine w_ixT (hall_at (n := pl.toNat) (by omega) e) ?_
  walk_at "go"
  rw [List.length_map]
  unfold enters at k
  cases h1 : decide (((atL dl pl).length : Int) < q.1) with
  | true =>
    rw [h1] at k
    exact fin_same0 rfl k
  | false =>
    rw [h1, Bool.false_or] at k
    show dCB _ _ _ _ _
    walk_at "go"
    refine lc_ok (xs := atL dl pl) (e := D.int) (fun y => some (D.bl (decide (q.2.idxOf x < q.2.idxOf y)))) (by rfl) (by rfl) (fun y hy Y Z h => ?_) (ite_false' ?_)
    · walk_at "go"
      refine ahead_ok h0 e hxq (at_order hh mq hl hy) ?_
      exact h
    have ef : (atL dl pl).filterMap (fun y => some (D.bl (decide (q.2.idxOf x < q.2.idxOf y)))) = ((atL dl pl).map fun y => decide (q.2.idxOf x < q.2.idxOf y)).map D.bl := by
      rw [List.map_map]
      generalize atL dl pl = L
      induction L with
      | nil => rfl
      | cons z zs ih => rw [List.filterMap_cons, ih]; rfl
    rw [ef]
    refine opt_ok (blsD_map _) ?_
    have ea : ((atL dl pl).map fun y => decide (q.2.idxOf x < q.2.idxOf y)).any id = (atL dl pl).any fun y => decide (q.2.idxOf x < q.2.idxOf y) := by
      rw [List.any_map]
      rfl
    rw [ea]
    exact fin_same0 rfl k
def blk (w : List Int) (cur : Option Int) (q : Int × List Int) (held : List Int) (x pl : Int) : Bool := decide (spot w (some pl) < spot w cur) && enters q held x
theorem blocking_ok {many se : Nat} {hs : List (Int × List Int)} {q : Int × List Int} {ws : List (List Int)} {w : List Int} {dl : List (Option Int)} {x pl : Int} {C : Cs} {Q : QD} {E : XQ} (hh : HallOf many se hs) (h0 : 0 ≤ pl) (e : hs[pl.toNat]? = some q) (hl : dl.length = many) (hx : x ∈ rng many) (ew : ws[x.toNat]? = some w)
    (k : Q (.bl (blk w (dl.getD x.toNat none) q (atL dl pl) x pl)) C) : sp_is_blocking [hallD hs, wishD ws, dealD dl, .int x, .int pl] C Q E := by
  intro _ _
  have x0 := (rng_mem hx).1
  unfold blk at k
  unfold rd_is_blocking
  walk_at "go"
  refine w_ixT (opt_at hl hx) ?_
  walk_at "go"
  refine likes_ok (y := dl.getD x.toNat none) (x := some pl) x0 ew ?_
  refine ite_ndec (fun hn => ?_) (fun hp => ?_)
  · rw [decide_eq_false hn] at k
    walk_at "go"
    exact fin_same0 rfl k
  · rw [decide_eq_true hp, Bool.true_and] at k
    walk_at "go"
    refine enter_ok hh h0 e hl hx ?_
    exact fin_same0 rfl k
/-- the pairs that block, by people, then by places -/
def blkAt (hs : List (Int × List Int)) (ws : List (List Int)) (dl : List (Option Int)) (x pl : Int) : Bool := blk (ws.getD x.toNat []) (dl.getD x.toNat none) (hs.getD pl.toNat (0, [])) (atL dl pl) x pl
def row1 (hs : List (Int × List Int)) (ws : List (List Int)) (dl : List (Option Int)) (x : Int) : List (Int × Int) := ((rng hs.length).filter (blkAt hs ws dl x)).map fun pl => (x, pl)
def allP (hs : List (Int × List Int)) (ws : List (List Int)) (dl : List (Option Int)) (n : Nat) : List (Int × Int) := ((rng n).map (row1 hs ws dl)).flatten
theorem rng_succ (n : Nat) : rng (n + 1) = rng n ++ [(n : Int)] := by
  unfold rng
  rw [List.range_succ, List.map_append]
  simp
theorem allP_succ (hs : List (Int × List Int)) (ws : List (List Int)) (dl : List (Option Int)) (n : Nat) : allP hs ws dl (n + 1) = allP hs ws dl n ++ row1 hs ws dl (n : Int) := by
  unfold allP
  rw [rng_succ, List.map_append, List.flatten_append]
  simp
abbrev prD (p : Int × Int) : D := .tup [.int p.1, .int p.2]
theorem los_prD (k : Nat) : ∀ ps : List (Int × Int), los k (ps.map prD) = true
  | [] => rfl
  | p :: ps => by
    show (DL.lo k (prD p) && los k (ps.map prD)) = true
    rw [los_prD k ps]
    rfl
theorem hall_get {hs : List (Int × List Int)} {pl : Int} (h : pl ∈ rng hs.length) : hs[pl.toNat]? = some (hs.getD pl.toNat (0, [])) ∧ 0 ≤ pl := by
  obtain ⟨h1, h2⟩ := rng_mem h
  have : pl.toNat < hs.length := by omega
  rw [List.getD_eq_getElem?_getD, List.getElem?_eq_getElem this]
  exact ⟨rfl, h1⟩
theorem rng_get {n c : Nat} {d : D} (h : ((rng n).map D.int)[c]? = some d) : d = .int (c : Nat) ∧ c < n ∧ ((c : Nat) : Int) ∈ rng n := by
  have hl := (List.getElem?_eq_some_iff.mp h).1
  rw [List.length_map, rng_len] at hl
  unfold rng at h
  rw [List.getElem?_map, List.getElem?_map, List.getElem?_range hl] at h
  refine ⟨?_, hl, List.mem_map.mpr ⟨c, List.mem_range.mpr hl, by omega⟩⟩
  simpa using h.symm
theorem row1_few {hs : List (Int × List Int)} {ws : List (List Int)} {dl : List (Option Int)} {x : Int} : (row1 hs ws dl x).length ≤ hs.length := by
  unfold row1
  rw [List.length_map]
  exact Nat.le_trans (List.length_filter_le _ _) (Nat.le_of_eq (rng_len _))
theorem allP_few {hs : List (Int × List Int)} {ws : List (List Int)} {dl : List (Option Int)} : ∀ n, (allP hs ws dl n).length ≤ n * hs.length
  | 0 => by simp [allP, rng]
  | n + 1 => by
    rw [allP_succ, List.length_append, Nat.succ_mul]
    exact Nat.add_le_add (allP_few n) row1_few
theorem cel_set {C : Cs} {x y : Cl} : (C ++ [x]).set C.length y = C ++ [y] := set_new
theorem pairs_ok {many se : Nat} {hs : List (Int × List Int)} {ws : List (List Int)} {dl : List (Option Int)} {C : Cs} {Q : QD} {E : XQ} (hh : HallOf many se hs) (hw : Wish many hs.length ws) (hl : dl.length = many) (hm : many ≤ 100) (hp : hs.length ≤ 100)
    (k : Q (.tup ((allP hs ws dl many).map prD)) C) : sp_blocking_pairs [hallD hs, wishD ws, dealD dl] C Q E := by
  intro _ hlc
  have big : (2 : Int) ^ 24 = 16777216 := by decide
  unfold rd_blocking_pairs
  walk_at "go"
  refine people_ok hh ?_
  refine ⟨⟨by omega, by omega⟩, ?_⟩
  rw [rngD_nat]
  refine ⟨fun c r C1 => ∃ (x4 x5 : Option D), r = [some (hallD hs), some (wishD ws), some (dealD dl), some (.cel C.length), x4, x5] ∧ C1 = C ++ [Cl.lst ((allP hs ws dl c).map prD)], ⟨none, none, rfl, rfl⟩, fun _ _ _ _ _ => trivial, ?_, ?_⟩
  · rintro c dd r C1 hd ⟨x4, x5, rfl, rfl⟩
    obtain ⟨rfl, hc, mc⟩ := rng_get hd
    obtain ⟨ew, c0⟩ := wish_at hw.len mc
    have few := allP_few (hs := hs) (ws := ws) (dl := dl) c
    have few2 : c * hs.length ≤ 10000 := Nat.le_trans (Nat.mul_le_mul (show c ≤ 100 by omega) hp) (by decide)
    walk_at "go"
    rw [List.length_map]
    refine ⟨⟨by omega, by omega⟩, ?_⟩
    rw [rngD_nat]
    refine ⟨fun e r C1 => ∃ (x5 : Option D), r = [some (hallD hs), some (wishD ws), some (dealD dl), some (.cel C.length), some (.int (c : Nat)), x5] ∧ C1 = C ++ [Cl.lst ((allP hs ws dl c ++ (((rng e).filter (blkAt hs ws dl c)).map fun pl => ((c : Int), pl))).map prD)] , ⟨x5, rfl, by simp [rng]⟩, fun _ _ _ _ _ => trivial, ?_, ?_⟩
    · rintro e d2 r C1 hd2 ⟨x5, rfl, rfl⟩
      obtain ⟨rfl, he, me⟩ := rng_get hd2
      obtain ⟨eh, e0⟩ := hall_get me
      have few3 : ((rng e).filter (blkAt hs ws dl c)).length ≤ e := Nat.le_trans (List.length_filter_le _ _) (Nat.le_of_eq (rng_len e))
      walk_at "go"
      refine blocking_ok hh e0 eh hl mc ew ?_
      have eb : blk (ws.getD ((c : Nat) : Int).toNat []) (dl.getD ((c : Nat) : Int).toNat none) (hs.getD ((e : Nat) : Int).toNat (0, [])) (atL dl ((e : Nat) : Int)) ((c : Nat) : Int) ((e : Nat) : Int) = blkAt hs ws dl c e := rfl
      rw [eb]
      refine ite_b (fun hb => ?_) (fun hb => ?_)
      · walk_at "go"
        refine opt_ok lsD_new ?_
        walk_at "go"
        refine w_app lsD_new (line_lt (by simp; omega)) ?_
        rw [set_new]
        refine ⟨_, rfl, ?_⟩
        rw [rng_succ, List.filter_append, List.filter_cons_of_pos hb]
        simp
      · walk_at "go"
        refine ⟨_, rfl, ?_⟩
        rw [rng_succ, List.filter_append, List.filter_cons_of_neg (by rw [hb]; exact Bool.false_ne_true)]
        simp
    · rintro r C1 ⟨x5, rfl, rfl⟩
      rw [List.length_map, rng_len]
      refine ⟨_, _, rfl, ?_⟩
      rw [allP_succ]
      rfl
  · rintro r C1 ⟨x4, x5, rfl, rfl⟩
    rw [List.length_map, rng_len]
    walk_at "go"
    refine w_tupC lsD_new ?_
    exact fin_same (los_prD _ _) k
/-! ### the law's pairs -/
theorem spot_lt {w : List Int} {cur : Option Int} {pl : Int} : spot w (some pl) < spot w cur ↔ pl ∈ w.take (spot w cur) := by
  have key : ∀ n, n ≤ w.length + 1 → (spot w (some pl) < n ↔ pl ∈ w.take n) := fun n hn => by
    rw [spot_some]
    by_cases h : w.contains pl = true
    · rw [if_pos h]
      have hm := List.contains_iff_mem.mp h
      have hi := List.idxOf_lt_length_iff.mpr hm
      constructor
      · intro hlt
        refine List.mem_take_iff_getElem.mpr ⟨w.idxOf pl, by omega, ?_⟩
        exact List.getElem_idxOf hi
      · intro hmem
        obtain ⟨j, hj, e⟩ := List.mem_take_iff_getElem.mp hmem
        have hle : w.idxOf pl ≤ j := by
          rcases Nat.lt_or_ge j (w.idxOf pl) with hlt | hge
          · have := (idxOf_spec hm).2 j hlt
            exact absurd (by rw [List.getElem?_eq_getElem (by omega), e]) this
          · exact hge
        omega
    · rw [if_neg h]
      constructor
      · intro hlt
        omega
      · intro hmem
        exact absurd (List.contains_iff_mem.mpr (List.mem_of_mem_take hmem)) h
  refine key _ ?_
  cases cur with
  | none => show w.length ≤ _; omega
  | some q =>
    rw [spot_some]
    split
    · have : w.idxOf q ≤ w.length := List.idxOf_le_length
      omega
    · omega
theorem better_eq {places : Nat} {w : List Int} (ow : WOk places w) (n : Nat) {ns : List Int} (hp : ns.Perm (w.take n)) (hs : ns.Pairwise (· ≤ ·)) : ns = (rng places).filter fun pl => (w.take n).contains pl := by
  have n1 : (w.take n).Nodup := ow.1.sublist (List.take_sublist _ _)
  have n2 : ((rng places).filter fun pl => (w.take n).contains pl).Nodup := (rng_nodup places).sublist List.filter_sublist
  refine List.Perm.eq_of_pairwise (le := (· ≤ ·)) (fun _ _ _ _ h1 h2 => Int.le_antisymm h1 h2) hs ?_ ?_
  · have : (rng places).Pairwise (· ≤ ·) := by
      unfold rng
      rw [List.pairwise_map]
      exact (List.pairwise_lt_range (n := places)).imp fun h => by omega
    exact this.filter _
  · refine hp.trans ((List.perm_ext_iff_of_nodup n1 n2).mpr fun a => ?_)
    rw [List.mem_filter, List.contains_iff_mem]
    refine ⟨fun h => ⟨?_, h⟩, fun h => h.2⟩
    obtain ⟨h1, h2⟩ := ow.2 a (List.mem_of_mem_take h)
    exact List.mem_map.mpr ⟨a.toNat, List.mem_range.mpr (by omega), by omega⟩
theorem enw_eq (ws : List (List Int)) : enumD (ws.map ordD) = (ws.mapIdx fun i w => (i, w)).map fun y : Nat × List Int => D.tup [.int (y.1 : Nat), ordD y.2] := by
  unfold enumD
  refine List.ext_getElem? fun i => ?_
  rw [List.getElem?_mapIdx, List.getElem?_map, List.getElem?_map, List.getElem?_mapIdx]
  cases ws[i]? <;> rfl
theorem lpairs_ok {many se : Nat} {hs : List (Int × List Int)} {ws : List (List Int)} {dl : List (Option Int)} {C : Cs} {Q : QD} {E : XQ} (hh : HallOf many se hs) (hw : Wish many hs.length ws) (hl : dl.length = many) (hm : many ≤ 100) (hp : hs.length ≤ 100)
    (k : Q (.lst ((allP hs ws dl many).map prD)) C) : sp_law_pairs [hallD hs, wishD ws, dealD dl] C Q E := by
  intro _ hlc
  have big : (2 : Int) ^ 24 = 16777216 := by decide
  have hwl := hw.len
  unfold rd_law_pairs
  walk_at "go"
  rw [enw_eq]
  refine ⟨fun c r C1 => ∃ (x4 x5 x6 x7 x8 x9 x10 : Option D), r = [some (hallD hs), some (wishD ws), some (dealD dl), some (.cel C.length), x4, x5, x6, x7, x8, x9, x10, none] ∧ C1 = C ++ [Cl.lst ((allP hs ws dl c).map prD)], ⟨none, none, none, none, none, none, none, rfl, rfl⟩, fun _ _ _ _ _ => rfl, ?_, ?_⟩
  · rintro c dd r C1 hd ⟨x4, x5, x6, x7, x8, x9, x10, rfl, rfl⟩
    rw [List.getElem?_map, List.getElem?_mapIdx] at hd
    cases hx : ws[c]? with
    | none => rw [hx] at hd; cases hd
    | some w =>
      rw [hx] at hd
      obtain rfl : D.tup [.int (c : Nat), ordD w] = dd := by simpa using hd
      have hc : c < many := by have := (List.getElem?_eq_some_iff.mp hx).1; omega
      have mc : ((c : Nat) : Int) ∈ rng many := List.mem_map.mpr ⟨c, List.mem_range.mpr hc, by omega⟩
      have ow := hw.ok w (List.mem_of_getElem? hx)
      have ewc : ws.getD ((c : Nat) : Int).toNat [] = w := by rw [Int.toNat_natCast, List.getD_eq_getElem?_getD, hx]; rfl
      have few := allP_few (hs := hs) (ws := ws) (dl := dl) c
      have few2 : c * hs.length ≤ 10000 := Nat.le_trans (Nat.mul_le_mul (show c ≤ 100 by omega) hp) (by decide)
      walk_at "go"
      refine w_ixT (opt_at hl mc) ?_
      walk_at "go"
      refine spot_ok ?_
      walk_at "go"
      rw [cutD_hiI _ (by omega), Int.toNat_natCast, ← List.map_take]
      walk_at "go"
      refine w_sortT fun ns' hp' hs' => ?_
      have ens := better_eq ow _ hp' hs'
      refine opt_ok rfl ?_
      have efl : ns'.filter (fun pl => enters (hs.getD pl.toNat (0, [])) (atL dl pl) c) = (rng hs.length).filter (blkAt hs ws dl c) := by
        rw [ens, List.filter_filter]
        refine List.filter_congr fun pl _ => ?_
        unfold blkAt blk
        rw [ewc, Bool.and_comm]
        congr 1
        rw [Bool.eq_iff_iff, List.contains_iff_mem, decide_eq_true_eq]
        exact spot_lt.symm
      have hmem : ∀ pl ∈ ns', pl ∈ rng hs.length := fun pl h => by
        rw [ens] at h
        exact (List.mem_filter.mp h).1
      have hnl : ns'.length ≤ hs.length := by
        rw [ens]
        exact Nat.le_trans (List.length_filter_le _ _) (Nat.le_of_eq (rng_len _))
      refine ⟨fun e r C1 => ∃ (x7 x8 x9 x10 : Option D), r = [some (hallD hs), some (wishD ws), some (dealD dl), some (.cel C.length), some (.int (c : Nat)), some (ordD w), some (.tup ((w.take (spot w (dl.getD ((c : Nat) : Int).toNat none))).map D.int)), x7, x8, x9, x10, none] ∧ C1 = C ++ [Cl.lst ((allP hs ws dl c ++ (((ns'.take e).filter fun pl => enters (hs.getD pl.toNat (0, [])) (atL dl pl) c).map fun pl => ((c : Int), pl))).map prD)] , ⟨x7, x8, x9, x10, rfl, by simp⟩, fun _ _ _ _ _ => rfl, ?_, ?_⟩
      · rintro e d2 r C1 hd2 ⟨x7, x8, x9, x10, rfl, rfl⟩
        rw [List.getElem?_map] at hd2
        cases hpl : ns'[e]? with
        | none => rw [hpl] at hd2; cases hd2
        | some pl =>
          rw [hpl] at hd2
          obtain rfl : D.int pl = d2 := by simpa using hd2
          have he := (List.getElem?_eq_some_iff.mp hpl).1
          have mpl := hmem pl (List.mem_of_getElem? hpl)
          obtain ⟨eh, e0⟩ := hall_get mpl
          generalize hq : hs.getD pl.toNat (0, []) = q at eh
          have mq := List.mem_of_getElem? eh
          have hcq : ((c : Nat) : Int) ∈ q.2 := (hh.order q mq).mem_iff.mpr mc
          have et : ns'.take (e + 1) = ns'.take e ++ [pl] := by rw [List.take_add_one, hpl]; rfl
          have few3 : ((ns'.take e).filter fun pl => enters (hs.getD pl.toNat (0, [])) (atL dl pl) c).length ≤ 100 := by
            refine Nat.le_trans (List.length_filter_le _ _) ?_
            rw [List.length_take]
            omega
          have done : ∀ b : Bool, enters q (atL dl pl) c = b → (if b = true then
              (∃ (x7 x8 x9 x10 : Option D), True ∧ C ++ [Cl.lst ((allP hs ws dl c ++ (((ns'.take e).filter fun pl => enters (hs.getD pl.toNat (0, [])) (atL dl pl) c).map fun pl => ((c : Int), pl))).map prD ++ [D.tup [.int (c : Nat), .int pl]])] = C ++ [Cl.lst ((allP hs ws dl c ++ (((ns'.take (e + 1)).filter fun pl => enters (hs.getD pl.toNat (0, [])) (atL dl pl) c).map fun pl => ((c : Int), pl))).map prD)])
              else C ++ [Cl.lst ((allP hs ws dl c ++ (((ns'.take e).filter fun pl => enters (hs.getD pl.toNat (0, [])) (atL dl pl) c).map fun pl => ((c : Int), pl))).map prD)] = C ++ [Cl.lst ((allP hs ws dl c ++ (((ns'.take (e + 1)).filter fun pl => enters (hs.getD pl.toNat (0, [])) (atL dl pl) c).map fun pl => ((c : Int), pl))).map prD)]) := fun b hb => by
            cases b with
            | true =>
              rw [if_pos rfl]
              refine ⟨none, none, none, none, trivial, ?_⟩
              rw [et, List.filter_append, List.filter_cons_of_pos (by rw [hq]; exact hb)]
              simp
            | false =>
              rw [if_neg Bool.false_ne_true]
              rw [et, List.filter_append, List.filter_cons_of_neg (by rw [hq, hb]; exact Bool.false_ne_true)]
              simp
          walk_at "go"
          refine w_ixT (hall_at (n := pl.toNat) (by omega) eh) ?_
          walk_at "go"
          refine at_ok (dl := dl) (.inl rfl) ?_
          walk_at "go"
          rw [List.length_map]
          refine ite_dec (fun hlt => ?_) (fun hge => ?_)
          · walk_at "go"
            refine opt_ok lsD_new ?_
            walk_at "go"
            refine w_app lsD_new (line_lt (by rw [List.length_map, List.length_append, List.length_map]; omega)) ?_
            rw [set_new]
            obtain ⟨_, _, _, _, _, e5⟩ := done true (by unfold enters; rw [decide_eq_true hlt]; rfl)
            exact ⟨_, _, _, _, rfl, e5⟩
          · walk_at "go"
            refine lc_ok (xs := atL dl pl) (e := D.int) (fun z => if decide (q.2.idxOf ((c : Nat) : Int) < q.2.idxOf z) = true then some (D.int z) else none) (by rfl) (by rfl) (fun z hz Y Z h => ?_) (ite_false' ?_)
            · walk_at "go"
              refine w_idxT (at_order hh mq hl hz) ?_
              walk_at "go"
              refine w_idxT hcq ?_
              refine w_I ?_
              unfold lcK at h
              refine ite_dec (fun hd => ?_) (fun hd => ?_)
              · rw [if_pos (decide_eq_true (by omega))] at h
                walk_at "go"
                exact h
              · rw [if_neg (by rw [decide_eq_true_eq]; omega)] at h
                exact h
            rw [fm_filter]
            walk_at "go"
            refine w_neNilL (shps_ints 59 _) ?_
            have hent : enters q (atL dl pl) c = (atL dl pl).any fun y => decide (q.2.idxOf ((c : Nat) : Int) < q.2.idxOf y) := by
              unfold enters
              rw [decide_eq_false hge]
              rfl
            refine ite_nil (fun hne => ?_) (fun hnil => ?_)
            · walk_at "go"
              refine opt_ok lsD_new ?_
              walk_at "go"
              refine w_app lsD_new (line_lt (by rw [List.length_map, List.length_append, List.length_map]; omega)) ?_
              rw [set_new]
              obtain ⟨_, _, _, _, _, e5⟩ := done true (by
                rw [hent, List.any_eq_true]
                cases hf : (atL dl pl).filter fun z => decide (q.2.idxOf ((c : Nat) : Int) < q.2.idxOf z) with
                | nil => rw [hf] at hne; exact absurd rfl hne
                | cons z zs =>
                  have : z ∈ (atL dl pl).filter fun z => decide (q.2.idxOf ((c : Nat) : Int) < q.2.idxOf z) := by rw [hf]; exact List.mem_cons_self
                  exact ⟨z, (List.mem_filter.mp this).1, (List.mem_filter.mp this).2⟩)
              exact ⟨_, _, _, _, rfl, e5⟩
            · walk_at "go"
              have e5 := done false (by
                rw [hent, List.any_eq_false]
                intro z hz hd
                have : z ∈ (atL dl pl).filter fun z => decide (q.2.idxOf ((c : Nat) : Int) < q.2.idxOf z) := List.mem_filter.mpr ⟨hz, hd⟩
                rw [List.map_eq_nil_iff.mp hnil] at this
                cases this)
              exact ⟨_, _, _, _, rfl, e5⟩
      · rintro r C1 ⟨x7, x8, x9, x10, rfl, rfl⟩
        rw [List.length_map, List.take_length, efl]
        refine ⟨_, _, _, _, _, _, _, rfl, ?_⟩
        rw [allP_succ]
        rfl
  · rintro r C1 ⟨x4, x5, x6, x7, x8, x9, x10, rfl, rfl⟩
    rw [List.length_map, List.length_mapIdx, hwl]
    walk_at "go"
    exact fin_lst (Nat.le_refl _) (by simp) (los_prD _ _) k
/-! ### values that are tried -/
/-- what may stand where an index is asked -/
def okV : D → Bool
  | .non => true
  | .bl _ => true
  | .int _ => true
  | .str x => PyData.strOk x
  | .tup xs => shps 58 xs
  | _ => false
def intB : D → Bool
  | .int _ => true
  | _ => false
theorem integer_ok {v : D} {C : Cs} {Q : QD} {E : XQ} (hv : okV v = true) (k : Q (.bl (intB v)) C) : sp_is_integer [v] C Q E := by
  intro _ _
  unfold rd_is_integer
  cases v with
  | non => walk_at "go"; exact fin_same0 rfl k
  | bl b => walk_at "go"; exact fin_same0 rfl k
  | int i => walk_at "go"; exact fin_same0 rfl k
  | str x => walk_at "go"; exact fin_same0 rfl k
  | tup xs => walk_at "go"; exact fin_same0 rfl k
  | _ => simp [okV] at hv
def idxB (v : D) (n : Nat) : Bool := match v with
  | .int i => (rng n).contains i
  | _ => false
theorem rng_has {n : Nat} {i : Int} : (rng n).contains i = (decide (0 ≤ i) && decide (i < n)) := by
  rw [Bool.eq_iff_iff, List.contains_iff_mem, Bool.and_eq_true, decide_eq_true_eq, decide_eq_true_eq]
  exact ⟨fun h => rng_mem h, fun h => List.mem_map.mpr ⟨i.toNat, List.mem_range.mpr (by omega), by omega⟩⟩
theorem index_ok {v : D} {n : Nat} {C : Cs} {Q : QD} {E : XQ} (hv : okV v = true) (k : Q (.bl (idxB v n)) C) : sp_is_index [v, .int (n : Nat)] C Q E := by
  intro _ _
  unfold rd_is_index
  walk_at "go"
  refine integer_ok hv ?_
  cases v with
  | int i =>
    show dChain _ _ _ _ _ _ _ _
    have ei : idxB (.int i) n = (rng n).contains i := rfl
    rw [ei, rng_has] at k
    walk_at "go"
    cases h1 : decide ((0 : Int) ≤ i) with
    | false =>
      rw [h1] at k
      exact fin_same0 rfl k
    | true =>
      rw [h1, Bool.true_and] at k
      show dVar _ _ _ _
      walk_at "go"
      exact fin_same0 rfl k
  | non => exact fin_same0 rfl k
  | bl b => exact fin_same0 rfl k
  | str x => exact fin_same0 rfl k
  | tup xs => exact fin_same0 rfl k
  | _ => simp [okV] at hv
/-- a pair of values that blocks -/
def resB (hs : List (Int × List Int)) (ws : List (List Int)) (dl : List (Option Int)) (many : Nat) (x y : D) : Bool := match x, y with
  | .int i, .int j => (rng many).contains i && ((rng hs.length).contains j && blkAt hs ws dl i j)
  | _, _ => false
theorem blocks_ok {many se : Nat} {hs : List (Int × List Int)} {ws : List (List Int)} {dl : List (Option Int)} {x y : D} {C : Cs} {Q : QD} {E : XQ} (hh : HallOf many se hs) (hw : Wish many hs.length ws) (hl : dl.length = many) (hx : okV x = true) (hy : okV y = true)
    (k : Q (.bl (resB hs ws dl many x y)) C) : sp_blocks [hallD hs, wishD ws, dealD dl, .tup [x, y]] C Q E := by
  intro _ _
  have big : (2 : Int) ^ 24 = 16777216 := by decide
  unfold rd_blocks
  walk_at "go"
  refine w_neI ?_
  refine ite_ndec (fun h => absurd rfl h) (fun _ => ?_)
  walk_at "go"
  refine people_ok hh ?_
  walk_at "go"
  refine index_ok hx ?_
  have no : resB hs ws dl many x y = false → fin C (.bl false) C Q := fun e => by
    rw [e] at k
    exact fin_same0 rfl k
  refine ite_nb (fun h1 => ?_) (fun h1 => ?_)
  · walk_at "go"
    refine no ?_
    cases x <;> first | rfl | skip
    cases y <;> first | rfl | skip
    show (_ && _) = false
    rw [show (rng many).contains _ = false from h1]
    rfl
  · obtain ⟨i, rfl⟩ : ∃ i, x = .int i := by
      cases x <;> first | exact ⟨_, rfl⟩ | (simp [idxB] at h1)
    walk_at "go"
    rw [List.length_map]
    refine index_ok hy ?_
    refine ite_nb (fun h2 => ?_) (fun h2 => ?_)
    · walk_at "go"
      refine no ?_
      cases y <;> first | rfl | skip
      show (_ && (_ && _)) = false
      rw [show (rng hs.length).contains _ = false from h2, Bool.false_and, Bool.and_false]
    · obtain ⟨j, rfl⟩ : ∃ j, y = .int j := by
        cases y <;> first | exact ⟨_, rfl⟩ | (simp [idxB] at h2)
      have m1 : i ∈ rng many := List.contains_iff_mem.mp h1
      have m2 : j ∈ rng hs.length := List.contains_iff_mem.mp h2
      obtain ⟨eh, j0⟩ := hall_get m2
      obtain ⟨ew, i0⟩ := wish_at hw.len m1
      walk_at "go"
      refine blocking_ok hh j0 eh hl m1 ew ?_
      refine fin_same0 rfl ?_
      have e : resB hs ws dl many (.int i) (.int j) = blkAt hs ws dl i j := by
        show ((rng many).contains i && ((rng hs.length).contains j && blkAt hs ws dl i j)) = _
        rw [show (rng many).contains i = true from h1, show (rng hs.length).contains j = true from h2]
        rfl
      rw [e] at k
      exact k
/-- the others -/
theorem blocks_no {hs : List (Int × List Int)} {ws : List (List Int)} {dl : List (Option Int)} {v : D} {C : Cs} {Q : QD} {E : XQ} (hv : v = .non ∨ (∃ i, v = .int i) ∨ (∃ xs, v = .lst xs) ∨ ∃ xs, v = .tup xs ∧ xs.length ≠ 2)
    (k : Q (.bl false) C) : sp_blocks [hallD hs, wishD ws, dealD dl, v] C Q E := by
  intro _ _
  unfold rd_blocks
  rcases hv with rfl | ⟨i, rfl⟩ | ⟨xs, rfl⟩ | ⟨xs, rfl, h⟩
  · walk_at "go"; exact fin_same0 rfl k
  · walk_at "go"; exact fin_same0 rfl k
  · walk_at "go"; exact fin_same0 rfl k
  · walk_at "go"
    refine w_neI ?_
    refine ite_ndec (fun _ => ?_) (fun e => absurd e (by omega))
    walk_at "go"
    exact fin_same0 rfl k
theorem mem_allP {hs : List (Int × List Int)} {ws : List (List Int)} {dl : List (Option Int)} {n : Nat} {i j : Int} : (i, j) ∈ allP hs ws dl n ↔ i ∈ rng n ∧ j ∈ rng hs.length ∧ blkAt hs ws dl i j = true := by
  unfold allP
  rw [List.mem_flatten]
  constructor
  · rintro ⟨l, hl, hm⟩
    obtain ⟨x, hx, rfl⟩ := List.mem_map.mp hl
    obtain ⟨pl, hp, e⟩ := List.mem_map.mp hm
    have e1 : x = i := congrArg Prod.fst e
    have e2 : pl = j := congrArg Prod.snd e
    subst e1 e2
    exact ⟨hx, (List.mem_filter.mp hp).1, (List.mem_filter.mp hp).2⟩
  · rintro ⟨h1, h2, h3⟩
    exact ⟨_, List.mem_map.mpr ⟨i, h1, rfl⟩, List.mem_map.mpr ⟨j, List.mem_filter.mpr ⟨h2, h3⟩, rfl⟩⟩
theorem shps_prD (n : Nat) : ∀ ps : List (Int × Int), shps (n + 1) (ps.map prD) = true
  | [] => rfl
  | p :: ps => by
    show (shp (n + 1) (prD p) && shps (n + 1) (ps.map prD)) = true
    rw [shps_prD n ps]
    show ((shp n (.int p.1) && (shp n (.int p.2) && shps n [])) && true) = true
    cases n <;> rfl
def notB : D → Bool
  | .bl _ => false
  | d => okV d
def pB (P : List (Int × Int)) (x y : D) : Bool := match x, y with
  | .int i, .int j => P.contains (i, j)
  | _, _ => false
theorem any_prD {x y : D} (hx : notB x = true) (hy : notB y = true) (P : List (Int × Int)) : (P.map prD).any (fun z => eqD z (.tup [x, y])) = pB P x y := by
  have e : ∀ p : Int × Int, eqD (prD p) (.tup [x, y]) = (PyData.eqv (.int p.1) (pd x) && PyData.eqv (.int p.2) (pd y)) := fun p => by
    show PyData.eqv (.tuple [.int p.1, .int p.2]) (.tuple [pd x, pd y]) = _
    rw [PyData.eqv, PyData.eqvAll, PyData.eqvAll, PyData.eqvAll, Bool.and_true]
  have no : (∀ p : Int × Int, eqD (prD p) (.tup [x, y]) = false) → (P.map prD).any (fun z => eqD z (.tup [x, y])) = false := fun h => by
    rw [List.any_eq_false]
    intro z hz
    obtain ⟨p, _, rfl⟩ := List.mem_map.mp hz
    rw [h p]
    exact Bool.false_ne_true
  cases x with
  | int i =>
    cases y with
    | int j =>
      show _ = P.contains (i, j)
      rw [List.any_map]
      rw [Bool.eq_iff_iff, List.any_eq_true, List.contains_iff_mem]
      constructor
      · rintro ⟨p, hp, h⟩
        have h' : (PyData.eqv (.int p.1) (.int i) && PyData.eqv (.int p.2) (.int j)) = true := (e p).symm.trans h
        rw [PyData.eqv, PyData.eqv, Bool.and_eq_true, beq_iff_eq, beq_iff_eq] at h'
        have : p = (i, j) := Prod.ext h'.1 h'.2
        rw [← this]
        exact hp
      · intro h
        refine ⟨(i, j), h, (e (i, j)).trans ?_⟩
        show (PyData.eqv (.int i) (.int i) && PyData.eqv (.int j) (.int j)) = true
        rw [PyData.eqv, PyData.eqv]
        simp
    | bl _ => simp [notB] at hy
    | non => exact no fun p => by rw [e]; simp [pd, PyData.eqv]
    | str _ => exact no fun p => by rw [e]; simp [pd, PyData.eqv]
    | tup _ => exact no fun p => by rw [e]; simp [pd, PyData.eqv]
    | _ => simp [notB, okV] at hy
  | bl _ => simp [notB] at hx
  | non => exact no fun p => by rw [e]; simp [pd, PyData.eqv]
  | str _ => exact no fun p => by rw [e]; simp [pd, PyData.eqv]
  | tup _ => exact no fun p => by rw [e]; simp [pd, PyData.eqv]
  | _ => simp [notB, okV] at hx
theorem str_small : ∀ n : Nat, n < 60 → (PyData.strOk (toString ((n : Nat) : Int) : String) && decide (((n : Nat) : Int).natAbs.log2 < 1920)) = true := by decide +kernel
/-- what the law asks of a value -/
theorem due_pair {r : Ev} {C : Cs} {Q : QD} {x y : D} {P : List (Int × Int)} (e12 : r.getD 12 none = some (.tup [x, y])) (e8 : r.getD 8 none = some (.lst (P.map prD))) (hx : okV x = true) (hy : okV y = true)
    (k : Q (.bl (pB P x y)) C) :
    dAndV (dIsi "tuple" (dVar 12)) (dAndV (dOp oEq (dCB oLen (dCons (dVar 12) dNil)) (dC (.int 2))) (dAndV (dNotV (dIsi "bool" (dOp oIx (dVar 12) (dC (.int 0))))) (dAndV (dNotV (dIsi "bool" (dOp oIx (dVar 12) (dC (.int 1))))) (dOp (oInN false) (dVar 12) (dVar 8))))) r C Q := by
  refine v_andV (v_isi (v_var e12 ?_))
  walk_at "go"
  refine v_andV (v_op (v_cb (v_cons (v_var e12 ?_))))
  walk_at "go"
  refine w_eqI ?_
  show dAndV _ _ _ _ _
  refine v_andV (v_notV (v_isi (v_op (v_var e12 ?_))))
  walk_at "go"
  by_cases bx : notB x = true
  · have s1 : dAndV (dNotV (dIsi "bool" (dOp oIx (dVar 12) (dC (.int 1))))) (dOp (oInN false) (dVar 12) (dVar 8)) r C Q := by
      refine v_andV (v_notV (v_isi (v_op (v_var e12 ?_))))
      walk_at "go"
      by_cases bY : notB y = true
      · have s2 : dOp (oInN false) (dVar 12) (dVar 8) r C Q := by
          refine v_op (v_var e12 (v_var e8 ?_))
          have hs : shp 60 (.tup [x, y]) = true := by
            have f : ∀ z : D, okV z = true → shp 59 z = true := fun z hz => by
              cases z <;> first | rfl | exact hz | (simp [okV] at hz)
            show (shp 59 x && (shp 59 y && true)) = true
            rw [f x hx, f y hy]
            rfl
          refine ⟨.inr ⟨rfl, hs, shps_prD 58 P⟩, ?_⟩
          show Q (.bl ((P.map prD).any fun z => eqD z (.tup [x, y]))) C
          rw [any_prD bx bY]
          exact k
        cases y with
        | non => exact opt_ok iT_bool_non s2
        | int _ => exact opt_ok iT_bool_int s2
        | str _ => exact opt_ok iT_bool_str s2
        | tup _ => exact opt_ok iT_bool_tup s2
        | _ => simp [notB, okV] at bY
      · obtain ⟨c, rfl⟩ : ∃ c, y = .bl c := by
          cases y <;> first | exact ⟨_, rfl⟩ | exact absurd hy bY
        walk_at "go"
        cases x <;> exact k
    cases x with
    | non => exact opt_ok iT_bool_non s1
    | int _ => exact opt_ok iT_bool_int s1
    | str _ => exact opt_ok iT_bool_str s1
    | tup _ => exact opt_ok iT_bool_tup s1
    | _ => simp [notB, okV] at bx
  · obtain ⟨c, rfl⟩ : ∃ c, x = .bl c := by
      cases x <;> first | exact ⟨_, rfl⟩ | exact absurd hx bx
    walk_at "go"
    exact k
theorem due_no {r : Ev} {C : Cs} {Q : QD} {v : D} (e12 : r.getD 12 none = some v) (hv : v = .non ∨ (∃ i, v = .int i) ∨ (∃ xs, v = .lst xs) ∨ ∃ xs, v = .tup xs ∧ xs.length ≠ 2) (k : Q (.bl false) C) (t : RE) :
    dAndV (dIsi "tuple" (dVar 12)) (dAndV (dOp oEq (dCB oLen (dCons (dVar 12) dNil)) (dC (.int 2))) t) r C Q := by
  refine v_andV (v_isi (v_var e12 ?_))
  rcases hv with rfl | ⟨i, rfl⟩ | ⟨xs, rfl⟩ | ⟨xs, rfl, h⟩
  · walk_at "go"; exact k
  · walk_at "go"; exact k
  · walk_at "go"; exact k
  · walk_at "go"
    refine v_andV (v_op (v_cb (v_cons (v_var e12 ?_))))
    walk_at "go"
    refine w_eqI ?_
    rw [decide_eq_false (by omega)]
    exact k
theorem law_plain (ns : List Int) (hl : ns.length ≤ 63) : sp_law [.scr (ns.map D.int)] [] (fun d _ => d = .bl true) (fun _ _ _ => False) := by
  intro _ _
  have big : (2 : Int) ^ 24 = 16777216 := by decide
  have d0 : ∀ (cs : List Int) (b : Int), Deal 0 1 cs b [Cl.lst [.cel 1, .int b], Cl.lst (cs.map D.int)] := fun cs b => ⟨rfl, rfl, by decide⟩
  have p0 : ∀ (cs cs' : List Int) (b b' : Int), putD 0 1 cs' b' [Cl.lst [.cel 1, .int b], Cl.lst (cs.map D.int)] = [Cl.lst [.cel 1, .int b'], Cl.lst (cs'.map D.int)] := fun _ _ _ _ => rfl
  unfold rd_law
  walk_at "go"
  refine draw_ok0 fun cs0 b0 hc0 => ?_
  walk_at "go"
  refine hall_ok (pe := 40) (pl := 12) (se := 20) (d0 _ _) hc0 (by omega) (by omega) (by omega) fun many1 hs1 cs1 b1 m10 m11 l1 hh1 hc1 => ?_
  rw [p0]
  walk_at "go"
  refine hall_ok (pe := 8) (pl := 4) (se := 3) (d0 _ _) hc1 (by omega) (by omega) (by omega) fun many2 hs2 cs2 b2 m20 m21 l2 hh2 hc2 => ?_
  rw [p0]
  walk_at "go"
  refine hall_ok (pe := 6) (pl := 4) (se := 2) (d0 _ _) hc2 (by omega) (by omega) (by omega) fun many3 hs3 cs3 b3 m30 m31 l3 hh3 hc3 => ?_
  rw [p0]
  walk_at "go"
  refine of_ok (d0 _ _) hc3 (.inl rfl) (by simp) (by simp) ?_ fun xh cs4 b4 hxh hc4 => ?_
  · show (los _ (hs1.map plD) && (los _ (hs2.map plD) && (los _ (hs3.map plD) && true))) = true
    rw [los_plD, los_plD, los_plD]
    rfl
  rw [p0]
  obtain ⟨many, hs, rfl, hm0, hm1, hhl, hh⟩ : ∃ (many : Nat) (hs : List (Int × List Int)), xh = hallD hs ∧ 1 ≤ many ∧ many ≤ 40 ∧ hs.length ≤ 12 ∧ HallOf many 20 hs := by
    have up : ∀ {many se : Nat} {hs : List (Int × List Int)}, se ≤ 20 → HallOf many se hs → HallOf many 20 hs := fun h H => ⟨H.toHall, H.some', H.few, fun p hp => by have := H.most' p hp; omega⟩
    simp only [List.mem_cons, List.not_mem_nil, or_false] at hxh
    rcases hxh with rfl | rfl | rfl
    · exact ⟨many1, hs1, rfl, m10, m11, l1, hh1⟩
    · exact ⟨many2, hs2, rfl, m20, by omega, by omega, up (by omega) hh2⟩
    · exact ⟨many3, hs3, rfl, m30, by omega, by omega, up (by omega) hh3⟩
  have hpos : 1 ≤ hs.length := List.length_pos_iff.mpr hh.some'
  obtain ⟨h0, g0⟩ : ∃ p, hs[0]? = some p := ⟨hs[0], List.getElem?_eq_getElem hpos⟩
  have hol : h0.2.length = many := by rw [(hh.order h0 (List.mem_of_getElem? g0)).length_eq, rng_len]
  walk_at "go"
  refine wishes_ok (d0 _ _) hc4 hh fun ws cs5 b5 hw hc5 => ?_
  rw [p0]
  have hwl := hw.len
  walk_at "go"
  refine w_ixT (hall_at (n := 0) rfl g0) ?_
  walk_at "go"
  rw [List.length_map, hol, List.length_map]
  refine ⟨⟨by decide, by decide⟩, ?_⟩
  refine ⟨fun c r C1 => ∃ (cs : List Int) (b : Int) (x3 x7 x8 x9 x10 x11 x12 x13 : Option D), r = [some (.scr (ns.map D.int)), some (.cel 0), some (hallD hs), x3, some (wishD ws), some (.int (many : Nat)), some (.int (hs.length : Nat)), x7, x8, x9, x10, x11, x12, x13] ∧
      C1 = [Cl.lst [.cel 1, .int b], Cl.lst (cs.map D.int)] ∧ cs.length ≤ 48,
    ⟨cs5, b5, _, _, _, _, _, _, _, _, rfl, rfl, hc5⟩, fun _ _ _ _ _ => trivial, ?_, ?_⟩
  · rintro c dd r C1 hd ⟨cs, b, x3, x7, x8, x9, x10, x11, x12, x13, rfl, rfl, hcl⟩
    walk_at "go"
    refine dealing_ok (d0 _ _) hcl hh hw (by omega) (by omega) fun dl cs1 b1 hdl hc1 => ?_
    rw [p0]
    have hdm : dl.length = many := hdl.len.trans hwl
    walk_at "go"
    refine lpairs_ok hh hw hdm (by omega) (by omega) ?_
    walk_at "go"
    rw [pick3]
    refine pairs_ok hh hw hdm (by omega) (by omega) ?_
    walk_at "go"
    have plp : pl 11 (.tup ((allP hs ws dl many).map prD)) = true := by
      have : ∀ P : List (Int × Int), pls 10 (P.map prD) = true := fun P => by
        induction P with
        | nil => rfl
        | cons p P ih =>
          show (pl 10 (prD p) && pls 10 (P.map prD)) = true
          rw [ih]
          rfl
      exact this _
    refine same_ok 11 _ plp ?_
    walk_at "go"
    refine ⟨⟨by decide, by decide⟩, ?_⟩
    have hP : (allP hs ws dl many).length ≤ 1000 := Nat.le_trans (allP_few many) (Nat.le_trans (Nat.mul_le_mul hm1 hhl) (by decide))
    refine ⟨fun c r C1 => ∃ (cs : List Int) (b : Int) (x9 x10 x11 x12 x13 : Option D), r = [some (.scr (ns.map D.int)), some (.cel 0), some (hallD hs), some dd, some (wishD ws), some (.int (many : Nat)), some (.int (hs.length : Nat)), some (dealD dl), some (.lst ((allP hs ws dl many).map prD)), x9, x10, x11, x12, x13] ∧
        C1 = [Cl.lst [.cel 1, .int b], Cl.lst (cs.map D.int)] ∧ cs.length ≤ 48,
      ⟨cs1, b1, _, _, _, _, _, rfl, rfl, hc1⟩, fun _ _ _ _ _ => trivial, ?_, ?_⟩
    · rintro c2 d2 r C1 hd2 ⟨cs2, b2, x9, x10, x11, x12, x13, rfl, rfl, hc2⟩
      -- the value's end
      have tail : ∀ (i j : Int) (v : D) (csy : List Int) (b' : Int) (x11 : Option D), csy.length ≤ 48 → ((∃ x y, v = .tup [x, y] ∧ okV x = true ∧ okV y = true) ∨ (v = .non ∨ (∃ i, v = .int i) ∨ (∃ xs, v = .lst xs) ∨ ∃ xs, v = .tup xs ∧ xs.length ≠ 2)) →
          sSeq (sSet 13 (dAndV (dIsi "tuple" (dVar 12)) (dAndV (dOp oEq (dCB oLen (dCons (dVar 12) dNil)) (dC (.int 2))) (dAndV (dNotV (dIsi "bool" (dOp oIx (dVar 12) (dC (.int 0))))) (dAndV (dNotV (dIsi "bool" (dOp oIx (dVar 12) (dC (.int 1))))) (dOp (oInN false) (dVar 12) (dVar 8)))))))
            (sIf (dNot (dTest (dCall sp_law_same (fun cls od _ C' => finX [] od C' fun od' C2 => False) (dCons (dCallK sp_blocks [3, 2, 1, 0] (fun cls od _ C' => finX [] od C' fun od' C2 => False) dNil (dCons (dVar 12) (dCons (dVar 7) (dCons (dVar 4) (dCons (dVar 2) dNil))))) (dCons (dVar 13) dNil))))) (sRet (dC (.bl false))) sNext)
            { nx := fun r C1 => ∃ (cs : List Int) (b : Int) (x9 x10 x11 x12 x13 : Option D), r = [some (.scr (ns.map D.int)), some (.cel 0), some (hallD hs), some dd, some (wishD ws), some (.int (many : Nat)), some (.int (hs.length : Nat)), some (dealD dl), some (.lst ((allP hs ws dl many).map prD)), x9, x10, x11, x12, x13] ∧ C1 = [Cl.lst [.cel 1, .int b], Cl.lst (cs.map D.int)] ∧ cs.length ≤ 48,
              rt := fun d C' => fin [] d C' (fun d _ => d = .bl true) }
            [some (.scr (ns.map D.int)), some (.cel 0), some (hallD hs), some dd, some (wishD ws), some (.int (many : Nat)), some (.int (hs.length : Nat)), some (dealD dl), some (.lst ((allP hs ws dl many).map prD)), some d2, some (prD (i, j)), x11, some v, x13] [Cl.lst [.cel 1, .int b'], Cl.lst (csy.map D.int)] := fun i j v csy b' x11 hcy hv => by
        refine v_seq (v_set ?_)
        rcases hv with ⟨x, y, rfl, hx, hy⟩ | hv
        · refine due_pair rfl rfl hx hy ?_
          walk_at "go"
          rw [pick4]
          refine blocks_ok hh hw hdm hx hy ?_
          walk_at "go"
          have eb : resB hs ws dl many x y = pB (allP hs ws dl many) x y := by
            cases x <;> first | rfl | skip
            cases y <;> first | rfl | skip
            rename_i i j
            show ((rng many).contains i && ((rng hs.length).contains j && blkAt hs ws dl i j)) = (allP hs ws dl many).contains (i, j)
            rw [Bool.eq_iff_iff, Bool.and_eq_true, Bool.and_eq_true, List.contains_iff_mem, List.contains_iff_mem, List.contains_iff_mem]
            exact mem_allP.symm
          rw [eb]
          refine same_ok 11 _ rfl ?_
          walk_at "go"
          exact ⟨csy, b', _, _, _, _, _, rfl, rfl, hcy⟩
        · refine due_no rfl hv ?_ _
          walk_at "go"
          rw [pick4]
          refine blocks_no hv ?_
          walk_at "go"
          refine same_ok 11 _ rfl ?_
          walk_at "go"
          exact ⟨csy, b', _, _, _, _, _, rfl, rfl, hcy⟩
      -- behind the pair
      have rest : ∀ (i j : Int) (csx : List Int) (bx : Int), csx.length ≤ 48 → i ∈ rng many → j ∈ rng hs.length →
          sSeq (sSet 11 (dLst (dCons (dVar 10) (dCons (dVar 10) (dCons (dVar 10) (dCons (dCB oList (dCons (dVar 10) dNil)) (dCons (dSl oSl (dVar 10) dNo (dPart (dC (.int 1)))) (dCons (dOp oAdd (dVar 10) (dTup (dCons (dC (.int 0)) dNil))) (dCons (dTup (dCons (dOp oIx (dVar 10) (dC (.int 0))) (dCons (dVar 6) dNil))) (dCons (dTup (dCons (dVar 5) (dCons (dOp oIx (dVar 10) (dC (.int 1))) dNil))) (dCons (dTup (dCons (dUn oNeg (dC (.int 1))) (dCons (dOp oIx (dVar 10) (dC (.int 1))) dNil))) (dCons (dTup (dCons (dOp oIx (dVar 10) (dC (.int 0))) (dCons (dC .non) dNil))) (dCons (dC .non) (dCons (dC (.int 0)) dNil))))))))))))))
          (sSeq (sSet 11 (dOp oAdd (dVar 11) (dLst (dCons (dTup (dCons (dOp oEq (dOp oIx (dVar 10) (dC (.int 0))) (dC (.int 1))) (dCons (dOp oIx (dVar 10) (dC (.int 1))) dNil))) (dCons (dTup (dCons (dOp oIx (dVar 10) (dC (.int 0))) (dCons (dOp oEq (dOp oIx (dVar 10) (dC (.int 1))) (dC (.int 1))) dNil))) (dCons (dTup (dCons (dCB oStrI (dCons (dOp oIx (dVar 10) (dC (.int 0))) dNil)) (dCons (dOp oIx (dVar 10) (dC (.int 1))) dNil))) (dCons (dTup (dCons (dOp oIx (dVar 10) (dC (.int 0))) (dCons (dTup (dCons (dOp oIx (dVar 10) (dC (.int 1))) dNil)) dNil))) dNil)))))))
          (sSeq (sSet 12 (dCall sp_law_of (fun cls od _ C' => finX [] od C' fun od' C2 => False) (dCons (dVar 1) (dCons (dVar 11) dNil)))) (sSeq (sSet 13 (dAndV (dIsi "tuple" (dVar 12)) (dAndV (dOp oEq (dCB oLen (dCons (dVar 12) dNil)) (dC (.int 2))) (dAndV (dNotV (dIsi "bool" (dOp oIx (dVar 12) (dC (.int 0))))) (dAndV (dNotV (dIsi "bool" (dOp oIx (dVar 12) (dC (.int 1))))) (dOp (oInN false) (dVar 12) (dVar 8))))))) (sIf (dNot (dTest (dCall sp_law_same (fun cls od _ C' => finX [] od C' fun od' C2 => False) (dCons (dCallK sp_blocks [3, 2, 1, 0] (fun cls od _ C' => finX [] od C' fun od' C2 => False) dNil (dCons (dVar 12) (dCons (dVar 7) (dCons (dVar 4) (dCons (dVar 2) dNil))))) (dCons (dVar 13) dNil))))) (sRet (dC (.bl false))) sNext))))
            { nx := fun r C1 => ∃ (cs : List Int) (b : Int) (x9 x10 x11 x12 x13 : Option D), r = [some (.scr (ns.map D.int)), some (.cel 0), some (hallD hs), some dd, some (wishD ws), some (.int (many : Nat)), some (.int (hs.length : Nat)), some (dealD dl), some (.lst ((allP hs ws dl many).map prD)), x9, x10, x11, x12, x13] ∧ C1 = [Cl.lst [.cel 1, .int b], Cl.lst (cs.map D.int)] ∧ cs.length ≤ 48,
              rt := fun d C' => fin [] d C' (fun d _ => d = .bl true) }
            [some (.scr (ns.map D.int)), some (.cel 0), some (hallD hs), some dd, some (wishD ws), some (.int (many : Nat)), some (.int (hs.length : Nat)), some (dealD dl), some (.lst ((allP hs ws dl many).map prD)), some d2, some (prD (i, j)), x11, x12, x13] [Cl.lst [.cel 1, .int bx], Cl.lst (csx.map D.int)] := fun i j csx bx hcx mi mj => by
        obtain ⟨i0, i1⟩ := rng_mem mi
        have st := str_small i.toNat (by omega)
        rw [show ((i.toNat : Nat) : Int) = i by omega, Bool.and_eq_true, decide_eq_true_eq] at st
        walk_at "go"
        rw [show cutD [D.int i, D.int j] none (some 1) = [.int i] by rw [cutD_hiI _ (by decide)]; rfl]
        refine w_addT (line_le (by simp)) ?_
        walk_at "go"
        refine w_eqI ?_
        walk_at "go"
        refine w_eqI ?_
        walk_at "go"
        refine ⟨st.2, ?_⟩
        walk_at "go"
        refine w_addL (line_le (by simp)) ?_
        walk_at "go"
        refine of_ok (d0 _ _) hcx (.inl rfl) (by simp) (by simp) rfl fun v cs3 b3 hv hc3 => ?_
        rw [p0]
        refine tail i j v cs3 b3 _ hc3 ?_
        simp only [List.mem_append, List.mem_cons, List.not_mem_nil, or_false] at hv
        rcases hv with (rfl | rfl | rfl | rfl | rfl | rfl | rfl | rfl | rfl | rfl | rfl | rfl) | (rfl | rfl | rfl | rfl)
        · exact .inl ⟨_, _, rfl, rfl, rfl⟩
        · exact .inl ⟨_, _, rfl, rfl, rfl⟩
        · exact .inl ⟨_, _, rfl, rfl, rfl⟩
        · exact .inr (.inr (.inr (.inl ⟨_, rfl⟩)))
        · exact .inr (.inr (.inr (.inr ⟨_, rfl, by simp⟩)))
        · exact .inr (.inr (.inr (.inr ⟨_, rfl, by simp⟩)))
        · exact .inl ⟨_, _, rfl, rfl, rfl⟩
        · exact .inl ⟨_, _, rfl, rfl, rfl⟩
        · exact .inl ⟨_, _, rfl, rfl, rfl⟩
        · exact .inl ⟨_, _, rfl, rfl, rfl⟩
        · exact .inr (.inl rfl)
        · exact .inr (.inr (.inl ⟨_, rfl⟩))
        · exact .inl ⟨_, _, rfl, rfl, rfl⟩
        · exact .inl ⟨_, _, rfl, rfl, rfl⟩
        · exact .inl ⟨_, _, rfl, st.1, rfl⟩
        · exact .inl ⟨_, _, rfl, rfl, rfl⟩
      -- the pair
      have drawn : ∀ (csx : List Int) (bx : Int), csx.length ≤ 48 → ∀ (Qx : QD), (∀ (i j : Int) (csy : List Int) (b' : Int), csy.length ≤ 48 → i ∈ rng many → j ∈ rng hs.length → Qx (prD (i, j)) [Cl.lst [.cel 1, .int b'], Cl.lst (csy.map D.int)]) →
          dTup (dCons (dCall sp_law_any (fun cls od _ C' => finX [] od C' fun od' C2 => False) (dCons (dVar 1) (dCons (dVar 5) dNil))) (dCons (dCall sp_law_any (fun cls od _ C' => finX [] od C' fun od' C2 => False) (dCons (dVar 1) (dCons (dVar 6) dNil))) dNil))
            [some (.scr (ns.map D.int)), some (.cel 0), some (hallD hs), some dd, some (wishD ws), some (.int (many : Nat)), some (.int (hs.length : Nat)), some (dealD dl), some (.lst ((allP hs ws dl many).map prD)), some d2, x10, x11, x12, x13] [Cl.lst [.cel 1, .int bx], Cl.lst (csx.map D.int)] Qx := fun csx bx hcx Qx kk => by
        walk_at "go"
        refine any_ok (d0 _ _) hcx (by omega) (by omega) fun i cs3 b3 i0 i1 hc3 => ?_
        rw [p0]
        walk_at "go"
        refine any_ok (d0 _ _) hc3 (by omega) (by omega) fun j cs4 b4 j0 j1 hc4 => ?_
        rw [p0]
        exact kk i j cs4 b4 hc4 (List.mem_map.mpr ⟨i.toNat, List.mem_range.mpr (by omega), by omega⟩) (List.mem_map.mpr ⟨j.toNat, List.mem_range.mpr (by omega), by omega⟩)
      refine v_gN ?_
      refine v_seq (v_set (v_ifE (v_and (v_test ?_))))
      walk_at "on"
      refine w_neNilL (shps_prD 58 _) ?_
      refine ite_nil (fun hne => ?_) (fun hnil => ?_)
      · walk_at "on"
        refine any_ok (d0 _ _) hc2 (by omega) (by omega) fun z cs3 b3 _ _ hc3 => ?_
        rw [p0]
        walk_at "on"
        refine w_eqI ?_
        refine ite_dec (fun hz => ?_) (fun hz => ?_)
        · walk_at "on"
          refine of_ok (d0 _ _) hc3 (.inl rfl) hne (by rw [List.length_map]; omega) (los_prD _ _) fun v cs4 b4 hv hc4 => ?_
          rw [p0]
          obtain ⟨⟨i, j⟩, hm, rfl⟩ := List.mem_map.mp hv
          obtain ⟨m1, m2, _⟩ := mem_allP.mp hm
          exact rest i j cs4 b4 hc4 m1 m2
        · refine drawn cs3 b3 hc3 _ fun i j cs4 b4 hc4 m1 m2 => ?_
          exact rest i j cs4 b4 hc4 m1 m2
      · refine ite_false' ?_
        refine drawn cs2 b2 hc2 _ fun i j cs4 b4 hc4 m1 m2 => ?_
        exact rest i j cs4 b4 hc4 m1 m2
    · rintro r C1 ⟨cs2, b2, x9, x10, x11, x12, x13, rfl, rfl, hc2⟩
      exact ⟨cs2, b2, _, _, _, _, _, _, _, _, rfl, rfl, hc2⟩
  · rintro r C1 ⟨cs, b, x3, x7, x8, x9, x10, x11, x12, x13, rfl, rfl, hcl⟩
    walk_at "go"
    exact fin_wr (Nat.zero_le _) rfl rfl rfl
def LV : Nat := 13
theorem all_mk {l : PySem.W.OpenLaw} {w : World} {K : PySem.W.Frag} {h : Heap} {mg : Str → Option Value} {fa : Addr} (X : K.In h) (G : h.Ns mainGlobals mg) (hfa : mg "law" = some (.ref fa))
    {f_is_integer : Addr} {od_is_integer an_is_integer : Option Addr} {sl_is_integer : Array (Option Value)} {oc_is_integer kV_is_integer dc_is_integer pm_is_integer cd_is_integer ct_is_integer : Value}
    {f_is_index : Addr} {od_is_index an_is_index : Option Addr} {sl_is_index : Array (Option Value)} {oc_is_index kV_is_index dc_is_index pm_is_index cd_is_index ct_is_index : Value}
    {f_people_in : Addr} {od_people_in an_people_in : Option Addr} {sl_people_in : Array (Option Value)} {oc_people_in kV_people_in dc_people_in pm_people_in cd_people_in ct_people_in : Value}
    {f_rank : Addr} {od_rank an_rank : Option Addr} {sl_rank : Array (Option Value)} {oc_rank kV_rank dc_rank pm_rank cd_rank ct_rank : Value}
    {f_is_ahead : Addr} {od_is_ahead an_is_ahead : Option Addr} {sl_is_ahead : Array (Option Value)} {oc_is_ahead kV_is_ahead dc_is_ahead pm_is_ahead cd_is_ahead ct_is_ahead : Value}
    {f_those_at : Addr} {od_those_at an_those_at : Option Addr} {sl_those_at : Array (Option Value)} {oc_those_at kV_those_at dc_those_at pm_those_at cd_those_at ct_those_at : Value}
    {f_place_in_list : Addr} {od_place_in_list an_place_in_list : Option Addr} {sl_place_in_list : Array (Option Value)} {oc_place_in_list kV_place_in_list dc_place_in_list pm_place_in_list cd_place_in_list ct_place_in_list : Value}
    {f_likes_better : Addr} {od_likes_better an_likes_better : Option Addr} {sl_likes_better : Array (Option Value)} {oc_likes_better kV_likes_better dc_likes_better pm_likes_better cd_likes_better ct_likes_better : Value}
    {f_would_enter : Addr} {od_would_enter an_would_enter : Option Addr} {sl_would_enter : Array (Option Value)} {oc_would_enter kV_would_enter dc_would_enter pm_would_enter cd_would_enter ct_would_enter : Value}
    {f_is_blocking : Addr} {od_is_blocking an_is_blocking : Option Addr} {sl_is_blocking : Array (Option Value)} {oc_is_blocking kV_is_blocking dc_is_blocking pm_is_blocking cd_is_blocking ct_is_blocking : Value}
    {f_blocking_pairs : Addr} {od_blocking_pairs an_blocking_pairs : Option Addr} {sl_blocking_pairs : Array (Option Value)} {oc_blocking_pairs kV_blocking_pairs dc_blocking_pairs pm_blocking_pairs cd_blocking_pairs ct_blocking_pairs : Value}
    {f_blocks : Addr} {od_blocks an_blocks : Option Addr} {sl_blocks : Array (Option Value)} {oc_blocks kV_blocks dc_blocks pm_blocks cd_blocks ct_blocks : Value}
    {f_law_draw : Addr} {od_law_draw an_law_draw : Option Addr} {sl_law_draw : Array (Option Value)} {oc_law_draw kV_law_draw dc_law_draw pm_law_draw cd_law_draw ct_law_draw : Value}
    {f_law_any : Addr} {od_law_any an_law_any : Option Addr} {sl_law_any : Array (Option Value)} {oc_law_any kV_law_any dc_law_any pm_law_any cd_law_any ct_law_any : Value}
    {f_law_of : Addr} {od_law_of an_law_of : Option Addr} {sl_law_of : Array (Option Value)} {oc_law_of kV_law_of dc_law_of pm_law_of cd_law_of ct_law_of : Value}
    {f_law_mixed : Addr} {od_law_mixed an_law_mixed : Option Addr} {sl_law_mixed : Array (Option Value)} {oc_law_mixed kV_law_mixed dc_law_mixed pm_law_mixed cd_law_mixed ct_law_mixed : Value}
    {f_law_same : Addr} {od_law_same an_law_same : Option Addr} {sl_law_same : Array (Option Value)} {oc_law_same kV_law_same dc_law_same pm_law_same cd_law_same ct_law_same : Value}
    {f_law_order : Addr} {od_law_order an_law_order : Option Addr} {sl_law_order : Array (Option Value)} {oc_law_order kV_law_order dc_law_order pm_law_order cd_law_order ct_law_order : Value}
    {f_law_hall : Addr} {od_law_hall an_law_hall : Option Addr} {sl_law_hall : Array (Option Value)} {oc_law_hall kV_law_hall dc_law_hall pm_law_hall cd_law_hall ct_law_hall : Value}
    {f_law_list : Addr} {od_law_list an_law_list : Option Addr} {sl_law_list : Array (Option Value)} {oc_law_list kV_law_list dc_law_list pm_law_list cd_law_list ct_law_list : Value}
    {f_law_wishes : Addr} {od_law_wishes an_law_wishes : Option Addr} {sl_law_wishes : Array (Option Value)} {oc_law_wishes kV_law_wishes dc_law_wishes pm_law_wishes cd_law_wishes ct_law_wishes : Value}
    {f_law_spot : Addr} {od_law_spot an_law_spot : Option Addr} {sl_law_spot : Array (Option Value)} {oc_law_spot kV_law_spot dc_law_spot pm_law_spot cd_law_spot ct_law_spot : Value}
    {f_law_at : Addr} {od_law_at an_law_at : Option Addr} {sl_law_at : Array (Option Value)} {oc_law_at kV_law_at dc_law_at pm_law_at cd_law_at ct_law_at : Value}
    {f_law_pairs : Addr} {od_law_pairs an_law_pairs : Option Addr} {sl_law_pairs : Array (Option Value)} {oc_law_pairs kV_law_pairs dc_law_pairs pm_law_pairs cd_law_pairs ct_law_pairs : Value}
    {f_law_offers : Addr} {od_law_offers an_law_offers : Option Addr} {sl_law_offers : Array (Option Value)} {oc_law_offers kV_law_offers dc_law_offers pm_law_offers cd_law_offers ct_law_offers : Value}
    {f_law_dealing : Addr} {od_law_dealing an_law_dealing : Option Addr} {sl_law_dealing : Array (Option Value)} {oc_law_dealing kV_law_dealing dc_law_dealing pm_law_dealing cd_law_dealing ct_law_dealing : Value}
    {f_law : Addr} {od_law an_law : Option Addr} {sl_law : Array (Option Value)} {oc_law kV_law dc_law pm_law cd_law ct_law : Value}
    (a_is_integer : PySem.W.nsIn K mainGlobals "is_integer" = some (some (.ref f_is_integer))) (l_is_integer : K.lookup f_is_integer = some ⟨oc_is_integer, od_is_integer, .func (PySem.W.fnOf "is_integer" "is_integer" (defArgs s_is_integer) (defBody s_is_integer) (defScope s_is_integer) .none kV_is_integer dc_is_integer pm_is_integer an_is_integer cd_is_integer ct_is_integer), sl_is_integer⟩) (c_is_integer : PySem.W.codeIn K cd_is_integer "is_integer" = true) (k_is_integer : PySem.W.keepIn K (.ref f_is_integer) = true)
    (a_is_index : PySem.W.nsIn K mainGlobals "is_index" = some (some (.ref f_is_index))) (l_is_index : K.lookup f_is_index = some ⟨oc_is_index, od_is_index, .func (PySem.W.fnOf "is_index" "is_index" (defArgs s_is_index) (defBody s_is_index) (defScope s_is_index) .none kV_is_index dc_is_index pm_is_index an_is_index cd_is_index ct_is_index), sl_is_index⟩) (c_is_index : PySem.W.codeIn K cd_is_index "is_index" = true) (k_is_index : PySem.W.keepIn K (.ref f_is_index) = true)
    (a_people_in : PySem.W.nsIn K mainGlobals "people_in" = some (some (.ref f_people_in))) (l_people_in : K.lookup f_people_in = some ⟨oc_people_in, od_people_in, .func (PySem.W.fnOf "people_in" "people_in" (defArgs s_people_in) (defBody s_people_in) (defScope s_people_in) .none kV_people_in dc_people_in pm_people_in an_people_in cd_people_in ct_people_in), sl_people_in⟩) (c_people_in : PySem.W.codeIn K cd_people_in "people_in" = true) (k_people_in : PySem.W.keepIn K (.ref f_people_in) = true)
    (a_rank : PySem.W.nsIn K mainGlobals "rank" = some (some (.ref f_rank))) (l_rank : K.lookup f_rank = some ⟨oc_rank, od_rank, .func (PySem.W.fnOf "rank" "rank" (defArgs s_rank) (defBody s_rank) (defScope s_rank) .none kV_rank dc_rank pm_rank an_rank cd_rank ct_rank), sl_rank⟩) (c_rank : PySem.W.codeIn K cd_rank "rank" = true) (k_rank : PySem.W.keepIn K (.ref f_rank) = true)
    (a_is_ahead : PySem.W.nsIn K mainGlobals "is_ahead" = some (some (.ref f_is_ahead))) (l_is_ahead : K.lookup f_is_ahead = some ⟨oc_is_ahead, od_is_ahead, .func (PySem.W.fnOf "is_ahead" "is_ahead" (defArgs s_is_ahead) (defBody s_is_ahead) (defScope s_is_ahead) .none kV_is_ahead dc_is_ahead pm_is_ahead an_is_ahead cd_is_ahead ct_is_ahead), sl_is_ahead⟩) (c_is_ahead : PySem.W.codeIn K cd_is_ahead "is_ahead" = true) (k_is_ahead : PySem.W.keepIn K (.ref f_is_ahead) = true)
    (a_those_at : PySem.W.nsIn K mainGlobals "those_at" = some (some (.ref f_those_at))) (l_those_at : K.lookup f_those_at = some ⟨oc_those_at, od_those_at, .func (PySem.W.fnOf "those_at" "those_at" (defArgs s_those_at) (defBody s_those_at) (defScope s_those_at) .none kV_those_at dc_those_at pm_those_at an_those_at cd_those_at ct_those_at), sl_those_at⟩) (c_those_at : PySem.W.codeIn K cd_those_at "those_at" = true) (k_those_at : PySem.W.keepIn K (.ref f_those_at) = true)
    (a_place_in_list : PySem.W.nsIn K mainGlobals "place_in_list" = some (some (.ref f_place_in_list))) (l_place_in_list : K.lookup f_place_in_list = some ⟨oc_place_in_list, od_place_in_list, .func (PySem.W.fnOf "place_in_list" "place_in_list" (defArgs s_place_in_list) (defBody s_place_in_list) (defScope s_place_in_list) .none kV_place_in_list dc_place_in_list pm_place_in_list an_place_in_list cd_place_in_list ct_place_in_list), sl_place_in_list⟩) (c_place_in_list : PySem.W.codeIn K cd_place_in_list "place_in_list" = true) (k_place_in_list : PySem.W.keepIn K (.ref f_place_in_list) = true)
    (a_likes_better : PySem.W.nsIn K mainGlobals "likes_better" = some (some (.ref f_likes_better))) (l_likes_better : K.lookup f_likes_better = some ⟨oc_likes_better, od_likes_better, .func (PySem.W.fnOf "likes_better" "likes_better" (defArgs s_likes_better) (defBody s_likes_better) (defScope s_likes_better) .none kV_likes_better dc_likes_better pm_likes_better an_likes_better cd_likes_better ct_likes_better), sl_likes_better⟩) (c_likes_better : PySem.W.codeIn K cd_likes_better "likes_better" = true) (k_likes_better : PySem.W.keepIn K (.ref f_likes_better) = true)
    (a_would_enter : PySem.W.nsIn K mainGlobals "would_enter" = some (some (.ref f_would_enter))) (l_would_enter : K.lookup f_would_enter = some ⟨oc_would_enter, od_would_enter, .func (PySem.W.fnOf "would_enter" "would_enter" (defArgs s_would_enter) (defBody s_would_enter) (defScope s_would_enter) .none kV_would_enter dc_would_enter pm_would_enter an_would_enter cd_would_enter ct_would_enter), sl_would_enter⟩) (c_would_enter : PySem.W.codeIn K cd_would_enter "would_enter" = true) (k_would_enter : PySem.W.keepIn K (.ref f_would_enter) = true)
    (a_is_blocking : PySem.W.nsIn K mainGlobals "is_blocking" = some (some (.ref f_is_blocking))) (l_is_blocking : K.lookup f_is_blocking = some ⟨oc_is_blocking, od_is_blocking, .func (PySem.W.fnOf "is_blocking" "is_blocking" (defArgs s_is_blocking) (defBody s_is_blocking) (defScope s_is_blocking) .none kV_is_blocking dc_is_blocking pm_is_blocking an_is_blocking cd_is_blocking ct_is_blocking), sl_is_blocking⟩) (c_is_blocking : PySem.W.codeIn K cd_is_blocking "is_blocking" = true) (k_is_blocking : PySem.W.keepIn K (.ref f_is_blocking) = true)
    (a_blocking_pairs : PySem.W.nsIn K mainGlobals "blocking_pairs" = some (some (.ref f_blocking_pairs))) (l_blocking_pairs : K.lookup f_blocking_pairs = some ⟨oc_blocking_pairs, od_blocking_pairs, .func (PySem.W.fnOf "blocking_pairs" "blocking_pairs" (defArgs s_blocking_pairs) (defBody s_blocking_pairs) (defScope s_blocking_pairs) .none kV_blocking_pairs dc_blocking_pairs pm_blocking_pairs an_blocking_pairs cd_blocking_pairs ct_blocking_pairs), sl_blocking_pairs⟩) (c_blocking_pairs : PySem.W.codeIn K cd_blocking_pairs "blocking_pairs" = true) (k_blocking_pairs : PySem.W.keepIn K (.ref f_blocking_pairs) = true)
    (a_blocks : PySem.W.nsIn K mainGlobals "blocks" = some (some (.ref f_blocks))) (l_blocks : K.lookup f_blocks = some ⟨oc_blocks, od_blocks, .func (PySem.W.fnOf "blocks" "blocks" (defArgs s_blocks) (defBody s_blocks) (defScope s_blocks) .none kV_blocks dc_blocks pm_blocks an_blocks cd_blocks ct_blocks), sl_blocks⟩) (c_blocks : PySem.W.codeIn K cd_blocks "blocks" = true) (k_blocks : PySem.W.keepIn K (.ref f_blocks) = true)
    (a_law_draw : PySem.W.nsIn K mainGlobals "_law_draw" = some (some (.ref f_law_draw))) (l_law_draw : K.lookup f_law_draw = some ⟨oc_law_draw, od_law_draw, .func (PySem.W.fnOf "_law_draw" "_law_draw" (defArgs s_law_draw) (defBody s_law_draw) (defScope s_law_draw) .none kV_law_draw dc_law_draw pm_law_draw an_law_draw cd_law_draw ct_law_draw), sl_law_draw⟩) (c_law_draw : PySem.W.codeIn K cd_law_draw "_law_draw" = true) (k_law_draw : PySem.W.keepIn K (.ref f_law_draw) = true)
    (a_law_any : PySem.W.nsIn K mainGlobals "_law_any" = some (some (.ref f_law_any))) (l_law_any : K.lookup f_law_any = some ⟨oc_law_any, od_law_any, .func (PySem.W.fnOf "_law_any" "_law_any" (defArgs s_law_any) (defBody s_law_any) (defScope s_law_any) .none kV_law_any dc_law_any pm_law_any an_law_any cd_law_any ct_law_any), sl_law_any⟩) (c_law_any : PySem.W.codeIn K cd_law_any "_law_any" = true) (k_law_any : PySem.W.keepIn K (.ref f_law_any) = true)
    (a_law_of : PySem.W.nsIn K mainGlobals "_law_of" = some (some (.ref f_law_of))) (l_law_of : K.lookup f_law_of = some ⟨oc_law_of, od_law_of, .func (PySem.W.fnOf "_law_of" "_law_of" (defArgs s_law_of) (defBody s_law_of) (defScope s_law_of) .none kV_law_of dc_law_of pm_law_of an_law_of cd_law_of ct_law_of), sl_law_of⟩) (c_law_of : PySem.W.codeIn K cd_law_of "_law_of" = true) (k_law_of : PySem.W.keepIn K (.ref f_law_of) = true)
    (a_law_mixed : PySem.W.nsIn K mainGlobals "_law_mixed" = some (some (.ref f_law_mixed))) (l_law_mixed : K.lookup f_law_mixed = some ⟨oc_law_mixed, od_law_mixed, .func (PySem.W.fnOf "_law_mixed" "_law_mixed" (defArgs s_law_mixed) (defBody s_law_mixed) (defScope s_law_mixed) .none kV_law_mixed dc_law_mixed pm_law_mixed an_law_mixed cd_law_mixed ct_law_mixed), sl_law_mixed⟩) (c_law_mixed : PySem.W.codeIn K cd_law_mixed "_law_mixed" = true) (k_law_mixed : PySem.W.keepIn K (.ref f_law_mixed) = true)
    (a_law_same : PySem.W.nsIn K mainGlobals "_law_same" = some (some (.ref f_law_same))) (l_law_same : K.lookup f_law_same = some ⟨oc_law_same, od_law_same, .func (PySem.W.fnOf "_law_same" "_law_same" (defArgs s_law_same) (defBody s_law_same) (defScope s_law_same) .none kV_law_same dc_law_same pm_law_same an_law_same cd_law_same ct_law_same), sl_law_same⟩) (c_law_same : PySem.W.codeIn K cd_law_same "_law_same" = true) (k_law_same : PySem.W.keepIn K (.ref f_law_same) = true)
    (a_law_order : PySem.W.nsIn K mainGlobals "_law_order" = some (some (.ref f_law_order))) (l_law_order : K.lookup f_law_order = some ⟨oc_law_order, od_law_order, .func (PySem.W.fnOf "_law_order" "_law_order" (defArgs s_law_order) (defBody s_law_order) (defScope s_law_order) .none kV_law_order dc_law_order pm_law_order an_law_order cd_law_order ct_law_order), sl_law_order⟩) (c_law_order : PySem.W.codeIn K cd_law_order "_law_order" = true) (k_law_order : PySem.W.keepIn K (.ref f_law_order) = true)
    (a_law_hall : PySem.W.nsIn K mainGlobals "_law_hall" = some (some (.ref f_law_hall))) (l_law_hall : K.lookup f_law_hall = some ⟨oc_law_hall, od_law_hall, .func (PySem.W.fnOf "_law_hall" "_law_hall" (defArgs s_law_hall) (defBody s_law_hall) (defScope s_law_hall) .none kV_law_hall dc_law_hall pm_law_hall an_law_hall cd_law_hall ct_law_hall), sl_law_hall⟩) (c_law_hall : PySem.W.codeIn K cd_law_hall "_law_hall" = true) (k_law_hall : PySem.W.keepIn K (.ref f_law_hall) = true)
    (a_law_list : PySem.W.nsIn K mainGlobals "_law_list" = some (some (.ref f_law_list))) (l_law_list : K.lookup f_law_list = some ⟨oc_law_list, od_law_list, .func (PySem.W.fnOf "_law_list" "_law_list" (defArgs s_law_list) (defBody s_law_list) (defScope s_law_list) .none kV_law_list dc_law_list pm_law_list an_law_list cd_law_list ct_law_list), sl_law_list⟩) (c_law_list : PySem.W.codeIn K cd_law_list "_law_list" = true) (k_law_list : PySem.W.keepIn K (.ref f_law_list) = true)
    (a_law_wishes : PySem.W.nsIn K mainGlobals "_law_wishes" = some (some (.ref f_law_wishes))) (l_law_wishes : K.lookup f_law_wishes = some ⟨oc_law_wishes, od_law_wishes, .func (PySem.W.fnOf "_law_wishes" "_law_wishes" (defArgs s_law_wishes) (defBody s_law_wishes) (defScope s_law_wishes) .none kV_law_wishes dc_law_wishes pm_law_wishes an_law_wishes cd_law_wishes ct_law_wishes), sl_law_wishes⟩) (c_law_wishes : PySem.W.codeIn K cd_law_wishes "_law_wishes" = true) (k_law_wishes : PySem.W.keepIn K (.ref f_law_wishes) = true)
    (a_law_spot : PySem.W.nsIn K mainGlobals "_law_spot" = some (some (.ref f_law_spot))) (l_law_spot : K.lookup f_law_spot = some ⟨oc_law_spot, od_law_spot, .func (PySem.W.fnOf "_law_spot" "_law_spot" (defArgs s_law_spot) (defBody s_law_spot) (defScope s_law_spot) .none kV_law_spot dc_law_spot pm_law_spot an_law_spot cd_law_spot ct_law_spot), sl_law_spot⟩) (c_law_spot : PySem.W.codeIn K cd_law_spot "_law_spot" = true) (k_law_spot : PySem.W.keepIn K (.ref f_law_spot) = true)
    (a_law_at : PySem.W.nsIn K mainGlobals "_law_at" = some (some (.ref f_law_at))) (l_law_at : K.lookup f_law_at = some ⟨oc_law_at, od_law_at, .func (PySem.W.fnOf "_law_at" "_law_at" (defArgs s_law_at) (defBody s_law_at) (defScope s_law_at) .none kV_law_at dc_law_at pm_law_at an_law_at cd_law_at ct_law_at), sl_law_at⟩) (c_law_at : PySem.W.codeIn K cd_law_at "_law_at" = true) (k_law_at : PySem.W.keepIn K (.ref f_law_at) = true)
    (a_law_pairs : PySem.W.nsIn K mainGlobals "_law_pairs" = some (some (.ref f_law_pairs))) (l_law_pairs : K.lookup f_law_pairs = some ⟨oc_law_pairs, od_law_pairs, .func (PySem.W.fnOf "_law_pairs" "_law_pairs" (defArgs s_law_pairs) (defBody s_law_pairs) (defScope s_law_pairs) .none kV_law_pairs dc_law_pairs pm_law_pairs an_law_pairs cd_law_pairs ct_law_pairs), sl_law_pairs⟩) (c_law_pairs : PySem.W.codeIn K cd_law_pairs "_law_pairs" = true) (k_law_pairs : PySem.W.keepIn K (.ref f_law_pairs) = true)
    (a_law_offers : PySem.W.nsIn K mainGlobals "_law_offers" = some (some (.ref f_law_offers))) (l_law_offers : K.lookup f_law_offers = some ⟨oc_law_offers, od_law_offers, .func (PySem.W.fnOf "_law_offers" "_law_offers" (defArgs s_law_offers) (defBody s_law_offers) (defScope s_law_offers) .none kV_law_offers dc_law_offers pm_law_offers an_law_offers cd_law_offers ct_law_offers), sl_law_offers⟩) (c_law_offers : PySem.W.codeIn K cd_law_offers "_law_offers" = true) (k_law_offers : PySem.W.keepIn K (.ref f_law_offers) = true)
    (a_law_dealing : PySem.W.nsIn K mainGlobals "_law_dealing" = some (some (.ref f_law_dealing))) (l_law_dealing : K.lookup f_law_dealing = some ⟨oc_law_dealing, od_law_dealing, .func (PySem.W.fnOf "_law_dealing" "_law_dealing" (defArgs s_law_dealing) (defBody s_law_dealing) (defScope s_law_dealing) .none kV_law_dealing dc_law_dealing pm_law_dealing an_law_dealing cd_law_dealing ct_law_dealing), sl_law_dealing⟩) (c_law_dealing : PySem.W.codeIn K cd_law_dealing "_law_dealing" = true) (k_law_dealing : PySem.W.keepIn K (.ref f_law_dealing) = true)
    (a_law : PySem.W.nsIn K mainGlobals "law" = some (some (.ref f_law))) (l_law : K.lookup f_law = some ⟨oc_law, od_law, .func (PySem.W.fnOf "law" "law" (defArgs s_law) (defBody s_law) (defScope s_law) .none kV_law dc_law pm_law an_law cd_law ct_law), sl_law⟩) (c_law : PySem.W.codeIn K cd_law "law" = true) (k_law : PySem.W.keepIn K (.ref f_law) = true)
    (z_abs : PySem.W.nsIn K mainGlobals "abs" = some none)
    (z_any : PySem.W.nsIn K mainGlobals "any" = some none)
    (z_bool : PySem.W.nsIn K mainGlobals "bool" = some none)
    (z_enumerate : PySem.W.nsIn K mainGlobals "enumerate" = some none)
    (z_int : PySem.W.nsIn K mainGlobals "int" = some none)
    (z_isinstance : PySem.W.nsIn K mainGlobals "isinstance" = some none)
    (z_len : PySem.W.nsIn K mainGlobals "len" = some none)
    (z_list : PySem.W.nsIn K mainGlobals "list" = some none)
    (z_max : PySem.W.nsIn K mainGlobals "max" = some none)
    (z_min : PySem.W.nsIn K mainGlobals "min" = some none)
    (z_range : PySem.W.nsIn K mainGlobals "range" = some none)
    (z_sorted : PySem.W.nsIn K mainGlobals "sorted" = some none)
    (z_str : PySem.W.nsIn K mainGlobals "str" = some none)
    (z_tuple : PySem.W.nsIn K mainGlobals "tuple" = some none)
    (z_zip : PySem.W.nsIn K mainGlobals "zip" = some none) :
    ∃ fd : FuncData, (∀ (s : Shared) (v : Value), BindsTo s fd ⟨[v], []⟩ [("script", v)]) ∧ ∀ base : Heap, K.In base → base.Ns mainGlobals mg → FnOk l.prog w K mg base (L2.CX l.prog w) LV fa fd ["script"] (spUp K 1 sp_law) := by
  have e := hfa.symm.trans (PySem.W.mg_of X G a_law)
  cases e
  have m_abs := PySem.W.mg_none_of X G z_abs
  have m_any := PySem.W.mg_none_of X G z_any
  have m_bool := PySem.W.mg_none_of X G z_bool
  have m_enumerate := PySem.W.mg_none_of X G z_enumerate
  have m_int := PySem.W.mg_none_of X G z_int
  have m_isinstance := PySem.W.mg_none_of X G z_isinstance
  have m_len := PySem.W.mg_none_of X G z_len
  have m_list := PySem.W.mg_none_of X G z_list
  have m_max := PySem.W.mg_none_of X G z_max
  have m_min := PySem.W.mg_none_of X G z_min
  have m_range := PySem.W.mg_none_of X G z_range
  have m_sorted := PySem.W.mg_none_of X G z_sorted
  have m_str := PySem.W.mg_none_of X G z_str
  have m_tuple := PySem.W.mg_none_of X G z_tuple
  have m_zip := PySem.W.mg_none_of X G z_zip
  refine ⟨PySem.W.fnOf "law" "law" (defArgs s_law) (defBody s_law) (defScope s_law) .none kV_law dc_law pm_law an_law cd_law ct_law, fun s v => .of_eq rfl, fun base _ _ => ?_⟩
  have G_is_integer : Fn l.prog w K mg base 1 "is_integer" s_is_integer ["value"] sp_is_integer := fn_is_integer (k := 0) m_bool m_int m_isinstance  (fun_mk (st := s_is_integer) l_is_integer c_is_integer k_is_integer) (PySem.W.mg_of X G a_is_integer)
  have G_is_index : Fn l.prog w K mg base 2 "is_index" s_is_index ["value", "many"] sp_is_index := fn_is_index (k := 1)  (G_is_integer.mono (by decide : 1 ≤ 1)) (fun_mk (st := s_is_index) l_is_index c_is_index k_is_index) (PySem.W.mg_of X G a_is_index)
  have G_people_in : Fn l.prog w K mg base 1 "people_in" s_people_in ["hall"] sp_people_in := fn_people_in (k := 0) m_len  (fun_mk (st := s_people_in) l_people_in c_people_in k_people_in) (PySem.W.mg_of X G a_people_in)
  have G_rank : Fn l.prog w K mg base 1 "rank" s_rank ["hall", "place", "person"] sp_rank := fn_rank (k := 0)   (fun_mk (st := s_rank) l_rank c_rank k_rank) (PySem.W.mg_of X G a_rank)
  have G_is_ahead : Fn l.prog w K mg base 2 "is_ahead" s_is_ahead ["hall", "place", "one", "other"] sp_is_ahead := fn_is_ahead (k := 1)  (G_rank.mono (by decide : 1 ≤ 1)) (fun_mk (st := s_is_ahead) l_is_ahead c_is_ahead k_is_ahead) (PySem.W.mg_of X G a_is_ahead)
  have G_those_at : Fn l.prog w K mg base 1 "those_at" s_those_at ["dealing", "place"] sp_those_at := fn_those_at (k := 0) m_enumerate m_tuple  (fun_mk (st := s_those_at) l_those_at c_those_at k_those_at) (PySem.W.mg_of X G a_those_at)
  have G_place_in_list : Fn l.prog w K mg base 1 "place_in_list" s_place_in_list ["wishes", "person", "x"] sp_place_in_list := fn_place_in_list (k := 0) m_len  (fun_mk (st := s_place_in_list) l_place_in_list c_place_in_list k_place_in_list) (PySem.W.mg_of X G a_place_in_list)
  have G_likes_better : Fn l.prog w K mg base 2 "likes_better" s_likes_better ["wishes", "person", "one", "other"] sp_likes_better := fn_likes_better (k := 1)  (G_place_in_list.mono (by decide : 1 ≤ 1)) (fun_mk (st := s_likes_better) l_likes_better c_likes_better k_likes_better) (PySem.W.mg_of X G a_likes_better)
  have G_would_enter : Fn l.prog w K mg base 3 "would_enter" s_would_enter ["hall", "dealing", "person", "place"] sp_would_enter := fn_would_enter (k := 2) m_any m_len (G_those_at.mono (by decide : 1 ≤ 2)) (G_is_ahead.mono (by decide : 2 ≤ 2)) (fun_mk (st := s_would_enter) l_would_enter c_would_enter k_would_enter) (PySem.W.mg_of X G a_would_enter)
  have G_is_blocking : Fn l.prog w K mg base 4 "is_blocking" s_is_blocking ["hall", "wishes", "dealing", "person", "place"] sp_is_blocking := fn_is_blocking (k := 3)  (G_likes_better.mono (by decide : 2 ≤ 3)) (G_would_enter.mono (by decide : 3 ≤ 3)) (fun_mk (st := s_is_blocking) l_is_blocking c_is_blocking k_is_blocking) (PySem.W.mg_of X G a_is_blocking)
  have G_blocking_pairs : Fn l.prog w K mg base 5 "blocking_pairs" s_blocking_pairs ["hall", "wishes", "dealing"] sp_blocking_pairs := fn_blocking_pairs (k := 4) m_len m_range m_tuple (G_people_in.mono (by decide : 1 ≤ 4)) (G_is_blocking.mono (by decide : 4 ≤ 4)) (fun_mk (st := s_blocking_pairs) l_blocking_pairs c_blocking_pairs k_blocking_pairs) (PySem.W.mg_of X G a_blocking_pairs)
  have G_blocks : Fn l.prog w K mg base 5 "blocks" s_blocks ["hall", "wishes", "dealing", "value"] sp_blocks := fn_blocks (k := 4) m_isinstance m_len m_tuple (G_is_index.mono (by decide : 2 ≤ 4)) (G_people_in.mono (by decide : 1 ≤ 4)) (G_is_blocking.mono (by decide : 4 ≤ 4)) (fun_mk (st := s_blocks) l_blocks c_blocks k_blocks) (PySem.W.mg_of X G a_blocks)
  have G_law_draw : Fn l.prog w K mg base 1 "_law_draw" s_law_draw ["script", "salt"] sp_law_draw := fn_law_draw (k := 0) m_abs m_int  (fun_mk (st := s_law_draw) l_law_draw c_law_draw k_law_draw) (PySem.W.mg_of X G a_law_draw)
  have G_law_any : Fn l.prog w K mg base 1 "_law_any" s_law_any ["deal", "bound"] sp_law_any := fn_law_any (k := 0) m_int  (fun_mk (st := s_law_any) l_law_any c_law_any k_law_any) (PySem.W.mg_of X G a_law_any)
  have G_law_of : Fn l.prog w K mg base 2 "_law_of" s_law_of ["deal", "some"] sp_law_of := fn_law_of (k := 1) m_len (G_law_any.mono (by decide : 1 ≤ 1)) (fun_mk (st := s_law_of) l_law_of c_law_of k_law_of) (PySem.W.mg_of X G a_law_of)
  have G_law_mixed : Fn l.prog w K mg base 2 "_law_mixed" s_law_mixed ["deal", "some"] sp_law_mixed := fn_law_mixed (k := 1) m_len m_list (G_law_any.mono (by decide : 1 ≤ 1)) (fun_mk (st := s_law_mixed) l_law_mixed c_law_mixed k_law_mixed) (PySem.W.mg_of X G a_law_mixed)
  have G_law_same : Fn l.prog w K mg base 12 "_law_same" s_law_same ["value", "due"] sp_law_same := fn_law_same (k := 0) m_bool m_int m_isinstance m_len m_str m_tuple m_zip  (fun_mk (st := s_law_same) l_law_same c_law_same k_law_same) (PySem.W.mg_of X G a_law_same) 12
  have G_law_order : Fn l.prog w K mg base 3 "_law_order" s_law_order ["deal", "many", "like"] sp_law_order := fn_law_order (k := 2) m_len m_list m_max m_min m_range m_tuple (G_law_any.mono (by decide : 1 ≤ 2)) (G_law_mixed.mono (by decide : 2 ≤ 2)) (G_law_of.mono (by decide : 2 ≤ 2)) (fun_mk (st := s_law_order) l_law_order c_law_order k_law_order) (PySem.W.mg_of X G a_law_order)
  have G_law_hall : Fn l.prog w K mg base 4 "_law_hall" s_law_hall ["deal", "people", "places", "seats"] sp_law_hall := fn_law_hall (k := 3) m_range m_tuple (G_law_any.mono (by decide : 1 ≤ 3)) (G_law_order.mono (by decide : 3 ≤ 3)) (fun_mk (st := s_law_hall) l_law_hall c_law_hall k_law_hall) (PySem.W.mg_of X G a_law_hall)
  have G_law_list : Fn l.prog w K mg base 3 "_law_list" s_law_list ["deal", "places", "like"] sp_law_list := fn_law_list (k := 2) m_list m_range m_tuple (G_law_any.mono (by decide : 1 ≤ 2)) (G_law_mixed.mono (by decide : 2 ≤ 2)) (fun_mk (st := s_law_list) l_law_list c_law_list k_law_list) (PySem.W.mg_of X G a_law_list)
  have G_law_wishes : Fn l.prog w K mg base 4 "_law_wishes" s_law_wishes ["deal", "hall"] sp_law_wishes := fn_law_wishes (k := 3) m_len m_list m_range m_tuple (G_law_any.mono (by decide : 1 ≤ 3)) (G_law_mixed.mono (by decide : 2 ≤ 3)) (G_law_list.mono (by decide : 3 ≤ 3)) (fun_mk (st := s_law_wishes) l_law_wishes c_law_wishes k_law_wishes) (PySem.W.mg_of X G a_law_wishes)
  have G_law_spot : Fn l.prog w K mg base 1 "_law_spot" s_law_spot ["wished", "x"] sp_law_spot := fn_law_spot (k := 0) m_len  (fun_mk (st := s_law_spot) l_law_spot c_law_spot k_law_spot) (PySem.W.mg_of X G a_law_spot)
  have G_law_at : Fn l.prog w K mg base 1 "_law_at" s_law_at ["dealing", "place"] sp_law_at := fn_law_at (k := 0) m_enumerate  (fun_mk (st := s_law_at) l_law_at c_law_at k_law_at) (PySem.W.mg_of X G a_law_at)
  have G_law_pairs : Fn l.prog w K mg base 2 "_law_pairs" s_law_pairs ["hall", "wishes", "dealing"] sp_law_pairs := fn_law_pairs (k := 1) m_enumerate m_len m_sorted (G_law_spot.mono (by decide : 1 ≤ 1)) (G_law_at.mono (by decide : 1 ≤ 1)) (fun_mk (st := s_law_pairs) l_law_pairs c_law_pairs k_law_pairs) (PySem.W.mg_of X G a_law_pairs)
  have G_law_offers : Fn l.prog w K mg base 2 "_law_offers" s_law_offers ["hall", "wishes"] sp_law_offers := fn_law_offers (k := 1) m_len m_list m_range m_tuple (G_law_at.mono (by decide : 1 ≤ 1)) (fun_mk (st := s_law_offers) l_law_offers c_law_offers k_law_offers) (PySem.W.mg_of X G a_law_offers)
  have G_law_dealing : Fn l.prog w K mg base 3 "_law_dealing" s_law_dealing ["deal", "hall", "wishes"] sp_law_dealing := fn_law_dealing (k := 2) m_len m_list m_range m_tuple (G_law_any.mono (by decide : 1 ≤ 2)) (G_law_offers.mono (by decide : 2 ≤ 2)) (G_law_of.mono (by decide : 2 ≤ 2)) (G_law_at.mono (by decide : 1 ≤ 2)) (fun_mk (st := s_law_dealing) l_law_dealing c_law_dealing k_law_dealing) (PySem.W.mg_of X G a_law_dealing)
  exact dl_fn (k := 12) (fun_mk (st := s_law) l_law c_law k_law) sc_law (rd_law sp_law_draw sp_law_of sp_law_hall sp_law_wishes sp_law_dealing sp_law_pairs sp_law_same sp_blocking_pairs sp_law_any sp_blocks) fun cdv A outer s H E B W hr tk => ds_law m_bool m_isinstance m_len m_list m_range m_str m_tuple (G_law_draw.mono (by decide : 1 ≤ 12)) (G_law_of.mono (by decide : 2 ≤ 12)) (G_law_hall.mono (by decide : 4 ≤ 12)) (G_law_wishes.mono (by decide : 4 ≤ 12)) (G_law_dealing.mono (by decide : 3 ≤ 12)) (G_law_pairs.mono (by decide : 2 ≤ 12)) (G_law_same.mono (by decide : 12 ≤ 12)) (G_blocking_pairs.mono (by decide : 5 ≤ 12)) (G_law_any.mono (by decide : 1 ≤ 12)) (G_blocks.mono (by decide : 5 ≤ 12)) _ cdv A outer s H E B W hr tk
end LW
open PySem PySem.W PyProof.Rows
set_option maxHeartbeats 0 in
theorem PySem.Challenge.cw_seatedwell_k04_whole_pairs_that_block_holds : PySem.Challenge.rw_seatedwell_k04_whole_pairs_that_block.Holds := by
  w_on; o_law; k_head; (case hw => w_witness2)
  k_fill
  refine L2.walk_of (l := PySem.Challenge.rw_seatedwell_k04_whole_pairs_that_block) (n := 63) (k := LW.LV) (x := "script") (CX := fun w => L2.CX PySem.Challenge.pw_seatedwell_k04_whole_pairs_that_block w) (sp := fun w => DL.spUp _ 1 LW.sp_law) rfl (by decide) rfl ⟨rfl, by decide, by decide⟩ (fun w h Y => PySem.W.kIn_of Y) ?F (fun _ _ a ns hl _ hS => DL.law_sp hS (LW.law_plain ns hl)) (fun _ _ _ _ _ h => DL.cx_false h)
  case F =>
    intro w mg fa h KX G hmg
    refine' LW.all_mk KX G hmg ?a_is_integer ?l_is_integer ?c_is_integer ?k_is_integer ?a_is_index ?l_is_index ?c_is_index ?k_is_index ?a_people_in ?l_people_in ?c_people_in ?k_people_in ?a_rank ?l_rank ?c_rank ?k_rank ?a_is_ahead ?l_is_ahead ?c_is_ahead ?k_is_ahead ?a_those_at ?l_those_at ?c_those_at ?k_those_at ?a_place_in_list ?l_place_in_list ?c_place_in_list ?k_place_in_list ?a_likes_better ?l_likes_better ?c_likes_better ?k_likes_better ?a_would_enter ?l_would_enter ?c_would_enter ?k_would_enter ?a_is_blocking ?l_is_blocking ?c_is_blocking ?k_is_blocking ?a_blocking_pairs ?l_blocking_pairs ?c_blocking_pairs ?k_blocking_pairs ?a_blocks ?l_blocks ?c_blocks ?k_blocks ?a_law_draw ?l_law_draw ?c_law_draw ?k_law_draw ?a_law_any ?l_law_any ?c_law_any ?k_law_any ?a_law_of ?l_law_of ?c_law_of ?k_law_of ?a_law_mixed ?l_law_mixed ?c_law_mixed ?k_law_mixed ?a_law_same ?l_law_same ?c_law_same ?k_law_same ?a_law_order ?l_law_order ?c_law_order ?k_law_order ?a_law_hall ?l_law_hall ?c_law_hall ?k_law_hall ?a_law_list ?l_law_list ?c_law_list ?k_law_list ?a_law_wishes ?l_law_wishes ?c_law_wishes ?k_law_wishes ?a_law_spot ?l_law_spot ?c_law_spot ?k_law_spot ?a_law_at ?l_law_at ?c_law_at ?k_law_at ?a_law_pairs ?l_law_pairs ?c_law_pairs ?k_law_pairs ?a_law_offers ?l_law_offers ?c_law_offers ?k_law_offers ?a_law_dealing ?l_law_dealing ?c_law_dealing ?k_law_dealing ?a_law ?l_law ?c_law ?k_law ?z_abs ?z_any ?z_bool ?z_enumerate ?z_int ?z_isinstance ?z_len ?z_list ?z_max ?z_min ?z_range ?z_sorted ?z_str ?z_tuple ?z_zip
    (case a_is_integer => k_is); (case l_is_integer => k_is); (case c_is_integer => k_is); (case k_is_integer => k_is); (case a_is_index => k_is); (case l_is_index => k_is); (case c_is_index => k_is); (case k_is_index => k_is); (case a_people_in => k_is); (case l_people_in => k_is); (case c_people_in => k_is); (case k_people_in => k_is); (case a_rank => k_is); (case l_rank => k_is); (case c_rank => k_is); (case k_rank => k_is); (case a_is_ahead => k_is); (case l_is_ahead => k_is); (case c_is_ahead => k_is); (case k_is_ahead => k_is); (case a_those_at => k_is); (case l_those_at => k_is); (case c_those_at => k_is); (case k_those_at => k_is); (case a_place_in_list => k_is); (case l_place_in_list => k_is); (case c_place_in_list => k_is); (case k_place_in_list => k_is); (case a_likes_better => k_is); (case l_likes_better => k_is); (case c_likes_better => k_is); (case k_likes_better => k_is); (case a_would_enter => k_is); (case l_would_enter => k_is); (case c_would_enter => k_is); (case k_would_enter => k_is); (case a_is_blocking => k_is); (case l_is_blocking => k_is); (case c_is_blocking => k_is); (case k_is_blocking => k_is); (case a_blocking_pairs => k_is); (case l_blocking_pairs => k_is); (case c_blocking_pairs => k_is); (case k_blocking_pairs => k_is); (case a_blocks => k_is); (case l_blocks => k_is); (case c_blocks => k_is); (case k_blocks => k_is); (case a_law_draw => k_is); (case l_law_draw => k_is); (case c_law_draw => k_is); (case k_law_draw => k_is); (case a_law_any => k_is); (case l_law_any => k_is); (case c_law_any => k_is); (case k_law_any => k_is); (case a_law_of => k_is); (case l_law_of => k_is); (case c_law_of => k_is); (case k_law_of => k_is); (case a_law_mixed => k_is); (case l_law_mixed => k_is); (case c_law_mixed => k_is); (case k_law_mixed => k_is); (case a_law_same => k_is); (case l_law_same => k_is); (case c_law_same => k_is); (case k_law_same => k_is); (case a_law_order => k_is); (case l_law_order => k_is); (case c_law_order => k_is); (case k_law_order => k_is); (case a_law_hall => k_is); (case l_law_hall => k_is); (case c_law_hall => k_is); (case k_law_hall => k_is); (case a_law_list => k_is); (case l_law_list => k_is); (case c_law_list => k_is); (case k_law_list => k_is); (case a_law_wishes => k_is); (case l_law_wishes => k_is); (case c_law_wishes => k_is); (case k_law_wishes => k_is); (case a_law_spot => k_is); (case l_law_spot => k_is); (case c_law_spot => k_is); (case k_law_spot => k_is); (case a_law_at => k_is); (case l_law_at => k_is); (case c_law_at => k_is); (case k_law_at => k_is); (case a_law_pairs => k_is); (case l_law_pairs => k_is); (case c_law_pairs => k_is); (case k_law_pairs => k_is); (case a_law_offers => k_is); (case l_law_offers => k_is); (case c_law_offers => k_is); (case k_law_offers => k_is); (case a_law_dealing => k_is); (case l_law_dealing => k_is); (case c_law_dealing => k_is); (case k_law_dealing => k_is); (case a_law => k_is); (case l_law => k_is); (case c_law => k_is); (case k_law => k_is); (case z_abs => k_is); (case z_any => k_is); (case z_bool => k_is); (case z_enumerate => k_is); (case z_int => k_is); (case z_isinstance => k_is); (case z_len => k_is); (case z_list => k_is); (case z_max => k_is); (case z_min => k_is); (case z_range => k_is); (case z_sorted => k_is); (case z_str => k_is); (case z_tuple => k_is); (case z_zip => k_is)
